import PyProof.Rows.All
import HandS.DictTup
import HandS.TupLen
import KE.KDictWalk
import KE.KDictCopyH
import KE.KDictOf
import HandS.Style
import HandS.SortInts
import HandS.TryMany
import HandS.CallSlots
import KE.KDictSum
import KE.KDictKeyed
import KE.KeyNested
import HandS.TupAny
import KE.DatumOrd
import HandS.SortKw
import KE.IntTextText
import HandS.TryOnly
import HandS.Head0
import HandS.Head1
import HandS.Head2
import HandS.HeadEnd
import HandS.HeadHook1
import HandS.HeadHook2
import Wide.All
import OpenK.AllK
import Wide.FinOn
import PySem.Challenge.RW_postmead_k07_letters_written
import HandS.ForMost
import HandS.ForExc
import HandS.IsInst
import HandS.Deep
import HandS.Codes
import HandS.SortRule
import HandS.Wide
import HandS.ExcIs
import HandS.TupLe
set_option exponentiation.threshold 2000
set_option Elab.async false
set_option linter.all false
set_option maxRecDepth 100000
set_option maxHeartbeats 4000000
namespace Pm
open PySem PySem.Spec PyProof.Rows L2
theorem size_ok {n : Nat} (h : n ≤ 16777216) : n ≤ sizeLine := by rw [sizeLine_eq]; exact h
theorem size_lt {n : Nat} (h : n < 16777216) : n < sizeLine := by rw [sizeLine_eq]; exact h
section
variable {X : Cx} {K : PySem.W.Frag}
theorem ix_listK (e : X.K = K := by rfl) : IxR X (rIxL K) := e ▸ ix_list
theorem ix_tupK (e : X.K = K := by rfl) : IxR X (rIxT K) := e ▸ ix_tup
theorem sl_listK (e : X.K = K := by rfl) : SlR X (rSlL K) := e ▸ sl_list
theorem op_eqDK (hu : X.A.units + 64 < cLine) (e : X.K = K := by rfl) : OpR X (compareOp .Eq) (rEqD K) := e ▸ op_eqD hu
theorem op_neDK (hu : X.A.units + 64 < cLine) (e : X.K = K := by rfl) : OpR X (compareOp .NotEq) (rNeD K) := e ▸ op_neD hu
theorem op_inDK (hu : X.A.units + 65 < cLine) (e : X.K = K := by rfl) : OpR X (compareOp .In) (rInD K) := e ▸ op_inD hu
theorem cr_sortK (e : X.K = K := by rfl) : CallR X (.builtin "sorted") (rSortedPO K) := e ▸ cr_sortedPO
theorem call_isK (e : X.K = K := by rfl) : CallR X (.builtin "isinstance") (rIsi K) := e ▸ call_isi
theorem k_bm {ex : Expr} {T : String} {r : V → List V → Hp → VK → Prop} {to : TE} {t : TA} (h : PE X ex (tBM X.K T r to t)) (e : X.K = K := by rfl) : PE X ex (tBM K T r to t) := e ▸ h
theorem k_bm0 {ex : Expr} {T : String} {r : V → List V → Hp → VK → Prop} {to : TE} (h : PE X ex (tBM0 X.K T r to)) (e : X.K = K := by rfl) : PE X ex (tBM0 K T r to) := e ▸ h
theorem k_il {tg ex : Expr} {te : TE} (h : PI X tg ex (iList X.K te)) (e : X.K = K := by rfl) : PI X tg ex (iList K te) := e ▸ h
theorem k_it {tg ex : Expr} {te : TE} (h : PI X tg ex (iTup X.K te)) (e : X.K = K := by rfl) : PI X tg ex (iTup K te) := e ▸ h
theorem k_gt {tg : Expr} {n : Nat} {t : TGs} (h : PG X tg (gTup X.K n t)) (e : X.K = K := by rfl) : PG X tg (gTup K n t) := e ▸ h
end
/-- a op1 b op2 c op3 d -/
def tChain3 (r r' r'' : R2) (ta tb tc td : TE) : TE := fun σ H Q => ta σ H fun x H1 => tb σ H1 fun y H2 => r x y H2 fun z H3 => ∃ k, z = .bl k ∧
  (if k = true then tc σ H3 fun w' H4 => r' y w' H4 fun z' H5 => ∃ k', z' = .bl k' ∧ (if k' = true then td σ H5 fun v' H6 => r'' w' v' H6 Q else Q (.bl false) H5) else Q (.bl false) H3)
def rAbs : List V → Hp → VK → Prop := fun xs H Q => ∃ i, xs = [.int i] ∧ Q (.int (if i < 0 then -i else i)) H
theorem c_abs {X : Cx} : CallR X (.builtin "abs") rAbs := call_abs
def rMax2 : List V → Hp → VK → Prop := fun xs H Q => ∃ i j, xs = [.int i, .int j] ∧ Q (.int (if j > i then j else i)) H
theorem c_max {X : Cx} (hc : X.calm = true) : CallR X (.builtin "max") rMax2 := call_max2 hc
def rMin2 : List V → Hp → VK → Prop := fun xs H Q => ∃ i j, xs = [.int i, .int j] ∧ Q (.int (if j < i then j else i)) H
theorem c_min {X : Cx} (hc : X.calm = true) : CallR X (.builtin "min") rMin2 := call_min2 hc
def rLen (K : PySem.W.Frag) : List V → Hp → VK → Prop := fun xs H Q => ∃ p ys, xs = [.ref p] ∧ (SqL K H p ys ∨ SqT K H p ys) ∧ Q (.int ys.length) H
theorem c_len {X : Cx} {K : PySem.W.Frag} (e : X.K = K := by rfl) : CallR X (.builtin "len") (rLen K) := e ▸ call_len_seq
def rLenS : List V → Hp → VK → Prop := fun xs H Q => ∃ z : Str, xs = [.str z] ∧ z.length ≤ sizeLine ∧ Q (.int z.length) H
theorem c_lenS {X : Cx} : CallR X (.builtin "len") rLenS := call_len_str
def rInt1 : List V → Hp → VK → Prop := fun xs H Q => (∃ i, xs = [.int i] ∧ Q (.int i) H) ∨ ∃ k, xs = [.bl k] ∧ Q (.int (if k then 1 else 0)) H
theorem c_int1 {X : Cx} : CallR X (.type "int") rInt1 := call_int1
def rListOf (K : PySem.W.Frag) : List V → Hp → VK → Prop := fun xs H Q => ∃ p ys, xs = [.ref p] ∧ (SqL K H p ys ∨ SqT K H p ys) ∧ ∀ l, H l = none → Q (.ref l) (upd H l (.lst ys))
theorem c_listOf {X : Cx} {K : PySem.W.Frag} (e : X.K = K := by rfl) : CallR X (.type "list") (rListOf K) := e ▸ call_list_of
def rTupOf (K : PySem.W.Frag) : List V → Hp → VK → Prop := fun xs H Q => ∃ p ys, xs = [.ref p] ∧ ((SqL K H p ys ∧ ∀ l, H l = none → Q (.ref l) (upd H l (.tup ys))) ∨ (SqT K H p ys ∧ Q (.ref p) H))
theorem c_tupOf {X : Cx} {K : PySem.W.Frag} (e : X.K = K := by rfl) : CallR X (.type "tuple") (rTupOf K) := e ▸ call_tuple_of
def rCatS : R2 := fun x y H Q => ∃ i j, x = .str i ∧ y = .str j ∧ i.length + j.length ≤ sizeLine ∧ Q (.str (i ++ j)) H
theorem o_catS {X : Cx} : OpR X (binaryOp .Add) rCatS := op_add_str
def TupK (Q : VK) : List V → Hp → Prop := fun xs H1 => xs.length ≤ sizeLine ∧ ∀ p, H1 p = none → Q (.ref p) (upd H1 p (.tup xs))
def LstK (Q : VK) : List V → Hp → Prop := fun xs H1 => xs.length ≤ sizeLine ∧ ∀ p, H1 p = none → Q (.ref p) (upd H1 p (.lst xs))
/-- isinstance(e, c) of the exception at a that an except suite holds (its class cls, its dict d) -/
def rIsX (K : PySem.W.Frag) (cls : Value) (d : Option Addr) (a : Addr) : List V → Hp → VK → Prop := fun xs H Q => ∃ (D : Addr) (c : V) (cv : Value) (b : Bool), cls = .ref D ∧ d = none ∧ ExcC K D ∧ xs = [.ref a, c] ∧ (∀ u, RelV c u → u = cv) ∧ PySem.W.kitOne K (.ref D) cv = some b ∧ Q (.bl b) H
theorem c_isX {X : Cx} {K : PySem.W.Frag} {a : Addr} {oe : Obj} {cls : Value} {d : Option Addr} {pn : List (Addr × Obj)} (hz : Zc cls d oe) (hf : ∃ vs, oe.data = .fields vs) (e : X.K = K := by rfl) : CallR (X.suite a ((a, oe) :: pn)) (.builtin "isinstance") (rIsX K cls d a) := by
  subst e
  intro pins s σ H xs us Q I r h
  obtain ⟨D, c, cv, b, rfl, rfl, C, ex, hc, k, q⟩ := h
  exact call_isE C hz hf pins s σ H xs us Q I r ⟨c, cv, b, ex, hc, k, q⟩
/-- what is asked of a for's body, once what is walked is there -/
def ForB (g : TG) (t : TS) (nx : L2.St → Hp → Prop) (rt : VK) (σ : L2.St) : It → Hp → Prop := fun J H1 => ∃ W : Nat → Nat → L2.St → Hp → Prop, (∃ m, W 0 m σ H1) ∧ ∀ i m σ H, W i m σ H →
  (J.stop i H ∧ nx σ H) ∨ (J.go i H ∧ ∃ N : L2.St → Hp → Prop, (∀ σ' H', N σ' H' → ∃ m', m' < m ∧ W (i + 1) m' σ' H') ∧ ∀ x H', J.yld i H x H' → g x σ H' fun σ2 H2 => t ⟨N, rt, nx, N⟩ σ2 H2)
def WhB (t : TS) (nx : L2.St → Hp → Prop) (rt : VK) (Pv : Nat → L2.St → Hp → Prop) (m : Nat) (σ : L2.St) : Bool → Hp → Prop := fun b H1 => if b = true then ∃ N : L2.St → Hp → Prop, (∀ σ' H', N σ' H' → ∃ m', m' < m ∧ Pv m' σ' H') ∧ t ⟨N, rt, nx, N⟩ σ H1 else nx σ H1
def ParK (i j : Nat) (nx : L2.St → Hp → Prop) (σ : L2.St) : List V → Hp → Prop := fun vs H1 => ∃ v w, vs = [v, w] ∧ nx ((σ.set i (some v)).set j (some w)) H1
def PartK (O : Option Int → Hp → Prop) : VK := fun x H1 => ∃ i, x = .int i ∧ O (some i) H1
def DPK (nx : L2.St → Hp → Prop) (σ : L2.St) (v x : V) : VK := fun y H3 => ∃ a H4, x = .ref a ∧ DPut H3 a y v H4 ∧ nx σ H4
def DInK (y : V) (Q : VK) : VK := fun x H2 => ∃ a o, x = .ref a ∧ DGet H2 a y o ∧ Q (.bl o.isSome) H2
def DNotInK (y : V) (Q : VK) : VK := fun x H2 => ∃ a o, x = .ref a ∧ DGet H2 a y o ∧ Q (.bl (!o.isSome)) H2
def DGK (x : V) (Q : VK) : VK := fun y H2 => ∃ a v, x = .ref a ∧ DGet H2 a y (some v) ∧ Q v H2
def RdL (K : PySem.W.Frag) (R : It → Hp → Prop) : VK := fun x H1 => ∃ a, x = .ref a ∧ (∃ xs, SqL K H1 a xs) ∧ R (Itl K a) H1
def RdT (K : PySem.W.Frag) (R : It → Hp → Prop) : VK := fun x H1 => ∃ a, x = .ref a ∧ (∃ xs, SqT K H1 a xs) ∧ R (Itt K a) H1
def Rg1 (R : It → Hp → Prop) : List V → Hp → Prop := fun vs H1 => ∃ j : Int, vs = [.int j] ∧ -(2 ^ 62) ≤ j ∧ j < 2 ^ 62 ∧ R (Itr 0 j.toNat) H1
def Rg2 (R : It → Hp → Prop) : List V → Hp → Prop := fun vs H1 => ∃ i j : Int, vs = [.int i, .int j] ∧ (-(2 ^ 62) ≤ i ∧ i < 2 ^ 62 ∧ -(2 ^ 62) ≤ j ∧ j < 2 ^ 62) ∧ R (Itr i (j - i).toNat) H1
/-- what is asked of a list comprehension, once what is walked is there -/
def LcB (g : TG) (tt : TT) (te : TE) (vs : List Nat) (σ : L2.St) (Q : VK) : It → Hp → Prop := fun J H1 => ∀ D, H1 D = none → ∃ W : Nat → Nat → Hp → Prop, (∃ m, W 0 m (upd H1 D (.lst []))) ∧ ∀ i m H, W i m H →
  (J.stop i H ∧ Q (.ref D) H) ∨ (J.go i H ∧ ∃ Nx : Hp → Prop, (∀ H', Nx H' → ∃ m', m' < m ∧ W (i + 1) m' H') ∧ ∀ x H', J.yld i H x H' → g x (wipe σ vs) H' fun σ2 H2 => wipe σ2 vs = wipe σ vs ∧ tt σ2 H2 fun b H3 =>
    if b = true then te σ2 H3 fun y H4 => ∃ acc, H4 D = some (.lst acc) ∧ acc.length < sizeLine ∧ Nx (upd H4 D (.lst (acc ++ [y]))) else Nx H3)
/-- a turn of a comprehension: the item put behind the list at D -/
def LcPut (D : Addr) (Nx : Hp → Prop) : VK := fun y H4 => ∃ acc, H4 D = some (.lst acc) ∧ acc.length < sizeLine ∧ Nx (upd H4 D (.lst (acc ++ [y])))
def LcTurn (tt : TT) (te : TE) (vs : List Nat) (σ : L2.St) (D : Addr) (Nx : Hp → Prop) : L2.St → Hp → Prop := fun σ2 H2 => wipe σ2 vs = wipe σ vs ∧ tt σ2 H2 fun b H3 => if b = true then te σ2 H3 (LcPut D Nx) else Nx H3
section
variable {nx bk ct : L2.St → Hp → Prop} {rt : VK} {σ : L2.St} {H : Hp} {t u : TS} {te ta tb tc : TE} {g : TG} {Q : VK} {B : Bool → Hp → Prop} {c c' : TT} {L : List V → Hp → Prop}
theorem w_seq (h : t ⟨u ⟨nx, rt, bk, ct⟩, rt, bk, ct⟩ σ H) : tSeq t u ⟨nx, rt, bk, ct⟩ σ H := h
theorem w_cut (Mid : L2.St → Hp → Prop) (h : t ⟨Mid, rt, bk, ct⟩ σ H) (h2 : ∀ σ' H', Mid σ' H' → u ⟨nx, rt, bk, ct⟩ σ' H') : C8.tCut t u ⟨nx, rt, bk, ct⟩ σ H := ⟨Mid, h, h2⟩
theorem w_asg (h : te σ H fun x H1 => g x σ H1 nx) : tAsg te g ⟨nx, rt, bk, ct⟩ σ H := h
theorem w_drop (h : te σ H fun _ H1 => nx σ H1) : tDrop te ⟨nx, rt, bk, ct⟩ σ H := h
theorem w_ret (h : te σ H rt) : tRet te ⟨nx, rt, bk, ct⟩ σ H := h
theorem w_retN (h : rt .non H) : tRetN ⟨nx, rt, bk, ct⟩ σ H := h
theorem w_next (h : nx σ H) : tNext ⟨nx, rt, bk, ct⟩ σ H := h
theorem w_brk (h : bk σ H) : tBreak ⟨nx, rt, bk, ct⟩ σ H := h
theorem w_cont (h : ct σ H) : tCont ⟨nx, rt, bk, ct⟩ σ H := h
theorem w_if (h : c σ H fun b H1 => if b = true then t ⟨nx, rt, bk, ct⟩ σ H1 else u ⟨nx, rt, bk, ct⟩ σ H1) : tIfS c t u ⟨nx, rt, bk, ct⟩ σ H := h
theorem w_par {i j : Nat} {t : TA} (h : t σ H (ParK i j nx σ)) : tPar i j t ⟨nx, rt, bk, ct⟩ σ H := h
theorem w_par2 {v w : V} {i j : Nat} (h : nx ((σ.set i (some v)).set j (some w)) H) : ParK i j nx σ [v, w] H := ⟨v, w, rfl, h⟩
theorem w_gname {v : V} {i : Nat} {R : L2.St → Hp → Prop} (h : R (σ.set i (some v)) H) : gName i v σ H R := h
theorem w_gtup {K : PySem.W.Frag} {n : Nat} {t : TGs} {a : Addr} {xs : List V} {R : L2.St → Hp → Prop} (hl : SqT K H a xs) (e : xs.length = n) (h : t xs σ H R) : gTup K n t (.ref a) σ H R := ⟨a, xs, rfl, hl, e, h⟩
theorem w_gcons {t : TG} {u : TGs} {v : V} {r : List V} {R : L2.St → Hp → Prop} (h : t v σ H fun σ' H' => u r σ' H' R) : gCons t u (v :: r) σ H R := ⟨v, r, rfl, h⟩
theorem w_gnil {R : L2.St → Hp → Prop} (h : R σ H) : gNil [] σ H R := ⟨rfl, h⟩
theorem w_gsub {to ti : TE} {t : TSet} {v : V} {R : L2.St → Hp → Prop} (h : to σ H fun o H1 => ti σ H1 fun i H2 => t o i v H2 fun H3 => R σ H3) : gSub to ti t v σ H R := h
theorem w_var {i : Nat} {v : V} (e : σ[i]? = some (some v)) (h : Q v H) : tVar i σ H Q := ⟨v, e, h⟩
theorem w_c {v : V} (h : Q v H) : tC v σ H Q := h
theorem w_op {r : R2} (h : ta σ H fun x H1 => tb σ H1 fun y H2 => r x y H2 Q) : tOp r ta tb σ H Q := h
theorem w_un {r : V → Hp → VK → Prop} (h : ta σ H fun x H1 => r x H1 Q) : tUn r ta σ H Q := h
theorem w_i0 {k : Int → Int → V} {i j : Int} (h : Q (k i j) H) : rI0 k (.int i) (.int j) H Q := ⟨i, j, rfl, rfl, h⟩
theorem w_i {C : Int → Int → Prop} {k : Int → Int → V} {i j : Int} (hc : C i j) (h : Q (k i j) H) : rI C k (.int i) (.int j) H Q := ⟨i, j, rfl, rfl, hc, h⟩
theorem w_u {k : Int → V} {i : Int} (h : Q (k i) H) : rU k (.int i) H Q := ⟨i, rfl, h⟩
theorem w_eqi {i j : Int} (h : Q (.bl (decide (i = j))) H) : rEq (.int i) (.int j) H Q := by
  refine ⟨rfl, ?_⟩
  have e : decide (V.int i = V.int j) = decide (i = j) := by simp
  rw [e]; exact h
theorem w_nei {i j : Int} (h : Q (.bl (!decide (i = j))) H) : rNe (.int i) (.int j) H Q := by
  refine ⟨rfl, ?_⟩
  have e : decide (V.int i = V.int j) = decide (i = j) := by simp
  rw [e]; exact h
theorem w_eqb {i j : Bool} (h : Q (.bl (i == j)) H) : rEq (.bl i) (.bl j) H Q := by
  refine ⟨rfl, ?_⟩
  have e : decide (V.bl i = V.bl j) = (i == j) := by cases i <;> cases j <;> rfl
  rw [e]; exact h
theorem w_neb {i j : Bool} (h : Q (.bl (!(i == j))) H) : rNe (.bl i) (.bl j) H Q := by
  refine ⟨rfl, ?_⟩
  have e : decide (V.bl i = V.bl j) = (i == j) := by cases i <;> cases j <;> rfl
  rw [e]; exact h
theorem w_eqs {i j : Str} (h : Q (.bl (decide (i = j))) H) : rEq (.str i) (.str j) H Q := by
  refine ⟨rfl, ?_⟩
  have e : decide (V.str i = V.str j) = decide (i = j) := by simp
  rw [e]; exact h
theorem w_cb {r : List V → Hp → VK → Prop} {t : TA} (h : t σ H fun vs H1 => r vs H1 Q) : tCB r t σ H Q := h
theorem w_nil (h : L [] H) : tNil σ H L := h
theorem w_cons {t : TA} (h : ta σ H fun x H1 => t σ H1 fun xs H2 => L (x :: xs) H2) : tCons ta t σ H L := h
theorem w_call {sp : Sp} {E : XK} {t : TA} (h : t σ H fun vs H1 => sp (vs ++ []) H1 Q E) : tCall sp [] E t σ H Q := h
theorem w_tup {t : TA} (h : t σ H (TupK Q)) : tTup t σ H Q := h
theorem w_lst {t : TA} (h : t σ H (LstK Q)) : tLst t σ H Q := h
theorem w_newT {xs : List V} (h : ∀ p, H p = none → Q (.ref p) (upd H p (.tup xs))) (hz : xs.length ≤ sizeLine := by exact Pm.size_ok (Nat.le_of_ble_eq_true rfl)) : TupK Q xs H := ⟨hz, h⟩
theorem w_newL {xs : List V} (h : ∀ p, H p = none → Q (.ref p) (upd H p (.lst xs))) (hz : xs.length ≤ sizeLine := by exact Pm.size_ok (Nat.le_of_ble_eq_true rfl)) : LstK Q xs H := ⟨hz, h⟩
theorem w_test (h : te σ H fun x H' => ∃ k, x = .bl k ∧ B k H') : tTest te σ H B := h
theorem w_b (h : te σ H fun x H' => ∃ k, x = .bl k ∧ B k H') : tB te σ H B := h
theorem w_bl {k : Bool} (h : B k H) : ∃ k', V.bl k = .bl k' ∧ B k' H := ⟨k, rfl, h⟩
theorem w_and (h : c σ H fun b H1 => if b = true then c' σ H1 B else B false H1) : tAnd c c' σ H B := h
theorem w_or (h : c σ H fun b H1 => if b = true then B true H1 else c' σ H1 B) : tOr c c' σ H B := h
theorem w_not (h : c σ H fun b H1 => B (!b) H1) : tNot c σ H B := h
theorem w_andV (h : ta σ H fun x H1 => ∃ k, x = .bl k ∧ if k = true then tb σ H1 Q else Q (.bl false) H1) : tAndV ta tb σ H Q := h
theorem w_orV (h : ta σ H fun x H1 => ∃ k, x = .bl k ∧ if k = true then Q (.bl true) H1 else tb σ H1 Q) : tOrV ta tb σ H Q := h
theorem w_notV (h : ta σ H fun x H1 => ∃ k, x = .bl k ∧ Q (.bl (!k)) H1) : tNotV ta σ H Q := h
theorem w_ifE (h : c σ H fun b H1 => if b = true then ta σ H1 Q else tb σ H1 Q) : tIf c ta tb σ H Q := h
theorem w_chain {r r' : R2} (h : ta σ H fun x H1 => tb σ H1 fun y H2 => r x y H2 fun z H3 => ∃ k, z = .bl k ∧ (if k = true then tc σ H3 fun w H4 => r' y w H4 Q else Q (.bl false) H3)) : tChain r r' ta tb tc σ H Q := h
theorem w_chain3 {r r' r'' : R2} {td : TE} (h : ta σ H fun x H1 => tb σ H1 fun y H2 => r x y H2 fun z H3 => ∃ k, z = .bl k ∧
  (if k = true then tc σ H3 fun w' H4 => r' y w' H4 fun z' H5 => ∃ k', z' = .bl k' ∧ (if k' = true then td σ H5 fun v' H6 => r'' w' v' H6 Q else Q (.bl false) H5) else Q (.bl false) H3)) : tChain3 r r' r'' ta tb tc td σ H Q := h
theorem w_blx {k : Bool} {R : Bool → Prop} (h : R k) : ∃ k', V.bl k = .bl k' ∧ R k' := ⟨k, rfl, h⟩
theorem w_iteT {A C : Prop} (h : A) : if true = true then A else C := by rw [if_pos rfl]; exact h
theorem w_iteF {A C : Prop} (h : C) : if false = true then A else C := by rw [if_neg Bool.false_ne_true]; exact h
theorem w_iteN1 {A C : Prop} (h : C) : if (!true) = true then A else C := w_iteF h
theorem w_iteN0 {A C : Prop} (h : A) : if (!false) = true then A else C := w_iteT h
theorem w_ite {p A C : Prop} [Decidable p] (h1 : p → A) (h2 : ¬ p → C) : if decide p = true then A else C := by
  by_cases h : p
  · rw [decide_eq_true h, if_pos rfl]; exact h1 h
  · rw [decide_eq_false h, if_neg Bool.false_ne_true]; exact h2 h
theorem w_iteN {p A C : Prop} [Decidable p] (h1 : ¬ p → A) (h2 : p → C) : if (!decide p) = true then A else C := by
  by_cases h : p
  · rw [decide_eq_true h]; exact w_iteF (h2 h)
  · rw [decide_eq_false h]; exact w_iteT (h1 h)
theorem w_abs {i : Int} (h : Q (.int (if i < 0 then -i else i)) H) : rAbs [.int i] H Q := ⟨i, rfl, h⟩
theorem w_max {i j : Int} (h : Q (.int (max i j)) H) : rMax2 [V.int i, V.int j] H Q := by
  refine ⟨i, j, rfl, ?_⟩
  have e : (if j > i then j else i) = max i j := by rw [Int.max_def]; split <;> split <;> omega
  rw [e]; exact h
theorem w_min {i j : Int} (h : Q (.int (min i j)) H) : rMin2 [V.int i, V.int j] H Q := by
  refine ⟨i, j, rfl, ?_⟩
  have e : (if j < i then j else i) = min i j := by rw [Int.min_def]; split <;> split <;> omega
  rw [e]; exact h
theorem w_mul1 {i j : Int} (h : -(2 ^ 64) < i ∧ i < 2 ^ 64) : CMul i j := .inl h
theorem w_mul2 {i j : Int} (h : -(2 ^ 64) < j ∧ j < 2 ^ 64) : CMul i j := .inr h
theorem w_ixL {K : PySem.W.Frag} {p : Addr} {xs : List V} {i : Int} {v : V} (hl : SqL K H p xs) (e : atI xs i = some v) (h : Q v H) : rIxL K (.ref p) (.int i) H Q := ⟨p, xs, i, v, rfl, rfl, hl, e, h⟩
theorem w_ixT {K : PySem.W.Frag} {p : Addr} {xs : List V} {i : Int} {v : V} (hl : SqT K H p xs) (e : atI xs i = some v) (h : Q v H) : rIxT K (.ref p) (.int i) H Q := ⟨p, xs, i, v, rfl, rfl, hl, e, h⟩
theorem w_bm {K : PySem.W.Frag} {T : String} {r : V → List V → Hp → VK → Prop} {t : TA} (h : ta σ H fun x H1 => tyV K T x H1 ∧ t σ H1 fun xs H2 => r x xs H2 Q) : tBM K T r ta t σ H Q := h
theorem w_bm0 {K : PySem.W.Frag} {T : String} {r : V → List V → Hp → VK → Prop} (h : ta σ H fun x H1 => tyV K T x H1 ∧ r x [] H1 Q) : tBM0 K T r ta σ H Q := h
theorem w_append {l : Addr} {xs : List V} {y : V} (hl : H l = some (.lst xs)) (hz : xs.length < sizeLine) (h : Q .non (upd H l (.lst (xs ++ [y])))) : rAppend (.ref l) [y] H Q := ⟨l, xs, y, rfl, rfl, hl, hz, h⟩
theorem w_len {K : PySem.W.Frag} {p : Addr} {ys : List V} (hl : SqL K H p ys ∨ SqT K H p ys) (h : Q (.int ys.length) H) : rLen K [V.ref p] H Q := ⟨p, ys, rfl, hl, h⟩
theorem w_lenL {K : PySem.W.Frag} {p : Addr} {ys : List V} (hl : SqL K H p ys) (h : Q (.int ys.length) H) : rLen K [V.ref p] H Q := ⟨p, ys, rfl, .inl hl, h⟩
theorem w_lenT {K : PySem.W.Frag} {p : Addr} {ys : List V} (hl : SqT K H p ys) (h : Q (.int ys.length) H) : rLen K [V.ref p] H Q := ⟨p, ys, rfl, .inr hl, h⟩
theorem w_lenS {z : Str} (hl : z.length ≤ sizeLine) (h : Q (.int z.length) H) : rLenS [V.str z] H Q := ⟨z, rfl, hl, h⟩
theorem w_int1 {b : Bool} (h : Q (.int (if b then 1 else 0)) H) : rInt1 [.bl b] H Q := .inr ⟨b, rfl, h⟩
theorem w_listOf {K : PySem.W.Frag} {p : Addr} {ys : List V} (hl : SqL K H p ys) (h : ∀ l, H l = none → Q (.ref l) (upd H l (.lst ys))) : rListOf K [.ref p] H Q := ⟨p, ys, rfl, .inl hl, h⟩
theorem w_tupOf {K : PySem.W.Frag} {p : Addr} {ys : List V} (hl : SqL K H p ys) (h : ∀ l, H l = none → Q (.ref l) (upd H l (.tup ys))) : rTupOf K [.ref p] H Q := ⟨p, ys, rfl, .inl ⟨hl, h⟩⟩
theorem w_sl {r : V → Option Int → Option Int → Hp → VK → Prop} {tl th : TO} (h : te σ H fun x H1 => tl σ H1 fun l H2 => th σ H2 fun u H3 => r x l u H3 Q) : tSl r te tl th σ H Q := h
theorem w_noPart {O : Option Int → Hp → Prop} (h : O none H) : tNoPart σ H O := h
theorem w_part {O : Option Int → Hp → Prop} (h : te σ H (PartK O)) : tPart te σ H O := h
theorem w_partK {O : Option Int → Hp → Prop} {i : Int} (h : O (some i) H) : PartK O (.int i) H := ⟨i, rfl, h⟩
theorem w_slL {K : PySem.W.Frag} {a : Addr} {xs : List V} {lo hi : Option Int} (hl : SqL K H a xs) (h : ∀ p, H p = none → Q (.ref p) (upd H p (.lst (cutV xs lo hi)))) : rSlL K (.ref a) lo hi H Q := ⟨a, xs, rfl, hl, h⟩
theorem w_cat {l b : Addr} {xs zs : List V} (h1 : H l = some (.lst xs)) (h2 : H b = some (.lst zs)) (hz : xs.length + zs.length ≤ sizeLine) (h : ∀ p, H p = none → Q (.ref p) (upd H p (.lst (xs ++ zs)))) : rCat (.ref l) (.ref b) H Q := ⟨l, b, xs, zs, rfl, rfl, h1, h2, hz, h⟩
theorem w_dput {td ty tv : TE} (h : tv σ H fun v H1 => td σ H1 fun x H2 => ty σ H2 (DPK nx σ v x)) : sDPut td ty tv ⟨nx, rt, bk, ct⟩ σ H := h
theorem w_din {ty td : TE} (h : ty σ H fun y H1 => td σ H1 (DInK y Q)) : tDIn ty td σ H Q := h
theorem w_dnotin {ty td : TE} (h : ty σ H fun y H1 => td σ H1 (DNotInK y Q)) : tDNotIn ty td σ H Q := h
theorem w_dget {td ty : TE} (h : td σ H fun x H1 => ty σ H1 (DGK x Q)) : tDGet td ty σ H Q := h
theorem w_for {wi : TI} (h : wi σ H (ForB g t nx rt σ)) : tFor wi g t ⟨nx, rt, bk, ct⟩ σ H := h
theorem w_iList {K : PySem.W.Frag} {R : It → Hp → Prop} (h : te σ H (RdL K R)) : iList K te σ H R := h
theorem w_iTup {K : PySem.W.Frag} {R : It → Hp → Prop} (h : te σ H (RdT K R)) : iTup K te σ H R := h
theorem w_rdL {K : PySem.W.Frag} {R : It → Hp → Prop} {a : Addr} {xs : List V} (hl : SqL K H a xs) (h : R (Itl K a) H) : RdL K R (.ref a) H := ⟨a, rfl, ⟨xs, hl⟩, h⟩
theorem w_rdT {K : PySem.W.Frag} {R : It → Hp → Prop} {a : Addr} {xs : List V} (hl : SqT K H a xs) (h : R (Itt K a) H) : RdT K R (.ref a) H := ⟨a, rfl, ⟨xs, hl⟩, h⟩
theorem w_iRng1 {t : TA} {R : It → Hp → Prop} (h : t σ H (Rg1 R)) : iRng1 t σ H R := h
theorem w_iRng2 {t : TA} {R : It → Hp → Prop} (h : t σ H (Rg2 R)) : iRng2 t σ H R := h
theorem w_rg1 {j : Int} {R : It → Hp → Prop} (h1 : -(2 ^ 62) ≤ j ∧ j < 2 ^ 62) (h : R (Itr 0 j.toNat) H) : Rg1 R [.int j] H := ⟨j, rfl, h1.1, h1.2, h⟩
theorem w_rg2 {i j : Int} {R : It → Hp → Prop} (h1 : (-(2 ^ 62) ≤ i ∧ i < 2 ^ 62) ∧ (-(2 ^ 62) ≤ j ∧ j < 2 ^ 62)) (h : R (Itr i (j - i).toNat) H) : Rg2 R [.int i, .int j] H := ⟨i, j, rfl, ⟨h1.1.1, h1.1.2, h1.2.1, h1.2.2⟩, h⟩
/-- for over a range, by what holds ahead of turn i -/
theorem w_forR {lo : Int} {n : Nat} (Pv : Nat → L2.St → Hp → Prop) (h0 : Pv 0 σ H) (hs : ∀ i σ H, i < n → Pv i σ H → g (.int (lo + i)) σ H fun σ2 H2 => t ⟨Pv (i + 1), rt, nx, Pv (i + 1)⟩ σ2 H2) (hd : ∀ σ H, Pv n σ H → nx σ H) : ForB g t nx rt σ (Itr lo n) H :=
  for_range (D := ⟨nx, rt, fun _ _ => False, fun _ _ => False⟩) Pv h0 hs hd
theorem w_forL {K : PySem.W.Frag} {a : Addr} {xs : List V} (Pv : Nat → L2.St → Hp → Prop) (h0 : Pv 0 σ H) (hl : ∀ i σ H, i ≤ xs.length → Pv i σ H → SqL K H a xs) (hs : ∀ i x σ H, xs[i]? = some x → Pv i σ H → g x σ H fun σ2 H2 => t ⟨Pv (i + 1), rt, nx, Pv (i + 1)⟩ σ2 H2) (hd : ∀ σ H, Pv xs.length σ H → nx σ H) : ForB g t nx rt σ (Itl K a) H :=
  for_list (D := ⟨nx, rt, fun _ _ => False, fun _ _ => False⟩) Pv h0 hl hs hd
theorem w_forT {K : PySem.W.Frag} {a : Addr} {xs : List V} (Pv : Nat → L2.St → Hp → Prop) (h0 : Pv 0 σ H) (hl : ∀ i σ H, i ≤ xs.length → Pv i σ H → SqT K H a xs) (hs : ∀ i x σ H, xs[i]? = some x → Pv i σ H → g x σ H fun σ2 H2 => t ⟨Pv (i + 1), rt, nx, Pv (i + 1)⟩ σ2 H2) (hd : ∀ σ H, Pv xs.length σ H → nx σ H) : ForB g t nx rt σ (Itt K a) H :=
  for_tup (D := ⟨nx, rt, fun _ _ => False, fun _ _ => False⟩) Pv h0 hl hs hd
/-- while, by an invariant with a measure -/
theorem w_while {c : TT} (Pv : Nat → L2.St → Hp → Prop) (m : Nat) (h0 : Pv m σ H) (hs : ∀ m σ H, Pv m σ H → c σ H (WhB t nx rt Pv m σ)) : tWhile c t ⟨nx, rt, bk, ct⟩ σ H := ⟨Pv, ⟨m, h0⟩, hs⟩
theorem w_whT {Pv : Nat → L2.St → Hp → Prop} {m : Nat} (h : t ⟨fun σ' H' => ∃ m', m' < m ∧ Pv m' σ' H', rt, nx, fun σ' H' => ∃ m', m' < m ∧ Pv m' σ' H'⟩ σ H) : WhB t nx rt Pv m σ true H := w_iteT ⟨_, fun _ _ h => h, h⟩
theorem w_whF {Pv : Nat → L2.St → Hp → Prop} {m : Nat} (h : nx σ H) : WhB t nx rt Pv m σ false H := w_iteF h
theorem w_wh {Pv : Nat → L2.St → Hp → Prop} {m : Nat} {p : Prop} [Decidable p] (h1 : p → t ⟨fun σ' H' => ∃ m', m' < m ∧ Pv m' σ' H', rt, nx, fun σ' H' => ∃ m', m' < m ∧ Pv m' σ' H'⟩ σ H) (h2 : ¬ p → nx σ H) : WhB t nx rt Pv m σ (decide p) H := by
  by_cases h : p
  · rw [decide_eq_true h]; exact w_whT (h1 h)
  · rw [decide_eq_false h]; exact w_whF (h2 h)
theorem w_lc {wi : TI} {tt : TT} {vs : List Nat} (h : wi σ H (LcB g tt te vs σ Q)) : tLc wi g tt te vs σ H Q := h
theorem w_yes (h : B true H) : tYes σ H B := h
theorem w_lcR {lo : Int} {n : Nat} {tt : TT} {vs : List Nat} (h : ∀ D, H D = none → ∃ Pv : Nat → Hp → Prop, Pv 0 (upd H D (.lst [])) ∧
    (∀ i H1, i < n → Pv i H1 → g (.int (lo + i)) (wipe σ vs) H1 (LcTurn tt te vs σ D (Pv (i + 1)))) ∧ ∀ H1, Pv n H1 → Q (.ref D) H1) : LcB g tt te vs σ Q (Itr lo n) H := fun D hD => by
  obtain ⟨Pv, h0, hs, hd⟩ := h D hD
  exact lc_range (Qd := Q (.ref D)) Pv h0 hs hd
theorem w_lcL {K : PySem.W.Frag} {a : Addr} {xs : List V} {tt : TT} {vs : List Nat} (h : ∀ D, H D = none → ∃ Pv : Nat → Hp → Prop, Pv 0 (upd H D (.lst [])) ∧ (∀ i H1, i ≤ xs.length → Pv i H1 → SqL K H1 a xs) ∧
    (∀ i x H1, xs[i]? = some x → Pv i H1 → g x (wipe σ vs) H1 (LcTurn tt te vs σ D (Pv (i + 1)))) ∧ ∀ H1, Pv xs.length H1 → Q (.ref D) H1) : LcB g tt te vs σ Q (Itl K a) H := fun D hD => by
  obtain ⟨Pv, h0, hl, hs, hd⟩ := h D hD
  exact lc_list (Qd := Q (.ref D)) Pv h0 hl hs hd
theorem w_turn {tt : TT} {vs : List Nat} {σ2 : L2.St} {D : Addr} {Nx : Hp → Prop} (e : wipe σ2 vs = wipe σ vs) (h : tt σ2 H fun b H3 => if b = true then te σ2 H3 (LcPut D Nx) else Nx H3) : LcTurn tt te vs σ D Nx σ2 H := ⟨e, h⟩
theorem w_put {D : Addr} {Nx : Hp → Prop} {acc : List V} {y : V} (hl : H D = some (.lst acc)) (hz : acc.length < sizeLine) (h : Nx (upd H D (.lst (acc ++ [y])))) : LcPut D Nx y H := ⟨acc, hl, hz, h⟩
theorem w_isiInt {K : PySem.W.Frag} {i : Int} {n : String} {b : Bool} (e : kitB "int" n = some b) (h : Q (.bl b) H) : rIsi K [.int i, .ty n] H Q := ⟨_, _, _, _, b, rfl, .ty n, .base (.int i), kit_ty e, h⟩
theorem w_isiTup {K : PySem.W.Frag} {a : Addr} {xs : List V} {n : String} {b : Bool} (hl : SqT K H a xs) (e : kitB "tuple" n = some b) (h : Q (.bl b) H) : rIsi K [.ref a, .ty n] H Q := by
  rcases hl with (h1 | ⟨o, h1⟩) | ⟨o, its, m, h1, h2, h3⟩
  · exact ⟨_, _, _, _, b, rfl, .ty n, .base (.tup h1), kit_ty e, h⟩
  · exact ⟨_, _, _, _, b, rfl, .ty n, .fTuple h1, kit_ty e, h⟩
  · exact ⟨_, _, _, _, b, rfl, .ty n, .kTuple h1 h2, kit_ty e, h⟩
theorem w_isiLst {K : PySem.W.Frag} {a : Addr} {xs : List V} {n : String} {b : Bool} (hl : SqL K H a xs) (e : kitB "list" n = some b) (h : Q (.bl b) H) : rIsi K [.ref a, .ty n] H Q := by
  rcases hl with (h1 | ⟨o, h1⟩) | ⟨o, its, m, h1, h2, h3⟩
  · exact ⟨_, _, _, _, b, rfl, .ty n, .base (.lst h1), kit_ty e, h⟩
  · exact ⟨_, _, _, _, b, rfl, .ty n, .base (.frz h1), kit_ty e, h⟩
  · exact ⟨_, _, _, _, b, rfl, .ty n, .kList h1 h2, kit_ty e, h⟩
theorem w_isX {K : PySem.W.Frag} {D a : Addr} {c : V} {cv : Value} {b : Bool} (C : ExcC K D) (hc : ∀ u, RelV c u → u = cv) (k : PySem.W.kitOne K (.ref D) cv = some b) (h : Q (.bl b) H) : rIsX K (.ref D) none a [.ref a, c] H Q := ⟨D, c, cv, b, rfl, rfl, C, rfl, hc, k, h⟩
theorem w_callS {sp : Sp} {E : L2.St → XK} {t : TA} (h : t σ H fun vs H1 => sp vs H1 Q (E σ)) : tCallS sp E t σ H Q := h
theorem eqv_ints2 (a b c d : Int) : PyData.eqv (.tuple [.int a, .int b]) (.tuple [.int c, .int d]) = decide (a = c ∧ b = d) := by
  simp only [PyData.eqv, PyData.eqvAll, Bool.and_true]
  by_cases h : a = c <;> by_cases h2 : b = d <;> simp [h, h2]
theorem dp_ints2 {K : PySem.W.Frag} {t : Addr} {a b : Int} (h : SqT K H t [.int a, .int b]) : Dp K H (.ref t) (.tuple [.int a, .int b]) := .tup h (.cons (.int a) (.cons (.int b) .nil))
theorem Same.tup {K : PySem.W.Frag} {H H' : Hp} {a : Addr} {xs : List V} (e : Same H H') (h : SqT K H a xs) : SqT K H' a xs := by
  rcases h with (h | ⟨o, h⟩) | h
  · exact .inl (.inl (e _ _ h))
  · exact .inl (.inr ⟨o, e _ _ h⟩)
  · exact .inr h
end
theorem same_new {H : Hp} {p : Addr} (h : H p = none) (o : HO) : Same H (upd H p o) := fun b u q => by rw [upd_ne (ne_of_none q h)]; exact q
theorem cut_take {xs : List V} {k : Int} (h0 : 0 ≤ k) (h : k ≤ (xs.length : Int)) : cutV xs none (some k) = xs.take k.toNat := by
  unfold cutV HT.sIx
  simp only
  rw [if_neg (by omega), List.drop_zero, Nat.sub_zero, Nat.min_eq_left (by omega)]
theorem cut_drop {xs : List V} {k : Int} (h0 : 0 ≤ k) (h : k ≤ (xs.length : Int)) : cutV xs (some k) none = xs.drop k.toNat := by
  unfold cutV HT.sIx
  simp only
  rw [if_neg (by omega), Nat.min_eq_left (by omega)]
  exact List.take_of_length_le (by rw [List.length_drop]; omega)
theorem _root_.L2.Room.u65 {A : Around} {k : Nat} (hr : Room k A) : A.units + 65 < cLine := by have := hr.un; omega
theorem atI2 (a b : V) : atI [a, b] 0 = some a ∧ atI [a, b] 1 = some b := ⟨rfl, rfl⟩
theorem atI_int {ns : List Int} {i : Int} (h0 : 0 ≤ i) (h : i < (ns.length : Int)) : atI (ns.map V.int) i = some (.int (ns.getD i.toNat 0)) := by
  have hk : i.toNat < ns.length := by omega
  have ek : i = ((i.toNat : Nat) : Int) := by omega
  have q : atI (ns.map V.int) ((i.toNat : Nat) : Int) = some (.int ns[i.toNat]) := atI_nat (by rw [List.getElem?_map, List.getElem?_eq_getElem hk] <;> rfl)
  rw [← ek] at q
  rw [q, List.getD_eq_getElem?_getD, List.getElem?_eq_getElem hk] <;> rfl
end Pm
namespace Pm
open PySem PySem.Spec PyProof.Rows L2
/-- item by item -/
def All2 {α β : Type} (R : α → β → Prop) : List α → List β → Prop
  | [], [] => True
  | x :: xs, y :: ys => R x y ∧ All2 R xs ys
  | _, _ => False
section
variable {α β : Type} {R S : α → β → Prop}
theorem All2.nil : All2 R [] [] := trivial
theorem All2.cons {x : α} {y : β} {xs : List α} {ys : List β} (h : R x y) (t : All2 R xs ys) : All2 R (x :: xs) (y :: ys) := ⟨h, t⟩
theorem All2.length : ∀ {xs : List α} {ys : List β}, All2 R xs ys → xs.length = ys.length
  | [], [], _ => rfl
  | _ :: _, _ :: _, h => by rw [List.length_cons, List.length_cons, h.2.length]
theorem All2.mono (f : ∀ x y, R x y → S x y) : ∀ {xs : List α} {ys : List β}, All2 R xs ys → All2 S xs ys
  | [], [], _ => trivial
  | _ :: _, _ :: _, h => ⟨f _ _ h.1, h.2.mono f⟩
theorem All2.get : ∀ {xs : List α} {ys : List β} {i : Nat} {x : α}, All2 R xs ys → xs[i]? = some x → ∃ y, ys[i]? = some y ∧ R x y
  | [], [], _, _, _, e => by simp at e
  | _ :: _, _ :: _, 0, _, h, e => by simp at e; subst e; exact ⟨_, rfl, h.1⟩
  | _ :: _, _ :: _, i + 1, x, h, e => by
    obtain ⟨y, e1, r⟩ := All2.get (i := i) (x := x) h.2 (by simpa using e)
    exact ⟨y, by simpa using e1, r⟩
theorem All2.get' : ∀ {xs : List α} {ys : List β} {i : Nat} {y : β}, All2 R xs ys → ys[i]? = some y → ∃ x, xs[i]? = some x ∧ R x y
  | [], [], _, _, _, e => by simp at e
  | _ :: _, _ :: _, 0, _, h, e => by simp at e; subst e; exact ⟨_, rfl, h.1⟩
  | _ :: _, _ :: _, i + 1, y, h, e => by
    obtain ⟨x, e1, r⟩ := All2.get' (i := i) (y := y) h.2 (by simpa using e)
    exact ⟨x, by simpa using e1, r⟩
theorem All2.append : ∀ {xs : List α} {ys : List β} {xs' : List α} {ys' : List β}, All2 R xs ys → All2 R xs' ys' → All2 R (xs ++ xs') (ys ++ ys')
  | [], [], _, _, _, h => h
  | _ :: _, _ :: _, _, _, h, h' => ⟨h.1, h.2.append h'⟩
theorem All2.snoc {xs : List α} {ys : List β} {x : α} {y : β} (h : All2 R xs ys) (r : R x y) : All2 R (xs ++ [x]) (ys ++ [y]) := h.append ⟨r, trivial⟩
theorem All2.take : ∀ {xs : List α} {ys : List β} (n : Nat), All2 R xs ys → All2 R (xs.take n) (ys.take n)
  | [], [], n, _ => by rw [List.take_nil, List.take_nil]; trivial
  | _ :: _, _ :: _, 0, _ => trivial
  | _ :: _, _ :: _, n + 1, h => ⟨h.1, h.2.take n⟩
theorem All2.drop : ∀ {xs : List α} {ys : List β} (n : Nat), All2 R xs ys → All2 R (xs.drop n) (ys.drop n)
  | [], [], n, _ => by rw [List.drop_nil, List.drop_nil]; trivial
  | _ :: _, _ :: _, 0, h => h
  | _ :: _, _ :: _, n + 1, h => h.2.drop n
theorem All2.set : ∀ {xs : List α} {ys : List β} (i : Nat) {x : α} {y : β}, All2 R xs ys → R x y → All2 R (xs.set i x) (ys.set i y)
  | [], [], _, _, _, _, _ => trivial
  | _ :: _, _ :: _, 0, _, _, h, r => ⟨r, h.2⟩
  | _ :: _, _ :: _, i + 1, _, _, h, r => ⟨h.1, h.2.set i r⟩
theorem All2.mem : ∀ {xs : List α} {ys : List β} {x : α}, All2 R xs ys → x ∈ xs → ∃ y, y ∈ ys ∧ R x y
  | [], [], _, _, e => by simp at e
  | a :: _, b :: _, x, h, e => by
    rcases List.mem_cons.mp e with e | e
    · subst e; exact ⟨b, List.mem_cons_self, h.1⟩
    · obtain ⟨y, e1, r⟩ := h.2.mem e
      exact ⟨y, List.mem_cons_of_mem _ e1, r⟩
theorem All2.map_eq {f : α → β} : ∀ {xs : List α} {ys : List β}, All2 R xs ys → (∀ x y, R x y → f x = y) → xs.map f = ys
  | [], [], _, _ => rfl
  | _ :: _, _ :: _, h, q => by rw [List.map_cons, q _ _ h.1, h.2.map_eq q]
theorem All2.of_map {f : α → β} : ∀ {xs : List α}, (∀ x ∈ xs, R x (f x)) → All2 R xs (xs.map f)
  | [], _ => trivial
  | _ :: _, h => ⟨h _ List.mem_cons_self, All2.of_map fun x hx => h x (List.mem_cons_of_mem _ hx)⟩
end
/-- tuples stay -/
def Keeps (H H' : Hp) : Prop := ∀ t xs, H t = some (.tup xs) → H' t = some (.tup xs)
theorem Keeps.refl (H : Hp) : Keeps H H := fun _ _ h => h
theorem Keeps.trans {H H1 H2 : Hp} (a : Keeps H H1) (b : Keeps H1 H2) : Keeps H H2 := fun t xs h => b t xs (a t xs h)
theorem keeps {H H' : Hp} (s : Same H H') : Keeps H H' := fun _ _ h => s _ _ h
theorem keeps_lst {H : Hp} {a : Addr} {xs ys : List V} (h : H a = some (.lst xs)) : Keeps H (upd H a (.lst ys)) := fun t zs e => by
  rw [upd_ne (fun z => by subst z; rw [e] at h; cases h)]
  exact e
/-- all but the object at a stays -/
theorem same_but {H H' : Hp} {a : Addr} {o : HO} (h0 : H a = none) (s : Same H H') : Same H (upd H' a o) := fun b u e => by
  rw [upd_ne (fun z => by subst z; rw [h0] at e; cases e)]
  exact s b u e
abbrev IP := Int × Int
def Pr (H : Hp) (v : V) (p : IP) : Prop := ∃ t, v = .ref t ∧ H t = some (.tup [.int p.1, .int p.2])
abbrev Prs (H : Hp) : List V → List IP → Prop := All2 (Pr H)
theorem Pr.keep {H H' : Hp} (k : Keeps H H') {v : V} {p : IP} (h : Pr H v p) : Pr H' v p := by
  obtain ⟨t, e, ht⟩ := h
  exact ⟨t, e, k _ _ ht⟩
theorem prs_keep {H H' : Hp} (k : Keeps H H') {vs : List V} {ps : List IP} (h : Prs H vs ps) : Prs H' vs ps := h.mono fun _ _ r => r.keep k
theorem Pr.inj {H : Hp} {v : V} {p q : IP} (h : Pr H v p) (k : Pr H v q) : p = q := by
  obtain ⟨t, rfl, ht⟩ := h
  obtain ⟨u, e, hu⟩ := k
  cases e
  rw [ht] at hu
  have e := HO.tup.inj (Option.some.inj hu)
  injection e with e1 e2
  injection e2 with e2 _
  obtain ⟨a, b⟩ := p
  obtain ⟨c, d⟩ := q
  rw [show a = c from V.int.inj e1, show b = d from V.int.inj e2]
/-- the pair at a value -/
def kOf (H : Hp) : V → IP
  | .ref t => match H t with
    | some (.tup [.int a, .int b]) => (a, b)
    | _ => (0, 0)
  | _ => (0, 0)
theorem Pr.k {H : Hp} {v : V} {p : IP} (h : Pr H v p) : kOf H v = p := by
  obtain ⟨t, rfl, ht⟩ := h
  show (match H t with | some (.tup [.int a, .int b]) => (a, b) | _ => (0, 0)) = p
  rw [ht]
theorem Pr.tup {K : PySem.W.Frag} {H : Hp} {t : Addr} {p : IP} (h : Pr H (.ref t) p) : SqT K H t [.int p.1, .int p.2] := by
  obtain ⟨u, e, hu⟩ := h
  cases e
  exact SqT.of hu
theorem pr_new {H : Hp} {t : Addr} {a b : Int} (h : H t = some (.tup [.int a, .int b])) : Pr H (.ref t) (a, b) := ⟨t, rfl, h⟩
def pD (p : IP) : PyData := .tuple [.int p.1, .int p.2]
theorem dp_pr {K : PySem.W.Frag} {H : Hp} {v : V} {p : IP} (h : Pr H v p) : Dp K H v (pD p) := by
  obtain ⟨t, rfl, ht⟩ := h
  exact dp_ints2 (SqT.of ht)
theorem dp_prs {K : PySem.W.Frag} {H : Hp} : ∀ {vs : List V} {ps : List IP}, Prs H vs ps → DpAll K H vs (ps.map pD)
  | [], [], _ => .nil
  | _ :: _, _ :: _, h => .cons (dp_pr h.1) (dp_prs h.2)
theorem eqv_pD (p q : IP) : PyData.eqv (pD p) (pD q) = decide (p = q) := by
  obtain ⟨a, b⟩ := p
  obtain ⟨c, d⟩ := q
  rw [show PyData.eqv (pD (a, b)) (pD (c, d)) = decide (a = c ∧ b = d) from eqv_ints2 a b c d]
  exact decide_eq_decide.mpr ⟨fun h => by rw [h.1, h.2], fun h => ⟨congrArg Prod.fst h, congrArg Prod.snd h⟩⟩
theorem any_pD (q : IP) : ∀ ps : List IP, ((ps.map pD).any fun z => PyData.eqv z (pD q)) = decide (q ∈ ps)
  | [] => by simp
  | p :: ps => by
    rw [List.map_cons, List.any_cons, eqv_pD, any_pD q ps]
    by_cases h : p = q
    · subst h; simp
    · have h2 : ¬ q = p := fun e => h e.symm
      simp [h, h2]
theorem lay_pD (p : IP) : (pD p).canLay0 = true := by simp [pD, PyData.canLay0, PyData.canLayAll0]
theorem lays_pD : ∀ ps : List IP, PyData.canLayAll0 (ps.map pD) = true
  | [] => by simp [PyData.canLayAll0]
  | p :: ps => by simp [PyData.canLayAll0, lay_pD p, lays_pD ps]
theorem depth_pD (p : IP) : (pD p).depth = 1 := by simp [pD, PyData.depth, PyData.depthAll]
theorem depths_pD : ∀ ps : List IP, PyData.depthAll (ps.map pD) ≤ 1
  | [] => by simp [PyData.depthAll]
  | p :: ps => by
    have h1 := depths_pD ps
    have h2 := depth_pD p
    simp only [List.map_cons, PyData.depthAll]
    omega
theorem shaped_pD (p : IP) : SeqAt.shaped (pD p) = true := by
  show ((pD p).canLay0 && decide ((pD p).depth ≤ 64)) = true
  rw [lay_pD, depth_pD]
  rfl
theorem shaped_pDs (ps : List IP) : SeqAt.shaped (.list (ps.map pD)) = true := by
  have h1 := depths_pD ps
  have h2 : PyData.depth (.list (ps.map pD)) ≤ 64 := by
    simp only [PyData.depth]
    omega
  show (PyData.canLay0 (.list (ps.map pD)) && decide (PyData.depth (.list (ps.map pD)) ≤ 64)) = true
  rw [Bool.and_eq_true]
  exact ⟨by simp only [PyData.canLay0]; exact lays_pD ps, decide_eq_true h2⟩
section
variable {K : PySem.W.Frag} {H : Hp} {Q : VK} {a b t u : Addr} {v : V} {vs ws : List V} {p q : IP} {ps qs : List IP}
theorem w_inPL (h1 : Pr H v p) (h2 : SqL K H a vs) (p2 : Prs H vs ps) (h : Q (.bl (decide (p ∈ ps))) H) : rInD K v (.ref a) H Q :=
  ⟨_, _, dp_pr h1, .lst h2 (dp_prs p2), shaped_pD _, shaped_pDs _, by rw [any_pD]; exact h⟩
end
def lexLe (p q : IP) : Bool := decide (p.1 < q.1 ∨ (p.1 = q.1 ∧ p.2 ≤ q.2))
theorem lexLe_iff {p q : IP} : lexLe p q = true ↔ (p.1 < q.1 ∨ (p.1 = q.1 ∧ p.2 ≤ q.2)) := decide_eq_true_iff
theorem lexLe_trans (p q r : IP) (h : lexLe p q = true) (k : lexLe q r = true) : lexLe p r = true := by
  have h := lexLe_iff.mp h
  have k := lexLe_iff.mp k
  exact lexLe_iff.mpr (by omega)
theorem lexLe_total (p q : IP) : (lexLe p q || lexLe q p) = true := by
  rw [Bool.or_eq_true, lexLe_iff, lexLe_iff]
  omega
theorem lexLe_anti {p q : IP} (h : lexLe p q = true) (k : lexLe q p = true) : p = q := by
  have h := lexLe_iff.mp h
  have k := lexLe_iff.mp k
  obtain ⟨a, b⟩ := p
  obtain ⟨c, d⟩ := q
  simp only at h k
  have e1 : a = c := by omega
  have e2 : b = d := by omega
  rw [e1, e2]
abbrev Rising (ps : List IP) : Prop := ps.Pairwise fun p q => lexLe p q = true
def sortP (ps : List IP) : List IP := ps.mergeSort lexLe
theorem sortP_perm (ps : List IP) : (sortP ps).Perm ps := List.mergeSort_perm ps lexLe
theorem sortP_rising (ps : List IP) : Rising (sortP ps) := List.pairwise_mergeSort lexLe_trans lexLe_total ps
theorem rising_eq {ps qs : List IP} (h : Rising ps) (k : Rising qs) (e : ps.Perm qs) : ps = qs := List.Perm.eq_of_pairwise (fun _ _ _ _ a b => lexLe_anti a b) h k e
theorem sortP_eq {ps qs : List IP} (h : Rising ps) (e : ps.Perm qs) : sortP qs = ps := rising_eq (sortP_rising qs) h ((sortP_perm qs).trans e.symm)
theorem sortP_congr {ps qs : List IP} (e : ps.Perm qs) : sortP ps = sortP qs := sortP_eq (sortP_rising qs) ((sortP_perm qs).trans e.symm)
theorem sortP_len (ps : List IP) : (sortP ps).length = ps.length := (sortP_perm ps).length_eq
theorem mem_sortP {p : IP} {ps : List IP} : p ∈ sortP ps ↔ p ∈ ps := (sortP_perm ps).mem_iff
theorem lexB_le {p q : IP} (h : SrtO.lexB q p = false) : lexLe p q = true := by
  have h := SrtO.lexB_no.mp h
  exact lexLe_iff.mpr (by omega)
theorem w_sortP {K : PySem.W.Frag} {H : Hp} {Q : VK} {a : Addr} {vs : List V} {ps : List IP} (h1 : SqL K H a vs) (p1 : Prs H vs ps) (h : ∀ ys p, H p = none → Prs H ys (sortP ps) → Q (.ref p) (upd H p (.lst ys))) : rSortedPO K [.ref a] H Q := by
  refine ⟨a, vs, kOf H, rfl, h1, fun x hx => ?_, fun ys p hs hb hp => h ys p hp ?_⟩
  · obtain ⟨q, _, r⟩ := p1.mem hx
    rw [r.k]
    obtain ⟨t, rfl, ht⟩ := r
    exact ⟨t, rfl, ht⟩
  · have e1 : vs.map (kOf H) = ps := p1.map_eq fun _ _ r => r.k
    have pm : (ys.map (kOf H)).Perm ps := by rw [← e1]; exact hb.perm.map _
    have rs : Rising (ys.map (kOf H)) := List.pairwise_map.mpr (hs.imp fun {x y} q => lexB_le q)
    rw [sortP_eq rs pm]
    refine All2.of_map fun y hy => ?_
    obtain ⟨q, _, r⟩ := p1.mem (hb.perm.mem_iff.mp hy)
    rw [r.k]
    exact r
/-- a new list of pairs -/
def PLNew (H : Hp) (ps : List IP) (Q : VK) : Prop := ∀ (p : Addr) (H' : Hp) (ws : List V), Same H H' → H p = none → H' p = some (.lst ws) → Prs H' ws ps → Q (.ref p) H'
/-- a list of pairs that is handed in -/
def PL (K : PySem.W.Frag) (H : Hp) (a : Addr) (ps : List IP) : Prop := ∃ vs, SqL K H a vs ∧ Prs H vs ps
theorem PL.same {K : PySem.W.Frag} {H H' : Hp} {a : Addr} {ps : List IP} (h : PL K H a ps) (s : Same H H') : PL K H' a ps := by
  obtain ⟨vs, h1, h2⟩ := h
  exact ⟨vs, s.seq h1, prs_keep (keeps s) h2⟩
section
variable {H : Hp} {Q : VK} {σ : L2.St} {g : TG} {tt : TT} {te : TE} {vs : List Nat} {β : Type} {R : Hp → V → β → Prop}
theorem put_next (mono : ∀ H H' v b, Keeps H H' → R H v b → R H' v b) {H0 H1 H4 : Hp} {D : Addr} {acc : List V} {bs : List β} {y : V} {b : β} {Pv : Hp → Prop} (hD : H0 D = none) (s1 : Same H0 H1) (hd : H1 D = some (.lst acc)) (ha : All2 (R H1) acc bs) (hz : bs.length < 1000000)
    (s4 : Same H1 H4) (hy : R H4 y b) (hp : ∀ H5 acc', Same H0 H5 → H5 D = some (.lst acc') → All2 (R H5) acc' (bs ++ [b]) → Pv H5) : LcPut D Pv y H4 := by
  refine w_put (s4 _ _ hd) (size_lt (by rw [ha.length]; omega)) (hp _ _ (same_but hD (s1.trans s4)) upd_same ?_)
  have k := keeps_lst (ys := acc ++ [y]) (s4 _ _ hd)
  exact (ha.mono fun _ _ r => mono _ _ _ _ k (mono _ _ _ _ (keeps s4) r)).snoc (mono _ _ _ _ k hy)
/-- [f(k) for k in range(n)] -/
theorem w_lcRm (mono : ∀ H H' v b, Keeps H H' → R H v b → R H' v b) {lo : Int} {n : Nat} (f : Nat → β) (hn : n < 1000000)
    (body : ∀ D i H1 (Nx : Hp → Prop), H D = none → i < n → Same H H1 → (∀ y H4, Same H1 H4 → R H4 y (f i) → LcPut D Nx y H4) → g (.int (lo + i)) (wipe σ vs) H1 (LcTurn tt te vs σ D Nx))
    (done : ∀ D H1 ws, H D = none → Same H H1 → H1 D = some (.lst ws) → All2 (R H1) ws ((List.range n).map f) → Q (.ref D) H1) : LcB g tt te vs σ Q (Itr lo n) H := by
  refine w_lcR fun D hD => ⟨fun i H1 => Same H H1 ∧ ∃ acc, H1 D = some (.lst acc) ∧ All2 (R H1) acc ((List.range i).map f), ⟨same_new hD _, [], upd_same, trivial⟩, ?_, ?_⟩
  · rintro i H1 hi ⟨s1, acc, hd, ha⟩
    refine body D i H1 _ hD hi s1 fun y H4 s4 hy => ?_
    refine put_next mono hD s1 hd ha (by rw [List.length_map, List.length_range]; omega) s4 hy fun H5 acc' s5 h5 a5 => ⟨s5, acc', h5, ?_⟩
    rw [List.range_succ, List.map_append]
    exact a5
  · rintro H1 ⟨s1, acc, hd, ha⟩
    exact done D H1 acc hD s1 hd ha
/-- [f(x) for x in xs if p(x)]: the items taken by a relation of their own -/
theorem w_lcLf (mono : ∀ H H' v b, Keeps H H' → R H v b → R H' v b) {K : PySem.W.Frag} {a : Addr} {xs : List V} {γ : Type} {S : Hp → V → γ → Prop} (monoS : ∀ H H' v b, Keeps H H' → S H v b → S H' v b) {cs : List γ} (hl : SqL K H a xs) (hx : All2 (S H) xs cs) (f : γ → β) (pr : γ → Bool) (hn : cs.length < 1000000)
    (body : ∀ D (x : V) (c : γ) H1 (Nx : Hp → Prop), H D = none → c ∈ cs → S H1 x c → Same H H1 → (∀ y H4, pr c = true → Same H1 H4 → R H4 y (f c) → LcPut D Nx y H4) → (∀ H4, pr c = false → Same H1 H4 → Nx H4) → g x (wipe σ vs) H1 (LcTurn tt te vs σ D Nx))
    (done : ∀ D H1 ws, H D = none → Same H H1 → H1 D = some (.lst ws) → All2 (R H1) ws ((cs.filter pr).map f) → Q (.ref D) H1) : LcB g tt te vs σ Q (Itl K a) H := by
  have hlen := hx.length
  refine w_lcL (xs := xs) fun D hD => ⟨fun i H1 => Same H H1 ∧ ∃ acc, H1 D = some (.lst acc) ∧ All2 (R H1) acc (((cs.take i).filter pr).map f), ⟨same_new hD _, [], upd_same, trivial⟩, ?_, ?_, ?_⟩
  · rintro i H1 _ ⟨s1, _⟩
    exact s1.seq hl
  · rintro i x H1 hi ⟨s1, acc, hd, ha⟩
    obtain ⟨c, hc, hs⟩ := hx.get hi
    have hlt : i < cs.length := (List.getElem?_eq_some_iff.mp hc).1
    have hle : (((cs.take i).filter pr).map f).length < 1000000 := by
      rw [List.length_map]
      have := List.length_filter_le pr (cs.take i)
      rw [List.length_take] at this
      omega
    have et : cs.take (i + 1) = cs.take i ++ [c] := by rw [List.take_add_one, hc] <;> rfl
    refine body D x c H1 _ hD (List.mem_of_getElem? hc) (monoS _ _ _ _ (keeps s1) hs) s1 (fun y H4 hp s4 hy => ?_) (fun H4 hp s4 => ?_)
    · refine put_next mono hD s1 hd ha hle s4 hy fun H5 acc' s5 h5 a5 => ⟨s5, acc', h5, ?_⟩
      rw [et, List.filter_append, List.map_append]
      have e1 : List.filter pr [c] = [c] := by simp [hp]
      rw [e1]
      exact a5
    · refine ⟨s1.trans s4, acc, s4 _ _ hd, ?_⟩
      have e1 : List.filter pr [c] = [] := by simp [hp]
      rw [et, List.filter_append, e1, List.append_nil]
      exact ha.mono fun _ _ r => mono _ _ _ _ (keeps s4) r
  · rintro H1 ⟨s1, acc, hd, ha⟩
    rw [hlen, List.take_length] at ha
    exact done D H1 acc hD s1 hd ha
end
theorem pr_mono (H H' : Hp) (v : V) (b : IP) (k : Keeps H H') (h : Pr H v b) : Pr H' v b := h.keep k
/-- an int as an item -/
def In (_ : Hp) (v : V) (i : Int) : Prop := v = .int i
theorem in_mono (H H' : Hp) (v : V) (b : Int) (_ : Keeps H H') (h : In H v b) : In H' v b := h
theorem ins_map {H : Hp} : ∀ {vs : List V} {ns : List Int}, All2 (In H) vs ns → vs = ns.map V.int
  | [], [], _ => rfl
  | _ :: _, _ :: _, h => by rw [List.map_cons, ← ins_map h.2, h.1]
theorem take_snoc {α : Type} {l : List α} {i : Nat} {x : α} (h : l[i]? = some x) : l.take (i + 1) = l.take i ++ [x] := by rw [List.take_add_one, h] <;> rfl
end Pm
namespace Pm
inductive Tr where
  | leaf
  | node (l r : Tr)
namespace Tr
def w : Tr → Nat
  | leaf => 1
  | node l r => l.w + r.w
theorem w_pos : ∀ t : Tr, 1 ≤ t.w
  | leaf => Nat.le_refl _
  | node l r => by have := l.w_pos; show 1 ≤ l.w + r.w; omega
/-- all ties -/
def all : Nat → Tr → List (Nat × Nat)
  | lo, leaf => [(lo, lo + 1)]
  | lo, node l r => (lo, lo + (l.w + r.w)) :: (l.all lo ++ r.all (lo + l.w))
/-- the ties of nodes -/
def inn : Nat → Tr → List (Nat × Nat)
  | _, leaf => []
  | lo, node l r => (lo, lo + (l.w + r.w)) :: (l.inn lo ++ r.inn (lo + l.w))
/-- the ropes of the whole -/
def ropes : Nat → Tr → List (Nat × Nat)
  | _, leaf => []
  | lo, node l r => l.inn lo ++ r.inn (lo + l.w)
theorem inn_node {lo : Nat} {t : Tr} (h : 2 ≤ t.w) : t.inn lo = (lo, lo + t.w) :: t.ropes lo := by
  cases t with
  | leaf => exact absurd h (by show ¬ 2 ≤ 1; omega)
  | node l r => rfl
theorem bd : ∀ {t : Tr} {lo : Nat} {p : Nat × Nat}, p ∈ t.all lo → lo ≤ p.1 ∧ p.1 < p.2 ∧ p.2 ≤ lo + t.w
  | leaf, lo, p, h => by
    rw [List.mem_singleton.mp h]
    exact ⟨Nat.le_refl _, Nat.lt_succ_self _, Nat.le_refl _⟩
  | node l r, lo, p, h => by
    have wl := l.w_pos
    have wr := r.w_pos
    show lo ≤ p.1 ∧ p.1 < p.2 ∧ p.2 ≤ lo + (l.w + r.w)
    rcases List.mem_cons.mp h with h | h
    · rw [h]; simp only; omega
    · rcases List.mem_append.mp h with h | h
      · have := bd h; omega
      · have := bd h; omega
theorem mem_node {l r : Tr} {lo : Nat} {p : Nat × Nat} : p ∈ (node l r).all lo ↔ p = (lo, lo + (l.w + r.w)) ∨ p ∈ l.all lo ∨ p ∈ r.all (lo + l.w) := by
  show p ∈ _ :: (_ ++ _) ↔ _
  rw [List.mem_cons, List.mem_append]
theorem root_mem {t : Tr} {lo : Nat} : (lo, lo + t.w) ∈ t.all lo := by
  cases t with
  | leaf => exact List.mem_singleton.mpr rfl
  | node l r => exact List.mem_cons_self
theorem inn_all : ∀ {t : Tr} {lo : Nat} {p : Nat × Nat}, p ∈ t.inn lo → p ∈ t.all lo
  | leaf, _, _, h => by cases h
  | node l r, lo, p, h => by
    rw [mem_node]
    rcases List.mem_cons.mp h with h | h
    · exact .inl h
    · rcases List.mem_append.mp h with h | h
      · exact .inr (.inl (inn_all h))
      · exact .inr (.inr (inn_all h))
theorem inn_wide : ∀ {t : Tr} {lo : Nat} {p : Nat × Nat}, p ∈ t.inn lo → p.1 + 2 ≤ p.2
  | leaf, _, _, h => by cases h
  | node l r, lo, p, h => by
    have wl := l.w_pos
    have wr := r.w_pos
    rcases List.mem_cons.mp h with h | h
    · rw [h]; simp only; omega
    · rcases List.mem_append.mp h with h | h
      · exact inn_wide h
      · exact inn_wide h
/-- a tie is one of a node, or of two neighbours -/
theorem all_iff : ∀ {t : Tr} {lo : Nat} {p : Nat × Nat}, p ∈ t.all lo ↔ p ∈ t.inn lo ∨ (lo ≤ p.1 ∧ p.2 = p.1 + 1 ∧ p.2 ≤ lo + t.w)
  | leaf, lo, p => by
    show p ∈ [(lo, lo + 1)] ↔ p ∈ [] ∨ (lo ≤ p.1 ∧ p.2 = p.1 + 1 ∧ p.2 ≤ lo + 1)
    obtain ⟨a, b⟩ := p
    simp only [List.mem_singleton, Prod.mk.injEq, List.not_mem_nil, false_or]
    omega
  | node l r, lo, p => by
    have wl := l.w_pos
    have wr := r.w_pos
    rw [mem_node, all_iff (t := l), all_iff (t := r)]
    show _ ↔ p ∈ _ :: (_ ++ _) ∨ (lo ≤ p.1 ∧ p.2 = p.1 + 1 ∧ p.2 ≤ lo + (l.w + r.w))
    rw [List.mem_cons, List.mem_append]
    constructor
    · rintro (h | (h | h) | (h | h))
      · exact .inl (.inl h)
      · exact .inl (.inr (.inl h))
      · exact .inr (by omega)
      · exact .inl (.inr (.inr h))
      · exact .inr (by omega)
    · rintro ((h | h | h) | h)
      · exact .inl h
      · exact .inr (.inl (.inl h))
      · exact .inr (.inr (.inl h))
      · by_cases c : p.2 ≤ lo + l.w
        · exact .inr (.inl (.inr (by omega)))
        · exact .inr (.inr (.inr (by omega)))
/-- the one post between the ends of a node's tie -/
theorem apex_in : ∀ {t : Tr} {lo a b : Nat}, (a, b) ∈ t.inn lo → ∃ m, (a < m ∧ m < b) ∧ (a, m) ∈ t.all lo ∧ (m, b) ∈ t.all lo ∧ ∀ m', a < m' → m' < b → (a, m') ∈ t.all lo → (m', b) ∈ t.all lo → m' = m
  | leaf, _, _, _, h => by cases h
  | node l r, lo, a, b, h => by
    have wl := l.w_pos
    have wr := r.w_pos
    rcases List.mem_cons.mp h with h | h
    · obtain ⟨rfl, rfl⟩ := Prod.mk.inj h
      refine ⟨a + l.w, ⟨by omega, by omega⟩, mem_node.mpr (.inr (.inl root_mem)), mem_node.mpr (.inr (.inr (by rw [← Nat.add_assoc]; exact root_mem))), fun m' h1 h2 h3 h4 => ?_⟩
      rcases mem_node.mp h3 with e | e | e
      · have := (Prod.mk.inj e).2; omega
      · have q := (bd e).2.2
        simp only at q
        rcases mem_node.mp h4 with e | e | e
        · have := (Prod.mk.inj e).1; omega
        · have := (bd e).2.2; simp only at this; omega
        · have := (bd e).1; simp only at this; omega
      · have := (bd e).1; simp only at this; omega
    · rcases List.mem_append.mp h with h | h
      · have q := bd (inn_all h)
        simp only at q
        obtain ⟨m, hm, h1, h2, u⟩ := apex_in h
        refine ⟨m, hm, mem_node.mpr (.inr (.inl h1)), mem_node.mpr (.inr (.inl h2)), fun m' g1 g2 g3 g4 => u m' g1 g2 ?_ ?_⟩
        · rcases mem_node.mp g3 with e | e | e
          · have := (Prod.mk.inj e).2; omega
          · exact e
          · have := (bd e).1; simp only at this; omega
        · rcases mem_node.mp g4 with e | e | e
          · have := (Prod.mk.inj e).1; omega
          · exact e
          · have := (bd e).1; simp only at this; omega
      · have q := bd (inn_all h)
        simp only at q
        obtain ⟨m, hm, h1, h2, u⟩ := apex_in h
        refine ⟨m, hm, mem_node.mpr (.inr (.inr h1)), mem_node.mpr (.inr (.inr h2)), fun m' g1 g2 g3 g4 => u m' g1 g2 ?_ ?_⟩
        · rcases mem_node.mp g3 with e | e | e
          · have := (Prod.mk.inj e).1; omega
          · have := (bd e).2.2; simp only at this; omega
          · exact e
        · rcases mem_node.mp g4 with e | e | e
          · have := (Prod.mk.inj e).1; omega
          · have := (bd e).2.2; simp only at this; omega
          · exact e
/-- m makes a plot with (a, b) from outside -/
def Out (t : Tr) (lo a b m : Nat) : Prop := (m < a ∧ (m, a) ∈ t.all lo ∧ (m, b) ∈ t.all lo) ∨ (b < m ∧ (a, m) ∈ t.all lo ∧ (b, m) ∈ t.all lo)
theorem Out.up_l {l r : Tr} {lo a b m : Nat} (h : Out l lo a b m) : Out (node l r) lo a b m := by
  rcases h with ⟨h, h1, h2⟩ | ⟨h, h1, h2⟩
  · exact .inl ⟨h, mem_node.mpr (.inr (.inl h1)), mem_node.mpr (.inr (.inl h2))⟩
  · exact .inr ⟨h, mem_node.mpr (.inr (.inl h1)), mem_node.mpr (.inr (.inl h2))⟩
theorem Out.up_r {l r : Tr} {lo a b m : Nat} (h : Out r (lo + l.w) a b m) : Out (node l r) lo a b m := by
  rcases h with ⟨h, h1, h2⟩ | ⟨h, h1, h2⟩
  · exact .inl ⟨h, mem_node.mpr (.inr (.inr h1)), mem_node.mpr (.inr (.inr h2))⟩
  · exact .inr ⟨h, mem_node.mpr (.inr (.inr h1)), mem_node.mpr (.inr (.inr h2))⟩
theorem Out.down_l {l r : Tr} {lo a b m : Nat} (q : lo ≤ a ∧ a < b ∧ b ≤ lo + l.w) (n : ¬ (a = lo ∧ b = lo + l.w)) (h : Out (node l r) lo a b m) : Out l lo a b m := by
  have wr := r.w_pos
  rcases h with ⟨h, h1, h2⟩ | ⟨h, h1, h2⟩
  · refine .inl ⟨h, ?_, ?_⟩
    · rcases mem_node.mp h1 with e | e | e
      · have := (Prod.mk.inj e).2; omega
      · exact e
      · have := (bd e).1; simp only at this; omega
    · rcases mem_node.mp h2 with e | e | e
      · have := (Prod.mk.inj e).2; omega
      · exact e
      · have := (bd e).1; simp only at this; omega
  · have hb : (b, m) ∈ l.all lo ∨ b = lo + l.w := by
      rcases mem_node.mp h2 with e | e | e
      · have := (Prod.mk.inj e).1; omega
      · exact .inl e
      · have := (bd e).1; simp only at this; exact .inr (by omega)
    rcases hb with hb | hb
    · have z := (bd hb).2.2
      simp only at z
      refine .inr ⟨h, ?_, hb⟩
      rcases mem_node.mp h1 with e | e | e
      · have := (Prod.mk.inj e).2; omega
      · exact e
      · have := (bd e).1; simp only at this; omega
    · exfalso
      rcases mem_node.mp h1 with e | e | e
      · have := (Prod.mk.inj e).1; omega
      · have := (bd e).2.2; simp only at this; omega
      · have := (bd e).1; simp only at this; omega
theorem Out.down_r {l r : Tr} {lo a b m : Nat} (q : lo + l.w ≤ a ∧ a < b ∧ b ≤ lo + l.w + r.w) (n : ¬ (a = lo + l.w ∧ b = lo + l.w + r.w)) (h : Out (node l r) lo a b m) : Out r (lo + l.w) a b m := by
  have wl := l.w_pos
  rcases h with ⟨h, h1, h2⟩ | ⟨h, h1, h2⟩
  · have ha : (m, a) ∈ r.all (lo + l.w) ∨ a = lo + l.w := by
      rcases mem_node.mp h1 with e | e | e
      · have := (Prod.mk.inj e).2; omega
      · have := (bd e).2.2; simp only at this; exact .inr (by omega)
      · exact .inl e
    rcases ha with ha | ha
    · have z := (bd ha).1
      simp only at z
      refine .inl ⟨h, ha, ?_⟩
      rcases mem_node.mp h2 with e | e | e
      · have := (Prod.mk.inj e).1; omega
      · have := (bd e).2.2; simp only at this; omega
      · exact e
    · exfalso
      rcases mem_node.mp h2 with e | e | e
      · have := (Prod.mk.inj e).2; omega
      · have := (bd e).2.2; simp only at this; omega
      · have := (bd e).1; simp only at this; omega
  · refine .inr ⟨h, ?_, ?_⟩
    · rcases mem_node.mp h1 with e | e | e
      · have := (Prod.mk.inj e).1; omega
      · have := (bd e).2.2; simp only at this; omega
      · exact e
    · rcases mem_node.mp h2 with e | e | e
      · have := (Prod.mk.inj e).1; omega
      · have := (bd e).2.2; simp only at this; omega
      · exact e
theorem Out.bd {t : Tr} {lo a b m : Nat} (h : Out t lo a b m) : lo ≤ m ∧ m ≤ lo + t.w := by
  rcases h with ⟨h, h1, h2⟩ | ⟨h, h1, h2⟩
  · have := Tr.bd h1; simp only at this; omega
  · have := Tr.bd h1; simp only at this; omega
/-- the one post outside a tie that is not the whole's -/
theorem apex_out : ∀ {t : Tr} {lo a b : Nat}, (a, b) ∈ t.all lo → ¬ (a = lo ∧ b = lo + t.w) → ∃ m, Out t lo a b m ∧ ∀ m', Out t lo a b m' → m' = m
  | leaf, lo, a, b, h, n => by
    exfalso
    obtain ⟨e1, e2⟩ := Prod.mk.inj (List.mem_singleton.mp h)
    exact n ⟨e1, e2⟩
  | node l r, lo, a, b, h, n => by
    have wl := l.w_pos
    have wr := r.w_pos
    rcases mem_node.mp h with h | h | h
    · exact absurd (Prod.mk.inj h) n
    · have q := Tr.bd h
      simp only at q
      by_cases c : a = lo ∧ b = lo + l.w
      · obtain ⟨rfl, rfl⟩ := c
        refine ⟨a + (l.w + r.w), .inr ⟨by omega, mem_node.mpr (.inl rfl), mem_node.mpr (.inr (.inr (by rw [← Nat.add_assoc]; exact root_mem)))⟩, fun m' o => ?_⟩
        rcases o with ⟨h, h1, h2⟩ | ⟨h, h1, h2⟩
        · have := (Tr.bd h1).1; simp only at this; omega
        · rcases mem_node.mp h1 with e | e | e
          · exact (Prod.mk.inj e).2
          · have := (Tr.bd e).2.2; simp only at this; omega
          · have := (Tr.bd e).1; simp only at this; omega
      · obtain ⟨m, o, u⟩ := apex_out h c
        exact ⟨m, o.up_l, fun m' o' => u m' (o'.down_l q c)⟩
    · have q := Tr.bd h
      simp only at q
      by_cases c : a = lo + l.w ∧ b = lo + l.w + r.w
      · obtain ⟨rfl, rfl⟩ := c
        refine ⟨lo, .inl ⟨by omega, mem_node.mpr (.inr (.inl root_mem)), mem_node.mpr (.inl (by rw [Nat.add_assoc]))⟩, fun m' o => ?_⟩
        rcases o with ⟨h, h1, h2⟩ | ⟨h, h1, h2⟩
        · rcases mem_node.mp h2 with e | e | e
          · exact (Prod.mk.inj e).1
          · have := (Tr.bd e).2.2; simp only at this; omega
          · have := (Tr.bd e).1; simp only at this; omega
        · have := (Tr.bd h1).2.2; simp only at this; change m' ≤ lo + (l.w + r.w) at this; omega
      · obtain ⟨m, o, u⟩ := apex_out h c
        exact ⟨m, o.up_r, fun m' o' => u m' (o'.down_r q c)⟩
end Tr
end Pm
namespace Pm
namespace Tr
def graft : Tr → Nat → Tr
  | leaf, _ => node leaf leaf
  | node l r, j => if j < l.w then node (l.graft j) r else node l (r.graft (j - l.w))
theorem w_graft : ∀ {t : Tr} {j : Nat}, j < t.w → (t.graft j).w = t.w + 1
  | leaf, _, _ => rfl
  | node l r, j, h => by
    unfold graft
    split
    · rename_i c
      show (l.graft j).w + r.w = l.w + r.w + 1
      rw [w_graft c]; omega
    · rename_i c
      show l.w + (r.graft (j - l.w)).w = l.w + r.w + 1
      have : j < l.w + r.w := h
      rw [w_graft (by omega)]; omega
def sk (c i : Nat) : Nat := if i < c then i else i + 1
def skp (c : Nat) (p : Nat × Nat) : Nat × Nat := (sk c p.1, sk c p.2)
theorem inn_shift : ∀ (t : Tr) (lo : Nat), t.inn (lo + 1) = (t.inn lo).map fun p => (p.1 + 1, p.2 + 1)
  | leaf, _ => rfl
  | node l r, lo => by
    show (lo + 1, lo + 1 + (l.w + r.w)) :: (l.inn (lo + 1) ++ r.inn (lo + 1 + l.w)) = ((lo, lo + (l.w + r.w)) :: (l.inn lo ++ r.inn (lo + l.w))).map _
    rw [List.map_cons, List.map_append, inn_shift l lo, show lo + 1 + l.w = lo + l.w + 1 by omega, inn_shift r (lo + l.w)]
    congr 2
    omega
theorem ropes_shift (t : Tr) (lo : Nat) : t.ropes (lo + 1) = (t.ropes lo).map fun p => (p.1 + 1, p.2 + 1) := by
  cases t with
  | leaf => rfl
  | node l r =>
    show l.inn (lo + 1) ++ r.inn (lo + 1 + l.w) = (l.inn lo ++ r.inn (lo + l.w)).map _
    rw [List.map_append, inn_shift l lo, show lo + 1 + l.w = lo + l.w + 1 by omega, inn_shift r (lo + l.w)]
theorem skp_up {t : Tr} {lo c : Nat} (h : c ≤ lo) : (t.inn lo).map (skp c) = t.inn (lo + 1) := by
  rw [inn_shift]
  refine List.map_congr_left fun p hp => ?_
  have q := bd (inn_all hp)
  unfold skp sk
  rw [if_neg (by omega), if_neg (by omega)]
theorem skp_down {t : Tr} {lo c : Nat} (h : lo + t.w < c) : (t.inn lo).map (skp c) = t.inn lo := by
  conv => rhs; rw [← List.map_id (t.inn lo)]
  refine List.map_congr_left fun p hp => ?_
  have q := bd (inn_all hp)
  unfold skp sk
  rw [if_pos (by omega), if_pos (by omega)]
  rfl
theorem inn_graft : ∀ {t : Tr} {lo j : Nat}, j < t.w → ((t.graft j).inn lo).Perm ((lo + j, lo + j + 2) :: (t.inn lo).map (skp (lo + j + 1)))
  | leaf, lo, j, h => by
    have : j = 0 := by have h : j < 1 := h; omega
    subst this
    exact List.Perm.refl _
  | node l r, lo, j, h => by
    have h : j < l.w + r.w := h
    have wr := r.w_pos
    have wl := l.w_pos
    show ((graft (node l r) j).inn lo).Perm ((lo + j, lo + j + 2) :: ((lo, lo + (l.w + r.w)) :: (l.inn lo ++ r.inn (lo + l.w))).map _)
    rw [List.map_cons, List.map_append]
    have e0 : skp (lo + j + 1) (lo, lo + (l.w + r.w)) = (lo, lo + (l.w + r.w) + 1) := by
      unfold skp sk
      rw [if_pos (by omega), if_neg (by omega)]
    rw [e0]
    unfold graft
    split
    · rename_i c
      show ((lo, lo + ((l.graft j).w + r.w)) :: ((l.graft j).inn lo ++ r.inn (lo + (l.graft j).w))).Perm _
      rw [w_graft c, skp_up (t := r) (show lo + j + 1 ≤ lo + l.w by omega), show lo + (l.w + 1 + r.w) = lo + (l.w + r.w) + 1 by omega, show lo + (l.w + 1) = lo + l.w + 1 by omega]
      exact ((inn_graft c).append_right _).cons _ |>.trans (List.Perm.swap _ _ _)
    · rename_i c
      have c' : j - l.w < r.w := by omega
      show ((lo, lo + (l.w + (r.graft (j - l.w)).w)) :: (l.inn lo ++ (r.graft (j - l.w)).inn (lo + l.w))).Perm _
      have ih := inn_graft (t := r) (lo := lo + l.w) c'
      rw [show lo + l.w + (j - l.w) = lo + j by omega] at ih
      rw [w_graft c', skp_down (t := l) (show lo + l.w < lo + j + 1 by omega), show lo + (l.w + (r.w + 1)) = lo + (l.w + r.w) + 1 by omega]
      refine ((ih.append_left _).cons _).trans ?_
      refine (List.Perm.cons _ List.perm_middle).trans (List.Perm.swap _ _ _)
theorem ropes_graft {t : Tr} {j : Nat} (h : j < t.w) (h2 : 2 ≤ t.w) : ((t.graft j).ropes 0).Perm ((j, j + 2) :: (t.ropes 0).map (skp (j + 1))) := by
  have q := inn_graft (lo := 0) h
  rw [inn_node (t := t) h2, inn_node (t := t.graft j) (by rw [w_graft h]; omega), w_graft h, List.map_cons] at q
  have e0 : skp (0 + j + 1) (0, 0 + t.w) = (0, 0 + (t.w + 1)) := by
    unfold skp sk
    rw [if_pos (by omega), if_neg (by omega)]
    congr 1
  rw [e0] at q
  have q2 := q.trans (List.Perm.swap _ _ _)
  have q3 := q2.cons_inv
  rw [Nat.zero_add] at q3
  exact q3
end Tr
abbrev Ear := Int × Int × Int
/-- all ears of a ring, cut off one by one -/
inductive Ears : List Int → List Ear → Prop
  | done {L : List Int} (h : L.length ≤ 3) : Ears L []
  | step {L : List Int} {es : List Ear} (k : Nat) (h3 : 3 < L.length) (hk : k < L.length) (t : Ears (L.eraseIdx k) es) :
      Ears L ((L.getD k 0, L.getD ((k + L.length - 1) % L.length) 0, L.getD ((k + 1) % L.length) 0) :: es)
def tieOf (a b : Int) : IP := (min a b, max a b)
def ropeOf (e : Ear) : IP := tieOf e.2.1 e.2.2
theorem getD_erase (L : List Int) (k i : Nat) : (L.eraseIdx k).getD i 0 = L.getD (Tr.sk k i) 0 := by
  rw [List.getD_eq_getElem?_getD, List.getD_eq_getElem?_getD, List.getElem?_eraseIdx]
  unfold Tr.sk
  split <;> rfl
theorem rise_get {L : List Int} (h : L.Pairwise (· < ·)) {i j : Nat} (hij : i < j) (hj : j < L.length) : L.getD i 0 < L.getD j 0 := by
  have q := List.pairwise_iff_getElem.mp h i j (by omega) hj hij
  rw [List.getD_eq_getElem?_getD, List.getD_eq_getElem?_getD, List.getElem?_eq_getElem (by omega), List.getElem?_eq_getElem hj]
  exact q
def atP (L : List Int) (p : Nat × Nat) : IP := (L.getD p.1 0, L.getD p.2 0)
theorem atP_erase (L : List Int) (k : Nat) (p : Nat × Nat) : atP (L.eraseIdx k) p = atP L (Tr.skp k p) := by
  unfold atP Tr.skp
  rw [getD_erase, getD_erase]
theorem tie_lt {a b : Int} (h : a < b) : tieOf a b = (a, b) := by unfold tieOf; rw [Int.min_eq_left (by omega), Int.max_eq_right (by omega)]
theorem tie_gt {a b : Int} (h : a < b) : tieOf b a = (a, b) := by unfold tieOf; rw [Int.min_eq_right (by omega), Int.max_eq_left (by omega)]
theorem drawn_tree {L : List Int} {es : List Ear} (h : Ears L es) : L.Pairwise (· < ·) → 3 ≤ L.length → ∃ t : Tr, t.w + 1 = L.length ∧ (es.map ropeOf).Perm ((t.ropes 0).map (atP L)) := by
  induction h with
  | done h =>
    intro _ h3
    exact ⟨.node .leaf .leaf, by show 2 + 1 = _; omega, List.Perm.refl _⟩
  | @step L es k h3 hk _ ih =>
    intro rise _
    have le : (L.eraseIdx k).length = L.length - 1 := List.length_eraseIdx_of_lt hk
    obtain ⟨t, hw, hp⟩ := ih (rise.sublist (List.eraseIdx_sublist L k)) (by omega)
    have w2 : 2 ≤ t.w := by omega
    have hp : (es.map ropeOf).Perm ((t.ropes 0).map fun p => atP L (Tr.skp k p)) := by
      rw [show (fun p => atP L (Tr.skp k p)) = atP (L.eraseIdx k) from funext fun p => (atP_erase L k p).symm]
      exact hp
    by_cases k0 : k = 0
    · subst k0
      refine ⟨.node .leaf t, by show 1 + t.w + 1 = _; omega, ?_⟩
      have e1 : (Tr.node .leaf t).ropes 0 = (1, 1 + t.w) :: (t.ropes 0).map (Tr.skp 0) := by
        show [] ++ t.inn (0 + 1) = _
        rw [List.nil_append, Tr.inn_node w2, Tr.ropes_shift]
        rfl
      have e2 : (0 + L.length - 1) % L.length = L.length - 1 := by rw [Nat.zero_add]; exact Nat.mod_eq_of_lt (by omega)
      have e3 : (0 + 1) % L.length = 1 := Nat.mod_eq_of_lt (by omega)
      rw [List.map_cons, e1, List.map_cons, List.map_map]
      have e4 : ropeOf (L.getD 0 0, L.getD ((0 + L.length - 1) % L.length) 0, L.getD ((0 + 1) % L.length) 0) = atP L (1, 1 + t.w) := by
        unfold ropeOf atP
        rw [e2, e3]
        simp only
        rw [show 1 + t.w = L.length - 1 by omega]
        exact tie_gt (rise_get rise (by omega) (by omega))
      rw [e4]
      exact hp.cons _
    · by_cases km : k = L.length - 1
      · refine ⟨.node t .leaf, by show t.w + 1 + 1 = _; omega, ?_⟩
        have e1 : (Tr.node t .leaf).ropes 0 = (0, t.w) :: t.ropes 0 := by
          show t.inn 0 ++ [] = _
          rw [List.append_nil, Tr.inn_node w2, Nat.zero_add]
        have e2 : (k + L.length - 1) % L.length = k - 1 := by
          rw [show k + L.length - 1 = (k - 1) + L.length by omega, Nat.add_mod_right]
          exact Nat.mod_eq_of_lt (by omega)
        have e3 : (k + 1) % L.length = 0 := by
          rw [show k + 1 = L.length by omega]
          exact Nat.mod_self _
        have e5 : (t.ropes 0).map (fun p => atP L (Tr.skp k p)) = (t.ropes 0).map (atP L) := by
          refine List.map_congr_left fun p hp => ?_
          have hin : p ∈ t.inn 0 := by rw [Tr.inn_node w2]; exact List.mem_cons_of_mem _ hp
          have q := Tr.bd (Tr.inn_all hin)
          unfold Tr.skp Tr.sk
          rw [if_pos (by omega), if_pos (by omega)]
        rw [e5] at hp
        rw [List.map_cons, e1, List.map_cons]
        have e4 : ropeOf (L.getD k 0, L.getD ((k + L.length - 1) % L.length) 0, L.getD ((k + 1) % L.length) 0) = atP L (0, t.w) := by
          unfold ropeOf atP
          rw [e2, e3]
          simp only
          rw [show t.w = k - 1 by omega]
          exact tie_gt (rise_get rise (by omega) (by omega))
        rw [e4]
        exact hp.cons _
      · refine ⟨t.graft (k - 1), by rw [Tr.w_graft (by omega)]; omega, ?_⟩
        have e1 := Tr.ropes_graft (t := t) (j := k - 1) (by omega) w2
        rw [show k - 1 + 1 = k by omega, show k - 1 + 2 = k + 1 by omega] at e1
        have e2 : (k + L.length - 1) % L.length = k - 1 := by
          rw [show k + L.length - 1 = (k - 1) + L.length by omega, Nat.add_mod_right]
          exact Nat.mod_eq_of_lt (by omega)
        have e3 : (k + 1) % L.length = k + 1 := Nat.mod_eq_of_lt (by omega)
        have e4 : ropeOf (L.getD k 0, L.getD ((k + L.length - 1) % L.length) 0, L.getD ((k + 1) % L.length) 0) = atP L (k - 1, k + 1) := by
          unfold ropeOf atP
          rw [e2, e3]
          exact tie_lt (rise_get rise (by omega) (by omega))
        rw [List.map_cons, e4]
        refine (hp.cons _).trans ?_
        have q := (e1.map (atP L)).symm
        rw [List.map_cons, List.map_map] at q
        exact q
def castP (p : Nat × Nat) : IP := ((p.1 : Int), (p.2 : Int))
/-- the posts of a ring -/
def posts (n : Nat) : List Int := (List.range n).map fun i : Nat => (i : Int)
theorem posts_len (n : Nat) : (posts n).length = n := by rw [posts, List.length_map, List.length_range]
theorem posts_rise (n : Nat) : (posts n).Pairwise (· < ·) := by
  rw [posts, List.pairwise_map]
  exact List.pairwise_lt_range.imp fun h => by omega
theorem posts_get {n i : Nat} (h : i < n) : (posts n).getD i 0 = (i : Int) := by
  rw [posts, List.getD_eq_getElem?_getD, List.getElem?_map, List.getElem?_range h] <;> rfl
theorem ropes_bd {t : Tr} {p : Nat × Nat} (hp : p ∈ t.ropes 0) : p ∈ t.inn 0 ∧ ¬ (p.1 = 0 ∧ p.2 = t.w) := by
  cases t with
  | leaf => cases hp
  | node l r =>
    have wl := l.w_pos
    have wr := r.w_pos
    refine ⟨List.mem_cons_of_mem _ hp, ?_⟩
    show ¬ (p.1 = 0 ∧ p.2 = l.w + r.w)
    rcases List.mem_append.mp hp with h | h
    · have := Tr.bd (Tr.inn_all h); omega
    · have := Tr.bd (Tr.inn_all h); omega
theorem drawn_posts {n : Nat} {es : List Ear} (h : Ears (posts n) es) (hn : 3 ≤ n) : ∃ t : Tr, t.w + 1 = n ∧ (es.map ropeOf).Perm ((t.ropes 0).map castP) := by
  obtain ⟨t, hw, hp⟩ := drawn_tree h (posts_rise n) (by rw [posts_len]; exact hn)
  rw [posts_len] at hw
  refine ⟨t, hw, ?_⟩
  have e : (t.ropes 0).map (atP (posts n)) = (t.ropes 0).map castP := by
    refine List.map_congr_left fun p hp => ?_
    have q := Tr.bd (Tr.inn_all (ropes_bd hp).1)
    unfold atP castP
    rw [posts_get (by omega), posts_get (by omega)]
  rw [e] at hp
  exact hp
end Pm
namespace Pm
open PySem PySem.Spec PyProof.Rows L2
def sides0 (n : Nat) : List IP := ((List.range (n - 1)).map fun k : Nat => ((k : Int), (k : Int) + 1)) ++ [(0, (n : Int) - 1)]
def sidesL (n : Nat) : List IP := sortP (sides0 n)
def tiesL (n : Nat) (cut : List IP) : List IP := sortP (sides0 n ++ cut)
theorem sides0_len {n : Nat} (h : 1 ≤ n) : (sides0 n).length = n := by
  rw [sides0, List.length_append, List.length_map, List.length_range, List.length_singleton]; omega
theorem tiesL_eq (n : Nat) (cut : List IP) : sortP (sidesL n ++ cut) = tiesL n cut := sortP_congr ((sortP_perm _).append_right _)
theorem mem_ties {n : Nat} {cut : List IP} {p : IP} : p ∈ tiesL n cut ↔ p ∈ sides0 n ∨ p ∈ cut := by rw [tiesL, mem_sortP, List.mem_append]
def isBeside (T : List IP) (a b : Int) (c : Nat) : Bool := decide (tieOf a c ∈ T) && decide (tieOf b c ∈ T)
def besideL (n : Nat) (T : List IP) (a b : Int) : List Int := ((List.range n).filter (isBeside T a b)).map fun c : Nat => (c : Int)
/-- a tracked list of pairs -/
def PLt (H : Hp) (a : Addr) (ps : List IP) : Prop := ∃ vs, H a = some (.lst vs) ∧ Prs H vs ps
theorem PLt.same {H H' : Hp} {a : Addr} {ps : List IP} (h : PLt H a ps) (s : Same H H') : PLt H' a ps := by
  obtain ⟨vs, h1, h2⟩ := h
  exact ⟨vs, s _ _ h1, prs_keep (keeps s) h2⟩
/-- an ear as a tuple -/
def Er (H : Hp) (v : V) (e : Ear) : Prop := ∃ t, v = .ref t ∧ H t = some (.tup [.int e.1, .int e.2.1, .int e.2.2])
theorem er_mono (H H' : Hp) (v : V) (e : Ear) (k : Keeps H H') (h : Er H v e) : Er H' v e := by
  obtain ⟨t, rfl, ht⟩ := h
  exact ⟨t, rfl, k _ _ ht⟩
end Pm
namespace Pm
open PySem PySem.Spec PyProof.Rows L2
/-- cut is the cutting of the tree t -/
structure Cutting (n : Nat) (cut : List IP) (t : Tr) : Prop where
  w : t.w + 1 = n
  n3 : 3 ≤ n
  perm : cut.Perm ((t.ropes 0).map castP)
  rise : Rising cut
theorem drawn_cutting {n : Nat} {es : List Ear} (h : Ears (posts n) es) (hn : 3 ≤ n) : ∃ t, Cutting n (sortP (es.map ropeOf)) t := by
  obtain ⟨t, hw, hp⟩ := drawn_posts h hn
  exact ⟨t, hw, hn, (sortP_perm _).trans hp, sortP_rising _⟩
theorem castP_inj {p q : Nat × Nat} (h : castP p = castP q) : p = q := by
  obtain ⟨a, b⟩ := p
  obtain ⟨c, d⟩ := q
  have e1 := congrArg Prod.fst h
  have e2 := congrArg Prod.snd h
  simp only [castP] at e1 e2
  rw [show a = c by omega, show b = d by omega]
theorem mem_sides0 {n : Nat} {p : IP} (hn : 2 ≤ n) : p ∈ sides0 n ↔ (∃ k : Nat, k + 1 < n ∧ p = castP (k, k + 1)) ∨ p = castP (0, n - 1) := by
  unfold sides0
  rw [List.mem_append, List.mem_map, List.mem_singleton]
  constructor
  · rintro (⟨k, hk, rfl⟩ | rfl)
    · exact .inl ⟨k, by have := List.mem_range.mp hk; omega, by simp [castP]⟩
    · exact .inr (by simp only [castP]; congr 1; omega)
  · rintro (⟨k, hk, rfl⟩ | rfl)
    · exact .inl ⟨k, List.mem_range.mpr (by omega), by simp [castP]⟩
    · exact .inr (by simp only [castP]; congr 1; omega)
section
variable {n : Nat} {cut : List IP} {t : Tr}
theorem Cutting.mem (C : Cutting n cut t) {p : IP} : p ∈ cut ↔ ∃ q, q ∈ t.ropes 0 ∧ p = castP q := by
  rw [C.perm.mem_iff, List.mem_map]
  exact ⟨fun ⟨q, h, e⟩ => ⟨q, h, e.symm⟩, fun ⟨q, h, e⟩ => ⟨q, h, e.symm⟩⟩
theorem Cutting.w2 (C : Cutting n cut t) : 2 ≤ t.w := by have := C.w; have := C.n3; omega
theorem inn_iff {q : Nat × Nat} (h : 2 ≤ t.w) : q ∈ t.inn 0 ↔ q = (0, t.w) ∨ q ∈ t.ropes 0 := by
  rw [Tr.inn_node h, List.mem_cons, Nat.zero_add]
theorem ropes_iff {q : Nat × Nat} (h : 2 ≤ t.w) : q ∈ t.ropes 0 ↔ q ∈ t.inn 0 ∧ q ≠ (0, t.w) := by
  constructor
  · intro hq
    have z := ropes_bd hq
    exact ⟨z.1, fun e => z.2 (by rw [e]; exact ⟨rfl, rfl⟩)⟩
  · rintro ⟨h1, h2⟩
    exact ((inn_iff h).mp h1).resolve_left h2
theorem Cutting.ties (C : Cutting n cut t) {p : IP} : p ∈ tiesL n cut ↔ ∃ q, q ∈ t.all 0 ∧ p = castP q := by
  have h2 := C.w2
  have hw := C.w
  rw [mem_ties, mem_sides0 (by omega), C.mem]
  constructor
  · rintro ((⟨k, hk, rfl⟩ | rfl) | ⟨q, hq, rfl⟩)
    · exact ⟨_, Tr.all_iff.mpr (.inr ⟨Nat.zero_le _, rfl, by simp only; omega⟩), rfl⟩
    · refine ⟨_, Tr.inn_all ((inn_iff h2).mpr (.inl rfl)), ?_⟩
      rw [← hw] <;> rfl
    · exact ⟨q, Tr.inn_all ((inn_iff h2).mpr (.inr hq)), rfl⟩
  · rintro ⟨q, hq, rfl⟩
    rcases Tr.all_iff.mp hq with h | ⟨_, h, h'⟩
    · rcases (inn_iff h2).mp h with rfl | h
      · refine .inl (.inr ?_)
        rw [← hw] <;> rfl
      · exact .inr ⟨q, h, rfl⟩
    · refine .inl (.inl ⟨q.1, by omega, ?_⟩)
      obtain ⟨a, b⟩ := q
      simp only at h
      rw [h]
theorem Cutting.tied (C : Cutting n cut t) {a b : Nat} : castP (a, b) ∈ tiesL n cut ↔ (a, b) ∈ t.all 0 := by
  rw [C.ties]
  exact ⟨fun ⟨q, h, e⟩ => by rw [castP_inj e]; exact h, fun h => ⟨_, h, rfl⟩⟩
theorem tie_cast (a c : Nat) : tieOf (a : Int) (c : Int) = castP (min a c, max a c) := by
  unfold tieOf castP
  simp only
  congr 1 <;> omega
theorem tie_comm (a b : Int) : tieOf a b = tieOf b a := by unfold tieOf; rw [Int.min_comm, Int.max_comm]
/-- beside: between, or outside -/
theorem Cutting.beside_iff (C : Cutting n cut t) {a b c : Nat} (hab : a < b) : isBeside (tiesL n cut) a b c = true ↔ ((a < c ∧ c < b) ∧ (a, c) ∈ t.all 0 ∧ (c, b) ∈ t.all 0) ∨ Tr.Out t 0 a b c := by
  unfold isBeside
  rw [Bool.and_eq_true, decide_eq_true_iff, decide_eq_true_iff, tie_cast, tie_cast, C.tied, C.tied]
  rcases Nat.lt_trichotomy c a with h | h | h
  · rw [Nat.min_eq_right (by omega), Nat.max_eq_left (by omega), Nat.min_eq_right (by omega), Nat.max_eq_left (by omega)]
    unfold Tr.Out
    constructor
    · exact fun q => .inr (.inl ⟨h, q⟩)
    · rintro (⟨q, _⟩ | ⟨_, q⟩ | ⟨q, _⟩)
      · omega
      · exact q
      · omega
  · subst h
    rw [Nat.min_self, Nat.max_self]
    constructor
    · rintro ⟨q, _⟩
      have := (Tr.bd q).2.1
      simp only at this
      omega
    · unfold Tr.Out
      rintro (⟨q, _⟩ | ⟨q, _⟩ | ⟨q, _⟩) <;> omega
  · rw [Nat.min_eq_left (by omega), Nat.max_eq_right (by omega)]
    rcases Nat.lt_trichotomy c b with h' | h' | h'
    · rw [Nat.min_eq_right (by omega), Nat.max_eq_left (by omega)]
      unfold Tr.Out
      constructor
      · exact fun q => .inl ⟨⟨h, h'⟩, q⟩
      · rintro (⟨_, q⟩ | ⟨q, _⟩ | ⟨q, _⟩)
        · exact q
        · omega
        · omega
    · subst h'
      rw [Nat.min_self, Nat.max_self]
      constructor
      · rintro ⟨_, q⟩
        have := (Tr.bd q).2.1
        simp only at this
        omega
      · unfold Tr.Out
        rintro (⟨q, _⟩ | ⟨q, _⟩ | ⟨q, _⟩) <;> omega
    · rw [Nat.min_eq_left (by omega), Nat.max_eq_right (by omega)]
      unfold Tr.Out
      constructor
      · exact fun q => .inr (.inr ⟨h', q⟩)
      · rintro (⟨q, _⟩ | ⟨q, _⟩ | ⟨_, q⟩)
        · omega
        · omega
        · exact q
end
theorem filter_range_eq {n : Nat} {p : Nat → Bool} {l : List Nat} (hl : l.Pairwise (· < ·)) (h : ∀ c, c ∈ l ↔ c < n ∧ p c = true) : (List.range n).filter p = l := by
  have h1 : ((List.range n).filter p).Pairwise (· < ·) := List.pairwise_lt_range.sublist List.filter_sublist
  have nd : ∀ {l : List Nat}, l.Pairwise (· < ·) → l.Nodup := fun q => q.imp fun z => by omega
  refine List.Perm.eq_of_pairwise (le := (· < ·)) (fun a b _ _ h1 h2 => absurd h1 (by omega)) h1 hl ((List.perm_ext_iff_of_nodup (nd h1) (nd hl)).mpr fun c => ?_)
  rw [List.mem_filter, List.mem_range, h]
section
variable {n : Nat} {cut : List IP} {t : Tr}
/-- the posts beside a rope: the one between, the one outside -/
theorem Cutting.beside_rope (C : Cutting n cut t) {a b : Nat} (h : (a, b) ∈ t.ropes 0) : ∃ m o : Nat, (a < m ∧ m < b) ∧ (a, m) ∈ t.all 0 ∧ (m, b) ∈ t.all 0 ∧ Tr.Out t 0 a b o ∧ (o < a ∨ b < o) ∧ o < n ∧
    besideL n (tiesL n cut) a b = [((min m o : Nat) : Int), ((max m o : Nat) : Int)] := by
  have hw := C.w
  have hi := (ropes_bd h)
  have hb := Tr.bd (Tr.inn_all hi.1)
  simp only at hb
  obtain ⟨m, hm, h1, h2, u⟩ := Tr.apex_in hi.1
  obtain ⟨o, ho, uo⟩ := Tr.apex_out (Tr.inn_all hi.1) (by rw [Nat.zero_add]; exact hi.2)
  have bo := ho.bd
  have oo : o < a ∨ b < o := by
    rcases ho with ⟨q, _⟩ | ⟨q, _⟩
    · exact .inl q
    · exact .inr q
  refine ⟨m, o, hm, h1, h2, ho, oo, by omega, ?_⟩
  have e : (List.range n).filter (isBeside (tiesL n cut) a b) = [min m o, max m o] := by
    refine filter_range_eq ?_ fun c => ?_
    · refine List.pairwise_cons.mpr ⟨fun c hc => ?_, List.pairwise_singleton _ _⟩
      rw [List.mem_singleton.mp hc]
      omega
    · rw [C.beside_iff hb.2.1, List.mem_cons, List.mem_singleton]
      constructor
      · intro hc
        have : c = m ∨ c = o := by omega
        rcases this with rfl | rfl
        · exact ⟨by omega, .inl ⟨hm, h1, h2⟩⟩
        · exact ⟨by omega, .inr ho⟩
      · rintro ⟨_, ⟨hc, q1, q2⟩ | hc⟩
        · have := u c hc.1 hc.2 q1 q2; omega
        · have := uo c hc; omega
  unfold besideL
  rw [e]
  rfl
end
end Pm
namespace Pm
namespace Tr
theorem noncross : ∀ {t : Tr} {lo : Nat} {p q : Nat × Nat}, p ∈ t.all lo → q ∈ t.all lo → ¬ (p.1 < q.1 ∧ q.1 < p.2 ∧ p.2 < q.2)
  | leaf, lo, p, q, hp, hq => by
    rw [List.mem_singleton.mp hp, List.mem_singleton.mp hq]
    simp only
    omega
  | node l r, lo, p, q, hp, hq => by
    have bp := bd hp
    have bq := bd hq
    have e : (node l r).w = l.w + r.w := rfl
    rw [e] at bp bq
    rcases mem_node.mp hp with h | h | h <;> rcases mem_node.mp hq with k | k | k
    · rw [h, k]; simp only; omega
    · rw [h]; simp only; omega
    · rw [h]; simp only; omega
    · rw [k]; simp only; omega
    · exact noncross h k
    · have := bd h; have := bd k; omega
    · rw [k]; simp only; omega
    · have := bd h; have := bd k; omega
    · exact noncross h k
theorem inn_nodup : ∀ (t : Tr) (lo : Nat), (t.inn lo).Nodup
  | leaf, _ => List.nodup_nil
  | node l r, lo => by
    have wl := l.w_pos
    have wr := r.w_pos
    show ((lo, lo + (l.w + r.w)) :: (l.inn lo ++ r.inn (lo + l.w))).Nodup
    refine List.nodup_cons.mpr ⟨fun h => ?_, List.nodup_append.mpr ⟨inn_nodup l lo, inn_nodup r _, fun a ha b hb e => ?_⟩⟩
    · rcases List.mem_append.mp h with h | h
      · have := bd (inn_all h); simp only at this; omega
      · have := bd (inn_all h); simp only at this; omega
    · subst e
      have := bd (inn_all ha)
      have := bd (inn_all hb)
      omega
theorem ropes_nodup (t : Tr) (lo : Nat) : (t.ropes lo).Nodup := by
  cases t with
  | leaf => exact List.nodup_nil
  | node l r => exact (List.nodup_cons.mp (inn_nodup (node l r) lo)).2
/-- the tree turned at the rope (x, y), its ropes by a common rest R; m between, o outside -/
structure Flip (t t' : Tr) (lo x y m o : Nat) (R : List (Nat × Nat)) : Prop where
  w : t'.w = t.w
  old : (t.ropes lo).Perm ((x, y) :: R)
  new : (t'.ropes lo).Perm ((min m o, max m o) :: R)
  btw : x < m ∧ m < y
  out : Out t lo x y o
  am : (x, m) ∈ t.all lo
  mb : (m, y) ∈ t.all lo
theorem flip_up_l {l l' r : Tr} {lo x y m o : Nat} {R : List (Nat × Nat)} (hl : 2 ≤ l.w) (F : Flip l l' lo x y m o R) : Flip (node l r) (node l' r) lo x y m o ((lo, lo + l.w) :: (R ++ r.inn (lo + l.w))) := by
  refine ⟨?_, ?_, ?_, F.btw, F.out.up_l, mem_node.mpr (.inr (.inl F.am)), mem_node.mpr (.inr (.inl F.mb))⟩
  · show l'.w + r.w = l.w + r.w
    rw [F.w]
  · show (l.inn lo ++ r.inn (lo + l.w)).Perm _
    rw [inn_node hl]
    exact ((F.old.append_right _).cons _).trans (List.Perm.swap _ _ _)
  · show (l'.inn lo ++ r.inn (lo + l'.w)).Perm _
    rw [inn_node (show 2 ≤ l'.w by rw [F.w]; exact hl), F.w]
    exact ((F.new.append_right _).cons _).trans (List.Perm.swap _ _ _)
theorem flip_up_r {l r r' : Tr} {lo x y m o : Nat} {R : List (Nat × Nat)} (hr : 2 ≤ r.w) (F : Flip r r' (lo + l.w) x y m o R) : Flip (node l r) (node l r') lo x y m o ((lo + l.w, lo + l.w + r.w) :: (R ++ l.inn lo)) := by
  refine ⟨?_, ?_, ?_, F.btw, F.out.up_r, mem_node.mpr (.inr (.inr F.am)), mem_node.mpr (.inr (.inr F.mb))⟩
  · show l.w + r'.w = l.w + r.w
    rw [F.w]
  · show (l.inn lo ++ r.inn (lo + l.w)).Perm _
    rw [inn_node hr]
    refine List.perm_append_comm.trans ?_
    exact ((F.old.append_right _).cons _).trans (List.Perm.swap _ _ _)
  · show (l.inn lo ++ r'.inn (lo + l.w)).Perm _
    rw [inn_node (show 2 ≤ r'.w by rw [F.w]; exact hr), F.w]
    refine List.perm_append_comm.trans ?_
    exact ((F.new.append_right _).cons _).trans (List.Perm.swap _ _ _)
theorem flip : ∀ {t : Tr} {lo x y : Nat}, (x, y) ∈ t.ropes lo → ∃ t' m o R, Flip t t' lo x y m o R
  | leaf, _, _, _, h => by cases h
  | node l r, lo, x, y, h => by
    have wl := l.w_pos
    have wr := r.w_pos
    rcases List.mem_append.mp h with h | h
    · have wl2 : 2 ≤ l.w := by
        cases l with
        | leaf => cases h
        | node a b => have := a.w_pos; have := b.w_pos; show 2 ≤ a.w + b.w; omega
      rw [inn_node wl2] at h
      rcases List.mem_cons.mp h with h | h
      · obtain ⟨rfl, rfl⟩ := Prod.mk.inj h
        cases l with
        | leaf => exact absurd wl2 (by show ¬ 2 ≤ 1; omega)
        | node a b =>
          have wa := a.w_pos
          have wb := b.w_pos
          refine ⟨node a (node b r), x + a.w, x + (a.w + b.w + r.w), a.inn x ++ (b.inn (x + a.w) ++ r.inn (x + (a.w + b.w))), ?_, ?_, ?_, ?_, ?_, ?_, ?_⟩
          · show a.w + (b.w + r.w) = a.w + b.w + r.w; omega
          · show (((x, x + (a.w + b.w)) :: (a.inn x ++ b.inn (x + a.w))) ++ r.inn (x + (a.w + b.w))).Perm _
            rw [List.cons_append, List.append_assoc]
            exact List.Perm.refl _
          · show (a.inn x ++ ((x + a.w, x + a.w + (b.w + r.w)) :: (b.inn (x + a.w) ++ r.inn (x + a.w + b.w)))).Perm _
            rw [Nat.min_eq_left (by omega), Nat.max_eq_right (by omega), show x + a.w + (b.w + r.w) = x + (a.w + b.w + r.w) by omega, show x + a.w + b.w = x + (a.w + b.w) by omega]
            exact List.perm_middle
          · show x < x + a.w ∧ x + a.w < x + (a.w + b.w); omega
          · refine .inr ⟨?_, mem_node.mpr (.inl rfl), mem_node.mpr (.inr (.inr ?_))⟩
            · show x + (a.w + b.w) < x + (a.w + b.w + r.w); omega
            · show (x + (a.w + b.w), x + (a.w + b.w + r.w)) ∈ r.all (x + (a.w + b.w))
              rw [show x + (a.w + b.w + r.w) = x + (a.w + b.w) + r.w by omega]; exact root_mem
          · exact mem_node.mpr (.inr (.inl (mem_node.mpr (.inr (.inl root_mem)))))
          · refine mem_node.mpr (.inr (.inl (mem_node.mpr (.inr (.inr ?_)))))
            show (x + a.w, x + (a.w + b.w)) ∈ b.all (x + a.w)
            rw [show x + (a.w + b.w) = x + a.w + b.w by omega]; exact root_mem
      · obtain ⟨l', m, o, R, F⟩ := flip h
        exact ⟨node l' r, m, o, _, flip_up_l wl2 F⟩
    · have wr2 : 2 ≤ r.w := by
        cases r with
        | leaf => cases h
        | node a b => have := a.w_pos; have := b.w_pos; show 2 ≤ a.w + b.w; omega
      rw [inn_node wr2] at h
      rcases List.mem_cons.mp h with h | h
      · obtain ⟨rfl, rfl⟩ := Prod.mk.inj h
        cases r with
        | leaf => exact absurd wr2 (by show ¬ 2 ≤ 1; omega)
        | node a b =>
          have wa := a.w_pos
          have wb := b.w_pos
          refine ⟨node (node l a) b, lo + l.w + a.w, lo, l.inn lo ++ (a.inn (lo + l.w) ++ b.inn (lo + l.w + a.w)), ?_, ?_, ?_, ?_, ?_, ?_, ?_⟩
          · show l.w + a.w + b.w = l.w + (a.w + b.w); omega
          · show (l.inn lo ++ ((lo + l.w, lo + l.w + (a.w + b.w)) :: (a.inn (lo + l.w) ++ b.inn (lo + l.w + a.w)))).Perm _
            exact List.perm_middle
          · show (((lo, lo + (l.w + a.w)) :: (l.inn lo ++ a.inn (lo + l.w))) ++ b.inn (lo + (l.w + a.w))).Perm _
            rw [Nat.min_eq_right (by omega), Nat.max_eq_left (by omega), List.cons_append, List.append_assoc, show lo + (l.w + a.w) = lo + l.w + a.w by omega]
          · show lo + l.w < lo + l.w + a.w ∧ lo + l.w + a.w < lo + l.w + (a.w + b.w); omega
          · refine .inl ⟨by omega, mem_node.mpr (.inr (.inl root_mem)), mem_node.mpr (.inl ?_)⟩
            show (lo, lo + l.w + (a.w + b.w)) = (lo, lo + (l.w + (a.w + b.w)))
            congr 1
            omega
          · exact mem_node.mpr (.inr (.inr (mem_node.mpr (.inr (.inl root_mem)))))
          · refine mem_node.mpr (.inr (.inr (mem_node.mpr (.inr (.inr ?_)))))
            show (lo + l.w + a.w, lo + l.w + (a.w + b.w)) ∈ b.all (lo + l.w + a.w)
            rw [show lo + l.w + (a.w + b.w) = lo + l.w + a.w + b.w by omega]; exact root_mem
      · obtain ⟨r', m, o, R, F⟩ := flip h
        exact ⟨node l r', m, o, _, flip_up_r wr2 F⟩
end Tr
open PySem PySem.Spec PyProof.Rows L2
/-- the cutting behind a turning -/
def turnedL (n : Nat) (cut : List IP) (a b : Int) : List IP :=
  let e := besideL n (tiesL n cut) a b
  sortP (cut.filter (fun p => !decide (p = tieOf a b)) ++ [(e.getD 0 0, e.getD 1 0)])
structure Turning (n : Nat) (cut : List IP) (t t' : Tr) (x y m o : Nat) (R : List (Nat × Nat)) : Prop where
  F : Tr.Flip t t' 0 x y m o R
  bes : besideL n (tiesL n cut) x y = [((min m o : Nat) : Int), ((max m o : Nat) : Int)]
  out : o < x ∨ y < o
  on : o < n
  rest : (cut.filter (fun p => !decide (p = castP (x, y)))).Perm (R.map castP)
  cut' : Cutting n (turnedL n cut x y) t'
theorem Cutting.turn {n : Nat} {cut : List IP} {t : Tr} (C : Cutting n cut t) {x y : Nat} (h : (x, y) ∈ t.ropes 0) : ∃ t' m o R, Turning n cut t t' x y m o R := by
  obtain ⟨t', m, o, R, F⟩ := Tr.flip h
  obtain ⟨m2, o2, hm2, h1, h2, ho2, oo, on, eb⟩ := C.beside_rope h
  have hi := (ropes_bd h).1
  obtain ⟨m3, _, _, _, u⟩ := Tr.apex_in hi
  have em : m = m2 := (u m F.btw.1 F.btw.2 F.am F.mb).trans (u m2 hm2.1 hm2.2 h1 h2).symm
  obtain ⟨o3, _, uo⟩ := Tr.apex_out (Tr.inn_all hi) (by rw [Nat.zero_add]; exact (ropes_bd h).2)
  have eo : o = o2 := (uo o F.out).trans (uo o2 ho2).symm
  subst em; subst eo
  have pc : cut.Perm (castP (x, y) :: R.map castP) := C.perm.trans (F.old.map castP)
  have hb := Tr.bd (Tr.inn_all hi)
  simp only at hb
  have nR : castP (x, y) ∉ R.map castP := fun q => by
    obtain ⟨z, hz, e⟩ := List.mem_map.mp q
    rw [castP_inj e] at hz
    have nd := (F.old.nodup_iff).mp (Tr.ropes_nodup t 0)
    exact (List.nodup_cons.mp nd).1 hz
  have rest : (cut.filter (fun p => !decide (p = castP (x, y)))).Perm (R.map castP) := by
    refine (pc.filter _).trans ?_
    rw [List.filter_cons_of_neg (by simp)]
    rw [List.filter_eq_self.mpr]
    intro p hp
    have : p ≠ castP (x, y) := fun e => nR (by rw [← e]; exact hp)
    simp [this]
  have tx : tieOf (x : Int) (y : Int) = castP (x, y) := by rw [tie_cast, Nat.min_eq_left (by omega), Nat.max_eq_right (by omega)]
  refine ⟨t', m, o, R, F, eb, oo, on, rest, ?_, C.n3, ?_, sortP_rising _⟩
  · rw [F.w]; exact C.w
  · unfold turnedL
    simp only
    rw [eb, tx]
    refine (sortP_perm _).trans ?_
    refine (rest.append_right _).trans ?_
    refine (List.perm_append_singleton _ _).trans ?_
    exact (F.new.map castP).symm
section
variable {n : Nat} {cut : List IP} {t t' : Tr} {x y m o : Nat} {R : List (Nat × Nat)}
theorem Turning.all_iff (C : Cutting n cut t) (U : Turning n cut t t' x y m o R) {q : Nat × Nat} : q ∈ t'.all 0 ↔ (q ∈ t.all 0 ∧ q ≠ (x, y)) ∨ q = (min m o, max m o) := by
  have h : (x, y) ∈ t.ropes 0 := U.F.old.mem_iff.mpr List.mem_cons_self
  have w2 := C.w2
  have w2' : 2 ≤ t'.w := by rw [U.F.w]; exact w2
  have nd := (U.F.old.nodup_iff).mp (Tr.ropes_nodup t 0)
  have wide := Tr.inn_wide (ropes_bd h).1
  simp only at wide
  have hr := (ropes_iff w2).mp h
  rw [Tr.all_iff, Tr.all_iff, inn_iff w2, inn_iff w2', U.F.old.mem_iff, U.F.new.mem_iff, List.mem_cons, List.mem_cons, U.F.w]
  constructor
  · rintro ((e | e | e) | e)
    · refine .inl ⟨.inl (.inl e), fun z => hr.2 (by rw [← z]; exact e)⟩
    · exact .inr e
    · refine .inl ⟨.inl (.inr (.inr e)), fun z => (List.nodup_cons.mp nd).1 (by rw [← z]; exact e)⟩
    · refine .inl ⟨.inr e, fun z => ?_⟩
      rw [z] at e
      simp only at e
      omega
  · rintro (⟨(e | e | e) | e, ne⟩ | e)
    · exact .inl (.inl e)
    · exact absurd e ne
    · exact .inl (.inr (.inr e))
    · exact .inr e
    · exact .inl (.inr (.inl e))
/-- the new rope crosses the old one -/
theorem Turning.cross (C : Cutting n cut t) (U : Turning n cut t t' x y m o R) : (x < m ∧ m < y ∧ y < o ∧ min m o = m ∧ max m o = o) ∨ (o < x ∧ x < m ∧ m < y ∧ min m o = o ∧ max m o = m) := by
  have b := U.F.btw
  rcases U.out with h | h <;> omega
end
end Pm
namespace Pm
open PySem PySem.Spec PyProof.Rows L2
def crossP (a b c d : Int) : Prop := (c ≠ min a b ∧ c ≠ max a b ∧ d ≠ min a b ∧ d ≠ max a b) ∧ ¬ ((min a b < c ∧ c < max a b) ↔ (min a b < d ∧ d < max a b))
instance (a b c d : Int) : Decidable (crossP a b c d) := by unfold crossP; exact inferInstance
theorem cross_no {a b c d : Int} (h : c = min a b ∨ c = max a b ∨ d = min a b ∨ d = max a b) : decide (crossP a b c d) = false := by
  refine decide_eq_false fun q => ?_
  obtain ⟨⟨h1, h2, h3, h4⟩, _⟩ := q
  rcases h with h | h | h | h
  · exact h1 h
  · exact h2 h
  · exact h3 h
  · exact h4 h
theorem cross_is {a b c d : Int} {x y : Bool} (h : c ≠ min a b ∧ c ≠ max a b ∧ d ≠ min a b ∧ d ≠ max a b) (hx : x = decide (min a b < c ∧ c < max a b)) (hy : y = decide (min a b < d ∧ d < max a b)) : (!(x == y)) = decide (crossP a b c d) := by
  subst hx; subst hy
  by_cases h1 : (min a b < c ∧ c < max a b) <;> by_cases h2 : (min a b < d ∧ d < max a b)
  · rw [decide_eq_true h1, decide_eq_true h2, decide_eq_false (show ¬ crossP a b c d from fun q => q.2 ⟨fun _ => h2, fun _ => h1⟩)]; rfl
  · rw [decide_eq_true h1, decide_eq_false h2, decide_eq_true (show crossP a b c d from ⟨h, fun q => h2 (q.mp h1)⟩)]; rfl
  · rw [decide_eq_false h1, decide_eq_true h2, decide_eq_true (show crossP a b c d from ⟨h, fun q => h1 (q.mpr h2)⟩)]; rfl
  · rw [decide_eq_false h1, decide_eq_false h2, decide_eq_false (show ¬ crossP a b c d from fun q => q.2 ⟨fun z => absurd z h1, fun z => absurd z h2⟩)]; rfl
def spCross (K : PySem.W.Frag) : Sp := fun vs H Q _ => ∃ (t u : Addr) (a b c d : Int), vs = [.ref t, .ref u] ∧ SqT K H t [.int a, .int b] ∧ SqT K H u [.int c, .int d] ∧ Q (.bl (decide (crossP a b c d))) H
theorem cross_iff {a b c d : Int} (h1 : a < b) (h2 : c < d) : crossP a b c d ↔ (a < c ∧ c < b ∧ b < d) ∨ (c < a ∧ a < d ∧ d < b) := by
  unfold crossP
  rw [Int.min_eq_left (by omega), Int.max_eq_right (by omega)]
  omega
/-- ties of a cutting do not cross -/
theorem Cutting.nocross {n : Nat} {cut : List IP} {t : Tr} (C : Cutting n cut t) {p q : IP} (hp : p ∈ tiesL n cut) (hq : q ∈ tiesL n cut) : ¬ crossP p.1 p.2 q.1 q.2 := by
  obtain ⟨⟨a, b⟩, ha, rfl⟩ := C.ties.mp hp
  obtain ⟨⟨c, d⟩, hc, rfl⟩ := C.ties.mp hq
  have h1 := Tr.bd ha
  have h2 := Tr.bd hc
  simp only at h1 h2
  have n1 := Tr.noncross ha hc
  have n2 := Tr.noncross hc ha
  simp only at n1 n2
  simp only [castP]
  rw [cross_iff (by omega) (by omega)]
  omega
section
variable {n : Nat} {cut : List IP} {t t' : Tr} {x y m o : Nat} {R : List (Nat × Nat)}
theorem Turning.rope_mem (U : Turning n cut t t' x y m o R) : (x, y) ∈ t.ropes 0 := U.F.old.mem_iff.mpr List.mem_cons_self
theorem Turning.new_mem (U : Turning n cut t t' x y m o R) : (min m o, max m o) ∈ t'.ropes 0 := U.F.new.mem_iff.mpr List.mem_cons_self
theorem Turning.cutP (C : Cutting n cut t) (U : Turning n cut t t' x y m o R) : cut.Perm (castP (x, y) :: R.map castP) := C.perm.trans (U.F.old.map castP)
theorem Turning.newP (U : Turning n cut t t' x y m o R) : (turnedL n cut x y).Perm (castP (min m o, max m o) :: R.map castP) := U.cut'.perm.trans (U.F.new.map castP)
theorem Turning.len (C : Cutting n cut t) (U : Turning n cut t t' x y m o R) : (turnedL n cut x y).length = cut.length := by
  rw [U.newP.length_eq, (U.cutP C).length_eq] <;> rfl
theorem Turning.new_cross (C : Cutting n cut t) (U : Turning n cut t t' x y m o R) : crossP (castP (min m o, max m o)).1 (castP (min m o, max m o)).2 (castP (x, y)).1 (castP (x, y)).2 := by
  have c := U.cross C
  have b := U.F.btw
  simp only [castP]
  rw [cross_iff (by omega) (by omega)]
  omega
theorem Turning.new_notin (C : Cutting n cut t) (U : Turning n cut t t' x y m o R) : castP (min m o, max m o) ∉ tiesL n cut := fun h => by
  exact C.nocross h (mem_ties.mpr (.inr (C.mem.mpr ⟨_, U.rope_mem, rfl⟩))) (U.new_cross C)
theorem Turning.fresh (C : Cutting n cut t) (U : Turning n cut t t' x y m o R) : (turnedL n cut x y).filter (fun p => !decide (p ∈ cut)) = [castP (min m o, max m o)] := by
  have pp := U.newP.filter (fun p => !decide (p ∈ cut))
  rw [List.filter_cons_of_pos (by
    have : castP (min m o, max m o) ∉ cut := fun h => U.new_notin C (mem_ties.mpr (.inr h))
    simp [this])] at pp
  have e2 : (R.map castP).filter (fun p => !decide (p ∈ cut)) = [] := List.filter_eq_nil_iff.mpr (fun p hp => by
    have : p ∈ cut := (U.cutP C).mem_iff.mpr (List.mem_cons_of_mem _ hp)
    simp [this])
  rw [e2] at pp
  exact List.perm_singleton.mp pp
theorem Turning.keeps (C : Cutting n cut t) (U : Turning n cut t t' x y m o R) {p : IP} (hp : p ∈ cut) (hne : p ≠ castP (x, y)) : p ∈ turnedL n cut x y ∧ ¬ crossP p.1 p.2 (castP (min m o, max m o)).1 (castP (min m o, max m o)).2 := by
  have h1 : p ∈ turnedL n cut x y := by
    rcases List.mem_cons.mp ((U.cutP C).mem_iff.mp hp) with e | e
    · exact absurd e hne
    · exact U.newP.mem_iff.mpr (List.mem_cons_of_mem _ e)
  exact ⟨h1, U.cut'.nocross (mem_ties.mpr (.inr h1)) (mem_ties.mpr (.inr (U.cut'.mem.mpr ⟨_, U.new_mem, rfl⟩)))⟩
end
end Pm
namespace Pm
inductive ND where
  | i (n : Int)
  | t (xs : List ND)
namespace ND
mutual
def cmp : ND → ND → Ordering
  | .i a, .i b => compare a b
  | .i _, .t _ => .lt
  | .t _, .i _ => .gt
  | .t xs, .t ys => cmpL xs ys
def cmpL : List ND → List ND → Ordering
  | [], [] => .eq
  | [], _ :: _ => .lt
  | _ :: _, [] => .gt
  | x :: xs, y :: ys => (cmp x y).then (cmpL xs ys)
end
mutual
theorem cmp_swap : ∀ x y : ND, cmp y x = (cmp x y).swap
  | .i a, .i b => by simp only [cmp]; exact Std.OrientedCmp.eq_swap
  | .i _, .t _ => rfl
  | .t _, .i _ => rfl
  | .t xs, .t ys => by simp only [cmp]; exact cmpL_swap xs ys
theorem cmpL_swap : ∀ xs ys : List ND, cmpL ys xs = (cmpL xs ys).swap
  | [], [] => rfl
  | [], _ :: _ => rfl
  | _ :: _, [] => rfl
  | x :: xs, y :: ys => by
    simp only [cmpL]
    rw [cmp_swap x y, cmpL_swap xs ys]
    cases cmp x y <;> cases cmpL xs ys <;> rfl
end
mutual
theorem cmp_eq : ∀ {x y : ND}, cmp x y = .eq → x = y
  | .i a, .i b, h => by
    simp only [cmp] at h
    rw [show a = b from Std.LawfulEqCmp.eq_of_compare h]
  | .i _, .t _, h => by cases h
  | .t _, .i _, h => by cases h
  | .t xs, .t ys, h => by
    simp only [cmp] at h
    rw [cmpL_eq h]
theorem cmpL_eq : ∀ {xs ys : List ND}, cmpL xs ys = .eq → xs = ys
  | [], [], _ => rfl
  | [], _ :: _, h => by cases h
  | _ :: _, [], h => by cases h
  | x :: xs, y :: ys, h => by
    simp only [cmpL] at h
    cases e : cmp x y with
    | eq =>
      rw [e] at h
      rw [cmp_eq e, cmpL_eq (xs := xs) (ys := ys) h]
    | lt => rw [e] at h; cases h
    | gt => rw [e] at h; cases h
end
mutual
theorem cmp_self : ∀ x : ND, cmp x x = .eq
  | .i a => by simp only [cmp]; exact Std.ReflCmp.compare_self
  | .t xs => by simp only [cmp]; exact cmpL_self xs
theorem cmpL_self : ∀ xs : List ND, cmpL xs xs = .eq
  | [] => rfl
  | x :: xs => by simp only [cmpL]; rw [cmp_self x, cmpL_self xs]; rfl
end
theorem int_lt {a b : Int} : compare a b = .lt ↔ a < b := Int.compare_eq_lt
mutual
theorem cmp_trans : ∀ {x y z : ND}, cmp x y = .lt → cmp y z = .lt → cmp x z = .lt
  | .i a, .i b, .i c, h, k => by
    simp only [cmp] at h k ⊢
    rw [int_lt] at h k ⊢
    omega
  | .i _, .i _, .t _, _, _ => rfl
  | .i _, .t _, .i _, _, k => by cases k
  | .i _, .t _, .t _, _, _ => rfl
  | .t _, .i _, _, h, _ => by cases h
  | .t _, .t _, .i _, _, k => by cases k
  | .t xs, .t ys, .t zs, h, k => by
    simp only [cmp] at h k ⊢
    exact cmpL_trans h k
theorem cmpL_trans : ∀ {xs ys zs : List ND}, cmpL xs ys = .lt → cmpL ys zs = .lt → cmpL xs zs = .lt
  | [], [], _, h, _ => by cases h
  | [], _ :: _, [], _, k => by cases k
  | [], _ :: _, _ :: _, _, _ => rfl
  | _ :: _, [], _, h, _ => by cases h
  | _ :: _, _ :: _, [], _, k => by cases k
  | x :: xs, y :: ys, z :: zs, h, k => by
    simp only [cmpL] at h k ⊢
    cases e1 : cmp x y with
    | gt => rw [e1] at h; cases h
    | lt =>
      cases e2 : cmp y z with
      | gt => rw [e2] at k; cases k
      | lt => rw [cmp_trans e1 e2]; rfl
      | eq => rw [← cmp_eq e2, e1]; rfl
    | eq =>
      rw [e1] at h
      have h : cmpL xs ys = .lt := h
      have e := cmp_eq e1
      subst e
      cases e2 : cmp x z with
      | gt => rw [e2] at k; cases k
      | lt => rfl
      | eq =>
        rw [e2] at k
        have k : cmpL ys zs = .lt := k
        show (Ordering.eq).then (cmpL xs zs) = .lt
        exact cmpL_trans (xs := xs) h k
end
def ltB (x y : ND) : Bool := cmp x y == .lt
theorem ltB_iff {x y : ND} : ltB x y = true ↔ cmp x y = .lt := by unfold ltB; cases cmp x y <;> simp
theorem ltB_no {x y : ND} : ltB x y = false ↔ cmp x y ≠ .lt := by unfold ltB; cases cmp x y <;> simp
theorem ltB_asym {x y : ND} (h : ltB x y = true) : ltB y x = false := by
  rw [ltB_iff] at h
  rw [ltB_no, cmp_swap x y, h]
  simp
theorem ltB_tr {x y z : ND} (h1 : ltB y x = false) (h2 : ltB z y = false) : ltB z x = false := by
  rw [ltB_no] at *
  intro h
  cases e : cmp x y with
  | lt => exact h2 (cmp_trans h e)
  | eq => exact h2 (by rw [← cmp_eq e]; exact h)
  | gt => exact h1 (by rw [cmp_swap x y, e]; rfl)
def leB (x y : ND) : Bool := !ltB y x
theorem leB_trans (x y z : ND) (h : leB x y = true) (k : leB y z = true) : leB x z = true := by
  unfold leB at *
  rw [Bool.not_eq_true'] at *
  exact ltB_tr h k
theorem leB_total (x y : ND) : (leB x y || leB y x) = true := by
  unfold leB
  cases e : ltB y x with
  | false => rfl
  | true => rw [ltB_asym e]; rfl
theorem leB_anti {x y : ND} (h : leB x y = true) (k : leB y x = true) : x = y := by
  unfold leB at *
  rw [Bool.not_eq_true', ltB_no] at *
  cases e : cmp x y with
  | eq => exact cmp_eq e
  | lt => exact absurd e k
  | gt => exact absurd (by rw [cmp_swap x y, e]; rfl) h
abbrev Ris (ds : List ND) : Prop := ds.Pairwise fun x y => leB x y = true
def sort (ds : List ND) : List ND := ds.mergeSort leB
theorem sort_perm (ds : List ND) : (sort ds).Perm ds := List.mergeSort_perm ds leB
theorem sort_ris (ds : List ND) : Ris (sort ds) := List.pairwise_mergeSort leB_trans leB_total ds
theorem ris_eq {ds es : List ND} (h : Ris ds) (k : Ris es) (e : ds.Perm es) : ds = es := List.Perm.eq_of_pairwise (fun _ _ _ _ a b => leB_anti a b) h k e
theorem sort_eq {ds es : List ND} (h : Ris ds) (e : ds.Perm es) : sort es = ds := ris_eq (sort_ris es) h ((sort_perm es).trans e.symm)
mutual
def py : ND → PySem.PyData
  | .i n => .int n
  | .t xs => .tuple (pyL xs)
def pyL : List ND → List PySem.PyData
  | [] => []
  | x :: xs => py x :: pyL xs
end
theorem pyL_map : ∀ xs : List ND, pyL xs = xs.map py
  | [] => rfl
  | x :: xs => by rw [pyL, pyL_map xs]; rfl
mutual
def of : PySem.PyData → ND
  | .int n => .i n
  | .tuple xs => .t (ofL xs)
  | .list _ => .i 0
  | .dict _ => .i 0
  | .none => .i 0
  | .bool _ => .i 0
  | .str _ => .i 0
def ofL : List PySem.PyData → List ND
  | [] => []
  | x :: xs => of x :: ofL xs
end
mutual
theorem of_py : ∀ d : ND, of (py d) = d
  | .i n => by simp only [py, of]
  | .t xs => by simp only [py, of]; rw [ofL_pyL xs]
theorem ofL_pyL : ∀ ds : List ND, ofL (pyL ds) = ds
  | [] => rfl
  | x :: xs => by simp only [pyL, ofL]; rw [of_py x, ofL_pyL xs]
end
mutual
theorem lay : ∀ d : ND, (py d).canLay0 = true
  | .i n => by simp only [py, PySem.PyData.canLay0]
  | .t xs => by simp only [py, PySem.PyData.canLay0]; exact layL xs
theorem layL : ∀ ds : List ND, PySem.PyData.canLayAll0 (pyL ds) = true
  | [] => by simp only [pyL, PySem.PyData.canLayAll0]
  | x :: xs => by simp only [pyL, PySem.PyData.canLayAll0]; rw [lay x, layL xs]; rfl
end
mutual
theorem eqv_py : ∀ x y : ND, PySem.PyData.eqv (py x) (py y) = (cmp x y == .eq)
  | .i a, .i b => by
    simp only [py, PySem.PyData.eqv, cmp]
    by_cases h : a = b
    · subst h; simp
    · have : compare a b ≠ .eq := fun e => h (Std.LawfulEqCmp.eq_of_compare e)
      cases e : compare a b <;> simp_all
  | .i _, .t _ => by simp only [py, PySem.PyData.eqv, cmp]; rfl
  | .t _, .i _ => by simp only [py, PySem.PyData.eqv, cmp]; rfl
  | .t xs, .t ys => by simp only [py, PySem.PyData.eqv, cmp]; exact eqvAll_py xs ys
theorem eqvAll_py : ∀ xs ys : List ND, PySem.PyData.eqvAll (pyL xs) (pyL ys) = (cmpL xs ys == .eq)
  | [], [] => by simp [pyL, PySem.PyData.eqvAll, cmpL]
  | [], _ :: _ => by simp [pyL, PySem.PyData.eqvAll, cmpL]
  | _ :: _, [] => by simp [pyL, PySem.PyData.eqvAll, cmpL]
  | x :: xs, y :: ys => by
    simp only [pyL, PySem.PyData.eqvAll, cmpL]
    rw [eqv_py x y, eqvAll_py xs ys]
    cases cmp x y <;> cases cmpL xs ys <;> rfl
end
theorem eqv_false {x y : ND} (h : PySem.PyData.eqv (py x) (py y) = false) : cmp x y ≠ .eq := fun e => by
  rw [eqv_py, e] at h
  cases h
theorem eqv_true {x y : ND} (h : PySem.PyData.eqv (py x) (py y) = true) : cmp x y = .eq := by
  rw [eqv_py] at h
  cases e : cmp x y with
  | eq => rfl
  | lt => rw [e] at h; cases h
  | gt => rw [e] at h; cases h
mutual
def hom : ND → ND → Bool
  | .i _, .i _ => true
  | .t xs, .t ys => homL xs ys
  | .i _, .t _ => false
  | .t _, .i _ => false
def homL : List ND → List ND → Bool
  | [], _ => true
  | _ :: _, [] => true
  | x :: xs, y :: ys => hom x y && homL xs ys
end
def dep (d : ND) : Nat := (py d).depth
end ND
open PySem PySem.Spec PyProof.Rows L2
theorem readsAll_at {h : Heap} : ∀ {vs : List Value} {ds : List PyData} {as : List Addr} {j : Nat} (_ : ReadsAll h vs ds as) (h1 : j < vs.length) (h2 : j < ds.length), ∃ bs, Reads h vs[j] ds[j] bs
  | _ :: _, _ :: _, _, 0, .cons r _, _, _ => ⟨_, r⟩
  | _ :: _, _ :: _, _, j + 1, .cons _ t, h1, h2 => readsAll_at t (Nat.lt_of_succ_lt_succ h1) (Nat.lt_of_succ_lt_succ h2)
theorem lexAt_shift (e r : Nat → Bool) (z : Bool) : ∀ (k i : Nat), Ob.lexAt (fun j => e (j + 1)) (fun j => r (j + 1)) z i k = Ob.lexAt e r z (i + 1) k
  | 0, _ => rfl
  | k + 1, i => by
    show (if e (i + 1) = true then Ob.lexAt _ _ z (i + 1) k else r (i + 1)) = (if e (i + 1) = true then Ob.lexAt e r z (i + 1 + 1) k else r (i + 1))
    rw [lexAt_shift e r z k (i + 1)]
theorem lexAt_cmp : ∀ (xs ys : List ND), Ob.lexAt (fun j => ND.cmp (xs.getD j (.i 0)) (ys.getD j (.i 0)) == .eq) (fun j => ND.ltB (xs.getD j (.i 0)) (ys.getD j (.i 0))) (decide (xs.length < ys.length)) 0 (min xs.length ys.length) = (ND.cmpL xs ys == .lt)
  | [], [] => rfl
  | [], y :: ys => by simp [Ob.lexAt, ND.cmpL]
  | x :: xs, [] => by simp [Ob.lexAt, ND.cmpL]
  | x :: xs, y :: ys => by
    have ih := lexAt_cmp xs ys
    rw [List.length_cons, List.length_cons, show min (xs.length + 1) (ys.length + 1) = min xs.length ys.length + 1 by omega, Ob.lexAt_succ]
    rw [← lexAt_shift]
    show (if (ND.cmp x y == .eq) = true then Ob.lexAt (fun j => ND.cmp (xs.getD j (.i 0)) (ys.getD j (.i 0)) == .eq) (fun j => ND.ltB (xs.getD j (.i 0)) (ys.getD j (.i 0))) (decide (xs.length + 1 < ys.length + 1)) 0 _ else ND.ltB x y) = ((ND.cmp x y).then (ND.cmpL xs ys) == .lt)
    rw [show decide (xs.length + 1 < ys.length + 1) = decide (xs.length < ys.length) from decide_eq_decide.mpr (by omega), ih]
    unfold ND.ltB
    cases ND.cmp x y <;> rfl
theorem py_getD (xs : List ND) {j : Nat} (h : j < (ND.pyL xs).length) : (ND.pyL xs)[j] = ND.py (xs.getD j (.i 0)) := by
  have h' : j < xs.length := by rw [ND.pyL_map, List.length_map] at h; exact h
  rw [List.getD_eq_getElem?_getD, List.getElem?_eq_getElem h']
  simp only [ND.pyL_map, List.getElem_map, Option.getD_some]
theorem depL (xs : List ND) (j : Nat) : (ND.py (xs.getD j (.i 0))).depth ≤ PyData.depthAll (ND.pyL xs) := by
  induction xs generalizing j with
  | nil => show PyData.depth (.int 0) ≤ _; simp [PyData.depth]
  | cons x xs ih =>
    cases j with
    | zero =>
      show (ND.py x).depth ≤ PyData.depthAll (ND.py x :: ND.pyL xs)
      simp only [PyData.depthAll]
      omega
    | succ j =>
      have := ih j
      show (ND.py (xs.getD j (.i 0))).depth ≤ PyData.depthAll (ND.py x :: ND.pyL xs)
      simp only [PyData.depthAll]
      omega
theorem hom_at : ∀ {xs ys : List ND} {j : Nat}, ND.homL xs ys = true → j < xs.length → j < ys.length → ND.hom (xs.getD j (.i 0)) (ys.getD j (.i 0)) = true
  | x :: xs, y :: ys, 0, h, _, _ => by
    simp only [ND.homL, Bool.and_eq_true] at h
    exact h.1
  | x :: xs, y :: ys, j + 1, h, h1, h2 => by
    simp only [ND.homL, Bool.and_eq_true] at h
    exact hom_at (xs := xs) (ys := ys) h.2 (Nat.lt_of_succ_lt_succ h1) (Nat.lt_of_succ_lt_succ h2)
theorem nd_size : ∀ (xs : List ND) (j : Nat), j < xs.length → sizeOf (xs.getD j (.i 0)) < sizeOf xs
  | x :: xs, 0, _ => by show sizeOf x < sizeOf (x :: xs); simp; omega
  | x :: xs, j + 1, h => by
    have := nd_size xs j (Nat.lt_of_succ_lt_succ h)
    show sizeOf (xs.getD j (.i 0)) < sizeOf (x :: xs)
    simp only [List.cons.sizeOf_spec]
    omega
/-- x < y of nested tuples of numbers of one form -/
theorem rc_lt : ∀ (x y : ND) (A : Around) (s : Shared) (a b : Value) (as bs : List Addr), Reads s.heap a x.py as → Reads s.heap b y.py bs → ND.hom x y = true → A.units + min x.dep y.dep < cLine → Ob.RcOp .Lt A s a b (ND.ltB x y)
  | .i p, .i q, A, s, a, b, as, bs, ra, rb, _, hu => by
    simp only [ND.py] at ra rb
    cases ra
    cases rb
    have e : ND.ltB (.i p) (.i q) = decide (p < q) := by
      unfold ND.ltB
      simp only [ND.cmp]
      by_cases h : p < q
      · rw [decide_eq_true h, ND.int_lt.mpr h]; rfl
      · rw [decide_eq_false h]
        have : compare p q ≠ .lt := fun e => h (ND.int_lt.mp e)
        cases e : compare p q <;> simp_all
    rw [e]
    exact Ob.RcOp.lt_int _ _ _ _
  | .t xs, .t ys, A, s, a, b, as, bs, ra, rb, hh, hu => by
    simp only [ND.py] at ra rb
    cases ra with
    | tuple k1 k2 k3 k4 =>
      cases rb with
      | tuple l1 l2 l3 l4 =>
        rename_i a oa vs na b ob ws nb
        have n1 := SeqAt.ReadsAll.length _ _ _ k4
        have n2 := SeqAt.ReadsAll.length _ _ _ l4
        simp only [ND.hom] at hh
        have dx : (ND.t xs).dep = PyData.depthAll (ND.pyL xs) + 1 := by simp only [ND.dep, ND.py, PyData.depth]
        have dy : (ND.t ys).dep = PyData.depthAll (ND.pyL ys) + 1 := by simp only [ND.dep, ND.py, PyData.depth]
        rw [dx, dy] at hu
        have px : (ND.pyL xs).length = xs.length := by rw [ND.pyL_map, List.length_map]
        have py' : (ND.pyL ys).length = ys.length := by rw [ND.pyL_map, List.length_map]
        have e1 : vs.size = xs.length := by rw [← px, ← n1, Array.length_toList]
        have e2 : ws.size = ys.length := by rw [← py', ← n2, Array.length_toList]
        have in1 : A.in1.units = A.units + 1 := rfl
        have R := Ob.RcOp.tuples_lt (A := A) (s := s) (e := fun j => ND.cmp (xs.getD j (.i 0)) (ys.getD j (.i 0)) == .eq) (r := fun j => ND.ltB (xs.getD j (.i 0)) (ys.getD j (.i 0))) ⟨_, k1, k2, _, k3⟩ ⟨_, l1, l2, _, l3⟩ (by omega)
          (fun j h1 h2 => by
            obtain ⟨cs, r1⟩ := readsAll_at (j := j) k4 (by simpa using h1) (by omega)
            obtain ⟨ds, r2⟩ := readsAll_at (j := j) l4 (by simpa using h2) (by omega)
            rw [py_getD] at r1 r2
            have z := SeqAt.eqAt_reads _ _ A.in1 s _ _ _ _ r1 r2 (ND.lay _) (ND.lay _) (by have := depL xs j; have := depL ys j; rw [in1]; omega)
            rw [ND.eqv_py] at z
            simpa using z)
          (fun j h1 h2 _ => by
            obtain ⟨cs, r1⟩ := readsAll_at (j := j) k4 (by simpa using h1) (by omega)
            obtain ⟨ds, r2⟩ := readsAll_at (j := j) l4 (by simpa using h2) (by omega)
            rw [py_getD] at r1 r2
            have sz := nd_size xs j (by omega)
            have z := rc_lt (xs.getD j (.i 0)) (ys.getD j (.i 0)) A.in1 s _ _ _ _ r1 r2 (hom_at hh (by omega) (by omega)) (by have := depL xs j; have := depL ys j; rw [in1]; simp only [ND.dep]; omega)
            simpa using z)
        rw [e1, e2, lexAt_cmp] at R
        exact R
  | .i _, .t _, _, _, _, _, _, _, _, _, h, _ => by simp [ND.hom] at h
  | .t _, .i _, _, _, _, _, _, _, _, _, h, _ => by simp [ND.hom] at h
termination_by x => sizeOf x
decreasing_by simp only [ND.t.sizeOf_spec]; omega
theorem lexAt_not (e r : Nat → Bool) (z : Bool) : ∀ (k i : Nat), Ob.lexAt e (fun j => !r j) (!z) i k = !Ob.lexAt e r z i k
  | 0, _ => rfl
  | k + 1, i => by
    rw [Ob.lexAt_succ, Ob.lexAt_succ, lexAt_not e r z k (i + 1)]
    split <;> rfl
/-- x >= y of nested tuples of numbers of one form -/
theorem rc_ge : ∀ (x y : ND) (A : Around) (s : Shared) (a b : Value) (as bs : List Addr), Reads s.heap a x.py as → Reads s.heap b y.py bs → ND.hom x y = true → A.units + min x.dep y.dep < cLine → Ob.RcOp .GtE A s a b (!ND.ltB x y)
  | .i p, .i q, A, s, a, b, as, bs, ra, rb, _, hu => by
    simp only [ND.py] at ra rb
    cases ra
    cases rb
    have e : ND.ltB (.i p) (.i q) = decide (p < q) := by
      unfold ND.ltB
      simp only [ND.cmp]
      by_cases h : p < q
      · rw [decide_eq_true h, ND.int_lt.mpr h]; rfl
      · rw [decide_eq_false h]
        have : compare p q ≠ .lt := fun e => h (ND.int_lt.mp e)
        cases e : compare p q <;> simp_all
    rw [e, show (!decide (p < q)) = decide (q ≤ p) by by_cases h : p < q <;> simp [h] <;> omega]
    exact Ob.RcOp.ge_int _ _ _ _
  | .t xs, .t ys, A, s, a, b, as, bs, ra, rb, hh, hu => by
    simp only [ND.py] at ra rb
    cases ra with
    | tuple k1 k2 k3 k4 =>
      cases rb with
      | tuple l1 l2 l3 l4 =>
        rename_i a oa vs na b ob ws nb
        have n1 := SeqAt.ReadsAll.length _ _ _ k4
        have n2 := SeqAt.ReadsAll.length _ _ _ l4
        simp only [ND.hom] at hh
        have dx : (ND.t xs).dep = PyData.depthAll (ND.pyL xs) + 1 := by simp only [ND.dep, ND.py, PyData.depth]
        have dy : (ND.t ys).dep = PyData.depthAll (ND.pyL ys) + 1 := by simp only [ND.dep, ND.py, PyData.depth]
        rw [dx, dy] at hu
        have px : (ND.pyL xs).length = xs.length := by rw [ND.pyL_map, List.length_map]
        have py' : (ND.pyL ys).length = ys.length := by rw [ND.pyL_map, List.length_map]
        have e1 : vs.size = xs.length := by rw [← px, ← n1, Array.length_toList]
        have e2 : ws.size = ys.length := by rw [← py', ← n2, Array.length_toList]
        have in1 : A.in1.units = A.units + 1 := rfl
        have R := Ob.RcOp.tuples_ge (A := A) (s := s) (e := fun j => ND.cmp (xs.getD j (.i 0)) (ys.getD j (.i 0)) == .eq) (r := fun j => !ND.ltB (xs.getD j (.i 0)) (ys.getD j (.i 0))) ⟨_, k1, k2, _, k3⟩ ⟨_, l1, l2, _, l3⟩ (by omega)
          (fun j h1 h2 => by
            obtain ⟨cs, r1⟩ := readsAll_at (j := j) k4 (by simpa using h1) (by omega)
            obtain ⟨ds, r2⟩ := readsAll_at (j := j) l4 (by simpa using h2) (by omega)
            rw [py_getD] at r1 r2
            have z := SeqAt.eqAt_reads _ _ A.in1 s _ _ _ _ r1 r2 (ND.lay _) (ND.lay _) (by have := depL xs j; have := depL ys j; rw [in1]; omega)
            rw [ND.eqv_py] at z
            simpa using z)
          (fun j h1 h2 _ => by
            obtain ⟨cs, r1⟩ := readsAll_at (j := j) k4 (by simpa using h1) (by omega)
            obtain ⟨ds, r2⟩ := readsAll_at (j := j) l4 (by simpa using h2) (by omega)
            rw [py_getD] at r1 r2
            have sz := nd_size xs j (by omega)
            have z := rc_ge (xs.getD j (.i 0)) (ys.getD j (.i 0)) A.in1 s _ _ _ _ r1 r2 (hom_at hh (by omega) (by omega)) (by have := depL xs j; have := depL ys j; rw [in1]; simp only [ND.dep]; omega)
            simpa using z)
        rw [e1, e2, show decide (xs.length ≥ ys.length) = !decide (xs.length < ys.length) by by_cases h : xs.length < ys.length <;> simp [h] <;> omega, lexAt_not, lexAt_cmp] at R
        exact R
  | .i _, .t _, _, _, _, _, _, _, _, _, h, _ => by simp [ND.hom] at h
  | .t _, .i _, _, _, _, _, _, _, _, _, h, _ => by simp [ND.hom] at h
termination_by x => sizeOf x
decreasing_by simp only [ND.t.sizeOf_spec]; omega
mutual
theorem reads_keep {h h' : Heap} (k : ∀ b o, h.get? b = some o → o.cls = .type "tuple" → h'.get? b = some o) : ∀ (d : ND) (v : Value) (as : List Addr), Reads h v d.py as → Reads h' v d.py as
  | .i n, v, as, r => by
    simp only [ND.py] at r ⊢
    cases r
    exact .int _ _
  | .t xs, v, as, r => by
    simp only [ND.py] at r ⊢
    cases r with
    | tuple k1 k2 k3 k4 => exact .tuple (k _ _ k1 k2) k2 k3 (readsL_keep k xs _ _ k4)
theorem readsL_keep {h h' : Heap} (k : ∀ b o, h.get? b = some o → o.cls = .type "tuple" → h'.get? b = some o) : ∀ (ds : List ND) (vs : List Value) (as : List Addr), ReadsAll h vs (ND.pyL ds) as → ReadsAll h' vs (ND.pyL ds) as
  | [], vs, as, r => by
    simp only [ND.pyL] at r ⊢
    cases r
    exact .nil
  | d :: ds, vs, as, r => by
    simp only [ND.pyL] at r ⊢
    cases r with
    | cons r1 r2 => exact .cons (reads_keep k d _ _ r1) (readsL_keep k ds _ _ r2)
end
section
variable {prog : Program} {w : World} {A : Around} {E : Value → Shared → Prop} {s : Shared}
theorem kat_all {b : Bool} : ∀ (xs ys : List ND) (vs ws : List Value) (as bs : List Addr) (i : Nat), ReadsAll s.heap vs (ND.pyL xs) as → ReadsAll s.heap ws (ND.pyL ys) bs → ND.homL xs ys = true → A.units + max (PyData.depthAll (ND.pyL xs)) (PyData.depthAll (ND.pyL ys)) < cLine →
    ((b && i == 0) = true → ∀ x ∈ xs, ∃ n r, xs = .i n :: r) → PySem.W.KatLex prog w A b (decide (xs.length < ys.length)) (fun r s' => s' = s ∧ r = (ND.cmpL xs ys == .lt)) (vs.zip ws) i s
  | [], [], vs, ws, as, bs, i, ra, rb, _, _, _ => by
    simp only [ND.pyL] at ra rb
    cases ra
    cases rb
    exact PySem.W.kat_nil ⟨rfl, rfl⟩
  | [], y :: ys, vs, ws, as, bs, i, ra, rb, _, _, _ => by
    simp only [ND.pyL] at ra rb
    cases ra
    exact PySem.W.kat_nil ⟨rfl, by simp [ND.cmpL]⟩
  | x :: xs, [], vs, ws, as, bs, i, ra, rb, _, _, _ => by
    simp only [ND.pyL] at ra rb
    cases rb
    rw [List.zip_nil_right]
    exact PySem.W.kat_nil ⟨rfl, by simp [ND.cmpL]⟩
  | x :: xs, y :: ys, vs, ws, as, bs, i, ra, rb, hh, hu, hb => by
    simp only [ND.pyL] at ra rb hu
    simp only [PyData.depthAll] at hu
    simp only [ND.homL, Bool.and_eq_true] at hh
    cases ra with
    | cons r1 r2 =>
      cases rb with
      | cons q1 q2 =>
        rename_i v vs' as1 as2 u us' bs1 bs2
        rw [List.zip_cons_cons]
        have ee := SeqAt.eqAt_reads _ _ A s _ _ _ _ r1 q1 (ND.lay x) (ND.lay y) (by omega)
        refine PySem.W.kat_cons (ee prog w _ _ ?_)
        refine PySem.W.kat_go (fun e1 => ?_) (fun e1 => ?_)
        · have ec := ND.eqv_true e1
          have ih := kat_all (b := b) xs ys vs' us' _ _ (i + 1) r2 q2 hh.2 (by omega) (fun z => by simp at z)
          rw [List.length_cons, List.length_cons, show decide (xs.length + 1 < ys.length + 1) = decide (xs.length < ys.length) from decide_eq_decide.mpr (by omega)]
          refine PySem.W.kat_yes ?_
          have ev : ND.cmpL (x :: xs) (y :: ys) = ND.cmpL xs ys := by simp only [ND.cmpL]; rw [ec]; rfl
          rw [ev]
          exact ih
        · have ec := ND.eqv_false e1
          have ev : (ND.cmpL (x :: xs) (y :: ys) == .lt) = ND.ltB x y := by
            simp only [ND.cmpL, ND.ltB]
            cases e : ND.cmp x y with
            | eq => exact absurd e ec
            | lt => rfl
            | gt => rfl
          rw [ev]
          refine PySem.W.kat_no ?_
          cases hc : (b && i == 0) with
          | true =>
            obtain ⟨n, r, en⟩ := hb hc x List.mem_cons_self
            injection en with en _
            subst en
            cases y with
            | t _ => simp [ND.hom] at hh
            | i m =>
              simp only [ND.py] at r1 q1
              cases r1
              cases q1
              refine TS.oneLt_ints true ?_
              refine ⟨rfl, ?_⟩
              unfold ND.ltB
              simp only [ND.cmp]
              by_cases h : n < m
              · rw [decide_eq_true h, ND.int_lt.mpr h]; rfl
              · rw [decide_eq_false h]
                have : compare n m ≠ .lt := fun e => h (ND.int_lt.mp e)
                cases e : compare n m <;> simp_all
          | false =>
            refine PySem.W.kat_one _ _ ?_
            exact rc_lt x y A s _ _ _ _ r1 q1 hh.1 (by simp only [ND.dep]; omega) prog w _ _ ⟨rfl, rfl⟩
noncomputable def datOf (h : Heap) (v : Value) : ND := ND.of (SeqAt.readOf h v)
theorem datOf_eq {h : Heap} {v : Value} {d : ND} {as : List Addr} (r : Reads h v d.py as) : datOf h v = d := by
  unfold datOf
  rw [SeqAt.readOf_eq (ND.lay d) r, ND.of_py]
/-- what a list to be sorted holds: tuples, not empty, of one form -/
structure SrtOk (ds : List ND) : Prop where
  tup : ∀ d ∈ ds, ∃ f r, d = .t (f :: r)
  hom : ∀ d ∈ ds, ∀ e ∈ ds, ND.hom d e = true
  dep : ∀ d ∈ ds, d.dep ≤ 8
theorem swo_dat (f : Value → ND) : SrtO.Swo fun v u => ND.ltB (f v) (f u) := ⟨fun _ _ h => ND.ltB_asym h, fun _ _ _ h1 h2 => ND.ltB_tr h1 h2⟩
theorem firsts_nd : ∀ {h : Heap} {vs : List Value} {ds : List ND}, All2 (fun v d => ∃ as, Reads h v (ND.py d) as) vs ds → (∀ d ∈ ds, ∃ f r, d = .t (f :: r)) →
    ∃ fs : List Value, PySem.W.KatTups h vs fs ∧ fs.length = vs.length ∧ ∀ f ∈ fs, ∃ d g r as, d ∈ ds ∧ d = .t (g :: r) ∧ Reads h f g.py as
  | _, [], [], _, _ => ⟨[], .nil, rfl, fun _ hf => absurd hf List.not_mem_nil⟩
  | h, v :: vs, d :: ds, ha, ht => by
    obtain ⟨⟨as, r⟩, ha'⟩ := ha
    obtain ⟨fs, k, kl, kf⟩ := firsts_nd ha' fun d hd => ht d (List.mem_cons_of_mem _ hd)
    obtain ⟨g, rr, e⟩ := ht d List.mem_cons_self
    subst e
    simp only [ND.py, ND.pyL] at r
    cases r with
    | tuple k1 k2 k3 k4 =>
      rename_i a o ws n
      obtain ⟨wl⟩ := ws
      cases k4 with
      | cons q1 q2 =>
        rename_i x xs bs cs
        refine ⟨x :: fs, .cons k1 k2 k3 (by simp) k, by simp [kl], fun f hf => ?_⟩
        rcases List.mem_cons.mp hf with e | e
        · subst e
          exact ⟨_, g, rr, _, List.mem_cons_self, rfl, q1⟩
        · obtain ⟨d, g', r', as', h1, h2, h3⟩ := kf f e
          exact ⟨d, g', r', as', List.mem_cons_of_mem _ h1, h2, h3⟩
theorem nd_sortable {a : Addr} {vs : List Value} {ds : List ND} (h0 : 0 < vs.length) (hp : All2 (fun v d => ∃ as, Reads s.heap v (ND.py d) as) vs ds) (ok : SrtOk ds) (hu : A.units + 16 < cLine) (ha : ∀ o, s.heap.get? a = some o → o.cls ≠ .type "tuple") (f : Value → ND) (hf : ∀ v ∈ vs, ∀ d as, Reads s.heap v (ND.py d) as → f v = d) : SrtO.SortableO prog w A s a vs fun v u => ND.ltB (f v) (f u) := by
  intro h' keep
  have kt : ∀ b o, s.heap.get? b = some o → o.cls = .type "tuple" → h'.get? b = some o := fun b o e c => keep b o (fun z => by subst z; exact ha o e c) e
  have hp' : All2 (fun v d => ∃ as, Reads h' v (ND.py d) as) vs ds := hp.mono fun v d ⟨as, r⟩ => ⟨as, reads_keep kt d v as r⟩
  obtain ⟨fs, k1, k2, k3⟩ := firsts_nd hp' ok.tup
  -- the kind
  obtain ⟨f0, hf0⟩ : ∃ f0, f0 ∈ fs := by
    match fs, k2 with
    | [], k => simp at k; omega
    | x :: _, _ => exact ⟨x, List.mem_cons_self⟩
  obtain ⟨d0, g0, r0, as0, hd0, e0, rd0⟩ := k3 f0 hf0
  have same : ∀ f ∈ fs, ∃ g as, Reads h' f (ND.py g) as ∧ ND.hom g g0 = true := fun f hf => by
    obtain ⟨d, g, r, as, hd, e, rd⟩ := k3 f hf
    have hh := ok.hom d hd d0 hd0
    rw [e, e0] at hh
    simp only [ND.hom, ND.homL, Bool.and_eq_true] at hh
    exact ⟨g, as, rd, hh.1⟩
  have cmpB : ∀ b : Bool, (b = true → ∀ d ∈ ds, ∃ n r, d = .t (.i n :: r)) → SrtO.Cmp prog w A { s with heap := h' } (tuples' b) (fun p => p.1 ∈ vs) (SrtO.lt2 fun v u => ND.ltB (f v) (f u)) := fun b hb p q hm hm' => by
    obtain ⟨d, hd, as, rd⟩ := hp.mem hm
    obtain ⟨e, he, bs, re⟩ := hp.mem hm'
    have ef := hf _ hm d as rd
    have eg := hf _ hm' e bs re
    show wpAny (model prog w) A (keyLt' (tuples' b) p.1 q.1) (fun r s' => s' = _ ∧ r = ND.ltB (f p.1) (f q.1)) (fun _ _ => False) _
    rw [ef, eg]
    have rd' := reads_keep kt d _ _ rd
    have re' := reads_keep kt e _ _ re
    have hh := ok.hom d hd e he
    have dd := ok.dep d hd
    have de := ok.dep e he
    obtain ⟨g, r, rfl⟩ := ok.tup d hd
    obtain ⟨g', r', rfl⟩ := ok.tup e he
    have hb' : b = true → ∃ n, g = .i n := fun z => by
      obtain ⟨n, rr, en⟩ := hb z _ hd
      injection en with en
      injection en with en _
      exact ⟨n, en⟩
    generalize hv : p.1 = v at rd'
    generalize hw : q.1 = u at re'
    have dx : ∀ xs : List ND, (ND.t xs).dep = PyData.depthAll (ND.pyL xs) + 1 := fun xs => by simp only [ND.dep, ND.py, PyData.depth]
    rw [dx] at dd de
    have rd2 : Reads h' v (.tuple (ND.pyL (g :: r))) as := by simpa only [ND.py] using rd'
    have re2 : Reads h' u (.tuple (ND.pyL (g' :: r'))) bs := by simpa only [ND.py] using re'
    cases rd2 with
    | tuple k1 k2 k3 k4 =>
      cases re2 with
      | tuple l1 l2 l3 l4 =>
        rename_i va vo vvs vn ua uo uvs un
        refine PySem.W.kat_lt k1 k3 l1 l3 ?_
        have z := kat_all (prog := prog) (w := w) (A := A) (s := { s with heap := h' }) (b := b) (g :: r) (g' :: r') vvs.toList uvs.toList _ _ 0 k4 l4 (by simpa only [ND.hom] using hh) (by omega) (fun z x _ => by
          obtain ⟨n, en⟩ := hb' (by simpa using z)
          exact ⟨n, r, by rw [en]⟩)
        have n1 := SeqAt.ReadsAll.length _ _ _ k4
        have n2 := SeqAt.ReadsAll.length _ _ _ l4
        have m1 : vvs.size = (g :: r).length := by rw [← Array.length_toList, n1, ND.pyL_map, List.length_map]
        have m2 : uvs.size = (g' :: r').length := by rw [← Array.length_toList, n2, ND.pyL_map, List.length_map]
        rw [m1, m2]
        have ev : ND.ltB (.t (g :: r)) (.t (g' :: r')) = (ND.cmpL (g :: r) (g' :: r') == .lt) := by simp only [ND.ltB, ND.cmp]
        rw [ev]
        exact z
  cases g0 with
  | i n0 =>
    refine ⟨tuples' true, fun Q E hq => ?_, cmpB true fun _ d hd => ?_⟩
    · refine PySem.W.kat_kind (T := .type "int") k1 (by omega) (fun f hm => ?_) (by rfl) ?_
      · obtain ⟨g, as, rd, hh⟩ := same f hm
        cases g with
        | t _ => simp [ND.hom] at hh
        | i n =>
          simp only [ND.py] at rd
          cases rd
          exact PySem.W.Looks.now
      · have e : (Value.type "int" != Value.type "tuple") = true := by first | decide +kernel | rfl | decide
        rw [e]
        exact hq
    · have hh := ok.hom d hd d0 hd0
      obtain ⟨g, r, rfl⟩ := ok.tup d hd
      rw [e0] at hh
      simp only [ND.hom, ND.homL, Bool.and_eq_true] at hh
      cases g with
      | t _ => simp [ND.hom] at hh
      | i n => exact ⟨n, r, rfl⟩
  | t x0 =>
    refine ⟨tuples' false, fun Q E hq => ?_, cmpB false fun z => by cases z⟩
    refine PySem.W.kat_kind (T := .type "tuple") k1 (by omega) (fun f hm => ?_) (by rfl) ?_
    · obtain ⟨g, as, rd, hh⟩ := same f hm
      cases g with
      | i _ => simp [ND.hom] at hh
      | t xs =>
        simp only [ND.py] at rd
        cases rd with
        | tuple q1 q2 q3 q4 =>
          rename_i ga go gvs gn
          have z : PySem.W.Looks (model prog w) h' (typeOf (.ref ga)) go.cls := (PySem.W.Looks.ld q1).andThen .now
          rw [q2] at z
          exact z
    · have e : (Value.type "tuple" != Value.type "tuple") = false := by first | decide +kernel | rfl | decide
      rw [e]
      exact hq
end
section
variable {X : Cx} {K : PySem.W.Frag}
def rSortN (K : PySem.W.Frag) : List V → Hp → VK → Prop := fun vs H Q => ∃ (a : Addr) (xs : List V) (ds : List ND), vs = [V.ref a] ∧ SqL K H a xs ∧ All2 (fun x d => Dp K H x (ND.py d)) xs ds ∧ (∀ x ∈ xs, ∃ t, x = .ref t) ∧ SrtOk ds ∧
  ∀ (zs : List (V × ND)) p, zs.Perm (xs.zip ds) → zs.map (·.2) = ND.sort ds → H p = none → Q (.ref p) (upd H p (.lst (zs.map (·.1))))
theorem zip_map2 {α β γ : Type} (f : α → β) (g : α → γ) : ∀ l : List α, (l.map f).zip (l.map g) = l.map fun x => (f x, g x)
  | [] => rfl
  | x :: l => by rw [List.map_cons, List.map_cons, List.zip_cons_cons, zip_map2 f g l]; rfl
theorem reads2 {pins : List (Addr × Obj)} {σ : L2.St} {H : Hp} {s : Shared} (I : Inv X pins σ H s) : ∀ {xs : List V} {us : List Value} {ds : List ND}, Vals xs us → All2 (fun x d => Dp X.K H x (ND.py d)) xs ds → All2 (fun v d => ∃ as, Reads s.heap v (ND.py d) as) us ds
  | [], [], [], _, _ => trivial
  | _ :: _, _ :: _, _ :: _, .cons r t, h => ⟨Dp.reads I _ _ _ h.1 r, reads2 I t h.2⟩
  | [], _ :: _, _, r, _ => by cases r
  | _ :: _, [], _, r, _ => by cases r
theorem cr_sortN (hu : X.A.units + 40 < cLine) (e : X.K = K := by rfl) : CallR X (.builtin "sorted") (rSortN K) := by
  subst e
  intro pins s σ H vs us Q I r h
  obtain ⟨a, xs, ds, rfl, hs, hx, hrf, ok, q⟩ := h
  obtain ⟨its, rv, hl, hz⟩ := I.list hs
  obtain ⟨u, rfl, ru⟩ := vals1 r
  obtain rfl : u = Value.ref a := ru
  obtain ⟨e1, e2⟩ := refs_back rv fun x m => hrf x m
  have hR := reads2 I rv hx
  have hf : ∀ v ∈ its, ∀ d as, Reads s.heap v (ND.py d) as → datOf s.heap v = d := fun v _ d as r => datOf_eq r
  have hd : ∀ v ∈ its, ∃ as, Reads s.heap v (ND.py (datOf s.heap v)) as := fun v hv => by
    obtain ⟨d, _, as, rd⟩ := hR.mem hv
    rw [hf v hv d as rd]
    exact ⟨as, rd⟩
  have em : its.map (datOf s.heap) = ds := hR.map_eq fun v d ⟨as, rd⟩ => datOf_eq rd
  refine SrtO.sorted_ord (swo_dat (datOf s.heap)) hl.isList (by rw [← rv.length]; exact hz) (fun h2 h₁ b hb kk => ?_) fun out hs1 hs2 => ?_
  · have kt : ∀ c o, s.heap.get? c = some o → o.cls = .type "tuple" → h₁.get? c = some o := fun c o e _ => (kk c o e).2
    refine nd_sortable (s := { s with heap := h₁ }) (ds := ds) (by omega) (hR.mono fun v d ⟨as, rd⟩ => ⟨as, reads_keep kt d v as rd⟩) ok (by show X.A.units + 1 + 1 + 16 < cLine; omega) (fun o e => ?_) (datOf s.heap) (fun v hv d as rd => ?_)
    · have e' : some o = some (seqObj "list" its.toArray 0) := e.symm.trans hb
      cases e'
      intro c
      exact absurd (Value.type.inj c) (by decide)
    · obtain ⟨d', _, as', rd'⟩ := hR.mem hv
      rw [hf v hv d' as' rd']
      have z1 := datOf_eq (reads_keep kt d' v as' rd')
      have z2 := datOf_eq rd
      exact z1.symm.trans z2
  · have h3 : ∀ u ∈ out, ∃ a, u = Value.ref a := fun u hu => e2 u (hs2.perm.mem_iff.mp hu)
    have pm : (out.map backV).Perm xs := by rw [e1]; exact hs2.perm.map _
    have so : out.map (datOf s.heap) = ND.sort ds := by
      refine (ND.sort_eq ?_ ?_).symm
      · refine List.pairwise_map.mpr (hs1.imp fun {x y} z => ?_)
        have z : ND.ltB (datOf s.heap y) (datOf s.heap x) = false := z
        unfold ND.leB
        rw [z]
        rfl
      · rw [← em]; exact hs2.perm.map _
    obtain ⟨n, hn⟩ := sortedAll_at s.heap its out.toArray
    have ez : (out.map fun v => (backV v, datOf s.heap v)).map (·.1) = out.map backV := by rw [List.map_map]; rfl
    have ez2 : (out.map fun v => (backV v, datOf s.heap v)).map (·.2) = out.map (datOf s.heap) := by rw [List.map_map]; rfl
    refine ⟨.ref (s.heap.objs.size + 1), upd H (s.heap.objs.size + 1) (.lst (out.map backV)), I.laid (t' := s.toks) (fun b o e => sortedAll_old e) (Nat.le_succ _) ⟨?_, out, n, vals_back h3, hn⟩, rfl, ?_⟩
    · rw [pm.length_eq]; exact hz
    · have z := q (out.map fun v => (backV v, datOf s.heap v)) (s.heap.objs.size + 1) ?_ (by rw [ez2]; exact so) (I.hok.fresh (Nat.le_succ _))
      · rw [ez] at z
        exact z
      · rw [← em, e1, zip_map2]
        exact hs2.perm.map _
end
section
variable {X : Cx} {K : PySem.W.Frag}
def rGeN (K : PySem.W.Frag) : R2 := fun x y H Q => ∃ d e : ND, Dp K H x d.py ∧ Dp K H y e.py ∧ ND.hom d e = true ∧ d.dep ≤ 8 ∧ Q (.bl (!ND.ltB d e)) H
theorem op_geN (hu : X.A.units + 40 < cLine) (e : X.K = K := by rfl) : OpR X (compareOp .GtE) (rGeN K) := by
  subst e
  intro pins s σ H x y v u Q I rx ry h
  obtain ⟨d, e, hd, he, hh, dd, q⟩ := h
  obtain ⟨as, r1⟩ := Dp.reads I _ x v hd rx
  obtain ⟨bs, r2⟩ := Dp.reads I _ y u he ry
  have R := rc_ge d e X.A s v u as bs r1 r2 hh (by omega)
  exact R X.prog X.w X.xe (EP X pins σ Q) ⟨.bl _, H, I, rfl, q⟩
end
theorem all2_zip {α : Type} {R : V → α → Prop} {enc : α → ND} (inj : ∀ a b, enc a = enc b → a = b) : ∀ {zs : List (V × ND)} {qs : List α}, (∀ z ∈ zs, ∃ p, R z.1 p ∧ z.2 = enc p) → zs.map (·.2) = qs.map enc → All2 R (zs.map (·.1)) qs
  | [], [], _, _ => trivial
  | [], _ :: _, _, e => by cases e
  | _ :: _, [], _, e => by cases e
  | z :: zs, q :: qs, h, e => by
    rw [List.map_cons, List.map_cons] at e
    injection e with e1 e2
    obtain ⟨p, r, ep⟩ := h z List.mem_cons_self
    rw [ep] at e1
    have := inj _ _ e1
    subst this
    exact ⟨r, all2_zip inj (fun z hz => h z (List.mem_cons_of_mem _ hz)) e2⟩
theorem zip_mem {α : Type} {R : V → α → Prop} {enc : α → ND} : ∀ {xs : List V} {ps : List α}, All2 R xs ps → ∀ z ∈ xs.zip (ps.map enc), ∃ p, R z.1 p ∧ z.2 = enc p
  | [], [], _, z, hz => by simp at hz
  | x :: xs, p :: ps, h, z, hz => by
    rw [List.map_cons, List.zip_cons_cons] at hz
    rcases List.mem_cons.mp hz with e | e
    · subst e
      exact ⟨p, h.1, rfl⟩
    · exact zip_mem h.2 z e
/-- sorted of a list of things that are written by enc -/
theorem w_sortN {α : Type} {K : PySem.W.Frag} {H : Hp} {Q : VK} {a : Addr} {vs : List V} {ps qs : List α} {R : V → α → Prop} {enc : α → ND} (inj : ∀ a b, enc a = enc b → a = b) (hd : ∀ v p, R v p → Dp K H v (enc p).py ∧ ∃ t, v = .ref t)
    (h1 : SqL K H a vs) (p1 : All2 R vs ps) (ok : SrtOk (ps.map enc)) (hs : ND.sort (ps.map enc) = qs.map enc) (h : ∀ ys p, H p = none → All2 R ys qs → Q (.ref p) (upd H p (.lst ys))) : rSortN K [.ref a] H Q := by
  refine ⟨a, vs, ps.map enc, rfl, h1, ?_, fun x hx => ?_, ok, fun zs p pm hz hp => h _ p hp ?_⟩
  · clear h h1 ok hs
    induction vs generalizing ps with
    | nil => cases ps with
      | nil => trivial
      | cons _ _ => exact p1.elim
    | cons v vs ih => cases ps with
      | nil => exact p1.elim
      | cons q qs => exact ⟨(hd _ _ p1.1).1, ih p1.2⟩
  · obtain ⟨q, _, r⟩ := p1.mem hx
    exact (hd _ _ r).2
  · exact all2_zip inj (fun z hz' => zip_mem p1 z (pm.mem_iff.mp hz')) (hz.trans hs)
theorem _root_.L2.Room.u40 {A : Around} {k : Nat} (hr : Room k A) : A.units + 40 < cLine := by have := hr.un; omega
theorem sort_enc {α : Type} {enc : α → ND} {le : α → α → Bool} (he : ∀ a b, ND.leB (enc a) (enc b) = le a b) (tr : ∀ a b c, le a b = true → le b c = true → le a c = true) (tot : ∀ a b, (le a b || le b a) = true) (xs : List α) : ND.sort (xs.map enc) = (xs.mergeSort le).map enc := by
  refine ND.sort_eq (List.pairwise_map.mpr ((List.pairwise_mergeSort tr tot xs).imp fun {a b} h => ?_)) ((List.mergeSort_perm xs le).map enc)
  rw [he]
  exact h
theorem leB_i (a b : Int) : ND.leB (.i a) (.i b) = decide (a ≤ b) := by
  unfold ND.leB ND.ltB
  simp only [ND.cmp]
  by_cases h : b < a
  · rw [ND.int_lt.mpr h, decide_eq_false (by omega)]; rfl
  · rw [decide_eq_true (by omega)]
    have : compare b a ≠ .lt := fun e => h (ND.int_lt.mp e)
    cases e : compare b a <;> simp_all
theorem leB_tcons (x y : ND) (xs ys : List ND) : ND.leB (.t (x :: xs)) (.t (y :: ys)) = (if ND.cmp x y = .eq then ND.leB (.t xs) (.t ys) else ND.leB x y) := by
  unfold ND.leB ND.ltB
  simp only [ND.cmp, ND.cmpL]
  rw [ND.cmp_swap x y]
  cases e : ND.cmp x y with
  | eq => rfl
  | lt => rfl
  | gt => rfl
theorem cmp_i_eq (a b : Int) : (ND.cmp (.i a) (.i b) = .eq) ↔ a = b := by
  simp only [ND.cmp]
  exact ⟨fun h => Std.LawfulEqCmp.eq_of_compare h, fun h => by subst h; exact Std.ReflCmp.compare_self⟩
end Pm
namespace Pm
abbrev I3 := Int × Int × Int
namespace Tr
end Tr
/-- the third posts above a tie -/
def above (n : Nat) (T : List IP) (p : IP) : List Nat := (List.range (((n : Int) - (p.2 + 1)).toNat)).filter fun i => decide ((p.1, p.2 + 1 + (i : Int)) ∈ T) && decide ((p.2, p.2 + 1 + (i : Int)) ∈ T)
section
variable {n : Nat} {cut : List IP} {t : Tr}
theorem Cutting.ties_nodup (C : Cutting n cut t) : (tiesL n cut).Nodup := by
  have w2 := C.w2
  have hw := C.w
  refine ((sortP_perm _).nodup_iff).mpr (List.nodup_append.mpr ⟨?_, ?_, fun a ha b hb e => ?_⟩)
  · unfold sides0
    refine List.nodup_append.mpr ⟨?_, by simp, fun a ha b hb e => ?_⟩
    · refine List.Pairwise.map _ ?_ (List.nodup_range (n := n - 1))
      intro i j hij e
      have := congrArg Prod.fst e
      simp only at this
      exact hij (by omega)
    · subst e
      obtain ⟨k, hk, rfl⟩ := List.mem_map.mp ha
      have := List.mem_singleton.mp hb
      have e1 := congrArg Prod.fst this
      have e2 := congrArg Prod.snd this
      simp only at e1 e2
      omega
  · refine (C.perm.nodup_iff).mpr (List.Pairwise.map _ ?_ (Tr.ropes_nodup t 0))
    intro p q hpq e
    exact hpq (castP_inj e)
  · subst e
    obtain ⟨q, hq, rfl⟩ := C.mem.mp hb
    have hr := (ropes_iff w2).mp hq
    have hwid := Tr.inn_wide hr.1
    rcases (mem_sides0 (by omega)).mp ha with ⟨k, hk, e⟩ | e
    · rw [castP_inj e] at hwid
      simp only at hwid
      omega
    · refine hr.2 ?_
      rw [castP_inj e, ← hw] <;> rfl
end
end Pm
namespace Pm
open PySem PySem.Spec PyProof.Rows L2
def smallP (p : Int × Int) : Prop := (-1 ≤ p.1 ∧ p.1 ≤ 14) ∧ (-1 ≤ p.2 ∧ p.2 ≤ 14)
/-- a pair as a key -/
def kk (p : IP) : List L2.Key := [.inl p.1, .inl p.2]
theorem _root_.L2.Room.u2 {A : Around} {k : Nat} (hr : Room k A) : A.units + 2 < cLine := by have := hr.un; omega
end Pm
namespace Pm
open PySem PySem.Spec PyProof.Rows L2
/-- the size of a fraction -/
def rb (r : Rat) (n : Nat) : Prop := r.num.natAbs < 2 ^ n ∧ r.den < 2 ^ n
theorem rb.mono {r : Rat} {n m : Nat} (h : rb r n) (k : n ≤ m) : rb r m :=
  ⟨Nat.lt_of_lt_of_le h.1 (Nat.pow_le_pow_right (by decide) k), Nat.lt_of_lt_of_le h.2 (Nat.pow_le_pow_right (by decide) k)⟩
theorem rb_pos {r : Rat} {n : Nat} (h : rb r n) : 0 < n := by
  rcases Nat.eq_zero_or_pos n with z | z
  · subst z
    have := h.2
    have := r.den_nz
    omega
  · exact z
end Pm
namespace Pm
open PySem PySem.Spec PyProof.Rows L2
/-- a pair of numbers: tracked, or written in the top -/
def FrV (K : PySem.W.Frag) (H : Hp) (v : V) (p : IP) : Prop := ∃ t, v = .ref t ∧ (H t = some (.tup [.int p.1, .int p.2]) ∨ ∀ H', SqT K H' t [.int p.1, .int p.2])
section
variable {K : PySem.W.Frag} {H H' : Hp} {v : V} {p q : IP}
theorem FrV.keep (k : Keeps H H') (h : FrV K H v p) : FrV K H' v p := by
  obtain ⟨t, e, h | h⟩ := h
  · exact ⟨t, e, .inl (k _ _ h)⟩
  · exact ⟨t, e, .inr h⟩
theorem FrV.tup {t : Addr} (h : FrV K H (.ref t) p) : SqT K H t [.int p.1, .int p.2] := by
  obtain ⟨t, e, h | h⟩ := h
  · cases e; exact SqT.of h
  · cases e; exact h H
theorem FrV.of (h : Pr H v p) : FrV K H v p := by
  obtain ⟨t, e, h⟩ := h
  exact ⟨t, e, .inl h⟩
theorem FrV.dp (h : FrV K H v p) : Dp K H v (pD p) := by
  obtain ⟨t, rfl, h⟩ := h
  exact .tup (FrV.tup ⟨t, rfl, h⟩) (.cons (.int _) (.cons (.int _) .nil))
end
/-- the fraction as a pair -/
def rp (r : Rat) : IP := (r.num, (r.den : Int))
def En (K : PySem.W.Frag) (H : Hp) (L : IP → IP) (e : List L2.Key × V) (k : IP) : Prop := e.1 = kk k ∧ FrV K H e.2 (L k)
/-- the dict at d: its keys in order, and what each holds -/
structure LD (K : PySem.W.Frag) (H : Hp) (d : Addr) (ks : List IP) (L : IP → IP) : Prop where
  nd : ks.Nodup
  ex : ∃ es, H d = some (.dT es) ∧ All2 (En K H L) es ks
section
variable {K : PySem.W.Frag} {H H' : Hp} {L : IP → IP}
theorem ens_keep (k : Keeps H H') {es : List (List L2.Key × V)} {ks : List IP} (h : All2 (En K H L) es ks) : All2 (En K H' L) es ks := h.mono fun _ _ q => ⟨q.1, q.2.keep k⟩
theorem ens_congr {L' : IP → IP} : ∀ {es : List (List L2.Key × V)} {ks : List IP}, (∀ k ∈ ks, L' k = L k) → All2 (En K H L) es ks → All2 (En K H L') es ks
  | [], [], _, _ => trivial
  | _ :: _, _ :: _, e, h => ⟨⟨h.1.1, by rw [e _ List.mem_cons_self]; exact h.1.2⟩, ens_congr (fun k hk => e k (List.mem_cons_of_mem _ hk)) h.2⟩
end
section
variable {K : PySem.W.Frag} {H H' : Hp} {d b : Addr} {ks : List IP} {L : IP → IP} {k : IP} {Q : VK} {nx : L2.St → Hp → Prop} {σ : L2.St}
theorem LD.same (h : LD K H d ks L) (s : Same H H') : LD K H' d ks L := by
  obtain ⟨n, es, h1, h2⟩ := h
  exact ⟨n, es, s _ _ h1, ens_keep (keeps s) h2⟩
theorem LD.keep {o : HO} (h : LD K H d ks L) (k : Keeps H H') (e : H' d = H d) : LD K H' d ks L := by
  obtain ⟨n, es, h1, h2⟩ := h
  exact ⟨n, es, by rw [e]; exact h1, ens_keep k h2⟩
theorem LD.congr {L' : IP → IP} (h : LD K H d ks L) (e : ∀ k ∈ ks, L' k = L k) : LD K H d ks L' := by
  obtain ⟨n, es, h1, h2⟩ := h
  exact ⟨n, es, h1, ens_congr e h2⟩
end
end Pm
namespace Pm
structure V2 where
  p : Rat
  q : Rat
def det (a b : V2) : Rat := a.p * b.q - b.p * a.q
theorem det_pl (a b c d : V2) : det a c * det b d = det a b * det c d + det b c * det a d := by unfold det; grind
theorem det_anti (a b : V2) : det b a = - det a b := by unfold det; grind
theorem det_self (a : V2) : det a a = 0 := by unfold det; grind
theorem rat_mul_pos {a b : Rat} (h : 0 < a) (k : 0 < b) : 0 < a * b := Rat.mul_pos h k
theorem rat_pos_of_mul {a b : Rat} (hb : 0 < b) (h : 0 < a * b) : 0 < a := by
  by_cases z : 0 < a
  · exact z
  · have z1 : a ≤ 0 := by grind
    have z2 : 0 ≤ -a := by grind
    have := Rat.mul_nonneg z2 (show (0 : Rat) ≤ b by grind)
    grind
abbrev Len := Nat × Nat → Rat
namespace Tr
def Stood (t : Tr) (lo : Nat) (L : Len) (S : Nat → V2) : Prop := ∀ p ∈ t.all lo, det (S p.1) (S p.2) = L p
def Pos (t : Tr) (lo : Nat) (L : Len) : Prop := ∀ p ∈ t.all lo, 0 < L p
theorem mem_l {l r : Tr} {lo : Nat} {p : Nat × Nat} (h : p ∈ l.all lo) : p ∈ (node l r).all lo := mem_node.mpr (.inr (.inl h))
theorem mem_r {l r : Tr} {lo : Nat} {p : Nat × Nat} (h : p ∈ r.all (lo + l.w)) : p ∈ (node l r).all lo := mem_node.mpr (.inr (.inr h))
theorem mem_root {l r : Tr} {lo : Nat} : (lo, lo + (l.w + r.w)) ∈ (node l r).all lo := mem_node.mpr (.inl rfl)
theorem ends_pos : ∀ {t : Tr} {lo : Nat} {L : Len} {S : Nat → V2}, t.Pos lo L → t.Stood lo L S → ∀ i, (lo < i → i ≤ lo + t.w → 0 < det (S lo) (S i)) ∧ (lo ≤ i → i < lo + t.w → 0 < det (S i) (S (lo + t.w)))
  | leaf, lo, L, S, hP, h, i => by
    have e := h (lo, lo + 1) (by simp [all])
    have p := hP (lo, lo + 1) (by simp [all])
    simp only [w] at *
    refine ⟨fun h1 h2 => ?_, fun h1 h2 => ?_⟩
    · have z : i = lo + 1 := by omega
      subst z
      rw [e]; exact p
    · have z : i = lo := by omega
      subst z
      rw [e]; exact p
  | node l r, lo, L, S, hP, h, i => by
    have hw : (node l r).w = l.w + r.w := rfl
    rw [hw]
    have r0 := h _ (mem_root (l := l) (r := r) (lo := lo))
    have l0 := h _ (mem_l (r := r) (root_mem (t := l) (lo := lo)))
    have k0 := h _ (mem_r (l := l) (root_mem (t := r) (lo := lo + l.w)))
    have pp := hP _ (mem_root (l := l) (r := r) (lo := lo))
    have pl := hP _ (mem_l (r := r) (root_mem (t := l) (lo := lo)))
    have pr := hP _ (mem_r (l := l) (root_mem (t := r) (lo := lo + l.w)))
    simp only at r0 l0 k0 pl pr
    rw [Nat.add_assoc] at k0 pr
    have il := ends_pos (t := l) (fun p hp => hP p (mem_l hp)) (fun p hp => h p (mem_l hp)) i
    have ir := ends_pos (t := r) (lo := lo + l.w) (fun p hp => hP p (mem_r hp)) (fun p hp => h p (mem_r hp)) i
    rw [Nat.add_assoc] at ir
    refine ⟨fun h1 h2 => ?_, fun h1 h2 => ?_⟩
    · by_cases z : i ≤ lo + l.w
      · exact il.1 h1 z
      · have a1 := ir.1 (by omega) (by omega)
        have p1 := det_pl (S lo) (S (lo + l.w)) (S i) (S (lo + (l.w + r.w)))
        rw [l0, r0, k0] at p1
        refine rat_pos_of_mul pr ?_
        rw [p1]
        have := rat_mul_pos a1 pp
        rcases Nat.eq_or_lt_of_le h2 with z2 | z2
        · subst z2
          rw [det_self]
          grind
        · have a2 := ir.2 (by omega) (by omega)
          have := rat_mul_pos pl a2
          grind
    · by_cases z : lo + l.w ≤ i
      · exact ir.2 z (by omega)
      · have a1 := il.2 (by omega) (by omega)
        have p1 := det_pl (S lo) (S i) (S (lo + l.w)) (S (lo + (l.w + r.w)))
        rw [l0, r0, k0] at p1
        refine rat_pos_of_mul pl ?_
        rw [Rat.mul_comm, p1]
        have := rat_mul_pos a1 pp
        rcases Nat.eq_or_lt_of_le h1 with z2 | z2
        · subst z2
          rw [det_self]
          grind
        · have a2 := il.1 (by omega) (by omega)
          have := rat_mul_pos a2 pr
          grind
theorem det_pos : ∀ {t : Tr} {lo : Nat} {L : Len} {S : Nat → V2}, t.Pos lo L → t.Stood lo L S → ∀ i k, lo ≤ i → i < k → k ≤ lo + t.w → 0 < det (S i) (S k)
  | leaf, lo, L, S, hP, h, i, k, h1, h2, h3 => by
    have e := h (lo, lo + 1) (by simp [all])
    have p := hP (lo, lo + 1) (by simp [all])
    simp only [w] at *
    have z : i = lo := by omega
    have z2 : k = lo + 1 := by omega
    subst z z2
    rw [e]; exact p
  | node l r, lo, L, S, hP, h, i, k, h1, h2, h3 => by
    have hw : (node l r).w = l.w + r.w := rfl
    have il := det_pos (t := l) (fun p hp => hP p (mem_l hp)) (fun p hp => h p (mem_l hp)) i
    have ir := det_pos (t := r) (lo := lo + l.w) (fun p hp => hP p (mem_r hp)) (fun p hp => h p (mem_r hp))
    have ie := (ends_pos hP h i).2
    rw [hw] at h3 ie
    by_cases z : k ≤ lo + l.w
    · exact il k h1 h2 z
    · by_cases z2 : lo + l.w ≤ i
      · exact ir i k z2 h2 (by omega)
      · have a1 := il (lo + l.w) h1 (by omega) (Nat.le_refl _)
        have a2 := ir (lo + l.w) k (by omega) (by omega) (by omega)
        have a3 := ie (by omega) (by omega)
        have a4 := ir (lo + l.w) (lo + (l.w + r.w)) (by omega) (by have := w_pos r; omega) (by omega)
        have p1 := det_pl (S i) (S (lo + l.w)) (S k) (S (lo + (l.w + r.w)))
        refine rat_pos_of_mul a4 ?_
        rw [p1]
        have := rat_mul_pos a2 a3
        rcases Nat.eq_or_lt_of_le h3 with z2 | z2
        · subst z2
          rw [det_self]
          grind
        · have a5 := ir k (lo + (l.w + r.w)) (by omega) z2 (by omega)
          have := rat_mul_pos a1 a5
          grind
end Tr
structure Meas (n : Nat) (t : Tr) (L : Len) (D : Nat → Nat → Rat) : Prop where
  w : t.w + 1 = n
  pos : t.Pos 0 L
  ex : ∃ S, t.Stood 0 L S ∧ ∀ i k, i < n → k < n → D i k = det (S i) (S k)
section
variable {n : Nat} {t : Tr} {L : Len} {D : Nat → Nat → Rat}
theorem Meas.tie (M : Meas n t L D) {i k : Nat} (h : (i, k) ∈ t.all 0) : D i k = L (i, k) := by
  obtain ⟨S, h1, h2⟩ := M.ex
  have b := Tr.bd h
  have := M.w
  rw [h2 i k (by omega) (by omega)]
  exact h1 _ h
theorem Meas.anti (M : Meas n t L D) {i k : Nat} (hi : i < n) (hk : k < n) : D k i = - D i k := by
  obtain ⟨S, h1, h2⟩ := M.ex
  rw [h2 i k hi hk, h2 k i hk hi, det_anti]
theorem Meas.above (M : Meas n t L D) {i k : Nat} (h : i < k) (hk : k < n) : 0 < D i k := by
  obtain ⟨S, h1, h2⟩ := M.ex
  have := M.w
  rw [h2 i k (by omega) hk]
  exact Tr.det_pos M.pos h1 i k (by omega) h (by omega)
theorem Meas.ne (M : Meas n t L D) {i k : Nat} (h : i ≠ k) (hi : i < n) (hk : k < n) : D i k ≠ 0 := by
  rcases Nat.lt_or_gt_of_ne h with z | z
  · have := M.above z hk; grind
  · have := M.above z hi
    have := M.anti hk hi
    grind
end
/-- a rope turned: the same lengths are measured -/
theorem Meas.turn {n : Nat} {cut : List IP} {t t' : Tr} {x y m o : Nat} {R : List (Nat × Nat)} {L L' : Len} {D : Nat → Nat → Rat} (M : Meas n t L D) (C : Cutting n cut t) (U : Turning n cut t t' x y m o R)
    (h1 : ∀ p ∈ t.all 0, p ≠ (x, y) → L' p = L p) (h2 : L' (min m o, max m o) = D (min m o) (max m o)) : Meas n t' L' D := by
  have hw := U.cut'.w
  have bd : min m o < max m o ∧ max m o < n := by
    have z := U.cross C
    have z2 := Tr.bd (U.all_iff C |>.mpr (.inr rfl))
    omega
  refine ⟨U.cut'.w, fun p hp => ?_, ?_⟩
  · rcases (U.all_iff C).mp hp with ⟨q, ne⟩ | rfl
    · rw [h1 p q ne]; exact M.pos p q
    · rw [h2]; exact M.above bd.1 bd.2
  · obtain ⟨S, s1, s2⟩ := M.ex
    refine ⟨S, fun p hp => ?_, s2⟩
    rcases (U.all_iff C).mp hp with ⟨q, ne⟩ | rfl
    · rw [h1 p q ne]; exact s1 p q
    · rw [h2, s2 _ _ (by omega) (by omega)]
structure Bd (n : Nat) (D : Nat → Nat → Rat) (F : Nat) (B : Nat) : Prop where
  f0 : 0 < F
  fb : F < 2 ^ B
  all : ∀ i k, i < n → k < n → ∃ z : Int, D i k * F = z ∧ z.natAbs < 2 ^ B
end Pm
namespace Pm
open PySem PySem.Spec PyProof.Rows L2
/-- a pair of fractions -/
def PrV (K : PySem.W.Frag) (H : Hp) (v : V) (s : V2) : Prop := ∃ t u w, v = .ref t ∧ H t = some (.tup [.ref u, .ref w]) ∧ FrV K H (.ref u) (rp s.p) ∧ FrV K H (.ref w) (rp s.q)
section
variable {K : PySem.W.Frag} {H H' : Hp}
theorem PrV.keep (k : Keeps H H') {v : V} {s : V2} (h : PrV K H v s) : PrV K H' v s := by
  obtain ⟨t, u, w, e, h1, h2, h3⟩ := h
  exact ⟨t, u, w, e, k _ _ h1, h2.keep k, h3.keep k⟩
end
def SEn (K : PySem.W.Frag) (H : Hp) (S : Nat → V2) (e : L2.Key × V) (i : Nat) : Prop := e.1 = .inl (i : Int) ∧ PrV K H e.2 (S i)
structure SD (K : PySem.W.Frag) (H : Hp) (d : Addr) (ks : List Nat) (S : Nat → V2) : Prop where
  nd : ks.Nodup
  ex : ∃ es, H d = some (.dK es) ∧ All2 (SEn K H S) es ks
section
variable {K : PySem.W.Frag} {H H' : Hp} {S : Nat → V2}
theorem sens_keep (k : Keeps H H') {es : List (L2.Key × V)} {ks : List Nat} (h : All2 (SEn K H S) es ks) : All2 (SEn K H' S) es ks := h.mono fun _ _ q => ⟨q.1, q.2.keep k⟩
theorem key_inj {i j : Nat} (h : (Sum.inl (i : Int) : L2.Key) = Sum.inl (j : Int)) : i = j := by
  have := Sum.inl.inj h
  omega
end
section
variable {K : PySem.W.Frag} {H H' : Hp} {d : Addr} {ks : List Nat} {S : Nat → V2} {k : Nat} {Q : VK} {nx : L2.St → Hp → Prop} {σ : L2.St}
theorem SD.same (h : SD K H d ks S) (s : Same H H') : SD K H' d ks S := by
  obtain ⟨n, es, h1, h2⟩ := h
  exact ⟨n, es, s _ _ h1, sens_keep (keeps s) h2⟩
end
theorem w_pairs {tk tv : TE} {r : List (TE × TE)} {σ : L2.St} {H : Hp} {R : List (V × V) → Hp → Prop} (h : tk σ H fun x H1 => tv σ H1 fun y H2 => tPairs r σ H2 fun ps H3 => R ((x, y) :: ps) H3) : tPairs ((tk, tv) :: r) σ H R := h
theorem w_pairs0 {σ : L2.St} {H : Hp} {R : List (V × V) → Hp → Prop} (h : R [] H) : tPairs [] σ H R := h
structure LenD (K : PySem.W.Frag) (H : Hp) (d : Addr) (t : Tr) (D : Nat → Nat → Rat) : Prop where
  ex : ∃ ks L, LD K H d ks L ∧ (∀ p, p ∈ ks ↔ ∃ q, q ∈ t.all 0 ∧ p = castP q) ∧ ∀ q ∈ t.all 0, L (castP q) = rp (D q.1 q.2)
theorem LenD.same {K : PySem.W.Frag} {H H' : Hp} {d : Addr} {t : Tr} {D : Nat → Nat → Rat} (h : LenD K H d t D) (s : Same H H') : LenD K H' d t D := by
  obtain ⟨ks, L, h1, h2⟩ := h
  exact ⟨ks, L, h1.same s, h2⟩
end Pm
namespace Pm
open PySem PySem.Spec PyProof.Rows L2
/-- a row: a list of pairs -/
def Row (K : PySem.W.Frag) (H : Hp) (a : Addr) (row : List IP) : Prop := ∃ vs, H a = some (.lst vs) ∧ All2 (FrV K H) vs row
structure Tb (K : PySem.W.Frag) (H : Hp) (l : Addr) (as : List Addr) (R : List (List IP)) : Prop where
  top : H l = some (.lst (as.map V.ref))
  nd : as.Nodup
  out : l ∉ as
  rows : All2 (Row K H) as R
section
variable {K : PySem.W.Frag} {H H' : Hp} {l : Addr} {as : List Addr} {R : List (List IP)}
theorem frvs_keep (k : Keeps H H') {vs : List V} {row : List IP} (h : All2 (FrV K H) vs row) : All2 (FrV K H') vs row := h.mono fun _ _ q => q.keep k
theorem Row.same {a : Addr} {row : List IP} (h : Row K H a row) (s : Same H H') : Row K H' a row := by
  obtain ⟨vs, h1, h2⟩ := h
  exact ⟨vs, s _ _ h1, frvs_keep (keeps s) h2⟩
theorem Row.keep {a : Addr} {row : List IP} (h : Row K H a row) (k : Keeps H H') (e : H' a = H a) : Row K H' a row := by
  obtain ⟨vs, h1, h2⟩ := h
  exact ⟨vs, by rw [e]; exact h1, frvs_keep k h2⟩
theorem Tb.same (h : Tb K H l as R) (s : Same H H') : Tb K H' l as R := ⟨s _ _ h.top, h.nd, h.out, h.rows.mono fun _ _ q => q.same s⟩
theorem Tb.len (h : Tb K H l as R) : as.length = R.length := h.rows.length
theorem nodup_get {α : Type} : ∀ {l : List α} {i j : Nat} {x : α}, l.Nodup → l[i]? = some x → l[j]? = some x → i = j
  | [], i, j, x, _, h, _ => by simp at h
  | y :: l, 0, 0, x, _, _, _ => rfl
  | y :: l, 0, j + 1, x, n, h, k => by
    simp only [List.getElem?_cons_zero, Option.some.injEq, List.getElem?_cons_succ] at h k
    subst h
    exact absurd (List.mem_of_getElem? k) (List.nodup_cons.mp n).1
  | y :: l, i + 1, 0, x, n, h, k => by
    simp only [List.getElem?_cons_zero, Option.some.injEq, List.getElem?_cons_succ] at h k
    subst k
    exact absurd (List.mem_of_getElem? h) (List.nodup_cons.mp n).1
  | y :: l, i + 1, j + 1, x, n, h, k => by
    simp only [List.getElem?_cons_succ] at h k
    rw [nodup_get (List.nodup_cons.mp n).2 h k]
theorem all2_of_get {α β : Type} {P : α → β → Prop} : ∀ {xs : List α} {ys : List β}, xs.length = ys.length → (∀ (i : Nat) (x : α) (y : β), xs[i]? = some x → ys[i]? = some y → P x y) → All2 P xs ys
  | [], [], _, _ => trivial
  | x :: xs, [], h, _ => by simp at h
  | [], y :: ys, h, _ => by simp at h
  | x :: xs, y :: ys, h, f => ⟨f 0 x y rfl rfl, all2_of_get (by simpa using h) fun i a b ha hb => f (i + 1) a b (by simpa using ha) (by simpa using hb)⟩
theorem Tb.row (h : Tb K H l as R) {i : Nat} {row : List IP} (e : R[i]? = some row) : ∃ a vs, as[i]? = some a ∧ H a = some (.lst vs) ∧ All2 (FrV K H) vs row := by
  obtain ⟨a, ha, vs, h1, h2⟩ := h.rows.get' e
  exact ⟨a, vs, ha, h1, h2⟩
/-- a place of a table set -/
theorem Tb.put (h : Tb K H l as R) {i k : Nat} {a : Addr} {vs : List V} {row : List IP} {v : V} {p : IP} (e : R[i]? = some row) (ha : as[i]? = some a) (hv : H a = some (.lst vs)) (hr : All2 (FrV K H) vs row) (fv : FrV K H v p) :
    Tb K (upd H a (.lst (vs.set k v))) l as (R.set i (row.set k p)) := by
  have kp : Keeps H (upd H a (.lst (vs.set k v))) := keeps_lst hv
  have ma : a ∈ as := List.mem_of_getElem? ha
  have nl : l ≠ a := fun z => h.out (by rw [z]; exact ma)
  refine ⟨by rw [upd_ne nl]; exact h.top, h.nd, h.out, all2_of_get (by rw [List.length_set]; exact h.len) fun j b r hb hrj => ?_⟩
  by_cases z : j = i
  · subst z
    rw [ha] at hb
    cases hb
    have el : j < R.length := (List.getElem?_eq_some_iff.mp e).1
    rw [List.getElem?_set_self el] at hrj
    cases hrj
    exact ⟨_, upd_same, frvs_keep kp (hr.set k fv)⟩
  · rw [List.getElem?_set_ne (fun q => z q.symm)] at hrj
    obtain ⟨r', hr', q⟩ := h.rows.get hb
    rw [hrj] at hr'
    cases hr'
    exact q.keep kp (upd_ne fun q : b = a => z (nodup_get h.nd hb (by rw [q]; exact ha)))
end
theorem Tr.inn_len' : ∀ (t : Tr) (lo : Nat), (t.inn lo).length + 1 = t.w
  | .leaf, lo => by simp [Tr.inn, Tr.w]
  | .node l r, lo => by
    have h1 := Tr.inn_len' l lo
    have h2 := Tr.inn_len' r (lo + l.w)
    simp only [Tr.inn, Tr.w, List.length_cons, List.length_append]
    omega
theorem Cutting.cut_len {n : Nat} {cut : List IP} {t : Tr} (C : Cutting n cut t) : cut.length + 3 = n := by
  have h := C.perm.length_eq
  have w := C.w
  rw [List.length_map] at h
  have q := t.inn_len' 0
  rw [Tr.inn_node C.w2, List.length_cons] at q
  have := C.w2
  omega
structure RowsAt (K : PySem.W.Frag) (H0 H : Hp) (D : Addr) (f : Nat → List IP) (i : Nat) (as : List Addr) : Prop where
  same : Same H0 H
  top : H D = some (.lst (as.map V.ref))
  nd : as.Nodup
  out : D ∉ as
  fresh : ∀ a ∈ as, H0 a = none
  rows : All2 (Row K H) as ((List.range i).map f)
theorem RowsAt.put {K : PySem.W.Frag} {H0 H1 H2 : Hp} {D r : Addr} {f : Nat → List IP} {i : Nat} {as : List Addr} (h : RowsAt K H0 H1 D f i as) (hD : H0 D = none) (s : Same H1 H2) (nr : H1 r = none) (hr : Row K H2 r (f i)) : RowsAt K H0 (upd H2 D (.lst (as.map V.ref ++ [.ref r]))) D f (i + 1) (as ++ [r]) := by
  have top2 := s _ _ h.top
  have kp : Keeps H2 (upd H2 D (.lst (as.map V.ref ++ [.ref r]))) := keeps_lst top2
  have nD : r ≠ D := (ne_of_none h.top nr).symm
  have na : r ∉ as := fun z => by
    obtain ⟨row, _, vs, e, _⟩ := h.rows.mem z
    rw [nr] at e
    cases e
  refine ⟨same_but hD (h.same.trans s), by rw [upd_same, List.map_append]; rfl, ?_, ?_, ?_, ?_⟩
  · rw [List.nodup_append]
    exact ⟨h.nd, by simp, fun a ha b hb => by rw [List.mem_singleton.mp hb]; rintro rfl; exact na ha⟩
  · intro z
    rcases List.mem_append.mp z with z | z
    · exact h.out z
    · exact nD (List.mem_singleton.mp z).symm
  · intro a ha
    rcases List.mem_append.mp ha with z | z
    · exact h.fresh a z
    · rw [List.mem_singleton.mp z]; exact h.same.free nr
  · rw [List.range_succ, List.map_append]
    refine All2.append ?_ ⟨hr.keep kp (upd_ne nD), trivial⟩
    refine all2_of_get (by have := h.rows.length; exact this) fun j b row hb hrow => ?_
    obtain ⟨row', e', q⟩ := h.rows.get hb
    rw [hrow] at e'
    cases e'
    have nb : b ≠ D := fun z => h.out (by rw [← z]; exact List.mem_of_getElem? hb)
    exact (q.same s).keep kp (upd_ne nb)
end Pm
namespace Pm
def vb (v : V2) (E B : Nat) : Prop := ∃ x y : Int, v.p * E = x ∧ v.q * E = y ∧ x.natAbs ≤ B ∧ y.natAbs ≤ B
theorem cast_mul_nat (a b : Nat) : ((a * b : Nat) : Rat) = (a : Rat) * (b : Rat) := Rat.natCast_mul a b
theorem vb.mono {v : V2} {E B C : Nat} (h : vb v E B) (k : B ≤ C) : vb v E C := by
  obtain ⟨x, y, h1, h2, h3, h4⟩ := h
  exact ⟨x, y, h1, h2, by omega, by omega⟩
theorem rat_num_den (r : Rat) : r * (r.den : Rat) = (r.num : Rat) := by
  have e : r = (r.num : Rat) / ((r.den : Int) : Rat) := by
    conv => lhs; rw [← Rat.num_divInt_den r]
    exact Rat.divInt_eq_div _ _
  have i0 : ((r.den : Int) : Rat) = (r.den : Rat) := rfl
  have d0 : (r.den : Rat) ≠ 0 := fun z => by
    have : (r.den : Rat) = ((0 : Nat) : Rat) := by rw [z]; rfl
    exact r.den_nz (Rat.natCast_inj.mp this)
  rw [i0] at e
  generalize (r.den : Rat) = A at *
  generalize (r.num : Rat) = C at *
  grind
end Pm
namespace Pm
open PySem PySem.Spec PyProof.Rows L2
def rNotN : R2 := fun x y H Q => y = .non ∧ Q (.bl (!decide (x = .non))) H
def rIsN : R2 := fun x y H Q => y = .non ∧ Q (.bl (decide (x = .non))) H
theorem op_notNK {X : Cx} : OpR X (compareOp .IsNot) rNotN := op_notN
theorem op_isNK {X : Cx} : OpR X (compareOp .Is) rIsN := op_isN
section
variable {H : Hp} {Q : VK} {a : Addr}
theorem w_notN_ref (h : Q (.bl true) H) : rNotN (.ref a) .non H Q := ⟨rfl, h⟩
theorem w_notN_non (h : Q (.bl false) H) : rNotN .non .non H Q := ⟨rfl, h⟩
theorem w_isN_non (h : Q (.bl true) H) : rIsN .non .non H Q := ⟨rfl, h⟩
end
theorem All2.reverse {α β : Type} {R : α → β → Prop} : ∀ {xs : List α} {ys : List β}, All2 R xs ys → All2 R xs.reverse ys.reverse
  | [], [], _ => trivial
  | _ :: _, _ :: _, h => by
    rw [List.reverse_cons, List.reverse_cons]
    exact h.2.reverse.snoc h.1
end Pm
namespace Pm
/-- two unlike posts -/
def twoOk (n : Nat) (a b : Int) : Prop := (0 ≤ a ∧ a < n) ∧ (0 ≤ b ∧ b < n) ∧ a ≠ b
instance (n : Nat) (a b : Int) : Decidable (twoOk n a b) := by unfold twoOk; infer_instance
def strD (D : Nat → Nat → Rat) (p : Nat) (f : Rat) (i k : Nat) : Rat := if i = p ∨ k = p then f * D i k else D i k
theorem Meas.stretch {n : Nat} {t : Tr} {L : Len} {D : Nat → Nat → Rat} (M : Meas n t L D) {p : Nat} {f : Rat} (hf : 0 < f) : Meas n t (fun q => strD D p f q.1 q.2) (strD D p f) := by
  obtain ⟨S, s1, s2⟩ := M.ex
  have w := M.w
  refine ⟨M.w, fun q hq => ?_, fun i => if i = p then ⟨f * (S i).p, f * (S i).q⟩ else S i, fun q hq => ?_, fun i k hi hk => ?_⟩
  · have b := Tr.bd hq
    have pos := M.above (show q.1 < q.2 by omega) (by omega)
    unfold strD
    split
    · exact rat_mul_pos hf pos
    · exact pos
  · have b := Tr.bd hq
    simp only [strD]
    rw [s2 q.1 q.2 (by omega) (by omega)]
    by_cases e1 : q.1 = p
    · rw [if_pos e1, if_neg (by omega), if_pos (.inl e1)]
      unfold det; grind
    · rw [if_neg e1]
      by_cases e2 : q.2 = p
      · rw [if_pos e2, if_pos (.inr e2)]
        unfold det; grind
      · rw [if_neg e2, if_neg (by omega)]
  · unfold strD
    simp only
    rw [s2 i k hi hk]
    by_cases e1 : i = p
    · rw [if_pos (.inl e1), if_pos e1]
      by_cases e2 : k = p
      · rw [if_pos e2, e1, e2, det_self]
        unfold det; grind
      · rw [if_neg e2]
        unfold det; grind
    · rw [if_neg e1]
      by_cases e2 : k = p
      · rw [if_pos (.inr e2), if_pos e2]
        unfold det; grind
      · rw [if_neg (by omega), if_neg e2]
theorem Bd.stretch {n : Nat} {D : Nat → Nat → Rat} {F B m : Nat} (Z : Bd n D F B) {p : Nat} {f : Rat} (hf : Pm.rb f m) : Bd n (strD D p f) (F * f.den) (B + m) := by
  have m0 := rb_pos hf
  refine ⟨Nat.mul_pos Z.f0 (Nat.pos_of_ne_zero f.den_nz), ?_, fun i k hi hk => ?_⟩
  · rw [Nat.pow_add]
    exact Nat.mul_lt_mul'' Z.fb hf.2
  · obtain ⟨z, h1, h2⟩ := Z.all i k hi hk
    have q := rat_num_den f
    unfold strD
    split
    · refine ⟨z * f.num, ?_, ?_⟩
      · rw [cast_mul_nat, Rat.intCast_mul, ← h1, ← q]
        generalize (F : Rat) = W
        generalize (f.den : Rat) = V
        clear q
        grind
      · rw [Int.natAbs_mul, Nat.pow_add]
        exact Nat.mul_lt_mul'' h2 hf.1
    · refine ⟨z * (f.den : Int), ?_, ?_⟩
      · rw [cast_mul_nat, Rat.intCast_mul, ← h1, ← Rat.mul_assoc]
        rfl
      · rw [Int.natAbs_mul, Nat.pow_add, Int.natAbs_natCast]
        exact Nat.mul_lt_mul'' h2 hf.2
end Pm
namespace Pm
open PySem PySem.Spec PyProof.Rows L2
/-- o.m(..) whose exceptions are wished for at the caller's slots -/
def tMethX (C : Addr) (m : Str) (sp : Sp) (E : L2.St → XK) (ta : TE) (t : TA) : TE := fun σ H Q => ta σ H fun x H1 => ∃ a dx fs, x = .ref a ∧ H1 a = some (.ins C dx fs) ∧ fs.lookup m = none ∧ t σ H1 fun vs H2 => sp (x :: vs) H2 Q (E σ)
/-- C(..) likewise -/
def tMakeX (C : Addr) (sp : Sp) (E : L2.St → XK) (t : TA) : TE := fun σ H Q => t σ H fun vs H1 => ∀ x dx, H1 x = none → H1 dx = none → dx ≠ x → sp (.ref x :: vs) (upd (upd H1 dx (.own x)) x (.ins C dx [])) (fun v H2 => v = .non ∧ Q (.ref x) H2) (E σ)
def FldK (K : PySem.W.Frag) (f : Str) (Q : VK) : VK := fun x H1 => ∃ a C dx fs v, x = .ref a ∧ H1 a = some (.ins C dx fs) ∧ Cls K C ∧ NoAttr K C f ∧ fs.lookup f = some v ∧ Q v H1
def SFldK (K : PySem.W.Frag) (f : Str) (y : V) (nx : L2.St → Hp → Prop) (σ : L2.St) : VK := fun x H2 => ∃ a C dx fs, x = .ref a ∧ H2 a = some (.ins C dx fs) ∧ Cls K C ∧ NoAttr K C f ∧ fs.length < 1000 ∧ nx σ (upd H2 a (.ins C dx (putF f y fs)))
def MethK (C : Addr) (m : Str) (R : V → Hp → Prop) : VK := fun x H1 => ∃ a dx fs, x = .ref a ∧ H1 a = some (.ins C dx fs) ∧ fs.lookup m = none ∧ R x H1
def MakeK (C : Addr) (sp : Sp) (dvs : List V) (E : XK) (Q : VK) : List V → Hp → Prop := fun vs H1 => ∀ x dx, H1 x = none → H1 dx = none → dx ≠ x → sp (.ref x :: (vs ++ dvs)) (upd (upd H1 dx (.own x)) x (.ins C dx [])) (fun v H2 => v = .non ∧ Q (.ref x) H2) E
def MakeXK (C : Addr) (sp : Sp) (E : XK) (Q : VK) : List V → Hp → Prop := fun vs H1 => ∀ x dx, H1 x = none → H1 dx = none → dx ≠ x → sp (.ref x :: vs) (upd (upd H1 dx (.own x)) x (.ins C dx [])) (fun v H2 => v = .non ∧ Q (.ref x) H2) E
section
variable {nx bk ct : L2.St → Hp → Prop} {rt : VK} {σ : L2.St} {H : Hp} {ta tv : TE} {Q : VK} {K : PySem.W.Frag} {f m : Str} {a C dx : Addr} {fs : List (Str × V)} {v y : V} {sp : Sp} {dvs : List V} {t : TA}
theorem w_fld (h : ta σ H (FldK K f Q)) : tFld K ta f σ H Q := h
theorem w_sfld (h : tv σ H fun y H1 => ta σ H1 (SFldK K f y nx σ)) : sFld K ta tv f ⟨nx, rt, bk, ct⟩ σ H := h
theorem w_meth {E : XK} (h : ta σ H (MethK C m fun x H1 => t σ H1 fun vs H2 => sp (x :: (vs ++ dvs)) H2 Q E)) : tMeth C m sp dvs E ta t σ H Q := h
theorem w_methX {E : L2.St → XK} (h : ta σ H (MethK C m fun x H1 => t σ H1 fun vs H2 => sp (x :: vs) H2 Q (E σ))) : tMethX C m sp E ta t σ H Q := h
theorem w_make {E : XK} (h : t σ H (MakeK C sp dvs E Q)) : tMake C sp dvs E t σ H Q := h
theorem w_makeX {E : L2.St → XK} (h : t σ H (MakeXK C sp (E σ) Q)) : tMakeX C sp E t σ H Q := h
end
theorem w_nes {Q : VK} {H : Hp} {i j : Str} (h : Q (.bl (!decide (i = j))) H) : rNe (.str i) (.str j) H Q := by
  refine ⟨rfl, ?_⟩
  have e : decide (V.str i = V.str j) = decide (i = j) := decide_eq_decide.mpr ⟨fun h => by injection h, fun h => by rw [h]⟩
  rw [e]
  exact h
def rEqNil (K : PySem.W.Frag) : R2 := fun x y H Q => ∃ (a b : Addr) (xs : List V), x = .ref a ∧ y = .ref b ∧ SqL K H a xs ∧ SqL K H b [] ∧ Q (.bl xs.isEmpty) H
theorem op_eqNil {X : Cx} {K : PySem.W.Frag} (hu : X.A.units + 65 < cLine) (e : X.K = K := by rfl) : OpR X (compareOp .Eq) (rEqNil K) := by
  subst e
  intro pins s σ H x y v u Q I rx ry h
  obtain ⟨a, b, xs, rfl, rfl, ha, hb, q⟩ := h
  cases rx
  cases ry
  obtain ⟨ia, ra, ⟨oa, na, la1, la2, _, la3⟩, _⟩ := I.list ha
  obtain ⟨ib, rb, ⟨ob, nb, lb1, lb2, _, lb3⟩, _⟩ := I.list hb
  have la : s.heap.IsList a ia.toArray := ⟨oa, la1, la2, na, la3⟩
  have lb : s.heap.IsList b ib.toArray := ⟨ob, lb1, lb2, nb, lb3⟩
  cases rb
  cases xs with
  | nil =>
    cases ra
    exact SeqAt.RcAt.lists la lb rfl (by omega) (e := fun _ => true) (fun j h1 _ => absurd h1 (by simp)) _ _ _ _ ⟨.bl true, H, I, rfl, q⟩
  | cons x0 xs =>
    cases ra
    exact SeqAt.RcAt.lists_lengths la lb (by simp) (by omega) _ _ _ _ ⟨.bl false, H, I, rfl, q⟩
end Pm
namespace Pm
open PySem PySem.Spec PyProof.Rows L2
section
variable {prog : Program} {w : World} {A : Around} {E : Value → Shared → Prop} {s : Shared}
theorem oneLt_nd {f : Bool} {xs ys : List ND} {a b : Value} {as bs : List Addr} {Q : Bool → Shared → Prop} (ra : Reads s.heap a (ND.t xs).py as) (rb : Reads s.heap b (ND.t ys).py bs) (hh : ND.hom (.t xs) (.t ys) = true) (hu : A.units + min (ND.t xs).dep (ND.t ys).dep < cLine) (hq : Q (ND.ltB (.t xs) (.t ys)) s) : wpAny (model prog w) A (oneLt' f a b) Q E s := by
  cases f with
  | false =>
    refine PySem.W.kat_one _ _ ?_
    exact rc_lt _ _ A s _ _ _ _ ra rb hh hu prog w _ _ hq
  | true =>
    simp only [ND.py] at ra rb
    cases ra with
    | tuple k1 k2 k3 k4 =>
      cases rb with
      | tuple l1 l2 l3 l4 =>
        rename_i a oa vs na b ob ws nb
        obtain ⟨cls, dd, data, sl⟩ := oa
        obtain ⟨cls2, dd2, data2, sl2⟩ := ob
        simp only at k2 k3 l2 l3
        subst k2 k3 l2 l3
        have n1 := SeqAt.ReadsAll.length _ _ _ k4
        have n2 := SeqAt.ReadsAll.length _ _ _ l4
        simp only [ND.hom] at hh
        have dx : (ND.t xs).dep = PyData.depthAll (ND.pyL xs) + 1 := by simp only [ND.dep, ND.py, PyData.depth]
        have dy : (ND.t ys).dep = PyData.depthAll (ND.pyL ys) + 1 := by simp only [ND.dep, ND.py, PyData.depth]
        rw [dx, dy] at hu
        have px : (ND.pyL xs).length = xs.length := by rw [ND.pyL_map, List.length_map]
        have py' : (ND.pyL ys).length = ys.length := by rw [ND.pyL_map, List.length_map]
        have e1 : vs.size = xs.length := by rw [← px, ← n1, Array.length_toList]
        have e2 : ws.size = ys.length := by rw [← py', ← n2, Array.length_toList]
        have in1 : A.in1.units = A.units + 1 := rfl
        have ev : ND.ltB (.t xs) (.t ys) = Ob.lexAt (fun j => ND.cmp (xs.getD j (.i 0)) (ys.getD j (.i 0)) == .eq) (fun j => ND.ltB (xs.getD j (.i 0)) (ys.getD j (.i 0))) (decide (vs.size < ws.size)) 0 (min vs.size ws.size) := by
          rw [e1, e2, lexAt_cmp]
          simp only [ND.ltB, ND.cmp]
        rw [ev] at hq
        rw [oneLt'_eq]
        simp only [if_true]
        refine wpAny_bind (wpAny_cRoomFor (by omega) ?_)
        refine wpAny_bind (wpAny_callSpecialIfBound?_slot (T := "tuple") ⟨_, k1, rfl⟩ F.slot_tuple_lt (call_meets F.slot_tuple_lt ⟨_, k1, rfl⟩ F.entry_tuple_lt (F.args_tuple_lt_2 _ _) (Ob.tuple_ltAt a b vs ws na nb dd dd2 sl sl2 (fun j => ND.cmp (xs.getD j (.i 0)) (ys.getD j (.i 0)) == .eq) (fun j => ND.ltB (xs.getD j (.i 0)) (ys.getD j (.i 0)))) ⟨k1, l1, ?_, ?_, ?_⟩))
        · intro j h1 h2
          obtain ⟨cs, r1⟩ := readsAll_at (j := j) k4 (by simpa using h1) (by omega)
          obtain ⟨ds, r2⟩ := readsAll_at (j := j) l4 (by simpa using h2) (by omega)
          rw [py_getD] at r1 r2
          have z := SeqAt.eqAt_reads _ _ A.in1 s _ _ _ _ r1 r2 (ND.lay _) (ND.lay _) (by have := depL xs j; have := depL ys j; rw [in1]; omega)
          rw [ND.eqv_py] at z
          simpa using z
        · intro j h1 h2 _
          obtain ⟨cs, r1⟩ := readsAll_at (j := j) k4 (by simpa using h1) (by omega)
          obtain ⟨ds, r2⟩ := readsAll_at (j := j) l4 (by simpa using h2) (by omega)
          rw [py_getD] at r1 r2
          have z := rc_lt (xs.getD j (.i 0)) (ys.getD j (.i 0)) A.in1 s _ _ _ _ r1 r2 (hom_at hh (by omega) (by omega)) (by have := depL xs j; have := depL ys j; rw [in1]; simp only [ND.dep]; omega)
          simpa using z
        · exact wpAny_truthy_bool hq
structure SrtOkE (ds : List ND) : Prop where
  tup : ∀ d ∈ ds, ∃ r, d = .t r
  hom : ∀ d ∈ ds, ∀ e ∈ ds, ND.hom d e = true
  dep : ∀ d ∈ ds, d.dep ≤ 8
theorem firsts_any {M : Model} : ∀ {vs : List Value} {ds : List ND}, All2 (fun v d => ∃ as, Reads s.heap v (ND.py d) as) vs ds → (∀ d ∈ ds, ∃ r, d = .t r) →
    ∃ os : List (Option Value), (∀ (A : Around) (E : Value → Shared → Prop) (Q : List (Option Value) → Shared → Prop), Q os s → wpAny M A (vs.mapM firstOfTuple') Q E s) ∧ All2 (fun o d => o.isSome = true ↔ d ≠ ND.t []) os ds
  | [], [], _, _ => ⟨[], fun A E Q h => by rw [List.mapM_nil]; exact wpAny_pure h, trivial⟩
  | v :: vs, d :: ds, ha, ht => by
    obtain ⟨⟨as, r⟩, ha'⟩ := ha
    obtain ⟨os, k, kl⟩ := firsts_any (M := M) ha' fun d hd => ht d (List.mem_cons_of_mem _ hd)
    obtain ⟨xs, e⟩ := ht d List.mem_cons_self
    subst e
    simp only [ND.py] at r
    cases r with
    | tuple k1 k2 k3 k4 =>
      rename_i a o ws n
      have n1 := SeqAt.ReadsAll.length _ _ _ k4
      rw [ND.pyL_map, List.length_map, Array.length_toList] at n1
      refine ⟨ws[0]? :: os, fun A E Q h => ?_, ⟨?_, kl⟩⟩
      · rw [List.mapM_cons]
        refine wpAny_bind ?_
        rw [PySem.W.kas_first_eq]
        refine wpAny_bind (PySem.W.Looks.here (show PySem.W.Looks M s.heap (typeOf (.ref a)) o.cls from (PySem.W.Looks.ld k1).andThen .now) ?_)
        rw [k2, if_neg (by first | decide | simp)]
        refine wpAny_bind (listItems_at k1 k3 (wpAny_pure ?_))
        exact wpAny_bind (k A E (fun bs s' => wpAny M A (pure (ws[0]? :: bs)) Q E s') (wpAny_pure h))
      · cases xs with
        | nil =>
          rw [List.length_nil] at n1
          rw [Array.getElem?_eq_none (by omega)]
          simp
        | cons x r =>
          rw [List.length_cons] at n1
          rw [Array.getElem?_eq_getElem (by omega)]
          simp
theorem nd_sortableE {a : Addr} {vs : List Value} {ds : List ND} (h0 : 0 < vs.length) (hp : All2 (fun v d => ∃ as, Reads s.heap v (ND.py d) as) vs ds) (ok : SrtOkE ds) (hu : A.units + 16 < cLine) (ha : ∀ o, s.heap.get? a = some o → o.cls ≠ .type "tuple") (f : Value → ND) (hf : ∀ v ∈ vs, ∀ d as, Reads s.heap v (ND.py d) as → f v = d) : SrtO.SortableO prog w A s a vs fun v u => ND.ltB (f v) (f u) := by
  by_cases full : ∀ d ∈ ds, d ≠ ND.t []
  · refine nd_sortable h0 hp ⟨fun d hd => ?_, ok.hom, ok.dep⟩ hu ha f hf
    obtain ⟨r, rfl⟩ := ok.tup d hd
    cases r with
    | nil => exact absurd rfl (full _ hd)
    | cons g r => exact ⟨g, r, rfl⟩
  intro h' keep
  have kt : ∀ b o, s.heap.get? b = some o → o.cls = .type "tuple" → h'.get? b = some o := fun b o e c => keep b o (fun z => by subst z; exact ha o e c) e
  have hp' : All2 (fun v d => ∃ as, Reads h' v (ND.py d) as) vs ds := hp.mono fun v d ⟨as, r⟩ => ⟨as, reads_keep kt d v as r⟩
  have cmpB : ∀ (b : Bool) (p q : Value × Value), p.1 ∈ vs → q.1 ∈ vs → wpAny (model prog w) A (oneLt' b p.1 q.1) (fun r s' => s' = { s with heap := h' } ∧ r = ND.ltB (f p.1) (f q.1)) (fun _ _ => False) { s with heap := h' } := fun b p q hm hm' => by
    obtain ⟨d, hd, as, rd⟩ := hp.mem hm
    obtain ⟨e, he, bs, re⟩ := hp.mem hm'
    rw [hf _ hm d as rd, hf _ hm' e bs re]
    have rd' := reads_keep kt d _ _ rd
    have re' := reads_keep kt e _ _ re
    have hh := ok.hom d hd e he
    have dd := ok.dep d hd
    obtain ⟨xs, rfl⟩ := ok.tup d hd
    obtain ⟨ys, rfl⟩ := ok.tup e he
    exact oneLt_nd (s := { s with heap := h' }) rd' re' hh (by omega) ⟨rfl, rfl⟩
  obtain ⟨os, ho, hos⟩ := firsts_any (M := model prog w) (s := { s with heap := h' }) hp' ok.tup
  have notall : (os.toArray.all fun x => x.isSome) = false := by
    cases e : os.toArray.all fun x => x.isSome with
    | false => rfl
    | true =>
      refine absurd (fun d hd => ?_) full
      obtain ⟨i, hi⟩ := List.getElem?_of_mem hd
      obtain ⟨o, ho', iff⟩ : ∃ o, os[i]? = some o ∧ (o.isSome = true ↔ d ≠ ND.t []) := by
        have lt := (List.getElem?_eq_some_iff.mp hi).1
        rw [← hos.length] at lt
        obtain ⟨d', hd', iff⟩ := hos.get (List.getElem?_eq_getElem lt)
        rw [hi] at hd'
        cases hd'
        exact ⟨_, List.getElem?_eq_getElem lt, iff⟩
      refine iff.mp ?_
      rw [List.all_toArray, List.all_eq_true] at e
      exact e o (List.mem_of_getElem? ho')
  have tyv : ∀ v ∈ vs, PySem.W.Looks (model prog w) h' (typeOf v) (.type "tuple") := fun v hv => by
    obtain ⟨d, hd, as, rd⟩ := hp'.mem hv
    obtain ⟨xs, rfl⟩ := ok.tup d hd
    simp only [ND.py] at rd
    cases rd with
    | tuple q1 q2 q3 q4 =>
      rename_i ga go gvs gn
      have z : PySem.W.Looks (model prog w) h' (typeOf (.ref ga)) go.cls := (PySem.W.Looks.ld q1).andThen .now
      rw [q2] at z
      exact z
  cases h00 : (os.toArray[0]?.bind id).isSome with
  | true =>
    refine ⟨general', fun Q E hq => ?_, cmpB false⟩
    rw [kat_kind_eq, List.mapM_toArray, map_eq_pure_bind]
    refine wpAny_bind (wpAny_bind (ho A E _ (wpAny_pure ?_)))
    rw [if_neg (by rw [notall]; exact Bool.false_ne_true), if_pos h00]
    exact wpAny_pure hq
  | false =>
    refine ⟨oneType', fun Q E hq => ?_, cmpB true⟩
    rw [kat_kind_eq, List.mapM_toArray, map_eq_pure_bind]
    refine wpAny_bind (wpAny_bind (ho A E _ (wpAny_pure ?_)))
    rw [if_neg (by rw [notall]; exact Bool.false_ne_true), if_neg (by rw [h00]; exact Bool.false_ne_true)]
    rw [oneTypeOnly'_eq, List.mapM_toArray, map_eq_pure_bind]
    obtain ⟨v1, vr, rfl⟩ : ∃ v1 vr, vs = v1 :: vr := by
      match vs, h0 with
      | v :: r, _ => exact ⟨v, r, rfl⟩
    refine wpAny_bind (wpAny_bind (wpAny_bind (PySem.W.kas_mapM (r := Value.type "tuple") _ (fun v hv Q' hq => (tyv v hv).here hq) (wpAny_pure ?_))))
    have hall2 : ((List.map (fun _ => Value.type "tuple") (v1 :: vr)).toArray.all fun x => x == Value.type "tuple") = true := by
      simp only [List.all_toArray, List.all_map, List.all_eq_true]
      intro _ _
      first | decide +kernel | rfl
    have h0 : (List.map (fun _ => Value.type "tuple") (v1 :: vr)).toArray[0]? = some (Value.type "tuple") := by simp
    rw [h0]
    simp only [hall2, if_true]
    exact wpAny_pure (wpAny_pure hq)
end
end Pm
namespace Pm
open PySem PySem.Spec PyProof.Rows L2 PySem.W
def keysO (p d : Addr) : HO := .ext fun h => KdlKeysView h p d
theorem keysO_ok {P : Program} {w : World} {H : Hp} {h : Heap} {p d : Addr} (e : h.get? p = some { cls := .type "dict_keys", data := .fields #[.ref d] }) : ObjOk P w H h p (keysO p d) :=
  ⟨⟨_, e, rfl, rfl⟩, ⟨_, e⟩, fun h1 h2 x k => let ⟨o, ho, r⟩ := x; ⟨o, k o ho, r⟩⟩
end Pm
namespace Pm
open PySem PySem.Spec PyProof.Rows L2 PySem.W
namespace ND
mutual
def key : ND → NestedKey
  | .i n => .num n
  | .t xs => .tup (keyL xs)
def keyL : List ND → List NestedKey
  | [] => []
  | x :: xs => key x :: keyL xs
end
mutual
theorem key_inj : ∀ x y : ND, key x = key y → x = y
  | .i a, .i b, h => by simp only [key] at h; injection h with h; rw [h]
  | .i _, .t _, h => by simp only [key] at h; cases h
  | .t _, .i _, h => by simp only [key] at h; cases h
  | .t xs, .t ys, h => by simp only [key] at h; injection h with h; rw [keyL_inj xs ys h]
theorem keyL_inj : ∀ xs ys : List ND, keyL xs = keyL ys → xs = ys
  | [], [], _ => rfl
  | [], _ :: _, h => by simp only [keyL] at h; cases h
  | _ :: _, [], h => by simp only [keyL] at h; cases h
  | x :: xs, y :: ys, h => by
    simp only [keyL] at h
    injection h with h1 h2
    rw [key_inj x y h1, keyL_inj xs ys h2]
end
mutual
theorem key_dep : ∀ x : ND, x.key.depth = (py x).depth
  | .i _ => rfl
  | .t xs => by simp only [key, py, NestedKey.depth, PyData.depth]; rw [keyL_dep xs]
theorem keyL_dep : ∀ xs : List ND, NestedKey.depthAll (keyL xs) = PyData.depthAll (pyL xs)
  | [] => rfl
  | x :: xs => by simp only [keyL, pyL, NestedKey.depthAll, PyData.depthAll]; rw [key_dep x, keyL_dep xs]
end
end ND
instance : DecidableEq ND := fun x y => if h : ND.cmp x y = .eq then .isTrue (ND.cmp_eq h) else .isFalse fun e => h (e ▸ ND.cmp_self x)
mutual
def NdV (H : Hp) : ND → V → Prop
  | .i n, v => v = .int n
  | .t ds, v => ∃ (a : Addr) (xs : List V), v = .ref a ∧ H a = some (.tup xs) ∧ NdL H ds xs
def NdL (H : Hp) : List ND → List V → Prop
  | [], xs => xs = []
  | d :: ds, xs => ∃ (x : V) (r : List V), xs = x :: r ∧ NdV H d x ∧ NdL H ds r
end
mutual
theorem NdV.keep {H H' : Hp} (k : Keeps H H') : ∀ (d : ND) (v : V), NdV H d v → NdV H' d v
  | .i n, v, h => by unfold NdV at h ⊢; exact h
  | .t ds, v, h => by
    unfold NdV at h ⊢
    obtain ⟨a, xs, e, ha, hl⟩ := h
    exact ⟨a, xs, e, k _ _ ha, NdL.keep k ds xs hl⟩
theorem NdL.keep {H H' : Hp} (k : Keeps H H') : ∀ (ds : List ND) (xs : List V), NdL H ds xs → NdL H' ds xs
  | [], xs, h => by unfold NdL at h ⊢; exact h
  | d :: ds, xs, h => by
    unfold NdL at h ⊢
    obtain ⟨x, r, e, h1, h2⟩ := h
    exact ⟨x, r, e, NdV.keep k d x h1, NdL.keep k ds r h2⟩
end
mutual
theorem NdV.dp {K : PySem.W.Frag} {H : Hp} : ∀ (d : ND) (v : V), NdV H d v → Dp K H v d.py
  | .i n, v, h => by
    unfold NdV at h
    subst h
    simp only [ND.py]
    exact .int n
  | .t ds, v, h => by
    unfold NdV at h
    obtain ⟨a, xs, rfl, ha, hl⟩ := h
    simp only [ND.py]
    exact .tup (SqT.of ha) (NdL.dp ds xs hl)
theorem NdL.dp {K : PySem.W.Frag} {H : Hp} : ∀ (ds : List ND) (xs : List V), NdL H ds xs → DpAll K H xs (ND.pyL ds)
  | [], xs, h => by
    unfold NdL at h
    subst h
    simp only [ND.pyL]
    exact .nil
  | d :: ds, xs, h => by
    unfold NdL at h
    obtain ⟨x, r, rfl, h1, h2⟩ := h
    simp only [ND.pyL]
    exact .cons (NdV.dp d x h1) (NdL.dp ds r h2)
end
section
variable {P : Program} {w : World} {H : Hp} {h : Heap}
mutual
theorem nested_of (ok : HOk P w H h) : ∀ (d : ND) (v : V) (u : Value), NdV H d v → RelV v u → NestedIs h d.key u
  | .i n, v, u, hv, r => by
    unfold NdV at hv
    subst hv
    obtain ⟨t, rfl⟩ := r
    simp only [ND.key]
    exact .int n t
  | .t ds, v, u, hv, r => by
    unfold NdV at hv
    obtain ⟨a, xs, rfl, ha, hl⟩ := hv
    obtain rfl : u = Value.ref a := r
    obtain ⟨_, its, rv, o, h1, h2, n, h3⟩ := (show ObjOk P w H h a (.tup xs) from ok a _ ha)
    simp only [ND.key]
    exact .tup h1 h2 h3 (nestedL_of ok ds xs its hl rv)
theorem nestedL_of (ok : HOk P w H h) : ∀ (ds : List ND) (xs : List V) (us : List Value), NdL H ds xs → Vals xs us → NestedAll h (ND.keyL ds) us
  | [], xs, us, hv, r => by
    unfold NdL at hv
    subst hv
    cases r
    simp only [ND.keyL]
    exact .nil
  | d :: ds, xs, us, hv, r => by
    unfold NdL at hv
    obtain ⟨x, rr, rfl, h1, h2⟩ := hv
    cases r with
    | cons r1 r2 =>
      simp only [ND.keyL]
      exact .cons (nested_of ok d x _ h1 r1) (nestedL_of ok ds rr _ h2 r2)
end
end
def ndO (P : Program) (w : World) (a : Addr) (xs : List (NestedKey × Addr × Value)) : HO := .ext fun h => (a == sysModules) = false ∧ ∃ o es ep, h.get? a = some o ∧ o.ExactDict ∧ o.data = .dict es ep ∧ es.toList = xs.map (entryOfKey (nestedKind P w))
theorem ndO_ok {P : Program} {w : World} {H : Hp} {h : Heap} {a : Addr} {xs : List (NestedKey × Addr × Value)} (hd : (a == sysModules) = false) {o : Obj} {es : Array DictEntry} {ep : Nat} (h1 : h.get? a = some o) (h2 : o.ExactDict) (h3 : o.data = .dict es ep) (h4 : es.toList = xs.map (entryOfKey (nestedKind P w))) : ObjOk P w H h a (ndO P w a xs) :=
  ⟨⟨hd, o, es, ep, h1, h2, h3, h4⟩, ⟨o, h1⟩, fun _ _ x k => let ⟨hd, o, es, ep, g1, g2, g3, g4⟩ := x; ⟨hd, o, es, ep, k o g1, g2, g3, g4⟩⟩
def KN (H : Hp) (L : ND → Int) : List ND → List (NestedKey × Addr × Value) → Prop := Paired fun d q => d.key = q.1 ∧ NdV H d (.ref q.2.1) ∧ d.dep ≤ 8 ∧ ∃ t, q.2.2 = .int (L d) t
/-- the dict at a: its keys in order, what each holds -/
structure DI (P : Program) (w : World) (H : Hp) (a : Addr) (ks : List ND) (L : ND → Int) : Prop where
  nd : ks.Nodup
  sz : ks.length ≤ 1000000
  ex : ∃ xs, H a = some (ndO P w a xs) ∧ KN H L ks xs
def updL (L : ND → Int) (d : ND) (n : Int) : ND → Int := fun j => if j = d then n else L j
theorem updL_same {L : ND → Int} {d : ND} {n : Int} : updL L d n d = n := if_pos rfl
theorem updL_ne {L : ND → Int} {d j : ND} {n : Int} (h : j ≠ d) : updL L d n j = L j := if_neg h
def putd (ks : List ND) (d : ND) : List ND := if d ∈ ks then ks else ks ++ [d]
theorem mem_putd {ks : List ND} {d j : ND} : j ∈ putd ks d ↔ j ∈ ks ∨ j = d := by
  unfold putd
  split
  · rename_i h
    constructor
    · exact .inl
    · rintro (z | rfl)
      · exact z
      · exact h
  · rw [List.mem_append, List.mem_singleton]
theorem putd_nodup {ks : List ND} {d : ND} (h : ks.Nodup) : (putd ks d).Nodup := by
  unfold putd
  split
  · exact h
  · rename_i n
    rw [List.nodup_append]
    exact ⟨h, by simp, fun a ha b hb => by rw [List.mem_singleton.mp hb]; rintro rfl; exact n ha⟩
theorem putd_len (ks : List ND) (d : ND) : (putd ks d).length ≤ ks.length + 1 := by
  unfold putd
  split
  · omega
  · rw [List.length_append, List.length_singleton]; exact Nat.le_refl _
section
variable {P : Program} {w : World} {H H' : Hp} {L : ND → Int} {ks : List ND} {xs : List (NestedKey × Addr × Value)} {a : Addr}
theorem KN.keep (k : Keeps H H') (h : KN H L ks xs) : KN H' L ks xs := Paired.mapP h fun _ _ z => ⟨z.1, NdV.keep k _ _ z.2.1, z.2.2⟩
theorem KN.at (h : KN H L ks xs) (d : ND) : (d ∈ ks → ∃ b t, PySem.atKey xs d.key = some (b, .int (L d) t)) ∧ (d ∉ ks → PySem.atKey xs d.key = none) := by
  unfold KN at h
  induction h with
  | nil => exact ⟨fun z => absurd z List.not_mem_nil, fun _ => rfl⟩
  | @cons p q ps qs hq t ih =>
    obtain ⟨h1, h2, h3, tk, h4⟩ := hq
    by_cases e : p = d
    · subst e
      have b : PySem.atKey (q :: qs) p.key = some q.2 := by simp [PySem.atKey, List.find?_cons, h1.symm]
      refine ⟨fun _ => ⟨q.2.1, tk, ?_⟩, fun z => absurd List.mem_cons_self z⟩
      rw [b, ← h4]
    · have e' : ¬ q.1 = d.key := fun z => e (ND.key_inj _ _ (h1.trans z))
      have b : PySem.atKey (q :: qs) d.key = PySem.atKey qs d.key := by simp [PySem.atKey, List.find?_cons, e']
      rw [b]
      refine ⟨fun z => ih.1 ?_, fun z => ih.2 fun m => z (List.mem_cons_of_mem _ m)⟩
      rcases List.mem_cons.mp z with z | z
      · exact absurd z.symm e
      · exact z
theorem KN.repl (h : KN H L ks xs) (d : ND) (n : Int) (t : Tok) : KN H (updL L d n) ks (xs.map (putAt d.key (.int n t))) := by
  unfold KN at h ⊢
  induction h with
  | nil => exact .nil
  | @cons p q ps qs hq _ ih =>
    rw [List.map_cons]
    refine .cons ?_ ih
    obtain ⟨h1, h2, h3, tk, h4⟩ := hq
    unfold putAt
    by_cases e : p = d
    · subst e
      rw [if_pos h1.symm]
      exact ⟨h1, h2, h3, t, by rw [updL_same]⟩
    · rw [if_neg (fun z => e (ND.key_inj _ _ (h1.trans z)))]
      exact ⟨h1, h2, h3, tk, by rw [updL_ne e]; exact h4⟩
theorem KN.congr {L' : ND → Int} (h : KN H L ks xs) (e : ∀ d ∈ ks, L' d = L d) : KN H L' ks xs := by
  unfold KN at h ⊢
  induction h with
  | nil => exact .nil
  | @cons p q ps qs hq _ ih =>
    refine .cons ?_ (ih fun d hd => e d (List.mem_cons_of_mem _ hd))
    obtain ⟨h1, h2, h3, tk, h4⟩ := hq
    exact ⟨h1, h2, h3, tk, by rw [e _ List.mem_cons_self]; exact h4⟩
theorem KN.put (h : KN H L ks xs) {d : ND} {b : Addr} (hb : NdV H d (.ref b)) (dd : d.dep ≤ 8) (n : Int) (t : Tok) : KN H (updL L d n) (putd ks d) (storedH xs d.key b (.int n t)) := by
  unfold putd storedH
  obtain ⟨h1, h2⟩ := h.at d
  by_cases m : d ∈ ks
  · obtain ⟨b', t', e⟩ := h1 m
    rw [e, if_pos m]
    exact h.repl d n t
  · rw [h2 m, if_neg m]
    exact Paired.snoc (h.congr fun j hj => updL_ne (fun z => m (z ▸ hj))) ⟨rfl, hb, dd, t, by rw [updL_same]⟩
theorem KN.keys (h : KN H L ks xs) : xs.map (·.1) = ks.map ND.key := by
  unfold KN at h
  induction h with
  | nil => rfl
  | @cons p q ps qs hq _ ih => rw [List.map_cons, List.map_cons, ih, hq.1]
theorem KN.refs (h : KN H L ks xs) : All2 (fun v d => NdV H d v) (xs.map fun x => V.ref x.2.1) ks := by
  unfold KN at h
  induction h with
  | nil => trivial
  | @cons p q ps qs hq _ ih => exact ⟨hq.2.1, ih⟩
theorem KN.len (h : KN H L ks xs) : ks.length = xs.length := Paired.length h
theorem DI.same (h : DI P w H a ks L) (s : Same H H') : DI P w H' a ks L := by
  obtain ⟨n, z, xs, h1, h2⟩ := h
  exact ⟨n, z, xs, s _ _ h1, h2.keep (keeps s)⟩
theorem DI.keep (h : DI P w H a ks L) (k : Keeps H H') (e : H' a = H a) : DI P w H' a ks L := by
  obtain ⟨n, z, xs, h1, h2⟩ := h
  exact ⟨n, z, xs, by rw [e]; exact h1, h2.keep k⟩
theorem DI.congr {L' : ND → Int} (h : DI P w H a ks L) (e : ∀ d ∈ ks, L' d = L d) : DI P w H a ks L' := by
  obtain ⟨n, z, xs, h1, h2⟩ := h
  exact ⟨n, z, xs, h1, h2.congr e⟩
theorem dn_of {h : Heap} (ok : HOk P w H h) (D : DI P w H a ks L) : (a == sysModules) = false ∧ ∃ xs, H a = some (ndO P w a xs) ∧ KN H L ks xs ∧ h.DictOfH (nestedKind P w) a xs := by
  obtain ⟨n, z, xs, h1, h2⟩ := D
  obtain ⟨⟨hd, o, es, ep, g1, g2, g3, g4⟩, _⟩ := (show ObjOk P w H h a (ndO P w a xs) from ok a _ h1)
  refine ⟨hd, xs, h1, h2, o, es, ep, g1, g2, g3, g4, ?_, ?_⟩
  · have all : ∀ {l : List ND} {m : List (NestedKey × Addr × Value)}, KN H L l m → ∀ x ∈ m, (nestedKind P w).is h x.1 x.2.1 := by
      intro l m q
      unfold KN at q
      induction q with
      | nil => intro x hx; exact nomatch hx
      | @cons p q ps qs hq t ih =>
        intro x hx
        rcases List.mem_cons.mp hx with e | hx
        · subst e
          obtain ⟨k1, k2, k3, _⟩ := hq
          refine ⟨?_, ?_⟩
          · rw [← k1]
            exact nested_of ok p _ _ k2 rfl
          · rw [← k1, ND.key_dep]
            exact k3
        · exact ih x hx
    exact all h2
  · rw [h2.keys]
    exact List.pairwise_map.mpr (n.imp fun {x y} h z => h (ND.key_inj _ _ z))
end
def tDNewN (P : Program) (w : World) : TE := fun _ H Q => ∀ p, H p = none → Q (.ref p) (upd H p (ndO P w p []))
theorem di_new {P : Program} {w : World} {H : Hp} {p : Addr} (L : ND → Int) : DI P w (upd H p (ndO P w p [])) p [] L := ⟨List.nodup_nil, Nat.zero_le _, [], upd_same, .nil⟩
/-- a key: a tuple, not too deep -/
def KeyD (d : ND) : Prop := (∃ r, d = .t r) ∧ d.dep ≤ 8
theorem NdV.ref {H : Hp} {d : ND} {v : V} (h : NdV H d v) (k : KeyD d) : ∃ b, v = .ref b := by
  obtain ⟨⟨r, rfl⟩, _⟩ := k
  unfold NdV at h
  obtain ⟨a, _, e, _⟩ := h
  exact ⟨a, e⟩
def sNPut (P : Program) (w : World) (td ty tv : TE) : TS := fun D σ H => tv σ H fun v H1 => td σ H1 fun x H2 => ty σ H2 fun y H3 => ∃ a ks L d n, x = .ref a ∧ v = .int n ∧ DI P w H3 a ks L ∧ KeyD d ∧ NdV H3 d y ∧ ks.length < 1000000 ∧
  ∀ xs, DI P w (upd H3 a (ndO P w a xs)) a (putd ks d) (updL L d n) → Keeps H3 (upd H3 a (ndO P w a xs)) → D.nx σ (upd H3 a (ndO P w a xs))
def tNGet (P : Program) (w : World) (td ty : TE) : TE := fun σ H Q => td σ H fun x H1 => ty σ H1 fun y H2 => ∃ a ks L d, x = .ref a ∧ DI P w H2 a ks L ∧ KeyD d ∧ NdV H2 d y ∧ d ∈ ks ∧ Q (.int (L d)) H2
def tNGet2 (P : Program) (w : World) (td ty tx : TE) : TE := fun σ H Q => td σ H fun x H1 => ∃ a ks L, x = .ref a ∧ DI P w H1 a ks L ∧ ty σ H1 fun y H2 => tx σ H2 fun z H3 => ∃ ks L d n, z = .int n ∧ DI P w H3 a ks L ∧ KeyD d ∧ NdV H3 d y ∧ Q (.int (if d ∈ ks then L d else n)) H3
def tNKeys (P : Program) (w : World) (td : TE) : TE := fun σ H Q => td σ H fun x H1 => ∃ a ks L, x = .ref a ∧ DI P w H1 a ks L ∧ ∀ p, H1 p = none → Q (.ref p) (upd H1 p (keysO p a))
section
variable {X : Cx} {o i e f value : Expr} {pos pos' apos cpos : Pos} {td ty tv tx : TE}
theorem pe_dnewN : PE X (.Dict [] [] pos) (tDNewN X.prog X.w) := ⟨fun pins s σ H Q I h =>
  wpAny_Dict_empty ⟨.ref s.heap.objs.size, _, I.laid (a := s.heap.objs.size) (o := ndO X.prog X.w s.heap.objs.size []) (t' := s.toks) (fun _ _ q => Heap.get?_push_of_some _ q) (Nat.le_refl _) (ndO_ok (beq_eq_false_iff_ne.mpr (Ne.symm (Nat.ne_of_lt I.big))) (es := #[]) (ep := 0) (Heap.get?_push_size _ rfl) ⟨rfl, rfl, rfl⟩ rfl rfl), rfl, h _ (I.hok.fresh (Nat.le_refl _))⟩⟩
theorem nd_is {pins : List (Addr × Obj)} {σ : L2.St} {H : Hp} {s : Shared} (I : Inv X pins σ H s) {d : ND} {b : Addr} (k : KeyD d) (h : NdV H d (.ref b)) : (nestedKind X.prog X.w).is s.heap d.key b := ⟨nested_of I.hok d _ _ h rfl, by rw [ND.key_dep]; exact k.2⟩
theorem ps_nput (hu : X.A.units + 40 < cLine) (ho : PE X o td) (hi : PE X i ty) (hv : PE X value tv) (hs : swapsWith value (some (.Subscript o i pos')) pos.line X.env = pure false) :
    PS X (.Assign [.Subscript o i pos'] value pos) (sNPut X.prog X.w td ty tv) := by
  refine ⟨fun pins s σ H D I h => ?_⟩
  refine wpAny_Assign_Subscript (thn (hv.run pins s σ H _ I h) fun r s1 ⟨v, H1, I1, rv, q1⟩ => thn (ho.run pins s1 σ H1 _ I1 q1) fun u s2 ⟨x, H2, I2, rx, q2⟩ => thn (hi.run pins s2 σ H2 _ I2 q2) fun iv s3 ⟨y, H3, I3, ry, a, ks, L, d, n, ex, ev, D3, kd, hy, hz, q3⟩ => ?_) hs
  subst ex ev
  obtain ⟨b, rfl⟩ := hy.ref kd
  obtain rfl : u = Value.ref a := rx
  obtain rfl : iv = Value.ref b := ry
  obtain ⟨t, rfl⟩ := rv
  obtain ⟨hd, xs, ha, hk, dd⟩ := dn_of I3.hok D3
  have hl := hk.len
  refine wpAny_setItem_heap (hsz := by rw [← hl, sizeLine_eq]; omega) (by show X.A.in1.units + 8 < cLine; show X.A.units + 1 + 8 < cLine; omega) (nd_is I3 kd hy) dd fun h' dd' hs => ?_
  obtain ⟨q, es, ep, hq, h2, h3, h4, _, h5⟩ := dd'
  have k9 : Keeps H3 (upd H3 a (ndO X.prog X.w a (storedH xs d.key b (.int n t)))) := fun c ys ec => by
    rw [upd_ne (ne_of ec ha (fun z => nomatch z))]
    exact ec
  have I4 := d_write (X := X) (t' := s3.toks + (nestedKind X.prog X.w).draws d.key) (ob := ndO X.prog X.w a (storedH xs d.key b (.int n t))) I3 (by rw [ha]; exact True.intro) hs ⟨q, hq⟩ (ndO_ok hd hq h2 h3 h4)
  exact ⟨σ, _, I4, q3 _ ⟨putd_nodup D3.nd, by have := putd_len ks d; omega, _, upd_same, (hk.keep k9).put (NdV.keep k9 _ _ hy) kd.2 n t⟩ k9⟩
theorem pe_nget (hu : X.A.units + 40 < cLine) (ho : PE X o td) (hi : PE X i ty) (hs : NoSl i) : PE X (.Subscript o i pos) (tNGet X.prog X.w td ty) := by
  refine ⟨fun pins s σ H Q I h => ?_⟩
  refine subD_of PySem.F.slot_dict_getitem.lookup hs (thn (ho.run pins s σ H _ I h) fun u s1 ⟨x, H1, I1, rx, q1⟩ => thn (hi.run pins s1 σ H1 _ I1 q1) fun iv s2 ⟨y, H2, I2, ry, a, ks, L, d, ex, D2, kd, hy, m, q2⟩ => ?_)
  subst ex
  obtain ⟨b, rfl⟩ := hy.ref kd
  obtain rfl : u = Value.ref a := rx
  obtain rfl : iv = Value.ref b := ry
  obtain ⟨hd, xs, ha, hk, dd⟩ := dn_of I2.hok D2
  obtain ⟨b', t', e⟩ := (hk.at d).1 m
  exact ⟨dd.typeIs, wpAny_getItem_heap (by show X.A.units + 1 + 8 < cLine; omega) (nd_is I2 kd hy) dd e ⟨.int (L d), H2, I2.tok _, ⟨t', rfl⟩, q2⟩⟩
theorem nd_ty {pins : List (Addr × Obj)} {σ : L2.St} {H : Hp} {s : Shared} {a : Addr} {ks : List ND} {L : ND → Int} (I : Inv X pins σ H s) (D : DI X.prog X.w H a ks L) : s.TypeIs (.ref a) "dict" ∧ (∀ b, Value.ref a = .ref b → ∃ ob, s.heap.get? b = some ob ∧ ob.dict = none) ∧ (a == sysModules) = false := by
  obtain ⟨hd, xs, ha, hk, dd⟩ := dn_of I.hok D
  refine ⟨dd.typeIs, fun b e => ?_, hd⟩
  cases e
  obtain ⟨ob, _, _, h1, h2, _⟩ := dd
  exact ⟨ob, h1, h2.2.1⟩
theorem pe_nget2 (hu : X.A.units + 40 < cLine) (ho : PE X o td) (he : PE X e ty) (hf : PE X f tx) (m : M2 X o "get" apos e f cpos) : PE X (.Call (.Attribute o "get" apos) [e, f] [] cpos) (tNGet2 X.prog X.w td ty tx) := by
  refine ⟨fun pins s σ H Q I h => ?_⟩
  refine wpAny_Call_method m.base m.few m.line PySem.F.plainAttrs_dict PySem.F.slot_dict_get PySem.F.type_dict_get (thn (ho.run pins s σ H _ I h) fun u s1 ⟨x, H1, I1, rx, a, ks, L, ex, d, q1⟩ => ?_)
  subst ex
  obtain rfl : u = Value.ref a := rx
  obtain ⟨t1, t2, _⟩ := nd_ty I1 d
  refine ⟨t1, t2, ?_⟩
  rw [m.trees]
  refine Calls.callWith_builtin rfl (Calls.evalArgs_plain (Calls.spliced_cons (thn (he.run pins s1 σ H1 _ I1 q1) fun iv s2 ⟨y, H2, I2, ry, q2⟩ =>
    Calls.spliced_cons (thn (hf.run pins s2 σ H2 _ I2 q2) fun fv s3 ⟨z, H3, I3, rz, ks3, L3, d3, n, ez, D3, kd, hy, q3⟩ => Calls.spliced_nil ?_))))
  subst ez
  obtain ⟨b, rfl⟩ := hy.ref kd
  obtain rfl : iv = Value.ref b := ry
  obtain ⟨tz, rfl⟩ := rz
  obtain ⟨hd, xs, ha, hk, dd⟩ := dn_of I3.hok D3
  refine call_meetsIn PySem.F.slot_dict_get dd.typeIs PySem.F.entry_dict_get (PySem.F.args_dict_get_3 _ _ _) (meetsH_dict_get_default (nestedKind X.prog X.w) a b hd _) ⟨by show X.A.units + 1 + 8 < cLine; omega, d3.key, xs, nd_is I3 kd hy, dd, ?_⟩
  by_cases mm : d3 ∈ ks3
  · obtain ⟨b', t', e⟩ := (hk.at d3).1 mm
    rw [e]
    rw [if_pos mm] at q3
    exact ⟨.int (L3 d3), H3, I3.tok _, ⟨t', rfl⟩, q3⟩
  · rw [(hk.at d3).2 mm]
    rw [if_neg mm] at q3
    exact ⟨.int n, H3, I3.tok _, ⟨tz, rfl⟩, q3⟩
theorem pe_nkeys (ho : PE X o td) (hbase : attributeBase o "keys" X.env (eval o X.env) = eval o X.env := by rfl) (hline : (apos.endLine == cpos.line) = true := by rfl) : PE X (.Call (.Attribute o "keys" apos) [] [] cpos) (tNKeys X.prog X.w td) := by
  refine ⟨fun pins s σ H Q I h => ?_⟩
  refine wpAny_Call_method0_late hbase hline (thn (ho.run pins s σ H _ I h) fun u s1 ⟨x, H1, I1, rx, a, ks, L, ex, D, q1⟩ => ?_)
  subst ex
  obtain rfl : u = Value.ref a := rx
  obtain ⟨t1, t2, hd⟩ := nd_ty I1 D
  refine ⟨"dict", "dict.keys", PySem.F.plainAttrs_dict, PySem.F.slot_dict_keys, PySem.F.type_dict_keys, t1, t2, Calls.callWith_builtin rfl (PySem.evalArgs_none ?_)⟩
  obtain ⟨_, xs, ha, hk, dd⟩ := dn_of I1.hok D
  obtain ⟨ob, es, ep, ho2, hx, hdat, _⟩ := id dd
  have raw : s1.heap.DictRaw a es ep := ⟨ob, ho2, hx, hdat⟩
  have hf : H1 s1.heap.objs.size = none := I1.hok.fresh (Nat.le_refl _)
  exact call_meetsIn PySem.F.slot_dict_keys dd.typeIs PySem.F.entry_dict_keys (PySem.F.args_dict_keys_1 _) (meets_dict_keys_raw a hd)
    ⟨⟨es, ep, raw⟩, ⟨.ref s1.heap.objs.size, upd H1 s1.heap.objs.size (keysO s1.heap.objs.size a), I1.laid (t' := s1.toks) (fun b u e => Heap.get?_push_of_some _ e) (Nat.le_refl _) (keysO_ok (Heap.get?_push_size _ rfl)), rfl, q1 _ hf⟩⟩
end
section
variable {prog : Program} {w : World} {A : Around} {E : Value → Shared → Prop} {s : Shared}
theorem sorted_keysN {r d : Addr} {es : Array DictEntry} {ep : Nat} {ds : List ND} {Q : Value → Shared → Prop} (hh : A.handled = none) (hv : KdlKeysView s.heap r d) (hm : s.heap.DictRaw d es ep) (hz : es.size ≤ sizeLine) (hu : A.units + 30 < cLine) (ok : SrtOkE ds)
    (hp : All2 (fun v d => ∃ as, Reads s.heap v (ND.py d) as) (es.toList.map (·.key)) ds)
    (h : ∀ (h1 h' : Heap) (tk : Nat) (out : List Value), SrtO.Srtd (fun v u => ND.ltB (datOf s.heap v) (datOf s.heap u)) out → SrtO.Stb (fun v u => ND.ltB (datOf s.heap v) (datOf s.heap u)) out (es.toList.map (·.key)) → (∀ b o, s.heap.get? b = some o → h1.get? b = some o) → (∀ b o, h1.get? b = some o → h'.get? b = some o) → (∃ n, h'.get? h1.objs.size = some (seqObj "list" out.toArray n)) → Q (.ref h1.objs.size) { s with heap := h', toks := tk }) :
    wpAny (model prog w) A (call (.builtin "sorted") [.ref r]) Q E s := by
  refine Calls.call_function_entry kind_sorted plain_sorted entry_sorted (args_sorted1 _) ?_
  unfold Builtin.«sorted»
  refine wpAny_bind (m := checkCount "sorted" 1 1 _) (wpAny_pure ?_)
  refine wpAny_bind (kdu_collect (A := A.in1) (KdlSrc.rawKeys (r := r) (d := d) (es := es) (ep := ep)) hh ⟨hv, hm⟩ hz fun h1 tk acc hk hacc => ?_)
  have eacc : acc.toList = es.toList.map (·.key) := by
    refine List.ext_getElem? fun j => ?_
    rw [List.getElem?_map]
    have sz := hacc.1
    by_cases c : j < es.size
    · have c1 : j < acc.size := by omega
      have q := hacc.2 j acc[j] (by rw [Array.getElem?_eq_getElem c1])
      obtain ⟨hi, e⟩ := q
      rw [Array.getElem?_toList, Array.getElem?_toList, Array.getElem?_eq_getElem c1, Array.getElem?_eq_getElem c, e]
      rfl
    · rw [Array.getElem?_toList, Array.getElem?_toList, Array.getElem?_eq_none (by omega), Array.getElem?_eq_none (by omega)]
      rfl
  rw [eacc]
  have hz' : (es.toList.map (·.key)).length ≤ sizeLine := by rw [List.length_map, Array.length_toList]; exact hz
  generalize hvs : es.toList.map (·.key) = vs at *
  refine wpAny_bind (wpAny_newList ?_ hz')
  have hoL : (h1.push (seqObj "list" vs.toArray 0)).get? h1.objs.size = some (seqObj "list" vs.toArray 0) := Heap.get?_push_size _ rfl
  have keep : ∀ b o, s.heap.get? b = some o → b ≠ h1.objs.size ∧ (h1.push (seqObj "list" vs.toArray 0)).get? b = some o := fun b o q => by
    have q1 := hk b o q
    exact ⟨Nat.ne_of_lt (Heap.lt_size q1), Heap.get?_push_of_some _ q1⟩
  show wpAny _ _ _ _ _ { s with heap := h1.push (seqObj "list" vs.toArray 0), toks := tk }
  refine wpAny_bind (wpAny_holding (wpAny_call_entry slot_list_sort ⟨_, hoL, rfl⟩ entry_list_sort (SrtO.list_sort_ord (swo_dat (datOf s.heap)) hoL hz' (fun h2 => ?_) fun out hs hb => ⟨_, rfl, ?_⟩) (args_list_sort _)))
  · have kt : ∀ c o, s.heap.get? c = some o → o.cls = .type "tuple" → (h1.push (seqObj "list" vs.toArray 0)).get? c = some o := fun c o e _ => (keep c o e).2
    refine nd_sortableE (s := { s with heap := h1.push (seqObj "list" vs.toArray 0), toks := tk }) (ds := ds) (by omega) (hp.mono fun v d ⟨as, rd⟩ => ⟨as, reads_keep kt d v as rd⟩) ok (by show A.units + 1 + 1 + 16 < cLine; omega) (fun o e => ?_) (datOf s.heap) (fun v hv' d as rd => ?_)
    · have e' : some o = some (seqObj "list" vs.toArray 0) := e.symm.trans hoL
      cases e'
      intro c
      exact absurd (Value.type.inj c) (by decide)
    · obtain ⟨d', _, as', rd'⟩ := hp.mem hv'
      rw [datOf_eq rd']
      exact (datOf_eq (reads_keep kt d' v as' rd')).symm.trans (datOf_eq rd)
  · refine wpAny_pure ⟨_, rfl, h h1 _ _ out hs hb hk (fun b o e => ?_) (sortedHeap_at hoL)⟩
    have n2 := Heap.get?_push_of_some (seqObj "list" vs.toArray 0) e
    rw [sortedHeap_old (Nat.ne_of_lt (Heap.lt_size e)) (Heap.lt_size n2)]
    exact n2
end
/-- sorted(d.keys()) of a dict with nested keys -/
def rSortKN (P : Program) (w : World) : List V → Hp → VK → Prop := fun vs H Q => ∃ (p a : Addr) (ks : List ND) (L : ND → Int), vs = [.ref p] ∧ H p = some (keysO p a) ∧ DI P w H a ks L ∧ SrtOkE ks ∧ ∀ ys l, H l = none → All2 (fun v d => NdV H d v) ys (ND.sort ks) → Q (.ref l) (upd H l (.lst ys))
theorem cr_sortKN {X : Cx} (hc : X.calm = true) (hu : X.A.units + 40 < cLine) : CallR X (.builtin "sorted") (rSortKN X.prog X.w) := by
  intro pins s σ H vs us Q I r h
  obtain ⟨p, a, ks, L, rfl, hp, D, ok, q⟩ := h
  obtain ⟨u, rfl, ru⟩ := vals1 r
  obtain rfl : u = Value.ref p := ru
  obtain ⟨hd, xs, ha, hk, dd⟩ := dn_of I.hok D
  obtain ⟨o, es, ep, ho, hx, hdat, he, _, hn⟩ := id dd
  have hview : KdlKeysView s.heap p a := (I.hok p _ hp).1
  have hsz : es.size = xs.length := size_of_entries he
  have lx := hk.len
  have zk := D.sz
  have ek : es.toList.map (·.key) = xs.map fun x => Value.ref x.2.1 := by
    rw [he, List.map_map]
    rfl
  have keys2 := hk.refs
  have rv : Vals (xs.map fun x => V.ref x.2.1) (xs.map fun x => Value.ref x.2.1) := by
    have gen : ∀ xs : List (NestedKey × Addr × Value), Vals (xs.map fun x => V.ref x.2.1) (xs.map fun x => Value.ref x.2.1) := fun xs => by
      induction xs with
      | nil => exact .nil
      | cons x xs ih => exact .cons rfl ih
    exact gen xs
  have hR : All2 (fun v d => ∃ as, Reads s.heap v (ND.py d) as) (xs.map fun x => Value.ref x.2.1) ks := reads2 I rv (keys2.mono fun v d h => NdV.dp d v h)
  have em : (xs.map fun x => Value.ref x.2.1).map (datOf s.heap) = ks := hR.map_eq fun v d ⟨as, rd⟩ => datOf_eq rd
  refine sorted_keysN (ds := ks) (I.ok.hd hc) hview ⟨o, ho, hx, hdat⟩ (by rw [sizeLine_eq]; omega) (by omega) ok (by rw [ek]; exact hR) fun h1 h' tk out hs hb hk' hkk hn' => ?_
  rw [ek] at hb
  have h3 : ∀ u ∈ out, ∃ a, u = Value.ref a := fun u hu => by
    have hu2 := hb.perm.mem_iff.mp hu
    obtain ⟨x, _, e⟩ := List.mem_map.mp hu2
    exact ⟨_, e.symm⟩
  obtain ⟨n, hn'⟩ := hn'
  have I1 : Inv X pins σ H { s with heap := h1, toks := tk } := I.kept hk'
  have len : (out.map backV).length ≤ sizeLine := by rw [List.length_map, hb.perm.length_eq, List.length_map, sizeLine_eq]; omega
  refine ⟨.ref h1.objs.size, upd H h1.objs.size (.lst (out.map backV)), I1.laid (t' := tk) hkk (Nat.le_refl _) (show ObjOk X.prog X.w _ _ _ (.lst (out.map backV)) from ⟨len, out, n, vals_back h3, hn'⟩), rfl, q _ _ (I1.hok.fresh (Nat.le_refl _)) ?_⟩
  have so : out.map (datOf s.heap) = ND.sort ks := by
    refine (ND.sort_eq ?_ ?_).symm
    · refine List.pairwise_map.mpr (hs.imp fun {x y} z => ?_)
      have z : ND.ltB (datOf s.heap y) (datOf s.heap x) = false := z
      unfold ND.leB
      rw [z]
      rfl
    · rw [← em]; exact hb.perm.map _
  rw [← so]
  -- each of them, with its own datum
  have each : ∀ u ∈ out, NdV H (datOf s.heap u) (backV u) := fun u hu => by
    have hu2 := hb.perm.mem_iff.mp hu
    obtain ⟨x, hx', e⟩ := List.mem_map.mp hu2
    have mv : V.ref x.2.1 ∈ xs.map fun x => V.ref x.2.1 := List.mem_map.mpr ⟨x, hx', rfl⟩
    obtain ⟨d, _, hv⟩ := keys2.mem mv
    obtain ⟨as, rd⟩ := Dp.reads I _ _ _ (NdV.dp (K := X.K) d _ hv) (show RelV (V.ref x.2.1) (Value.ref x.2.1) from rfl)
    rw [← e, datOf_eq rd]
    exact hv
  clear so hb hs hn' len q h3
  induction out with
  | nil => trivial
  | cons u r ih => exact ⟨each u List.mem_cons_self, ih fun v hv => each v (List.mem_cons_of_mem _ hv)⟩
section
variable {X : Cx} {P : Program} {w : World} {o i e f value : Expr} {pos pos' apos cpos : Pos} {td ty tv tx : TE}
theorem n_dnew (eP : X.prog = P := by rfl) (ew : X.w = w := by rfl) : PE X (.Dict [] [] pos) (tDNewN P w) := by
  subst eP ew
  exact pe_dnewN
theorem n_put (hu : X.A.units + 40 < cLine) (ho : PE X o td) (hi : PE X i ty) (hv : PE X value tv) (hs : swapsWith value (some (.Subscript o i pos')) pos.line X.env = pure false) (eP : X.prog = P := by rfl) (ew : X.w = w := by rfl) :
    PS X (.Assign [.Subscript o i pos'] value pos) (sNPut P w td ty tv) := by
  subst eP ew
  exact ps_nput hu ho hi hv hs
theorem n_get (hu : X.A.units + 40 < cLine) (ho : PE X o td) (hi : PE X i ty) (hs : NoSl i) (eP : X.prog = P := by rfl) (ew : X.w = w := by rfl) : PE X (.Subscript o i pos) (tNGet P w td ty) := by
  subst eP ew
  exact pe_nget hu ho hi hs
theorem n_get2 (hu : X.A.units + 40 < cLine) (ho : PE X o td) (he : PE X e ty) (hf : PE X f tx) (m : M2 X o "get" apos e f cpos) (eP : X.prog = P := by rfl) (ew : X.w = w := by rfl) : PE X (.Call (.Attribute o "get" apos) [e, f] [] cpos) (tNGet2 P w td ty tx) := by
  subst eP ew
  exact pe_nget2 hu ho he hf m
theorem n_keys (ho : PE X o td) (hbase : attributeBase o "keys" X.env (eval o X.env) = eval o X.env := by rfl) (hline : (apos.endLine == cpos.line) = true := by rfl) (eP : X.prog = P := by rfl) (ew : X.w = w := by rfl) : PE X (.Call (.Attribute o "keys" apos) [] [] cpos) (tNKeys P w td) := by
  subst eP ew
  exact pe_nkeys ho hbase hline
theorem n_sort (hc : X.calm = true) (hu : X.A.units + 40 < cLine) (eP : X.prog = P := by rfl) (ew : X.w = w := by rfl) : CallR X (.builtin "sorted") (rSortKN P w) := by
  subst eP ew
  exact cr_sortKN hc hu
end
section
variable {P : Program} {w : World} {σ : L2.St} {H : Hp} {td ty tv tx : TE} {Q : VK} {a p : Addr} {ks : List ND} {L : ND → Int} {d : ND} {n : Int} {x y v : V} {D : Ends} {nx : L2.St → Hp → Prop}
theorem w_ndnew (h : ∀ p, H p = none → DI P w (upd H p (ndO P w p [])) p [] (fun _ => 0) → Q (.ref p) (upd H p (ndO P w p []))) : tDNewN P w σ H Q := fun p hp => h p hp (di_new _)
def NPutK (P : Program) (w : World) (v x : V) (nx : L2.St → Hp → Prop) (σ : L2.St) : VK := fun y H3 => ∃ a ks L d n, x = .ref a ∧ v = .int n ∧ DI P w H3 a ks L ∧ KeyD d ∧ NdV H3 d y ∧ ks.length < 1000000 ∧
  ∀ xs, DI P w (upd H3 a (ndO P w a xs)) a (putd ks d) (updL L d n) → Keeps H3 (upd H3 a (ndO P w a xs)) → nx σ (upd H3 a (ndO P w a xs))
theorem w_nput (h : tv σ H fun v H1 => td σ H1 fun x H2 => ty σ H2 (NPutK P w v x D.nx σ)) : sNPut P w td ty tv D σ H := h
theorem w_nput1 (hD : DI P w H a ks L) (kd : KeyD d) (hy : NdV H d y) (hz : ks.length < 1000000) (q : ∀ xs, DI P w (upd H a (ndO P w a xs)) a (putd ks d) (updL L d n) → Keeps H (upd H a (ndO P w a xs)) → nx σ (upd H a (ndO P w a xs))) : NPutK P w (.int n) (.ref a) nx σ y H := ⟨a, ks, L, d, n, rfl, rfl, hD, kd, hy, hz, q⟩
def NGetK (P : Program) (w : World) (x : V) (Q : VK) : VK := fun y H2 => ∃ a ks L d, x = .ref a ∧ DI P w H2 a ks L ∧ KeyD d ∧ NdV H2 d y ∧ d ∈ ks ∧ Q (.int (L d)) H2
theorem w_nget (h : td σ H fun x H1 => ty σ H1 (NGetK P w x Q)) : tNGet P w td ty σ H Q := h
theorem w_nget1 (hD : DI P w H a ks L) (kd : KeyD d) (hy : NdV H d y) (m : d ∈ ks) (q : Q (.int (L d)) H) : NGetK P w (.ref a) Q y H := ⟨a, ks, L, d, rfl, hD, kd, hy, m, q⟩
def NG2L (P : Program) (w : World) (a : Addr) (y : V) (Q : VK) : VK := fun z H3 => ∃ ks L d n, z = .int n ∧ DI P w H3 a ks L ∧ KeyD d ∧ NdV H3 d y ∧ Q (.int (if d ∈ ks then L d else n)) H3
def NG2K (P : Program) (w : World) (ty tx : TE) (σ : L2.St) (Q : VK) : VK := fun x H1 => ∃ a ks L, x = .ref a ∧ DI P w H1 a ks L ∧ ty σ H1 fun y H2 => tx σ H2 (NG2L P w a y Q)
theorem w_ng2 (h : td σ H (NG2K P w ty tx σ Q)) : tNGet2 P w td ty tx σ H Q := h
theorem w_ng2a (hD : DI P w H a ks L) (h : ty σ H fun y H2 => tx σ H2 (NG2L P w a y Q)) : NG2K P w ty tx σ Q (.ref a) H := ⟨a, ks, L, rfl, hD, h⟩
theorem w_ng2b (hD : DI P w H a ks L) (kd : KeyD d) (hy : NdV H d y) (q : Q (.int (if d ∈ ks then L d else n)) H) : NG2L P w a y Q (.int n) H := ⟨ks, L, d, n, rfl, hD, kd, hy, q⟩
def NKeysK (P : Program) (w : World) (Q : VK) : VK := fun x H1 => ∃ a ks L, x = .ref a ∧ DI P w H1 a ks L ∧ ∀ p, H1 p = none → Q (.ref p) (upd H1 p (keysO p a))
theorem w_nkeys (h : td σ H (NKeysK P w Q)) : tNKeys P w td σ H Q := h
theorem w_nkeys1 (hD : DI P w H a ks L) (q : ∀ p, H p = none → Q (.ref p) (upd H p (keysO p a))) : NKeysK P w Q (.ref a) H := ⟨a, ks, L, rfl, hD, q⟩
theorem w_nsort (hp : H p = some (keysO p a)) (hD : DI P w H a ks L) (ok : SrtOkE ks) (q : ∀ ys l, H l = none → All2 (fun v d => NdV H d v) ys (ND.sort ks) → Q (.ref l) (upd H l (.lst ys))) : rSortKN P w [.ref p] H Q := ⟨p, a, ks, L, rfl, hp, hD, ok, q⟩
end
theorem op_catAK {X : Cx} {K : PySem.W.Frag} (e : X.K = K := by rfl) : OpR X (binaryOp .Add) (rCatA K) := e ▸ op_catA
theorem w_catA {K : PySem.W.Frag} {H : Hp} {Q : VK} {a b : Addr} {xs ys : List V} (h1 : H a = some (.tup xs)) (h2 : H b = some (.tup ys)) (hz : xs.length + ys.length ≤ sizeLine) (q : ∀ t H', Same H H' → H' t = some (.tup (xs ++ ys)) → Q (.ref t) H') : rCatA K (.ref a) (.ref b) H Q :=
  ⟨a, b, xs, ys, rfl, rfl, SqT.of h1, SqT.of h2, hz, fun e => q b H (Same.refl _) (by rw [e]; exact h2), fun _ e => q a H (Same.refl _) (by rw [e, List.append_nil]; exact h1), fun _ _ p hp => q p _ (same_new hp _) upd_same⟩
end Pm
namespace Pm
open PySem PySem.Spec PyProof.Rows L2
abbrev LP := List (ND × Int)
def tot (l : LP) (d : ND) : Int := (l.map fun q => if q.1 = d then q.2 else 0).sum
theorem tot_nil (d : ND) : tot [] d = 0 := rfl
theorem tot_cons (q : ND × Int) (l : LP) (d : ND) : tot (q :: l) d = (if q.1 = d then q.2 else 0) + tot l d := by
  unfold tot
  rw [List.map_cons, List.sum_cons]
theorem tot_append (l m : LP) (d : ND) : tot (l ++ m) d = tot l d + tot m d := by
  unfold tot
  rw [List.map_append, List.sum_append]
theorem tot_perm {l m : LP} (h : l.Perm m) (d : ND) : tot l d = tot m d := by
  induction h with
  | nil => rfl
  | cons x _ ih => rw [tot_cons, tot_cons, ih]
  | swap x y l => rw [tot_cons, tot_cons, tot_cons, tot_cons]; omega
  | trans _ _ i1 i2 => exact i1.trans i2
theorem tot_none {d : ND} : ∀ {l : LP}, d ∉ l.map (·.1) → tot l d = 0
  | [], _ => rfl
  | q :: l, h => by
    rw [List.map_cons, List.mem_cons, not_or] at h
    rw [tot_cons, if_neg (fun z => h.1 z.symm), tot_none h.2]
    rfl
theorem tot_snoc (l : LP) (q : ND × Int) (d : ND) : tot (l ++ [q]) d = tot l d + (if q.1 = d then q.2 else 0) := by
  rw [tot_append, tot_cons, tot_nil, Int.add_zero]
/-- what a number is at most: of all together -/
def mass (l : LP) : Nat := (l.map fun q => q.2.natAbs).sum
theorem tot_mass (l : LP) (d : ND) : (tot l d).natAbs ≤ mass l := by
  induction l with
  | nil => exact Nat.le_refl _
  | cons q l ih =>
    rw [tot_cons]
    show _ ≤ ((q :: l).map fun q => q.2.natAbs).sum
    rw [List.map_cons, List.sum_cons]
    have ih : (tot l d).natAbs ≤ (l.map fun q => q.2.natAbs).sum := ih
    split <;> omega
def keysOf (l : LP) : List ND := (l.map (·.1)).foldl putd []
theorem fold_putd : ∀ (ds acc : List ND), acc.Nodup → (ds.foldl putd acc).Nodup ∧ ∀ d, d ∈ ds.foldl putd acc ↔ d ∈ acc ∨ d ∈ ds
  | [], acc, h => ⟨h, fun d => ⟨.inl, fun z => z.elim id (fun m => absurd m List.not_mem_nil)⟩⟩
  | x :: ds, acc, h => by
    obtain ⟨h1, h2⟩ := fold_putd ds (putd acc x) (putd_nodup h)
    refine ⟨h1, fun d => ?_⟩
    rw [List.foldl_cons, h2, mem_putd, List.mem_cons]
    constructor
    · rintro ((z | z) | z)
      · exact .inl z
      · exact .inr (.inl z)
      · exact .inr (.inr z)
    · rintro (z | z | z)
      · exact .inl (.inl z)
      · exact .inl (.inr z)
      · exact .inr z
theorem keysOf_nodup (l : LP) : (keysOf l).Nodup := (fold_putd _ _ List.nodup_nil).1
theorem mem_keysOf {l : LP} {d : ND} : d ∈ keysOf l ↔ d ∈ l.map (·.1) := by
  unfold keysOf
  rw [(fold_putd _ _ List.nodup_nil).2]
  exact ⟨fun z => z.elim (fun m => absurd m List.not_mem_nil) id, .inr⟩
theorem sort_same {ks js : List ND} (h1 : ks.Nodup) (h2 : js.Nodup) (h : ∀ d, d ∈ ks ↔ d ∈ js) : ND.sort ks = ND.sort js :=
  ND.ris_eq (ND.sort_ris ks) (ND.sort_ris js) ((ND.sort_perm ks).trans (((List.perm_ext_iff_of_nodup h1 h2).mpr h).trans (ND.sort_perm js).symm))
theorem mem_sort {ks : List ND} {d : ND} : d ∈ ND.sort ks ↔ d ∈ ks := (ND.sort_perm ks).mem_iff
theorem sort_nodup {ks : List ND} (h : ks.Nodup) : (ND.sort ks).Nodup := (ND.sort_perm ks).nodup_iff.mpr h
/-- the one form: keys rising, all with what they have together, nothing of nought -/
def canon (l : LP) : LP := ((ND.sort (keysOf l)).filter fun d => decide (tot l d ≠ 0)).map fun d => (d, tot l d)
theorem canon_of {l : LP} {ks : List ND} {L : ND → Int} (nd : ks.Nodup) (hm : ∀ d, d ∈ ks ↔ d ∈ l.map (·.1)) (hL : ∀ d ∈ ks, L d = tot l d) : ((ND.sort ks).filter fun d => decide (L d ≠ 0)).map (fun d => (d, L d)) = canon l := by
  unfold canon
  rw [sort_same nd (keysOf_nodup l) (fun d => (hm d).trans mem_keysOf.symm)]
  have hL : ∀ d ∈ ND.sort (keysOf l), L d = tot l d := fun d hd => hL d ((hm d).mpr (mem_keysOf.mp (mem_sort.mp hd)))
  rw [List.filter_congr (q := fun d => decide (tot l d ≠ 0)) (fun d hd => by rw [hL d hd])]
  exact List.map_congr_left fun d hd => by rw [hL d (List.mem_filter.mp hd).1]
abbrev RisS (l : LP) : Prop := l.Pairwise fun p q => ND.ltB p.1 q.1 = true
theorem ltB_of {x y : ND} (h : ND.leB x y = true) (ne : x ≠ y) : ND.ltB x y = true := by
  unfold ND.leB at h
  rw [Bool.not_eq_true', ND.ltB_no] at h
  rw [ND.ltB_iff]
  cases e : ND.cmp x y with
  | lt => rfl
  | eq => exact absurd (ND.cmp_eq e) ne
  | gt => exact absurd (by rw [ND.cmp_swap x y, e]; rfl) h
theorem ltB_ne {x y : ND} (h : ND.ltB x y = true) : x ≠ y := fun e => by
  rw [e, ND.ltB_iff, ND.cmp_self] at h
  cases h
theorem canon_rise (l : LP) : RisS (canon l) := by
  unfold canon
  refine List.pairwise_map.mpr ?_
  exact (((ND.sort_ris _).and (sort_nodup (keysOf_nodup l))).sublist List.filter_sublist).imp fun h => ltB_of h.1 h.2
theorem canon_mem {l : LP} {q : ND × Int} (h : q ∈ canon l) : q.1 ∈ l.map (·.1) ∧ q.2 = tot l q.1 ∧ q.2 ≠ 0 := by
  unfold canon at h
  obtain ⟨d, hd, rfl⟩ := List.mem_map.mp h
  obtain ⟨h1, h2⟩ := List.mem_filter.mp hd
  exact ⟨mem_keysOf.mp (mem_sort.mp h1), rfl, of_decide_eq_true h2⟩
theorem rise_nodup {l : LP} (h : RisS l) : (l.map (·.1)).Nodup := List.pairwise_map.mpr (h.imp fun z => ltB_ne z)
theorem keysOf_len (l : LP) : (keysOf l).length ≤ l.length := by
  have gen : ∀ (ds acc : List ND), (ds.foldl putd acc).length ≤ acc.length + ds.length := by
    intro ds
    induction ds with
    | nil => intro acc; exact Nat.le_refl _
    | cons x ds ih =>
      intro acc
      rw [List.foldl_cons, List.length_cons]
      have := ih (putd acc x)
      have := putd_len acc x
      omega
  have := gen (l.map (·.1)) []
  rw [List.length_map, List.length_nil] at this
  unfold keysOf
  omega
theorem canon_len (l : LP) : (canon l).length ≤ l.length := by
  unfold canon
  rw [List.length_map]
  have h1 := List.length_filter_le (fun d => decide (tot l d ≠ 0)) (ND.sort (keysOf l))
  have h2 := (ND.sort_perm (keysOf l)).length_eq
  have h3 := keysOf_len l
  omega
def encP (q : ND × Int) : ND := .t [q.1, .i q.2]
def encL (l : LP) : ND := .t (l.map encP)
def encM (p : IP) : ND := .t [.i p.1, .i p.2]
def decP : ND → ND × Int
  | .t [d, .i n] => (d, n)
  | _ => (.i 0, 0)
def decL : ND → LP
  | .t xs => xs.map decP
  | _ => []
theorem dec_enc (l : LP) : decL (encL l) = l := by
  show (l.map encP).map decP = l
  rw [List.map_map]
  conv => rhs; rw [← List.map_id l]
  exact List.map_congr_left fun q _ => rfl
theorem encL_inj {l m : LP} (h : encL l = encL m) : l = m := by rw [← dec_enc l, h, dec_enc]
theorem encP_inj {p q : ND × Int} (h : encP p = encP q) : p = q := by
  unfold encP at h
  injection h with h
  injection h with h1 h2
  injection h2 with h2 _
  injection h2 with h2
  exact Prod.ext h1 h2
theorem encM_inj {p q : IP} (h : encM p = encM q) : p = q := by
  unfold encM at h
  injection h with h
  injection h with h1 h2
  injection h1 with h1
  injection h2 with h2 _
  injection h2 with h2
  exact Prod.ext h1 h2
theorem dep_t {xs : List ND} {n : Nat} (h : ∀ x ∈ xs, x.dep ≤ n) : (ND.t xs).dep ≤ n + 1 := by
  have gen : ∀ xs : List ND, (∀ x ∈ xs, x.dep ≤ n) → PyData.depthAll (ND.pyL xs) ≤ n := by
    intro xs
    induction xs with
    | nil => intro _; simp only [ND.pyL, PyData.depthAll]; exact Nat.zero_le _
    | cons x xs ih =>
      intro h
      simp only [ND.pyL, PyData.depthAll]
      have h1 : (ND.py x).depth ≤ n := h x List.mem_cons_self
      have h2 := ih fun y hy => h y (List.mem_cons_of_mem _ hy)
      omega
  show (ND.py (.t xs)).depth ≤ n + 1
  simp only [ND.py, PyData.depth]
  have := gen xs h
  omega
theorem dep_i (n : Int) (k : Nat) : (ND.i n).dep ≤ k := by
  show (ND.py (.i n)).depth ≤ k
  simp only [ND.py, PyData.depth]
  exact Nat.zero_le _
theorem dep_M (p : IP) : (encM p).dep ≤ 1 := dep_t fun x hx => by
  rcases List.mem_cons.mp hx with rfl | hx
  · exact dep_i _ _
  · rw [List.mem_singleton.mp hx]; exact dep_i _ _
theorem dep_P {q : ND × Int} {n : Nat} (h : q.1.dep ≤ n) : (encP q).dep ≤ n + 1 := dep_t fun x hx => by
  rcases List.mem_cons.mp hx with rfl | hx
  · exact h
  · rw [List.mem_singleton.mp hx]; exact dep_i _ _
theorem dep_L {l : LP} {n : Nat} (h : ∀ q ∈ l, q.1.dep ≤ n) : (encL l).dep ≤ n + 2 := dep_t (n := n + 1) fun x hx => by
  obtain ⟨q, hq, rfl⟩ := List.mem_map.mp hx
  exact dep_P (h q hq)
/-- a power row in its form; a letter sum in its form -/
structure RowC (n : Nat) (r : LP) : Prop where
  len : r.length ≤ n
  mrk : ∀ q ∈ r, ∃ p, q.1 = encM p
  ris : RisS r
  nz : ∀ q ∈ r, q.2 ≠ 0
structure SumC (n : Nat) (s : LP) : Prop where
  row : ∀ q ∈ s, ∃ r, q.1 = encL r ∧ RowC n r
  ris : RisS s
  nz : ∀ q ∈ s, q.2 ≠ 0
theorem RowC.mono {n m : Nat} {r : LP} (h : RowC n r) (l : n ≤ m) : RowC m r := ⟨Nat.le_trans h.len l, h.mrk, h.ris, h.nz⟩
theorem SumC.mono {n m : Nat} {s : LP} (h : SumC n s) (l : n ≤ m) : SumC m s := ⟨fun q hq => let ⟨r, e, hr⟩ := h.row q hq; ⟨r, e, hr.mono l⟩, h.ris, h.nz⟩
theorem rowC_nil {n : Nat} : RowC n [] := ⟨Nat.zero_le _, fun q h => absurd h List.not_mem_nil, List.Pairwise.nil, fun q h => absurd h List.not_mem_nil⟩
theorem canon_row {n : Nat} {l : LP} (h : ∀ q ∈ l, ∃ p, q.1 = encM p) (hl : l.length ≤ n) : RowC n (canon l) := ⟨Nat.le_trans (canon_len l) hl, fun q hq => by
  obtain ⟨q', hq', e⟩ := List.mem_map.mp (canon_mem hq).1
  obtain ⟨p, hp⟩ := h q' hq'
  exact ⟨p, e.symm.trans hp⟩, canon_rise l, fun q hq => (canon_mem hq).2.2⟩
theorem canon_sum {n : Nat} {l : LP} (h : ∀ q ∈ l, ∃ r, q.1 = encL r ∧ RowC n r) : SumC n (canon l) := ⟨fun q hq => by
  obtain ⟨q', hq', e⟩ := List.mem_map.mp (canon_mem hq).1
  obtain ⟨r, hr, h2⟩ := h q' hq'
  exact ⟨r, e.symm.trans hr, h2⟩, canon_rise l, fun q hq => (canon_mem hq).2.2⟩
theorem RowC.dep {n : Nat} {r : LP} (h : RowC n r) : (encL r).dep ≤ 3 := dep_L (n := 1) fun q hq => by
  obtain ⟨p, e⟩ := h.mrk q hq
  rw [e]
  exact dep_M p
theorem keyD_M (p : IP) : KeyD (encM p) := ⟨⟨_, rfl⟩, Nat.le_trans (dep_M p) (by decide)⟩
theorem RowC.keyD {n : Nat} {r : LP} (h : RowC n r) : KeyD (encL r) := ⟨⟨_, rfl⟩, Nat.le_trans h.dep (by decide)⟩
theorem SumC.dep {n : Nat} {s : LP} (h : SumC n s) : (encL s).dep ≤ 5 := dep_L (n := 3) fun q hq => by
  obtain ⟨r, e, hr⟩ := h.row q hq
  rw [e]
  exact hr.dep
theorem hom_M (p q : IP) : ND.hom (encM p) (encM q) = true := by simp [encM, ND.hom, ND.homL]
theorem homL_of : ∀ {xs ys : List ND}, (∀ x ∈ xs, ∀ y ∈ ys, ND.hom x y = true) → ND.homL xs ys = true
  | [], _, _ => by simp only [ND.homL]
  | _ :: _, [], _ => by simp only [ND.homL]
  | x :: xs, y :: ys, h => by
    simp only [ND.homL]
    rw [h x List.mem_cons_self y List.mem_cons_self, homL_of fun a ha b hb => h a (List.mem_cons_of_mem _ ha) b (List.mem_cons_of_mem _ hb)]
    rfl
theorem hom_P {p q : ND × Int} (h : ND.hom p.1 q.1 = true) : ND.hom (encP p) (encP q) = true := by simp [encP, ND.hom, ND.homL, h]
theorem hom_L {l m : LP} (h : ∀ p ∈ l, ∀ q ∈ m, ND.hom p.1 q.1 = true) : ND.hom (encL l) (encL m) = true := by
  unfold encL
  simp only [ND.hom]
  refine homL_of fun x hx y hy => ?_
  obtain ⟨p, hp, rfl⟩ := List.mem_map.mp hx
  obtain ⟨q, hq, rfl⟩ := List.mem_map.mp hy
  exact hom_P (h p hp q hq)
theorem RowC.hom {n m : Nat} {r r' : LP} (h : RowC n r) (h' : RowC m r') : ND.hom (encL r) (encL r') = true := hom_L fun p hp q hq => by
  obtain ⟨a, ea⟩ := h.mrk p hp
  obtain ⟨b, eb⟩ := h'.mrk q hq
  rw [ea, eb]
  exact hom_M a b
theorem srt_marks {ks : List ND} (h : ∀ d ∈ ks, ∃ p, d = encM p) : SrtOkE ks := ⟨fun d hd => let ⟨p, e⟩ := h d hd; ⟨_, e⟩, fun d hd e he => by
  obtain ⟨p, rfl⟩ := h d hd
  obtain ⟨q, rfl⟩ := h e he
  exact hom_M p q, fun d hd => by
  obtain ⟨p, rfl⟩ := h d hd
  exact (keyD_M p).2⟩
theorem srt_rows {n : Nat} {ks : List ND} (h : ∀ d ∈ ks, ∃ r, d = encL r ∧ RowC n r) : SrtOkE ks := ⟨fun d hd => let ⟨r, e, _⟩ := h d hd; ⟨_, e⟩, fun d hd e he => by
  obtain ⟨p, rfl, hp⟩ := h d hd
  obtain ⟨q, rfl, hq⟩ := h e he
  exact hp.hom hq, fun d hd => by
  obtain ⟨p, rfl, hp⟩ := h d hd
  exact hp.keyD.2⟩
def rt (d e : ND) : ND := encL (canon (decL d ++ decL e))
def NdP (H : Hp) (v : V) (q : ND × Int) : Prop := NdV H (encP q) v
theorem ndp_mono (H H' : Hp) (v : V) (q : ND × Int) (k : Keeps H H') (h : NdP H v q) : NdP H' v q := NdV.keep k _ _ h
theorem ndv_mono (H H' : Hp) (v : V) (d : ND) (k : Keeps H H') (h : NdV H d v) : NdV H' d v := NdV.keep k _ _ h
theorem NdP.ex {H : Hp} {v : V} {q : ND × Int} (h : NdP H v q) : ∃ t x, v = .ref t ∧ H t = some (.tup [x, .int q.2]) ∧ NdV H q.1 x := by
  unfold NdP encP NdV at h
  obtain ⟨a, xs, e, ha, hl⟩ := h
  unfold NdL at hl
  obtain ⟨x, r, rfl, hx, hl⟩ := hl
  unfold NdL at hl
  obtain ⟨y, r2, rfl, hy, hl⟩ := hl
  unfold NdV at hy
  unfold NdL at hl
  subst hy hl
  exact ⟨a, x, e, ha, hx⟩
theorem NdP.of {H : Hp} {t : Addr} {x : V} {q : ND × Int} (h : H t = some (.tup [x, .int q.2])) (hx : NdV H q.1 x) : NdP H (.ref t) q := by
  unfold NdP encP NdV
  refine ⟨t, _, rfl, h, ?_⟩
  unfold NdL
  refine ⟨x, _, rfl, hx, ?_⟩
  unfold NdL
  refine ⟨_, _, rfl, by unfold NdV; rfl, ?_⟩
  unfold NdL
  rfl
theorem ndL_of {H : Hp} : ∀ {xs : List V} {l : LP}, All2 (NdP H) xs l → NdL H (l.map encP) xs
  | [], [], _ => by unfold List.map NdL; rfl
  | x :: xs, q :: l, h => by
    rw [List.map_cons]
    unfold NdL
    exact ⟨x, xs, rfl, h.1, ndL_of h.2⟩
theorem all2_ndL {H : Hp} : ∀ {l : LP} {xs : List V}, NdL H (l.map encP) xs → All2 (NdP H) xs l
  | [], xs, h => by
    rw [List.map_nil] at h
    unfold NdL at h
    subst h
    trivial
  | q :: l, xs, h => by
    rw [List.map_cons] at h
    unfold NdL at h
    obtain ⟨x, r, rfl, h1, h2⟩ := h
    exact ⟨h1, all2_ndL h2⟩
/-- a row in the heap: a tuple of its letters -/
theorem row_ex {H : Hp} {l : LP} {v : V} (h : NdV H (encL l) v) : ∃ t xs, v = .ref t ∧ H t = some (.tup xs) ∧ All2 (NdP H) xs l := by
  unfold encL NdV at h
  obtain ⟨a, xs, e, ha, hl⟩ := h
  exact ⟨a, xs, e, ha, all2_ndL hl⟩
theorem row_of_tup {H : Hp} {l : LP} {t : Addr} {xs : List V} (h : H t = some (.tup xs)) (hx : All2 (NdP H) xs l) : NdV H (encL l) (.ref t) := by
  unfold encL NdV
  exact ⟨t, xs, rfl, h, ndL_of hx⟩
theorem mark_ex {H : Hp} {p : IP} {v : V} (h : NdV H (encM p) v) : Pr H v p := by
  unfold encM NdV at h
  obtain ⟨a, xs, e, ha, hl⟩ := h
  unfold NdL at hl
  obtain ⟨x, r, rfl, hx, hl⟩ := hl
  unfold NdL at hl
  obtain ⟨y, r2, rfl, hy, hl⟩ := hl
  unfold NdV at hx hy
  unfold NdL at hl
  subst hx hy hl
  exact ⟨a, e, ha⟩
theorem mark_of {H : Hp} {p : IP} {v : V} (h : Pr H v p) : NdV H (encM p) v := by
  obtain ⟨t, rfl, ht⟩ := h
  unfold encM NdV
  refine ⟨t, _, rfl, ht, ?_⟩
  unfold NdL
  refine ⟨_, _, rfl, by unfold NdV; rfl, ?_⟩
  unfold NdL
  refine ⟨_, _, rfl, by unfold NdV; rfl, ?_⟩
  unfold NdL
  rfl
/-- a list of terms -/
def SLs (_ : PySem.W.Frag) (H : Hp) (l : Addr) (s : LP) : Prop := ∃ xs, H l = some (.lst xs) ∧ All2 (NdP H) xs s
theorem SLs.same {K : PySem.W.Frag} {H H' : Hp} {l : Addr} {s : LP} (h : SLs K H l s) (k : Same H H') : SLs K H' l s := by
  obtain ⟨xs, h1, h2⟩ := h
  exact ⟨xs, k _ _ h1, h2.mono fun v q r => ndp_mono _ _ _ _ (keeps k) r⟩
theorem SLs.keep {K : PySem.W.Frag} {H H' : Hp} {l : Addr} {s : LP} (h : SLs K H l s) (k : Keeps H H') (e : H' l = H l) : SLs K H' l s := by
  obtain ⟨xs, h1, h2⟩ := h
  exact ⟨xs, by rw [e]; exact h1, h2.mono fun v q r => ndp_mono _ _ _ _ k r⟩
theorem SLs.ne {K : PySem.W.Frag} {H : Hp} {l p : Addr} {s : LP} (h : SLs K H l s) (e : H p = none) : l ≠ p := by
  obtain ⟨xs, h1, _⟩ := h
  exact ne_of_none h1 e
theorem all2_keep {H H' : Hp} {xs : List V} {s : LP} (k : Keeps H H') (h : All2 (NdP H) xs s) : All2 (NdP H') xs s := h.mono fun v q r => ndp_mono _ _ _ _ k r
/-- a new list of terms -/
def SLNew (H : Hp) (s : LP) (Q : VK) : Prop := ∀ (p : Addr) (H' : Hp) (xs : List V), Same H H' → H p = none → H' p = some (.lst xs) → All2 (NdP H') xs s → Q (.ref p) H'
theorem sums_dp {K : PySem.W.Frag} {H : Hp} : ∀ {xs : List V} {s : LP}, All2 (NdP H) xs s → DpAll K H xs (s.map fun q => (encP q).py)
  | [], [], _ => .nil
  | _ :: _, _ :: _, h => .cons (NdV.dp _ _ h.1) (sums_dp h.2)
def sumD (s : LP) : PyData := .list (s.map fun q => (encP q).py)
theorem SLs.dp {K : PySem.W.Frag} {H : Hp} {l : Addr} {s : LP} (h : SLs K H l s) : Dp K H (.ref l) (sumD s) := by
  obtain ⟨xs, h1, h2⟩ := h
  exact .lst (SqL.of h1) (sums_dp h2)
theorem eqv_sums (s r : LP) : PyData.eqv (sumD s) (sumD r) = decide (s = r) := by
  have gen : ∀ s r : LP, PyData.eqvAll (s.map fun q => (encP q).py) (r.map fun q => (encP q).py) = decide (s = r) := by
    intro s
    induction s with
    | nil =>
      intro r
      cases r with
      | nil => simp [PyData.eqvAll]
      | cons _ _ => simp [PyData.eqvAll]
    | cons x s ih =>
      intro r
      cases r with
      | nil => simp [PyData.eqvAll]
      | cons y r =>
        rw [List.map_cons, List.map_cons]
        simp only [PyData.eqvAll]
        rw [ih, ND.eqv_py]
        have e : (ND.cmp (encP x) (encP y) == .eq) = decide (x = y) := by
          by_cases c : x = y
          · rw [c, ND.cmp_self, decide_eq_true rfl]; rfl
          · rw [decide_eq_false c]
            cases h : ND.cmp (encP x) (encP y) with
            | eq => exact absurd (encP_inj (ND.cmp_eq h)) c
            | lt => rfl
            | gt => rfl
        rw [e]
        by_cases c : x = y
        · by_cases c2 : s = r
          · simp [c, c2]
          · simp [c, c2]
        · simp [c]
  unfold sumD
  simp only [PyData.eqv]
  exact gen s r
theorem shaped_sums {n : Nat} {s : LP} (h : SumC n s) : SeqAt.shaped (sumD s) = true := by
  have lay : PyData.canLayAll0 (s.map fun q => (encP q).py) = true := by
    clear h
    induction s with
    | nil => simp only [List.map_nil, PyData.canLayAll0]
    | cons x s ih => rw [List.map_cons]; simp only [PyData.canLayAll0]; rw [ND.lay, ih]; rfl
  have dep : ∀ s : LP, (∀ q ∈ s, (encP q).dep ≤ 4) → PyData.depthAll (s.map fun q => (encP q).py) ≤ 4 := by
    intro s
    induction s with
    | nil => intro _; simp only [List.map_nil, PyData.depthAll]; decide
    | cons x s ih =>
      intro h
      rw [List.map_cons]
      simp only [PyData.depthAll]
      have h1 : ((encP x).py).depth ≤ 4 := h x List.mem_cons_self
      have h2 := ih fun y hy => h y (List.mem_cons_of_mem _ hy)
      omega
  have d := dep s fun q hq => by
    obtain ⟨r, e, hr⟩ := h.row q hq
    exact dep_P (n := 3) (by rw [e]; exact hr.dep)
  unfold sumD SeqAt.shaped
  simp only [PyData.canLay0, PyData.depth]
  rw [lay, Bool.true_and]
  exact decide_eq_true (by omega)
theorem w_neSum {K : PySem.W.Frag} {H : Hp} {Q : VK} {l m : Addr} {a b : Nat} {s r : LP} (h1 : SLs K H l s) (h2 : SLs K H m r) (c1 : SumC a s) (c2 : SumC b r) (q : Q (.bl (!decide (s = r))) H) : rNeD K (.ref l) (.ref m) H Q :=
  ⟨_, _, h1.dp, h2.dp, shaped_sums c1, shaped_sums c2, by rw [eqv_sums]; exact q⟩
theorem w_eqSum {K : PySem.W.Frag} {H : Hp} {Q : VK} {l m : Addr} {a b : Nat} {s r : LP} (h1 : SLs K H l s) (h2 : SLs K H m r) (c1 : SumC a s) (c2 : SumC b r) (q : Q (.bl (decide (s = r))) H) : rEqD K (.ref l) (.ref m) H Q :=
  ⟨_, _, h1.dp, h2.dp, shaped_sums c1, shaped_sums c2, by rw [eqv_sums]; exact q⟩
end Pm
namespace Pm
/-- a ring of posts with ties, seen from post a on; o tells a post's place from a on -/
structure Geo where
  n : Int
  ps : List Int
  T : Int → Int → Bool
  o : Int → Int
  a : Int
  b : Int
  nd : ps.Nodup
  sym : ∀ x y, T x y = T y x
  rng : ∀ x y, T x y = true → x ∈ ps
  obd : ∀ x, x ∈ ps → 0 ≤ o x ∧ o x < n
  inj : ∀ x y, x ∈ ps → y ∈ ps → o x = o y → x = y
  pa : a ∈ ps
  pb : b ∈ ps
  oa : o a = 0
  ob : 0 < o b
  irr : ∀ x, T x x = false
  nox : ∀ x y z w, T x y = true → T z w = true → o x < o z → o z < o y → o y < o w → False
  inn : ∀ x y, T x y = true → o x + 2 ≤ o y → ∃ t, o x < o t ∧ o t < o y ∧ T x t = true ∧ T t y = true
  out : T a b = false → ∃ u w, 0 < o u ∧ o u < o b ∧ o b < o w ∧ T a u = true ∧ T a w = true ∧ T u w = true
namespace Geo
variable (G : Geo)
theorem rng2 {x y : Int} (h : G.T x y = true) : y ∈ G.ps := G.rng y x (by rw [G.sym]; exact h)
/-- a rope that crosses, the upper end first -/
def Up (x y : Int) : Prop := G.T x y = true ∧ 0 < G.o x ∧ G.o x < G.o G.b ∧ G.o G.b < G.o y
instance (x y : Int) : Decidable (G.Up x y) := by unfold Up; infer_instance
def cr (x y : Int) : Bool := decide (G.Up x y) || decide (G.Up y x)
def near (x y : Int) : Int := min (G.o x) (G.o y) - max (G.o x) (G.o y)
theorem Up.p {G : Geo} {x y : Int} (h : G.Up x y) : x ∈ G.ps ∧ y ∈ G.ps := ⟨G.rng _ _ h.1, G.rng2 h.1⟩
theorem Up.near {G : Geo} {x y : Int} (h : G.Up x y) : G.near x y = G.o x - G.o y := by
  unfold Geo.near
  have := h.2
  omega
theorem near_comm (x y : Int) : G.near x y = G.near y x := by unfold near; omega
theorem cr_comm (x y : Int) : G.cr x y = G.cr y x := by unfold cr; rw [Bool.or_comm]
theorem cr_T {x y : Int} (h : G.cr x y = true) : G.T x y = true := by
  unfold cr at h
  rcases (Bool.or_eq_true _ _).mp h with h | h
  · exact (of_decide_eq_true h).1
  · rw [G.sym]; exact (of_decide_eq_true h).1
theorem cr_iff {x y : Int} : G.cr x y = true ↔ G.Up x y ∨ G.Up y x := by
  unfold cr
  rw [Bool.or_eq_true, decide_eq_true_iff, decide_eq_true_iff]
/-- two crossing ropes go one behind the other -/
theorem Up.nest {G : Geo} {x y u w : Int} (h : G.Up x y) (k : G.Up u w) : (G.o u ≤ G.o x ∧ G.o y ≤ G.o w) ∨ (G.o x ≤ G.o u ∧ G.o w ≤ G.o y) := by
  rcases Int.lt_trichotomy (G.o x) (G.o u) with c | c | c
  · refine .inr ⟨by omega, ?_⟩
    rcases Int.lt_or_le (G.o y) (G.o w) with d | d
    · exact absurd (G.nox _ _ _ _ h.1 k.1 c (by have := h.2; have := k.2; omega) d) id
    · exact d
  · omega
  · refine .inl ⟨by omega, ?_⟩
    rcases Int.lt_or_le (G.o w) (G.o y) with d | d
    · exact absurd (G.nox _ _ _ _ k.1 h.1 c (by have := h.2; have := k.2; omega) d) id
    · exact d
theorem Up.eq {G : Geo} {x y u w : Int} (h : G.Up x y) (k : G.Up u w) (e : G.o x - G.o y = G.o u - G.o w) : x = u ∧ y = w := by
  have n := h.nest k
  exact ⟨G.inj _ _ h.p.1 k.p.1 (by omega), G.inj _ _ h.p.2 k.p.2 (by omega)⟩
/-- the ropes behind a rope, each shares an end with the one ahead of it -/
def Ch : Int → Int → List (Int × Int) → Prop
  | u, w, [] => G.T u G.b = true ∧ G.T w G.b = true
  | u, w, q :: r => ((q.1 = u ∧ G.o q.2 < G.o w ∧ G.T q.2 w = true) ∨ (q.2 = w ∧ G.o u < G.o q.1 ∧ G.T u q.1 = true)) ∧ G.Up q.1 q.2 ∧ Ch q.1 q.2 r
def Cn : List (Int × Int) → Prop
  | [] => True
  | q :: r => G.Up q.1 q.2 ∧ G.Ch q.1 q.2 r
structure Rs (lo hi : Int) (r : List (Int × Int)) : Prop where
  all : ∀ s t, G.Up s t → lo - hi < G.o s - G.o t → (s, t) ∈ r
  mem : ∀ q ∈ r, G.Up q.1 q.2 ∧ lo ≤ G.o q.1 ∧ G.o q.2 ≤ hi ∧ lo - hi < G.o q.1 - G.o q.2
  len : (r.length : Int) + 2 ≤ hi - lo
theorem chain : ∀ (k : Nat) (u w : Int), G.Up u w → G.o w - G.o u ≤ k → ∃ r, G.Ch u w r ∧ G.Rs (G.o u) (G.o w) r
  | 0, u, w, h, hk => absurd hk (by have := h.2; omega)
  | k + 1, u, w, h, hk => by
    obtain ⟨t, h1, h2, h3, h4⟩ := G.inn _ _ h.1 (by have := h.2; omega)
    have pt := G.rng2 h3
    have hh := h.2
    rcases Int.lt_trichotomy (G.o t) (G.o G.b) with c | c | c
    · have ht : G.Up t w := ⟨h4, by omega, c, by omega⟩
      obtain ⟨r, hc, hr⟩ := chain k t w ht (by omega)
      refine ⟨(t, w) :: r, ⟨.inr ⟨rfl, h1, h3⟩, ht, hc⟩, ⟨fun s v hs hn => ?_, fun q hq => ?_, by have := hr.len; rw [List.length_cons]; omega⟩⟩
      · have n := hs.nest h
        have n2 : G.o t ≤ G.o s := by
          rcases Int.lt_or_le (G.o s) (G.o t) with d | d
          · rcases Int.lt_or_le (G.o u) (G.o s) with e | e
            · exact absurd (G.nox _ _ _ _ h3 hs.1 e d (by have := hs.2; omega)) id
            · exact absurd (G.nox _ _ _ _ hs.1 h4 d (by have := hs.2; omega) (by omega)) id
          · exact d
        rcases Int.lt_or_le (G.o t - G.o w) (G.o s - G.o v) with d | d
        · exact List.mem_cons_of_mem _ (hr.all s v hs d)
        · have e := hs.eq ht (by omega)
          rw [e.1, e.2]
          exact List.mem_cons_self
      · rcases List.mem_cons.mp hq with rfl | hq
        · exact ⟨ht, by show _ ≤ G.o t; omega, Int.le_refl _, by show _ < G.o t - G.o w; omega⟩
        · have := hr.mem q hq
          exact ⟨this.1, by omega, by omega, by omega⟩
    · have et : t = G.b := G.inj _ _ pt G.pb c
      rw [et] at h3 h4
      refine ⟨[], ⟨h3, by rw [G.sym]; exact h4⟩, ⟨fun s v hs hn => ?_, fun q hq => absurd hq List.not_mem_nil, by show (0 : Int) + 2 ≤ _; omega⟩⟩
      have n := hs.nest h
      have hs2 := hs.2
      rcases Int.lt_or_le (G.o u) (G.o s) with e | e
      · exact absurd (G.nox _ _ _ _ h3 hs.1 e (by omega) (by omega)) id
      · exact absurd (G.nox _ _ _ _ hs.1 h4 (by omega) (by omega) (by omega)) id
    · have ht : G.Up u t := ⟨h3, by omega, by omega, c⟩
      obtain ⟨r, hc, hr⟩ := chain k u t ht (by omega)
      refine ⟨(u, t) :: r, ⟨.inl ⟨rfl, h2, h4⟩, ht, hc⟩, ⟨fun s v hs hn => ?_, fun q hq => ?_, by have := hr.len; rw [List.length_cons]; omega⟩⟩
      · have n := hs.nest h
        have n2 : G.o v ≤ G.o t := by
          rcases Int.lt_or_le (G.o t) (G.o v) with d | d
          · rcases Int.lt_or_le (G.o v) (G.o w) with e | e
            · exact absurd (G.nox _ _ _ _ hs.1 h4 (by have := hs.2; omega) d e) id
            · exact absurd (G.nox _ _ _ _ h3 hs.1 (by omega) (by have := hs.2; omega) d) id
          · exact d
        rcases Int.lt_or_le (G.o u - G.o t) (G.o s - G.o v) with d | d
        · exact List.mem_cons_of_mem _ (hr.all s v hs d)
        · have e := hs.eq ht (by omega)
          rw [e.1, e.2]
          exact List.mem_cons_self
      · rcases List.mem_cons.mp hq with rfl | hq
        · exact ⟨ht, Int.le_refl _, by show G.o t ≤ _; omega, by show _ < G.o u - G.o t; omega⟩
        · have := hr.mem q hq
          exact ⟨this.1, by omega, by omega, by omega⟩
/-- all the ropes that cross -/
def St (r : List (Int × Int)) : Prop := match r with
  | [] => G.T G.a G.b = true
  | q :: r => G.Up q.1 q.2 ∧ G.T G.a q.1 = true ∧ G.T G.a q.2 = true ∧ G.Ch q.1 q.2 r
theorem start : ∃ r, G.St r ∧ G.Rs 0 G.n r := by
  have oa := G.oa
  have ob := G.ob
  have bn := (G.obd _ G.pb).2
  by_cases c : G.T G.a G.b = true
  · refine ⟨[], c, ⟨fun s t h _ => ?_, fun q hq => absurd hq List.not_mem_nil, by show (0 : Int) + 2 ≤ _; omega⟩⟩
    exact absurd (G.nox _ _ _ _ c h.1 (by have := h.2; omega) h.2.2.1 h.2.2.2) id
  · obtain ⟨u, w, h1, h2, h3, h4, h5, h6⟩ := G.out (by simpa using c)
    have hu : G.Up u w := ⟨h6, h1, h2, h3⟩
    obtain ⟨r, hc, hr⟩ := G.chain (G.o w - G.o u).toNat u w hu (by omega)
    have wn := (G.obd _ (G.rng2 h6)).2
    refine ⟨(u, w) :: r, ⟨hu, h4, h5, hc⟩, ⟨fun s t h _ => ?_, fun q hq => ?_, by have := hr.len; rw [List.length_cons]; omega⟩⟩
    · have hs := h.2
      have n1 : G.o u ≤ G.o s := by
        rcases Int.lt_or_le (G.o s) (G.o u) with d | d
        · exact absurd (G.nox _ _ _ _ h4 h.1 (by omega) d (by omega)) id
        · exact d
      have n2 : G.o t ≤ G.o w := by
        rcases Int.lt_or_le (G.o w) (G.o t) with d | d
        · exact absurd (G.nox _ _ _ _ h5 h.1 (by omega) (by omega) d) id
        · exact d
      rcases Int.lt_or_le (G.o u - G.o w) (G.o s - G.o t) with d | d
      · exact List.mem_cons_of_mem _ (hr.all s t h d)
      · have e := h.eq hu (by omega)
        rw [e.1, e.2]
        exact List.mem_cons_self
    · rcases List.mem_cons.mp hq with rfl | hq
      · exact ⟨hu, by show _ ≤ G.o u; omega, by show G.o w ≤ _; omega, by show _ < G.o u - G.o w; omega⟩
      · have := hr.mem q hq
        exact ⟨this.1, by omega, by omega, by omega⟩
end Geo
end Pm
namespace Pm
theorem sum_if_one {l : List Int} (nd : l.Nodup) {c : Int} (hc : c ∈ l) (g : Int → Rat) : (l.map fun z => if z = c then g z else 0).sum = g c := by
  induction l with
  | nil => cases hc
  | cons x l ih =>
    obtain ⟨n1, n2⟩ := List.nodup_cons.mp nd
    rw [List.map_cons, List.sum_cons]
    by_cases e : x = c
    · subst e
      have z : (l.map fun z => if z = x then g z else 0).sum = 0 := by
        clear ih hc nd n2
        induction l with
        | nil => rfl
        | cons y l ih =>
          rw [List.map_cons, List.sum_cons, if_neg (fun q => n1 (by rw [q]; exact List.mem_cons_self)), ih (fun h => n1 (List.mem_cons_of_mem _ h)), Rat.add_zero]
      rw [if_pos rfl, z, Rat.add_zero]
    · rw [if_neg e, Rat.zero_add]
      exact ih n2 ((List.mem_cons.mp hc).resolve_left (fun q => e q.symm))
theorem sum_zero {α : Type} {l : List α} {g : α → Rat} (h : ∀ z ∈ l, g z = 0) : (l.map g).sum = 0 := by
  induction l with
  | nil => rfl
  | cons x l ih => rw [List.map_cons, List.sum_cons, h x List.mem_cons_self, ih fun z hz => h z (List.mem_cons_of_mem _ hz), Rat.add_zero]
theorem sum_addf {α : Type} (l : List α) (f g : α → Rat) : (l.map fun z => f z + g z).sum = (l.map f).sum + (l.map g).sum := by
  induction l with
  | nil => exact (Rat.add_zero 0).symm
  | cons x l ih => rw [List.map_cons, List.sum_cons, ih, List.map_cons, List.sum_cons, List.map_cons, List.sum_cons]; grind
theorem sum_congr {α : Type} {l : List α} {f g : α → Rat} (h : ∀ z ∈ l, f z = g z) : (l.map f).sum = (l.map g).sum := by
  rw [List.map_congr_left h]
theorem sum_filter {α : Type} (l : List α) (p : α → Bool) (g : α → Rat) : ((l.filter p).map g).sum = (l.map fun z => if p z = true then g z else 0).sum := by
  induction l with
  | nil => rfl
  | cons x l ih =>
    rw [List.filter_cons, List.map_cons, List.sum_cons]
    by_cases c : p x = true
    · rw [if_pos c, if_pos c, List.map_cons, List.sum_cons, ih]
    · rw [if_neg c, if_neg c, ih, Rat.zero_add]
/-- all but two of a sum are nought -/
theorem sum_two {l : List Int} (nd : l.Nodup) {c d : Int} (hc : c ∈ l) (hd : d ∈ l) (ne : c ≠ d) (g : Int → Rat) (h : ∀ z ∈ l, z ≠ c → z ≠ d → g z = 0) : (l.map g).sum = g c + g d := by
  rw [← sum_if_one nd hc g, ← sum_if_one nd hd g, ← sum_addf]
  refine sum_congr fun z hz => ?_
  by_cases e : z = c
  · rw [if_pos e, if_neg (by rw [e]; exact ne), Rat.add_zero]
  · by_cases e2 : z = d
    · rw [if_neg e, if_pos e2, Rat.zero_add]
    · rw [if_neg e, if_neg e2, h z hz e e2, Rat.add_zero]
namespace Geo
variable (G : Geo)
variable (U : Int → Int → Rat)
/-- the ropes behind a rope of a row -/
def rest (x y : Int) : List (Int × Int) → List (Int × Int)
  | [] => []
  | q :: r => if (q.1 = x ∧ q.2 = y) ∨ (q.1 = y ∧ q.2 = x) then r else rest x y r
def inr (x y : Int) (r : List (Int × Int)) : Prop := (x, y) ∈ r ∨ (y, x) ∈ r
instance (x y : Int) (r : List (Int × Int)) : Decidable (inr x y r) := by unfold inr; infer_instance
theorem inr_cons {x y : Int} {q : Int × Int} {r : List (Int × Int)} : inr x y (q :: r) ↔ (q = (x, y) ∨ q = (y, x)) ∨ inr x y r := by
  unfold inr
  rw [List.mem_cons, List.mem_cons]
  constructor
  · rintro ((h | h) | (h | h))
    · exact .inl (.inl h.symm)
    · exact .inr (.inl h)
    · exact .inl (.inr h.symm)
    · exact .inr (.inr h)
  · rintro ((h | h) | (h | h))
    · exact .inl (.inl h.symm)
    · exact .inr (.inl h.symm)
    · exact .inl (.inr h)
    · exact .inr (.inr h)
variable {G U}
theorem rest_yes {x y : Int} {q : Int × Int} (r : List (Int × Int)) (h : (q.1 = x ∧ q.2 = y) ∨ (q.1 = y ∧ q.2 = x)) : rest x y (q :: r) = r := if_pos h
theorem rest_no {x y : Int} {q : Int × Int} (r : List (Int × Int)) (h : ¬ ((q.1 = x ∧ q.2 = y) ∨ (q.1 = y ∧ q.2 = x))) : rest x y (q :: r) = rest x y r := if_neg h
theorem Up.ne {x y : Int} (h : G.Up x y) : x ≠ y := fun e => by have := h.2; rw [e] at this; omega
theorem Up.nb {x y : Int} (h : G.Up x y) : x ≠ G.b ∧ y ≠ G.b := by
  have := h.2
  constructor
  · intro e; rw [e] at this; omega
  · intro e; rw [e] at this; omega
theorem Ch.up : ∀ {r : List (Int × Int)} {u w : Int}, G.Ch u w r → ∀ q ∈ r, G.Up q.1 q.2
  | [], _, _, _, q, hq => absurd hq List.not_mem_nil
  | q0 :: r, u, w, h, q, hq => by
    rcases List.mem_cons.mp hq with rfl | hq
    · exact h.2.1
    · exact h.2.2.up q hq
/-- the ropes behind go inward -/
theorem Ch.inw : ∀ {r : List (Int × Int)} {u w : Int}, G.Ch u w r → ∀ q ∈ r, G.o u ≤ G.o q.1 ∧ G.o q.2 ≤ G.o w ∧ (G.o u < G.o q.1 ∨ G.o q.2 < G.o w)
  | [], _, _, _, q, hq => absurd hq List.not_mem_nil
  | q0 :: r, u, w, h, q, hq => by
    have h0 : G.o u ≤ G.o q0.1 ∧ G.o q0.2 ≤ G.o w ∧ (G.o u < G.o q0.1 ∨ G.o q0.2 < G.o w) := by
      rcases h.1 with k | k
      · rw [k.1]; exact ⟨Int.le_refl _, by omega, .inr k.2.1⟩
      · rw [k.1]; exact ⟨by omega, Int.le_refl _, .inl k.2.1⟩
    rcases List.mem_cons.mp hq with rfl | hq
    · exact h0
    · have := h.2.2.inw q hq
      omega
theorem Ch.ps {r : List (Int × Int)} {u w : Int} (h : G.Ch u w r) {q : Int × Int} (hq : q ∈ r) : q.1 ∈ G.ps ∧ q.2 ∈ G.ps := (h.up q hq).p
theorem cr_up {x y : Int} (h : G.Up x y) : G.cr x y = true := G.cr_iff.mpr (.inl h)
theorem cr_nb {x : Int} : G.cr x G.b = false := by
  rw [Bool.eq_false_iff]
  intro h
  rcases G.cr_iff.mp h with k | k
  · have := k.2; omega
  · have := k.2; omega
/-- what goes on by an even step: the ropes at the post one by one -/
theorem Ch.cn : ∀ {r : List (Int × Int)} {u w : Int}, G.Ch u w r → G.Cn r
  | [], _, _, _ => True.intro
  | _ :: _, _, _, h => h.2
end Geo
end Pm
namespace Pm
namespace Geo
variable {G : Geo} {U : Int → Int → Rat}
theorem split (f : Int → List (Int × Int) → Rat) (x : Int) {q : Int × Int} {r : List (Int × Int)} (h : G.Cn (q :: r)) :
    (G.ps.map fun z => if inr x z (q :: r) then f z (rest x z (q :: r)) else 0).sum = (if x = q.1 then f q.2 r else if x = q.2 then f q.1 r else 0) + (G.ps.map fun z => if inr x z r then f z (rest x z r) else 0).sum := by
  have hq := h.1
  have inw := h.2.inw
  have nin : (q.1, q.2) ∉ r := fun m => by have := inw _ m; simp only at this; omega
  have nin2 : (q.2, q.1) ∉ r := fun m => by have := (h.2.up _ m).2; have := hq.2; simp only at *; omega
  by_cases c1 : x = q.1
  · rw [if_pos c1, ← sum_if_one G.nd hq.p.2 (fun z => f z r), ← sum_addf]
    refine sum_congr fun z _ => ?_
    by_cases e : z = q.2
    · rw [if_pos (inr_cons.mpr (.inl (.inl (by rw [e, c1])))), if_pos e, if_neg (by rw [e, c1]; rintro (m | m); exact nin m; exact nin2 m)]
      rw [rest_yes r (.inl ⟨c1.symm, e.symm⟩), Rat.add_zero]
    · have e2 : ¬ ((q.1 = x ∧ q.2 = z) ∨ (q.1 = z ∧ q.2 = x)) := by
        rintro (m | m)
        · exact e m.2.symm
        · exact hq.ne (by rw [m.2, c1])
      have i : inr x z (q :: r) ↔ inr x z r := by
        rw [inr_cons]
        refine ⟨fun m => m.resolve_left fun m => ?_, .inr⟩
        rcases m with m | m
        · exact e2 (.inl ⟨congrArg Prod.fst m, congrArg Prod.snd m⟩)
        · exact e2 (.inr ⟨congrArg Prod.fst m, congrArg Prod.snd m⟩)
      rw [if_neg e, Rat.zero_add]
      by_cases d : inr x z r
      · rw [if_pos d, if_pos (i.mpr d), rest_no r e2]
      · rw [if_neg d, if_neg (fun m => d (i.mp m))]
  · by_cases c2 : x = q.2
    · rw [if_neg c1, if_pos c2, ← sum_if_one G.nd hq.p.1 (fun z => f z r), ← sum_addf]
      refine sum_congr fun z _ => ?_
      by_cases e : z = q.1
      · rw [if_pos (inr_cons.mpr (.inl (.inr (by rw [e, c2])))), if_pos e, if_neg (by rw [e, c2]; rintro (m | m); exact nin2 m; exact nin m)]
        rw [rest_yes r (.inr ⟨e.symm, c2.symm⟩), Rat.add_zero]
      · have e2 : ¬ ((q.1 = x ∧ q.2 = z) ∨ (q.1 = z ∧ q.2 = x)) := by
          rintro (m | m)
          · exact c1 m.1.symm
          · exact e m.1.symm
        have i : inr x z (q :: r) ↔ inr x z r := by
          rw [inr_cons]
          refine ⟨fun m => m.resolve_left fun m => ?_, .inr⟩
          rcases m with m | m
          · exact e2 (.inl ⟨congrArg Prod.fst m, congrArg Prod.snd m⟩)
          · exact e2 (.inr ⟨congrArg Prod.fst m, congrArg Prod.snd m⟩)
        rw [if_neg e, Rat.zero_add]
        by_cases d : inr x z r
        · rw [if_pos d, if_pos (i.mpr d), rest_no r e2]
        · rw [if_neg d, if_neg (fun m => d (i.mp m))]
    · rw [if_neg c1, if_neg c2, Rat.zero_add]
      refine sum_congr fun z _ => ?_
      have e2 : ¬ ((q.1 = x ∧ q.2 = z) ∨ (q.1 = z ∧ q.2 = x)) := by
        rintro (m | m)
        · exact c1 m.1.symm
        · exact c2 m.2.symm
      have i : inr x z (q :: r) ↔ inr x z r := by
        rw [inr_cons]
        refine ⟨fun m => m.resolve_left fun m => ?_, .inr⟩
        rcases m with m | m
        · exact e2 (.inl ⟨congrArg Prod.fst m, congrArg Prod.snd m⟩)
        · exact e2 (.inr ⟨congrArg Prod.fst m, congrArg Prod.snd m⟩)
      by_cases d : inr x z r
      · rw [if_pos d, if_pos (i.mpr d), rest_no r e2]
      · rw [if_neg d, if_neg (fun m => d (i.mp m))]
/-- an odd step along a tie that does not cross -/
def plainT (G : Geo) (used : Int → Bool) (x y : Int) : Bool := G.T x y && !G.cr x y && !used y
theorem plain_iff {used : Int → Bool} {x y : Int} : plainT G used x y = true ↔ G.T x y = true ∧ G.cr x y = false ∧ used y = false := by
  unfold plainT
  rw [Bool.and_eq_true, Bool.and_eq_true, Bool.not_eq_true', Bool.not_eq_true', and_assoc]
end Geo
end Pm
namespace Pm
namespace Geo
def uses : List Int → Int → Int → Bool
  | u :: v :: r, x, y => (decide (u = x ∧ v = y) || decide (u = y ∧ v = x)) || uses (v :: r) x y
  | _, _, _ => false
variable (G : Geo)
def below : List Int → Int → Bool
  | u :: v :: r, m => (!G.cr u v || decide (G.near u v < m)) && below (v :: r) m
  | _, _ => true
def ok (p : List Int) (y : Int) : Bool := match p with
  | [] => false
  | x :: r => G.T x y && !uses (x :: r) x y && (decide ((x :: r).length % 2 = 1) || G.cr x y) && (!G.cr x y || G.below (x :: r) (G.near x y))
def kids (p : List Int) : List (List Int) := (G.ps.filter (G.ok p)).map (· :: p)
def fin (p : List Int) : Bool := decide (p.head? = some G.b ∧ p.length % 2 = 0)
def leaves : Nat → List Int → List (List Int)
  | 0, _ => []
  | f + 1, p => if G.fin p = true then [p] else (G.kids p).flatMap (leaves f)
def wt (U : Int → Int → Rat) : List Int → Rat
  | x :: y :: r => if r.length % 2 = 0 then wt U (y :: r) * U x y else wt U (y :: r) / U x y
  | _ => 1
variable {G}
theorem uses_below : ∀ {p : List Int} {x y : Int}, uses p x y = true → G.cr x y = true → G.below p (G.near x y) = false
  | [], _, _, h, _ => Bool.noConfusion h
  | [_], _, _, h, _ => Bool.noConfusion h
  | u :: v :: r, x, y, h, c => by
    unfold uses at h
    rw [Bool.or_eq_true, Bool.or_eq_true, decide_eq_true_iff, decide_eq_true_iff] at h
    unfold below
    rcases h with (h | h) | h
    · rw [h.1, h.2, c, decide_eq_false (Int.lt_irrefl _)]; rfl
    · rw [h.1, h.2, G.cr_comm, c, G.near_comm, decide_eq_false (Int.lt_irrefl _)]; rfl
    · rw [uses_below h c, Bool.and_false]
def Bel (G : Geo) (p : List Int) (lo hi : Int) : Prop := ∀ s t, G.Up s t → G.below p (G.o s - G.o t) = decide (lo - hi < G.o s - G.o t)
def Seen (G : Geo) (p : List Int) (lo hi : Int) : Prop := ∀ v ∈ p, G.o v ≤ lo ∨ hi ≤ G.o v
theorem Seen.mono {p : List Int} {lo hi lo' hi' : Int} (h : Seen G p lo hi) (h1 : lo ≤ lo') (h2 : hi' ≤ hi) : Seen G p lo' hi' := fun v hv => by
  have := h v hv
  omega
/-- a path that goes on by an odd step -/
structure OddS (G : Geo) (p : List Int) (x lo hi : Int) (r : List (Int × Int)) : Prop where
  hd : p.head? = some x
  len : p.length % 2 = 1
  rs : G.Rs lo hi r
  cn : G.Cn r
  bel : Bel G p lo hi
  seen : Seen G p lo hi
  kind : (p = [G.a] ∧ x = G.a ∧ G.St r) ∨ (∃ w, G.Up x w ∧ lo = G.o x ∧ hi = G.o w ∧ G.Ch x w r) ∨ (∃ u, G.Up u x ∧ lo = G.o u ∧ hi = G.o x ∧ G.Ch u x r)
structure EvenS (G : Geo) (p : List Int) (y lo hi : Int) (r : List (Int × Int)) : Prop where
  hd : p.head? = some y
  py : y ∈ G.ps
  len : p.length % 2 = 0
  rs : G.Rs lo hi r
  cn : G.Cn r
  bel : Bel G p lo hi
  seen : Seen G p.tail lo hi
theorem Cn.up : ∀ {r : List (Int × Int)}, G.Cn r → ∀ q ∈ r, G.Up q.1 q.2
  | [], _, q, hq => absurd hq List.not_mem_nil
  | q0 :: r, h, q, hq => by
    rcases List.mem_cons.mp hq with rfl | hq
    · exact h.1
    · exact h.2.up q hq
theorem Ch.len : ∀ {r : List (Int × Int)} {u w : Int}, G.Up u w → G.Ch u w r → (r.length : Int) + 2 ≤ G.o w - G.o u
  | [], u, w, h, _ => by have := h.2; show (0 : Int) + 2 ≤ _; omega
  | q :: r, u, w, h, c => by
    have := c.2.2.len c.2.1
    rw [List.length_cons]
    rcases c.1 with k | k
    · rw [k.1] at this; omega
    · rw [k.1] at this; omega
theorem St.cn {r : List (Int × Int)} (h : G.St r) : G.Cn r := by
  cases r with
  | nil => exact True.intro
  | cons q r => exact ⟨h.1, h.2.2.2⟩
/-- behind a rope of the row -/
theorem Cn.rest : ∀ {r : List (Int × Int)}, G.Cn r → ∀ q ∈ r, (∀ s t, G.Up s t → G.o q.1 - G.o q.2 < G.o s - G.o t → (s, t) ∈ r) → G.Ch q.1 q.2 (Geo.rest q.1 q.2 r) ∧ G.Rs (G.o q.1) (G.o q.2) (Geo.rest q.1 q.2 r) ∧ (Geo.rest q.1 q.2 r).length < r.length
  | [], _, q, hq, _ => absurd hq List.not_mem_nil
  | q0 :: r, h, q, hq, all => by
    by_cases e : q = q0
    · rw [e]
      rw [e] at all
      rw [rest_yes r (.inl ⟨rfl, rfl⟩)]
      refine ⟨h.2, ⟨fun s t hs hn => ?_, fun p hp => ?_, h.2.len h.1⟩, by rw [List.length_cons]; omega⟩
      · refine (List.mem_cons.mp (all s t hs hn)).resolve_left fun z => ?_
        rw [← z] at hn
        exact absurd hn (Int.lt_irrefl _)
      · have := h.2.inw p hp
        exact ⟨h.2.up p hp, this.1, this.2.1, by omega⟩
    · have hr := (List.mem_cons.mp hq).resolve_left e
      have inw := h.2.inw q hr
      have hq2 := (h.2.up q hr).2
      have h02 := h.1.2
      have ih := h.2.cn.rest q hr fun s t hs hn => by
        refine (List.mem_cons.mp (all s t hs hn)).resolve_left fun z => ?_
        rw [← z] at inw
        simp only at inw
        omega
      rw [rest_no r (by
        rintro (m | m)
        · exact e (Prod.ext m.1.symm m.2.symm)
        · rw [m.1] at h02; omega)]
      exact ⟨ih.1, ih.2.1, by rw [List.length_cons]; have := ih.2.2; omega⟩
theorem rest_comm (x y : Int) : ∀ r : List (Int × Int), Geo.rest x y r = Geo.rest y x r
  | [] => rfl
  | q :: r => by
    unfold Geo.rest
    rw [rest_comm x y r]
    by_cases c : (q.1 = x ∧ q.2 = y) ∨ (q.1 = y ∧ q.2 = x)
    · rw [if_pos c, if_pos c.symm]
    · rw [if_neg c, if_neg (fun z => c z.symm)]
theorem Bel.next {p : List Int} {x y lo hi : Int} (h : Bel G p lo hi) (hx : p.head? = some x) {s t : Int} (u : G.Up s t) (e : (s = x ∧ t = y) ∨ (s = y ∧ t = x)) (n : lo - hi < G.o s - G.o t) : Bel G (y :: p) (G.o s) (G.o t) := by
  cases p with
  | nil => cases hx
  | cons x0 p =>
    cases hx
    intro s' t' u'
    unfold below
    rw [h s' t' u']
    have c : G.cr y x = true := by
      rcases e with e | e
      · rw [← e.1, ← e.2]; exact G.cr_iff.mpr (.inr u)
      · rw [← e.1, ← e.2]; exact G.cr_iff.mpr (.inl u)
    have k : G.near y x = G.o s - G.o t := by
      rcases e with e | e
      · rw [← e.1, ← e.2, G.near_comm]; exact u.near
      · rw [← e.1, ← e.2]; exact u.near
    rw [c, k, Bool.not_true, Bool.false_or]
    by_cases d : G.o s - G.o t < G.o s' - G.o t'
    · rw [decide_eq_true d, decide_eq_true (by omega)]; rfl
    · rw [decide_eq_false d]; rfl
theorem Bel.same {p : List Int} {x y lo hi : Int} (h : Bel G p lo hi) (hx : p.head? = some x) (e : G.cr x y = false) : Bel G (y :: p) lo hi := by
  cases p with
  | nil => cases hx
  | cons x0 p =>
    cases hx
    intro s' t' u'
    unfold below
    rw [h s' t' u', G.cr_comm, e]
    rfl
theorem ok_iff {p : List Int} {x y : Int} (hx : p.head? = some x) : G.ok p y = true ↔ G.T x y = true ∧ uses p x y = false ∧ (p.length % 2 = 1 ∨ G.cr x y = true) ∧ (G.cr x y = true → G.below p (G.near x y) = true) := by
  cases p with
  | nil => cases hx
  | cons x0 p =>
    cases hx
    unfold ok
    rw [Bool.and_eq_true, Bool.and_eq_true, Bool.and_eq_true, Bool.or_eq_true, Bool.or_eq_true, Bool.not_eq_true', Bool.not_eq_true', decide_eq_true_iff, and_assoc, and_assoc]
    constructor
    · rintro ⟨h1, h2, h3, h4⟩
      exact ⟨h1, h2, h3, fun c => h4.resolve_left (by rw [c]; exact Bool.noConfusion)⟩
    · rintro ⟨h1, h2, h3, h4⟩
      refine ⟨h1, h2, h3, ?_⟩
      cases c : G.cr x y with
      | false => exact .inl rfl
      | true => exact .inr (h4 c)
/-- a crossing step: the rope is one of the row -/
theorem Rs.inr {p : List Int} {x y lo hi : Int} {r : List (Int × Int)} (h : G.Rs lo hi r) (b : Bel G p lo hi) (c : G.cr x y = true) : G.below p (G.near x y) = true ↔ Geo.inr x y r := by
  rcases G.cr_iff.mp c with u | u
  · rw [u.near, b x y u, decide_eq_true_iff]
    constructor
    · exact fun n => .inl (h.all x y u n)
    · rintro (m | m)
      · exact (h.mem _ m).2.2.2
      · have := (h.mem _ m).1.2; have := u.2; simp only at *; omega
  · rw [G.near_comm, u.near, b y x u, decide_eq_true_iff]
    constructor
    · exact fun n => .inr (h.all y x u n)
    · rintro (m | m)
      · have := (h.mem _ m).1.2; have := u.2; simp only at *; omega
      · exact (h.mem _ m).2.2.2
theorem inr_cr {x y : Int} {r : List (Int × Int)} (h : G.Cn r) (m : Geo.inr x y r) : G.cr x y = true := by
  rcases m with m | m
  · exact G.cr_iff.mpr (.inl (h.up _ m))
  · exact G.cr_iff.mpr (.inr (h.up _ m))
/-- the steps that go on -/
theorem OddS.ok_iff {p : List Int} {x lo hi : Int} {r : List (Int × Int)} (S : OddS G p x lo hi r) {y : Int} : G.ok p y = true ↔ plainT G (uses p x) x y = true ∨ Geo.inr x y r := by
  rw [Geo.ok_iff S.hd, plain_iff]
  constructor
  · rintro ⟨h1, h2, _, h4⟩
    cases c : G.cr x y with
    | false => exact .inl ⟨h1, rfl, h2⟩
    | true => exact .inr ((S.rs.inr S.bel c).mp (h4 c))
  · rintro (⟨h1, h2, h3⟩ | m)
    · exact ⟨h1, h3, .inl S.len, fun c => by rw [h2] at c; exact Bool.noConfusion c⟩
    · have c := inr_cr S.cn m
      have b := (S.rs.inr S.bel c).mpr m
      refine ⟨G.cr_T c, ?_, .inl S.len, fun _ => b⟩
      rw [Bool.eq_false_iff]
      intro u
      rw [uses_below u c] at b
      exact Bool.noConfusion b
theorem EvenS.ok_iff {p : List Int} {y lo hi : Int} {r : List (Int × Int)} (S : EvenS G p y lo hi r) {z : Int} : G.ok p z = true ↔ Geo.inr y z r := by
  rw [Geo.ok_iff S.hd]
  constructor
  · rintro ⟨h1, h2, h3, h4⟩
    have c := h3.resolve_left (by rw [S.len]; decide)
    exact (S.rs.inr S.bel c).mp (h4 c)
  · intro m
    have c := inr_cr S.cn m
    have b := (S.rs.inr S.bel c).mpr m
    refine ⟨G.cr_T c, ?_, .inr c, fun _ => b⟩
    rw [Bool.eq_false_iff]
    intro u
    rw [uses_below u c] at b
    exact Bool.noConfusion b
/-- an odd step done -/
theorem OddS.plain {p : List Int} {x lo hi : Int} {r : List (Int × Int)} (S : OddS G p x lo hi r) {y : Int} (h : plainT G (uses p x) x y = true) : EvenS G (y :: p) y lo hi r :=
  ⟨rfl, G.rng2 (plain_iff.mp h).1, by rw [List.length_cons]; have := S.len; omega, S.rs, S.cn, S.bel.same S.hd (plain_iff.mp h).2.1, S.seen⟩
theorem OddS.cross {p : List Int} {x lo hi : Int} {r : List (Int × Int)} (S : OddS G p x lo hi r) {y : Int} (h : Geo.inr x y r) : ∃ s t, (s, t) ∈ r ∧ ((s = x ∧ t = y) ∨ (s = y ∧ t = x)) ∧ EvenS G (y :: p) y (G.o s) (G.o t) (Geo.rest x y r) ∧ (Geo.rest x y r).length < r.length := by
  have gen : ∀ s t, (s, t) ∈ r → ((s = x ∧ t = y) ∨ (s = y ∧ t = x)) → EvenS G (y :: p) y (G.o s) (G.o t) (Geo.rest x y r) ∧ (Geo.rest x y r).length < r.length := fun s t m e => by
    obtain ⟨u, k1, k2, k3⟩ := S.rs.mem _ m
    obtain ⟨c1, c2, c3⟩ := S.cn.rest _ m fun s' t' u' n => S.rs.all s' t' u' (by simp only at *; omega)
    have er : Geo.rest x y r = Geo.rest s t r := by
      rcases e with e | e
      · rw [e.1, e.2]
      · rw [e.1, e.2, rest_comm]
    have py : y ∈ G.ps := by
      rcases e with e | e
      · rw [← e.2]; exact u.p.2
      · rw [← e.1]; exact u.p.1
    rw [er]
    exact ⟨⟨rfl, py, by rw [List.length_cons]; have := S.len; omega, c2, c1.cn, S.bel.next S.hd u e k3, S.seen.mono k1 k2⟩, c3⟩
  rcases h with m | m
  · exact ⟨x, y, m, .inl ⟨rfl, rfl⟩, gen _ _ m (.inl ⟨rfl, rfl⟩)⟩
  · exact ⟨y, x, m, .inr ⟨rfl, rfl⟩, gen _ _ m (.inr ⟨rfl, rfl⟩)⟩
theorem EvenS.next {p : List Int} {y lo hi : Int} {r : List (Int × Int)} (S : EvenS G p y lo hi r) {z : Int} (h : Geo.inr y z r) : ∃ s t, (s, t) ∈ r ∧ ((s = y ∧ t = z) ∨ (s = z ∧ t = y)) ∧ OddS G (z :: p) z (G.o s) (G.o t) (Geo.rest y z r) ∧ (Geo.rest y z r).length < r.length ∧ G.Up s t ∧ G.Ch s t (Geo.rest y z r) := by
  have gen : ∀ s t, (s, t) ∈ r → ((s = y ∧ t = z) ∨ (s = z ∧ t = y)) → OddS G (z :: p) z (G.o s) (G.o t) (Geo.rest y z r) ∧ (Geo.rest y z r).length < r.length ∧ G.Up s t ∧ G.Ch s t (Geo.rest y z r) := fun s t m e => by
    obtain ⟨u, k1, k2, k3⟩ := S.rs.mem _ m
    simp only at u k1 k2 k3
    obtain ⟨c1, c2, c3⟩ := S.cn.rest _ m fun s' t' u' n => S.rs.all s' t' u' (by simp only at *; omega)
    have er : Geo.rest y z r = Geo.rest s t r := by
      rcases e with e | e
      · rw [e.1, e.2]
      · rw [e.1, e.2, rest_comm]
    rw [er]
    refine ⟨⟨rfl, by rw [List.length_cons]; have := S.len; omega, c2, c1.cn, S.bel.next S.hd u e k3, ?_, .inr ?_⟩, c3, u, c1⟩
    · intro v hv
      rcases List.mem_cons.mp hv with rfl | hv
      · rcases e with e | e
        · rw [e.2]; exact .inr (Int.le_refl _)
        · rw [e.1]; exact .inl (Int.le_refl _)
      · have hh := S.hd
        have ss := S.seen
        cases p with
        | nil => cases hv
        | cons y0 p =>
          cases hh
          rcases List.mem_cons.mp hv with rfl | hv
          · rcases e with e | e
            · rw [e.1]; exact .inl (Int.le_refl _)
            · rw [e.2]; exact .inr (Int.le_refl _)
          · exact ss.mono k1 k2 v hv
    · rcases e with e | e
      · refine .inr ⟨s, ?_, rfl, by rw [e.2], ?_⟩
        · rw [← e.2]; exact u
        · rw [← e.2]; exact c1
      · refine .inl ⟨t, ?_, by rw [e.1], rfl, ?_⟩
        · rw [← e.1]; exact u
        · rw [← e.1]; exact c1
  rcases h with m | m
  · exact ⟨y, z, m, .inl ⟨rfl, rfl⟩, gen _ _ m (.inl ⟨rfl, rfl⟩)⟩
  · exact ⟨z, y, m, .inr ⟨rfl, rfl⟩, gen _ _ m (.inr ⟨rfl, rfl⟩)⟩
theorem startS {r : List (Int × Int)} (h : G.St r) (hr : G.Rs 0 G.n r) : OddS G [G.a] G.a 0 G.n r :=
  ⟨rfl, rfl, hr, h.cn, fun s t u => by
    have := u.2
    have := (G.obd _ u.p.2).2
    rw [decide_eq_true (by omega)]
    rfl, fun v hv => by rw [List.mem_singleton.mp hv, G.oa]; exact .inl (Int.le_refl _), .inl ⟨rfl, rfl, h⟩⟩
end Geo
end Pm
namespace Pm
namespace Geo
variable {G : Geo} {U : Int → Int → Rat}
def val (U : Int → Int → Rat) (l : List (List Int)) : Rat := (l.map (wt U)).sum
theorem leaves_fin {f : Nat} {p : List Int} (h : G.fin p = true) : G.leaves (f + 1) p = [p] := if_pos h
theorem leaves_go {f : Nat} {p : List Int} (h : G.fin p = false) : G.leaves (f + 1) p = (G.kids p).flatMap (G.leaves f) := if_neg (by rw [h]; exact Bool.noConfusion)
theorem fin_odd {p : List Int} (h : p.length % 2 = 1) : G.fin p = false := decide_eq_false fun z => by have := z.2; omega
theorem Even_fin {p : List Int} {y lo hi : Int} {r : List (Int × Int)} (S : EvenS G p y lo hi r) : G.fin p = decide (y = G.b) := by
  unfold fin
  by_cases c : y = G.b
  · rw [decide_eq_true c, decide_eq_true ⟨by rw [S.hd, c], S.len⟩]
  · rw [decide_eq_false c, decide_eq_false fun z => c ?_]
    have := z.1
    rw [S.hd] at this
    exact Option.some.inj this
end Geo
end Pm
namespace Pm
namespace Geo
variable {G : Geo} {U : Int → Int → Rat}
/-- the power of a tie in a path -/
def pw : List Int → Int → Int → Int
  | x :: y :: r, s, t => (if (x = s ∧ y = t) ∨ (x = t ∧ y = s) then (if r.length % 2 = 0 then 1 else -1) else 0) + pw (y :: r) s t
  | _, _, _ => 0
theorem pw_skip {p : List Int} {x y s t : Int} (h : p.head? = some x) (n : ¬ ((y = s ∧ x = t) ∨ (y = t ∧ x = s))) : pw (y :: p) s t = pw p s t := by
  cases p with
  | nil => cases h
  | cons x0 p =>
    cases h
    conv => lhs; unfold pw
    rw [if_neg n, Int.zero_add]
theorem pw_hit {p : List Int} {x y s t : Int} (h : p.head? = some x) (n : (y = s ∧ x = t) ∨ (y = t ∧ x = s)) : pw (y :: p) s t = (if p.length % 2 = 1 then 1 else -1) + pw p s t := by
  cases p with
  | nil => cases h
  | cons x0 p =>
    cases h
    conv => lhs; unfold pw
    rw [if_pos n, List.length_cons]
    congr 1
    by_cases c : p.length % 2 = 0
    · rw [if_pos c, if_pos (by omega)]
    · rw [if_neg c, if_neg (by omega)]
theorem mem_kids {p q : List Int} {f : Nat} : q ∈ (G.kids p).flatMap (G.leaves f) ↔ ∃ y, y ∈ G.ps ∧ G.ok p y = true ∧ q ∈ G.leaves f (y :: p) := by
  rw [List.mem_flatMap]
  unfold kids
  constructor
  · rintro ⟨p', h1, h2⟩
    obtain ⟨y, hy, rfl⟩ := List.mem_map.mp h1
    obtain ⟨y1, y2⟩ := List.mem_filter.mp hy
    exact ⟨y, y1, y2, h2⟩
  · rintro ⟨y, h1, h2, h3⟩
    exact ⟨_, List.mem_map.mpr ⟨y, List.mem_filter.mpr ⟨h1, h2⟩, rfl⟩, h3⟩
/-- ropes that were crossed keep their power -/
theorem keep (s t : Int) (u : G.Up s t) : ∀ f : Nat, (∀ p y lo hi r, EvenS G p y lo hi r → G.o s - G.o t ≤ lo - hi → ∀ q ∈ G.leaves f p, pw q s t = pw p s t) ∧
    (∀ p x lo hi r, OddS G p x lo hi r → G.o s - G.o t ≤ lo - hi → ∀ q ∈ G.leaves f p, pw q s t = pw p s t)
  | 0 => ⟨fun p y lo hi r S h q hq => absurd hq List.not_mem_nil, fun p y lo hi r S h q hq => absurd hq List.not_mem_nil⟩
  | f + 1 => by
    obtain ⟨ih1, ih2⟩ := keep s t u f
    refine ⟨fun p y lo hi r S h q hq => ?_, fun p x lo hi r S h q hq => ?_⟩
    · by_cases c : G.fin p = true
      · rw [leaves_fin c] at hq
        rw [List.mem_singleton.mp hq]
      · rw [leaves_go (by simpa using c)] at hq
        obtain ⟨z, hz, hok, hq⟩ := mem_kids.mp hq
        obtain ⟨s', t', m, e, S2, l, u', ch⟩ := S.next (S.ok_iff.mp hok)
        have k := (S.rs.mem _ m).2.2.2
        simp only at k
        rw [ih2 _ _ _ _ _ S2 (by omega) q hq]
        refine pw_skip S.hd fun z => ?_
        have : G.o s - G.o t = G.o s' - G.o t' := by
          have u2 := u.2
          have u2' := u'.2
          rcases e with e | e <;> rcases z with z | z <;> (rw [e.1, e.2] at u2' ⊢; rw [← z.1, ← z.2] at u2 ⊢; try omega)
        omega
    · rw [leaves_go (fin_odd S.len)] at hq
      obtain ⟨y, hy, hok, hq⟩ := mem_kids.mp hq
      rcases S.ok_iff.mp hok with c | c
      · rw [ih1 _ _ _ _ _ (S.plain c) h q hq]
        refine pw_skip S.hd fun z => ?_
        have := (plain_iff.mp c).2.1
        rcases z with z | z
        · rw [z.1, z.2, G.cr_comm, cr_up u] at this
          exact Bool.noConfusion this
        · rw [z.1, z.2, cr_up u] at this
          exact Bool.noConfusion this
      · obtain ⟨s', t', m, e, S2, l⟩ := S.cross c
        obtain ⟨u', _, _, k⟩ := S.rs.mem _ m
        simp only at k u'
        rw [ih1 _ _ _ _ _ S2 (by omega) q hq]
        refine pw_skip S.hd fun z => ?_
        have : G.o s - G.o t = G.o s' - G.o t' := by
          have u2 := u.2
          have u2' := u'.2
          rcases e with e | e <;> rcases z with z | z <;> (rw [e.1, e.2] at u2' ⊢; rw [← z.1, ← z.2] at u2 ⊢; try omega)
        omega
/-- where a path that ends by an odd step goes on -/
theorem EvenS.live {p : List Int} {y lo hi : Int} {r : List (Int × Int)} (S : EvenS G p y lo hi r) {f : Nat} {q : List Int} (hq : q ∈ G.leaves f p) : y = G.b ∨ ∃ z, Geo.inr y z r := by
  cases f with
  | zero => cases hq
  | succ f =>
    by_cases c : y = G.b
    · exact .inl c
    · rw [leaves_go (by rw [Even_fin S, decide_eq_false c])] at hq
      obtain ⟨z, hz, hok, hq⟩ := mem_kids.mp hq
      exact .inr ⟨z, S.ok_iff.mp hok⟩
theorem up_a {t : Int} (h : G.Up G.a t ∨ G.Up t G.a) : False := by
  have oa := G.oa
  have ob := G.ob
  rcases h with h | h
  · have := h.2; omega
  · have := h.2; omega
theorem inr_up {x y : Int} {r : List (Int × Int)} (h : G.Cn r) (m : Geo.inr x y r) : G.Up x y ∨ G.Up y x := G.cr_iff.mp (inr_cr h m)
theorem ab : G.a ≠ G.b := fun e => by have := G.ob; rw [← e, G.oa] at this; omega
theorem EvenS.live_ne {p : List Int} {y lo hi : Int} {r : List (Int × Int)} (S : EvenS G p y lo hi r) {f : Nat} {q : List Int} (hq : q ∈ G.leaves f p) : y ≠ G.a := fun e => by
  rcases S.live hq with h | ⟨z, h⟩
  · exact ab (e.symm.trans h)
  · rw [e] at h
    exact up_a (inr_up S.cn h)
/-- the first step keeps its power -/
theorem keepA (t : Int) : ∀ f : Nat, (∀ p y lo hi r, EvenS G p y lo hi r → y ≠ G.a → ∀ q ∈ G.leaves f p, pw q G.a t = pw p G.a t) ∧
    (∀ p x lo hi r, OddS G p x lo hi r → x ≠ G.a → ∀ q ∈ G.leaves f p, pw q G.a t = pw p G.a t)
  | 0 => ⟨fun p y lo hi r S h q hq => absurd hq List.not_mem_nil, fun p y lo hi r S h q hq => absurd hq List.not_mem_nil⟩
  | f + 1 => by
    obtain ⟨ih1, ih2⟩ := keepA t f
    refine ⟨fun p y lo hi r S h q hq => ?_, fun p x lo hi r S h q hq => ?_⟩
    · by_cases c : G.fin p = true
      · rw [leaves_fin c] at hq
        rw [List.mem_singleton.mp hq]
      · rw [leaves_go (by simpa using c)] at hq
        obtain ⟨z, hz, hok, hq⟩ := mem_kids.mp hq
        have m := S.ok_iff.mp hok
        obtain ⟨s', t', _, e, S2, l, u', ch⟩ := S.next m
        have nz : z ≠ G.a := fun e => by
          rw [e] at m
          exact up_a (inr_up S.cn m).symm
        rw [ih2 _ _ _ _ _ S2 nz q hq]
        refine pw_skip S.hd fun k => ?_
        rcases k with k | k
        · exact nz k.1
        · exact h k.2
    · rw [leaves_go (fin_odd S.len)] at hq
      obtain ⟨y, hy, hok, hq⟩ := mem_kids.mp hq
      have gen : ∀ lo' hi' r', EvenS G (y :: p) y lo' hi' r' → pw q G.a t = pw p G.a t := fun lo' hi' r' S2 => by
        have ny := S2.live_ne hq
        rw [ih1 _ _ _ _ _ S2 ny q hq]
        refine pw_skip S.hd fun k => ?_
        rcases k with k | k
        · exact ny k.1
        · exact h k.2
      rcases S.ok_iff.mp hok with c | c
      · exact gen _ _ _ (S.plain c)
      · obtain ⟨s', t', m, e, S2, l⟩ := S.cross c
        exact gen _ _ _ S2
def Apart (q q' : List Int) : Prop := ∃ s t, pw q s t ≠ pw q' s t
theorem Apart.symm {q q' : List Int} (h : Apart q q') : Apart q' q := let ⟨s, t, n⟩ := h; ⟨s, t, fun e => n e.symm⟩
theorem pair_flat {f : Nat} {p : List Int} (h1 : ∀ y, y ∈ G.ps → G.ok p y = true → (G.leaves f (y :: p)).Pairwise Apart) (h2 : ∀ y z, G.ok p y = true → G.ok p z = true → y ≠ z → ∀ q ∈ G.leaves f (y :: p), ∀ q' ∈ G.leaves f (z :: p), Apart q q') : ((G.kids p).flatMap (G.leaves f)).Pairwise Apart := by
  rw [List.pairwise_flatMap]
  unfold kids
  refine ⟨fun p' hp' => ?_, ?_⟩
  · obtain ⟨y, hy, rfl⟩ := List.mem_map.mp hp'
    obtain ⟨y1, y2⟩ := List.mem_filter.mp hy
    exact h1 y y1 y2
  · rw [List.pairwise_map]
    have nd : (G.ps.filter (G.ok p)).Pairwise (· ≠ ·) := List.Pairwise.filter _ G.nd
    exact nd.imp_of_mem fun ha hb ne => h2 _ _ (List.mem_filter.mp ha).2 (List.mem_filter.mp hb).2 ne
theorem up_of {x y : Int} {r : List (Int × Int)} (h : G.Cn r) (m : Geo.inr x y r) : ∃ s t, G.Up s t ∧ (s, t) ∈ r ∧ ((s = x ∧ t = y) ∨ (s = y ∧ t = x)) := by
  rcases m with m | m
  · exact ⟨x, y, h.up _ m, m, .inl ⟨rfl, rfl⟩⟩
  · exact ⟨y, x, h.up _ m, m, .inr ⟨rfl, rfl⟩⟩
/-- no two ways have the same powers -/
theorem apart : ∀ f : Nat, (∀ p y lo hi r, EvenS G p y lo hi r → (G.leaves f p).Pairwise Apart) ∧ (∀ p x lo hi r, OddS G p x lo hi r → (G.leaves f p).Pairwise Apart)
  | 0 => ⟨fun p y lo hi r S => List.Pairwise.nil, fun p y lo hi r S => List.Pairwise.nil⟩
  | f + 1 => by
    obtain ⟨ih1, ih2⟩ := apart f
    refine ⟨fun p y lo hi r S => ?_, fun p x lo hi r S => ?_⟩
    · by_cases c : G.fin p = true
      · rw [leaves_fin c]
        exact List.pairwise_singleton _ _
      · rw [leaves_go (by simpa using c)]
        refine pair_flat (fun z hz hok => ?_) (fun z z' hz hz' ne q hq q' hq' => ?_)
        · obtain ⟨s', t', _, e, S2, l, u', ch⟩ := S.next (S.ok_iff.mp hok)
          exact ih2 _ _ _ _ _ S2
        · have gen : ∀ z z', G.ok p z = true → G.ok p z' = true → z ≠ z' → ∀ q ∈ G.leaves f (z :: p), ∀ q' ∈ G.leaves f (z' :: p), ∀ s t s' t', G.Up s t → G.Up s' t' → ((s = y ∧ t = z) ∨ (s = z ∧ t = y)) → ((s' = y ∧ t' = z') ∨ (s' = z' ∧ t' = y)) → OddS G (z :: p) z (G.o s) (G.o t) (Geo.rest y z r) → OddS G (z' :: p) z' (G.o s') (G.o t') (Geo.rest y z' r) → G.o s - G.o t ≤ G.o s' - G.o t' → Apart q q' := by
            intro z z' hz hz' ne q hq q' hq' s t s' t' u u' e e' S2 S2' le
            refine ⟨s, t, ?_⟩
            rw [(keep s t u f).2 _ _ _ _ _ S2 (Int.le_refl _) q hq, (keep s t u f).2 _ _ _ _ _ S2' le q' hq']
            rw [pw_hit S.hd (by rcases e with e | e; exact .inr ⟨e.2.symm, e.1.symm⟩; exact .inl ⟨e.1.symm, e.2.symm⟩), pw_skip S.hd (fun k => ?_), if_neg (by rw [S.len]; decide)]
            · omega
            · have u2 := u.ne
              rcases e with e | e <;> rcases k with k | k
              · exact u2 (by rw [e.1, k.2])
              · exact ne (by rw [k.1, e.2])
              · exact ne (by rw [k.1, e.1])
              · exact u2 (by rw [e.2, k.2])
          obtain ⟨s, t, _, e, S2, l, u, ch⟩ := S.next (S.ok_iff.mp hz)
          obtain ⟨s', t', _, e', S2', l', u', ch'⟩ := S.next (S.ok_iff.mp hz')
          rcases Int.le_total (G.o s - G.o t) (G.o s' - G.o t') with le | le
          · exact gen z z' hz hz' ne q hq q' hq' s t s' t' u u' e e' S2 S2' le
          · exact (gen z' z hz' hz (fun k => ne k.symm) q' hq' q hq s' t' s t u' u e' e S2' S2 le).symm
    · rw [leaves_go (fin_odd S.len)]
      refine pair_flat (fun y hy hok => ?_) (fun y y' hy hy' ne q hq q' hq' => ?_)
      · rcases S.ok_iff.mp hok with c | c
        · exact ih1 _ _ _ _ _ (S.plain c)
        · obtain ⟨s', t', m, e, S2, l⟩ := S.cross c
          exact ih1 _ _ _ _ _ S2
      · -- a plain step and a step along a rope
        have pc : ∀ y y', plainT G (uses p x) x y = true → Geo.inr x y' r → ∀ q ∈ G.leaves f (y :: p), ∀ q' ∈ G.leaves f (y' :: p), Apart q q' := by
          intro y y' c c' q hq q' hq'
          obtain ⟨s, t, m, e, S2', l⟩ := S.cross c'
          obtain ⟨u, _, _, k⟩ := S.rs.mem _ m
          simp only at u k
          refine ⟨s, t, ?_⟩
          have hy := plain_iff.mp c
          rw [(keep s t u f).1 _ _ _ _ _ S2' (Int.le_refl _) q' hq', pw_hit S.hd (by rcases e with e | e; exact .inr ⟨e.2.symm, e.1.symm⟩; exact .inl ⟨e.1.symm, e.2.symm⟩), if_pos S.len]
          have skip : pw (y :: p) s t = pw p s t := pw_skip S.hd fun z => by
            have := hy.2.1
            rcases z with z | z
            · rw [z.1, z.2, G.cr_comm, cr_up u] at this
              exact Bool.noConfusion this
            · rw [z.1, z.2, cr_up u] at this
              exact Bool.noConfusion this
          have S1 := S.plain c
          have e1 : pw q s t = pw p s t := by
            rw [← skip]
            cases f with
            | zero => cases hq
            | succ f =>
              by_cases cb : y = G.b
              · rw [leaves_fin (by rw [Even_fin S1, decide_eq_true cb])] at hq
                rw [List.mem_singleton.mp hq]
              · rw [leaves_go (by rw [Even_fin S1, decide_eq_false cb])] at hq
                obtain ⟨z, hz, hok, hq⟩ := mem_kids.mp hq
                obtain ⟨s1, t1, m1, e2, S3, l3, u3, ch3⟩ := S1.next (S1.ok_iff.mp hok)
                have k1 := S.rs.mem _ m1
                have u2 := u.2
                have u32 := u3.2
                have ny : y ≠ s ∧ y ≠ t := by
                  constructor
                  · intro h
                    rcases e with e | e
                    · have := hy.1; rw [h, e.1, G.irr] at this; exact Bool.noConfusion this
                    · have := hy.2.1; rw [h, ← e.2, G.cr_comm, cr_up u] at this; exact Bool.noConfusion this
                  · intro h
                    rcases e with e | e
                    · have := hy.2.1; rw [h, ← e.1, cr_up u] at this; exact Bool.noConfusion this
                    · have := hy.1; rw [h, e.2, G.irr] at this; exact Bool.noConfusion this
                have near : G.o s - G.o t ≤ G.o s1 - G.o t1 := by
                  rcases S.kind with ⟨_, xa, _⟩ | ⟨w, uw, hlo, hhi, _⟩ | ⟨v, uv, hlo, hhi, _⟩
                  · rcases e with e | e
                    · rw [e.1, xa] at u; exact absurd (up_a (.inl u)) id
                    · rw [e.2, xa] at u; exact absurd (up_a (.inr u)) id
                  · -- x above
                    have es : s = x ∧ t = y' := e.resolve_right fun e => by rw [e.2] at u2; have := uw.2; omega
                    rcases e2 with e2 | e2
                    · -- y above
                      have xy : G.o x < G.o y := by
                        have := k1.2.1
                        simp only at this
                        rw [hlo, e2.1] at this
                        have : G.o x ≠ G.o y := fun q => ny.1 (by rw [es.1]; exact (G.inj _ _ uw.p.1 S1.py q).symm)
                        omega
                      have := u3.nest u
                      rw [es.1, e2.1] at *
                      omega
                    · -- y below: it would cross
                      have h1 := hy.1
                      have h2 := hy.2.1
                      rw [e2.2] at u32
                      rw [cr_up ⟨h1, uw.2.1, uw.2.2.1, u32.2.2⟩] at h2
                      exact Bool.noConfusion h2
                  · have es : s = y' ∧ t = x := e.resolve_left fun e => by rw [e.1] at u2; have := uv.2; omega
                    rcases e2 with e2 | e2
                    · have h1 := hy.1
                      have h2 := hy.2.1
                      rw [e2.1] at u32
                      rw [G.cr_comm, cr_up ⟨by rw [G.sym]; exact h1, u32.1, u32.2.1, uv.2.2.2⟩] at h2
                      exact Bool.noConfusion h2
                    · have xy : G.o y < G.o x := by
                        have := k1.2.2.1
                        simp only at this
                        rw [hhi, e2.2] at this
                        have : G.o x ≠ G.o y := fun q => ny.2 (by rw [es.2]; exact (G.inj _ _ uv.p.2 S1.py q).symm)
                        omega
                      have := u3.nest u
                      rw [es.2, e2.2] at *
                      omega
                rw [(keep s t u f).2 _ _ _ _ _ S3 near q hq]
                refine pw_skip S1.hd fun k => ?_
                rcases k with k | k
                · exact ny.2 k.2
                · exact ny.1 k.2
          rw [e1]
          omega
        rcases S.ok_iff.mp hy with c | c
        · rcases S.ok_iff.mp hy' with c' | c'
          · -- two plain steps
            have S1 := S.plain c
            have S1' := S.plain c'
            rcases S.kind with ⟨pe, xa, _⟩ | ⟨w, uw, hlo, hhi, _⟩ | ⟨v, uv, hlo, hhi, _⟩
            · refine ⟨G.a, y, ?_⟩
              rw [(keepA y f).1 _ _ _ _ _ S1 (S1.live_ne hq) q hq, (keepA y f).1 _ _ _ _ _ S1' (S1'.live_ne hq') q' hq', pe]
              rw [pw_hit (p := [G.a]) (x := G.a) rfl (.inr ⟨rfl, rfl⟩), pw_skip (p := [G.a]) (x := G.a) rfl (fun k => ?_)]
              · show (1 : Int) + 0 ≠ 0
                decide
              · rcases k with k | k
                · exact S1'.live_ne hq' k.1
                · exact ne k.1.symm
            · exfalso
              have pos : ∀ y, plainT G (uses p x) x y = true → (y = G.b ∨ ∃ z, Geo.inr y z r) → G.o x < G.o y ∧ (y = G.b ∨ ∃ v, G.Up y v) := by
                intro y c h
                have hc := plain_iff.mp c
                have uw2 := uw.2
                rcases h with h | ⟨z, h⟩
                · rw [h]; exact ⟨uw.2.2.1, .inl rfl⟩
                · obtain ⟨s, t, u, m, e⟩ := up_of S.cn h
                  have k := S.rs.mem _ m
                  simp only at k
                  rcases e with e | e
                  · rw [e.1] at k u
                    have : G.o x ≠ G.o y := fun q => by have := G.inj _ _ uw.p.1 u.p.1 q; rw [this, G.irr] at hc; exact Bool.noConfusion hc.1
                    exact ⟨by omega, .inr ⟨_, u⟩⟩
                  · rw [e.2] at u
                    have := hc.2.1
                    rw [cr_up ⟨hc.1, uw2.1, uw2.2.1, u.2.2.2⟩] at this
                    exact Bool.noConfusion this
              have hlt : ∀ y y', plainT G (uses p x) x y = true → plainT G (uses p x) x y' = true → (y = G.b ∨ ∃ z, Geo.inr y z r) → (y' = G.b ∨ ∃ z, Geo.inr y' z r) → G.o y < G.o y' → False := by
                intro y y' c c' h h' lt
                obtain ⟨p1, p2⟩ := pos y c h
                obtain ⟨p1', p2'⟩ := pos y' c' h'
                have hb' : G.o y' ≤ G.o G.b := by
                  rcases p2' with e | ⟨v, u⟩
                  · rw [e]; exact Int.le_refl _
                  · have := u.2; omega
                rcases p2 with e | ⟨v, u⟩
                · rw [e] at lt; omega
                · exact G.nox _ _ _ _ (plain_iff.mp c').1 u.1 p1 lt (by have := u.2; omega)
              have lv := S1.live hq
              have lv' := S1'.live hq'
              rcases Int.lt_trichotomy (G.o y) (G.o y') with lt | lt | lt
              · exact hlt y y' c c' lv lv' lt
              · exact ne (G.inj _ _ S1.py S1'.py lt)
              · exact hlt y' y c' c lv' lv lt
            · exfalso
              have pos : ∀ y, plainT G (uses p x) x y = true → (y = G.b ∨ ∃ z, Geo.inr y z r) → G.o y < G.o x ∧ (y = G.b ∨ ∃ v, G.Up v y) := by
                intro y c h
                have hc := plain_iff.mp c
                have uv2 := uv.2
                rcases h with h | ⟨z, h⟩
                · rw [h]; exact ⟨uv.2.2.2, .inl rfl⟩
                · obtain ⟨s, t, u, m, e⟩ := up_of S.cn h
                  have k := S.rs.mem _ m
                  simp only at k
                  rcases e with e | e
                  · rw [e.1] at u
                    have := hc.2.1
                    rw [G.cr_comm, cr_up ⟨by rw [G.sym]; exact hc.1, u.2.1, u.2.2.1, uv2.2.2⟩] at this
                    exact Bool.noConfusion this
                  · rw [e.2] at k u
                    have : G.o x ≠ G.o y := fun q => by have := G.inj _ _ uv.p.2 u.p.2 q; rw [this, G.irr] at hc; exact Bool.noConfusion hc.1
                    exact ⟨by omega, .inr ⟨_, u⟩⟩
              have hlt : ∀ y y', plainT G (uses p x) x y = true → plainT G (uses p x) x y' = true → (y = G.b ∨ ∃ z, Geo.inr y z r) → (y' = G.b ∨ ∃ z, Geo.inr y' z r) → G.o y < G.o y' → False := by
                intro y y' c c' h h' lt
                obtain ⟨p1, p2⟩ := pos y c h
                obtain ⟨p1', p2'⟩ := pos y' c' h'
                have hb : G.o G.b ≤ G.o y := by
                  rcases p2 with e | ⟨v, u⟩
                  · rw [e]; exact Int.le_refl _
                  · have := u.2; omega
                rcases p2' with e | ⟨v, u⟩
                · rw [e] at lt; omega
                · exact G.nox _ _ _ _ u.1 (by rw [G.sym]; exact (plain_iff.mp c).1) (by have := u.2; omega) lt p1'
              have lv := S1.live hq
              have lv' := S1'.live hq'
              rcases Int.lt_trichotomy (G.o y) (G.o y') with lt | lt | lt
              · exact hlt y y' c c' lv lv' lt
              · exact ne (G.inj _ _ S1.py S1'.py lt)
              · exact hlt y' y c' c lv' lv lt
          · exact pc y y' c c' q hq q' hq'
        · rcases S.ok_iff.mp hy' with c' | c'
          · exact (pc y' y c' c q' hq' q hq).symm
          · -- two ropes
            exfalso
            have two : ∀ y y', Geo.inr x y r → Geo.inr x y' r → ∀ q ∈ G.leaves f (y :: p), ∀ s t s' t', (s, t) ∈ r → (s', t') ∈ r → ((s = x ∧ t = y) ∨ (s = y ∧ t = x)) → ((s' = x ∧ t' = y') ∨ (s' = y' ∧ t' = x)) → EvenS G (y :: p) y (G.o s) (G.o t) (Geo.rest x y r) → G.o s - G.o t < G.o s' - G.o t' → False := by
              intro y y' c c' q hq s t s' t' m m' e e' S2 lt
              have u := S.cn.up _ m
              have u' := S.cn.up _ m'
              have u2 := u.2
              have u2' := u'.2
              simp only at u u' u2 u2'
              rcases S2.live hq with h | ⟨z, h⟩
              · rcases e with e | e
                · exact u.nb.2 (by rw [e.2]; exact h)
                · exact u.nb.1 (by rw [e.1]; exact h)
              · obtain ⟨s1, t1, u1, m1, e1⟩ := up_of S2.cn h
                have k := S2.rs.mem _ m1
                simp only at k
                have u12 := u1.2
                rcases e with e | e
                · -- x above, y below
                  have es' : s' = x ∧ t' = y' := e'.resolve_right fun e' => by rw [e'.2] at u2'; rw [e.1] at u2; omega
                  have e1' : s1 = z ∧ t1 = y := e1.resolve_left fun e1 => by rw [e1.1] at u12; rw [e.2] at u2; omega
                  rw [e1'.2, e.1, e.2] at k
                  rw [es'.1, es'.2, e.1, e.2] at lt
                  rw [e1'.2] at u1
                  rw [es'.1, es'.2] at u' u2'
                  rw [e.1, e.2] at u2
                  exact G.nox _ _ _ _ u'.1 u1.1 (by omega) (by omega) (by omega)
                · have es' : s' = y' ∧ t' = x := e'.resolve_left fun e' => by rw [e'.1] at u2'; rw [e.2] at u2; omega
                  have e1' : s1 = y ∧ t1 = z := e1.resolve_right fun e1 => by rw [e1.2] at u12; rw [e.1] at u2; omega
                  rw [e1'.1, e.1, e.2] at k
                  rw [es'.1, es'.2, e.1, e.2] at lt
                  rw [e1'.1] at u1
                  rw [es'.1, es'.2] at u' u2'
                  rw [e.1, e.2] at u2
                  exact G.nox _ _ _ _ u1.1 u'.1 (by omega) (by omega) (by omega)
            obtain ⟨s, t, m, e, S2, l⟩ := S.cross c
            obtain ⟨s', t', m', e', S2', l'⟩ := S.cross c'
            rcases Int.lt_trichotomy (G.o s - G.o t) (G.o s' - G.o t') with lt | lt | lt
            · exact two y y' c c' q hq s t s' t' m m' e e' S2 lt
            · have k := (S.cn.up _ m).eq (S.cn.up _ m') lt
              simp only at k
              have u := (S.cn.up _ m).ne
              simp only at u
              rcases e with e | e <;> rcases e' with e' | e'
              · exact ne (by rw [← e.2, ← e'.2]; exact k.2)
              · exact u (by rw [e.1, k.2, e'.2])
              · exact u (by rw [e.2, k.1, e'.1])
              · exact ne (by rw [← e.1, ← e'.1]; exact k.1)
            · exact two y' y c' c q' hq' s' t' s t m' m e' e S2' lt
end Geo
end Pm
namespace Pm
namespace Geo
variable {G : Geo} {U : Int → Int → Rat}
/-- more fuel tells the same -/
theorem stable : ∀ f : Nat, (∀ p y lo hi r, EvenS G p y lo hi r → 2 * r.length + 1 ≤ f → G.leaves (f + 1) p = G.leaves f p) ∧ (∀ p x lo hi r, OddS G p x lo hi r → 2 * r.length + 2 ≤ f → G.leaves (f + 1) p = G.leaves f p)
  | 0 => ⟨fun p y lo hi r S h => absurd h (by omega), fun p y lo hi r S h => absurd h (by omega)⟩
  | f + 1 => by
    obtain ⟨ih1, ih2⟩ := stable f
    have key : ∀ p, G.fin p = false → (∀ y, y ∈ G.ps → G.ok p y = true → G.leaves (f + 1) (y :: p) = G.leaves f (y :: p)) → G.leaves (f + 1 + 1) p = G.leaves (f + 1) p := fun p hp h => by
      rw [leaves_go hp, leaves_go hp]
      unfold kids
      rw [List.flatMap_map, List.flatMap_map]
      unfold List.flatMap
      rw [List.map_congr_left fun y hy => h y (List.mem_filter.mp hy).1 (List.mem_filter.mp hy).2]
    refine ⟨fun p y lo hi r S h => ?_, fun p x lo hi r S h => ?_⟩
    · by_cases c : G.fin p = true
      · rw [leaves_fin c, leaves_fin c]
      · refine key p (by simpa using c) fun z hz hok => ?_
        obtain ⟨s', t', _, e, S2, l, u', ch⟩ := S.next (S.ok_iff.mp hok)
        exact ih2 _ _ _ _ _ S2 (by omega)
    · refine key p (fin_odd S.len) fun y hy hok => ?_
      rcases S.ok_iff.mp hok with c | c
      · exact ih1 _ _ _ _ _ (S.plain c) (by omega)
      · obtain ⟨s', t', m, e, S2, l⟩ := S.cross c
        exact ih1 _ _ _ _ _ S2 (by omega)
theorem stable_add {p : List Int} {x lo hi : Int} {r : List (Int × Int)} (S : OddS G p x lo hi r) {f : Nat} (h : 2 * r.length + 2 ≤ f) : ∀ k, G.leaves (f + k) p = G.leaves f p
  | 0 => rfl
  | k + 1 => by rw [← stable_add S h k]; exact (stable (f + k)).2 _ _ _ _ _ S (by omega)
def Pth (G : Geo) : List Int → Prop
  | [] => False
  | [x] => x = G.a
  | y :: x :: r => G.ok (x :: r) y = true ∧ Pth G (x :: r)
theorem Pth.cons {p : List Int} {y : Int} (h : Pth G p) (k : G.ok p y = true) : Pth G (y :: p) := by
  cases p with
  | nil => exact h.elim
  | cons x r => exact ⟨k, h⟩
theorem Pth.suffix : ∀ {e p : List Int}, Pth G (e ++ p) → p ≠ [] → Pth G p
  | [], _, h, _ => h
  | y :: e, p, h, n => by
    have : e ++ p ≠ [] := by simp [n]
    cases c : e ++ p with
    | nil => exact absurd c this
    | cons x r =>
      rw [List.cons_append, c] at h
      have := h.2
      rw [← c] at this
      exact Pth.suffix this n
theorem leaves_pth : ∀ (f : Nat) (p : List Int), Pth G p → ∀ q ∈ G.leaves f p, Pth G q ∧ G.fin q = true
  | 0, _, _, q, hq => absurd hq List.not_mem_nil
  | f + 1, p, h, q, hq => by
    by_cases c : G.fin p = true
    · rw [leaves_fin c] at hq
      rw [List.mem_singleton.mp hq]
      exact ⟨h, c⟩
    · rw [leaves_go (by simpa using c)] at hq
      obtain ⟨y, hy, hok, hq⟩ := mem_kids.mp hq
      exact leaves_pth f _ (h.cons hok) q hq
theorem ok_ps {p : List Int} {y : Int} (h : G.ok p y = true) : y ∈ G.ps := by
  cases p with
  | nil => exact Bool.noConfusion h
  | cons x r => exact G.rng2 ((ok_iff rfl).mp h).1
theorem fin_stop {p : List Int} {y : Int} (h : G.fin p = true) (k : G.ok p y = true) : False := by
  have h := of_decide_eq_true h
  obtain ⟨k1, k2, k3, _⟩ := (ok_iff h.1).mp k
  have c := k3.resolve_left (by omega)
  rw [G.cr_comm, cr_nb] at c
  exact Bool.noConfusion c
theorem pth_leaves : ∀ (f : Nat) (e p : List Int), Pth G (e ++ p) → G.fin (e ++ p) = true → p ≠ [] → e.length < f → e ++ p ∈ G.leaves f p
  | 0, _, _, _, _, _, h => absurd h (by omega)
  | f + 1, e, p, h, k, n, l => by
    rcases List.eq_nil_or_concat e with rfl | ⟨e', y, rfl⟩
    · rw [List.nil_append] at h k ⊢
      rw [leaves_fin k]
      exact List.mem_singleton.mpr rfl
    · rw [List.concat_eq_append] at h k l ⊢
      rw [List.append_assoc, List.singleton_append] at h k ⊢
      have hp := h.suffix (List.cons_ne_nil _ _)
      have hok : G.ok p y = true := by
        cases p with
        | nil => exact absurd rfl n
        | cons x r => exact hp.1
      have nf : G.fin p = false := by
        rw [Bool.eq_false_iff]
        exact fun z => fin_stop z hok
      rw [leaves_go nf]
      refine mem_kids.mpr ⟨y, ok_ps hok, hok, pth_leaves f e' (y :: p) h k (List.cons_ne_nil _ _) ?_⟩
      rw [List.length_append, List.length_singleton] at l
      omega
theorem pth_last : ∀ {q : List Int}, Pth G q → ∃ e, q = e ++ [G.a]
  | [], h => h.elim
  | [x], h => ⟨[], by rw [show x = G.a from h]; rfl⟩
  | y :: x :: r, h => by
    obtain ⟨e, he⟩ := pth_last h.2
    exact ⟨y :: e, by rw [he]; rfl⟩
/-- the ways are the paths that end as they should -/
theorem mem_ways {f : Nat} (h : 2 * G.n ≤ f + 2) {q : List Int} : q ∈ G.leaves f [G.a] ↔ Pth G q ∧ G.fin q = true := by
  constructor
  · exact leaves_pth f [G.a] rfl q
  · rintro ⟨h1, h2⟩
    obtain ⟨e, rfl⟩ := pth_last h1
    obtain ⟨r, hs, hr⟩ := G.start
    have l := hr.len
    rw [← stable_add (startS hs hr) (f := f) (by omega) (e.length + 1)]
    exact pth_leaves _ _ _ h1 h2 (List.cons_ne_nil _ _) (by omega)
def stepsOf : List Int → List (Int × Int)
  | y :: x :: r => (x, y) :: stepsOf (x :: r)
  | _ => []
def SameT (e d : Int × Int) : Prop := (e.1 = d.1 ∧ e.2 = d.2) ∨ (e.1 = d.2 ∧ e.2 = d.1)
theorem uses_iff : ∀ {p : List Int} {x y : Int}, uses p x y = true ↔ ∃ e ∈ stepsOf p, SameT e (x, y)
  | [], _, _ => ⟨fun h => Bool.noConfusion h, fun ⟨_, h, _⟩ => absurd h List.not_mem_nil⟩
  | [_], _, _ => ⟨fun h => Bool.noConfusion h, fun ⟨_, h, _⟩ => absurd h List.not_mem_nil⟩
  | u :: v :: r, x, y => by
    unfold uses stepsOf
    rw [Bool.or_eq_true, Bool.or_eq_true, decide_eq_true_iff, decide_eq_true_iff, uses_iff]
    unfold SameT
    constructor
    · rintro ((h | h) | ⟨e, he, h⟩)
      · exact ⟨_, List.mem_cons_self, .inr ⟨h.2, h.1⟩⟩
      · exact ⟨_, List.mem_cons_self, .inl ⟨h.2, h.1⟩⟩
      · exact ⟨e, List.mem_cons_of_mem _ he, h⟩
    · rintro ⟨e, he, h⟩
      rcases List.mem_cons.mp he with rfl | he
      · rcases h with h | h
        · exact .inl (.inr ⟨h.2, h.1⟩)
        · exact .inl (.inl ⟨h.2, h.1⟩)
      · exact .inr ⟨e, he, h⟩
theorem below_iff : ∀ {p : List Int} {m : Int}, G.below p m = true ↔ ∀ e ∈ stepsOf p, G.cr e.1 e.2 = true → G.near e.1 e.2 < m
  | [], _ => ⟨fun _ e h => absurd h List.not_mem_nil, fun _ => rfl⟩
  | [_], _ => ⟨fun _ e h => absurd h List.not_mem_nil, fun _ => rfl⟩
  | u :: v :: r, m => by
    unfold below stepsOf
    rw [Bool.and_eq_true, Bool.or_eq_true, Bool.not_eq_true', decide_eq_true_iff, below_iff]
    constructor
    · rintro ⟨h1, h2⟩ e he c
      rcases List.mem_cons.mp he with rfl | he
      · simp only at c ⊢
        rw [G.cr_comm] at c
        rw [G.near_comm]
        exact h1.resolve_left (by rw [c]; exact Bool.noConfusion)
      · exact h2 e he c
    · intro h
      refine ⟨?_, fun e he => h e (List.mem_cons_of_mem _ he)⟩
      cases c : G.cr u v with
      | false => exact .inl rfl
      | true =>
        have := h _ List.mem_cons_self (by simp only; rw [G.cr_comm]; exact c)
        simp only at this
        rw [G.near_comm] at this
        exact .inr this
/-- a step behind another -/
def Rel (G : Geo) (d e : Int × Int) : Prop := ¬ SameT e d ∧ (G.cr d.1 d.2 = true → G.cr e.1 e.2 = true → G.near e.1 e.2 < G.near d.1 d.2)
structure Wy (G : Geo) (p : List Int) : Prop where
  last : p.getLast? = some G.a
  rel : (stepsOf p).Pairwise (Rel G)
  tie : ∀ e ∈ stepsOf p, G.T e.1 e.2 = true
  par : ∀ (i : Nat) (e : Int × Int), (stepsOf p)[i]? = some e → (p.length - 1 - i) % 2 = 0 → G.cr e.1 e.2 = true
theorem pth_iff : ∀ {p : List Int}, Pth G p ↔ Wy G p
  | [] => ⟨fun h => h.elim, fun h => absurd h.last (by simp)⟩
  | [x] => by
    constructor
    · intro h
      exact ⟨by rw [show x = G.a from h]; rfl, List.Pairwise.nil, fun e h => absurd h List.not_mem_nil, fun i e h => by simp [stepsOf] at h⟩
    · intro h
      exact Option.some.inj h.last
  | y :: x :: r => by
    show (G.ok (x :: r) y = true ∧ Pth G (x :: r)) ↔ _
    rw [pth_iff, ok_iff rfl, below_iff]
    have hl : (y :: x :: r).getLast? = (x :: r).getLast? := rfl
    constructor
    · rintro ⟨⟨h1, h2, h3, h4⟩, W⟩
      refine ⟨hl.trans W.last, ?_, ?_, ?_⟩
      · refine List.Pairwise.cons (fun e he => ⟨fun s => ?_, fun c k => h4 c e he k⟩) W.rel
        rw [Bool.eq_false_iff] at h2
        exact h2 (uses_iff.mpr ⟨e, he, s⟩)
      · intro e he
        rcases List.mem_cons.mp he with rfl | he
        · exact h1
        · exact W.tie e he
      · intro i e he hp
        cases i with
        | zero =>
          cases he
          refine h3.resolve_left ?_
          rw [List.length_cons] at hp
          simp only [Nat.sub_zero, Nat.add_sub_cancel] at hp
          omega
        | succ i =>
          refine W.par i e he ?_
          rw [List.length_cons] at hp
          simp only [Nat.add_sub_cancel] at hp
          rw [← hp]
          congr 1
          omega
    · intro W
      obtain ⟨rel1, rel2⟩ := List.pairwise_cons.mp W.rel
      refine ⟨⟨W.tie _ List.mem_cons_self, ?_, ?_, fun c e he k => (rel1 e he).2 c k⟩, ⟨hl.symm.trans W.last, rel2, fun e he => W.tie e (List.mem_cons_of_mem _ he), fun i e he hp => W.par (i + 1) e he ?_⟩⟩
      · rw [Bool.eq_false_iff]
        intro u
        obtain ⟨e, he, s⟩ := uses_iff.mp u
        exact (rel1 e he).1 s
      · by_cases c : (x :: r).length % 2 = 1
        · exact .inl c
        · refine .inr (W.par 0 _ rfl ?_)
          rw [List.length_cons]
          simp only [Nat.sub_zero, Nat.add_sub_cancel]
          omega
      · rw [← hp, List.length_cons]
        simp only [Nat.add_sub_cancel]
        congr 1
        omega
theorem steps_snoc : ∀ (l : List Int) (x y : Int), stepsOf (l ++ [x, y]) = stepsOf (l ++ [x]) ++ [(y, x)]
  | [], x, y => rfl
  | [z], x, y => rfl
  | z :: w :: l, x, y => by
    have := steps_snoc (w :: l) x y
    simp only [List.cons_append] at this ⊢
    unfold stepsOf
    rw [this, List.cons_append]
theorem steps_rev : ∀ (p : List Int), stepsOf p.reverse = ((stepsOf p).map fun e => (e.2, e.1)).reverse
  | [] => rfl
  | [x] => rfl
  | y :: x :: r => by
    have ih := steps_rev (x :: r)
    rw [List.reverse_cons] at ih
    rw [List.reverse_cons, List.reverse_cons, List.append_assoc, List.singleton_append, steps_snoc, ih]
    show _ = (((y, x)) :: ((stepsOf (x :: r)).map fun e => (e.2, e.1))).reverse
    rw [List.reverse_cons]
theorem steps_len : ∀ (p : List Int), (stepsOf p).length = p.length - 1
  | [] => rfl
  | [x] => rfl
  | y :: x :: r => by
    show (stepsOf (x :: r)).length + 1 = _
    rw [steps_len (x :: r)]
    simp only [List.length_cons]
    omega
end Geo
end Pm
namespace Pm
namespace Geo
variable {G : Geo}
def nodes (G : Geo) : Nat → List Int → Nat
  | 0, _ => 1
  | f + 1, p => 1 + if G.fin p = true then 0 else ((G.kids p).map (nodes G f)).sum
def Bn (G : Geo) : List (Int × Int) → Rat
  | [] => 1 + (G.ps.length : Rat)
  | _ :: r => 3 * Bn G r
def An (G : Geo) (y : Int) : List (Int × Int) → Rat
  | [] => 0
  | q :: r => (if y = q.1 then Bn G r else if y = q.2 then Bn G r else 0) + An G y r
def Sn (G : Geo) : List (Int × Int) → Rat
  | [] => 0
  | _ :: r => 2 * Bn G r + Sn G r
theorem Bn_pos : ∀ r, 0 ≤ Bn G r
  | [] => by unfold Bn; have : (0 : Rat) ≤ (G.ps.length : Rat) := Rat.natCast_nonneg; grind
  | _ :: r => by have := Bn_pos r; show 0 ≤ 3 * Bn G r; grind
theorem Bn_eq : ∀ r, 1 + (G.ps.length : Rat) + Sn G r = Bn G r
  | [] => by unfold Bn Sn; grind
  | _ :: r => by have := Bn_eq r; show 1 + (G.ps.length : Rat) + (2 * Bn G r + Sn G r) = 3 * Bn G r; grind
theorem An_nonneg (y : Int) : ∀ r, 0 ≤ An G y r
  | [] => by unfold An; exact Rat.le_refl
  | q :: r => by
    unfold An
    have h1 := Bn_pos (G := G) r
    have h2 := An_nonneg y r
    by_cases c : y = q.1
    · rw [if_pos c]; grind
    · rw [if_neg c]
      by_cases d : y = q.2
      · rw [if_pos d]; grind
      · rw [if_neg d]; grind
theorem An_rest (y u w : Int) : ∀ r, An G y (rest u w r) ≤ An G y r
  | [] => Rat.le_refl
  | q :: r => by
    have ih := An_rest y u w r
    have h1 := Bn_pos (G := G) r
    have e : An G y r ≤ An G y (q :: r) := by
      conv => rhs; unfold An
      by_cases c : y = q.1
      · rw [if_pos c]; grind
      · rw [if_neg c]
        by_cases d : y = q.2
        · rw [if_pos d]; grind
        · rw [if_neg d]; grind
    by_cases c : (q.1 = u ∧ q.2 = w) ∨ (q.1 = w ∧ q.2 = u)
    · rw [rest_yes r c]; exact e
    · rw [rest_no r c]; exact Rat.le_trans ih e
theorem An_sum : ∀ {r : List (Int × Int)}, G.Cn r → (G.ps.map fun y => An G y r).sum = Sn G r
  | [], _ => sum_zero fun z _ => rfl
  | q :: r, h => by
    have ih := An_sum h.2.cn
    have e : (G.ps.map fun y => An G y (q :: r)) = G.ps.map fun y => (if y = q.1 then Bn G r else if y = q.2 then Bn G r else 0) + An G y r := rfl
    rw [e, sum_addf, ih, sum_two G.nd h.1.p.1 h.1.p.2 h.1.ne _ (fun z _ n1 n2 => by rw [if_neg n1, if_neg n2]), if_pos rfl, if_neg h.1.ne.symm, if_pos rfl]
    show _ = 2 * Bn G r + Sn G r
    grind
theorem An_step (y : Int) : ∀ {r : List (Int × Int)}, G.Cn r → (G.ps.map fun z => if inr y z r then Bn G (rest y z r) else 0).sum = An G y r
  | [], _ => sum_zero fun z _ => if_neg (by unfold inr; rintro (h | h) <;> cases h)
  | q :: r, h => by rw [split (fun _ l => Bn G l) y h, An_step y h.2.cn]; rfl
theorem sum_le {α : Type} {l : List α} {f g : α → Rat} (h : ∀ z ∈ l, f z ≤ g z) : (l.map f).sum ≤ (l.map g).sum := by
  induction l with
  | nil => exact Rat.le_refl
  | cons x l ih =>
    rw [List.map_cons, List.sum_cons, List.map_cons, List.sum_cons]
    have h1 := h x List.mem_cons_self
    have h2 := ih fun z hz => h z (List.mem_cons_of_mem _ hz)
    grind
theorem sum_cast {α : Type} (l : List α) (g : α → Nat) : (((l.map g).sum : Nat) : Rat) = (l.map fun x => (g x : Rat)).sum := by
  induction l with
  | nil => rfl
  | cons x l ih => rw [List.map_cons, List.sum_cons, List.map_cons, List.sum_cons, ← ih, Rat.natCast_add]
theorem sum_const_len (l : List Int) : (l.map fun _ => (1 : Rat)).sum = (l.length : Rat) := by
  induction l with
  | nil => rfl
  | cons x l ih => rw [List.map_cons, List.sum_cons, ih, List.length_cons, Rat.natCast_add]; show 1 + _ = _ + ((1 : Nat) : Rat); rw [Rat.add_comm]; rfl
theorem nodes_kids (f : Nat) (p : List Int) : ((((G.kids p).map (nodes G f)).sum : Nat) : Rat) = (G.ps.map fun y => if G.ok p y = true then (nodes G f (y :: p) : Rat) else 0).sum := by
  rw [sum_cast]
  unfold kids
  rw [List.map_map, sum_filter]
  rfl
theorem nodes_even {f : Nat} (ih2 : ∀ p x lo hi r, OddS G p x lo hi r → (nodes G f p : Rat) ≤ Bn G r) {p : List Int} {y lo hi : Int} {r : List (Int × Int)} (S : EvenS G p y lo hi r) : (nodes G (f + 1) p : Rat) ≤ 1 + An G y r := by
  show (((1 + if G.fin p = true then 0 else ((G.kids p).map (nodes G f)).sum : Nat)) : Rat) ≤ _
  have h0 := An_nonneg (G := G) y r
  by_cases c : G.fin p = true
  · rw [if_pos c]
    show ((1 : Nat) : Rat) ≤ _
    have : ((1 : Nat) : Rat) = 1 := rfl
    rw [this]
    grind
  · rw [if_neg c, Rat.natCast_add, nodes_kids, ← An_step y S.cn]
    have : (G.ps.map fun z => if G.ok p z = true then (nodes G f (z :: p) : Rat) else 0).sum ≤ (G.ps.map fun z => if inr y z r then Bn G (rest y z r) else 0).sum := sum_le fun z hz => by
      by_cases m : Geo.inr y z r
      · obtain ⟨s, t, ms, e, S2, l, u, ch⟩ := S.next m
        rw [if_pos (S.ok_iff.mpr m), if_pos m]
        exact ih2 _ _ _ _ _ S2
      · rw [if_neg (fun z => m (S.ok_iff.mp z)), if_neg m]
        exact Rat.le_refl
    have e1 : ((1 : Nat) : Rat) = 1 := rfl
    rw [e1]
    grind
theorem nodes_odd {f : Nat} (ih1 : ∀ p y lo hi r, EvenS G p y lo hi r → (nodes G f p : Rat) ≤ 1 + An G y r) {p : List Int} {x lo hi : Int} {r : List (Int × Int)} (S : OddS G p x lo hi r) : (nodes G (f + 1) p : Rat) ≤ Bn G r := by
  show (((1 + if G.fin p = true then 0 else ((G.kids p).map (nodes G f)).sum : Nat)) : Rat) ≤ _
  rw [if_neg (by rw [fin_odd S.len]; exact Bool.noConfusion), Rat.natCast_add, nodes_kids, ← Bn_eq, ← An_sum S.cn, ← sum_const_len, Rat.add_assoc, ← sum_addf]
  have : (G.ps.map fun y => if G.ok p y = true then (nodes G f (y :: p) : Rat) else 0).sum ≤ (G.ps.map fun y => 1 + An G y r).sum := sum_le fun y hy => by
    have h0 := An_nonneg (G := G) y r
    by_cases c : G.ok p y = true
    · rw [if_pos c]
      rcases S.ok_iff.mp c with c | c
      · exact ih1 _ _ _ _ _ (S.plain c)
      · obtain ⟨s, t, m, e, S2, l⟩ := S.cross c
        have := ih1 _ _ _ _ _ S2
        have := An_rest (G := G) y x y r
        grind
    · rw [if_neg c]
      grind
  have e1 : ((1 : Nat) : Rat) = 1 := rfl
  rw [e1]
  grind
theorem nodes_le : ∀ f : Nat, (∀ p y lo hi r, EvenS G p y lo hi r → (nodes G f p : Rat) ≤ 1 + An G y r) ∧ (∀ p x lo hi r, OddS G p x lo hi r → (nodes G f p : Rat) ≤ Bn G r)
  | 0 => by
    have e1 : ((1 : Nat) : Rat) = 1 := rfl
    refine ⟨fun p y lo hi r S => ?_, fun p x lo hi r S => ?_⟩
    · have h0 := An_nonneg (G := G) y r
      show ((1 : Nat) : Rat) ≤ _
      rw [e1]
      grind
    · have h0 : ∀ r, 0 ≤ Sn G r := fun r => by
        induction r with
        | nil => exact Rat.le_refl
        | cons q r ih => have := Bn_pos (G := G) r; show 0 ≤ 2 * Bn G r + Sn G r; grind
      have h1 := h0 r
      have h2 : (0 : Rat) ≤ (G.ps.length : Rat) := Rat.natCast_nonneg
      show ((1 : Nat) : Rat) ≤ _
      rw [e1, ← Bn_eq]
      grind
  | f + 1 => ⟨fun p y lo hi r S => nodes_even (nodes_le f).2 S, fun p x lo hi r S => nodes_odd (nodes_le f).1 S⟩
theorem Bn_nat : ∀ r, Bn G r = (((1 + G.ps.length) * 3 ^ r.length : Nat) : Rat)
  | [] => by
    unfold Bn
    rw [List.length_nil, Nat.pow_zero, Nat.mul_one, Rat.natCast_add]
    rfl
  | _ :: r => by
    unfold Bn
    rw [Bn_nat r, List.length_cons, Nat.pow_succ, ← Nat.mul_assoc, Rat.natCast_mul _ 3, Rat.mul_comm]
    rfl
theorem nodes_bound {p : List Int} {x lo hi : Int} {r : List (Int × Int)} (S : OddS G p x lo hi r) (f : Nat) : nodes G f p ≤ (1 + G.ps.length) * 3 ^ r.length := by
  have h := (nodes_le f).2 _ _ _ _ _ S
  rw [Bn_nat] at h
  exact Rat.natCast_le_natCast.mp h
theorem nodes_pos : ∀ (f : Nat) (p : List Int), 1 ≤ nodes G f p
  | 0, _ => Nat.le_refl _
  | f + 1, p => Nat.le_add_right _ _
theorem leaves_nodes : ∀ (f : Nat) (p : List Int), (G.leaves f p).length ≤ nodes G f p
  | 0, p => Nat.zero_le _
  | f + 1, p => by
    by_cases c : G.fin p = true
    · rw [leaves_fin c]
      exact nodes_pos _ _
    · rw [leaves_go (by simpa using c)]
      show _ ≤ 1 + if G.fin p = true then 0 else ((G.kids p).map (nodes G f)).sum
      rw [if_neg c, List.length_flatMap]
      have : ((G.kids p).map fun q => (G.leaves f q).length).sum ≤ ((G.kids p).map (nodes G f)).sum := by
        induction G.kids p with
        | nil => exact Nat.le_refl _
        | cons q l ih =>
          rw [List.map_cons, List.sum_cons, List.map_cons, List.sum_cons]
          have := leaves_nodes f q
          omega
      omega
end Geo
end Pm
namespace Pm
open Tr
section
variable {n : Nat} {cut : List IP} {t : Tr}
theorem mem_posts {n : Nat} {x : Int} : x ∈ posts n ↔ 0 ≤ x ∧ x < n := by
  unfold posts
  rw [List.mem_map]
  constructor
  · rintro ⟨i, hi, rfl⟩
    have := List.mem_range.mp hi
    omega
  · rintro ⟨h1, h2⟩
    exact ⟨x.toNat, List.mem_range.mpr (by omega), by omega⟩
theorem posts_nodup (n : Nat) : (posts n).Nodup := (posts_rise n).imp fun h => by omega
/-- a tie of two posts, told by the tree -/
theorem Cutting.tie_ex (C : Cutting n cut t) {x y : Int} (h : tieOf x y ∈ tiesL n cut) : ∃ i k : Nat, (i, k) ∈ t.all 0 ∧ i < k ∧ k < n ∧ ((x = i ∧ y = k) ∨ (x = k ∧ y = i)) := by
  obtain ⟨⟨i, k⟩, hq, e⟩ := C.ties.mp h
  have b := Tr.bd hq
  have w := C.w
  simp only at b
  refine ⟨i, k, hq, b.2.1, by omega, ?_⟩
  unfold tieOf castP at e
  have e1 := congrArg Prod.fst e
  have e2 := congrArg Prod.snd e
  simp only at e1 e2
  omega
theorem Cutting.tie_of (C : Cutting n cut t) {i k : Nat} (h : (i, k) ∈ t.all 0) : tieOf (i : Int) (k : Int) ∈ tiesL n cut ∧ tieOf (k : Int) (i : Int) ∈ tiesL n cut := by
  have b := Tr.bd h
  simp only at b
  have e : tieOf (i : Int) (k : Int) = castP (i, k) := tie_lt (by omega)
  have e2 : tieOf (k : Int) (i : Int) = castP (i, k) := tie_gt (by omega)
  rw [e, e2]
  exact ⟨C.tied.mpr h, C.tied.mpr h⟩
def off (n : Nat) (a x : Int) : Int := (x - a) % n
theorem off_eq {n : Nat} {a x : Int} (ha : 0 ≤ a ∧ a < n) (hx : 0 ≤ x ∧ x < n) : off n a x = if a ≤ x then x - a else x - a + n := by
  unfold off
  split
  · exact Int.emod_eq_of_lt (by omega) (by omega)
  · rw [← Int.add_emod_right]
    exact Int.emod_eq_of_lt (by omega) (by omega)
theorem off_or {n : Nat} {a x : Int} (ha : 0 ≤ a ∧ a < n) (hx : 0 ≤ x ∧ x < n) : (a ≤ x ∧ off n a x = x - a) ∨ (x < a ∧ off n a x = x - a + n) := by
  rw [off_eq ha hx]
  by_cases c : a ≤ x
  · rw [if_pos c]; exact .inl ⟨c, rfl⟩
  · rw [if_neg c]; exact .inr ⟨by omega, rfl⟩
theorem Cutting.g_nox (C : Cutting n cut t) {a : Int} (ha : 0 ≤ a ∧ a < n) {x y z w : Int} (h1 : tieOf x y ∈ tiesL n cut) (h2 : tieOf z w ∈ tiesL n cut) (k1 : off n a x < off n a z) (k2 : off n a z < off n a y) (k3 : off n a y < off n a w) : False := by
  obtain ⟨i, k, hq, ik, kn, e⟩ := C.tie_ex h1
  obtain ⟨j, l, hr, jl, ln, d⟩ := C.tie_ex h2
  have n1 := noncross hq hr
  have n2 := noncross hr hq
  simp only at n1 n2
  have ox := off_or ha (show 0 ≤ x ∧ x < n by omega)
  have oy := off_or ha (show 0 ≤ y ∧ y < n by omega)
  have oz := off_or ha (show 0 ≤ z ∧ z < n by omega)
  have ow := off_or ha (show 0 ≤ w ∧ w < n by omega)
  omega
theorem Cutting.g_in (C : Cutting n cut t) {a : Int} (ha : 0 ≤ a ∧ a < n) {x y : Int} (h : tieOf x y ∈ tiesL n cut) (k : off n a x + 2 ≤ off n a y) : ∃ z, off n a x < off n a z ∧ off n a z < off n a y ∧ tieOf x z ∈ tiesL n cut ∧ tieOf z y ∈ tiesL n cut := by
  obtain ⟨i, l, hq, ik, kn, e⟩ := C.tie_ex h
  have w := C.w
  have ox := off_or ha (show 0 ≤ x ∧ x < n by omega)
  have oy := off_or ha (show 0 ≤ y ∧ y < n by omega)
  rcases e with e | e
  · have inn : (i, l) ∈ t.inn 0 := by
      rcases all_iff.mp hq with z | z
      · exact z
      · have := z.2.1
        simp only at this
        exfalso
        omega
    obtain ⟨m, hm, m1, m2, _⟩ := apex_in inn
    have om := off_or ha (show 0 ≤ (m : Int) ∧ (m : Int) < n by omega)
    exact ⟨m, by omega, by omega, by rw [e.1]; exact (C.tie_of m1).1, by rw [e.2]; exact (C.tie_of m2).1⟩
  · have nr : ¬ (i = 0 ∧ l = 0 + t.w) := fun z => by omega
    obtain ⟨m, hm, _⟩ := apex_out hq nr
    have mb := hm.bd
    have om := off_or ha (show 0 ≤ (m : Int) ∧ (m : Int) < n by omega)
    rcases hm with hm | hm
    · exact ⟨m, by omega, by omega, by rw [e.1]; exact (C.tie_of hm.2.2).2, by rw [e.2]; exact (C.tie_of hm.2.1).1⟩
    · exact ⟨m, by omega, by omega, by rw [e.1]; exact (C.tie_of hm.2.2).1, by rw [e.2]; exact (C.tie_of hm.2.1).2⟩
theorem Cutting.g_next (C : Cutting n cut t) {a : Int} (ha : 0 ≤ a ∧ a < n) {u : Int} (h : tieOf a u ∈ tiesL n cut) (k : off n a u + 2 ≤ n) : ∃ z, off n a u < off n a z ∧ tieOf a z ∈ tiesL n cut ∧ tieOf u z ∈ tiesL n cut := by
  obtain ⟨i, l, hq, ik, kn, e⟩ := C.tie_ex h
  have w := C.w
  have ou := off_or ha (show 0 ≤ u ∧ u < n by omega)
  rcases e with e | e
  · have nr : ¬ (i = 0 ∧ l = 0 + t.w) := fun z => by omega
    obtain ⟨m, hm, _⟩ := apex_out hq nr
    have mb := hm.bd
    have om := off_or ha (show 0 ≤ (m : Int) ∧ (m : Int) < n by omega)
    rcases hm with hm | hm
    · exact ⟨m, by omega, by rw [e.1]; exact (C.tie_of hm.2.1).2, by rw [e.2]; exact (C.tie_of hm.2.2).2⟩
    · exact ⟨m, by omega, by rw [e.1]; exact (C.tie_of hm.2.1).1, by rw [e.2]; exact (C.tie_of hm.2.2).1⟩
  · have inn : (i, l) ∈ t.inn 0 := by
      rcases all_iff.mp hq with z | z
      · exact z
      · have := z.2.1
        simp only at this
        exfalso
        omega
    obtain ⟨m, hm, m1, m2, _⟩ := apex_in inn
    have om := off_or ha (show 0 ≤ (m : Int) ∧ (m : Int) < n by omega)
    exact ⟨m, by omega, by rw [e.1]; exact (C.tie_of m2).2, by rw [e.2]; exact (C.tie_of m1).1⟩
theorem Cutting.g_out (C : Cutting n cut t) {a b : Int} (ha : 0 ≤ a ∧ a < n) (hb : 0 ≤ b ∧ b < n) (ne : tieOf a b ∉ tiesL n cut) : ∀ (k : Nat) (u : Int), tieOf a u ∈ tiesL n cut → 0 < off n a u → off n a u < off n a b → off n a b - off n a u ≤ k → ∃ u w, 0 < off n a u ∧ off n a u < off n a b ∧ off n a b < off n a w ∧ tieOf a u ∈ tiesL n cut ∧ tieOf a w ∈ tiesL n cut ∧ tieOf u w ∈ tiesL n cut
  | 0, u, h, h0, h1, hk => absurd hk (by omega)
  | k + 1, u, h, h0, h1, hk => by
    have bn : off n a b < n := Int.emod_lt_of_pos _ (by omega)
    obtain ⟨z, z1, z2, z3⟩ := C.g_next ha h (by omega)
    rcases Int.lt_trichotomy (off n a z) (off n a b) with c | c | c
    · exact C.g_out ha hb ne k z z2 (by omega) c (by omega)
    · exfalso
      have hz : 0 ≤ z ∧ z < n := by
        obtain ⟨i, l, hq, ik, kn, e⟩ := C.tie_ex z2
        omega
      have oz := off_or ha hz
      have ob := off_or ha hb
      have : z = b := by omega
      exact ne (by rw [← this]; exact z2)
    · exact ⟨u, z, h0, h1, c, h, z2, z3⟩
theorem tie_irr {n : Nat} {cut : List IP} {t : Tr} (C : Cutting n cut t) (x : Int) : tieOf x x ∉ tiesL n cut := fun h => by
  obtain ⟨i, l, hq, ik, kn, e⟩ := C.tie_ex h
  omega
/-- the ring of a cutting, seen from a -/
def geo (C : Cutting n cut t) {a b : Int} (ha : 0 ≤ a ∧ a < n) (hb : 0 ≤ b ∧ b < n) (ne : a ≠ b) : Geo where
  n := n
  ps := posts n
  T := fun x y => decide (tieOf x y ∈ tiesL n cut)
  o := off n a
  a := a
  b := b
  nd := posts_nodup n
  sym := fun x y => by rw [tie_comm]
  rng := fun x y h => by
    obtain ⟨i, l, hq, ik, kn, e⟩ := C.tie_ex (of_decide_eq_true h)
    exact mem_posts.mpr (by omega)
  obd := fun x _ => ⟨Int.emod_nonneg _ (by omega), Int.emod_lt_of_pos _ (by omega)⟩
  inj := fun x y hx hy e => by
    have hx := mem_posts.mp hx
    have hy := mem_posts.mp hy
    have ox := off_or ha hx
    have oy := off_or ha hy
    omega
  pa := mem_posts.mpr ha
  pb := mem_posts.mpr hb
  oa := by have := off_or ha ha; omega
  ob := by have := off_or ha hb; omega
  irr := fun x => decide_eq_false (tie_irr C x)
  nox := fun x y z w h1 h2 => C.g_nox ha (of_decide_eq_true h1) (of_decide_eq_true h2)
  inn := fun x y h k => by
    obtain ⟨z, z1, z2, z3, z4⟩ := C.g_in ha (of_decide_eq_true h) k
    exact ⟨z, z1, z2, decide_eq_true z3, decide_eq_true z4⟩
  out := fun h => by
    have h := of_decide_eq_false h
    have w := C.w
    have n3 := C.n3
    have start : ∃ u, tieOf a u ∈ tiesL n cut ∧ off n a u = 1 := by
      by_cases c : a + 1 < n
      · have m : (a.toNat, a.toNat + 1) ∈ t.all 0 := all_iff.mpr (.inr ⟨Nat.zero_le _, rfl, by show a.toNat + 1 ≤ _; omega⟩)
        refine ⟨a + 1, ?_, ?_⟩
        · have := (C.tie_of m).1
          rw [show ((a.toNat : Nat) : Int) = a by omega, show ((a.toNat + 1 : Nat) : Int) = a + 1 by omega] at this
          exact this
        · have := off_or ha (show 0 ≤ a + 1 ∧ a + 1 < n by omega); omega
      · have m : (0, 0 + t.w) ∈ t.all 0 := root_mem
        refine ⟨0, ?_, ?_⟩
        · have := (C.tie_of m).2
          rw [show ((0 + t.w : Nat) : Int) = a by omega] at this
          exact this
        · have := off_or ha (show (0 : Int) ≤ 0 ∧ (0 : Int) < n by omega); omega
    obtain ⟨u, hu, u1⟩ := start
    have ob := off_or ha hb
    have ob0 : 0 < off n a b := by omega
    have hlt : off n a u < off n a b := by
      rcases Int.lt_or_le 1 (off n a b) with c | c
      · omega
      · exfalso
        have hz : 0 ≤ u ∧ u < n := by
          obtain ⟨i, l, hq, ik, kn, e⟩ := C.tie_ex hu
          omega
        have ou := off_or ha hz
        have : u = b := by omega
        exact h (by rw [← this]; exact hu)
    obtain ⟨u', w', q1, q2, q3, q4, q5, q6⟩ := C.g_out ha hb h (off n a b - off n a u).toNat u hu (by omega) hlt (by omega)
    exact ⟨u', w', q1, q2, q3, decide_eq_true q4, decide_eq_true q5, decide_eq_true q6⟩
theorem geo_up (C : Cutting n cut t) {a b : Int} (ha : 0 ≤ a ∧ a < n) (hb : 0 ≤ b ∧ b < n) (ne : a ≠ b) {x y : Int} : (geo C ha hb ne).Up x y ↔ tieOf x y ∈ tiesL n cut ∧ 0 < off n a x ∧ off n a x < off n a b ∧ off n a b < off n a y := by
  show (decide _ = true ∧ _) ↔ _
  rw [decide_eq_true_iff]
  exact Iff.rfl
end
end Pm
namespace Pm
open PySem PySem.Spec PyProof.Rows L2
def rMaxDef (K : PySem.W.Frag) : List V → List V → Hp → VK → Prop := fun vs zs H Q => ∃ (a : Addr) (ns : List Int) (d : Int), vs = [.ref a] ∧ zs = [.int d] ∧ SqL K H a (ns.map V.int) ∧ (ns = [] → Q (.int d) H) ∧ ∀ m, m ∈ ns → (∀ y, y ∈ ns → y ≤ m) → Q (.int m) H
theorem reads_ints {h : Heap} : ∀ {vs : List Value} {ns : List Int}, IntsAre vs ns → ∃ as, ReadsAll h vs (ns.map PyData.int) as
  | _, _, .nil => ⟨[], .nil⟩
  | _, _, .cons n t h => let ⟨as, r⟩ := reads_ints h; ⟨[] ++ as, .cons (.int n t) r⟩
theorem depth_ints : ∀ ns : List Int, PyData.depthAll (ns.map PyData.int) = 0
  | [] => by simp only [List.map_nil, PyData.depthAll]
  | n :: ns => by simp only [List.map_cons, PyData.depthAll, PyData.depth, depth_ints ns]; rfl
theorem foldl_max : ∀ (ns : List Int) (n : Int), (ns.foldl max n = n ∨ ns.foldl max n ∈ ns) ∧ n ≤ ns.foldl max n ∧ ∀ y ∈ ns, y ≤ ns.foldl max n
  | [], n => ⟨.inl rfl, Int.le_refl _, fun y h => absurd h List.not_mem_nil⟩
  | m :: ns, n => by
    obtain ⟨h1, h2, h3⟩ := foldl_max ns (max n m)
    rw [List.foldl_cons]
    refine ⟨?_, by omega, fun y hy => ?_⟩
    · rcases h1 with h | h
      · rw [h]
        rcases Int.le_total n m with c | c
        · rw [Int.max_eq_right c]; exact .inr List.mem_cons_self
        · rw [Int.max_eq_left c]; exact .inl rfl
      · exact .inr (List.mem_cons_of_mem _ h)
    · rcases List.mem_cons.mp hy with rfl | hy
      · omega
      · exact h3 y hy
theorem cr_maxDef {X : Cx} {K : PySem.W.Frag} (hc : X.calm = true) (hu : X.A.units + 2 < cLine) (e : X.K = K := by rfl) : CallRK X (.builtin "max") [Str.ofString "default"] (rMaxDef K) := by
  subst e
  intro pins s σ H vs zs us ws Q I r rz h
  obtain ⟨a, ns, d, rfl, rfl, hs, q0, q⟩ := h
  obtain ⟨its, rv, hl, hz⟩ := I.list hs
  rw [Vals.ref1 r]
  obtain ⟨w1, rfl, e1⟩ := vals1 rz
  obtain ⟨t0, rfl⟩ := e1
  obtain ⟨as, hr⟩ := reads_ints (h := s.heap) rv.ints
  refine PySem.W.max_list_default (I.ok.hd hc) hl.isList hr (PySem.W.alikeAll_datum ns) (by rw [depth_ints]; omega) (fun e h' tk hk => ⟨.int d, H, I.kept hk, ⟨t0, rfl⟩, q0 (List.map_eq_nil_iff.mp e)⟩) (fun y ys i v h' tk bs e hi r' hk => ?_)
  cases ns with
  | nil => cases e
  | cons n ns =>
    rw [List.map_cons] at e
    injection e with e1 e2
    subst e1
    subst e2
    rw [PySem.W.maxD_ints] at r'
    cases r' with
    | int _ t =>
      obtain ⟨h1, h2, h3⟩ := foldl_max ns n
      refine ⟨.int _, H, I.kept hk, ⟨t, rfl⟩, q _ ?_ ?_⟩
      · rcases h1 with h | h
        · rw [h]; exact List.mem_cons_self
        · exact List.mem_cons_of_mem _ h
      · intro y hy
        rcases List.mem_cons.mp hy with rfl | hy
        · exact h2
        · exact h3 y hy
theorem w_maxDef {K : PySem.W.Frag} {H : Hp} {Q : VK} {a : Addr} {ns : List Int} {d : Int} (hs : SqL K H a (ns.map V.int)) (q0 : ns = [] → Q (.int d) H) (q : ∀ m, m ∈ ns → (∀ y, y ∈ ns → y ≤ m) → Q (.int m) H) : rMaxDef K [.ref a] [.int d] H Q := ⟨a, ns, d, rfl, rfl, hs, q0, q⟩
end Pm
namespace Pm
open PySem PySem.Spec PyProof.Rows L2
def rNeNil (K : PySem.W.Frag) : R2 := fun x y H Q => ∃ (a b : Addr) (xs : List V), x = .ref a ∧ y = .ref b ∧ SqL K H a xs ∧ SqL K H b [] ∧ Q (.bl (!xs.isEmpty)) H
theorem op_neNil {X : Cx} {K : PySem.W.Frag} (hu : X.A.units + 65 < cLine) (e : X.K = K := by rfl) : OpR X (compareOp .NotEq) (rNeNil K) := by
  subst e
  intro pins s σ H x y v u Q I rx ry h
  obtain ⟨a, b, xs, rfl, rfl, ha, hb, q⟩ := h
  cases rx
  cases ry
  obtain ⟨ia, ra, ⟨oa, na, la1, la2, _, la3⟩, _⟩ := I.list ha
  obtain ⟨ib, rb, ⟨ob, nb, lb1, lb2, _, lb3⟩, _⟩ := I.list hb
  have la : s.heap.IsList a ia.toArray := ⟨oa, la1, la2, na, la3⟩
  have lb : s.heap.IsList b ib.toArray := ⟨ob, lb1, lb2, nb, lb3⟩
  cases rb
  cases xs with
  | nil =>
    cases ra
    exact SeqAt.RcNeAt.lists la lb rfl (by omega) (e := fun _ => true) (fun j h1 _ => absurd h1 (by simp)) _ _ _ _ ⟨.bl false, H, I, rfl, q⟩
  | cons x0 xs =>
    cases ra
    exact SeqAt.RcNeAt.lists_lengths la lb (by simp) (by omega) _ _ _ _ ⟨.bl true, H, I, rfl, q⟩
end Pm
namespace Pm
open PySem PySem.Spec PyProof.Rows L2
theorem w_maxDef2 {K : PySem.W.Frag} {H : Hp} {Q : VK} {a : Addr} {ns : List Int} {d : Int} (hs : SqL K H a (ns.map V.int)) (q : ∀ m, (ns = [] ∧ m = d) ∨ (m ∈ ns ∧ ∀ y ∈ ns, y ≤ m) → Q (.int m) H) : rMaxDef K [.ref a] [.int d] H Q :=
  w_maxDef hs (fun e => q _ (.inl ⟨e, rfl⟩)) fun m h1 h2 => q m (.inr ⟨h1, h2⟩)
theorem atI_lastI {ns : List Int} {x : Int} (h : ns.getLast? = some x) : atI (ns.map V.int) (-1) = some (.int x) := by
  have l0 : 0 < ns.length := by
    cases ns with
    | nil => cases h
    | cons _ _ => exact Nat.succ_pos _
  unfold atI ixN
  rw [if_neg (by omega), if_pos (by rw [List.length_map]; omega)]
  show (ns.map V.int)[(-1 + ((ns.map V.int).length : Int)).toNat]? = _
  rw [show (-1 + ((ns.map V.int).length : Int)).toNat = ns.length - 1 by rw [List.length_map]; omega, List.getElem?_map, ← List.getLast?_eq_getElem?, h]
  rfl
end Pm
theorem Pm.w_ckwD {r : List L2.V → List L2.V → L2.Hp → L2.VK → Prop} {t tk : L2.TA} {σ : L2.St} {H : L2.Hp} {Q : L2.VK} (h : t σ H fun vs H1 => tk σ H1 fun zs H2 => r vs zs H2 Q) : L2.tCKw r t tk σ H Q := h
namespace Pm
open PySem PySem.Spec PyProof.Rows L2
def nearI (n : Nat) (a : Int) (p : IP) : Int := min ((p.1 - a) % n) ((p.2 - a) % n) - max ((p.1 - a) % n) ((p.2 - a) % n)
/-- the places of the ropes that cross -/
structure Plc (n : Nat) (cut : List IP) (a b : Int) (ks : List ND) (L : ND → Int) : Prop where
  mem : ∀ p : IP, encM p ∈ ks ↔ p ∈ cut ∧ crossP p.1 p.2 a b
  all : ∀ d ∈ ks, ∃ p, d = encM p
  ord : ∀ p q, encM p ∈ ks → encM q ∈ ks → (L (encM p) ≤ L (encM q) ↔ nearI n a p ≤ nearI n a q)
  pos : ∀ p, encM p ∈ ks → 0 ≤ L (encM p)
section
variable {n : Nat} {cut : List IP} {t : Tr}
theorem geo_near (C : Cutting n cut t) {a b : Int} (ha : 0 ≤ a ∧ a < n) (hb : 0 ≤ b ∧ b < n) (ne : a ≠ b) (x y : Int) : (geo C ha hb ne).near x y = nearI n a (tieOf x y) := by
  show min (off n a x) (off n a y) - max (off n a x) (off n a y) = _
  unfold nearI tieOf
  rcases Int.le_total x y with c | c
  · rw [Int.min_eq_left c, Int.max_eq_right c]; rfl
  · rw [Int.min_eq_right c, Int.max_eq_left c, Int.min_comm, Int.max_comm]; rfl
theorem geo_cr (C : Cutting n cut t) {a b : Int} (ha : 0 ≤ a ∧ a < n) (hb : 0 ≤ b ∧ b < n) (ne : a ≠ b) (x y : Int) : (geo C ha hb ne).cr x y = true ↔ tieOf x y ∈ cut ∧ crossP (tieOf x y).1 (tieOf x y).2 a b := by
  rw [Geo.cr_iff, geo_up, geo_up, tie_comm y x]
  have w := C.w
  have n3 := C.n3
  have oa := off_or ha ha
  have ob := off_or ha hb
  constructor
  · intro h
    have ht : tieOf x y ∈ tiesL n cut := by rcases h with h | h <;> exact h.1
    obtain ⟨i, k, hq, ik, kn, e⟩ := C.tie_ex ht
    have ox := off_or ha (show 0 ≤ x ∧ x < n by omega)
    have oy := off_or ha (show 0 ≤ y ∧ y < n by omega)
    have et : tieOf x y = ((i : Int), (k : Int)) := by
      rcases e with e | e
      · rw [e.1, e.2]; exact tie_lt (by omega)
      · rw [e.1, e.2]; exact tie_gt (by omega)
    have cr : crossP (i : Int) (k : Int) a b := by
      unfold crossP
      rw [Int.min_eq_left (by omega), Int.max_eq_right (by omega)]
      omega
    rw [et] at ht ⊢
    refine ⟨?_, cr⟩
    rcases mem_ties.mp ht with m | m
    · exfalso
      unfold crossP at cr
      rw [Int.min_eq_left (by omega), Int.max_eq_right (by omega)] at cr
      rcases (mem_sides0 (by omega)).mp m with ⟨j, hj, ej⟩ | ej
      · have e1 := congrArg Prod.fst ej
        have e2 := congrArg Prod.snd ej
        simp only [castP] at e1 e2
        omega
      · have e1 := congrArg Prod.fst ej
        have e2 := congrArg Prod.snd ej
        simp only [castP] at e1 e2
        omega
    · exact m
  · rintro ⟨hc, cr⟩
    have ht : tieOf x y ∈ tiesL n cut := mem_ties.mpr (.inr hc)
    obtain ⟨i, k, hq, ik, kn, e⟩ := C.tie_ex ht
    have ox := off_or ha (show 0 ≤ x ∧ x < n by omega)
    have oy := off_or ha (show 0 ≤ y ∧ y < n by omega)
    have et : tieOf x y = ((i : Int), (k : Int)) := by
      rcases e with e | e
      · rw [e.1, e.2]; exact tie_lt (by omega)
      · rw [e.1, e.2]; exact tie_gt (by omega)
    rw [et] at cr
    unfold crossP at cr
    rw [Int.min_eq_left (by omega), Int.max_eq_right (by omega)] at cr
    have : (0 < off n a x ∧ off n a x < off n a b ∧ off n a b < off n a y) ∨ (0 < off n a y ∧ off n a y < off n a b ∧ off n a b < off n a x) := by omega
    rcases this with h | h
    · exact .inl ⟨ht, h⟩
    · exact .inr ⟨ht, h⟩
theorem tie_self {p : IP} (h : p.1 < p.2) : tieOf p.1 p.2 = p := tie_lt h
theorem Cutting.cut_lt (C : Cutting n cut t) {p : IP} (h : p ∈ cut) : p.1 < p.2 ∧ 0 ≤ p.1 ∧ p.2 < n := by
  obtain ⟨q, hq, rfl⟩ := C.mem.mp h
  have b := Tr.bd (Tr.inn_all (ropes_bd hq).1)
  have w := C.w
  simp only [castP]
  omega
/-- ropes that cross lie apart -/
theorem Cutting.near_inj (C : Cutting n cut t) {a b : Int} (ha : 0 ≤ a ∧ a < n) (hb : 0 ≤ b ∧ b < n) (ne : a ≠ b) {p q : IP} (hp : p ∈ cut) (hq : q ∈ cut) (cp : crossP p.1 p.2 a b) (cq : crossP q.1 q.2 a b) (e : nearI n a p = nearI n a q) : p = q := by
  have ep := tie_self (C.cut_lt hp).1
  have eq := tie_self (C.cut_lt hq).1
  have np := geo_near C ha hb ne p.1 p.2
  have nq := geo_near C ha hb ne q.1 q.2
  rw [ep] at np
  rw [eq] at nq
  have up := (Geo.cr_iff _).mp ((geo_cr C ha hb ne p.1 p.2).mpr (by rw [ep]; exact ⟨hp, cp⟩))
  have uq := (Geo.cr_iff _).mp ((geo_cr C ha hb ne q.1 q.2).mpr (by rw [eq]; exact ⟨hq, cq⟩))
  have lp := (C.cut_lt hp).1
  have lq := (C.cut_lt hq).1
  rcases up with up | up <;> rcases uq with uq | uq
  · have := up.eq uq (by rw [← up.near, ← uq.near]; omega)
    exact Prod.ext this.1 this.2
  · have := up.eq uq (by rw [← up.near, ← uq.near, Geo.near_comm _ q.2]; omega)
    omega
  · have := up.eq uq (by rw [← up.near, ← uq.near, Geo.near_comm _ p.2]; omega)
    omega
  · have := up.eq uq (by rw [← up.near, ← uq.near, Geo.near_comm _ p.2, Geo.near_comm _ q.2]; omega)
    exact Prod.ext this.2 this.1
def nbrL (T : List IP) (x : Int) : List Int := T.flatMap fun p => (if p.1 = x then [p.2] else []) ++ (if p.2 = x then [p.1] else [])
theorem nbrL_snoc (T : List IP) (p : IP) (x : Int) : nbrL (T ++ [p]) x = nbrL T x ++ ((if p.1 = x then [p.2] else []) ++ (if p.2 = x then [p.1] else [])) := by
  unfold nbrL
  rw [List.flatMap_append, List.flatMap_cons, List.flatMap_nil, List.append_nil]
theorem mem_nbr {T : List IP} {x y : Int} : y ∈ nbrL T x ↔ (x, y) ∈ T ∨ (y, x) ∈ T := by
  unfold nbrL
  rw [List.mem_flatMap]
  constructor
  · rintro ⟨p, hp, h⟩
    rcases List.mem_append.mp h with h | h
    · by_cases c : p.1 = x
      · rw [if_pos c] at h
        rw [List.mem_singleton.mp h, ← c]; exact .inl hp
      · rw [if_neg c] at h; cases h
    · by_cases c : p.2 = x
      · rw [if_pos c] at h
        rw [List.mem_singleton.mp h, ← c]; exact .inr hp
      · rw [if_neg c] at h; cases h
  · rintro (h | h)
    · exact ⟨_, h, List.mem_append.mpr (.inl (by rw [if_pos rfl]; exact List.mem_singleton.mpr rfl))⟩
    · exact ⟨_, h, List.mem_append.mpr (.inr (by rw [if_pos rfl]; exact List.mem_singleton.mpr rfl))⟩
theorem nbr_nodup {T : List IP} (nd : T.Nodup) (lt : ∀ p ∈ T, p.1 < p.2) (x : Int) : (nbrL T x).Nodup := by
  unfold nbrL
  show List.Pairwise (· ≠ ·) _
  rw [List.pairwise_flatMap]
  refine ⟨fun p hp => ?_, nd.imp_of_mem fun {p q} hp hq ne y hy z hz e => ?_⟩
  · have := lt p hp
    by_cases c : p.1 = x
    · rw [if_pos c, if_neg (by omega)]; exact List.pairwise_singleton _ _
    · rw [if_neg c, List.nil_append]
      by_cases d : p.2 = x
      · rw [if_pos d]; exact List.pairwise_singleton _ _
      · rw [if_neg d]; exact List.Pairwise.nil
  · have l1 := lt p hp
    have l2 := lt q hq
    have key : ∀ (p : IP) (y : Int), y ∈ ((if p.1 = x then [p.2] else []) ++ (if p.2 = x then [p.1] else [])) → (p.1 = x ∧ p.2 = y) ∨ (p.2 = x ∧ p.1 = y) := fun p y h => by
      rcases List.mem_append.mp h with h | h
      · by_cases c : p.1 = x
        · rw [if_pos c] at h; exact .inl ⟨c, (List.mem_singleton.mp h).symm⟩
        · rw [if_neg c] at h; cases h
      · by_cases c : p.2 = x
        · rw [if_pos c] at h; exact .inr ⟨c, (List.mem_singleton.mp h).symm⟩
        · rw [if_neg c] at h; cases h
    have k1 := key p y hy
    have k2 := key q z hz
    refine ne (Prod.ext ?_ ?_) <;> omega
theorem Cutting.tie_lt2 (C : Cutting n cut t) {p : IP} (h : p ∈ tiesL n cut) : p.1 < p.2 ∧ 0 ≤ p.1 ∧ p.2 < n := by
  obtain ⟨q, hq, rfl⟩ := C.ties.mp h
  have b := Tr.bd hq
  have w := C.w
  simp only [castP]
  omega
theorem Cutting.nbr_iff (C : Cutting n cut t) {x y : Int} : y ∈ nbrL (tiesL n cut) x ↔ tieOf x y ∈ tiesL n cut := by
  rw [mem_nbr]
  constructor
  · rintro (h | h)
    · rw [tie_lt (C.tie_lt2 h).1]; exact h
    · rw [tie_gt (C.tie_lt2 h).1]; exact h
  · intro h
    obtain ⟨i, k, hq, ik, kn, e⟩ := C.tie_ex h
    rcases e with e | e
    · rw [e.1, e.2, tie_lt (by omega)] at h
      rw [e.1, e.2]; exact .inl h
    · rw [e.1, e.2, tie_gt (by omega)] at h
      rw [e.1, e.2]; exact .inr h
theorem Cutting.nbr_perm (C : Cutting n cut t) (x : Int) (f : Int → Bool) (hf : ∀ y, f y = true → tieOf x y ∈ tiesL n cut) : ((nbrL (tiesL n cut) x).filter f).Perm ((posts n).filter f) := by
  refine (List.perm_ext_iff_of_nodup (List.Pairwise.filter _ (nbr_nodup C.ties_nodup (fun p hp => (C.tie_lt2 hp).1) x)) (List.Pairwise.filter _ (posts_nodup n))).mpr fun y => ?_
  rw [List.mem_filter, List.mem_filter, C.nbr_iff, mem_posts]
  constructor
  · rintro ⟨h1, h2⟩
    obtain ⟨i, k, hq, ik, kn, e⟩ := C.tie_ex h1
    exact ⟨by omega, h2⟩
  · rintro ⟨_, h2⟩
    exact ⟨hf y h2, h2⟩
def usedL (p : List Int) : List IP := (Geo.stepsOf p).map fun e => tieOf e.1 e.2
theorem tie_same {x y u w : Int} : tieOf x y = tieOf u w ↔ Geo.SameT (x, y) (u, w) := by
  unfold tieOf Geo.SameT
  constructor
  · intro h
    have h1 := congrArg Prod.fst h
    have h2 := congrArg Prod.snd h
    simp only at h1 h2 ⊢
    omega
  · intro h
    simp only at h
    refine Prod.ext ?_ ?_ <;> simp only <;> omega
theorem mem_used {p : List Int} {q : IP} : q ∈ usedL p ↔ ∃ e ∈ Geo.stepsOf p.reverse, tieOf e.1 e.2 = q := by
  unfold usedL
  rw [List.mem_map, Geo.steps_rev]
  constructor
  · rintro ⟨e, he, h⟩
    exact ⟨(e.2, e.1), List.mem_reverse.mpr (List.mem_map.mpr ⟨e, he, rfl⟩), by rw [tie_comm]; exact h⟩
  · rintro ⟨e, he, h⟩
    obtain ⟨e', he', rfl⟩ := List.mem_map.mp (List.mem_reverse.mp he)
    exact ⟨e', he', by rw [tie_comm]; exact h⟩
theorem used_iff {p : List Int} {x y : Int} : tieOf x y ∈ usedL p ↔ Geo.uses p.reverse x y = true := by
  rw [mem_used, Geo.uses_iff]
  constructor
  · rintro ⟨e, he, h⟩
    exact ⟨e, he, tie_same.mp h⟩
  · rintro ⟨e, he, h⟩
    exact ⟨e, he, tie_same.mpr h⟩
/-- the check of a step as the program does it -/
theorem ok_prog (C : Cutting n cut t) {a b : Int} (ha : 0 ≤ a ∧ a < n) (hb : 0 ≤ b ∧ b < n) (ne : a ≠ b) {ks : List ND} {L : ND → Int} (P : Plc n cut a b ks L) {p : List Int} {x y : Int} (hx : p.getLast? = some x) (hy : tieOf x y ∈ tiesL n cut)
    {last : Int} (h0 : ∀ q ∈ usedL p, encM q ∈ ks → L (encM q) ≤ last) (h1 : last = -1 ∨ ∃ q ∈ usedL p, encM q ∈ ks ∧ L (encM q) = last) :
    (geo C ha hb ne).ok p.reverse y = true ↔ ¬ (tieOf x y ∈ usedL p ∨ (p.length % 2 = 0 ∧ encM (tieOf x y) ∉ ks) ∨ (encM (tieOf x y) ∈ ks ∧ L (encM (tieOf x y)) ≤ last)) := by
  have hc : ∀ x y, (geo C ha hb ne).cr x y = true ↔ encM (tieOf x y) ∈ ks := fun x y => by rw [geo_cr, P.mem]
  have hd : p.reverse.head? = some x := by rw [List.head?_reverse]; exact hx
  rw [Geo.ok_iff hd, used_iff, hc, List.length_reverse, Geo.below_iff]
  have be : encM (tieOf x y) ∈ ks → ((∀ e ∈ Geo.stepsOf p.reverse, (geo C ha hb ne).cr e.1 e.2 = true → (geo C ha hb ne).near e.1 e.2 < (geo C ha hb ne).near x y) ↔ ¬ L (encM (tieOf x y)) ≤ last) := fun k => by
    constructor
    · intro h z
      rcases h1 with h1 | ⟨q, hq, kq, e⟩
      · have := P.pos _ k; omega
      · obtain ⟨d, hd, rfl⟩ := mem_used.mp hq
        have := h d hd ((hc _ _).mpr kq)
        rw [geo_near, geo_near] at this
        have := (P.ord _ _ k kq).mp (by omega)
        omega
    · intro h e he c
      have kq := (hc _ _).mp c
      have := h0 _ (mem_used.mpr ⟨e, he, rfl⟩) kq
      rw [geo_near, geo_near]
      have : ¬ (nearI n a (tieOf x y) ≤ nearI n a (tieOf e.1 e.2)) := fun z => by
        have := (P.ord _ _ k kq).mpr z
        omega
      omega
  constructor
  · rintro ⟨_, k2, k3, k4⟩ z
    rcases z with z | z | z
    · rw [z] at k2; exact Bool.noConfusion k2
    · rcases k3 with k3 | k3
      · omega
      · exact z.2 k3
    · exact (be z.1).mp (k4 z.1) z.2
  · intro z
    have zn := not_or.mp z
    have zn2 := not_or.mp zn.2
    refine ⟨decide_eq_true hy, by simpa using zn.1, ?_, fun k => (be k).mpr fun l => zn2.2 ⟨k, l⟩⟩
    by_cases c : p.length % 2 = 1
    · exact .inl c
    · refine .inr ?_
      by_cases k : encM (tieOf x y) ∈ ks
      · exact k
      · exact absurd ⟨by omega, k⟩ zn2.1
end
end Pm
namespace Pm
namespace Geo
variable (G : Geo) (N : Nat)
def lv (p : List Int) : List (List Int) := G.leaves (N + 1 - p.length) p
def ndn (p : List Int) : Nat := nodes G (N + 1 - p.length) p
def Gd (p : List Int) : Prop := (∃ y lo hi r, EvenS G p y lo hi r ∧ 2 * r.length + 1 + p.length ≤ N + 1) ∨ (∃ x lo hi r, OddS G p x lo hi r ∧ 2 * r.length + 2 + p.length ≤ N + 1)
variable {G N}
theorem Gd.lt {p : List Int} (h : Gd G N p) : p.length ≤ N ∧ 0 < p.length ∧ ∃ x, p.head? = some x ∧ x ∈ G.ps := by
  rcases h with ⟨y, lo, hi, r, S, l⟩ | ⟨x, lo, hi, r, S, l⟩
  · refine ⟨by omega, ?_, y, S.hd, S.py⟩
    cases p with
    | nil => have := S.hd; cases this
    | cons _ _ => exact Nat.succ_pos _
  · refine ⟨by omega, ?_, x, S.hd, ?_⟩
    · cases p with
      | nil => have := S.hd; cases this
      | cons _ _ => exact Nat.succ_pos _
    · rcases S.kind with ⟨_, e, _⟩ | ⟨w, u, _⟩ | ⟨v, u, _⟩
      · rw [e]; exact G.pa
      · exact u.p.1
      · exact u.p.2
theorem Gd.kid {p : List Int} (h : Gd G N p) {y : Int} (k : G.ok p y = true) : Gd G N (y :: p) := by
  rcases h with ⟨y0, lo, hi, r, S, l⟩ | ⟨x, lo, hi, r, S, l⟩
  · obtain ⟨s', t', _, e, S2, l2, _⟩ := S.next (S.ok_iff.mp k)
    exact .inr ⟨_, _, _, _, S2, by rw [List.length_cons]; omega⟩
  · rcases S.ok_iff.mp k with c | c
    · exact .inl ⟨_, _, _, _, S.plain c, by rw [List.length_cons]; omega⟩
    · obtain ⟨s', t', m, e, S2, l2⟩ := S.cross c
      exact .inl ⟨_, _, _, _, S2, by rw [List.length_cons]; omega⟩
theorem fuel_succ {p : List Int} (h : Gd G N p) : N + 1 - p.length = (N + 1 - (p.length + 1)) + 1 := by
  have := h.lt.1
  omega
theorem lv_fin {p : List Int} (h : Gd G N p) (k : G.fin p = true) : lv G N p = [p] ∧ ndn G N p = 1 := by
  unfold lv ndn
  rw [fuel_succ h]
  refine ⟨leaves_fin k, ?_⟩
  show 1 + (if G.fin p = true then 0 else _) = 1
  rw [if_pos k]
theorem lv_go {p : List Int} (h : Gd G N p) (k : G.fin p = false) : lv G N p = (G.kids p).flatMap (lv G N) ∧ ndn G N p = 1 + ((G.kids p).map (ndn G N)).sum := by
  have e : ∀ q ∈ G.kids p, q.length = p.length + 1 := fun q hq => by
    obtain ⟨y, _, rfl⟩ := List.mem_map.mp hq
    rfl
  constructor
  · unfold lv
    rw [fuel_succ h, leaves_go k]
    unfold List.flatMap
    congr 1
    exact List.map_congr_left fun q hq => by rw [e q hq]
  · unfold ndn
    rw [fuel_succ h]
    show 1 + (if G.fin p = true then 0 else _) = _
    rw [if_neg (by rw [k]; exact Bool.noConfusion)]
    congr 2
    exact List.map_congr_left fun q hq => by rw [e q hq]
theorem ndn_pos (p : List Int) : 1 ≤ ndn G N p := nodes_pos _ _
theorem len_ndn (l : List (List Int)) : l.length ≤ (l.map (ndn G N)).sum := by
  induction l with
  | nil => exact Nat.le_refl _
  | cons p l ih =>
    rw [List.length_cons, List.map_cons, List.sum_cons]
    have := ndn_pos (G := G) (N := N) p
    omega
/-- what the stack and the found ones tell together -/
structure Dfs (G : Geo) (N : Nat) (stack found : List (List Int)) : Prop where
  good : ∀ p ∈ stack, Gd G N p
  fnd : ∀ p ∈ found, p ∈ G.leaves N [G.a]
  all : (found ++ stack.flatMap (lv G N)).Perm (G.leaves N [G.a])
  few : found.length + (stack.map (ndn G N)).sum ≤ nodes G N [G.a]
theorem dfs_start {n : Nat} (hn : G.n = n) : Dfs G (2 * n) [[G.a]] [] := by
  obtain ⟨r, hs, hr⟩ := G.start
  have l := hr.len
  refine ⟨fun p hp => ?_, fun p hp => (nomatch hp), ?_, ?_⟩
  · rw [List.mem_singleton.mp hp]
    exact .inr ⟨_, _, _, _, startS hs hr, by show 2 * r.length + 2 + 1 ≤ _; omega⟩
  · rw [List.nil_append, List.flatMap_singleton]
    exact List.Perm.refl _
  · show 0 + (ndn G (2 * n) [G.a] + 0) ≤ _
    rw [Nat.zero_add, Nat.add_zero]
    exact Nat.le_refl _
theorem Dfs.fin {stack found : List (List Int)} {p : List Int} (D : Dfs G N (stack ++ [p]) found) (k : G.fin p = true) : Dfs G N stack (found ++ [p]) ∧ (stack.map (ndn G N)).sum < ((stack ++ [p]).map (ndn G N)).sum := by
  have g := D.good p (List.mem_append.mpr (.inr (List.mem_singleton.mpr rfl)))
  obtain ⟨e1, e2⟩ := lv_fin g k
  have al := D.all
  rw [List.flatMap_append, List.flatMap_singleton, e1] at al
  have al2 : ((found ++ [p]) ++ stack.flatMap (lv G N)).Perm (G.leaves N [G.a]) := by
    refine List.Perm.trans ?_ al
    rw [List.append_assoc]
    exact List.Perm.append_left _ List.perm_append_comm
  have fw := D.few
  rw [List.map_append, List.sum_append, List.map_cons, List.map_nil, List.sum_cons, List.sum_nil, e2] at fw
  refine ⟨⟨fun q hq => D.good q (List.mem_append.mpr (.inl hq)), fun q hq => al2.mem_iff.mp (List.mem_append.mpr (.inl hq)), al2, by rw [List.length_append, List.length_singleton]; omega⟩, ?_⟩
  rw [List.map_append, List.sum_append, List.map_cons, List.map_nil, List.sum_cons, List.sum_nil, e2]
  omega
theorem perm_flat {l m : List (List Int)} (h : l.Perm m) (f : List Int → List (List Int)) : (l.flatMap f).Perm (m.flatMap f) := h.flatMap_right f
theorem Dfs.go {stack found ks : List (List Int)} {p : List Int} (D : Dfs G N (stack ++ [p]) found) (k : G.fin p = false) (hk : ks.Perm (G.kids p)) : Dfs G N (stack ++ ks) found ∧ ((stack ++ ks).map (ndn G N)).sum < ((stack ++ [p]).map (ndn G N)).sum := by
  have g := D.good p (List.mem_append.mpr (.inr (List.mem_singleton.mpr rfl)))
  obtain ⟨e1, e2⟩ := lv_go g k
  have al := D.all
  rw [List.flatMap_append, List.flatMap_singleton, e1] at al
  have es : (ks.map (ndn G N)).sum = ((G.kids p).map (ndn G N)).sum := (hk.map _).sum_nat
  have fw := D.few
  rw [List.map_append, List.sum_append, List.map_cons, List.map_nil, List.sum_cons, List.sum_nil, e2] at fw
  refine ⟨⟨fun q hq => ?_, D.fnd, ?_, ?_⟩, ?_⟩
  · rcases List.mem_append.mp hq with h | h
    · exact D.good q (List.mem_append.mpr (.inl h))
    · obtain ⟨y, hy, rfl⟩ := List.mem_map.mp (hk.mem_iff.mp h)
      exact g.kid (List.mem_filter.mp hy).2
  · refine List.Perm.trans ?_ al
    rw [List.flatMap_append]
    exact List.Perm.append_left _ (List.Perm.append_left _ (perm_flat hk _))
  · rw [List.map_append, List.sum_append, es]
    omega
  · rw [List.map_append, List.sum_append, List.map_append, List.sum_append, List.map_cons, List.map_nil, List.sum_cons, List.sum_nil, e2, es]
    omega
theorem dfs_small {n : Nat} (hn : G.n = n) (h12 : n ≤ 12) (hp : G.ps.length = n) : nodes G (2 * n) [G.a] ≤ 800000 := by
  obtain ⟨r, hs, hr⟩ := G.start
  have l := hr.len
  have h := nodes_bound (startS hs hr) (2 * n)
  have h2 : 3 ^ r.length ≤ 3 ^ 10 := Nat.pow_le_pow_right (by decide) (by omega)
  have h3 : (1 + G.ps.length) * 3 ^ r.length ≤ 13 * 3 ^ 10 := Nat.mul_le_mul (by omega) h2
  have : 13 * 3 ^ 10 ≤ 800000 := by decide
  omega
theorem leaf_ne {p : List Int} (h : p ∈ G.leaves N [G.a]) : p ≠ [] := fun e => by
  have := (leaves_pth N [G.a] rfl p h).1
  rw [e] at this
  exact this
end Geo
theorem all2_snoc_inv {α β : Type} {R : α → β → Prop} : ∀ {xs : List α} {x : α} {ys : List β}, All2 R (xs ++ [x]) ys → ∃ ys' y, ys = ys' ++ [y] ∧ All2 R xs ys' ∧ R x y
  | [], x, [], h => h.elim
  | [], x, [y], h => ⟨[], y, rfl, trivial, h.1⟩
  | [], x, _ :: _ :: _, h => h.2.elim
  | a :: xs, x, [], h => h.elim
  | a :: xs, x, b :: ys, h => by
    obtain ⟨ys', y, e, h1, h2⟩ := all2_snoc_inv (xs := xs) (x := x) (ys := ys) h.2
    exact ⟨b :: ys', y, by rw [e]; rfl, ⟨h.1, h1⟩, h2⟩
theorem Cutting.cut_nodup {n : Nat} {cut : List IP} {t : Tr} (C : Cutting n cut t) : cut.Nodup := by
  rw [C.perm.nodup_iff]
  show List.Pairwise (· ≠ ·) _
  rw [List.pairwise_map]
  exact (Tr.ropes_nodup t 0).imp fun ne e => ne (castP_inj e)
end Pm
namespace Pm
namespace Geo
variable {G : Geo}
/-- the steps, the first one first -/
def fw (p : List Int) : List (Int × Int) := (stepsOf p).map fun e => (e.2, e.1)
theorem fw_len (p : List Int) : (fw p).length = p.length - 1 := by
  unfold fw
  rw [List.length_map, steps_len]
theorem fw_get : ∀ {p : List Int} {k : Nat}, k + 1 < p.length → (fw p)[k]? = some (p.getD k 0, p.getD (k + 1) 0)
  | [], k, h => absurd h (by simp)
  | [x], k, h => absurd h (by simp)
  | x :: y :: r, 0, _ => rfl
  | x :: y :: r, k + 1, h => by
    have ih := fw_get (p := y :: r) (k := k) (by simpa using h)
    exact ih
structure Fwd (G : Geo) (p : List Int) : Prop where
  len2 : 2 ≤ p.length
  even : p.length % 2 = 0
  first : p.getD 0 0 = G.a
  last : p.getLast? = some G.b
  tie : ∀ e ∈ fw p, G.T e.1 e.2 = true
  rel : ∀ (j k : Nat) e d, j < k → (fw p)[j]? = some e → (fw p)[k]? = some d → ¬ SameT e d ∧ (G.cr d.1 d.2 = true → G.cr e.1 e.2 = true → G.near e.1 e.2 < G.near d.1 d.2)
  par : ∀ (k : Nat) e, (fw p)[k]? = some e → k % 2 = 1 → G.cr e.1 e.2 = true
theorem fwd_of {p : List Int} (h : Pth G p.reverse) (k : G.fin p.reverse = true) : Fwd G p := by
  have W := pth_iff.mp h
  have kk := of_decide_eq_true k
  rw [List.length_reverse, List.head?_reverse] at kk
  have es : stepsOf p.reverse = (fw p).reverse := steps_rev p
  have l2 : 2 ≤ p.length := by
    cases p with
    | nil => have := kk.1; cases this
    | cons x r =>
      have := kk.2
      rw [List.length_cons] at this ⊢
      omega
  have hl := W.last
  rw [List.getLast?_reverse] at hl
  have hrel := W.rel
  rw [es, List.pairwise_reverse] at hrel
  refine ⟨l2, kk.2, ?_, kk.1, fun e he => W.tie e (by rw [es]; exact List.mem_reverse.mpr he), fun j i e d hj he hd => ?_, fun i e he hi => ?_⟩
  · cases p with
    | nil => cases hl
    | cons x r => cases hl; rfl
  · obtain ⟨l1, e1⟩ := List.getElem?_eq_some_iff.mp he
    obtain ⟨l3, e3⟩ := List.getElem?_eq_some_iff.mp hd
    have := List.pairwise_iff_getElem.mp hrel j i l1 l3 hj
    rw [e1, e3] at this
    exact ⟨fun s => this.1 s, this.2⟩
  · obtain ⟨l1, e1⟩ := List.getElem?_eq_some_iff.mp he
    refine W.par ((fw p).length - 1 - i) e ?_ ?_
    · rw [es, List.getElem?_reverse (by omega)]
      rw [show (fw p).length - 1 - ((fw p).length - 1 - i) = i by omega]
      exact he
    · rw [List.length_reverse]
      rw [fw_len] at l1 ⊢
      have := kk.2
      omega
end Geo
end Pm
namespace Pm
open PySem PySem.Spec PyProof.Rows L2
namespace Geo
variable {G : Geo} {U : Int → Int → Rat}
theorem St.len3 {r : List (Int × Int)} (h : G.St r) (h3 : 3 ≤ G.n) : (r.length : Int) + 3 ≤ G.n := by
  cases r with
  | nil => show (0 : Int) + 3 ≤ _; omega
  | cons q r =>
    have l := h.2.2.2.len h.1
    have u := h.1.2
    have o2 := (G.obd _ h.1.p.2).2
    rw [List.length_cons]
    omega
theorem take_rev {p : List Int} {k : Nat} (h : k + 1 < p.length) : (p.take (k + 2)).reverse = p.getD (k + 1) 0 :: (p.take (k + 1)).reverse := by
  have e : p[k + 1]? = some (p.getD (k + 1) 0) := by
    rw [List.getD_eq_getElem?_getD, List.getElem?_eq_getElem h]; rfl
  rw [take_snoc e, List.reverse_append]
  rfl
theorem take_hd {p : List Int} {k : Nat} (h : k < p.length) : (p.take (k + 1)).reverse.head? = some (p.getD k 0) := by
  have e : p[k]? = some (p.getD k 0) := by
    rw [List.getD_eq_getElem?_getD, List.getElem?_eq_getElem h]; rfl
  rw [take_snoc e, List.reverse_append]
  rfl
end Geo
end Pm
namespace Pm
open PySem PySem.Spec PyProof.Rows L2
def midP (p : Int × Int) : Prop := (0 ≤ p.1 ∧ p.1 ≤ 13) ∧ (0 ≤ p.2 ∧ p.2 ≤ 36)
end Pm
namespace Pm
open PySem PySem.Spec PyProof.Rows L2
def decM : ND → IP
  | .t [.i a, .i b] => (a, b)
  | _ => (0, 0)
theorem dec_M (p : IP) : decM (encM p) = p := rfl
theorem mass_nil : mass [] = 0 := rfl
theorem mass_cons (q : ND × Int) (l : LP) : mass (q :: l) = q.2.natAbs + mass l := rfl
theorem mass_append (l m : LP) : mass (l ++ m) = mass l + mass m := by
  unfold mass
  rw [List.map_append, List.sum_append]
theorem mass_keys (l : LP) : ∀ ks : List ND, ks.Nodup → (ks.map fun d => (tot l d).natAbs).sum ≤ mass l := by
  induction l with
  | nil =>
    intro ks nd
    clear nd
    induction ks with
    | nil => exact Nat.le_refl _
    | cons k ks ih => rw [List.map_cons, List.sum_cons, tot_nil]; simpa using ih
  | cons q l ih =>
    intro ks nd
    rw [mass_cons]
    have h := ih ks nd
    have one : ∀ ks : List ND, ks.Nodup → (ks.map fun d => (tot (q :: l) d).natAbs).sum ≤ (if q.1 ∈ ks then q.2.natAbs else 0) + (ks.map fun d => (tot l d).natAbs).sum := by
      intro ks
      induction ks with
      | nil => intro _; rw [if_neg List.not_mem_nil]; exact Nat.le_refl _
      | cons k ks ihk =>
        intro nd
        obtain ⟨n1, n2⟩ := List.nodup_cons.mp nd
        have h2 := ihk n2
        rw [List.map_cons, List.sum_cons, List.map_cons, List.sum_cons, tot_cons]
        by_cases c : q.1 = k
        · have c2 : q.1 ∉ ks := by rw [c]; exact n1
          rw [if_neg c2] at h2
          rw [if_pos (show q.1 ∈ k :: ks by rw [c]; exact List.mem_cons_self), if_pos c]
          omega
        · rw [if_neg c]
          by_cases c2 : q.1 ∈ ks
          · rw [if_pos c2] at h2
            rw [if_pos (List.mem_cons_of_mem _ c2)]
            omega
          · rw [if_neg c2] at h2
            rw [if_neg (fun z => (List.mem_cons.mp z).elim c c2)]
            omega
    have := one ks nd
    split at this <;> omega
theorem mass_canon (l : LP) : mass (canon l) ≤ mass l := by
  have e : mass (canon l) = (((canon l).map (·.1)).map fun d => (tot l d).natAbs).sum := by
    unfold mass
    rw [List.map_map]
    exact congrArg List.sum (List.map_congr_left fun q hq => by rw [(canon_mem hq).2.1]; rfl)
  rw [e]
  exact mass_keys l _ (rise_nodup (canon_rise l))
/-- a row of middling marks with powers of so much together -/
def RowW (B : Nat) (d : ND) : Prop := ∃ r, d = encL r ∧ (∀ q ∈ r, ∃ p, q.1 = encM p ∧ midP p) ∧ mass r ≤ B
theorem RowW.mono {B C : Nat} {d : ND} (h : RowW B d) (l : B ≤ C) : RowW C d := let ⟨r, e, hm, hb⟩ := h; ⟨r, e, hm, Nat.le_trans hb l⟩
theorem RowW.of {B : Nat} {r : LP} (h : RowW B (encL r)) : (∀ q ∈ r, ∃ p, q.1 = encM p ∧ midP p) ∧ mass r ≤ B := by
  obtain ⟨r', e, h1, h2⟩ := h
  rw [encL_inj e]
  exact ⟨h1, h2⟩
theorem canon_mid {l : LP} (h : ∀ q ∈ l, ∃ p, q.1 = encM p ∧ midP p) : ∀ q ∈ canon l, ∃ p, q.1 = encM p ∧ midP p := fun q hq => by
  obtain ⟨q', hq', e⟩ := List.mem_map.mp (canon_mem hq).1
  obtain ⟨p, hp, hm⟩ := h q' hq'
  exact ⟨p, e.symm.trans hp, hm⟩
theorem canon_roww {B : Nat} {l : LP} (h : ∀ q ∈ l, ∃ p, q.1 = encM p ∧ midP p) (hb : mass l ≤ B) : RowW B (encL (canon l)) := ⟨_, rfl, canon_mid h, Nat.le_trans (mass_canon l) hb⟩
theorem canon_rowws {B : Nat} {l : LP} (h : ∀ q ∈ l, RowW B q.1) : ∀ q ∈ canon l, RowW B q.1 := fun q hq => by
  obtain ⟨q', hq', e⟩ := List.mem_map.mp (canon_mem hq).1
  rw [← e]
  exact h q' hq'
end Pm
namespace Pm
open PySem PySem.Spec PyProof.Rows L2 TL
def rSplit : V → List V → Hp → VK → Prop := fun x xs H Q => ∃ a b, x = .str a ∧ xs = [.str b] ∧ (b.length == 0) = false ∧ a.length + 2 ≤ sizeLine ∧ rNewStrs (Txt.split a b) H Q
theorem mt_splitS {X : Cx} : MtR X "str.split" rSplit := mt_split
def rStrI : List V → Hp → VK → Prop := fun xs H Q => ∃ i : Int, xs = [.int i] ∧ i.natAbs.log2 < 1920 ∧ Q (.str (Str.ofString (toString i))) H
theorem c_strI {X : Cx} : CallR X (.type "str") rStrI := call_str_int
def rIntS : List V → Hp → VK → Prop := fun xs H Q => ∃ a n, xs = [.str a] ∧ PySem.intText? a = some n ∧ a.length ≤ 640 ∧ Q (.int n) H
theorem c_intS {X : Cx} : CallR X (.type "int") rIntS := call_int_str
def rNinC : R2 := fun x y H Q => ∃ (c : Nat) (z : Str), x = .str ⟨#[c]⟩ ∧ y = .str z ∧ Q (.bl (!decide (c ∈ z.cps.toList))) H
theorem o_ninC {X : Cx} : OpR X (compareOp .NotIn) rNinC := op_notIn_sign
def rMulS : R2 := fun x y H Q => ∃ (z : Str) (n : Int), x = .str z ∧ y = .int n ∧ MulOk z n ∧ Q (.str (PySem.Txt.mul z n)) H
theorem op_mulS {X : Cx} : OpR X (binaryOp .Mult) rMulS := by
  intro pins s σ H x y v u Q I rx ry h
  obtain ⟨z, n, rfl, rfl, ok, q⟩ := h
  obtain ⟨t, rfl⟩ := rx
  obtain ⟨t', rfl⟩ := ry
  exact SB.mul ok fun t' k => ⟨.str _, H, I.tok _, ⟨_, rfl⟩, q⟩
def rJoin (K : PySem.W.Frag) : V → List V → Hp → VK → Prop := fun x xs H Q => ∃ a p, ∃ ys : List Str, x = .str a ∧ xs = [.ref p] ∧ (SqL K H p (ys.map V.str) ∨ SqT K H p (ys.map V.str)) ∧ (ys.map (·.length)).sum + ys.length * a.length ≤ 16777216 ∧ Q (.str (Txt.join a ys)) H
theorem mt_joinK {X : Cx} {K : PySem.W.Frag} (e : X.K = K := by rfl) : MtR X "str.join" (rJoin K) := e ▸ mt_join
def RdS (R : It → Hp → Prop) : VK := fun v H1 => ∃ x, v = .str x ∧ R (Its x) H1
section
variable {σ : L2.St} {H : Hp} {Q : VK} {nx bk ct : L2.St → Hp → Prop} {rt : VK} {g : TG} {t : TS} {te : TE}
theorem w_split {a b : Str} (hb : (b.length == 0) = false) (hz : a.length + 2 ≤ sizeLine) (h : ∀ p, H p = none → Q (.ref p) (upd H p (.lst ((Txt.split a b).map V.str)))) : rSplit (.str a) [.str b] H Q := ⟨a, b, rfl, rfl, hb, hz, h⟩
theorem w_strI {i : Int} (hz : i.natAbs.log2 < 1920) (h : Q (.str (Str.ofString (toString i))) H) : rStrI [.int i] H Q := ⟨i, rfl, hz, h⟩
theorem w_intS {a : Str} {n : Int} (e : PySem.intText? a = some n) (hz : a.length ≤ 640) (h : Q (.int n) H) : rIntS [.str a] H Q := ⟨a, n, rfl, e, hz, h⟩
theorem w_ninC {c : Nat} {z : Str} (h : Q (.bl (!decide (c ∈ z.cps.toList))) H) : rNinC (.str ⟨#[c]⟩) (.str z) H Q := ⟨c, z, rfl, rfl, h⟩
theorem w_catS {i j : Str} (hz : i.length + j.length ≤ sizeLine) (h : Q (.str (i ++ j)) H) : rCatS (.str i) (.str j) H Q := ⟨i, j, rfl, rfl, hz, h⟩
theorem w_slS {z : Str} {lo hi : Option Int} (hz : z.length ≤ sizeLine) (h : Q (.str (cutS z lo hi)) H) : rSlS (.str z) lo hi H Q := ⟨z, rfl, hz, h⟩
theorem w_ixS {z : Str} {i : Int} {c : Nat} (hz : z.length ≤ sizeLine) (e : atI z.cps.toList i = some c) (h : Q (.str ⟨#[c]⟩) H) : rIxS (.str z) (.int i) H Q := ⟨z, i, c, rfl, rfl, hz, e, h⟩
theorem w_join {K : PySem.W.Frag} {a : Str} {p : Addr} {ys : List Str} (hl : SqL K H p (ys.map V.str)) (hz : (ys.map (·.length)).sum + ys.length * a.length ≤ 16777216) (h : Q (.str (Txt.join a ys)) H) : rJoin K (.str a) [.ref p] H Q := ⟨a, p, ys, rfl, rfl, .inl hl, hz, h⟩
theorem w_iStr {R : It → Hp → Prop} (h : te σ H (RdS R)) : iStr te σ H R := h
theorem w_rdS {R : It → Hp → Prop} {x : Str} (h : R (Its x) H) : RdS R (.str x) H := ⟨x, rfl, h⟩
/-- for over the signs of a text -/
theorem w_forS {x : Str} (Pv : Nat → L2.St → Hp → Prop) (h0 : Pv 0 σ H) (hs : ∀ i c σ H, (tl x)[i]? = some c → Pv i σ H → g (.str ⟨#[c]⟩) σ H fun σ2 H2 => t ⟨Pv (i + 1), rt, nx, Pv (i + 1)⟩ σ2 H2) (hd : ∀ σ H, Pv (tl x).length σ H → nx σ H) : ForB g t nx rt σ (Its x) H := by
  have hz : x.cps.size = (tl x).length := len_tl x
  refine ⟨fun i m σ H => i + m = x.cps.size ∧ Pv i σ H, ⟨x.cps.size, by omega, h0⟩, ?_⟩
  rintro i m σ H ⟨hm, hp⟩
  rcases Nat.eq_zero_or_pos m with z | z
  · refine .inl ⟨show x.cps.size ≤ i by omega, hd σ H ?_⟩
    have e : i = (tl x).length := by omega
    rw [← e]
    exact hp
  · refine .inr ⟨show i < x.cps.size by omega, Pv (i + 1), fun σ' H' h => ⟨m - 1, by omega, by omega, h⟩, ?_⟩
    rintro v H' ⟨rfl, c, hc, rfl⟩
    refine hs i c σ H' ?_ hp
    rw [tl, Array.getElem?_toList]
    exact hc
end
theorem len_app (x y : Str) : (x ++ y).length = x.length + y.length := by rw [len_tl, tl_append, List.length_append, ← len_tl, ← len_tl]
theorem tl_cut (z : Str) (lo hi : Option Int) : tl (cutS z lo hi) = ((tl z).drop (HT.sIx z.length 0 lo)).take (HT.sIx z.length z.length hi - HT.sIx z.length 0 lo) := rfl
theorem len_cut (z : Str) (lo hi : Option Int) : (cutS z lo hi).length ≤ z.length := by
  rw [len_tl, tl_cut, List.length_take, List.length_drop, len_tl z]
  omega
theorem len_one (c : Nat) : (⟨#[c]⟩ : Str).length = 1 := rfl
/-- the number from nought on that a word writes, or -1 -/
def fig (x : Str) : Int := if x.length = 0 ∨ 400 < x.length ∨ ¬ (∀ c ∈ tl x, 48 ≤ c ∧ c ≤ 57) ∨ ((tl x).head? = some 48 ∧ 1 < x.length) then -1 else ((NumText.digitsVal (tl x) : Nat) : Int)
theorem fig_no {x : Str} (h : x.length = 0 ∨ 400 < x.length ∨ ¬ (∀ c ∈ tl x, 48 ≤ c ∧ c ≤ 57) ∨ ((tl x).head? = some 48 ∧ 1 < x.length)) : fig x = -1 := if_pos h
theorem fig_yes {x : Str} (h : ¬ (x.length = 0 ∨ 400 < x.length ∨ ¬ (∀ c ∈ tl x, 48 ≤ c ∧ c ≤ 57) ∨ ((tl x).head? = some 48 ∧ 1 < x.length))) : fig x = ((NumText.digitsVal (tl x) : Nat) : Int) := if_neg h
theorem figures_mem {c : Nat} : c ∈ ("0123456789" : Str).cps.toList ↔ 48 ≤ c ∧ c ≤ 57 := by
  have e : ("0123456789" : Str).cps.toList = [48, 49, 50, 51, 52, 53, 54, 55, 56, 57] := by decide +kernel
  rw [e]
  simp only [List.mem_cons, List.mem_nil_iff, or_false]
  omega
theorem str_head {x : Str} {c : Nat} (h : (tl x).head? = some c) : atI x.cps.toList 0 = some c := by
  show atI (tl x) 0 = some c
  cases e : tl x with
  | nil => rw [e] at h; cases h
  | cons a r =>
    rw [e] at h
    cases h
    exact atI_nat (j := 0) rfl
theorem one_eq {c d : Nat} : ((⟨#[c]⟩ : Str) = ⟨#[d]⟩) ↔ c = d := ⟨fun h => by injection h with h; simpa using h, fun h => by rw [h]⟩
theorem len_zero {x : Str} : x = ("" : Str) ↔ x.length = 0 := by
  constructor
  · rintro rfl; rfl
  · intro h
    refine ext_tl ?_
    have : tl x = [] := (len0_tl x).mp h
    rw [this]
    rfl
def dash (z : Str) : Prop := cutS z none (some 1) = ("-" : Str)
instance (z : Str) : Decidable (dash z) := by unfold dash; infer_instance
theorem dash_iff {z : Str} : dash z ↔ (tl z).head? = some 45 := by
  unfold dash
  have e : tl ("-" : Str) = [45] := by decide +kernel
  constructor
  · intro h
    have h2 := congrArg tl h
    rw [tl_cut, e] at h2
    cases ez : tl z with
    | nil => rw [ez] at h2; simp at h2
    | cons a r =>
      have hl : z.length = r.length + 1 := by rw [len_tl, ez, List.length_cons]
      rw [ez, show HT.sIx z.length 0 none = 0 from rfl, show HT.sIx z.length z.length (some 1) = 1 by unfold HT.sIx; simp only; rw [if_neg (by decide)]; omega] at h2
      simp only [List.drop_zero, Nat.sub_zero, List.take_succ_cons, List.take_zero] at h2
      injection h2 with h2 _
      rw [h2] <;> rfl
  · intro h
    refine ext_tl ?_
    rw [tl_cut, e]
    cases ez : tl z with
    | nil => rw [ez] at h; cases h
    | cons a r =>
      rw [ez] at h
      have h : a = 45 := by simpa using h
      subst h
      have hl : z.length = r.length + 1 := by rw [len_tl, ez, List.length_cons]
      rw [show HT.sIx z.length 0 none = 0 from rfl, show HT.sIx z.length z.length (some 1) = 1 by unfold HT.sIx; simp only; rw [if_neg (by decide)]; omega]
      simp
/-- the text without its first sign -/
def rest1 (z : Str) : Str := cutS z (some 1) none
/-- the text behind its sign -/
def restOf (z : Str) : Str := if dash z then rest1 z else z
theorem rest_len (z : Str) : (restOf z).length ≤ z.length := by
  unfold restOf rest1
  split
  · exact len_cut _ _ _
  · exact Nat.le_refl _
theorem log2_lt {n k : Nat} (h : n < 2 ^ k) (hk : 0 < k) : n.log2 < k := by
  rcases Nat.eq_zero_or_pos n with z | z
  · rw [z]; simpa using hk
  · exact (Nat.log2_lt (by omega)).mpr h
theorem spl_len {S : List Nat} : ∀ (l : List Nat) (k : Nat) (acc p : List Nat), p ∈ spl S k acc l → p.length ≤ acc.length + l.length
  | [], k, acc, p, h => by
    rw [spl_nil] at h
    rw [List.mem_singleton.mp h]
    omega
  | c :: r, 0, acc, p, h => by
    cases hp : pre S (c :: r) with
    | true =>
      rw [spl_hit hp] at h
      rcases List.mem_cons.mp h with h | h
      · rw [h]; omega
      · have := spl_len r _ [] p h
        simp only [List.length_nil, List.length_cons] at this ⊢
        omega
    | false =>
      rw [spl_miss hp] at h
      have := spl_len r _ _ p h
      simp only [List.length_append, List.length_cons, List.length_nil] at this ⊢
      omega
  | c :: r, k + 1, acc, p, h => by
    have := spl_len r k acc p h
    rw [List.length_cons]
    omega
theorem spl_many {S : List Nat} : ∀ (l : List Nat) (k : Nat) (acc : List Nat), (spl S k acc l).length ≤ l.length + 1
  | [], k, acc => by
    rw [spl_nil]
    exact Nat.le_refl 1
  | c :: r, 0, acc => by
    cases hp : pre S (c :: r) with
    | true =>
      rw [spl_hit hp, List.length_cons, List.length_cons]
      have := spl_many (S := S) r (S.length - 1) []
      omega
    | false =>
      rw [spl_miss hp, List.length_cons]
      have := spl_many (S := S) r 0 (acc ++ [c])
      omega
  | c :: r, k + 1, acc => by
    have := spl_many (S := S) r k acc
    rw [List.length_cons]
    exact Nat.le_trans this (by omega)
theorem split_many {x : Str} {c : Nat} (hc : c < 256 := by decide) : (Txt.split x ⟨#[c]⟩).length ≤ x.length + 1 := by
  have h := split_spl x ⟨#[c]⟩ (by simp) (kind_ok (by simpa using hc))
  have e : (Txt.split x ⟨#[c]⟩).length = ((Txt.split x ⟨#[c]⟩).map tl).length := (List.length_map _).symm
  rw [e, h, len_tl]
  exact spl_many _ _ _
theorem split_piece' {x y p : Str} (hy : tl y ≠ []) (hk : y.cps.all (· < 256) = true) (hp : p ∈ Txt.split x y) : p.length ≤ x.length := by
  have h := split_spl x y hy (kind_ok hk)
  have h2 : tl p ∈ spl (tl y) 0 [] (tl x) := by
    rw [← h]
    exact List.mem_map.mpr ⟨p, hp, rfl⟩
  have h3 := spl_len _ _ _ _ h2
  rw [← len_tl, ← len_tl, List.length_nil, Nat.zero_add] at h3
  exact h3
theorem split_piece {x p : Str} {c : Nat} (hp : p ∈ Txt.split x ⟨#[c]⟩) (hc : c < 256 := by decide) : p.length ≤ x.length := split_piece' (by simp) (by simpa using hc) hp
theorem tl_nat (n : Nat) : tl (Str.ofString (toString (n : Int))) = numL n := tl_num n
theorem tl_neg {n : Nat} (h : 0 < n) : tl (Str.ofString (toString (-(n : Int)))) = 45 :: numL n := by
  obtain ⟨m, rfl⟩ : ∃ m, n = m + 1 := ⟨n - 1, by omega⟩
  have e1 : toString (-((m + 1 : Nat) : Int)) = "-" ++ toString (((m + 1 : Nat) : Int)) := rfl
  rw [← tl_nat, e1, tl_ofString, tl_ofString, String.toList_append, List.map_append]
  rfl
theorem numL_le {n k : Nat} (hk : 0 < k) (h : n < 10 ^ k) : (numL n).length ≤ k := numL_len hk h
theorem istr_len {i : Int} {k : Nat} (hk : 0 < k) (h : i.natAbs < 10 ^ k) : (Str.ofString (toString i)).length ≤ k + 1 := by
  rw [len_tl]
  rcases Int.lt_or_le i 0 with z | z
  · rw [show i = -((i.natAbs : Nat) : Int) by omega, tl_neg (by omega), List.length_cons]
    have := numL_le hk h
    omega
  · rw [show i = ((i.natAbs : Nat) : Int) by omega, tl_nat]
    have := numL_le hk h
    omega
def AllS (B : Nat) : List V → Prop
  | [] => True
  | v :: r => (∃ z : Str, v = .str z ∧ z.length ≤ B) ∧ AllS B r
theorem AllS.app {B : Nat} : ∀ {xs ys : List V}, AllS B xs → AllS B ys → AllS B (xs ++ ys)
  | [], _, _, h => h
  | _ :: _, _, h, k => ⟨h.1, AllS.app h.2 k⟩
theorem AllS.get {B : Nat} : ∀ {xs : List V} {i : Nat}, AllS B xs → i < xs.length → ∃ z : Str, xs[i]? = some (.str z) ∧ z.length ≤ B
  | [], _, _, h => absurd h (Nat.not_lt_zero _)
  | v :: r, 0, h, _ => by
    obtain ⟨z, e, l⟩ := h.1
    exact ⟨z, by rw [e]; rfl, l⟩
  | v :: r, i + 1, h, l => by
    obtain ⟨z, e, q⟩ := AllS.get (i := i) h.2 (by rw [List.length_cons] at l; omega)
    exact ⟨z, by rw [List.getElem?_cons_succ]; exact e, q⟩
theorem w_newLS {H : Hp} {Q : VK} {xs : List V} {B k : Nat} (a : AllS B xs) (e : xs.length = k) (h : ∀ (p : Addr) (ys : List V), H p = none → AllS B ys → ys.length = k → Q (.ref p) (upd H p (.lst ys))) (hz : xs.length ≤ sizeLine := by exact Pm.size_ok (Nat.le_of_ble_eq_true rfl)) : LstK Q xs H := ⟨hz, fun p hp => h p xs hp a e⟩
theorem fold_size (a : Array Nat) : ∀ (k : Nat) (b : Array Nat), ((List.replicate k a).foldl (· ++ ·) b).size = b.size + k * a.size
  | 0, b => by simp
  | k + 1, b => by
    rw [List.replicate_succ, List.foldl_cons, fold_size a k (b ++ a), Array.size_append, Nat.add_mul, Nat.one_mul]
    omega
theorem len_mul (x : Str) (n : Int) : (PySem.Txt.mul x n).length ≤ x.length * n.toNat := by
  unfold PySem.Txt.mul
  split
  · exact Nat.zero_le _
  · split
    · rename_i h1 h2
      have : 1 ≤ n.toNat := by omega
      exact Nat.le_mul_of_pos_right _ this
    · show ((List.replicate n.toNat x.cps).foldl (· ++ ·) #[]).size ≤ _
      rw [fold_size]
      show 0 + n.toNat * x.cps.size ≤ x.cps.size * n.toNat
      rw [Nat.zero_add, Nat.mul_comm]
      exact Nat.le_refl _
theorem w_mulA {H : Hp} {Q : VK} {z : Str} {n : Int} {B : Nat} (ok : MulOk z n) (hB : z.length * n.toNat ≤ B) (h : ∀ m : Str, m.length ≤ B → Q (.str m) H) : rMulS (.str z) (.int n) H Q := ⟨z, n, rfl, rfl, ok, h _ (Nat.le_trans (len_mul z n) hB)⟩
theorem l_dash : ("-" : Str).length = 1 := by decide +kernel
theorem w_isiStr {K : PySem.W.Frag} {H : Hp} {Q : VK} {z : Str} {n : String} {b : Bool} (e : kitB "str" n = some b) (h : Q (.bl b) H) : rIsi K [.str z, .ty n] H Q := ⟨_, _, _, _, b, rfl, .ty n, .base (.str z), kit_ty e, h⟩
end Pm
namespace Pm
open PySem PySem.Spec PyProof.Rows L2
/-- the fields of a mead -/
def mf (c n d lp la : V) : List (Str × V) := [("cut", c), ("many", n), ("sized", d), ("past", lp), ("ahead", la)]
/-- what a deed changes: posts, ropes, what is measured -/
structure Ms where
  n : Nat
  cut : List IP
  D : Nat → Nat → Rat
/-- the dict of the lengths of a state -/
def DLs (K : PySem.W.Frag) (H : Hp) (d : Addr) (S : Ms) : Prop := ∃ ks, LD K H d ks (fun k => rp (S.D k.1.toNat k.2.toNat)) ∧ (∀ p, p ∈ ks ↔ p ∈ tiesL S.n S.cut) ∧ (∀ p ∈ ks, smallP p) ∧ ks.length ≤ 1000
/-- deeds -/
inductive Deed where
  | turn (a b : Int)
  | stretch (p : Int) (f : Rat)
  | set (k : Int) (x y : Rat)
  | draw (p : Int)
def DeedAt (K : PySem.W.Frag) (H : Hp) (v : V) : Deed → Prop
  | .turn a b => ∃ t, v = .ref t ∧ H t = some (.tup [.str "turn", .int a, .int b])
  | .stretch p f => ∃ t u, v = .ref t ∧ H t = some (.tup [.str "stretch", .int p, .ref u]) ∧ FrV K H (.ref u) (rp f)
  | .set k x y => ∃ t u w, v = .ref t ∧ H t = some (.tup [.str "set", .int k, .ref u, .ref w]) ∧ FrV K H (.ref u) (rp x) ∧ FrV K H (.ref w) (rp y)
  | .draw p => ∃ t, v = .ref t ∧ H t = some (.tup [.str "draw", .int p])
def Deed.data : Deed → PyData
  | .turn a b => .tuple [.str "turn", .int a, .int b]
  | .stretch p f => .tuple [.str "stretch", .int p, pD (rp f)]
  | .set k x y => .tuple [.str "set", .int k, pD (rp x), pD (rp y)]
  | .draw p => .tuple [.str "draw", .int p]
/-- an entry of a list of deeds: the deed, the state -/
def EnAt (K : PySem.W.Frag) (H : Hp) (v : V) (e : Deed × Ms) : Prop := ∃ (t s c d : Addr) (u : V), v = .ref t ∧ H t = some (.tup [u, .ref s]) ∧ DeedAt K H u e.1 ∧ H s = some (.tup [.int e.2.n, .ref c, .ref d]) ∧ PLt H c e.2.cut ∧ DLs K H d e.2
section
variable {K : PySem.W.Frag} {H H' : Hp} {v : V}
theorem DeedAt.keep {d : Deed} (k : Keeps H H') (h : DeedAt K H v d) : DeedAt K H' v d := by
  cases d with
  | turn a b => obtain ⟨t, e, h⟩ := h; exact ⟨t, e, k _ _ h⟩
  | stretch p f => obtain ⟨t, u, e, h, h2⟩ := h; exact ⟨t, u, e, k _ _ h, h2.keep k⟩
  | set p x y => obtain ⟨t, u, w, e, h, h2, h3⟩ := h; exact ⟨t, u, w, e, k _ _ h, h2.keep k, h3.keep k⟩
  | draw p => obtain ⟨t, e, h⟩ := h; exact ⟨t, e, k _ _ h⟩
theorem DeedAt.dp {d : Deed} (h : DeedAt K H v d) : Dp K H v d.data := by
  cases d with
  | turn a b => obtain ⟨t, rfl, h⟩ := h; exact .tup (SqT.of h) (.cons (.str _) (.cons (.int _) (.cons (.int _) .nil)))
  | stretch p f => obtain ⟨t, u, rfl, h, h2⟩ := h; exact .tup (SqT.of h) (.cons (.str _) (.cons (.int _) (.cons h2.dp .nil)))
  | set p x y => obtain ⟨t, u, w, rfl, h, h2, h3⟩ := h; exact .tup (SqT.of h) (.cons (.str _) (.cons (.int _) (.cons h2.dp (.cons h3.dp .nil))))
  | draw p => obtain ⟨t, rfl, h⟩ := h; exact .tup (SqT.of h) (.cons (.str _) (.cons (.int _) .nil))
theorem Deed.lay (d : Deed) : d.data.canLay0 = true := by
  cases d <;> simp only [Deed.data, PyData.canLay0, PyData.canLayAll0, lay_pD, Bool.and_true] <;> decide +kernel
theorem Deed.shaped (d : Deed) : SeqAt.shaped d.data = true := by
  show (d.data.canLay0 && decide (d.data.depth ≤ 64)) = true
  rw [d.lay, Bool.true_and]
  cases d <;> simp only [Deed.data, PyData.depth, PyData.depthAll, depth_pD] <;> rfl
theorem Deed.eqv (d : Deed) : PyData.eqv d.data d.data = true := SeqAt.eqv_refl _ d.lay
theorem DeedAt.tup {d : Deed} (h : DeedAt K H v d) : ∃ t xs, v = .ref t ∧ H t = some (.tup xs) := by
  cases d with
  | turn a b => obtain ⟨t, rfl, h⟩ := h; exact ⟨t, _, rfl, h⟩
  | stretch p f => obtain ⟨t, u, rfl, h, h2⟩ := h; exact ⟨t, _, rfl, h⟩
  | set p x y => obtain ⟨t, u, w, rfl, h, h2, h3⟩ := h; exact ⟨t, _, rfl, h⟩
  | draw p => obtain ⟨t, rfl, h⟩ := h; exact ⟨t, _, rfl, h⟩
theorem DLs.same {d : Addr} {S : Ms} (h : DLs K H d S) (s : Same H H') : DLs K H' d S := by
  obtain ⟨ks, h1, h2⟩ := h
  exact ⟨ks, h1.same s, h2⟩
theorem DLs.keep {d : Addr} {S : Ms} (h : DLs K H d S) (k : Keeps H H') (e : H' d = H d) : DLs K H' d S := by
  obtain ⟨ks, h1, h2⟩ := h
  exact ⟨ks, h1.keep (o := .tup []) k e, h2⟩
theorem PLt.keep {a : Addr} {ps : List IP} (h : PLt H a ps) (k : Keeps H H') (e : H' a = H a) : PLt H' a ps := by
  obtain ⟨vs, h1, h2⟩ := h
  exact ⟨vs, by rw [e, h1], prs_keep k h2⟩
theorem EnAt.same {e : Deed × Ms} (s : Same H H') (h : EnAt K H v e) : EnAt K H' v e := by
  obtain ⟨t, z, c, d, u, e1, h1, h2, h3, h4, h5⟩ := h
  exact ⟨t, z, c, d, u, e1, s _ _ h1, h2.keep (keeps s), s _ _ h3, h4.same s, h5.same s⟩
end
/-- a mead stands at p: H0 what is not the mead's, Hs what it holds and never changes -/
structure MeadAt (K : PySem.W.Frag) (C : Addr) (H0 Hs H : Hp) (p : Addr) (S : Ms) (P A : List (Deed × Ms)) : Prop where
  s0 : Same H0 H
  ss : Same Hs H
  k0 : Keeps H H0
  ks : Keeps H Hs
  dj : ∀ b o, Hs b = some o → (∀ xs, o ≠ .tup xs) → H0 b = none
  ex : ∃ (dx lp la c d : Addr) (vs us : List V), H0 p = none ∧ H0 lp = none ∧ H0 la = none ∧ Hs p = none ∧ Hs lp = none ∧ Hs la = none ∧ lp ≠ la ∧ H p = some (.ins C dx (mf (.ref c) (.int S.n) (.ref d) (.ref lp) (.ref la))) ∧ H lp = some (.lst vs) ∧ H la = some (.lst us) ∧ PLt Hs c S.cut ∧ DLs K Hs d S ∧ All2 (EnAt K Hs) vs P ∧ All2 (EnAt K Hs) us A
section
variable {K : PySem.W.Frag} {C : Addr} {H0 Hs H : Hp} {p : Addr} {S : Ms} {P A : List (Deed × Ms)}
/-- something that is not the mead's is changed -/
theorem MeadAt.put {b : Addr} {o o' : HO} (M : MeadAt K C H0 Hs H p S P A) (hb : H0 b = some o) (n : ∀ xs, o ≠ .tup xs) (n' : ∀ xs, o' ≠ .tup xs) : MeadAt K C (upd H0 b o') Hs (upd H b o') p S P A := by
  obtain ⟨dx, lp, la, c, d, vs, us, p0, l0, a0, ps, ls, as, nla, hp, hlp, hla, hc, hd, hP, hA⟩ := M.ex
  have bs : Hs b = none := by
    cases e : Hs b with
    | none => rfl
    | some u =>
      have h1 := M.ss _ _ e
      rw [M.s0 _ _ hb] at h1
      cases h1
      rw [M.dj _ _ e n] at hb
      cases hb
  have nb : ∀ {q : Addr}, H0 q = none → q ≠ b := fun h z => by rw [z, hb] at h; cases h
  refine ⟨fun q u e => ?_, same_but bs M.ss, fun q xs e => ?_, fun q xs e => ?_, fun q u e z => ?_, dx, lp, la, c, d, vs, us, ?_, ?_, ?_, ps, ls, as, nla, ?_, ?_, ?_, hc, hd, hP, hA⟩
  · by_cases z : q = b
    · rw [z, upd_same] at e ⊢; exact e
    · rw [upd_ne z] at e ⊢; exact M.s0 _ _ e
  · by_cases z : q = b
    · rw [z, upd_same] at e; cases e; exact absurd rfl (n' _)
    · rw [upd_ne z] at e ⊢; exact M.k0 _ _ e
  · by_cases z : q = b
    · rw [z, upd_same] at e; cases e; exact absurd rfl (n' _)
    · rw [upd_ne z] at e; exact M.ks _ _ e
  · have : q ≠ b := fun y => by rw [y, bs] at e; cases e
    rw [upd_ne this]
    exact M.dj _ _ e z
  · rw [upd_ne (nb p0)]; exact p0
  · rw [upd_ne (nb l0)]; exact l0
  · rw [upd_ne (nb a0)]; exact a0
  · rw [upd_ne (nb p0)]; exact hp
  · rw [upd_ne (nb l0)]; exact hlp
  · rw [upd_ne (nb a0)]; exact hla
end
end Pm
namespace Pm
open PySem PySem.Spec PyProof.Rows L2 TL
theorem split_of {z : Str} {c : Nat} {parts : List (List Nat)} (h : spl [c] 0 [] (tl z) = parts) (hc : c < 256 := by decide) : Txt.split z ⟨#[c]⟩ = parts.map fun l => (⟨l.toArray⟩ : Str) := by
  refine map_tl_inj ?_
  rw [split_spl z ⟨#[c]⟩ (by simp) (kind_ok (by simpa using hc)), List.map_map]
  show spl [c] 0 [] (tl z) = parts.map fun l => l
  rw [h, List.map_id']
end Pm
namespace Pm
open PySem PySem.Spec PyProof.Rows L2 TL
theorem spl_first {S : List Nat} : ∀ (l : List Nat) (k : Nat) (acc : List Nat), ∃ p rest, spl S k acc l = p :: rest
  | [], k, acc => ⟨acc, [], spl_nil ..⟩
  | c :: r, 0, acc => by
    cases hp : pre S (c :: r) with
    | true => exact ⟨acc, _, spl_hit hp⟩
    | false =>
      obtain ⟨p, rest, h1⟩ := spl_first (S := S) r 0 (acc ++ [c])
      exact ⟨p, rest, by rw [spl_miss hp]; exact h1⟩
  | c :: r, k + 1, acc => spl_first r k acc
end Pm
namespace Pm
open PySem PySem.Spec PyProof.Rows L2
namespace Geo
variable {G : Geo}
def Bm (_G : Geo) : List (Int × Int) → Rat
  | [] => 1
  | _ :: r => 3 * Bm _G r
def Am (G : Geo) (y : Int) : List (Int × Int) → Rat
  | [] => 0
  | q :: r => (if y = q.1 then Bm G r else if y = q.2 then Bm G r else 0) + Am G y r
def Sm (G : Geo) : List (Int × Int) → Rat
  | [] => 0
  | _ :: r => 2 * Bm G r + Sm G r
theorem Bm_pos : ∀ r, 0 ≤ Bm G r
  | [] => (by decide : (0 : Rat) ≤ 1)
  | _ :: r => by have := Bm_pos r; show 0 ≤ 3 * Bm G r; grind
theorem Bm_eq : ∀ r, 1 + Sm G r = Bm G r
  | [] => by unfold Bm Sm; grind
  | _ :: r => by have := Bm_eq r; show 1 + (2 * Bm G r + Sm G r) = 3 * Bm G r; grind
theorem Am_nonneg (y : Int) : ∀ r, 0 ≤ Am G y r
  | [] => by unfold Am; exact Rat.le_refl
  | q :: r => by
    unfold Am
    have h1 := Bm_pos (G := G) r
    have h2 := Am_nonneg y r
    by_cases c : y = q.1
    · rw [if_pos c]; grind
    · rw [if_neg c]
      by_cases d : y = q.2
      · rw [if_pos d]; grind
      · rw [if_neg d]; grind
theorem Am_rest (y u w : Int) : ∀ r, Am G y (rest u w r) ≤ Am G y r
  | [] => Rat.le_refl
  | q :: r => by
    have ih := Am_rest y u w r
    have h1 := Bm_pos (G := G) r
    have e : Am G y r ≤ Am G y (q :: r) := by
      conv => rhs; unfold Am
      by_cases c : y = q.1
      · rw [if_pos c]; grind
      · rw [if_neg c]
        by_cases d : y = q.2
        · rw [if_pos d]; grind
        · rw [if_neg d]; grind
    by_cases c : (q.1 = u ∧ q.2 = w) ∨ (q.1 = w ∧ q.2 = u)
    · rw [rest_yes r c]; exact e
    · rw [rest_no r c]; exact Rat.le_trans ih e
theorem Am_sum : ∀ {r : List (Int × Int)}, G.Cn r → (G.ps.map fun y => Am G y r).sum = Sm G r
  | [], _ => sum_zero fun z _ => rfl
  | q :: r, h => by
    have ih := Am_sum h.2.cn
    have e : (G.ps.map fun y => Am G y (q :: r)) = G.ps.map fun y => (if y = q.1 then Bm G r else if y = q.2 then Bm G r else 0) + Am G y r := rfl
    rw [e, sum_addf, ih, sum_two G.nd h.1.p.1 h.1.p.2 h.1.ne _ (fun z _ n1 n2 => by rw [if_neg n1, if_neg n2]), if_pos rfl, if_neg h.1.ne.symm, if_pos rfl]
    show _ = 2 * Bm G r + Sm G r
    grind
theorem Am_step (y : Int) : ∀ {r : List (Int × Int)}, G.Cn r → (G.ps.map fun z => if inr y z r then Bm G (rest y z r) else 0).sum = Am G y r
  | [], _ => sum_zero fun z _ => if_neg (by unfold inr; rintro (h | h) <;> cases h)
  | q :: r, h => by rw [split (fun _ l => Bm G l) y h, Am_step y h.2.cn]; rfl
theorem lv_kids (f : Nat) (p : List Int) : (((G.kids p).flatMap (G.leaves f)).length : Rat) = (G.ps.map fun y => if G.ok p y = true then ((G.leaves f (y :: p)).length : Rat) else 0).sum := by
  rw [List.length_flatMap, sum_cast]
  unfold kids
  rw [List.map_map, sum_filter]
  rfl
theorem lv_even {f : Nat} (ih2 : ∀ p x lo hi r, OddS G p x lo hi r → ((G.leaves f p).length : Rat) ≤ Bm G r) {p : List Int} {y lo hi : Int} {r : List (Int × Int)} (S : EvenS G p y lo hi r) : ((G.leaves (f + 1) p).length : Rat) ≤ (if y = G.b then 1 else 0) + Am G y r := by
  have h0 := Am_nonneg (G := G) y r
  by_cases c : G.fin p = true
  · rw [leaves_fin c]
    have hb := (of_decide_eq_true c).1
    rw [S.hd] at hb
    rw [if_pos (Option.some.inj hb)]
    show ((1 : Nat) : Rat) ≤ _
    have : ((1 : Nat) : Rat) = 1 := rfl
    rw [this]
    grind
  · rw [leaves_go (by simpa using c), lv_kids, ← Am_step y S.cn]
    have : (G.ps.map fun z => if G.ok p z = true then ((G.leaves f (z :: p)).length : Rat) else 0).sum ≤ (G.ps.map fun z => if inr y z r then Bm G (rest y z r) else 0).sum := sum_le fun z hz => by
      by_cases m : Geo.inr y z r
      · obtain ⟨s, t, ms, e, S2, l, u, ch⟩ := S.next m
        rw [if_pos (S.ok_iff.mpr m), if_pos m]
        exact ih2 _ _ _ _ _ S2
      · rw [if_neg (fun z => m (S.ok_iff.mp z)), if_neg m]
        exact Rat.le_refl
    split <;> grind
theorem lv_odd {f : Nat} (ih1 : ∀ p y lo hi r, EvenS G p y lo hi r → ((G.leaves f p).length : Rat) ≤ (if y = G.b then 1 else 0) + Am G y r) {p : List Int} {x lo hi : Int} {r : List (Int × Int)} (S : OddS G p x lo hi r) : ((G.leaves (f + 1) p).length : Rat) ≤ Bm G r := by
  have one : (G.ps.map fun y => if y = G.b then (1 : Rat) else 0).sum = 1 := sum_if_one G.nd G.pb fun _ => 1
  rw [leaves_go (fin_odd S.len), lv_kids, ← Bm_eq, ← Am_sum S.cn, ← one, ← sum_addf]
  refine sum_le fun y hy => ?_
  have h0 := Am_nonneg (G := G) y r
  by_cases c : G.ok p y = true
  · rw [if_pos c]
    rcases S.ok_iff.mp c with c | c
    · exact ih1 _ _ _ _ _ (S.plain c)
    · obtain ⟨s, t, m, e, S2, l⟩ := S.cross c
      have := ih1 _ _ _ _ _ S2
      have := Am_rest (G := G) y x y r
      grind
  · rw [if_neg c]
    split <;> grind
theorem lv_le : ∀ f : Nat, (∀ p y lo hi r, EvenS G p y lo hi r → ((G.leaves f p).length : Rat) ≤ (if y = G.b then 1 else 0) + Am G y r) ∧ (∀ p x lo hi r, OddS G p x lo hi r → ((G.leaves f p).length : Rat) ≤ Bm G r)
  | 0 => by
    refine ⟨fun p y lo hi r S => ?_, fun p x lo hi r S => ?_⟩
    · have h0 := Am_nonneg (G := G) y r
      show (0 : Rat) ≤ _
      split <;> grind
    · exact Bm_pos r
  | f + 1 => ⟨fun p y lo hi r S => lv_even (lv_le f).2 S, fun p x lo hi r S => lv_odd (lv_le f).1 S⟩
theorem Bm_nat : ∀ r, Bm G r = ((3 ^ r.length : Nat) : Rat)
  | [] => rfl
  | _ :: r => by
    unfold Bm
    rw [Bm_nat r, List.length_cons, Nat.pow_succ, Rat.natCast_mul _ 3, Rat.mul_comm]
    rfl
theorem lv_bound {p : List Int} {x lo hi : Int} {r : List (Int × Int)} (S : OddS G p x lo hi r) (f : Nat) : (G.leaves f p).length ≤ 3 ^ r.length := by
  have h := (lv_le f).2 _ _ _ _ _ S
  rw [Bm_nat] at h
  exact Rat.natCast_le_natCast.mp h
end Geo
end Pm
namespace Pm
open PySem PySem.Spec PyProof.Rows L2
/-- the objects at a, a + 1, .., n of them, read one by one -/
def frR {α : Type} (g : Addr → Option Obj) : Nat → Addr → (PySem.W.Frag → α) → α
  | 0, _, k => k []
  | n + 1, a, k => HandSHeadRun.frNat a fun a => match g a with
    | none => frR g n (a + 1) k
    | some o => frR g n (a + 1) fun K => k ((a, o) :: K)
theorem frR_eq {α : Type} (g : Addr → Option Obj) : ∀ (n : Nat) (a : Addr) (k : PySem.W.Frag → α), frR g n a k = k (He.frG g (List.range' a n))
  | 0, _, _ => rfl
  | n + 1, a, k => by
    unfold frR
    rw [HandSHeadRun.frNat_eq, List.range'_succ]
    show (match g a with | none => frR g n (a + 1) k | some o => frR g n (a + 1) fun K => k ((a, o) :: K)) = k (He.frG g (a :: List.range' (a + 1) n))
    cases h : g a with
    | none =>
      show frR g n (a + 1) k = _
      rw [frR_eq g n (a + 1) k]
      unfold He.frG
      rw [List.filterMap_cons, h]
      rfl
    | some o =>
      show (frR g n (a + 1) fun K => k ((a, o) :: K)) = _
      rw [frR_eq g n (a + 1) fun K => k ((a, o) :: K)]
      unfold He.frG
      rw [List.filterMap_cons, h]
      rfl
def asR (n : Nat) : List Addr := mainGlobals :: List.range' 0 n
def obsK {α : Type} (n : Nat) (F : PySem.W.Frag → α) (g : Addr → Option Obj) : α := match g mainGlobals with
  | none => frR g n 0 F
  | some o => frR g n 0 fun K => F ((mainGlobals, o) :: K)
theorem obsK_eq {α : Type} (n : Nat) (F : PySem.W.Frag → α) (g : Addr → Option Obj) : obsK n F g = F (He.frG g (asR n)) := by
  unfold obsK asR
  cases h : g mainGlobals with
  | none =>
    show frR g n 0 F = _
    rw [frR_eq]
    unfold He.frG
    rw [List.filterMap_cons, h]
    rfl
  | some o =>
    show (frR g n 0 fun K => F ((mainGlobals, o) :: K)) = _
    rw [frR_eq]
    unfold He.frG
    rw [List.filterMap_cons, h]
    rfl
/-- the Hook's facts, and Bools of one's own -/
def obsP (fa : List He.Fa) (fn : List He.FnD) (ex : PySem.W.Frag → List Bool) (K : PySem.W.Frag) : He.Al := ((He.obsE fa fn K).1 && (ex K).all id, (He.obsE fa fn K).2)
/-- what the end leans on -/
structure SaysP (fa : List He.Fa) (fn : List He.FnD) (ex : PySem.W.Frag → List Bool) (K : PySem.W.Frag) : Prop where
  e : He.SaysE fa fn K
  x : (ex K).all id = true
theorem saysP_of {fa : List He.Fa} {fn : List He.FnD} {ex : PySem.W.Frag → List Bool} {K : PySem.W.Frag} (h : obsP fa fn ex K = He.valE fn) : SaysP fa fn ex K := by
  have h1 : ((He.obsE fa fn K).1 && (ex K).all id) = true := congrArg Prod.fst h
  have h2 : (He.obsE fa fn K).2 = (He.valE fn).2 := by have z := congrArg Prod.snd h; exact z
  obtain ⟨a, b⟩ := Bool.and_eq_true_iff.mp h1
  exact ⟨Prod.ext a h2, b⟩
theorem obsP_of {fa : List He.Fa} {fn : List He.FnD} {ex : PySem.W.Frag → List Bool} {K : PySem.W.Frag} (h0 : (fn.map fun d => He.fnObs K d.at_) = fn.map He.FnD.val) (h1 : (fn.all fun d => (He.Fa.code d.at_ d.qual).ok K) = true) (h2 : (fa.all fun f => f.ok K) = true) (h3 : (ex K).all id = true) : obsP fa fn ex K = He.valE fn := by
  unfold obsP He.obsE He.valE
  rw [h0, h1, h2, h3]
  rfl
def hookP (n : Nat) (fa : List He.Fa) (fn : List He.FnD) (ex : PySem.W.Frag → List Bool) : PySem.W.Hook where
  α := He.Al
  obs := fun s => obsP fa fn ex (He.frG s.heap.get? (asR n))
  val := fun _ => He.valE fn
  says := fun _ h => ∃ K : PySem.W.Frag, K.In h ∧ SaysP fa fn ex K
  of := fun _ _ e => ⟨_, He.frG_in, saysP_of e⟩
  keeps := fun _ _ _ ⟨K, hK, c⟩ k => ⟨K, PySem.W.Frag.In.keeps hK k, c⟩
def obT (n : Nat) (fa : List He.Fa) (fn : List He.FnD) (ex : PySem.W.Frag → List Bool) (s : PySem.W.SharedT) : He.Al := obsP fa fn ex (He.frG (HandSHeadRun.getT s) (asR n))
theorem obT_eq {n : Nat} {fa : List He.Fa} {fn : List He.FnD} {ex : PySem.W.Frag → List Bool} (s : PySem.W.SharedT) : obT n fa fn ex s = (hookP n fa fn ex).obs s.abs := by
  have e : HandSHeadRun.getT s = s.abs.heap.get? := funext (HandSHeadRun.getT_eq s)
  unfold obT hookP
  rw [e]
/-- the top's end -/
noncomputable abbrev endR (r : PySem.W.OpenRow) (M : Nat) (w : World) (os : OsState) : Option PySem.W.SharedT := HandSHeadRun.endF (HandSHeadRun.stepQ (HandSHeadRun.denQ HandSHeadRun.tabQ) r.prog w) M r.prog w os
/-- one look at what stands at the end -/
def Look {α : Type} (r : PySem.W.OpenRow) (M n : Nat) (w : World) (F : PySem.W.Frag → α) (v : α) : Prop := ∀ os : OsState, (endR r M w os).map (fun s => obsK n F (HandSHeadRun.getT s)) = some v
theorem Look.at_ {α : Type} {r : PySem.W.OpenRow} {M n : Nat} {w : World} {F : PySem.W.Frag → α} {v : α} (h : Look r M n w F v) {os : OsState} {s : PySem.W.SharedT} (e : endR r M w os = some s) : F (He.frG (HandSHeadRun.getT s) (asR n)) = v := by
  have z := h os
  rw [e] at z
  have z2 : obsK n F (HandSHeadRun.getT s) = v := Option.some.inj z
  rw [obsK_eq] at z2
  exact z2
theorem run_of {r : PySem.W.OpenRow} {q : Program} {fa : List He.Fa} {fn : List He.FnD} {ex : PySem.W.Frag → List Bool} {M n : Nat} {loose : List Str} {w : World}
    (A : ∀ os : OsState, (endR r M w os).map (fun s => (HandSHeadRun.looksF r.prog (PySem.W.boot_heap w.params) s.abs, HandSHeadRun.seenQ q loose (importedModules r.prog.main.body) (fun s => PySem.W.xlAt q [] s && PySem.W.recOk r.toRowW.records s) s.abs)) = some (true, PySem.W.openGood q loose))
    (B : ∀ os s, endR r M w os = some s → obsP fa fn ex (He.frG (HandSHeadRun.getT s) (asR n)) = He.valE fn) : HandSHeadRun.RunEq r q (hookP n fa fn ex) (obT n fa fn ex) M loose w := by
  intro os
  have a := A os
  cases e : endR r M w os with
  | none =>
    rw [e] at a
    cases a
  | some s =>
    rw [e] at a
    have a2 := Option.some.inj a
    have a3 := congrArg Prod.fst a2
    have a4 := congrArg Prod.snd a2
    simp only at a3 a4
    show (endR r M w os).map _ = _
    rw [e]
    show some (_, _, obT n fa fn ex s) = some (true, _, He.valE fn)
    rw [a3, a4]
    unfold obT
    rw [B os s e]
section
variable {fa : List He.Fa} {fn : List He.FnD} {ex : PySem.W.Frag → List Bool} {K : PySem.W.Frag}
theorem SaysP.b (c : SaysP fa fn ex K) (i : Nat) {b : Bool} (h : (ex K)[i]? = some b) : b = true := List.all_eq_true.mp c.x b (List.mem_of_getElem? h)
theorem SaysP.d (c : SaysP fa fn ex K) (i : Nat) {p : Prop} [Decidable p] (h : (ex K)[i]? = some (decide p)) : p := of_decide_eq_true (c.b i h)
/-- a def of the top -/
theorem SaysP.def_ {D : He.FnD} (c : SaysP fa fn ex K) (i : Nat) (h : fn[i]? = some D) : ∃ oc od osl kV doc pm an cdv ct, K.lookup (He.fAd K D.at_) = some ⟨oc, od, .func (PySem.W.fnOf D.name D.qual D.params D.body D.scope .none kV doc pm an cdv ct), osl⟩ ∧ PySem.W.codeIn K cdv D.qual = true := c.e.def_ i h
end
end Pm
local macro_rules | `(tactic| walk_at "s1") => `(tactic| with_reducible refine Pm.w_rdS ?_)
local macro_rules | `(tactic| walk_at "s1") => `(tactic| with_reducible refine Pm.w_iStr ?_)
local macro_rules | `(tactic| walk_at "s1") => `(tactic| with_reducible refine Pm.w_iteN0 ?_)
local macro_rules | `(tactic| walk_at "s1") => `(tactic| with_reducible refine Pm.w_iteN1 ?_)
local macro_rules | `(tactic| walk_at "s1") => `(tactic| with_reducible refine Pm.w_iteF ?_)
local macro_rules | `(tactic| walk_at "s1") => `(tactic| with_reducible refine Pm.w_iteT ?_)
local macro_rules | `(tactic| walk_at "s1") => `(tactic| with_reducible refine Pm.w_makeX ?_)
local macro_rules | `(tactic| walk_at "s1") => `(tactic| with_reducible refine Pm.w_make ?_)
local macro_rules | `(tactic| walk_at "s1") => `(tactic| with_reducible refine Pm.w_methX ?_)
local macro_rules | `(tactic| walk_at "s1") => `(tactic| with_reducible refine Pm.w_sfld ?_)
local macro_rules | `(tactic| walk_at "s1") => `(tactic| with_reducible refine Pm.w_nes ?_)
local macro_rules | `(tactic| walk_at "s1") => `(tactic| with_reducible refine Pm.w_yes ?_)
local macro_rules | `(tactic| walk_at "s1") => `(tactic| with_reducible refine Pm.w_partK ?_)
local macro_rules | `(tactic| walk_at "s1") => `(tactic| with_reducible refine Pm.w_part ?_)
local macro_rules | `(tactic| walk_at "s1") => `(tactic| with_reducible refine Pm.w_noPart ?_)
local macro_rules | `(tactic| walk_at "s1") => `(tactic| with_reducible refine Pm.w_sl ?_)
local macro_rules | `(tactic| walk_at "s1") => `(tactic| with_reducible refine Pm.w_int1 ?_)
local macro_rules | `(tactic| walk_at "s1") => `(tactic| with_reducible refine Pm.w_dget ?_)
local macro_rules | `(tactic| walk_at "s1") => `(tactic| with_reducible refine Pm.w_dnotin ?_)
local macro_rules | `(tactic| walk_at "s1") => `(tactic| with_reducible refine Pm.w_din ?_)
local macro_rules | `(tactic| walk_at "s1") => `(tactic| with_reducible refine Pm.w_pairs0 ?_)
local macro_rules | `(tactic| walk_at "s1") => `(tactic| with_reducible refine Pm.w_pairs ?_)
local macro_rules | `(tactic| walk_at "s1") => `(tactic| ((with_reducible refine Pm.w_rg2 ?_ ?_); (refine ⟨⟨?_, ?_⟩, ?_, ?_⟩ <;> omega)))
local macro_rules | `(tactic| walk_at "s1") => `(tactic| ((with_reducible refine Pm.w_rg1 ?_ ?_); (constructor <;> omega)))
local macro_rules | `(tactic| walk_at "s1") => `(tactic| with_reducible refine Pm.w_iRng2 ?_)
local macro_rules | `(tactic| walk_at "s1") => `(tactic| with_reducible refine Pm.w_iRng1 ?_)
local macro_rules | `(tactic| walk_at "s1") => `(tactic| with_reducible refine Pm.w_iTup ?_)
local macro_rules | `(tactic| walk_at "s1") => `(tactic| with_reducible refine Pm.w_bm0 ?_)
local macro_rules | `(tactic| walk_at "s1") => `(tactic| with_reducible refine Pm.w_bm ?_)
local macro_rules | `(tactic| walk_at "s1") => `(tactic| with_reducible refine Pm.w_abs ?_)
local macro_rules | `(tactic| walk_at "s1") => `(tactic| with_reducible refine Pm.w_min ?_)
local macro_rules | `(tactic| walk_at "s1") => `(tactic| with_reducible refine Pm.w_max ?_)
local macro_rules | `(tactic| walk_at "s1") => `(tactic| with_reducible refine Pm.w_par2 ?_)
local macro_rules | `(tactic| walk_at "s1") => `(tactic| with_reducible refine Pm.w_par ?_)
local macro_rules | `(tactic| walk_at "s1") => `(tactic| with_reducible refine Pm.w_blx ?_)
local macro_rules | `(tactic| walk_at "s1") => `(tactic| with_reducible refine Pm.w_chain3 ?_)
local macro_rules | `(tactic| walk_at "s1") => `(tactic| with_reducible refine Pm.w_chain ?_)
local macro_rules | `(tactic| walk_at "s1") => `(tactic| with_reducible refine Pm.w_ifE ?_)
local macro_rules | `(tactic| walk_at "s1") => `(tactic| with_reducible refine Pm.w_notV ?_)
local macro_rules | `(tactic| walk_at "s1") => `(tactic| with_reducible refine Pm.w_orV ?_)
local macro_rules | `(tactic| walk_at "s1") => `(tactic| with_reducible refine Pm.w_andV ?_)
local macro_rules | `(tactic| walk_at "s1") => `(tactic| with_reducible refine Pm.w_not ?_)
local macro_rules | `(tactic| walk_at "s1") => `(tactic| with_reducible refine Pm.w_and ?_)
local macro_rules | `(tactic| walk_at "s1") => `(tactic| with_reducible refine Pm.w_bl ?_)
local macro_rules | `(tactic| walk_at "s1") => `(tactic| with_reducible refine Pm.w_lst ?_)
local macro_rules | `(tactic| walk_at "s1") => `(tactic| with_reducible refine Pm.w_callS ?_)
local macro_rules | `(tactic| walk_at "s1") => `(tactic| with_reducible refine Pm.w_eqs ?_)
local macro_rules | `(tactic| walk_at "s1") => `(tactic| with_reducible refine Pm.w_neb ?_)
local macro_rules | `(tactic| walk_at "s1") => `(tactic| with_reducible refine Pm.w_eqb ?_)
local macro_rules | `(tactic| walk_at "s1") => `(tactic| with_reducible refine Pm.w_nei ?_)
local macro_rules | `(tactic| walk_at "s1") => `(tactic| with_reducible refine Pm.w_eqi ?_)
local macro_rules | `(tactic| walk_at "s1") => `(tactic| with_reducible refine Pm.w_u ?_)
local macro_rules | `(tactic| walk_at "s1") => `(tactic| with_reducible refine Pm.w_gnil ?_)
local macro_rules | `(tactic| walk_at "s1") => `(tactic| with_reducible refine Pm.w_gsub ?_)
local macro_rules | `(tactic| walk_at "s1") => `(tactic| with_reducible refine Pm.w_cont ?_)
local macro_rules | `(tactic| walk_at "s1") => `(tactic| with_reducible refine Pm.w_brk ?_)
local macro_rules | `(tactic| walk_at "s1") => `(tactic| with_reducible refine Pm.w_retN ?_)
local macro_rules | `(tactic| walk_at "s1") => `(tactic| with_reducible refine Pm.w_or ?_)
local macro_rules | `(tactic| walk_at "s1") => `(tactic| with_reducible refine Pm.w_un ?_)
local macro_rules | `(tactic| walk_at "s1") => `(tactic| with_reducible refine Pm.w_drop ?_)
local macro_rules | `(tactic| walk_at "s1") => `(tactic| with_reducible refine Pm.w_b ?_)
local macro_rules | `(tactic| walk_at "s1") => `(tactic| with_reducible refine Pm.w_iList ?_)
local macro_rules | `(tactic| walk_at "s1") => `(tactic| with_reducible refine Pm.w_meth ?_)
local macro_rules | `(tactic| walk_at "s1") => `(tactic| with_reducible refine Pm.w_for ?_)
local macro_rules | `(tactic| walk_at "s1") => `(tactic| with_reducible refine Pm.w_dput ?_)
local macro_rules | `(tactic| walk_at "s1") => `(tactic| with_reducible refine Pm.w_fld ?_)
local macro_rules | `(tactic| walk_at "s1") => `(tactic| with_reducible refine Pm.w_cb ?_)
local macro_rules | `(tactic| walk_at "s1") => `(tactic| with_reducible refine Pm.w_lc ?_)
local macro_rules | `(tactic| walk_at "s1") => `(tactic| with_reducible refine Pm.w_gcons ?_)
local macro_rules | `(tactic| walk_at "s1") => `(tactic| with_reducible refine Pm.w_test ?_)
local macro_rules | `(tactic| walk_at "s1") => `(tactic| with_reducible refine Pm.w_tup ?_)
local macro_rules | `(tactic| walk_at "s1") => `(tactic| ((with_reducible show Pm.LcTurn _ _ _ _ _ _ _ _); refine Pm.w_turn rfl ?_))
local macro_rules | `(tactic| walk_at "s1") => `(tactic| with_reducible refine Pm.w_next ?_)
local macro_rules | `(tactic| walk_at "s1") => `(tactic| with_reducible refine Pm.w_nil ?_)
local macro_rules | `(tactic| walk_at "s1") => `(tactic| ((with_reducible refine Pm.w_i ?_ ?_); (walk_at "side")))
local macro_rules | `(tactic| walk_at "s1") => `(tactic| with_reducible refine Pm.w_i0 ?_)
local macro_rules | `(tactic| walk_at "s1") => `(tactic| with_reducible refine Pm.w_call ?_)
local macro_rules | `(tactic| walk_at "s1") => `(tactic| with_reducible refine Pm.w_ret ?_)
local macro_rules | `(tactic| walk_at "s1") => `(tactic| with_reducible refine Pm.w_gname ?_)
local macro_rules | `(tactic| walk_at "s1") => `(tactic| with_reducible refine Pm.w_if ?_)
local macro_rules | `(tactic| walk_at "s1") => `(tactic| with_reducible refine Pm.w_asg ?_)
local macro_rules | `(tactic| walk_at "s1") => `(tactic| with_reducible refine Pm.w_c ?_)
local macro_rules | `(tactic| walk_at "s1") => `(tactic| with_reducible refine Pm.w_seq ?_)
local macro_rules | `(tactic| walk_at "s1") => `(tactic| with_reducible refine Pm.w_op ?_)
local macro_rules | `(tactic| walk_at "s1") => `(tactic| with_reducible refine Pm.w_cons ?_)
local macro_rules | `(tactic| walk_at "s1") => `(tactic| ((with_reducible show L2.tVar _ _ _ _); refine Pm.w_var rfl ?_))
local macro_rules | `(tactic| walk_at "side") => `(tactic| first | (refine Pm.w_mul1 ?_; constructor <;> omega) | (refine Pm.w_mul2 ?_; constructor <;> omega) | ((with_reducible show L2.CDiv _ _); refine ⟨?_, ?_⟩ <;> omega) | ((with_reducible show L2.CPow _ _); exact ⟨by decide, by decide, by decide⟩) | (show (0:Int) < _; omega))
local macro_rules | `(tactic| walk_at "st") => `(tactic| repeat (walk_at "s1"))
namespace Pm
open PySem PySem.Spec PyProof.Rows L2
def top (i : Nat) : Stmt := PySem.Challenge.pw_postmead_k07_letters_written.main.body.getD i (.Pass ⟨0, 0, 0, 0⟩)
abbrev s_whole_of : Stmt := top 7
abbrev N_whole_of : List Str := ["word", "sign"]
theorem sc_whole_of : FnScope N_whole_of ["word"] (defScope s_whole_of) := ⟨rfl, rfl, rfl, by decide +kernel, rfl, by decide +kernel, by decide +kernel⟩
abbrev s_settled : Stmt := top 9
abbrev N_settled : List Str := ["counts", "row"]
theorem sc_settled : FnScope N_settled ["counts"] (defScope s_settled) := ⟨rfl, rfl, rfl, by decide +kernel, rfl, by decide +kernel, by decide +kernel⟩
abbrev s_row_of : Stmt := top 10
abbrev N_row_of : List Str := ["powers", "mark"]
theorem sc_row_of : FnScope N_row_of ["powers"] (defScope s_row_of) := ⟨rfl, rfl, rfl, by decide +kernel, rfl, by decide +kernel, by decide +kernel⟩
abbrev s_term_text : Stmt := top 11
abbrev N_term_text : List Str := ["row", "count", "text", "a", "b", "power"]
theorem sc_term_text : FnScope N_term_text ["row", "count"] (defScope s_term_text) := ⟨rfl, rfl, rfl, by decide +kernel, rfl, by decide +kernel, by decide +kernel⟩
abbrev s_sum_text : Stmt := top 12
abbrev N_sum_text : List Str := ["one", "row"]
theorem sc_sum_text : FnScope N_sum_text ["one"] (defScope s_sum_text) := ⟨rfl, rfl, rfl, by decide +kernel, rfl, by decide +kernel, by decide +kernel⟩
abbrev s_signed_of : Stmt := top 13
abbrev N_signed_of : List Str := ["word", "below", "rest", "found"]
theorem sc_signed_of : FnScope N_signed_of ["word"] (defScope s_signed_of) := ⟨rfl, rfl, rfl, by decide +kernel, rfl, by decide +kernel, by decide +kernel⟩
abbrev s_mark_of : Stmt := top 14
abbrev N_mark_of : List Str := ["word", "ends", "a", "b"]
theorem sc_mark_of : FnScope N_mark_of ["word"] (defScope s_mark_of) := ⟨rfl, rfl, rfl, by decide +kernel, rfl, by decide +kernel, by decide +kernel⟩
abbrev s_term_of : Stmt := top 15
abbrev N_term_of : List Str := ["text", "words", "count", "row", "word", "halves", "mark"]
theorem sc_term_of : FnScope N_term_of ["text"] (defScope s_term_of) := ⟨rfl, rfl, rfl, by decide +kernel, rfl, by decide +kernel, by decide +kernel⟩
abbrev s_sum_read : Stmt := top 16
abbrev N_sum_read : List Str := ["line", "made", "text", "term"]
theorem sc_sum_read : FnScope N_sum_read ["line"] (defScope s_sum_read) := ⟨rfl, rfl, rfl, by decide +kernel, rfl, by decide +kernel, by decide +kernel⟩
abbrev s_tie_of : Stmt := top 18
abbrev N_tie_of : List Str := ["a", "b"]
theorem sc_tie_of : FnScope N_tie_of ["a", "b"] (defScope s_tie_of) := ⟨rfl, rfl, rfl, by decide +kernel, rfl, by decide +kernel, by decide +kernel⟩
abbrev s_crosses : Stmt := top 19
abbrev N_crosses : List Str := ["one", "other", "low", "high", "post"]
theorem sc_crosses : FnScope N_crosses ["one", "other"] (defScope s_crosses) := ⟨rfl, rfl, rfl, by decide +kernel, rfl, by decide +kernel, by decide +kernel⟩
abbrev s_sides : Stmt := top 20
abbrev N_sides : List Str := ["n", "k"]
theorem sc_sides : FnScope N_sides ["n"] (defScope s_sides) := ⟨rfl, rfl, rfl, by decide +kernel, rfl, by decide +kernel, by decide +kernel⟩
abbrev s_ties : Stmt := top 21
abbrev N_ties : List Str := ["n", "cut"]
theorem sc_ties : FnScope N_ties ["n", "cut"] (defScope s_ties) := ⟨rfl, rfl, rfl, by decide +kernel, rfl, by decide +kernel, by decide +kernel⟩
abbrev s_two_posts : Stmt := top 23
abbrev N_two_posts : List Str := ["n", "a", "b"]
theorem sc_two_posts : FnScope N_two_posts ["n", "a", "b"] (defScope s_two_posts) := ⟨rfl, rfl, rfl, by decide +kernel, rfl, by decide +kernel, by decide +kernel⟩
abbrev s_nearness : Stmt := top 24
abbrev N_nearness : List Str := ["n", "rope", "a", "one", "other"]
theorem sc_nearness : FnScope N_nearness ["n", "rope", "a"] (defScope s_nearness) := ⟨rfl, rfl, rfl, by decide +kernel, rfl, by decide +kernel, by decide +kernel⟩
abbrev s_across : Stmt := top 25
abbrev N_across : List Str := ["n", "cut", "a", "b", "found", "rope", "places", "k"]
theorem sc_across : FnScope N_across ["n", "cut", "a", "b"] (defScope s_across) := ⟨rfl, rfl, rfl, by decide +kernel, rfl, by decide +kernel, by decide +kernel⟩
abbrev s_neighbours : Stmt := top 26
abbrev N_neighbours : List Str := ["n", "cut", "found", "k", "a", "b"]
theorem sc_neighbours : FnScope N_neighbours ["n", "cut"] (defScope s_neighbours) := ⟨rfl, rfl, rfl, by decide +kernel, rfl, by decide +kernel, by decide +kernel⟩
abbrev s_onward : Stmt := top 27
abbrev N_onward : List Str := ["path", "tied", "places", "used", "k", "last", "tie", "found", "post", "place", "even"]
theorem sc_onward : FnScope N_onward ["path", "tied", "places"] (defScope s_onward) := ⟨rfl, rfl, rfl, by decide +kernel, rfl, by decide +kernel, by decide +kernel⟩
abbrev s_ways : Stmt := top 28
abbrev N_ways : List Str := ["n", "cut", "a", "b", "places", "tied", "found", "open_paths", "path"]
theorem sc_ways : FnScope N_ways ["n", "cut", "a", "b"] (defScope s_ways) := ⟨rfl, rfl, rfl, by decide +kernel, rfl, by decide +kernel, by decide +kernel⟩
abbrev s_row_of_way : Stmt := top 29
abbrev N_row_of_way : List Str := ["way", "powers", "k"]
theorem sc_row_of_way : FnScope N_row_of_way ["way"] (defScope s_row_of_way) := ⟨rfl, rfl, rfl, by decide +kernel, rfl, by decide +kernel, by decide +kernel⟩
abbrev s_told : Stmt := top 30
abbrev N_told : List Str := ["n", "cut", "a", "b", "counts", "way", "row"]
theorem sc_told : FnScope N_told ["n", "cut", "a", "b"] (defScope s_told) := ⟨rfl, rfl, rfl, by decide +kernel, rfl, by decide +kernel, by decide +kernel⟩
abbrev s_law_flow : Stmt := top 32
abbrev N_law_flow : List Str := ["_law_script", "_law_many", "_law_great", "_law_row", "_law_k", "_law_cell", "_law_mixed"]
theorem sc_law_flow : FnScope N_law_flow ["_law_script", "_law_many"] (defScope s_law_flow) := ⟨rfl, rfl, rfl, by decide +kernel, rfl, by decide +kernel, by decide +kernel⟩
abbrev s_law_whole : Stmt := top 33
abbrev N_law_whole : List Str := ["_law_found"]
theorem sc_law_whole : FnScope N_law_whole ["_law_found"] (defScope s_law_whole) := ⟨rfl, rfl, rfl, by decide +kernel, rfl, by decide +kernel, by decide +kernel⟩
abbrev s_law_pair : Stmt := top 34
abbrev N_law_pair : List Str := ["_law_a", "_law_b"]
theorem sc_law_pair : FnScope N_law_pair ["_law_a", "_law_b"] (defScope s_law_pair) := ⟨rfl, rfl, rfl, by decide +kernel, rfl, by decide +kernel, by decide +kernel⟩
abbrev s_law_ears : Stmt := top 35
abbrev N_law_ears : List Str := ["_law_n", "_law_row", "_law_left", "_law_k", "_law_ears_here"]
theorem sc_law_ears : FnScope N_law_ears ["_law_n", "_law_row"] (defScope s_law_ears) := ⟨rfl, rfl, rfl, by decide +kernel, rfl, by decide +kernel, by decide +kernel⟩
abbrev s_law_ropes : Stmt := top 36
abbrev N_law_ropes : List Str := ["_law_ears_here", "_law_ear"]
theorem sc_law_ropes : FnScope N_law_ropes ["_law_ears_here"] (defScope s_law_ropes) := ⟨rfl, rfl, rfl, by decide +kernel, rfl, by decide +kernel, by decide +kernel⟩
abbrev s_law_tuple : Stmt := top 37
abbrev N_law_tuple : List Str := ["_law_found", "_law_many", "_law_one"]
theorem sc_law_tuple : FnScope N_law_tuple ["_law_found", "_law_many"] (defScope s_law_tuple) := ⟨rfl, rfl, rfl, by decide +kernel, rfl, by decide +kernel, by decide +kernel⟩
abbrev s_law_sum : Stmt := top 38
abbrev N_law_sum : List Str := ["_law_found", "_law_term_here", "_law_one", "_law_k"]
theorem sc_law_sum : FnScope N_law_sum ["_law_found"] (defScope s_law_sum) := ⟨rfl, rfl, rfl, by decide +kernel, rfl, by decide +kernel, by decide +kernel⟩
abbrev s_law_row_times : Stmt := top 39
abbrev N_law_row_times : List Str := ["_law_one", "_law_other", "_law_powers", "_law_mark_here", "_law_power"]
theorem sc_law_row_times : FnScope N_law_row_times ["_law_one", "_law_other"] (defScope s_law_row_times) := ⟨rfl, rfl, rfl, by decide +kernel, rfl, by decide +kernel, by decide +kernel⟩
abbrev s_law_settled : Stmt := top 40
abbrev N_law_settled : List Str := ["_law_terms", "_law_counts", "_law_row", "_law_count"]
theorem sc_law_settled : FnScope N_law_settled ["_law_terms"] (defScope s_law_settled) := ⟨rfl, rfl, rfl, by decide +kernel, rfl, by decide +kernel, by decide +kernel⟩
abbrev s_law_draw_sum : Stmt := top 41
abbrev N_law_draw_sum : List Str := ["_law_row", "_law_terms", "_law_marks", "_law_made", "_law_k", "_law_powers", "_law_i", "_law_one", "_law_a", "_law_b"]
theorem sc_law_draw_sum : FnScope N_law_draw_sum ["_law_row", "_law_terms", "_law_marks"] (defScope s_law_draw_sum) := ⟨rfl, rfl, rfl, by decide +kernel, rfl, by decide +kernel, by decide +kernel⟩
abbrev s_law_two : Stmt := top 42
abbrev N_law_two : List Str := ["_law_n", "_law_one", "_law_other", "_law_wild", "_law_far", "_law_a"]
theorem sc_law_two : FnScope N_law_two ["_law_n", "_law_one", "_law_other", "_law_wild"] (defScope s_law_two) := ⟨rfl, rfl, rfl, by decide +kernel, rfl, by decide +kernel, by decide +kernel⟩
abbrev s_law_number : Stmt := top 43
abbrev N_law_number : List Str := ["_law_word", "_law_least", "_law_sign"]
theorem sc_law_number : FnScope N_law_number ["_law_word", "_law_least"] (defScope s_law_number) := ⟨rfl, rfl, rfl, by decide +kernel, rfl, by decide +kernel, by decide +kernel⟩
abbrev s_law_signed : Stmt := top 44
abbrev N_law_signed : List Str := ["_law_word"]
theorem sc_law_signed : FnScope N_law_signed ["_law_word"] (defScope s_law_signed) := ⟨rfl, rfl, rfl, by decide +kernel, rfl, by decide +kernel, by decide +kernel⟩
abbrev s_law_mark : Stmt := top 45
abbrev N_law_mark : List Str := ["_law_word", "_law_halves", "_law_ends", "_law_a", "_law_b"]
theorem sc_law_mark : FnScope N_law_mark ["_law_word"] (defScope s_law_mark) := ⟨rfl, rfl, rfl, by decide +kernel, rfl, by decide +kernel, by decide +kernel⟩
abbrev s_law_term : Stmt := top 46
abbrev N_law_term : List Str := ["_law_text_here", "_law_words", "_law_marks", "_law_word", "_law_k"]
theorem sc_law_term : FnScope N_law_term ["_law_text_here"] (defScope s_law_term) := ⟨rfl, rfl, rfl, by decide +kernel, rfl, by decide +kernel, by decide +kernel⟩
abbrev s_law_due : Stmt := top 47
abbrev N_law_due : List Str := ["_law_line", "_law_terms", "_law_text_here", "_law_k"]
theorem sc_law_due : FnScope N_law_due ["_law_line"] (defScope s_law_due) := ⟨rfl, rfl, rfl, by decide +kernel, rfl, by decide +kernel, by decide +kernel⟩
abbrev s_law_text : Stmt := top 48
abbrev N_law_text : List Str := ["_law_one", "_law_rows", "_law_powers", "_law_count", "_law_text_here", "_law_mark_here", "_law_power"]
theorem sc_law_text : FnScope N_law_text ["_law_one"] (defScope s_law_text) := ⟨rfl, rfl, rfl, by decide +kernel, rfl, by decide +kernel, by decide +kernel⟩
abbrev s_law_odd : Stmt := top 49
abbrev N_law_odd : List Str := ["_law_one", "_law_some"]
theorem sc_law_odd : FnScope N_law_odd ["_law_one"] (defScope s_law_odd) := ⟨rfl, rfl, rfl, by decide +kernel, rfl, by decide +kernel, by decide +kernel⟩
abbrev s_law_spoilt : Stmt := top 50
abbrev N_law_spoilt : List Str := ["_law_line", "_law_row", "_law_at", "_law_sign"]
theorem sc_law_spoilt : FnScope N_law_spoilt ["_law_line", "_law_row"] (defScope s_law_spoilt) := ⟨rfl, rfl, rfl, by decide +kernel, rfl, by decide +kernel, by decide +kernel⟩
abbrev s_law : Stmt := top 51
abbrev N_law : List Str := ["_law_script", "_law_row", "_law_one", "_law_n", "_law_a", "_law_b", "_law_handed", "_law_line", "_law_cut", "_law_terms", "_law_due_here", "_law_found", "e"]
theorem sc_law : FnScope N_law ["_law_script"] (defScope s_law) := ⟨rfl, rfl, rfl, by decide +kernel, rfl, by decide +kernel, by decide +kernel⟩
structure DefAt (K : PySem.W.Frag) (mg : Str → Option Value) (nm qn : Str) (st : Stmt) (ps : List Str) : Type where
  a : Addr
  fd : FuncData
  F : Fun K nm qn st a fd
  g : mg nm = some (.ref a)
  b : Binds K fd ps []
structure ExAt (K : PySem.W.Frag) (mg : Str → Option Value) (nm : Str) : Type where
  c : Addr
  g : mg nm = some (.ref c)
  x : PySem.W.excIn K c [.type "ValueError", .type "Exception", .type "BaseException", .type "object"] "ValueError.__new__" = true
  k : PySem.W.keepIn K (.ref c) = true
  b : PySem.W.subIn K (.ref c) (.type "BaseException") = some true
  t : PySem.W.typeIn K (.ref c) = some (.type "type")
  i : PySem.W.isClsIn K c = true
  z : PySem.W.subIn K (.ref c) (.ref c) = some true
/-- what the top has written -/
structure Tx (K : PySem.W.Frag) (mg : Str → Option Value) : Type where
  d_whole_of : DefAt K mg "whole_of" "whole_of" s_whole_of ["word"]
  d_settled : DefAt K mg "settled" "settled" s_settled ["counts"]
  d_row_of : DefAt K mg "row_of" "row_of" s_row_of ["powers"]
  d_term_text : DefAt K mg "term_text" "term_text" s_term_text ["row", "count"]
  d_sum_text : DefAt K mg "sum_text" "sum_text" s_sum_text ["one"]
  d_signed_of : DefAt K mg "signed_of" "signed_of" s_signed_of ["word"]
  d_mark_of : DefAt K mg "mark_of" "mark_of" s_mark_of ["word"]
  d_term_of : DefAt K mg "term_of" "term_of" s_term_of ["text"]
  d_sum_read : DefAt K mg "sum_read" "sum_read" s_sum_read ["line"]
  d_tie_of : DefAt K mg "tie_of" "tie_of" s_tie_of ["a", "b"]
  d_crosses : DefAt K mg "crosses" "crosses" s_crosses ["one", "other"]
  d_sides : DefAt K mg "sides" "sides" s_sides ["n"]
  d_ties : DefAt K mg "ties" "ties" s_ties ["n", "cut"]
  d_two_posts : DefAt K mg "two_posts" "two_posts" s_two_posts ["n", "a", "b"]
  d_nearness : DefAt K mg "nearness" "nearness" s_nearness ["n", "rope", "a"]
  d_across : DefAt K mg "across" "across" s_across ["n", "cut", "a", "b"]
  d_neighbours : DefAt K mg "neighbours" "neighbours" s_neighbours ["n", "cut"]
  d_onward : DefAt K mg "onward" "onward" s_onward ["path", "tied", "places"]
  d_ways : DefAt K mg "ways" "ways" s_ways ["n", "cut", "a", "b"]
  d_row_of_way : DefAt K mg "row_of_way" "row_of_way" s_row_of_way ["way"]
  d_told : DefAt K mg "told" "told" s_told ["n", "cut", "a", "b"]
  d_law_flow : DefAt K mg "_law_flow" "_law_flow" s_law_flow ["_law_script", "_law_many"]
  d_law_whole : DefAt K mg "_law_whole" "_law_whole" s_law_whole ["_law_found"]
  d_law_pair : DefAt K mg "_law_pair" "_law_pair" s_law_pair ["_law_a", "_law_b"]
  d_law_ears : DefAt K mg "_law_ears" "_law_ears" s_law_ears ["_law_n", "_law_row"]
  d_law_ropes : DefAt K mg "_law_ropes" "_law_ropes" s_law_ropes ["_law_ears_here"]
  d_law_tuple : DefAt K mg "_law_tuple" "_law_tuple" s_law_tuple ["_law_found", "_law_many"]
  d_law_sum : DefAt K mg "_law_sum" "_law_sum" s_law_sum ["_law_found"]
  d_law_row_times : DefAt K mg "_law_row_times" "_law_row_times" s_law_row_times ["_law_one", "_law_other"]
  d_law_settled : DefAt K mg "_law_settled" "_law_settled" s_law_settled ["_law_terms"]
  d_law_draw_sum : DefAt K mg "_law_draw_sum" "_law_draw_sum" s_law_draw_sum ["_law_row", "_law_terms", "_law_marks"]
  d_law_two : DefAt K mg "_law_two" "_law_two" s_law_two ["_law_n", "_law_one", "_law_other", "_law_wild"]
  d_law_number : DefAt K mg "_law_number" "_law_number" s_law_number ["_law_word", "_law_least"]
  d_law_signed : DefAt K mg "_law_signed" "_law_signed" s_law_signed ["_law_word"]
  d_law_mark : DefAt K mg "_law_mark" "_law_mark" s_law_mark ["_law_word"]
  d_law_term : DefAt K mg "_law_term" "_law_term" s_law_term ["_law_text_here"]
  d_law_due : DefAt K mg "_law_due" "_law_due" s_law_due ["_law_line"]
  d_law_text : DefAt K mg "_law_text" "_law_text" s_law_text ["_law_one"]
  d_law_odd : DefAt K mg "_law_odd" "_law_odd" s_law_odd ["_law_one"]
  d_law_spoilt : DefAt K mg "_law_spoilt" "_law_spoilt" s_law_spoilt ["_law_line", "_law_row"]
  d_law : DefAt K mg "law" "law" s_law ["_law_script"]
  m_int : mg "int" = none
  m_len : mg "len" = none
  m_sorted : mg "sorted" = none
  m_tuple : mg "tuple" = none
  m_str : mg "str" = none
  m_min : mg "min" = none
  m_max : mg "max" = none
  m_range : mg "range" = none
  m_abs : mg "abs" = none
  m_isinstance : mg "isinstance" = none
  m_bool : mg "bool" = none
  m_list : mg "list" = none
  e_BadSum : ExAt K mg "BadSum"
  e_NoPost : ExAt K mg "NoPost"
  e_MeadError : ExAt K mg "MeadError"
  u_MOST_FIGURES : Value
  g_MOST_FIGURES : mg "MOST_FIGURES" = some u_MOST_FIGURES
  r_MOST_FIGURES : RelV (.int 400) u_MOST_FIGURES
  u_FIGURES : Value
  g_FIGURES : mg "FIGURES" = some u_FIGURES
  r_FIGURES : RelV (.str "0123456789") u_FIGURES
  ex1_BadSum : PySem.W.findIn K (.ref e_BadSum.c) "__getattribute__" = some (some (.builtin "BaseException.__getattribute__"))
  ex2_BadSum : PySem.W.findIn K (.ref e_BadSum.c) "__getattr__" = some none
  ex3_BadSum : PySem.W.hasDictIn K e_BadSum.c = true
  ex4_BadSum : PySem.W.findIn K (.ref e_BadSum.c) "__class__" = some (some (.builtin "object.__class__"))
  ex5_BadSum : PySem.W.specialIn K (.builtin "object.__class__") "__get__" = some (some (.builtin "getset_descriptor.__get__"))
  ex6_BadSum : PySem.W.takesIn K (.builtin "object.__class__") = some true
  ex7_BadSum : PySem.W.mroIn K e_BadSum.c (.type "object") = some true
  kit_BadSum_MeadError : PySem.W.kitOne K (.ref e_BadSum.c) (.ref e_MeadError.c) = some true
  exm_BadSum_MeadError : PySem.W.exmOne K (.ref e_BadSum.c) (.ref e_MeadError.c) = some true
  kit_BadSum_BadSum : PySem.W.kitOne K (.ref e_BadSum.c) (.ref e_BadSum.c) = some true
  exm_BadSum_BadSum : PySem.W.exmOne K (.ref e_BadSum.c) (.ref e_BadSum.c) = some true
abbrev Tx.a_whole_of {K : PySem.W.Frag} {mg : Str → Option Value} (T : Tx K mg) : Addr := T.d_whole_of.a
abbrev Tx.fd_whole_of {K : PySem.W.Frag} {mg : Str → Option Value} (T : Tx K mg) : FuncData := T.d_whole_of.fd
theorem Tx.F_whole_of {K : PySem.W.Frag} {mg : Str → Option Value} (T : Tx K mg) : Fun K "whole_of" "whole_of" s_whole_of T.a_whole_of T.fd_whole_of := T.d_whole_of.F
theorem Tx.g_whole_of {K : PySem.W.Frag} {mg : Str → Option Value} (T : Tx K mg) : mg "whole_of" = some (.ref T.a_whole_of) := T.d_whole_of.g
theorem Tx.b_whole_of {K : PySem.W.Frag} {mg : Str → Option Value} (T : Tx K mg) : Binds K T.fd_whole_of ["word"] [] := T.d_whole_of.b
abbrev Tx.a_settled {K : PySem.W.Frag} {mg : Str → Option Value} (T : Tx K mg) : Addr := T.d_settled.a
abbrev Tx.fd_settled {K : PySem.W.Frag} {mg : Str → Option Value} (T : Tx K mg) : FuncData := T.d_settled.fd
theorem Tx.F_settled {K : PySem.W.Frag} {mg : Str → Option Value} (T : Tx K mg) : Fun K "settled" "settled" s_settled T.a_settled T.fd_settled := T.d_settled.F
theorem Tx.g_settled {K : PySem.W.Frag} {mg : Str → Option Value} (T : Tx K mg) : mg "settled" = some (.ref T.a_settled) := T.d_settled.g
theorem Tx.b_settled {K : PySem.W.Frag} {mg : Str → Option Value} (T : Tx K mg) : Binds K T.fd_settled ["counts"] [] := T.d_settled.b
abbrev Tx.a_row_of {K : PySem.W.Frag} {mg : Str → Option Value} (T : Tx K mg) : Addr := T.d_row_of.a
abbrev Tx.fd_row_of {K : PySem.W.Frag} {mg : Str → Option Value} (T : Tx K mg) : FuncData := T.d_row_of.fd
theorem Tx.F_row_of {K : PySem.W.Frag} {mg : Str → Option Value} (T : Tx K mg) : Fun K "row_of" "row_of" s_row_of T.a_row_of T.fd_row_of := T.d_row_of.F
theorem Tx.g_row_of {K : PySem.W.Frag} {mg : Str → Option Value} (T : Tx K mg) : mg "row_of" = some (.ref T.a_row_of) := T.d_row_of.g
theorem Tx.b_row_of {K : PySem.W.Frag} {mg : Str → Option Value} (T : Tx K mg) : Binds K T.fd_row_of ["powers"] [] := T.d_row_of.b
abbrev Tx.a_term_text {K : PySem.W.Frag} {mg : Str → Option Value} (T : Tx K mg) : Addr := T.d_term_text.a
abbrev Tx.fd_term_text {K : PySem.W.Frag} {mg : Str → Option Value} (T : Tx K mg) : FuncData := T.d_term_text.fd
theorem Tx.F_term_text {K : PySem.W.Frag} {mg : Str → Option Value} (T : Tx K mg) : Fun K "term_text" "term_text" s_term_text T.a_term_text T.fd_term_text := T.d_term_text.F
theorem Tx.g_term_text {K : PySem.W.Frag} {mg : Str → Option Value} (T : Tx K mg) : mg "term_text" = some (.ref T.a_term_text) := T.d_term_text.g
theorem Tx.b_term_text {K : PySem.W.Frag} {mg : Str → Option Value} (T : Tx K mg) : Binds K T.fd_term_text ["row", "count"] [] := T.d_term_text.b
abbrev Tx.a_sum_text {K : PySem.W.Frag} {mg : Str → Option Value} (T : Tx K mg) : Addr := T.d_sum_text.a
abbrev Tx.fd_sum_text {K : PySem.W.Frag} {mg : Str → Option Value} (T : Tx K mg) : FuncData := T.d_sum_text.fd
theorem Tx.F_sum_text {K : PySem.W.Frag} {mg : Str → Option Value} (T : Tx K mg) : Fun K "sum_text" "sum_text" s_sum_text T.a_sum_text T.fd_sum_text := T.d_sum_text.F
theorem Tx.g_sum_text {K : PySem.W.Frag} {mg : Str → Option Value} (T : Tx K mg) : mg "sum_text" = some (.ref T.a_sum_text) := T.d_sum_text.g
theorem Tx.b_sum_text {K : PySem.W.Frag} {mg : Str → Option Value} (T : Tx K mg) : Binds K T.fd_sum_text ["one"] [] := T.d_sum_text.b
abbrev Tx.a_signed_of {K : PySem.W.Frag} {mg : Str → Option Value} (T : Tx K mg) : Addr := T.d_signed_of.a
abbrev Tx.fd_signed_of {K : PySem.W.Frag} {mg : Str → Option Value} (T : Tx K mg) : FuncData := T.d_signed_of.fd
theorem Tx.F_signed_of {K : PySem.W.Frag} {mg : Str → Option Value} (T : Tx K mg) : Fun K "signed_of" "signed_of" s_signed_of T.a_signed_of T.fd_signed_of := T.d_signed_of.F
theorem Tx.g_signed_of {K : PySem.W.Frag} {mg : Str → Option Value} (T : Tx K mg) : mg "signed_of" = some (.ref T.a_signed_of) := T.d_signed_of.g
theorem Tx.b_signed_of {K : PySem.W.Frag} {mg : Str → Option Value} (T : Tx K mg) : Binds K T.fd_signed_of ["word"] [] := T.d_signed_of.b
abbrev Tx.a_mark_of {K : PySem.W.Frag} {mg : Str → Option Value} (T : Tx K mg) : Addr := T.d_mark_of.a
abbrev Tx.fd_mark_of {K : PySem.W.Frag} {mg : Str → Option Value} (T : Tx K mg) : FuncData := T.d_mark_of.fd
theorem Tx.F_mark_of {K : PySem.W.Frag} {mg : Str → Option Value} (T : Tx K mg) : Fun K "mark_of" "mark_of" s_mark_of T.a_mark_of T.fd_mark_of := T.d_mark_of.F
theorem Tx.g_mark_of {K : PySem.W.Frag} {mg : Str → Option Value} (T : Tx K mg) : mg "mark_of" = some (.ref T.a_mark_of) := T.d_mark_of.g
theorem Tx.b_mark_of {K : PySem.W.Frag} {mg : Str → Option Value} (T : Tx K mg) : Binds K T.fd_mark_of ["word"] [] := T.d_mark_of.b
abbrev Tx.a_term_of {K : PySem.W.Frag} {mg : Str → Option Value} (T : Tx K mg) : Addr := T.d_term_of.a
abbrev Tx.fd_term_of {K : PySem.W.Frag} {mg : Str → Option Value} (T : Tx K mg) : FuncData := T.d_term_of.fd
theorem Tx.F_term_of {K : PySem.W.Frag} {mg : Str → Option Value} (T : Tx K mg) : Fun K "term_of" "term_of" s_term_of T.a_term_of T.fd_term_of := T.d_term_of.F
theorem Tx.g_term_of {K : PySem.W.Frag} {mg : Str → Option Value} (T : Tx K mg) : mg "term_of" = some (.ref T.a_term_of) := T.d_term_of.g
theorem Tx.b_term_of {K : PySem.W.Frag} {mg : Str → Option Value} (T : Tx K mg) : Binds K T.fd_term_of ["text"] [] := T.d_term_of.b
abbrev Tx.a_sum_read {K : PySem.W.Frag} {mg : Str → Option Value} (T : Tx K mg) : Addr := T.d_sum_read.a
abbrev Tx.fd_sum_read {K : PySem.W.Frag} {mg : Str → Option Value} (T : Tx K mg) : FuncData := T.d_sum_read.fd
theorem Tx.F_sum_read {K : PySem.W.Frag} {mg : Str → Option Value} (T : Tx K mg) : Fun K "sum_read" "sum_read" s_sum_read T.a_sum_read T.fd_sum_read := T.d_sum_read.F
theorem Tx.g_sum_read {K : PySem.W.Frag} {mg : Str → Option Value} (T : Tx K mg) : mg "sum_read" = some (.ref T.a_sum_read) := T.d_sum_read.g
theorem Tx.b_sum_read {K : PySem.W.Frag} {mg : Str → Option Value} (T : Tx K mg) : Binds K T.fd_sum_read ["line"] [] := T.d_sum_read.b
abbrev Tx.a_tie_of {K : PySem.W.Frag} {mg : Str → Option Value} (T : Tx K mg) : Addr := T.d_tie_of.a
abbrev Tx.fd_tie_of {K : PySem.W.Frag} {mg : Str → Option Value} (T : Tx K mg) : FuncData := T.d_tie_of.fd
theorem Tx.F_tie_of {K : PySem.W.Frag} {mg : Str → Option Value} (T : Tx K mg) : Fun K "tie_of" "tie_of" s_tie_of T.a_tie_of T.fd_tie_of := T.d_tie_of.F
theorem Tx.g_tie_of {K : PySem.W.Frag} {mg : Str → Option Value} (T : Tx K mg) : mg "tie_of" = some (.ref T.a_tie_of) := T.d_tie_of.g
theorem Tx.b_tie_of {K : PySem.W.Frag} {mg : Str → Option Value} (T : Tx K mg) : Binds K T.fd_tie_of ["a", "b"] [] := T.d_tie_of.b
abbrev Tx.a_crosses {K : PySem.W.Frag} {mg : Str → Option Value} (T : Tx K mg) : Addr := T.d_crosses.a
abbrev Tx.fd_crosses {K : PySem.W.Frag} {mg : Str → Option Value} (T : Tx K mg) : FuncData := T.d_crosses.fd
theorem Tx.F_crosses {K : PySem.W.Frag} {mg : Str → Option Value} (T : Tx K mg) : Fun K "crosses" "crosses" s_crosses T.a_crosses T.fd_crosses := T.d_crosses.F
theorem Tx.g_crosses {K : PySem.W.Frag} {mg : Str → Option Value} (T : Tx K mg) : mg "crosses" = some (.ref T.a_crosses) := T.d_crosses.g
theorem Tx.b_crosses {K : PySem.W.Frag} {mg : Str → Option Value} (T : Tx K mg) : Binds K T.fd_crosses ["one", "other"] [] := T.d_crosses.b
abbrev Tx.a_sides {K : PySem.W.Frag} {mg : Str → Option Value} (T : Tx K mg) : Addr := T.d_sides.a
abbrev Tx.fd_sides {K : PySem.W.Frag} {mg : Str → Option Value} (T : Tx K mg) : FuncData := T.d_sides.fd
theorem Tx.F_sides {K : PySem.W.Frag} {mg : Str → Option Value} (T : Tx K mg) : Fun K "sides" "sides" s_sides T.a_sides T.fd_sides := T.d_sides.F
theorem Tx.g_sides {K : PySem.W.Frag} {mg : Str → Option Value} (T : Tx K mg) : mg "sides" = some (.ref T.a_sides) := T.d_sides.g
theorem Tx.b_sides {K : PySem.W.Frag} {mg : Str → Option Value} (T : Tx K mg) : Binds K T.fd_sides ["n"] [] := T.d_sides.b
abbrev Tx.a_ties {K : PySem.W.Frag} {mg : Str → Option Value} (T : Tx K mg) : Addr := T.d_ties.a
abbrev Tx.fd_ties {K : PySem.W.Frag} {mg : Str → Option Value} (T : Tx K mg) : FuncData := T.d_ties.fd
theorem Tx.F_ties {K : PySem.W.Frag} {mg : Str → Option Value} (T : Tx K mg) : Fun K "ties" "ties" s_ties T.a_ties T.fd_ties := T.d_ties.F
theorem Tx.g_ties {K : PySem.W.Frag} {mg : Str → Option Value} (T : Tx K mg) : mg "ties" = some (.ref T.a_ties) := T.d_ties.g
theorem Tx.b_ties {K : PySem.W.Frag} {mg : Str → Option Value} (T : Tx K mg) : Binds K T.fd_ties ["n", "cut"] [] := T.d_ties.b
abbrev Tx.a_two_posts {K : PySem.W.Frag} {mg : Str → Option Value} (T : Tx K mg) : Addr := T.d_two_posts.a
abbrev Tx.fd_two_posts {K : PySem.W.Frag} {mg : Str → Option Value} (T : Tx K mg) : FuncData := T.d_two_posts.fd
theorem Tx.F_two_posts {K : PySem.W.Frag} {mg : Str → Option Value} (T : Tx K mg) : Fun K "two_posts" "two_posts" s_two_posts T.a_two_posts T.fd_two_posts := T.d_two_posts.F
theorem Tx.g_two_posts {K : PySem.W.Frag} {mg : Str → Option Value} (T : Tx K mg) : mg "two_posts" = some (.ref T.a_two_posts) := T.d_two_posts.g
theorem Tx.b_two_posts {K : PySem.W.Frag} {mg : Str → Option Value} (T : Tx K mg) : Binds K T.fd_two_posts ["n", "a", "b"] [] := T.d_two_posts.b
abbrev Tx.a_nearness {K : PySem.W.Frag} {mg : Str → Option Value} (T : Tx K mg) : Addr := T.d_nearness.a
abbrev Tx.fd_nearness {K : PySem.W.Frag} {mg : Str → Option Value} (T : Tx K mg) : FuncData := T.d_nearness.fd
theorem Tx.F_nearness {K : PySem.W.Frag} {mg : Str → Option Value} (T : Tx K mg) : Fun K "nearness" "nearness" s_nearness T.a_nearness T.fd_nearness := T.d_nearness.F
theorem Tx.g_nearness {K : PySem.W.Frag} {mg : Str → Option Value} (T : Tx K mg) : mg "nearness" = some (.ref T.a_nearness) := T.d_nearness.g
theorem Tx.b_nearness {K : PySem.W.Frag} {mg : Str → Option Value} (T : Tx K mg) : Binds K T.fd_nearness ["n", "rope", "a"] [] := T.d_nearness.b
abbrev Tx.a_across {K : PySem.W.Frag} {mg : Str → Option Value} (T : Tx K mg) : Addr := T.d_across.a
abbrev Tx.fd_across {K : PySem.W.Frag} {mg : Str → Option Value} (T : Tx K mg) : FuncData := T.d_across.fd
theorem Tx.F_across {K : PySem.W.Frag} {mg : Str → Option Value} (T : Tx K mg) : Fun K "across" "across" s_across T.a_across T.fd_across := T.d_across.F
theorem Tx.g_across {K : PySem.W.Frag} {mg : Str → Option Value} (T : Tx K mg) : mg "across" = some (.ref T.a_across) := T.d_across.g
theorem Tx.b_across {K : PySem.W.Frag} {mg : Str → Option Value} (T : Tx K mg) : Binds K T.fd_across ["n", "cut", "a", "b"] [] := T.d_across.b
abbrev Tx.a_neighbours {K : PySem.W.Frag} {mg : Str → Option Value} (T : Tx K mg) : Addr := T.d_neighbours.a
abbrev Tx.fd_neighbours {K : PySem.W.Frag} {mg : Str → Option Value} (T : Tx K mg) : FuncData := T.d_neighbours.fd
theorem Tx.F_neighbours {K : PySem.W.Frag} {mg : Str → Option Value} (T : Tx K mg) : Fun K "neighbours" "neighbours" s_neighbours T.a_neighbours T.fd_neighbours := T.d_neighbours.F
theorem Tx.g_neighbours {K : PySem.W.Frag} {mg : Str → Option Value} (T : Tx K mg) : mg "neighbours" = some (.ref T.a_neighbours) := T.d_neighbours.g
theorem Tx.b_neighbours {K : PySem.W.Frag} {mg : Str → Option Value} (T : Tx K mg) : Binds K T.fd_neighbours ["n", "cut"] [] := T.d_neighbours.b
abbrev Tx.a_onward {K : PySem.W.Frag} {mg : Str → Option Value} (T : Tx K mg) : Addr := T.d_onward.a
abbrev Tx.fd_onward {K : PySem.W.Frag} {mg : Str → Option Value} (T : Tx K mg) : FuncData := T.d_onward.fd
theorem Tx.F_onward {K : PySem.W.Frag} {mg : Str → Option Value} (T : Tx K mg) : Fun K "onward" "onward" s_onward T.a_onward T.fd_onward := T.d_onward.F
theorem Tx.g_onward {K : PySem.W.Frag} {mg : Str → Option Value} (T : Tx K mg) : mg "onward" = some (.ref T.a_onward) := T.d_onward.g
theorem Tx.b_onward {K : PySem.W.Frag} {mg : Str → Option Value} (T : Tx K mg) : Binds K T.fd_onward ["path", "tied", "places"] [] := T.d_onward.b
abbrev Tx.a_ways {K : PySem.W.Frag} {mg : Str → Option Value} (T : Tx K mg) : Addr := T.d_ways.a
abbrev Tx.fd_ways {K : PySem.W.Frag} {mg : Str → Option Value} (T : Tx K mg) : FuncData := T.d_ways.fd
theorem Tx.F_ways {K : PySem.W.Frag} {mg : Str → Option Value} (T : Tx K mg) : Fun K "ways" "ways" s_ways T.a_ways T.fd_ways := T.d_ways.F
theorem Tx.g_ways {K : PySem.W.Frag} {mg : Str → Option Value} (T : Tx K mg) : mg "ways" = some (.ref T.a_ways) := T.d_ways.g
theorem Tx.b_ways {K : PySem.W.Frag} {mg : Str → Option Value} (T : Tx K mg) : Binds K T.fd_ways ["n", "cut", "a", "b"] [] := T.d_ways.b
abbrev Tx.a_row_of_way {K : PySem.W.Frag} {mg : Str → Option Value} (T : Tx K mg) : Addr := T.d_row_of_way.a
abbrev Tx.fd_row_of_way {K : PySem.W.Frag} {mg : Str → Option Value} (T : Tx K mg) : FuncData := T.d_row_of_way.fd
theorem Tx.F_row_of_way {K : PySem.W.Frag} {mg : Str → Option Value} (T : Tx K mg) : Fun K "row_of_way" "row_of_way" s_row_of_way T.a_row_of_way T.fd_row_of_way := T.d_row_of_way.F
theorem Tx.g_row_of_way {K : PySem.W.Frag} {mg : Str → Option Value} (T : Tx K mg) : mg "row_of_way" = some (.ref T.a_row_of_way) := T.d_row_of_way.g
theorem Tx.b_row_of_way {K : PySem.W.Frag} {mg : Str → Option Value} (T : Tx K mg) : Binds K T.fd_row_of_way ["way"] [] := T.d_row_of_way.b
abbrev Tx.a_told {K : PySem.W.Frag} {mg : Str → Option Value} (T : Tx K mg) : Addr := T.d_told.a
abbrev Tx.fd_told {K : PySem.W.Frag} {mg : Str → Option Value} (T : Tx K mg) : FuncData := T.d_told.fd
theorem Tx.F_told {K : PySem.W.Frag} {mg : Str → Option Value} (T : Tx K mg) : Fun K "told" "told" s_told T.a_told T.fd_told := T.d_told.F
theorem Tx.g_told {K : PySem.W.Frag} {mg : Str → Option Value} (T : Tx K mg) : mg "told" = some (.ref T.a_told) := T.d_told.g
theorem Tx.b_told {K : PySem.W.Frag} {mg : Str → Option Value} (T : Tx K mg) : Binds K T.fd_told ["n", "cut", "a", "b"] [] := T.d_told.b
abbrev Tx.a_law_flow {K : PySem.W.Frag} {mg : Str → Option Value} (T : Tx K mg) : Addr := T.d_law_flow.a
abbrev Tx.fd_law_flow {K : PySem.W.Frag} {mg : Str → Option Value} (T : Tx K mg) : FuncData := T.d_law_flow.fd
theorem Tx.F_law_flow {K : PySem.W.Frag} {mg : Str → Option Value} (T : Tx K mg) : Fun K "_law_flow" "_law_flow" s_law_flow T.a_law_flow T.fd_law_flow := T.d_law_flow.F
theorem Tx.g_law_flow {K : PySem.W.Frag} {mg : Str → Option Value} (T : Tx K mg) : mg "_law_flow" = some (.ref T.a_law_flow) := T.d_law_flow.g
theorem Tx.b_law_flow {K : PySem.W.Frag} {mg : Str → Option Value} (T : Tx K mg) : Binds K T.fd_law_flow ["_law_script", "_law_many"] [] := T.d_law_flow.b
abbrev Tx.a_law_whole {K : PySem.W.Frag} {mg : Str → Option Value} (T : Tx K mg) : Addr := T.d_law_whole.a
abbrev Tx.fd_law_whole {K : PySem.W.Frag} {mg : Str → Option Value} (T : Tx K mg) : FuncData := T.d_law_whole.fd
theorem Tx.F_law_whole {K : PySem.W.Frag} {mg : Str → Option Value} (T : Tx K mg) : Fun K "_law_whole" "_law_whole" s_law_whole T.a_law_whole T.fd_law_whole := T.d_law_whole.F
theorem Tx.g_law_whole {K : PySem.W.Frag} {mg : Str → Option Value} (T : Tx K mg) : mg "_law_whole" = some (.ref T.a_law_whole) := T.d_law_whole.g
theorem Tx.b_law_whole {K : PySem.W.Frag} {mg : Str → Option Value} (T : Tx K mg) : Binds K T.fd_law_whole ["_law_found"] [] := T.d_law_whole.b
abbrev Tx.a_law_pair {K : PySem.W.Frag} {mg : Str → Option Value} (T : Tx K mg) : Addr := T.d_law_pair.a
abbrev Tx.fd_law_pair {K : PySem.W.Frag} {mg : Str → Option Value} (T : Tx K mg) : FuncData := T.d_law_pair.fd
theorem Tx.F_law_pair {K : PySem.W.Frag} {mg : Str → Option Value} (T : Tx K mg) : Fun K "_law_pair" "_law_pair" s_law_pair T.a_law_pair T.fd_law_pair := T.d_law_pair.F
theorem Tx.g_law_pair {K : PySem.W.Frag} {mg : Str → Option Value} (T : Tx K mg) : mg "_law_pair" = some (.ref T.a_law_pair) := T.d_law_pair.g
theorem Tx.b_law_pair {K : PySem.W.Frag} {mg : Str → Option Value} (T : Tx K mg) : Binds K T.fd_law_pair ["_law_a", "_law_b"] [] := T.d_law_pair.b
abbrev Tx.a_law_ears {K : PySem.W.Frag} {mg : Str → Option Value} (T : Tx K mg) : Addr := T.d_law_ears.a
abbrev Tx.fd_law_ears {K : PySem.W.Frag} {mg : Str → Option Value} (T : Tx K mg) : FuncData := T.d_law_ears.fd
theorem Tx.F_law_ears {K : PySem.W.Frag} {mg : Str → Option Value} (T : Tx K mg) : Fun K "_law_ears" "_law_ears" s_law_ears T.a_law_ears T.fd_law_ears := T.d_law_ears.F
theorem Tx.g_law_ears {K : PySem.W.Frag} {mg : Str → Option Value} (T : Tx K mg) : mg "_law_ears" = some (.ref T.a_law_ears) := T.d_law_ears.g
theorem Tx.b_law_ears {K : PySem.W.Frag} {mg : Str → Option Value} (T : Tx K mg) : Binds K T.fd_law_ears ["_law_n", "_law_row"] [] := T.d_law_ears.b
abbrev Tx.a_law_ropes {K : PySem.W.Frag} {mg : Str → Option Value} (T : Tx K mg) : Addr := T.d_law_ropes.a
abbrev Tx.fd_law_ropes {K : PySem.W.Frag} {mg : Str → Option Value} (T : Tx K mg) : FuncData := T.d_law_ropes.fd
theorem Tx.F_law_ropes {K : PySem.W.Frag} {mg : Str → Option Value} (T : Tx K mg) : Fun K "_law_ropes" "_law_ropes" s_law_ropes T.a_law_ropes T.fd_law_ropes := T.d_law_ropes.F
theorem Tx.g_law_ropes {K : PySem.W.Frag} {mg : Str → Option Value} (T : Tx K mg) : mg "_law_ropes" = some (.ref T.a_law_ropes) := T.d_law_ropes.g
theorem Tx.b_law_ropes {K : PySem.W.Frag} {mg : Str → Option Value} (T : Tx K mg) : Binds K T.fd_law_ropes ["_law_ears_here"] [] := T.d_law_ropes.b
abbrev Tx.a_law_tuple {K : PySem.W.Frag} {mg : Str → Option Value} (T : Tx K mg) : Addr := T.d_law_tuple.a
abbrev Tx.fd_law_tuple {K : PySem.W.Frag} {mg : Str → Option Value} (T : Tx K mg) : FuncData := T.d_law_tuple.fd
theorem Tx.F_law_tuple {K : PySem.W.Frag} {mg : Str → Option Value} (T : Tx K mg) : Fun K "_law_tuple" "_law_tuple" s_law_tuple T.a_law_tuple T.fd_law_tuple := T.d_law_tuple.F
theorem Tx.g_law_tuple {K : PySem.W.Frag} {mg : Str → Option Value} (T : Tx K mg) : mg "_law_tuple" = some (.ref T.a_law_tuple) := T.d_law_tuple.g
theorem Tx.b_law_tuple {K : PySem.W.Frag} {mg : Str → Option Value} (T : Tx K mg) : Binds K T.fd_law_tuple ["_law_found", "_law_many"] [] := T.d_law_tuple.b
abbrev Tx.a_law_sum {K : PySem.W.Frag} {mg : Str → Option Value} (T : Tx K mg) : Addr := T.d_law_sum.a
abbrev Tx.fd_law_sum {K : PySem.W.Frag} {mg : Str → Option Value} (T : Tx K mg) : FuncData := T.d_law_sum.fd
theorem Tx.F_law_sum {K : PySem.W.Frag} {mg : Str → Option Value} (T : Tx K mg) : Fun K "_law_sum" "_law_sum" s_law_sum T.a_law_sum T.fd_law_sum := T.d_law_sum.F
theorem Tx.g_law_sum {K : PySem.W.Frag} {mg : Str → Option Value} (T : Tx K mg) : mg "_law_sum" = some (.ref T.a_law_sum) := T.d_law_sum.g
theorem Tx.b_law_sum {K : PySem.W.Frag} {mg : Str → Option Value} (T : Tx K mg) : Binds K T.fd_law_sum ["_law_found"] [] := T.d_law_sum.b
abbrev Tx.a_law_row_times {K : PySem.W.Frag} {mg : Str → Option Value} (T : Tx K mg) : Addr := T.d_law_row_times.a
abbrev Tx.fd_law_row_times {K : PySem.W.Frag} {mg : Str → Option Value} (T : Tx K mg) : FuncData := T.d_law_row_times.fd
theorem Tx.F_law_row_times {K : PySem.W.Frag} {mg : Str → Option Value} (T : Tx K mg) : Fun K "_law_row_times" "_law_row_times" s_law_row_times T.a_law_row_times T.fd_law_row_times := T.d_law_row_times.F
theorem Tx.g_law_row_times {K : PySem.W.Frag} {mg : Str → Option Value} (T : Tx K mg) : mg "_law_row_times" = some (.ref T.a_law_row_times) := T.d_law_row_times.g
theorem Tx.b_law_row_times {K : PySem.W.Frag} {mg : Str → Option Value} (T : Tx K mg) : Binds K T.fd_law_row_times ["_law_one", "_law_other"] [] := T.d_law_row_times.b
abbrev Tx.a_law_settled {K : PySem.W.Frag} {mg : Str → Option Value} (T : Tx K mg) : Addr := T.d_law_settled.a
abbrev Tx.fd_law_settled {K : PySem.W.Frag} {mg : Str → Option Value} (T : Tx K mg) : FuncData := T.d_law_settled.fd
theorem Tx.F_law_settled {K : PySem.W.Frag} {mg : Str → Option Value} (T : Tx K mg) : Fun K "_law_settled" "_law_settled" s_law_settled T.a_law_settled T.fd_law_settled := T.d_law_settled.F
theorem Tx.g_law_settled {K : PySem.W.Frag} {mg : Str → Option Value} (T : Tx K mg) : mg "_law_settled" = some (.ref T.a_law_settled) := T.d_law_settled.g
theorem Tx.b_law_settled {K : PySem.W.Frag} {mg : Str → Option Value} (T : Tx K mg) : Binds K T.fd_law_settled ["_law_terms"] [] := T.d_law_settled.b
abbrev Tx.a_law_draw_sum {K : PySem.W.Frag} {mg : Str → Option Value} (T : Tx K mg) : Addr := T.d_law_draw_sum.a
abbrev Tx.fd_law_draw_sum {K : PySem.W.Frag} {mg : Str → Option Value} (T : Tx K mg) : FuncData := T.d_law_draw_sum.fd
theorem Tx.F_law_draw_sum {K : PySem.W.Frag} {mg : Str → Option Value} (T : Tx K mg) : Fun K "_law_draw_sum" "_law_draw_sum" s_law_draw_sum T.a_law_draw_sum T.fd_law_draw_sum := T.d_law_draw_sum.F
theorem Tx.g_law_draw_sum {K : PySem.W.Frag} {mg : Str → Option Value} (T : Tx K mg) : mg "_law_draw_sum" = some (.ref T.a_law_draw_sum) := T.d_law_draw_sum.g
theorem Tx.b_law_draw_sum {K : PySem.W.Frag} {mg : Str → Option Value} (T : Tx K mg) : Binds K T.fd_law_draw_sum ["_law_row", "_law_terms", "_law_marks"] [] := T.d_law_draw_sum.b
abbrev Tx.a_law_two {K : PySem.W.Frag} {mg : Str → Option Value} (T : Tx K mg) : Addr := T.d_law_two.a
abbrev Tx.fd_law_two {K : PySem.W.Frag} {mg : Str → Option Value} (T : Tx K mg) : FuncData := T.d_law_two.fd
theorem Tx.F_law_two {K : PySem.W.Frag} {mg : Str → Option Value} (T : Tx K mg) : Fun K "_law_two" "_law_two" s_law_two T.a_law_two T.fd_law_two := T.d_law_two.F
theorem Tx.g_law_two {K : PySem.W.Frag} {mg : Str → Option Value} (T : Tx K mg) : mg "_law_two" = some (.ref T.a_law_two) := T.d_law_two.g
theorem Tx.b_law_two {K : PySem.W.Frag} {mg : Str → Option Value} (T : Tx K mg) : Binds K T.fd_law_two ["_law_n", "_law_one", "_law_other", "_law_wild"] [] := T.d_law_two.b
abbrev Tx.a_law_number {K : PySem.W.Frag} {mg : Str → Option Value} (T : Tx K mg) : Addr := T.d_law_number.a
abbrev Tx.fd_law_number {K : PySem.W.Frag} {mg : Str → Option Value} (T : Tx K mg) : FuncData := T.d_law_number.fd
theorem Tx.F_law_number {K : PySem.W.Frag} {mg : Str → Option Value} (T : Tx K mg) : Fun K "_law_number" "_law_number" s_law_number T.a_law_number T.fd_law_number := T.d_law_number.F
theorem Tx.g_law_number {K : PySem.W.Frag} {mg : Str → Option Value} (T : Tx K mg) : mg "_law_number" = some (.ref T.a_law_number) := T.d_law_number.g
theorem Tx.b_law_number {K : PySem.W.Frag} {mg : Str → Option Value} (T : Tx K mg) : Binds K T.fd_law_number ["_law_word", "_law_least"] [] := T.d_law_number.b
abbrev Tx.a_law_signed {K : PySem.W.Frag} {mg : Str → Option Value} (T : Tx K mg) : Addr := T.d_law_signed.a
abbrev Tx.fd_law_signed {K : PySem.W.Frag} {mg : Str → Option Value} (T : Tx K mg) : FuncData := T.d_law_signed.fd
theorem Tx.F_law_signed {K : PySem.W.Frag} {mg : Str → Option Value} (T : Tx K mg) : Fun K "_law_signed" "_law_signed" s_law_signed T.a_law_signed T.fd_law_signed := T.d_law_signed.F
theorem Tx.g_law_signed {K : PySem.W.Frag} {mg : Str → Option Value} (T : Tx K mg) : mg "_law_signed" = some (.ref T.a_law_signed) := T.d_law_signed.g
theorem Tx.b_law_signed {K : PySem.W.Frag} {mg : Str → Option Value} (T : Tx K mg) : Binds K T.fd_law_signed ["_law_word"] [] := T.d_law_signed.b
abbrev Tx.a_law_mark {K : PySem.W.Frag} {mg : Str → Option Value} (T : Tx K mg) : Addr := T.d_law_mark.a
abbrev Tx.fd_law_mark {K : PySem.W.Frag} {mg : Str → Option Value} (T : Tx K mg) : FuncData := T.d_law_mark.fd
theorem Tx.F_law_mark {K : PySem.W.Frag} {mg : Str → Option Value} (T : Tx K mg) : Fun K "_law_mark" "_law_mark" s_law_mark T.a_law_mark T.fd_law_mark := T.d_law_mark.F
theorem Tx.g_law_mark {K : PySem.W.Frag} {mg : Str → Option Value} (T : Tx K mg) : mg "_law_mark" = some (.ref T.a_law_mark) := T.d_law_mark.g
theorem Tx.b_law_mark {K : PySem.W.Frag} {mg : Str → Option Value} (T : Tx K mg) : Binds K T.fd_law_mark ["_law_word"] [] := T.d_law_mark.b
abbrev Tx.a_law_term {K : PySem.W.Frag} {mg : Str → Option Value} (T : Tx K mg) : Addr := T.d_law_term.a
abbrev Tx.fd_law_term {K : PySem.W.Frag} {mg : Str → Option Value} (T : Tx K mg) : FuncData := T.d_law_term.fd
theorem Tx.F_law_term {K : PySem.W.Frag} {mg : Str → Option Value} (T : Tx K mg) : Fun K "_law_term" "_law_term" s_law_term T.a_law_term T.fd_law_term := T.d_law_term.F
theorem Tx.g_law_term {K : PySem.W.Frag} {mg : Str → Option Value} (T : Tx K mg) : mg "_law_term" = some (.ref T.a_law_term) := T.d_law_term.g
theorem Tx.b_law_term {K : PySem.W.Frag} {mg : Str → Option Value} (T : Tx K mg) : Binds K T.fd_law_term ["_law_text_here"] [] := T.d_law_term.b
abbrev Tx.a_law_due {K : PySem.W.Frag} {mg : Str → Option Value} (T : Tx K mg) : Addr := T.d_law_due.a
abbrev Tx.fd_law_due {K : PySem.W.Frag} {mg : Str → Option Value} (T : Tx K mg) : FuncData := T.d_law_due.fd
theorem Tx.F_law_due {K : PySem.W.Frag} {mg : Str → Option Value} (T : Tx K mg) : Fun K "_law_due" "_law_due" s_law_due T.a_law_due T.fd_law_due := T.d_law_due.F
theorem Tx.g_law_due {K : PySem.W.Frag} {mg : Str → Option Value} (T : Tx K mg) : mg "_law_due" = some (.ref T.a_law_due) := T.d_law_due.g
theorem Tx.b_law_due {K : PySem.W.Frag} {mg : Str → Option Value} (T : Tx K mg) : Binds K T.fd_law_due ["_law_line"] [] := T.d_law_due.b
abbrev Tx.a_law_text {K : PySem.W.Frag} {mg : Str → Option Value} (T : Tx K mg) : Addr := T.d_law_text.a
abbrev Tx.fd_law_text {K : PySem.W.Frag} {mg : Str → Option Value} (T : Tx K mg) : FuncData := T.d_law_text.fd
theorem Tx.F_law_text {K : PySem.W.Frag} {mg : Str → Option Value} (T : Tx K mg) : Fun K "_law_text" "_law_text" s_law_text T.a_law_text T.fd_law_text := T.d_law_text.F
theorem Tx.g_law_text {K : PySem.W.Frag} {mg : Str → Option Value} (T : Tx K mg) : mg "_law_text" = some (.ref T.a_law_text) := T.d_law_text.g
theorem Tx.b_law_text {K : PySem.W.Frag} {mg : Str → Option Value} (T : Tx K mg) : Binds K T.fd_law_text ["_law_one"] [] := T.d_law_text.b
abbrev Tx.a_law_odd {K : PySem.W.Frag} {mg : Str → Option Value} (T : Tx K mg) : Addr := T.d_law_odd.a
abbrev Tx.fd_law_odd {K : PySem.W.Frag} {mg : Str → Option Value} (T : Tx K mg) : FuncData := T.d_law_odd.fd
theorem Tx.F_law_odd {K : PySem.W.Frag} {mg : Str → Option Value} (T : Tx K mg) : Fun K "_law_odd" "_law_odd" s_law_odd T.a_law_odd T.fd_law_odd := T.d_law_odd.F
theorem Tx.g_law_odd {K : PySem.W.Frag} {mg : Str → Option Value} (T : Tx K mg) : mg "_law_odd" = some (.ref T.a_law_odd) := T.d_law_odd.g
theorem Tx.b_law_odd {K : PySem.W.Frag} {mg : Str → Option Value} (T : Tx K mg) : Binds K T.fd_law_odd ["_law_one"] [] := T.d_law_odd.b
abbrev Tx.a_law_spoilt {K : PySem.W.Frag} {mg : Str → Option Value} (T : Tx K mg) : Addr := T.d_law_spoilt.a
abbrev Tx.fd_law_spoilt {K : PySem.W.Frag} {mg : Str → Option Value} (T : Tx K mg) : FuncData := T.d_law_spoilt.fd
theorem Tx.F_law_spoilt {K : PySem.W.Frag} {mg : Str → Option Value} (T : Tx K mg) : Fun K "_law_spoilt" "_law_spoilt" s_law_spoilt T.a_law_spoilt T.fd_law_spoilt := T.d_law_spoilt.F
theorem Tx.g_law_spoilt {K : PySem.W.Frag} {mg : Str → Option Value} (T : Tx K mg) : mg "_law_spoilt" = some (.ref T.a_law_spoilt) := T.d_law_spoilt.g
theorem Tx.b_law_spoilt {K : PySem.W.Frag} {mg : Str → Option Value} (T : Tx K mg) : Binds K T.fd_law_spoilt ["_law_line", "_law_row"] [] := T.d_law_spoilt.b
abbrev Tx.a_law {K : PySem.W.Frag} {mg : Str → Option Value} (T : Tx K mg) : Addr := T.d_law.a
abbrev Tx.fd_law {K : PySem.W.Frag} {mg : Str → Option Value} (T : Tx K mg) : FuncData := T.d_law.fd
theorem Tx.F_law {K : PySem.W.Frag} {mg : Str → Option Value} (T : Tx K mg) : Fun K "law" "law" s_law T.a_law T.fd_law := T.d_law.F
theorem Tx.g_law {K : PySem.W.Frag} {mg : Str → Option Value} (T : Tx K mg) : mg "law" = some (.ref T.a_law) := T.d_law.g
abbrev Tx.c_BadSum {K : PySem.W.Frag} {mg : Str → Option Value} (T : Tx K mg) : Addr := T.e_BadSum.c
theorem Tx.g_BadSum {K : PySem.W.Frag} {mg : Str → Option Value} (T : Tx K mg) : mg "BadSum" = some (.ref T.c_BadSum) := T.e_BadSum.g
theorem Tx.x_BadSum {K : PySem.W.Frag} {mg : Str → Option Value} (T : Tx K mg) : PySem.W.excIn K T.c_BadSum [.type "ValueError", .type "Exception", .type "BaseException", .type "object"] "ValueError.__new__" = true := T.e_BadSum.x
theorem Tx.k_BadSum {K : PySem.W.Frag} {mg : Str → Option Value} (T : Tx K mg) : PySem.W.keepIn K (.ref T.c_BadSum) = true := T.e_BadSum.k
theorem Tx.b_BadSum {K : PySem.W.Frag} {mg : Str → Option Value} (T : Tx K mg) : PySem.W.subIn K (.ref T.c_BadSum) (.type "BaseException") = some true := T.e_BadSum.b
theorem Tx.t_BadSum {K : PySem.W.Frag} {mg : Str → Option Value} (T : Tx K mg) : PySem.W.typeIn K (.ref T.c_BadSum) = some (.type "type") := T.e_BadSum.t
abbrev Tx.c_NoPost {K : PySem.W.Frag} {mg : Str → Option Value} (T : Tx K mg) : Addr := T.e_NoPost.c
theorem Tx.g_NoPost {K : PySem.W.Frag} {mg : Str → Option Value} (T : Tx K mg) : mg "NoPost" = some (.ref T.c_NoPost) := T.e_NoPost.g
theorem Tx.x_NoPost {K : PySem.W.Frag} {mg : Str → Option Value} (T : Tx K mg) : PySem.W.excIn K T.c_NoPost [.type "ValueError", .type "Exception", .type "BaseException", .type "object"] "ValueError.__new__" = true := T.e_NoPost.x
theorem Tx.k_NoPost {K : PySem.W.Frag} {mg : Str → Option Value} (T : Tx K mg) : PySem.W.keepIn K (.ref T.c_NoPost) = true := T.e_NoPost.k
theorem Tx.b_NoPost {K : PySem.W.Frag} {mg : Str → Option Value} (T : Tx K mg) : PySem.W.subIn K (.ref T.c_NoPost) (.type "BaseException") = some true := T.e_NoPost.b
theorem Tx.t_NoPost {K : PySem.W.Frag} {mg : Str → Option Value} (T : Tx K mg) : PySem.W.typeIn K (.ref T.c_NoPost) = some (.type "type") := T.e_NoPost.t
abbrev Tx.c_MeadError {K : PySem.W.Frag} {mg : Str → Option Value} (T : Tx K mg) : Addr := T.e_MeadError.c
theorem Tx.g_MeadError {K : PySem.W.Frag} {mg : Str → Option Value} (T : Tx K mg) : mg "MeadError" = some (.ref T.c_MeadError) := T.e_MeadError.g
theorem Tx.exc_BadSum {K : PySem.W.Frag} {mg : Str → Option Value} (T : Tx K mg) : ExcC K T.c_BadSum := ⟨T.ex1_BadSum, T.ex2_BadSum, T.b_BadSum, T.ex3_BadSum, T.ex4_BadSum, T.ex5_BadSum, T.ex6_BadSum, T.ex7_BadSum⟩
def spFlow (K : PySem.W.Frag) : Sp := fun vs H Q _ => ∃ (a : Addr) (ns : List Int) (m : Nat), vs = [.ref a, .int m] ∧ SqL K H a (ns.map V.int) ∧ m ≤ 100000 ∧
  ∀ (row : List Int) (H' : Hp) (p : Addr), row.length = m → (∀ x ∈ row, 0 ≤ x ∧ x < 1000000) → Same H H' → H p = none → H' p = some (.lst (row.map V.int)) → Q (.ref p) H'
theorem flow_more {row : List Int} {x : Int} (h : ∀ x ∈ row, 0 ≤ x ∧ x < 1000000) (h0 : 0 ≤ x) (h1 : x < 1000000) : ∀ y ∈ row ++ [x], 0 ≤ y ∧ y < 1000000 := fun y hy => by
  rcases List.mem_append.mp hy with q | q
  · exact h y q
  · rw [List.mem_singleton.mp q]; exact ⟨h0, h1⟩
section
variable {P : Program} {w : World} {K : PySem.W.Frag} {mg : Str → Option Value} {base : Heap}
theorem ok_law_flow (T : Tx K mg) : FnOk P w K mg base CX0 1 T.a_law_flow T.fd_law_flow ["_law_script", "_law_many"] (spFlow K) := by
  refine T.F_law_flow.ok sc_law_flow (fun vs H Q E h => ?_) (fun cdv A outer s H vs Q E hr h => ?_)
  · obtain ⟨a, ns, m, rfl, _⟩ := h
    rfl
  obtain ⟨a, ns, m, rfl, hS, hm, q⟩ := h
  refine ⟨_, (pss_cons (ps_set (i := 2) sc_law_flow.nd rfl (.inl rfl) (pe_int))
      (C8.pss_cut (ps_if (PW.pt (pw_and (pt_cmpR op_gt (pe_callB (c_len (K := K)) (by rfl) T.m_len PySem.boot_len (pa_cons (pv 0) pa_nil)) (pe_int) (nomark _)) (pw_and1 (pt_cmpR op_ge (pe_callB c_abs (by rfl) T.m_abs (by decide +kernel) (pa_cons (pe_ix (ix_listK (K := K)) (pv 0) (pe_int) (fun _ _ => rfl)) pa_nil)) (pe_op op_pow (pe_int) (pe_int)) (nomark _))))) (pss_one (ps_set (i := 2) sc_law_flow.nd rfl (.inl rfl) (pe_op op_sub (pe_callB c_abs (by rfl) T.m_abs (by decide +kernel) (pa_cons (pe_ix (ix_listK (K := K)) (pv 0) (pe_int) (fun _ _ => rfl)) pa_nil)) (pe_op op_pow (pe_int) (pe_int))))) pss_nil)
      (pss_cons (ps_set (i := 3) sc_law_flow.nd rfl (.inl rfl) (pe_lst pa_nil))
      (pss_cons (ps_for PassesOwn.never rfl (pi_range1 (by rfl) T.m_range (pa_cons (pv 1) pa_nil)) (pg_name (i := 4) sc_law_flow.nd rfl (.inl rfl)) (pss_one (ps_if (pt_cmpR op_gt (pv 2) (pe_int) (nomark _)) (pss_cons (ps_expr (k_bm (K := K) (pe_bm PySem.F.plainAttrs_list PySem.F.slot_list_append PySem.F.type_list_append mt_append (pv 3) (pa_cons (pe_op op_mod (pv 2) (pe_int)) pa_nil))))
      (pss_one (ps_set (i := 2) sc_law_flow.nd rfl (.inl rfl) (pe_op op_fdiv (pv 2) (pe_int))))) (pss_cons (ps_set (i := 5) sc_law_flow.nd rfl (.inl rfl) (pe_op op_add (pv 4) (pe_int)))
      (C8.pss_cut (ps_if (pt_cmpR op_gt (pe_callB (c_len (K := K)) (by rfl) T.m_len PySem.boot_len (pa_cons (pv 0) pa_nil)) (pe_int) (nomark _)) (pss_one (ps_set (i := 5) sc_law_flow.nd rfl (.inl rfl) (pe_ix (ix_listK (K := K)) (pv 0) (pe_op op_mod (pv 4) (pe_callB (c_len (K := K)) (by rfl) T.m_len PySem.boot_len (pa_cons (pv 0) pa_nil))) (fun _ _ => rfl)))) pss_nil)
      (pss_cons (ps_set (i := 6) sc_law_flow.nd rfl (.inl rfl) (pe_op op_mod (pe_op op_add (pe_op op_add (pe_op op_mul (pv 5) (pe_int)) (pe_op op_mul (pv 4) (pe_int))) (pe_int)) (pe_int)))
      (pss_cons (ps_set (i := 6) sc_law_flow.nd rfl (.inl rfl) (pe_op op_mod (pe_op op_add (pe_op op_add (pe_op op_mul (pv 6) (pe_int)) (pe_op op_mul (pv 4) (pe_int))) (pe_callB (c_len (K := K)) (by rfl) T.m_len PySem.boot_len (pa_cons (pv 0) pa_nil))) (pe_int)))
      (pss_one (ps_expr (k_bm (K := K) (pe_bm PySem.F.plainAttrs_list PySem.F.slot_list_append PySem.F.type_list_append mt_append (pv 3) (pa_cons (pe_op op_mod (pe_op op_fdiv (pv 6) (pe_int)) (pe_int)) pa_nil))))))))))))
      (pss_one (ps_ret (pv 3))))))), ?_⟩
  walk_at "st"
  have hl : (ns.map V.int).length = ns.length := List.length_map _
  refine Pm.w_cut (fun σ' H' => ∃ g : Int, σ' = [some (.ref a), some (.int m), some (.int g), none, none, none, none] ∧ H' = H) ?_ ?_
  · walk_at "st"
    refine Pm.w_len (.inl hS) ?_
    walk_at "st"
    refine Pm.w_ite (fun c => ?_) (fun c => ?_)
    · rw [hl] at c
      walk_at "st"
      refine Pm.w_ixL hS (atI_int (by omega) (by omega)) ?_
      walk_at "st"
      refine Pm.w_ite (fun c => ?_) (fun c => ?_)
      · walk_at "st"
        refine Pm.w_ixL hS (atI_int (by omega) (by omega)) ?_
        walk_at "st"
        exact ⟨_, rfl, rfl⟩
      · walk_at "st"
        exact ⟨_, rfl, rfl⟩
    · walk_at "st"
      exact ⟨_, rfl, rfl⟩
  rintro σ H' ⟨g, rfl, rfl⟩
  walk_at "st"
  refine Pm.w_newL (fun p hp => ?_)
  walk_at "st"
  rw [Int.toNat_natCast]
  refine Pm.w_forR (fun i σ H2 => ∃ (g : Int) (row : List Int) (x4 x5 x6 : Option V), σ = [some (.ref a), some (.int m), some (.int g), some (.ref p), x4, x5, x6] ∧
    row.length = i ∧ (∀ x ∈ row, 0 ≤ x ∧ x < 1000000) ∧ H2 = upd H' p (.lst (row.map V.int))) ?_ ?_ ?_
  · exact ⟨g, [], none, none, none, rfl, rfl, fun x hx => absurd hx (List.not_mem_nil), rfl⟩
  · rintro i σ H2 hi ⟨g, row, x4, x5, x6, rfl, hrow, hb, rfl⟩
    have hS2 : SqL K (upd H' p (.lst (row.map V.int))) a (ns.map V.int) := (same_new hp _).seq hS
    have hz : (row.map V.int).length < sizeLine := by rw [List.length_map]; exact size_lt (by omega)
    have fin : ∀ x : Int, upd (upd H' p (.lst (row.map V.int))) p (.lst (row.map V.int ++ [.int x])) = upd H' p (.lst ((row ++ [x]).map V.int)) := fun x => by rw [upd_upd, List.map_append] <;> rfl
    walk_at "st"
    refine Pm.w_ite (fun c => ?_) (fun c => ?_)
    · walk_at "st"
      refine ⟨.inl ⟨rfl, _, SqL.of upd_same⟩, ?_⟩
      walk_at "st"
      refine Pm.w_append upd_same hz ?_
      walk_at "st"
      refine ⟨_, row ++ [g % 1000000], _, _, _, rfl, by rw [List.length_append, hrow] <;> rfl, flow_more hb (by omega) (by omega), fin _⟩
    · walk_at "st"
      refine Pm.w_cut (fun σ' H3 => ∃ cell : Int, σ' = [some (.ref a), some (.int m), some (.int g), some (.ref p), some (.int (0 + (i : Nat))), some (.int cell), x6] ∧ H3 = upd H' p (.lst (row.map V.int))) ?_ ?_
      · walk_at "st"
        refine Pm.w_len (.inl hS2) ?_
        walk_at "st"
        refine Pm.w_ite (fun c => ?_) (fun c => ?_)
        · rw [hl] at c
          walk_at "st"
          refine Pm.w_len (.inl hS2) ?_
          rw [hl]
          walk_at "st"
          refine Pm.w_ixL hS2 (atI_int (Int.emod_nonneg _ (by omega)) (Int.emod_lt_of_pos _ (by omega))) ?_
          walk_at "st"
          exact ⟨_, rfl, rfl⟩
        · walk_at "st"
          exact ⟨_, rfl, rfl⟩
      · rintro σ H3 ⟨cell, rfl, rfl⟩
        walk_at "st"
        refine Pm.w_len (.inl hS2) ?_
        walk_at "st"
        refine ⟨.inl ⟨rfl, _, SqL.of upd_same⟩, ?_⟩
        walk_at "st"
        refine Pm.w_append upd_same hz ?_
        walk_at "st"
        refine ⟨_, row ++ [_], _, _, _, rfl, by rw [List.length_append, hrow] <;> rfl, flow_more hb (Int.emod_nonneg _ (by decide)) (Int.emod_lt_of_pos _ (by decide)), fin _⟩
  · rintro σ H2 ⟨g, row, x4, x5, x6, rfl, hrow, hb, rfl⟩
    walk_at "st"
    exact q row _ p hrow hb (same_new hp _) hp upd_same
end
section
variable {P : Program} {w : World} {K : PySem.W.Frag} {mg : Str → Option Value} {base : Heap}
def spWhole : Sp := fun vs H Q _ => ∃ i : Int, vs = [.int i] ∧ Q (.bl true) H
theorem ok_law_whole (T : Tx K mg) : FnOk P w K mg base CX0 1 T.a_law_whole T.fd_law_whole ["_law_found"] spWhole := by
  refine T.F_law_whole.ok sc_law_whole (fun vs H Q E h => ?_) (fun cdv A outer s H vs Q E hr h => ?_)
  · obtain ⟨i, rfl, _⟩ := h
    rfl
  obtain ⟨i, rfl, q⟩ := h
  refine ⟨_, (pss_one (ps_ret ((pe_and (pe_callB (call_isK (K := K)) (by rfl) T.m_isinstance (by decide +kernel) (pa_cons (pv 0) (pa_cons (pe_bltn (v := .ty "int") (by rfl) T.m_int (by decide +kernel) rfl) pa_nil))) (pe_one (pe_not (pe_callB (call_isK (K := K)) (by rfl) T.m_isinstance (by decide +kernel) (pa_cons (pv 0) (pa_cons (pe_bltn (v := .ty "bool") (by rfl) T.m_bool (by decide +kernel) rfl) pa_nil))))))))), ?_⟩
  walk_at "st"
  refine Pm.w_isiInt (b := true) (by decide +kernel) ?_
  walk_at "st"
  refine Pm.w_isiInt (b := false) (by decide +kernel) ?_
  walk_at "st"
  exact q
end
/-- a new pair -/
def PrNew (H : Hp) (p : IP) (Q : VK) : Prop := ∀ (t : Addr) (H' : Hp), Same H H' → H t = none → Pr H' (.ref t) p → Q (.ref t) H'
def spPair : Sp := fun vs H Q _ => ∃ a b : Int, vs = [.int a, .int b] ∧ PrNew H (tieOf a b) Q
theorem atI_prev {ns : List Int} {k : Int} (h0 : 0 ≤ k) (h : k < (ns.length : Int)) : atI (ns.map V.int) (k - 1) = some (.int (ns.getD ((k.toNat + ns.length - 1) % ns.length) 0)) := by
  by_cases c : k = 0
  · subst c
    have e : ((0 : Int).toNat + ns.length - 1) % ns.length = ns.length - 1 := by
      rw [show (0 : Int).toNat + ns.length - 1 = ns.length - 1 by omega]
      exact Nat.mod_eq_of_lt (by omega)
    rw [e]
    unfold atI ixN
    rw [if_neg (by omega), if_pos (by rw [List.length_map]; omega)]
    show (ns.map V.int)[(0 - 1 + ((ns.map V.int).length : Int)).toNat]? = _
    rw [show (0 - 1 + ((ns.map V.int).length : Int)).toNat = ns.length - 1 by rw [List.length_map]; omega, List.getElem?_map, List.getElem?_eq_getElem (by omega), List.getD_eq_getElem?_getD, List.getElem?_eq_getElem (by omega)] <;> rfl
  · have e : (k.toNat + ns.length - 1) % ns.length = (k - 1).toNat := by
      rw [show k.toNat + ns.length - 1 = (k - 1).toNat + ns.length by omega, Nat.add_mod_right]
      exact Nat.mod_eq_of_lt (by omega)
    rw [e]
    exact atI_int (by omega) (by omega)
section
variable {P : Program} {w : World} {K : PySem.W.Frag} {mg : Str → Option Value} {base : Heap}
theorem ok_law_pair (T : Tx K mg) : FnOk P w K mg base CX0 1 T.a_law_pair T.fd_law_pair ["_law_a", "_law_b"] spPair := by
  refine T.F_law_pair.ok sc_law_pair (fun vs H Q E h => ?_) (fun cdv A outer s H vs Q E hr h => ?_)
  · obtain ⟨a, b, rfl, _⟩ := h
    rfl
  obtain ⟨a, b, rfl, q⟩ := h
  refine ⟨_, (pss_one (ps_ret (pe_tup (pa_cons (pe_callB (c_min rfl) (by rfl) T.m_min (by decide +kernel) (pa_cons (pv 0) (pa_cons (pv 1) pa_nil))) (pa_cons (pe_callB (c_max rfl) (by rfl) T.m_max (by decide +kernel) (pa_cons (pv 0) (pa_cons (pv 1) pa_nil))) pa_nil))))), ?_⟩
  walk_at "st"
  refine Pm.w_newT (fun t ht => ?_)
  exact q t _ (same_new ht _) ht (pr_new upd_same)
def spEars (K : PySem.W.Frag) : Sp := fun vs H Q _ => ∃ (n : Nat) (r : Addr) (row : List Int), vs = [.int n, .ref r] ∧ SqL K H r (row.map V.int) ∧ 3 ≤ n ∧ n ≤ 12 ∧ n ≤ row.length + 3 ∧
  ∀ (p : Addr) (H' : Hp) (evs : List V) (es : List Ear), Same H H' → H p = none → H' p = some (.lst evs) → All2 (Er H') evs es → Ears (posts n) es → es.length + 3 = n → Q (.ref p) H'
theorem ok_law_ears (T : Tx K mg) : FnOk P w K mg base CX0 1 T.a_law_ears T.fd_law_ears ["_law_n", "_law_row"] (spEars K) := by
  refine T.F_law_ears.ok sc_law_ears (fun vs H Q E h => ?_) (fun cdv A outer s H vs Q E hr h => ?_)
  · obtain ⟨n, r, row, rfl, _⟩ := h
    rfl
  obtain ⟨n, r, row, rfl, hR, n3, n12, hrow, q⟩ := h
  refine ⟨_, (pss_cons (ps_setLc (i := 2) (own := [("_law_k", 3)]) (g := gName 3) (tt := tYes) rfl sc_law_ears.nd rfl rfl (sw_true rfl rfl rfl (by decide +kernel)) (pi_range1 (by rfl) T.m_range (pa_cons (pv 0) pa_nil)) (blkOk_by (N := N_law_ears) (sc := defScope s_law_ears) (by decide +kernel)) (fun _ _ _ _ _ => (pg_name (i := 3) sc_law_ears.nd rfl (.inl rfl))) (fun _ _ _ _ _ => pts_nil) (fun _ _ _ _ _ => (pv 3)))
      (pss_cons (ps_set (i := 4) sc_law_ears.nd rfl (.inl rfl) (pe_lst pa_nil))
      (pss_cons (ps_while PassesOwn.never (pt_cmpR op_gt (pe_callB (c_len (K := K)) (by rfl) T.m_len PySem.boot_len (pa_cons (pv 2) pa_nil)) (pe_int) (nomark _)) (pss_cons (ps_set (i := 3) sc_law_ears.nd rfl (.inl rfl) (pe_op op_mod (pe_ix (ix_listK (K := K)) (pv 1) (pe_callB (c_len (K := K)) (by rfl) T.m_len PySem.boot_len (pa_cons (pv 4) pa_nil)) (fun _ _ => rfl)) (pe_callB (c_len (K := K)) (by rfl) T.m_len PySem.boot_len (pa_cons (pv 2) pa_nil))))
      (pss_cons (ps_expr (k_bm (K := K) (pe_bm PySem.F.plainAttrs_list PySem.F.slot_list_append PySem.F.type_list_append mt_append (pv 4) (pa_cons (pe_tup (pa_cons (pe_ix (ix_listK (K := K)) (pv 2) (pv 3) (fun _ _ => rfl)) (pa_cons (pe_ix (ix_listK (K := K)) (pv 2) (pe_op op_sub (pv 3) (pe_int)) (fun _ _ => rfl)) (pa_cons (pe_ix (ix_listK (K := K)) (pv 2) (pe_op op_mod (pe_op op_add (pv 3) (pe_int)) (pe_callB (c_len (K := K)) (by rfl) T.m_len PySem.boot_len (pa_cons (pv 2) pa_nil))) (fun _ _ => rfl)) pa_nil)))) pa_nil))))
      (pss_one (ps_set (i := 2) sc_law_ears.nd rfl (.inl rfl) (pe_op op_cat (pe_slice (sl_listK (K := K)) (pv 2) po_none (po_some (pv 3))) (pe_slice (sl_listK (K := K)) (pv 2) (po_some (pe_op op_add (pv 3) (pe_int))) po_none)))))))
      (pss_one (ps_ret (pv 4)))))), ?_⟩
  walk_at "st"
  rw [Int.toNat_natCast]
  refine Pm.w_lcRm (R := In) in_mono (fun i : Nat => (i : Int)) (by omega) (fun D i H1 Nx hD hi s1 put => ?_) (fun D H1 ws hD s1 hd ha => ?_)
  · walk_at "st"
    exact put _ _ (Same.refl _) (by show V.int (0 + (i : Int)) = _; rw [Int.zero_add])
  have ew := ins_map ha
  subst ew
  walk_at "st"
  refine Pm.w_newL (fun e he => ?_)
  walk_at "st"
  have nD : e ≠ D := fun z => by subst z; rw [hd] at he; cases he
  have hD2 : (upd H1 e (.lst [])) D = some (.lst ((posts n).map V.int)) := by rw [upd_ne nD.symm]; exact hd
  have sE : Same H (upd H1 e (.lst [])) := s1.trans (same_new he _)
  have hHe : H e = none := s1.free he
  refine Pm.w_while (fun m σ H2 => ∃ (l : Addr) (L : List Int) (x : Option V) (evs : List V) (es : List Ear), σ = [some (.int n), some (.ref r), some (.ref l), x, some (.ref e)] ∧ H2 l = some (.lst (L.map V.int)) ∧ H2 e = some (.lst evs) ∧ All2 (Er H2) evs es ∧
    L.length + es.length = n ∧ 3 ≤ L.length ∧ (∀ es', Ears L es' → Ears (posts n) (es ++ es')) ∧ Same H H2 ∧ l ≠ e ∧ m = L.length) n ⟨D, posts n, _, [], [], rfl, hD2, upd_same, trivial, by rw [posts_len] <;> rfl, by rw [posts_len]; exact n3, fun _ h => h, sE, nD.symm, (posts_len n).symm⟩ ?_
  rintro m σ H2 ⟨l, L, x, evs, es, rfl, hl, hE, hA, hlen, hL3, hears, s2, nle, rfl⟩
  have hlL : (L.map V.int).length = L.length := List.length_map _
  have hR2 : SqL K H2 r (row.map V.int) := s2.seq hR
  have ale := hA.length
  walk_at "st"
  refine Pm.w_lenL (SqL.of hl) ?_
  walk_at "st"
  refine Pm.w_wh (fun c => ?_) (fun c => ?_)
  · rw [hlL] at c
    walk_at "st"
    refine Pm.w_lenL (SqL.of hE) ?_
    walk_at "st"
    refine Pm.w_ixL hR2 (atI_int (by omega) (by omega)) ?_
    walk_at "st"
    refine Pm.w_lenL (SqL.of hl) ?_
    rw [hlL]
    walk_at "st"
    generalize hk : row.getD (evs.length : Int).toNat 0 % (L.length : Int) = k
    have k0 : 0 ≤ k := by rw [← hk]; exact Int.emod_nonneg _ (by omega)
    have k1 : k < (L.length : Int) := by rw [← hk]; exact Int.emod_lt_of_pos _ (by omega)
    refine ⟨.inl ⟨rfl, _, SqL.of hE⟩, ?_⟩
    walk_at "st"
    refine Pm.w_ixL (SqL.of hl) (atI_int k0 k1) ?_
    walk_at "st"
    refine Pm.w_ixL (SqL.of hl) (atI_prev k0 k1) ?_
    walk_at "st"
    refine Pm.w_lenL (SqL.of hl) ?_
    rw [hlL]
    walk_at "st"
    refine Pm.w_ixL (SqL.of hl) (atI_int (Int.emod_nonneg _ (by omega)) (Int.emod_lt_of_pos _ (by omega))) ?_
    walk_at "st"
    refine Pm.w_newT (fun t ht => ?_)
    walk_at "st"
    have ek : ((k + 1) % (L.length : Int)).toNat = (k.toNat + 1) % L.length := by
      have e1 : k + 1 = ((k.toNat + 1 : Nat) : Int) := by omega
      rw [e1, ← Int.natCast_emod, Int.toNat_natCast]
    rw [ek]
    have nte : e ≠ t := ne_of_none hE ht
    have ntl : l ≠ t := ne_of_none hl ht
    refine Pm.w_append (by rw [upd_ne nte]; exact hE) (size_lt (by omega)) ?_
    walk_at "st"
    generalize hT : (V.ref t) = tv
    have hl3 : (upd (upd H2 t (.tup [.int (L.getD k.toNat 0), .int (L.getD ((k.toNat + L.length - 1) % L.length) 0), .int (L.getD ((k.toNat + 1) % L.length) 0)])) e (.lst (evs ++ [tv]))) l = some (.lst (L.map V.int)) := by
      rw [upd_ne nle, upd_ne ntl]; exact hl
    refine Pm.w_slL (SqL.of hl3) (fun p1 hp1 => ?_)
    rw [cut_take k0 (by rw [hlL]; omega)]
    walk_at "st"
    have np1 : l ≠ p1 := ne_of_none hl3 hp1
    refine Pm.w_slL (SqL.of (by rw [upd_ne np1]; exact hl3)) (fun p2 hp2 => ?_)
    have np12 : p1 ≠ p2 := ne_of_none upd_same hp2
    rw [cut_drop (by omega) (by rw [hlL]; omega)]
    refine Pm.w_cat (by rw [upd_ne np12]; exact upd_same) upd_same (size_ok (by rw [List.length_take, List.length_drop, hlL]; omega)) (fun p3 hp3 => ?_)
    walk_at "st"
    have eL : (L.map V.int).take k.toNat ++ (L.map V.int).drop (k + 1).toNat = (L.eraseIdx k.toNat).map V.int := by
      rw [List.eraseIdx_eq_take_drop_succ, List.map_append, List.map_take, List.map_drop, show (k + 1).toNat = k.toNat + 1 by omega]
    have hkL : k.toNat < L.length := by omega
    have leL : (L.eraseIdx k.toNat).length = L.length - 1 := List.length_eraseIdx_of_lt hkL
    have kk : Keeps H2 (upd (upd H2 t (.tup [.int (L.getD k.toNat 0), .int (L.getD ((k.toNat + L.length - 1) % L.length) 0), .int (L.getD ((k.toNat + 1) % L.length) 0)])) e (.lst (evs ++ [tv]))) := (keeps (same_new ht _)).trans (keeps_lst (xs := evs) (by rw [upd_ne nte]; exact hE))
    have sF : Same (upd (upd H2 t (.tup [.int (L.getD k.toNat 0), .int (L.getD ((k.toNat + L.length - 1) % L.length) 0), .int (L.getD ((k.toNat + 1) % L.length) 0)])) e (.lst (evs ++ [tv]))) (upd (upd (upd (upd (upd H2 t (.tup [.int (L.getD k.toNat 0), .int (L.getD ((k.toNat + L.length - 1) % L.length) 0), .int (L.getD ((k.toNat + 1) % L.length) 0)])) e (.lst (evs ++ [tv]))) p1 (.lst (List.take k.toNat (List.map V.int L)))) p2 (.lst (List.drop (k + 1).toNat (List.map V.int L)))) p3 (.lst (List.take k.toNat (List.map V.int L) ++ List.drop (k + 1).toNat (List.map V.int L)))) :=
      (same_new hp1 _).trans ((same_new hp2 _).trans (same_new hp3 _))
    refine ⟨L.length - 1, by omega, p3, L.eraseIdx k.toNat, _, evs ++ [tv], es ++ [(L.getD k.toNat 0, L.getD ((k.toNat + L.length - 1) % L.length) 0, L.getD ((k.toNat + 1) % L.length) 0)], rfl, by rw [upd_same, eL], sF _ _ upd_same, ?_, ?_, by omega, fun es' h' => ?_, ?_, ?_, leL.symm⟩
    · refine (hA.mono fun _ _ r => er_mono _ _ _ _ (kk.trans (keeps sF)) r).snoc (er_mono _ _ _ _ (keeps sF) ⟨t, hT.symm, ?_⟩)
      rw [upd_ne nte.symm, upd_same]
    · rw [leL, List.length_append, List.length_singleton]; omega
    · rw [List.append_assoc]
      exact hears _ (Ears.step k.toNat (by omega) hkL h')
    · exact (same_but hHe (s2.trans (same_new ht _))).trans sF
    · exact fun z => by
        have : e ≠ p3 := ne_of_none (o := .lst (evs ++ [tv])) (((same_new hp1 _).trans (same_new hp2 _)) _ _ upd_same) hp3
        exact this z.symm
  · rw [hlL] at c
    walk_at "st"
    have h0 : Ears L [] := .done (by omega)
    have h1 := hears _ h0
    rw [List.append_nil] at h1
    exact q e H2 evs es s2 hHe hE hA h1 (by omega)
def spRopes (K : PySem.W.Frag) : Sp := fun vs H Q _ => ∃ (r : Addr) (evs : List V) (es : List Ear), vs = [.ref r] ∧ SqL K H r evs ∧ All2 (Er H) evs es ∧ es.length ≤ 1000 ∧ PLNew H (sortP (es.map ropeOf)) Q
theorem ok_law_ropes (T : Tx K mg) : FnOk P w K mg base CX0 2 T.a_law_ropes T.fd_law_ropes ["_law_ears_here"] (spRopes K) := by
  refine T.F_law_ropes.ok sc_law_ropes (fun vs H Q E h => ?_) (fun cdv A outer s H vs Q E hr h => ?_)
  · obtain ⟨r, evs, es, rfl, _⟩ := h
    rfl
  obtain ⟨r, evs, es, rfl, hR, hA, hn, q⟩ := h
  refine ⟨_, (pss_one (ps_ret (pe_callB (cr_sortK (K := K)) (by rfl) T.m_sorted (by decide +kernel) (pa_cons (pe_lc (own := [("_law_ear", 1)]) (g := gName 1) (tt := tYes) rfl sc_law_ropes.nd (k_il (K := K) (pi_list (pv 0))) (blkOk_by (N := N_law_ropes) (sc := defScope s_law_ropes) (by decide +kernel)) (fun _ _ _ _ _ => (pg_name (i := 1) sc_law_ropes.nd rfl (.inl rfl))) (fun _ _ _ _ _ => pts_nil) (fun _ _ _ _ _ => (pe_call (ok_law_pair T) (hr.mono (by decide)) (by rfl) T.g_law_pair T.F_law_pair.kp T.b_law_pair .nil pass0 (pa_cons (pe_ix (ix_tupK (K := K)) (pv 1) (pe_int) (fun _ _ => rfl)) (pa_cons (pe_ix (ix_tupK (K := K)) (pv 1) (pe_int) (fun _ _ => rfl)) pa_nil))))) pa_nil)))), ?_⟩
  walk_at "st"
  refine Pm.w_rdL hR ?_
  refine Pm.w_lcLf (R := Pr) pr_mono (S := Er) er_mono hR hA ropeOf (fun _ => true) (by omega) (fun D x c H1 Nx hD hc hs s1 put skip => ?_) (fun D H1 ws hD s1 hd ha => ?_)
  · obtain ⟨t, rfl, ht⟩ := hs
    walk_at "st"
    refine Pm.w_ixT (SqT.of ht) (show atI [V.int c.1, V.int c.2.1, V.int c.2.2] 1 = some (V.int c.2.1) from rfl) ?_
    walk_at "st"
    refine Pm.w_ixT (SqT.of ht) (show atI [V.int c.1, V.int c.2.1, V.int c.2.2] 2 = some (V.int c.2.2) from rfl) ?_
    walk_at "st"
    exact ⟨_, _, rfl, fun u H2 s2 nu hu => put _ _ rfl s2 hu⟩
  · rw [List.filter_eq_self.mpr (fun _ _ => rfl)] at ha
    walk_at "st"
    refine Pm.w_sortP (SqL.of hd) ha (fun ys p hp hy => ?_)
    exact q p _ ys (s1.trans (same_new hp _)) (s1.free hp) upd_same (prs_keep (keeps (same_new hp _)) hy)
end
section
variable {P : Program} {w : World} {K : PySem.W.Frag} {mg : Str → Option Value} {base : Heap}
theorem ok_tie_of (T : Tx K mg) : FnOk P w K mg base CX0 1 T.a_tie_of T.fd_tie_of ["a", "b"] spPair := by
  refine T.F_tie_of.ok sc_tie_of (fun vs H Q E h => ?_) (fun cdv A outer s H vs Q E hr h => ?_)
  · obtain ⟨a, b, rfl, _⟩ := h
    rfl
  obtain ⟨a, b, rfl, q⟩ := h
  refine ⟨_, (pss_one (ps_ret (pe_tup (pa_cons (pe_callB (c_min rfl) (by rfl) T.m_min (by decide +kernel) (pa_cons (pv 0) (pa_cons (pv 1) pa_nil))) (pa_cons (pe_callB (c_max rfl) (by rfl) T.m_max (by decide +kernel) (pa_cons (pv 0) (pa_cons (pv 1) pa_nil))) pa_nil))))), ?_⟩
  walk_at "st"
  refine Pm.w_newT (fun t ht => ?_)
  exact q t _ (same_new ht _) ht (pr_new upd_same)
end
section
variable {P : Program} {w : World} {K : PySem.W.Frag} {mg : Str → Option Value} {base : Heap}
theorem ok_crosses (T : Tx K mg) : FnOk P w K mg base CX0 1 T.a_crosses T.fd_crosses ["one", "other"] (spCross K) := by
  refine T.F_crosses.ok sc_crosses (fun vs H Q E h => ?_) (fun cdv A outer s H vs Q E hr h => ?_)
  · obtain ⟨t, u, a, b, c, d, rfl, _⟩ := h
    rfl
  obtain ⟨t, u, a, b, c, d, rfl, h1, h2, q⟩ := h
  refine ⟨_, (pss_cons (ps_set (i := 2) sc_crosses.nd rfl (.inl rfl) (pe_callB (c_min rfl) (by rfl) T.m_min (by decide +kernel) (pa_cons (pe_ix (ix_tupK (K := K)) (pv 0) (pe_int) (fun _ _ => rfl)) (pa_cons (pe_ix (ix_tupK (K := K)) (pv 0) (pe_int) (fun _ _ => rfl)) pa_nil))))
      (pss_cons (ps_set (i := 3) sc_crosses.nd rfl (.inl rfl) (pe_callB (c_max rfl) (by rfl) T.m_max (by decide +kernel) (pa_cons (pe_ix (ix_tupK (K := K)) (pv 0) (pe_int) (fun _ _ => rfl)) (pa_cons (pe_ix (ix_tupK (K := K)) (pv 0) (pe_int) (fun _ _ => rfl)) pa_nil))))
      (pss_cons (ps_for PassesOwn.never rfl (k_it (K := K) (pi_tup (pv 1))) (pg_name (i := 4) sc_crosses.nd rfl (.inl rfl)) (pss_one (ps_if (PW.pt (pw_or (pt_cmpR op_eq (pv 4) (pv 2) (nomark _)) (pw_or1 (pt_cmpR op_eq (pv 4) (pv 3) (nomark _))))) (pss_one (ps_ret (pe_bl))) pss_nil)))
      (pss_one (ps_ret (pe_cmpR op_ne (pe_chain op_lt op_lt (pv 2) (pe_ix (ix_tupK (K := K)) (pv 1) (pe_int) (fun _ _ => rfl)) (pv 3)) (pe_chain op_lt op_lt (pv 2) (pe_ix (ix_tupK (K := K)) (pv 1) (pe_int) (fun _ _ => rfl)) (pv 3)) (nomark _))))))), ?_⟩
  walk_at "st"
  refine Pm.w_ixT h1 (atI2 _ _).1 ?_
  walk_at "st"
  refine Pm.w_ixT h1 (atI2 _ _).2 ?_
  walk_at "st"
  refine Pm.w_ixT h1 (atI2 _ _).1 ?_
  walk_at "st"
  refine Pm.w_ixT h1 (atI2 _ _).2 ?_
  walk_at "st"
  refine Pm.w_rdT h2 ?_
  refine Pm.w_forT (xs := [.int c, .int d]) (fun i σ H' => ∃ x4, σ = [some (.ref t), some (.ref u), some (.int (min a b)), some (.int (max a b)), x4] ∧ H' = H ∧ (1 ≤ i → c ≠ min a b ∧ c ≠ max a b) ∧ (2 ≤ i → d ≠ min a b ∧ d ≠ max a b)) ?_ ?_ ?_ ?_
  · exact ⟨_, rfl, rfl, fun h => absurd h (by omega), fun h => absurd h (by omega)⟩
  · rintro i σ H' _ ⟨x4, rfl, rfl, _⟩
    exact h2
  · rintro i x σ H' hx ⟨x4, rfl, rfl, i1, i2⟩
    match i, hx with
    | 0, hx =>
      cases hx
      walk_at "st"
      refine Pm.w_ite (fun e => ?_) (fun e => ?_)
      · walk_at "st"
        rw [cross_no (.inl e)] at q
        exact q
      · walk_at "st"
        refine Pm.w_ite (fun e => ?_) (fun e2 => ?_)
        · walk_at "st"
          rw [cross_no (.inr (.inl e))] at q
          exact q
        · walk_at "st"
          exact ⟨_, rfl, rfl, fun _ => ⟨e, e2⟩, fun h => absurd h (by omega)⟩
    | 1, hx =>
      cases hx
      walk_at "st"
      refine Pm.w_ite (fun e => ?_) (fun e => ?_)
      · walk_at "st"
        rw [cross_no (.inr (.inr (.inl e)))] at q
        exact q
      · walk_at "st"
        refine Pm.w_ite (fun e => ?_) (fun e2 => ?_)
        · walk_at "st"
          rw [cross_no (.inr (.inr (.inr e)))] at q
          exact q
        · walk_at "st"
          exact ⟨_, rfl, rfl, fun _ => i1 (by omega), fun _ => ⟨e, e2⟩⟩
    | i + 2, hx => simp at hx
  · rintro σ H' ⟨x4, rfl, rfl, i1, i2⟩
    have j1 := i1 (by show 1 ≤ 2; decide)
    have j2 := i2 (by show 2 ≤ 2; decide)
    have ne := And.intro j1.1 (And.intro j1.2 j2)
    walk_at "st"
    refine Pm.w_ixT h2 (atI2 _ _).1 ?_
    walk_at "st"
    refine Pm.w_ite (fun e1 => ?_) (fun e1 => ?_)
    · walk_at "st"
      refine Pm.w_ixT h2 (atI2 _ _).2 ?_
      walk_at "st"
      refine Pm.w_ite (fun e3 => ?_) (fun e3 => ?_)
      · walk_at "st"
        rw [cross_is (a := a) (b := b) ne (by simp [e1]) (by simp [e3])]
        exact q
      · walk_at "st"
        rw [cross_is (a := a) (b := b) ne (by simp [e1]) (by simp [e3])]
        exact q
    · walk_at "st"
      refine Pm.w_ixT h2 (atI2 _ _).2 ?_
      walk_at "st"
      refine Pm.w_ite (fun e3 => ?_) (fun e3 => ?_)
      · walk_at "st"
        rw [cross_is (a := a) (b := b) ne (by simp [e1]) (by simp [e3])]
        exact q
      · walk_at "st"
        rw [cross_is (a := a) (b := b) ne (by simp [e1]) (by simp [e3])]
        exact q
end
section
variable {P : Program} {w : World} {K : PySem.W.Frag} {mg : Str → Option Value} {base : Heap}
def spSides : Sp := fun vs H Q _ => ∃ n : Nat, vs = [.int n] ∧ 1 ≤ n ∧ n ≤ 1000 ∧ PLNew H (sidesL n) Q
theorem ok_sides (T : Tx K mg) : FnOk P w K mg base CX0 1 T.a_sides T.fd_sides ["n"] spSides := by
  refine T.F_sides.ok sc_sides (fun vs H Q E h => ?_) (fun cdv A outer s H vs Q E hr h => ?_)
  · obtain ⟨n, rfl, _⟩ := h
    rfl
  obtain ⟨n, rfl, n1, n2, q⟩ := h
  refine ⟨_, (pss_one (ps_ret (pe_callB (cr_sortK (K := K)) (by rfl) T.m_sorted (by decide +kernel) (pa_cons (pe_op op_cat (pe_lc (own := [("k", 1)]) (g := gName 1) (tt := tYes) rfl sc_sides.nd (pi_range1 (by rfl) T.m_range (pa_cons (pe_op op_sub (pv 0) (pe_int)) pa_nil)) (blkOk_by (N := N_sides) (sc := defScope s_sides) (by decide +kernel)) (fun _ _ _ _ _ => (pg_name (i := 1) sc_sides.nd rfl (.inl rfl))) (fun _ _ _ _ _ => pts_nil) (fun _ _ _ _ _ => (pe_tup (pa_cons (pv 1) (pa_cons (pe_op op_add (pv 1) (pe_int)) pa_nil))))) (pe_lst (pa_cons (pe_tup (pa_cons (pe_int) (pa_cons (pe_op op_sub (pv 0) (pe_int)) pa_nil))) pa_nil))) pa_nil)))), ?_⟩
  walk_at "st"
  have en : ((n : Int) - 1).toNat = n - 1 := by omega
  rw [en]
  refine Pm.w_lcRm (R := Pr) pr_mono (fun k : Nat => ((k : Int), (k : Int) + 1)) (by omega) (fun D i H1 Nx hD hi s1 put => ?_) (fun D H1 ws hD s1 hd ha => ?_)
  · walk_at "st"
    refine Pm.w_newT (fun t ht => ?_)
    refine put _ _ (same_new ht _) ⟨t, rfl, ?_⟩
    rw [upd_same, Int.zero_add]
  · walk_at "st"
    refine Pm.w_newT (fun t ht => ?_)
    walk_at "st"
    refine Pm.w_newL (fun l hl => ?_)
    have nD : D ≠ l := ne_of_none (o := .lst ws) ((same_new ht _) _ _ hd) hl
    have hlen := ha.length
    rw [List.length_map, List.length_range] at hlen
    refine Pm.w_cat (by rw [upd_ne nD, upd_ne (ne_of_none hd ht)]; exact hd) upd_same (size_ok (by rw [hlen, List.length_singleton]; omega)) (fun p hp => ?_)
    have k1 : Keeps H1 (upd (upd (upd H1 t (.tup [.int 0, .int ((n : Int) - 1)])) l (.lst [.ref t])) p (.lst (ws ++ [.ref t]))) := keeps ((same_new ht _).trans ((same_new hl _).trans (same_new hp _)))
    refine Pm.w_sortP (ps := sides0 n) (SqL.of upd_same) ((prs_keep k1 ha).append ⟨⟨t, rfl, ?_⟩, trivial⟩) (fun ys p2 hp2 hy => ?_)
    · exact ((same_new hl _).trans (same_new hp _)) _ _ upd_same
    · have s2 := s1.trans ((same_new ht _).trans ((same_new hl _).trans (same_new hp (.lst (ws ++ [.ref t])))))
      exact q p2 _ ys (s2.trans (same_new hp2 _)) (s2.free hp2) upd_same (prs_keep (keeps (same_new hp2 _)) hy)
end
section
variable {P : Program} {w : World} {K : PySem.W.Frag} {mg : Str → Option Value} {base : Heap}
def spTies : Sp := fun vs H Q _ => ∃ (n : Nat) (c : Addr) (cut : List IP), vs = [.int n, .ref c] ∧ 1 ≤ n ∧ n ≤ 1000 ∧ PLt H c cut ∧ cut.length ≤ 1000 ∧ PLNew H (tiesL n cut) Q
theorem ok_ties (T : Tx K mg) : FnOk P w K mg base CX0 2 T.a_ties T.fd_ties ["n", "cut"] spTies := by
  refine T.F_ties.ok sc_ties (fun vs H Q E h => ?_) (fun cdv A outer s H vs Q E hr h => ?_)
  · obtain ⟨n, c, cut, rfl, _⟩ := h
    rfl
  obtain ⟨n, c, cut, rfl, n1, n2, ⟨cvs, hc, pc⟩, cl, q⟩ := h
  refine ⟨_, (pss_one (ps_ret (pe_callB (cr_sortK (K := K)) (by rfl) T.m_sorted (by decide +kernel) (pa_cons (pe_op op_cat (pe_call (ok_sides T) (hr.mono (by decide)) (by rfl) T.g_sides T.F_sides.kp T.b_sides .nil pass0 (pa_cons (pv 0) pa_nil)) (pv 1)) pa_nil)))), ?_⟩
  walk_at "st"
  refine ⟨n, rfl, n1, n2, fun p H1 ws s1 np hp ha => ?_⟩
  walk_at "st"
  have l1 := ha.length
  rw [sidesL, sortP_len, sides0_len n1] at l1
  have l2 := pc.length
  refine Pm.w_cat hp (s1 _ _ hc) (size_ok (by omega)) (fun l hl => ?_)
  have k1 := keeps (same_new hl (.lst (ws ++ cvs)))
  refine Pm.w_sortP (SqL.of upd_same) ((prs_keep k1 ha).append (prs_keep ((keeps s1).trans k1) pc)) (fun ys p2 hp2 hy => ?_)
  rw [tiesL_eq] at hy
  have s2 := s1.trans (same_new hl (.lst (ws ++ cvs)))
  exact q p2 _ ys (s2.trans (same_new hp2 _)) (s2.free hp2) upd_same (prs_keep (keeps (same_new hp2 _)) hy)
end
section
variable {P : Program} {w : World} {K : PySem.W.Frag} {mg : Str → Option Value} {base : Heap}
def spTwo (C : Addr) : Sp := fun vs H Q E => ∃ (n : Nat) (a b : Int), vs = [.int n, .int a, .int b] ∧ (¬ twoOk n a b → E (.ref C) none H) ∧ (twoOk n a b → Q .non H)
theorem ok_two_posts (T : Tx K mg) : FnOk P w K mg base (L2.CX P w) 1 T.a_two_posts T.fd_two_posts ["n", "a", "b"] (spTwo T.c_NoPost) := by
  refine T.F_two_posts.okX sc_two_posts (fun vs H Q E h => ?_) (fun cdv A outer s H vs Q E hr h => ?_)
  · obtain ⟨n, a, b, rfl, _⟩ := h
    rfl
  obtain ⟨n, a, b, rfl, hE, q⟩ := h
  refine ⟨_, (pss_one (ps_if (PW.pt (pw_or (pt_cmpR op_lt (pv 1) (pe_int) (nomark _)) (pw_or (pt_cmpR op_lt (pv 2) (pe_int) (nomark _)) (pw_or (pt_cmpR op_ge (pv 1) (pv 0) (nomark _)) (pw_or (pt_cmpR op_ge (pv 2) (pv 0) (nomark _)) (pw_or1 (pt_cmpR op_eq (pv 1) (pv 2) (nomark _)))))))) (pss_one (ps_raise rfl (takes_of rfl rfl rfl rfl) (pmk_own PySem.F.excBase_ValueError T.x_NoPost T.g_NoPost T.k_NoPost (raises_own T.b_NoPost T.t_NoPost) rfl))) pss_nil)), ?_⟩
  walk_at "st"
  refine Pm.w_ite (fun e => hE (fun z => by unfold twoOk at z; omega)) (fun e1 => ?_)
  walk_at "st"
  refine Pm.w_ite (fun e => hE (fun z => by unfold twoOk at z; omega)) (fun e2 => ?_)
  walk_at "st"
  refine Pm.w_ite (fun e => hE (fun z => by unfold twoOk at z; omega)) (fun e3 => ?_)
  walk_at "st"
  refine Pm.w_ite (fun e => hE (fun z => by unfold twoOk at z; omega)) (fun e4 => ?_)
  walk_at "st"
  refine Pm.w_ite (fun e => hE (fun z => by unfold twoOk at z; omega)) (fun e5 => ?_)
  walk_at "st"
  exact q ⟨⟨by omega, by omega⟩, ⟨by omega, by omega⟩, e5⟩
end
local macro_rules | `(tactic| walk_at "s1") => `(tactic| with_reducible refine Pm.w_nkeys ?_)
local macro_rules | `(tactic| walk_at "s1") => `(tactic| with_reducible refine Pm.w_ng2 ?_)
local macro_rules | `(tactic| walk_at "s1") => `(tactic| with_reducible refine Pm.w_nget ?_)
local macro_rules | `(tactic| walk_at "s1") => `(tactic| with_reducible refine Pm.w_nput ?_)
section
variable {P : Program} {w : World} {K : PySem.W.Frag} {mg : Str → Option Value} {base : Heap}
def spNear (K : PySem.W.Frag) : Sp := fun vs H Q _ => ∃ (n : Nat) (t : Addr) (p : IP) (a : Int), vs = [.int n, .ref t, .int a] ∧ SqT K H t [.int p.1, .int p.2] ∧ 0 < n ∧ Q (.int (nearI n a p)) H
theorem ok_nearness (T : Tx K mg) : FnOk P w K mg base CX0 1 T.a_nearness T.fd_nearness (["n", "rope", "a"]) (spNear K) := by
  refine T.F_nearness.ok sc_nearness (fun vs H Q E h => ?_) (fun cdv A outer s H vs Q E hr h => ?_)
  · obtain ⟨n, t, p, a, rfl, _⟩ := h
    rfl
  obtain ⟨n, t, p, a, rfl, ht, n0, q⟩ := h
  refine ⟨_, (pss_cons (ps_set (i := 3) sc_nearness.nd rfl (.inl rfl) (pe_op op_mod (pe_op op_sub (pe_ix (ix_tupK (K := K)) (pv 1) (pe_int) (fun _ _ => rfl)) (pv 2)) (pv 0)))
      (pss_cons (ps_set (i := 4) sc_nearness.nd rfl (.inl rfl) (pe_op op_mod (pe_op op_sub (pe_ix (ix_tupK (K := K)) (pv 1) (pe_int) (fun _ _ => rfl)) (pv 2)) (pv 0)))
      (pss_one (ps_ret (pe_op op_sub (pe_callB (c_min rfl) (by rfl) T.m_min (by decide +kernel) (pa_cons (pv 3) (pa_cons (pv 4) pa_nil))) (pe_callB (c_max rfl) (by rfl) T.m_max (by decide +kernel) (pa_cons (pv 3) (pa_cons (pv 4) pa_nil)))))))), ?_⟩
  walk_at "st"
  refine Pm.w_ixT ht (atI2 _ _).1 ?_
  walk_at "st"
  refine Pm.w_ixT ht (atI2 _ _).2 ?_
  walk_at "st"
  exact q
/-- a rope with its nearness -/
def Nr (H : Hp) (v : V) (e : Int × IP) : Prop := ∃ t u, v = .ref t ∧ H t = some (.tup [.int e.1, .ref u]) ∧ Pr H (.ref u) e.2
theorem nr_mono (H H' : Hp) (v : V) (e : Int × IP) (k : Keeps H H') (h : Nr H v e) : Nr H' v e := by
  obtain ⟨t, u, e, h1, h2⟩ := h
  exact ⟨t, u, e, k _ _ h1, h2.keep k⟩
def ndN (e : Int × IP) : ND := .t [.i e.1, .t [.i e.2.1, .i e.2.2]]
theorem ndN_inj {p q : Int × IP} (h : ndN p = ndN q) : p = q := by
  obtain ⟨a, b, c⟩ := p
  obtain ⟨d, e, f⟩ := q
  unfold ndN at h
  injection h with h
  injection h with h1 h
  injection h with h2 _
  injection h1 with h1
  injection h2 with h2
  injection h2 with h2 h3
  injection h3 with h3 _
  injection h2 with h2
  injection h3 with h3
  simp only at h1 h2 h3
  rw [h1, h2, h3]
def leN (p q : Int × IP) : Bool := ND.leB (ndN p) (ndN q)
theorem leN_near {p q : Int × IP} (h : leN p q = true) : p.1 ≤ q.1 := by
  unfold leN ndN at h
  rw [leB_tcons] at h
  split at h
  · rename_i c
    rw [cmp_i_eq] at c
    omega
  · rw [leB_i] at h
    exact of_decide_eq_true h
theorem dp_nr {K : PySem.W.Frag} {H : Hp} {v : V} {e : Int × IP} (h : Nr H v e) : Dp K H v (ndN e).py := by
  obtain ⟨t, u, rfl, h1, u', e2, h2⟩ := h
  cases e2
  simp only [ndN, ND.py, ND.pyL]
  exact .tup (SqT.of h1) (.cons (.int _) (.cons (.tup (SqT.of h2) (.cons (.int _) (.cons (.int _) .nil))) .nil))
theorem srtN (ps : List (Int × IP)) : SrtOk (ps.map ndN) := by
  refine ⟨fun d hd => ?_, fun d hd e he => ?_, fun d hd => ?_⟩
  · obtain ⟨p, _, rfl⟩ := List.mem_map.mp hd
    exact ⟨_, _, rfl⟩
  · obtain ⟨p, _, rfl⟩ := List.mem_map.mp hd
    obtain ⟨q, _, rfl⟩ := List.mem_map.mp he
    simp [ndN, ND.hom, ND.homL]
  · obtain ⟨p, _, rfl⟩ := List.mem_map.mp hd
    simp [ndN, ND.dep, ND.py, ND.pyL, PyData.depth, PyData.depthAll]
theorem w_sortNr {K : PySem.W.Frag} {H : Hp} {Q : VK} {a : Addr} {vs : List V} {ps : List (Int × IP)} (h1 : SqL K H a vs) (p1 : All2 (Nr H) vs ps) (h : ∀ ys p, H p = none → All2 (Nr H) ys (ps.mergeSort leN) → Q (.ref p) (upd H p (.lst ys))) : rSortN K [.ref a] H Q :=
  w_sortN (fun _ _ => ndN_inj) (fun v p r => ⟨dp_nr r, by obtain ⟨t, u, e, _⟩ := r; exact ⟨t, e⟩⟩) h1 p1 (srtN ps) (sort_enc (fun _ _ => rfl) (fun _ _ _ => ND.leB_trans _ _ _) (fun _ _ => ND.leB_total _ _) ps) h
def accL (n : Nat) (cut : List IP) (a b : Int) : List (Int × IP) := (cut.filter fun p => decide (crossP p.1 p.2 a b)).map fun p => (nearI n a p, p)
def spAcross (P : Program) (w : World) : Sp := fun vs H Q _ => ∃ (n : Nat) (c : Addr) (cut : List IP) (a b : Int), vs = [.int n, .ref c, .int a, .int b] ∧ PLt H c cut ∧ cut.length ≤ 1000 ∧ cut.Nodup ∧ 0 < n ∧ (∀ p ∈ cut, ∀ q ∈ cut, crossP p.1 p.2 a b → crossP q.1 q.2 a b → nearI n a p = nearI n a q → p = q) ∧
  ∀ (d : Addr) (H' : Hp) (ks : List ND) (L : ND → Int), Same H H' → H d = none → DI P w H' d ks L → Plc n cut a b ks L → Q (.ref d) H'
theorem ok_across (T : Tx K mg) : FnOk P w K mg base CX0 2 T.a_across T.fd_across (["n", "cut", "a", "b"]) (spAcross P w) := by
  refine T.F_across.ok sc_across (fun vs H Q E h => ?_) (fun cdv A outer s H vs Q E hr h => ?_)
  · obtain ⟨n, c, cut, a, b, rfl, _⟩ := h
    rfl
  obtain ⟨n, c, cut, a, b, rfl, ⟨cvs, hc, hpc⟩, cl, cnd, n0, inj, q⟩ := h
  refine ⟨_, (pss_cons (ps_set (i := 4) sc_across.nd rfl (.inl rfl) (pe_callB (cr_sortN (K := K) hr.u40) (by rfl) T.m_sorted (by decide +kernel) (pa_cons (pe_lc (own := [("rope", 5)]) (g := gName 5) rfl sc_across.nd (k_il (K := K) (pi_list (pv 1))) (blkOk_by (N := N_across) (sc := defScope s_across) (by decide +kernel)) (fun _ _ _ _ _ => (pg_name (i := 5) sc_across.nd rfl (.inl rfl))) (fun _ _ _ _ _ => (pts_one (pt_val (pe_call (ok_crosses T) (hr.mono (by decide)) (by rfl) T.g_crosses T.F_crosses.kp T.b_crosses .nil pass0 (pa_cons (pv 5) (pa_cons (pe_tup (pa_cons (pv 2) (pa_cons (pv 3) pa_nil))) pa_nil)))))) (fun _ _ _ _ _ => (pe_tup (pa_cons (pe_call (ok_nearness T) (hr.mono (by decide)) (by rfl) T.g_nearness T.F_nearness.kp T.b_nearness .nil pass0 (pa_cons (pv 0) (pa_cons (pv 5) (pa_cons (pv 2) pa_nil)))) (pa_cons (pv 5) pa_nil))))) pa_nil)))
      (pss_cons (ps_set (i := 6) sc_across.nd rfl (.inl rfl) (n_dnew (P := P) (w := w)))
      (pss_cons (ps_for PassesOwn.never rfl (pi_range1 (by rfl) T.m_range (pa_cons (pe_callB (c_len (K := K)) (by rfl) T.m_len PySem.boot_len (pa_cons (pv 4) pa_nil)) pa_nil)) (pg_name (i := 7) sc_across.nd rfl (.inl rfl)) (pss_one (n_put (P := P) (w := w) hr.u40 (pv 6) (pe_ix (ix_tupK (K := K)) (pe_ix (ix_listK (K := K)) (pv 4) (pv 7) (fun _ _ => rfl)) (pe_int) (fun _ _ => rfl)) (pv 7) rfl)))
      (pss_one (ps_ret (pv 6)))))), ?_⟩
  walk_at "st"
  refine Pm.w_rdL (SqL.of hc) ?_
  refine Pm.w_lcLf (R := Nr) nr_mono (S := Pr) (fun _ _ _ _ k h => h.keep k) (SqL.of hc) hpc (fun p => (nearI n a p, p)) (fun p => decide (crossP p.1 p.2 a b)) (by omega) (fun D x p H1 Nx hD hm hs s1 put skip => ?_) (fun D H1 ws hD s1 hd hA => ?_)
  · obtain ⟨u, rfl, hu⟩ := id hs
    walk_at "st"
    refine Pm.w_newT (fun t ht => ?_)
    have s2 := same_new ht (.tup [.int a, .int b])
    have hu2 := s2 _ _ hu
    refine ⟨u, t, p.1, p.2, a, b, rfl, SqT.of hu2, SqT.of upd_same, ?_⟩
    generalize upd H1 t (.tup [.int a, .int b]) = H2 at s2 hu2 ⊢
    by_cases cr : crossP p.1 p.2 a b
    · rw [decide_eq_true cr]
      walk_at "st"
      refine ⟨n, u, p, a, rfl, SqT.of hu2, n0, ?_⟩
      walk_at "st"
      refine Pm.w_newT (fun t2 ht2 => ?_)
      have s3 := same_new ht2 (.tup [.int (nearI n a p), .ref u])
      exact put _ _ (decide_eq_true cr) (s2.trans s3) ⟨t2, u, rfl, upd_same, u, rfl, s3 _ _ hu2⟩
    · rw [decide_eq_false cr]
      walk_at "st"
      exact skip _ (decide_eq_false cr) s2
  have hA : All2 (Nr H1) ws (accL n cut a b) := hA
  walk_at "st"
  refine w_sortNr (SqL.of hd) hA (fun ys f hf hys => ?_)
  have s2 := same_new hf (.lst ys)
  have hys2 := hys.mono fun _ _ r => nr_mono _ _ _ _ (keeps s2) r
  have f2 : (upd H1 f (.lst ys)) f = some (.lst ys) := upd_same
  have s12 := s1.trans s2
  generalize upd H1 f (.lst ys) = H2 at s12 hys2 f2 ⊢
  clear s2 hys
  have ly := hys2.length
  have perm : ((accL n cut a b).mergeSort leN).Perm (accL n cut a b) := List.mergeSort_perm _ _
  have ris : ((accL n cut a b).mergeSort leN).Pairwise fun p q => p.1 ≤ q.1 := (List.pairwise_mergeSort (le := leN) (fun a b c => ND.leB_trans (ndN a) (ndN b) (ndN c)) (fun a b => ND.leB_total (ndN a) (ndN b)) (accL n cut a b)).imp fun {p q} h => leN_near h
  generalize (accL n cut a b).mergeSort leN = S at ly perm ris hys2
  have lS : S.length ≤ 1000 := by
    rw [perm.length_eq]
    unfold accL
    rw [List.length_map]
    exact Nat.le_trans (List.length_filter_le _ _) cl
  have memS : ∀ e, e ∈ S ↔ e.2 ∈ cut ∧ crossP e.2.1 e.2.2 a b ∧ e.1 = nearI n a e.2 := fun e => by
    rw [perm.mem_iff]
    unfold accL
    rw [List.mem_map]
    constructor
    · rintro ⟨p, hp, rfl⟩
      obtain ⟨h1, h2⟩ := List.mem_filter.mp hp
      exact ⟨h1, of_decide_eq_true h2, rfl⟩
    · rintro ⟨h1, h2, h3⟩
      exact ⟨e.2, List.mem_filter.mpr ⟨h1, decide_eq_true h2⟩, Prod.ext h3.symm rfl⟩
  have ndS : (S.map (·.2)).Nodup := by
    have : (S.map (·.2)).Perm (cut.filter fun p => decide (crossP p.1 p.2 a b)) := by
      have := perm.map (·.2)
      unfold accL at this
      rw [List.map_map] at this
      have e : ((fun x : Int × IP => x.2) ∘ fun p => (nearI n a p, p)) = id := rfl
      rw [e, List.map_id] at this
      exact this
    exact this.nodup_iff.mpr (List.Pairwise.filter _ cnd)
  walk_at "st"
  refine Pm.w_ndnew (fun d hd0 hD => ?_)
  have s3 := same_new hd0 (ndO P w d [])
  have hdH := s12.free hd0
  have f3 := s3 _ _ f2
  have hys3 := hys2.mono fun _ _ r => nr_mono _ _ _ _ (keeps s3) r
  have s13 := s12.trans s3
  generalize upd H2 d (ndO P w d []) = H3 at s3 hD f3 hys3 s13 ⊢
  walk_at "st"
  refine Pm.w_lenL (SqL.of f3) ?_
  walk_at "st"
  rw [Int.toNat_natCast]
  refine Pm.w_forR (fun i σ H' => ∃ x5 x7 ks L, σ = [some (.int n), some (.ref c), some (.int a), some (.int b), some (.ref f), x5, some (.ref d), x7] ∧ Same H H' ∧ H' f = some (.lst ys) ∧ All2 (Nr H') ys S ∧ DI P w H' d ks L ∧ ks.length ≤ i ∧ (∀ dd, dd ∈ ks ↔ ∃ e ∈ S.take i, dd = encM e.2) ∧ (∀ (k : Nat) e, k < i → S[k]? = some e → L (encM e.2) = k)) ?_ ?_ ?_
  · exact ⟨_, _, [], _, rfl, s13, f3, hys3, hD, Nat.le_refl _, fun dd => ⟨fun h => absurd h List.not_mem_nil, fun ⟨e, h, _⟩ => by rw [List.take_zero] at h; cases h⟩, fun k e h => absurd h (by omega)⟩
  · rintro i σ H4 hi ⟨x5, x7, ks, L, rfl, s4, f4, hys4, hD4, hkl, hks, hL⟩
    obtain ⟨e, he, t, u, ev, hv, hu⟩ := hys4.get (List.getElem?_eq_getElem hi)
    walk_at "st"
    refine Pm.w_ixL (SqL.of f4) (v := .ref t) ?_ ?_
    · rw [Int.zero_add]
      exact atI_nat (by rw [List.getElem?_eq_getElem hi, ev])
    walk_at "st"
    refine Pm.w_ixT (SqT.of hv) rfl ?_
    refine Pm.w_nput1 hD4 (keyD_M e.2) (mark_of hu) (by omega) (fun xs hD5 k5 => ?_)
    have nfd : f ≠ d := ne_of_none f2 hd0
    refine ⟨_, _, _, _, rfl, same_but hdH s4, by rw [upd_ne nfd]; exact f4, hys4.mono fun _ _ r => nr_mono _ _ _ _ k5 r, hD5, by have := putd_len ks (encM e.2); omega, fun dd => ?_, fun k e' hk he' => ?_⟩
    · rw [mem_putd, hks, take_snoc he]
      constructor
      · rintro (⟨e', h1, h2⟩ | h)
        · exact ⟨e', List.mem_append.mpr (.inl h1), h2⟩
        · exact ⟨e, List.mem_append.mpr (.inr (List.mem_singleton.mpr rfl)), h⟩
      · rintro ⟨e', h1, h2⟩
        rcases List.mem_append.mp h1 with h1 | h1
        · exact .inl ⟨e', h1, h2⟩
        · exact .inr (by rw [h2, List.mem_singleton.mp h1])
    · by_cases ck : k = i
      · subst ck
        rw [he] at he'
        cases he'
        rw [updL_same, Int.zero_add]
      · have ne : encM e'.2 ≠ encM e.2 := fun z => by
          have z := encM_inj z
          have h1 : (S.map (·.2))[k]? = some e'.2 := by rw [List.getElem?_map, he']; rfl
          have h2 : (S.map (·.2))[i]? = some e.2 := by rw [List.getElem?_map, he]; rfl
          have := (List.getElem?_inj (List.getElem?_eq_some_iff.mp h1).1 ndS).mp (h1.trans (by rw [z]; exact h2.symm))
          exact ck this
        rw [updL_ne ne]
        exact hL k e' (by omega) he'
  · rintro σ H4 ⟨x5, x7, ks, L, rfl, s4, f4, hys4, hD4, hkl, hks, hL⟩
    rw [ly, List.take_length] at hks
    walk_at "st"
    have hmem : ∀ p : IP, encM p ∈ ks ↔ p ∈ cut ∧ crossP p.1 p.2 a b := fun p => by
      rw [hks]
      constructor
      · rintro ⟨e, he, h⟩
        have := (memS e).mp he
        rw [← encM_inj h] at this
        exact ⟨this.1, this.2.1⟩
      · rintro ⟨h1, h2⟩
        exact ⟨(nearI n a p, p), (memS _).mpr ⟨h1, h2, rfl⟩, rfl⟩
    have at_ : ∀ p, encM p ∈ ks → ∃ k : Nat, S[k]? = some (nearI n a p, p) ∧ L (encM p) = k := fun p hp => by
      have hp := (hmem p).mp hp
      obtain ⟨k, hk, e⟩ := List.mem_iff_getElem.mp ((memS (nearI n a p, p)).mpr ⟨hp.1, hp.2, rfl⟩)
      have hk' : S[k]? = some (nearI n a p, p) := by rw [List.getElem?_eq_getElem hk, e]
      exact ⟨k, hk', hL k _ (by rw [ly]; exact hk) hk'⟩
    refine q d H4 ks L s4 hdH hD4 ⟨hmem, fun dd hdd => ?_, fun p p' hp hp' => ?_, fun p hp => ?_⟩
    · obtain ⟨e, _, h⟩ := (hks dd).mp hdd
      exact ⟨_, h⟩
    · obtain ⟨k, k1, k2⟩ := at_ p hp
      obtain ⟨k', k1', k2'⟩ := at_ p' hp'
      obtain ⟨l1, e1⟩ := List.getElem?_eq_some_iff.mp k1
      obtain ⟨l2, e2⟩ := List.getElem?_eq_some_iff.mp k1'
      rw [k2, k2']
      constructor
      · intro h
        rcases Nat.lt_or_ge k k' with c | c
        · have := List.pairwise_iff_getElem.mp ris k k' l1 l2 c
          rw [e1, e2] at this
          exact this
        · have : k = k' := by omega
          subst this
          have := congrArg Prod.snd (Option.some.inj (k1.symm.trans k1'))
          simp only at this
          rw [this]
          exact Int.le_refl _
      · intro h
        rcases Nat.lt_or_ge k' k with c | c
        · have := List.pairwise_iff_getElem.mp ris k' k l2 l1 c
          rw [e1, e2] at this
          simp only at this
          have hp1 := (hmem p).mp hp
          have hp2 := (hmem p').mp hp'
          have := inj p hp1.1 p' hp2.1 hp1.2 hp2.2 (by omega)
          subst this
          have h1 : (S.map (·.2))[k]? = some p := by rw [List.getElem?_map, k1]; rfl
          have h2 : (S.map (·.2))[k']? = some p := by rw [List.getElem?_map, k1']; rfl
          have := (List.getElem?_inj (List.getElem?_eq_some_iff.mp h1).1 ndS).mp (h1.trans h2.symm)
          omega
        · omega
    · obtain ⟨k, _, k2⟩ := at_ p hp
      rw [k2]
      omega
end
section
variable {P : Program} {w : World} {K : PySem.W.Frag} {mg : Str → Option Value} {base : Heap}
/-- for each post the list of the posts tied to it -/
structure Tied (K : PySem.W.Frag) (H : Hp) (l : Addr) (n : Nat) (T : List IP) : Prop where
  ex : ∃ qs : List Addr, H l = some (.lst (qs.map V.ref)) ∧ qs.length = n ∧ ∀ (i : Nat) q, qs[i]? = some q → H q = some (.lst ((nbrL T (i : Int)).map V.int))
theorem Tied.same {H H' : Hp} {l : Addr} {n : Nat} {T : List IP} (h : Tied K H l n T) (s : Same H H') : Tied K H' l n T := by
  obtain ⟨qs, h1, h2, h3⟩ := h
  exact ⟨qs, s _ _ h1, h2, fun i q hq => s _ _ (h3 i q hq)⟩
def spNbrs (K : PySem.W.Frag) : Sp := fun vs H Q _ => ∃ (n : Nat) (c : Addr) (cut : List IP), vs = [.int n, .ref c] ∧ PLt H c cut ∧ 1 ≤ n ∧ n ≤ 1000 ∧ cut.length ≤ 1000 ∧ (∀ p ∈ tiesL n cut, p.1 < p.2 ∧ 0 ≤ p.1 ∧ p.2 < n) ∧
  ∀ (l : Addr) (H' : Hp), Same H H' → H l = none → Tied K H' l n (tiesL n cut) → Q (.ref l) H'
theorem ok_neighbours (T : Tx K mg) : FnOk P w K mg base CX0 3 T.a_neighbours T.fd_neighbours (["n", "cut"]) (spNbrs K) := by
  refine T.F_neighbours.ok sc_neighbours (fun vs H Q E h => ?_) (fun cdv A outer s H vs Q E hr h => ?_)
  · obtain ⟨n, c, cut, rfl, _⟩ := h
    rfl
  obtain ⟨n, c, cut, rfl, ⟨cvs, hc, hpc⟩, n1, n2, cl, tl, q⟩ := h
  refine ⟨_, (pss_cons (ps_setLc (i := 2) (own := [("k", 3)]) (g := gName 3) (tt := tYes) rfl sc_neighbours.nd rfl rfl (sw_true rfl rfl rfl (by decide +kernel)) (pi_range1 (by rfl) T.m_range (pa_cons (pv 0) pa_nil)) (blkOk_by (N := N_neighbours) (sc := defScope s_neighbours) (by decide +kernel)) (fun _ _ _ _ _ => (pg_name (i := 3) sc_neighbours.nd rfl (.inl rfl))) (fun _ _ _ _ _ => pts_nil) (fun _ _ _ _ _ => (pe_lst pa_nil)))
      (pss_cons (ps_for PassesOwn.never rfl (k_il (K := K) (pi_list (pe_call (ok_ties T) (hr.mono (by decide)) (by rfl) T.g_ties T.F_ties.kp T.b_ties .nil pass0 (pa_cons (pv 0) (pa_cons (pv 1) pa_nil))))) (k_gt (K := K) (pg_tup (by rfl) (pgs_cons (pg_name (i := 4) sc_neighbours.nd rfl (.inl rfl)) (pgs_cons (pg_name (i := 5) sc_neighbours.nd rfl (.inl rfl)) pgs_nil)))) (pss_cons (ps_expr (k_bm (K := K) (pe_bm PySem.F.plainAttrs_list PySem.F.slot_list_append PySem.F.type_list_append mt_append (pe_ix (ix_listK (K := K)) (pv 2) (pv 4) (fun _ _ => rfl)) (pa_cons (pv 5) pa_nil))))
      (pss_one (ps_expr (k_bm (K := K) (pe_bm PySem.F.plainAttrs_list PySem.F.slot_list_append PySem.F.type_list_append mt_append (pe_ix (ix_listK (K := K)) (pv 2) (pv 5) (fun _ _ => rfl)) (pa_cons (pv 4) pa_nil)))))))
      (pss_one (ps_ret (pv 2))))), ?_⟩
  walk_at "st"
  rw [Int.toNat_natCast]
  refine Pm.w_lcR fun D hD => ⟨fun i H1 => Same H H1 ∧ ∃ qs : List Addr, H1 D = some (.lst (qs.map V.ref)) ∧ qs.length = i ∧ qs.Nodup ∧ ∀ q ∈ qs, H1 q = some (.lst []) ∧ H q = none ∧ q ≠ D, ⟨same_new hD _, [], upd_same, rfl, List.nodup_nil, fun q h => absurd h List.not_mem_nil⟩, fun i H1 hi ⟨s1, qs, h1, h2, h3, h4⟩ => ?_, fun H1 ⟨s1, qs, h1, h2, h3, h4⟩ => ?_⟩
  · walk_at "st"
    refine Pm.w_newL (fun q0 hq0 => ?_)
    have s2 := same_new hq0 (.lst [])
    have nqD : D ≠ q0 := ne_of_none h1 hq0
    refine Pm.w_put (s2 _ _ h1) (size_lt (by rw [List.length_map]; omega)) ⟨same_but hD (s1.trans s2), qs ++ [q0], ?_, by rw [List.length_append, List.length_singleton, h2], ?_, fun q hq => ?_⟩
    · rw [List.map_append, List.map_cons, List.map_nil]
      exact upd_same
    · rw [List.nodup_append]
      refine ⟨h3, by simp, fun a ha b hb e => ?_⟩
      rw [List.mem_singleton.mp hb] at e
      rw [e] at ha
      have := (h4 q0 ha).1
      rw [hq0] at this
      cases this
    · rcases List.mem_append.mp hq with hq | hq
      · obtain ⟨k1, k2, k3⟩ := h4 q hq
        exact ⟨by rw [upd_ne k3]; exact s2 _ _ k1, k2, k3⟩
      · rw [List.mem_singleton.mp hq]
        exact ⟨by rw [upd_ne nqD.symm]; exact upd_same, s1.free hq0, nqD.symm⟩
  · walk_at "st"
    refine ⟨n, c, cut, rfl, n1, n2, ⟨cvs, s1 _ _ hc, prs_keep (keeps s1) hpc⟩, cl, fun l H2 tvs s2 nl hl hpl => ?_⟩
    have tlen : (tiesL n cut).length ≤ 3000 := by rw [tiesL, sortP_len, List.length_append, sides0_len n1]; omega
    have ltv := hpl.length
    have hlH : H l = none := s1.free nl
    have nlq : ∀ q ∈ qs, q ≠ l := fun q hq e => by
      have := (h4 q hq).1
      rw [e, nl] at this
      cases this
    have nDl : D ≠ l := ne_of_none h1 nl
    refine Pm.w_rdL (SqL.of hl) ?_
    refine Pm.w_forL (xs := tvs) (fun i σ H3 => ∃ x3 x4 x5, σ = [some (.int n), some (.ref c), some (.ref D), x3, x4, x5] ∧ Same H H3 ∧ H3 l = some (.lst tvs) ∧ Prs H3 tvs (tiesL n cut) ∧ H3 D = some (.lst (qs.map V.ref)) ∧ ∀ (j : Nat) q, qs[j]? = some q → H3 q = some (.lst ((nbrL ((tiesL n cut).take i) (j : Int)).map V.int)) ∧ (nbrL ((tiesL n cut).take i) (j : Int)).length ≤ 2 * i) ⟨_, _, _, rfl, s1.trans s2, hl, hpl, s2 _ _ h1, fun j q hq => ⟨by rw [List.take_zero]; exact s2 _ _ (h4 q (List.mem_of_getElem? hq)).1, by rw [List.take_zero]; exact Nat.le_refl _⟩⟩ (fun i σ H3 _ ⟨_, _, _, _, _, h, _⟩ => SqL.of h) ?_ ?_
    · rintro i v σ H3 hi ⟨x3, x4, x5, rfl, s3, hl3, hpl3, hD3, hqs⟩
      obtain ⟨p, hp, t, rfl, ht⟩ := hpl3.get hi
      have ilt : i < tvs.length := (List.getElem?_eq_some_iff.mp hi).1
      have tp := tl p (List.mem_of_getElem? hp)
      obtain ⟨ia, hia⟩ : ∃ i : Nat, p.1 = i := ⟨p.1.toNat, by omega⟩
      obtain ⟨ib, hib⟩ : ∃ i : Nat, p.2 = i := ⟨p.2.toNat, by omega⟩
      have la : ia < qs.length := by omega
      have lb : ib < qs.length := by omega
      obtain ⟨qa, hqa⟩ : ∃ q, qs[ia]? = some q := ⟨_, List.getElem?_eq_getElem la⟩
      obtain ⟨qb, hqb⟩ : ∃ q, qs[ib]? = some q := ⟨_, List.getElem?_eq_getElem lb⟩
      have ma := List.mem_of_getElem? hqa
      have mb := List.mem_of_getElem? hqb
      have nab : qa ≠ qb := fun e => by
        rw [e] at hqa
        have := (List.getElem?_inj la h3).mp (hqa.trans hqb.symm)
        omega
      walk_at "st"
      refine Pm.w_gtup (SqT.of ht) rfl ?_
      walk_at "st"
      refine Pm.w_ixL (SqL.of hD3) (v := .ref qa) (by rw [hia]; exact atI_nat (by rw [List.getElem?_map, hqa]; rfl)) ?_
      walk_at "st"
      obtain ⟨ha1, ha2⟩ := hqs ia qa hqa
      refine ⟨.inl ⟨rfl, _, SqL.of ha1⟩, ?_⟩
      walk_at "st"
      refine Pm.w_append ha1 (size_lt (by rw [List.length_map]; omega)) ?_
      have nDa : D ≠ qa := (h4 qa ma).2.2.symm
      have hD4 : (upd H3 qa (.lst ((nbrL ((tiesL n cut).take i) (ia : Int)).map V.int ++ [.int p.2]))) D = some (.lst (qs.map V.ref)) := by rw [upd_ne nDa]; exact hD3
      walk_at "st"
      refine Pm.w_ixL (SqL.of hD4) (v := .ref qb) (by rw [hib]; exact atI_nat (by rw [List.getElem?_map, hqb]; rfl)) ?_
      walk_at "st"
      obtain ⟨hb1, hb2⟩ := hqs ib qb hqb
      have hb1' : (upd H3 qa (.lst ((nbrL ((tiesL n cut).take i) (ia : Int)).map V.int ++ [.int p.2]))) qb = some (.lst ((nbrL ((tiesL n cut).take i) (ib : Int)).map V.int)) := by rw [upd_ne nab.symm]; exact hb1
      refine ⟨.inl ⟨rfl, _, SqL.of hb1'⟩, ?_⟩
      walk_at "st"
      refine Pm.w_append hb1' (size_lt (by rw [List.length_map]; omega)) ?_
      have k4 := keeps_lst (ys := (nbrL ((tiesL n cut).take i) (ia : Int)).map V.int ++ [.int p.2]) ha1
      have k5 := keeps_lst (ys := (nbrL ((tiesL n cut).take i) (ib : Int)).map V.int ++ [.int p.1]) hb1'
      have nDb : D ≠ qb := (h4 qb mb).2.2.symm
      refine ⟨_, _, _, rfl, same_but (h4 qb mb).2.1 (same_but (h4 qa ma).2.1 s3), by rw [upd_ne (nlq qb mb).symm, upd_ne (nlq qa ma).symm]; exact hl3, prs_keep k5 (prs_keep k4 hpl3), by rw [upd_ne nDb]; exact hD4, fun j q hq => ?_⟩
      obtain ⟨hj1, hj2⟩ := hqs j q hq
      have inj : ∀ j' q', qs[j']? = some q' → q = q' → j = j' := fun j' q' hq' e => by
        rw [← e] at hq'
        exact (List.getElem?_inj (List.getElem?_eq_some_iff.mp hq).1 h3).mp (hq.trans hq'.symm)
      rw [take_snoc hp, nbrL_snoc]
      by_cases cb : q = qb
      · have ej := inj ib qb hqb cb
        subst cb ej
        rw [if_neg (by omega), if_pos (by omega), List.nil_append]
        exact ⟨by rw [List.map_append]; exact upd_same, by rw [List.length_append, List.length_singleton]; omega⟩
      · rw [upd_ne cb]
        by_cases ca : q = qa
        · have ej := inj ia qa hqa ca
          subst ca ej
          rw [if_pos (by omega), if_neg (by omega), List.append_nil]
          exact ⟨by rw [List.map_append]; exact upd_same, by rw [List.length_append, List.length_singleton]; omega⟩
        · rw [upd_ne ca]
          have n1 : (j : Int) ≠ p.1 := fun e => ca (by
            have : j = ia := by omega
            rw [this, hqa] at hq
            exact (Option.some.inj hq).symm)
          have n2 : (j : Int) ≠ p.2 := fun e => cb (by
            have : j = ib := by omega
            rw [this, hqb] at hq
            exact (Option.some.inj hq).symm)
          rw [if_neg (fun e => n1 e.symm), if_neg (fun e => n2 e.symm), List.nil_append, List.append_nil]
          exact ⟨hj1, by omega⟩
    · rintro σ H3 ⟨x3, x4, x5, rfl, s3, hl3, hpl3, hD3, hqs⟩
      rw [ltv, List.take_length] at hqs
      walk_at "st"
      exact q D H3 s3 hD ⟨qs, hD3, h2, fun j q hq => (hqs j q hq).1⟩
end
local macro_rules | `(tactic| walk_at "s1") => `(tactic| with_reducible refine Pm.w_nkeys ?_)
local macro_rules | `(tactic| walk_at "s1") => `(tactic| with_reducible refine Pm.w_ng2 ?_)
local macro_rules | `(tactic| walk_at "s1") => `(tactic| with_reducible refine Pm.w_nget ?_)
local macro_rules | `(tactic| walk_at "s1") => `(tactic| with_reducible refine Pm.w_nput ?_)
local macro_rules | `(tactic| walk_at "s1") => `(tactic| with_reducible refine Pm.w_ckwD ?_)
section
variable {P : Program} {w : World} {K : PySem.W.Frag} {mg : Str → Option Value} {base : Heap}
def LPs (H : Hp) (vs : List V) (ps : List (List Int)) : Prop := All2 (fun v p => ∃ q, v = V.ref q ∧ H q = some (.lst (p.map V.int))) vs ps
theorem LPs.same {H H' : Hp} {vs : List V} {ps : List (List Int)} (h : LPs H vs ps) (s : Same H H') : LPs H' vs ps := All2.mono (fun _ _ ⟨q, e, hq⟩ => ⟨q, e, s _ _ hq⟩) h
def spOnward (P : Program) (w : World) (K : PySem.W.Frag) : Sp := fun vs H Q _ => ∃ (p tl d : Addr) (path : List Int) (n : Nat) (cut : List IP) (t : Tr) (C : Cutting n cut t) (a b : Int) (ha : 0 ≤ a ∧ a < n) (hb : 0 ≤ b ∧ b < n) (ne : a ≠ b) (ks : List ND) (L : ND → Int) (x : Int),
  vs = [.ref p, .ref tl, .ref d] ∧ H p = some (.lst (path.map V.int)) ∧ Tied K H tl n (tiesL n cut) ∧ DI P w H d ks L ∧ Plc n cut a b ks L ∧ path.getLast? = some x ∧ (0 ≤ x ∧ x < n) ∧ n ≤ 12 ∧ path.length ≤ 1000 ∧
  ∀ (l : Addr) (H' : Hp) (ws : List V), Same H H' → H l = none → H' l = some (.lst ws) → LPs H' ws (((nbrL (tiesL n cut) x).filter ((geo C ha hb ne).ok path.reverse)).map fun y => path ++ [y]) → Q (.ref l) H'
theorem all2_imp_mem {α β : Type} {R S : α → β → Prop} : ∀ {xs : List α} {ys : List β}, (∀ x, x ∈ xs → ∀ y, R x y → S x y) → All2 R xs ys → All2 S xs ys
  | [], [], _, _ => trivial
  | x :: xs, y :: ys, h, r => ⟨h x List.mem_cons_self y r.1, all2_imp_mem (fun x hx => h x (List.mem_cons_of_mem _ hx)) r.2⟩
theorem used_range (p : List Int) : usedL p = (List.range (p.length - 1)).map fun i => tieOf (p.getD i 0) (p.getD (i + 1) 0) := by
  unfold usedL
  have gen : ∀ p : List Int, (Geo.stepsOf p).map (fun e => tieOf e.1 e.2) = (List.range (p.length - 1)).map fun i => tieOf (p.getD i 0) (p.getD (i + 1) 0) := by
    intro p
    induction p with
    | nil => rfl
    | cons x p ih =>
      cases p with
      | nil => rfl
      | cons y r =>
        show tieOf y x :: (Geo.stepsOf (y :: r)).map _ = _
        rw [ih]
        simp only [List.length_cons, Nat.add_sub_cancel]
        rw [List.range_succ_eq_map, List.map_cons, List.map_map]
        congr 1
        exact tie_comm _ _
  exact gen p
theorem ok_onward (T : Tx K mg) : FnOk P w K mg base CX0 2 T.a_onward T.fd_onward (["path", "tied", "places"]) (spOnward P w K) := by
  refine T.F_onward.ok sc_onward (fun vs H Q E h => ?_) (fun cdv A outer s H vs Q E hr h => ?_)
  · obtain ⟨p, tl, d, path, n, cut, t, C, a, b, ha, hb, ne, ks, L, x, rfl, _⟩ := h
    rfl
  obtain ⟨p, tl, d, path, n, cut, t, C, a, b, ha, hb, ne, ks, L, x, rfl, hp, hT, hD, hP, hx, xn, n12, pl, q⟩ := h
  have pne : path ≠ [] := fun e => by rw [e] at hx; cases hx
  have pl0 : 0 < path.length := List.length_pos_iff.mpr pne
  have px : path.getD (path.length - 1) 0 = x := by
    rw [List.getD_eq_getElem?_getD, ← List.getLast?_eq_getElem?, hx]
    rfl
  refine ⟨_, (pss_cons (ps_setLc (i := 3) (own := [("k", 4)]) (g := gName 4) (tt := tYes) rfl sc_onward.nd rfl rfl (sw_true rfl rfl rfl (by decide +kernel)) (pi_range1 (by rfl) T.m_range (pa_cons (pe_op op_sub (pe_callB (c_len (K := K)) (by rfl) T.m_len PySem.boot_len (pa_cons (pv 0) pa_nil)) (pe_int)) pa_nil)) (blkOk_by (N := N_onward) (sc := defScope s_onward) (by decide +kernel)) (fun _ _ _ _ _ => (pg_name (i := 4) sc_onward.nd rfl (.inl rfl))) (fun _ _ _ _ _ => pts_nil) (fun _ _ _ _ _ => (pe_call (ok_tie_of T) (hr.mono (by decide)) (by rfl) T.g_tie_of T.F_tie_of.kp T.b_tie_of .nil pass0 (pa_cons (pe_ix (ix_listK (K := K)) (pv 0) (pv 4) (fun _ _ => rfl)) (pa_cons (pe_ix (ix_listK (K := K)) (pv 0) (pe_op op_add (pv 4) (pe_int)) (fun _ _ => rfl)) pa_nil)))))
      (pss_cons (ps_set (i := 5) sc_onward.nd rfl (.inl rfl) (pe_callBK (cr_maxDef (K := K) rfl hr.u2) (by rfl) T.m_max (by decide +kernel) (pa_cons (pe_lc (own := [("tie", 6)]) (g := gName 6) (tt := tYes) rfl sc_onward.nd (k_il (K := K) (pi_list (pv 3))) (blkOk_by (N := N_onward) (sc := defScope s_onward) (by decide +kernel)) (fun _ _ _ _ _ => (pg_name (i := 6) sc_onward.nd rfl (.inl rfl))) (fun _ _ _ _ _ => pts_nil) (fun _ _ _ _ _ => (n_get2 (P := P) (w := w) hr.u40 (pv 2) (pv 6) (pe_un un_neg (pe_int)) ⟨rfl, rfl, rfl, rfl⟩))) pa_nil) (pk_cons (pe_un un_neg (pe_int)) pk_nil)))
      (pss_cons (ps_set (i := 7) sc_onward.nd rfl (.inl rfl) (pe_lst pa_nil))
      (pss_cons (ps_for PassesOwn.never rfl (k_il (K := K) (pi_list (pe_ix (ix_listK (K := K)) (pv 1) (pe_ix (ix_listK (K := K)) (pv 0) (pe_un un_neg (pe_int)) (fun _ _ => rfl)) (fun _ _ => rfl)))) (pg_name (i := 8) sc_onward.nd rfl (.inl rfl)) (pss_cons (ps_set (i := 6) sc_onward.nd rfl (.inl rfl) (pe_call (ok_tie_of T) (hr.mono (by decide)) (by rfl) T.g_tie_of T.F_tie_of.kp T.b_tie_of .nil pass0 (pa_cons (pe_ix (ix_listK (K := K)) (pv 0) (pe_un un_neg (pe_int)) (fun _ _ => rfl)) (pa_cons (pv 8) pa_nil))))
      (pss_cons (ps_set (i := 9) sc_onward.nd rfl (.inl rfl) (n_get2 (P := P) (w := w) hr.u40 (pv 2) (pv 6) (pe_un un_neg (pe_int)) ⟨rfl, rfl, rfl, rfl⟩))
      (pss_cons (ps_set (i := 10) sc_onward.nd rfl (.inl rfl) (pe_cmpR op_eq (pe_op op_mod (pe_callB (c_len (K := K)) (by rfl) T.m_len PySem.boot_len (pa_cons (pv 0) pa_nil)) (pe_int)) (pe_int) (nomark _)))
      (pss_cons (ps_if (PW.pt (pw_or (pt_cmpR (op_inDK (K := K) hr.u65) (pv 6) (pv 3) (by rfl)) (pw_or (PW.pt (pw_and (pt_val (pv 10)) (pw_and1 (pt_cmpR op_lt (pv 9) (pe_int) (nomark _))))) (pw_or1 (pt_chain op_le op_le (pe_int) (pv 9) (pv 5)))))) (pss_one (ps_continue)) pss_nil)
      (pss_one (ps_expr (k_bm (K := K) (pe_bm PySem.F.plainAttrs_list PySem.F.slot_list_append PySem.F.type_list_append mt_append (pv 7) (pa_cons (pe_op op_cat (pv 0) (pe_lst (pa_cons (pv 8) pa_nil))) pa_nil))))))))))
      (pss_one (ps_ret (pv 7))))))), ?_⟩
  walk_at "st"
  refine Pm.w_lenL (SqL.of hp) ?_
  walk_at "st"
  rw [List.length_map]
  walk_at "st"
  refine Pm.w_lcRm (R := Pr) (fun _ _ _ _ k h => h.keep k) (fun i : Nat => tieOf (path.getD i 0) (path.getD (i + 1) 0)) (by omega) (fun D i H1 Nx hD0 hi s1 put => ?_) (fun u H1 us hu0 s1 hu hus => ?_)
  · walk_at "st"
    refine Pm.w_ixL (s1.seq (SqL.of hp)) (atI_int (by omega) (by omega)) ?_
    walk_at "st"
    refine Pm.w_ixL (s1.seq (SqL.of hp)) (atI_int (by omega) (by omega)) ?_
    walk_at "st"
    refine ⟨_, _, rfl, fun t4 H4 s4 n4 h4 => ?_⟩
    rw [show (0 + (i : Int)).toNat = i by omega, show (0 + (i : Int) + 1).toNat = i + 1 by omega] at h4
    exact put _ _ s4 h4
  rw [show ((path.length : Int) - 1).toNat = path.length - 1 by omega, ← used_range] at hus
  have lus := hus.length
  have lus2 : (usedL path).length ≤ 1000 := by rw [used_range, List.length_map, List.length_range]; omega
  have hD1 := hD.same s1
  walk_at "st"
  refine Pm.w_rdL (SqL.of hu) ?_
  refine Pm.w_lcLf (R := In) in_mono (S := Pr) (fun _ _ _ _ k h => h.keep k) (SqL.of hu) hus (fun q => if encM q ∈ ks then L (encM q) else -1) (fun _ => true) (by omega) (fun D x q H2 Nx hD2 hm hs s2 put skip => ?_) (fun m0 H2 ws hm0 s2 hm hws => ?_)
  · walk_at "st"
    refine Pm.w_ng2a (hD1.same s2) ?_
    walk_at "st"
    refine Pm.w_ng2b (hD1.same s2) (keyD_M q) (mark_of hs) ?_
    exact put _ _ rfl (Same.refl _) rfl
  rw [List.filter_eq_self.mpr (fun _ _ => rfl)] at hws
  have ew := ins_map hws
  subst ew
  walk_at "st"
  refine Pm.w_maxDef2 (SqL.of hm) (fun last hlast => ?_)
  have last0 : ∀ q ∈ usedL path, encM q ∈ ks → L (encM q) ≤ last := fun q hq k => by
    rcases hlast with h | h
    · rw [List.map_eq_nil_iff.mp h.1] at hq
      cases hq
    · have := h.2 _ (List.mem_map.mpr ⟨q, hq, rfl⟩)
      rw [if_pos k] at this
      exact this
  have last1 : last = -1 ∨ ∃ q ∈ usedL path, encM q ∈ ks ∧ L (encM q) = last := by
    rcases hlast with h | h
    · exact .inl h.2
    · obtain ⟨q, hq, e⟩ := List.mem_map.mp h.1
      by_cases k : encM q ∈ ks
      · rw [if_pos k] at e
        exact .inr ⟨q, hq, k, e⟩
      · rw [if_neg k] at e
        exact .inl e.symm
  clear hlast hws hm
  have s12 := s1.trans s2
  walk_at "st"
  refine Pm.w_newL (fun f hf => ?_)
  have s3 := same_new hf (.lst [])
  have hfH := s12.free hf
  have s13 := s12.trans s3
  have f3 : (upd H2 f (.lst [])) f = some (.lst []) := upd_same
  have hu3 := (s2.trans s3) _ _ hu
  have hus3 := prs_keep (keeps (s2.trans s3)) hus
  have nuf : u ≠ f := ne_of_none (s2 _ _ hu) hf
  generalize upd H2 f (.lst []) = H3 at s13 f3 hu3 hus3 ⊢
  clear s1 s2 s3 s12 hD1 hus hu
  obtain ⟨qs, hq1, hq2, hq3⟩ := hT
  obtain ⟨xi, rfl⟩ : ∃ i : Nat, x = i := ⟨x.toNat, by omega⟩
  obtain ⟨qx, hqx⟩ : ∃ q, qs[xi]? = some q := ⟨_, List.getElem?_eq_getElem (by omega)⟩
  have hn := hq3 xi qx hqx
  have nl : (nbrL (tiesL n cut) (xi : Int)).length ≤ 1000 := by
    have h1 : (nbrL (tiesL n cut) (xi : Int)).Perm ((posts n).filter fun y => decide (tieOf (xi : Int) y ∈ tiesL n cut)) := by
      have := C.nbr_perm (xi : Int) (fun y => decide (tieOf (xi : Int) y ∈ tiesL n cut)) (fun y h => of_decide_eq_true h)
      rw [List.filter_eq_self.mpr (fun y hy => decide_eq_true (C.nbr_iff.mp hy))] at this
      exact this
    rw [h1.length_eq]
    have := List.length_filter_le (fun y => decide (tieOf (xi : Int) y ∈ tiesL n cut)) (posts n)
    rw [posts_len] at this
    omega
  walk_at "st"
  refine Pm.w_ixL (SqL.of (s13 _ _ hp)) (atI_lastI hx) ?_
  walk_at "st"
  refine Pm.w_ixL (SqL.of (s13 _ _ hq1)) (v := .ref qx) (atI_nat (by rw [List.getElem?_map, hqx]; rfl)) ?_
  walk_at "st"
  refine Pm.w_rdL (SqL.of (s13 _ _ hn)) ?_
  refine Pm.w_forL (xs := (nbrL (tiesL n cut) (xi : Int)).map V.int) (fun i σ H' => ∃ x4 x6 x8 x9 x10 fs, σ = [some (.ref p), some (.ref tl), some (.ref d), some (.ref u), x4, some (.int last), x6, some (.ref f), x8, x9, x10] ∧ Same H H' ∧ H' f = some (.lst fs) ∧ H' u = some (.lst us) ∧ Prs H' us (usedL path) ∧ fs.length ≤ i ∧ LPs H' fs ((((nbrL (tiesL n cut) (xi : Int)).take i).filter ((geo C ha hb ne).ok path.reverse)).map fun y => path ++ [y])) ⟨_, _, _, _, _, [], rfl, s13, f3, hu3, hus3, Nat.le_refl _, by rw [List.take_zero]; trivial⟩ (fun i σ H' _ ⟨_, _, _, _, _, _, _, h, _⟩ => SqL.of (h _ _ hn)) ?_ ?_
  · rintro i v σ H4 hi ⟨x4, x6, x8, x9, x10, fs, rfl, s4, f4, hu4, hus4, fl, hfs⟩
    rw [List.getElem?_map] at hi
    obtain ⟨y, hy, rfl⟩ := Option.map_eq_some_iff.mp hi
    have ilt : i < (nbrL (tiesL n cut) (xi : Int)).length := (List.getElem?_eq_some_iff.mp hy).1
    have yt : tieOf (xi : Int) y ∈ tiesL n cut := C.nbr_iff.mp (List.mem_of_getElem? hy)
    have okp := ok_prog C ha hb ne hP hx yt last0 last1
    walk_at "st"
    refine Pm.w_ixL (SqL.of (s4 _ _ hp)) (atI_lastI hx) ?_
    walk_at "st"
    refine ⟨_, _, rfl, fun tt H5 s5 n5 h5 => ?_⟩
    have s45 := s4.trans s5
    have f5 := s5 _ _ f4
    have hu5 := s5 _ _ hu4
    have hus5 := prs_keep (keeps s5) hus4
    have hfs5 := hfs.same s5
    have hD5 := hD.same s45
    walk_at "st"
    refine Pm.w_ng2a hD5 ?_
    walk_at "st"
    refine Pm.w_ng2b hD5 (keyD_M (tieOf (xi : Int) y)) (mark_of h5) ?_
    have skip : (geo C ha hb ne).ok path.reverse y = false → LPs H5 fs ((((nbrL (tiesL n cut) (xi : Int)).take (i + 1)).filter ((geo C ha hb ne).ok path.reverse)).map fun y => path ++ [y]) := fun e => by
      rw [take_snoc hy, List.filter_append, List.filter_cons_of_neg (by rw [e]; exact Bool.noConfusion), List.filter_nil, List.append_nil]
      exact hfs5
    have no : (tieOf (xi : Int) y ∈ usedL path ∨ (path.length % 2 = 0 ∧ encM (tieOf (xi : Int) y) ∉ ks) ∨ (encM (tieOf (xi : Int) y) ∈ ks ∧ L (encM (tieOf (xi : Int) y)) ≤ last)) → (geo C ha hb ne).ok path.reverse y = false := fun z => by
      rw [Bool.eq_false_iff]
      exact fun k => okp.mp k z
    have yes : (geo C ha hb ne).ok path.reverse y = true → ∀ (w : Addr) H6 fs', Same H5 H6 → LPs H6 fs' ((((nbrL (tiesL n cut) (xi : Int)).take i).filter ((geo C ha hb ne).ok path.reverse)).map fun y => path ++ [y]) → H6 w = some (.lst ((path ++ [y]).map V.int)) → LPs H6 (fs' ++ [.ref w]) ((((nbrL (tiesL n cut) (xi : Int)).take (i + 1)).filter ((geo C ha hb ne).ok path.reverse)).map fun y => path ++ [y]) := fun e w H6 fs' _ h6 hw => by
      rw [take_snoc hy, List.filter_append, List.filter_cons_of_pos e, List.filter_nil, List.map_append, List.map_cons, List.map_nil]
      exact All2.snoc h6 ⟨w, rfl, hw⟩
    by_cases ck : encM (tieOf (xi : Int) y) ∈ ks
    · rw [if_pos ck]
      have l0 := hP.pos _ ck
      walk_at "st"
      refine Pm.w_lenL (SqL.of (s45 _ _ hp)) ?_
      rw [List.length_map]
      walk_at "st"
      refine Pm.w_inPL h5 (SqL.of hu5) hus5 ?_
      by_cases cA : tieOf (xi : Int) y ∈ usedL path
      · rw [decide_eq_true cA]
        walk_at "st"
        exact ⟨_, _, _, _, _, fs, rfl, s45, f5, hu5, hus5, by omega, skip (no (.inl cA))⟩
      · rw [decide_eq_false cA]
        walk_at "st"
        by_cases cE : (path.length : Int) % 2 = 0
        · rw [decide_eq_true cE]
          walk_at "st"
          rw [decide_eq_false (show ¬ L (encM (tieOf (xi : Int) y)) < 0 by omega)]
          walk_at "st"
          by_cases cC : L (encM (tieOf (xi : Int) y)) ≤ last
          · rw [decide_eq_true l0]
            walk_at "st"
            rw [decide_eq_true cC]
            walk_at "st"
            exact ⟨_, _, _, _, _, fs, rfl, s45, f5, hu5, hus5, by omega, skip (no (.inr (.inr ⟨ck, cC⟩)))⟩
          · rw [decide_eq_true l0]
            walk_at "st"
            rw [decide_eq_false cC]
            walk_at "st"
            refine ⟨.inl ⟨rfl, _, SqL.of f5⟩, ?_⟩
            walk_at "st"
            refine Pm.w_newL (fun w0 hw0 => ?_)
            have s6 := same_new hw0 (.lst [.int y])
            refine Pm.w_cat (s6 _ _ (s45 _ _ hp)) upd_same (size_ok (by rw [List.length_map, List.length_singleton]; omega)) (fun w1 hw1 => ?_)
            have s7 := s6.trans (same_new hw1 (.lst (path.map V.int ++ [.int y])))
            have hw1' : (upd (upd H5 w0 (.lst [.int y])) w1 (.lst (path.map V.int ++ [.int y]))) w1 = some (.lst ((path ++ [y]).map V.int)) := by rw [List.map_append]; exact upd_same
            have n1f : w1 ≠ f := fun e => by rw [e, s6 _ _ f5] at hw1; cases hw1
            have hfs7 := hfs5.same s7
            have f7 := s7 _ _ f5
            have hu7 := s7 _ _ hu5
            have hus7 := prs_keep (keeps s7) hus5
            generalize upd (upd H5 w0 (.lst [.int y])) w1 (.lst (path.map V.int ++ [.int y])) = H7 at s7 hw1' hfs7 f7 hu7 hus7 ⊢
            walk_at "st"
            refine Pm.w_append f7 (size_lt (by omega)) ?_
            have k8 := keeps_lst (ys := fs ++ [.ref w1]) f7
            have nofs : ∀ v ∈ fs, v ≠ V.ref f := fun v hv e => by
              obtain ⟨j, hj, ej⟩ := List.mem_iff_getElem.mp hv
              obtain ⟨pp, hpp, q0, e0, h0⟩ := hfs7.get (List.getElem?_eq_getElem hj)
              rw [ej, e] at e0
              cases e0
              rw [f7] at h0
              have h1 := congrArg (fun o => match o with | some (HO.lst l) => l.head? | _ => none) h0
              obtain ⟨y0, _, ey⟩ := List.mem_map.mp (List.mem_of_getElem? hpp)
              simp only at h1
              cases hfs0 : fs with
              | nil => rw [hfs0] at hj; exact absurd hj (Nat.not_lt_zero _)
              | cons v0 fs0 =>
                rw [hfs0] at h1
                obtain ⟨p1, _, q1, e1, _⟩ := hfs7.get (i := 0) (x := v0) (by rw [hfs0]; rfl)
                rw [e1, ← ey, List.map_append, List.head?_append] at h1
                cases path with
                | nil => exact pne rfl
                | cons a0 path => cases h1
            refine ⟨_, _, _, _, _, fs ++ [.ref w1], rfl, same_but hfH (s45.trans s7), upd_same, by rw [upd_ne nuf]; exact hu7, prs_keep k8 hus7, by rw [List.length_append, List.length_singleton]; omega, ?_⟩
            have base := yes (okp.mpr (fun z => z.elim cA fun z => z.elim (fun z => z.2 ck) (fun z => cC z.2))) w1 H7 fs s7 hfs7 hw1'
            refine all2_imp_mem (fun v hv pp ⟨q0, e0, h0⟩ => ⟨q0, e0, ?_⟩) base
            rw [upd_ne (fun e => ?_)]
            · exact h0
            · rw [e0, e] at hv
              rcases List.mem_append.mp hv with hv | hv
              · exact nofs _ hv rfl
              · rw [List.mem_singleton] at hv
                injection hv with hv
                exact n1f hv.symm
        · rw [decide_eq_false cE]
          walk_at "st"
          by_cases cC : L (encM (tieOf (xi : Int) y)) ≤ last
          · rw [decide_eq_true l0]
            walk_at "st"
            rw [decide_eq_true cC]
            walk_at "st"
            exact ⟨_, _, _, _, _, fs, rfl, s45, f5, hu5, hus5, by omega, skip (no (.inr (.inr ⟨ck, cC⟩)))⟩
          · rw [decide_eq_true l0]
            walk_at "st"
            rw [decide_eq_false cC]
            walk_at "st"
            refine ⟨.inl ⟨rfl, _, SqL.of f5⟩, ?_⟩
            walk_at "st"
            refine Pm.w_newL (fun w0 hw0 => ?_)
            have s6 := same_new hw0 (.lst [.int y])
            refine Pm.w_cat (s6 _ _ (s45 _ _ hp)) upd_same (size_ok (by rw [List.length_map, List.length_singleton]; omega)) (fun w1 hw1 => ?_)
            have s7 := s6.trans (same_new hw1 (.lst (path.map V.int ++ [.int y])))
            have hw1' : (upd (upd H5 w0 (.lst [.int y])) w1 (.lst (path.map V.int ++ [.int y]))) w1 = some (.lst ((path ++ [y]).map V.int)) := by rw [List.map_append]; exact upd_same
            have n1f : w1 ≠ f := fun e => by rw [e, s6 _ _ f5] at hw1; cases hw1
            have hfs7 := hfs5.same s7
            have f7 := s7 _ _ f5
            have hu7 := s7 _ _ hu5
            have hus7 := prs_keep (keeps s7) hus5
            generalize upd (upd H5 w0 (.lst [.int y])) w1 (.lst (path.map V.int ++ [.int y])) = H7 at s7 hw1' hfs7 f7 hu7 hus7 ⊢
            walk_at "st"
            refine Pm.w_append f7 (size_lt (by omega)) ?_
            have k8 := keeps_lst (ys := fs ++ [.ref w1]) f7
            have nofs : ∀ v ∈ fs, v ≠ V.ref f := fun v hv e => by
              obtain ⟨j, hj, ej⟩ := List.mem_iff_getElem.mp hv
              obtain ⟨pp, hpp, q0, e0, h0⟩ := hfs7.get (List.getElem?_eq_getElem hj)
              rw [ej, e] at e0
              cases e0
              rw [f7] at h0
              have h1 := congrArg (fun o => match o with | some (HO.lst l) => l.head? | _ => none) h0
              obtain ⟨y0, _, ey⟩ := List.mem_map.mp (List.mem_of_getElem? hpp)
              simp only at h1
              cases hfs0 : fs with
              | nil => rw [hfs0] at hj; exact absurd hj (Nat.not_lt_zero _)
              | cons v0 fs0 =>
                rw [hfs0] at h1
                obtain ⟨p1, _, q1, e1, _⟩ := hfs7.get (i := 0) (x := v0) (by rw [hfs0]; rfl)
                rw [e1, ← ey, List.map_append, List.head?_append] at h1
                cases path with
                | nil => exact pne rfl
                | cons a0 path => cases h1
            refine ⟨_, _, _, _, _, fs ++ [.ref w1], rfl, same_but hfH (s45.trans s7), upd_same, by rw [upd_ne nuf]; exact hu7, prs_keep k8 hus7, by rw [List.length_append, List.length_singleton]; omega, ?_⟩
            have base := yes (okp.mpr (fun z => z.elim cA fun z => z.elim (fun z => z.2 ck) (fun z => cC z.2))) w1 H7 fs s7 hfs7 hw1'
            refine all2_imp_mem (fun v hv pp ⟨q0, e0, h0⟩ => ⟨q0, e0, ?_⟩) base
            rw [upd_ne (fun e => ?_)]
            · exact h0
            · rw [e0, e] at hv
              rcases List.mem_append.mp hv with hv | hv
              · exact nofs _ hv rfl
              · rw [List.mem_singleton] at hv
                injection hv with hv
                exact n1f hv.symm
    · rw [if_neg ck]
      walk_at "st"
      refine Pm.w_lenL (SqL.of (s45 _ _ hp)) ?_
      rw [List.length_map]
      walk_at "st"
      refine Pm.w_inPL h5 (SqL.of hu5) hus5 ?_
      by_cases cA : tieOf (xi : Int) y ∈ usedL path
      · rw [decide_eq_true cA]
        walk_at "st"
        exact ⟨_, _, _, _, _, fs, rfl, s45, f5, hu5, hus5, by omega, skip (no (.inl cA))⟩
      · rw [decide_eq_false cA]
        walk_at "st"
        by_cases cE : (path.length : Int) % 2 = 0
        · rw [decide_eq_true cE]
          walk_at "st"
          exact ⟨_, _, _, _, _, fs, rfl, s45, f5, hu5, hus5, by omega, skip (no (.inr (.inl ⟨by omega, ck⟩)))⟩
        · rw [decide_eq_false cE]
          walk_at "st"
          rw [decide_eq_false (show ¬ (0 : Int) ≤ -1 by decide)]
          walk_at "st"
          refine ⟨.inl ⟨rfl, _, SqL.of f5⟩, ?_⟩
          walk_at "st"
          refine Pm.w_newL (fun w0 hw0 => ?_)
          have s6 := same_new hw0 (.lst [.int y])
          refine Pm.w_cat (s6 _ _ (s45 _ _ hp)) upd_same (size_ok (by rw [List.length_map, List.length_singleton]; omega)) (fun w1 hw1 => ?_)
          have s7 := s6.trans (same_new hw1 (.lst (path.map V.int ++ [.int y])))
          have hw1' : (upd (upd H5 w0 (.lst [.int y])) w1 (.lst (path.map V.int ++ [.int y]))) w1 = some (.lst ((path ++ [y]).map V.int)) := by rw [List.map_append]; exact upd_same
          have n1f : w1 ≠ f := fun e => by rw [e, s6 _ _ f5] at hw1; cases hw1
          have hfs7 := hfs5.same s7
          have f7 := s7 _ _ f5
          have hu7 := s7 _ _ hu5
          have hus7 := prs_keep (keeps s7) hus5
          generalize upd (upd H5 w0 (.lst [.int y])) w1 (.lst (path.map V.int ++ [.int y])) = H7 at s7 hw1' hfs7 f7 hu7 hus7 ⊢
          walk_at "st"
          refine Pm.w_append f7 (size_lt (by omega)) ?_
          have k8 := keeps_lst (ys := fs ++ [.ref w1]) f7
          have nofs : ∀ v ∈ fs, v ≠ V.ref f := fun v hv e => by
            obtain ⟨j, hj, ej⟩ := List.mem_iff_getElem.mp hv
            obtain ⟨pp, hpp, q0, e0, h0⟩ := hfs7.get (List.getElem?_eq_getElem hj)
            rw [ej, e] at e0
            cases e0
            rw [f7] at h0
            have h1 := congrArg (fun o => match o with | some (HO.lst l) => l.head? | _ => none) h0
            obtain ⟨y0, _, ey⟩ := List.mem_map.mp (List.mem_of_getElem? hpp)
            simp only at h1
            cases hfs0 : fs with
            | nil => rw [hfs0] at hj; exact absurd hj (Nat.not_lt_zero _)
            | cons v0 fs0 =>
              rw [hfs0] at h1
              obtain ⟨p1, _, q1, e1, _⟩ := hfs7.get (i := 0) (x := v0) (by rw [hfs0]; rfl)
              rw [e1, ← ey, List.map_append, List.head?_append] at h1
              cases path with
              | nil => exact pne rfl
              | cons a0 path => cases h1
          refine ⟨_, _, _, _, _, fs ++ [.ref w1], rfl, same_but hfH (s45.trans s7), upd_same, by rw [upd_ne nuf]; exact hu7, prs_keep k8 hus7, by rw [List.length_append, List.length_singleton]; omega, ?_⟩
          have base := yes (okp.mpr (fun z => z.elim cA fun z => z.elim (fun z => cE (by omega)) (fun z => ck z.1))) w1 H7 fs s7 hfs7 hw1'
          refine all2_imp_mem (fun v hv pp ⟨q0, e0, h0⟩ => ⟨q0, e0, ?_⟩) base
          rw [upd_ne (fun e => ?_)]
          · exact h0
          · rw [e0, e] at hv
            rcases List.mem_append.mp hv with hv | hv
            · exact nofs _ hv rfl
            · rw [List.mem_singleton] at hv
              injection hv with hv
              exact n1f hv.symm
  · rintro σ H4 ⟨x4, x6, x8, x9, x10, fs, rfl, s4, f4, hu4, hus4, fl, hfs⟩
    rw [List.length_map, List.take_length] at hfs
    walk_at "st"
    exact q f H4 fs s4 hfH f4 hfs
end
section
variable {P : Program} {w : World} {K : PySem.W.Frag} {mg : Str → Option Value} {base : Heap}
/-- a way: a tuple of posts -/
def TupI (H : Hp) (v : V) (p : List Int) : Prop := ∃ t, v = .ref t ∧ H t = some (.tup (p.map V.int))
theorem tupi_mono (H H' : Hp) (v : V) (p : List Int) (k : Keeps H H') (h : TupI H v p) : TupI H' v p := by
  obtain ⟨t, e, h1⟩ := h
  exact ⟨t, e, k _ _ h1⟩
def ndW (p : List Int) : ND := .t (p.map ND.i)
theorem ndi_inj : ∀ {p q : List Int}, p.map ND.i = q.map ND.i → p = q
  | [], [], _ => rfl
  | [], _ :: _, h => by cases h
  | _ :: _, [], h => by cases h
  | x :: p, y :: q, h => by
    rw [List.map_cons, List.map_cons] at h
    injection h with h1 h2
    injection h1 with h1
    rw [h1, ndi_inj h2]
theorem ndW_inj {p q : List Int} (h : ndW p = ndW q) : p = q := by
  unfold ndW at h
  injection h with h
  exact ndi_inj h
def leW (p q : List Int) : Bool := ND.leB (ndW p) (ndW q)
theorem dp_intsW {K : PySem.W.Frag} {H : Hp} : ∀ p : List Int, DpAll K H (p.map V.int) (ND.pyL (p.map ND.i))
  | [] => by simp only [List.map_nil, ND.pyL]; exact .nil
  | x :: p => by simp only [List.map_cons, ND.pyL, ND.py]; exact .cons (.int _) (dp_intsW p)
theorem dp_w {K : PySem.W.Frag} {H : Hp} {v : V} {p : List Int} (h : TupI H v p) : Dp K H v (ndW p).py := by
  obtain ⟨t, rfl, h1⟩ := h
  unfold ndW
  simp only [ND.py]
  exact .tup (SqT.of h1) (dp_intsW p)
theorem homL_ints : ∀ p q : List Int, ND.homL (p.map ND.i) (q.map ND.i) = true
  | [], _ => by simp [ND.homL]
  | _ :: _, [] => by simp [ND.homL]
  | x :: p, y :: q => by simp [ND.homL, ND.hom, homL_ints p q]
theorem dep_w (p : List Int) : (ndW p).dep ≤ 1 := dep_t (n := 0) fun x hx => by
  obtain ⟨i, _, rfl⟩ := List.mem_map.mp hx
  exact dep_i i 0
theorem srtW {ps : List (List Int)} (h : ∀ p ∈ ps, p ≠ []) : SrtOk (ps.map ndW) := by
  refine ⟨fun d hd => ?_, fun d hd e he => ?_, fun d hd => ?_⟩
  · obtain ⟨p, hp, rfl⟩ := List.mem_map.mp hd
    cases p with
    | nil => exact absurd rfl (h _ hp)
    | cons x p => exact ⟨_, _, rfl⟩
  · obtain ⟨p, _, rfl⟩ := List.mem_map.mp hd
    obtain ⟨q, _, rfl⟩ := List.mem_map.mp he
    unfold ndW
    simp only [ND.hom]
    exact homL_ints p q
  · obtain ⟨p, _, rfl⟩ := List.mem_map.mp hd
    exact Nat.le_trans (dep_w p) (by decide)
def wsort (ps : List (List Int)) : List (List Int) := ps.mergeSort leW
theorem wsort_perm (ps : List (List Int)) : (wsort ps).Perm ps := List.mergeSort_perm _ _
theorem wsort_ris (ps : List (List Int)) : (wsort ps).Pairwise fun p q => leW p q = true := List.pairwise_mergeSort (le := leW) (fun a b c => ND.leB_trans (ndW a) (ndW b) (ndW c)) (fun a b => ND.leB_total (ndW a) (ndW b)) ps
theorem wsort_eq {ps qs : List (List Int)} (h : ps.Perm qs) : wsort ps = wsort qs :=
  List.Perm.eq_of_pairwise (fun _ _ _ _ a b => ndW_inj (ND.leB_anti a b)) (wsort_ris ps) (wsort_ris qs) ((wsort_perm ps).trans (h.trans (wsort_perm qs).symm))
theorem w_sortW {K : PySem.W.Frag} {H : Hp} {Q : VK} {a : Addr} {vs : List V} {ps : List (List Int)} (h1 : SqL K H a vs) (p1 : All2 (TupI H) vs ps) (ne : ∀ p ∈ ps, p ≠ []) (h : ∀ ys p, H p = none → All2 (TupI H) ys (wsort ps) → Q (.ref p) (upd H p (.lst ys))) : rSortN K [.ref a] H Q :=
  w_sortN (fun _ _ => ndW_inj) (fun v p r => ⟨dp_w r, by obtain ⟨t, e, _⟩ := r; exact ⟨t, e⟩⟩) h1 p1 (srtW ne) (sort_enc (fun _ _ => rfl) (fun _ _ _ => ND.leB_trans _ _ _) (fun _ _ => ND.leB_total _ _) ps) h
theorem refs_ne {H : Hp} {o q : Addr} {ws : List V} {p : List Int} (h : H o = some (.lst ws)) (refs : ∀ w ∈ ws, ∃ r, w = V.ref r) (hq : H q = some (.lst (p.map V.int))) (hp : p ≠ []) : q ≠ o := fun e => by
  rw [e, h] at hq
  injection hq with hq
  injection hq with hq
  cases p with
  | nil => exact hp rfl
  | cons x p =>
    obtain ⟨r, er⟩ := refs (.int x) (by rw [hq]; exact List.mem_cons_self)
    cases er
theorem LPs.refs {H : Hp} {vs : List V} {ps : List (List Int)} (h : LPs H vs ps) : ∀ w ∈ vs, ∃ r, w = V.ref r := fun w hw => by
  obtain ⟨j, hj, e⟩ := List.mem_iff_getElem.mp hw
  obtain ⟨_, _, q, eq, _⟩ := h.get (List.getElem?_eq_getElem hj)
  exact ⟨q, by rw [← e, eq]⟩
theorem tups_refs {H : Hp} {vs : List V} {ps : List (List Int)} (h : All2 (TupI H) vs ps) : ∀ w ∈ vs, ∃ r, w = V.ref r := fun w hw => by
  obtain ⟨j, hj, e⟩ := List.mem_iff_getElem.mp hw
  obtain ⟨_, _, q, eq, _⟩ := h.get (List.getElem?_eq_getElem hj)
  exact ⟨q, by rw [← e, eq]⟩
theorem LPs.put {H : Hp} {o : Addr} {ws ws' : List V} : ∀ {vs : List V} {ps : List (List Int)}, LPs H vs ps → (∀ p ∈ ps, p ≠ []) → H o = some (.lst ws) → (∀ w ∈ ws, ∃ r, w = V.ref r) → LPs (upd H o (.lst ws')) vs ps
  | [], [], _, _, _, _ => trivial
  | v :: vs, p :: ps, ⟨⟨q, e, hq⟩, h⟩, ne, ho, refs => ⟨⟨q, e, by rw [upd_ne (refs_ne ho refs hq (ne p List.mem_cons_self))]; exact hq⟩, LPs.put h (fun p hp => ne p (List.mem_cons_of_mem _ hp)) ho refs⟩
/-- the ways in order -/
def waysL (G : Geo) (n : Nat) : List (List Int) := (G.leaves (2 * n) [G.a]).map List.reverse
def spWays (K : PySem.W.Frag) (C : Addr) : Sp := fun vs H Q E => ∃ (n : Nat) (c : Addr) (cut : List IP) (t : Tr) (C' : Cutting n cut t) (a b : Int), vs = [.int n, .ref c, .int a, .int b] ∧ PLt H c cut ∧ n ≤ 12 ∧
  (¬ twoOk n a b → ∀ H', Same H H' → E (.ref C) none H') ∧
  ∀ (ha : 0 ≤ a ∧ a < n) (hb : 0 ≤ b ∧ b < n) (ne : a ≠ b) (l : Addr) (H' : Hp) (ws : List V), Same H H' → H l = none → H' l = some (.lst ws) → All2 (TupI H') ws (wsort (waysL (geo C' ha hb ne) n)) → Q (.ref l) H'
theorem ok_ways (T : Tx K mg) : FnOk P w K mg base (L2.CX P w) 4 T.a_ways T.fd_ways (["n", "cut", "a", "b"]) (spWays K T.c_NoPost) := by
  refine T.F_ways.okX sc_ways (fun vs H Q E h => ?_) (fun cdv A outer s H vs Q E hr h => ?_)
  · obtain ⟨n, c, cut, t, C, a, b, rfl, _⟩ := h
    rfl
  obtain ⟨n, c, cut, t, C, a, b, rfl, hc, n12, hE, q⟩ := h
  have n3 := C.n3
  have cl : cut.length + 3 = n := C.cut_len
  refine ⟨_, (pss_cons (ps_expr (pe_call (ok_two_posts T) (hr.mono (by decide)) (by rfl) T.g_two_posts T.F_two_posts.kp T.b_two_posts .nil (passes_call (takes_of rfl rfl rfl rfl) (fun _ _ _ _ h => h)) (pa_cons (pv 0) (pa_cons (pv 2) (pa_cons (pv 3) pa_nil)))))
      (pss_cons (ps_set (i := 4) sc_ways.nd rfl (.inl rfl) (pe_call (ok_across T) (hr.mono (by decide)) (by rfl) T.g_across T.F_across.kp T.b_across .nil pass0 (pa_cons (pv 0) (pa_cons (pv 1) (pa_cons (pv 2) (pa_cons (pv 3) pa_nil))))))
      (pss_cons (ps_set (i := 5) sc_ways.nd rfl (.inl rfl) (pe_call (ok_neighbours T) (hr.mono (by decide)) (by rfl) T.g_neighbours T.F_neighbours.kp T.b_neighbours .nil pass0 (pa_cons (pv 0) (pa_cons (pv 1) pa_nil))))
      (pss_cons (ps_set (i := 6) sc_ways.nd rfl (.inl rfl) (pe_lst pa_nil))
      (pss_cons (ps_set (i := 7) sc_ways.nd rfl (.inl rfl) (pe_lst (pa_cons (pe_lst (pa_cons (pv 2) pa_nil)) pa_nil)))
      (pss_cons (ps_while (passes_of rfl) (pt_cmpR (op_neNil (K := K) hr.u65) (pv 7) (pe_lst pa_nil) (nomark _)) (pss_cons (ps_set (i := 8) sc_ways.nd rfl (.inl rfl) (k_bm0 (K := K) (pe_bm0 PySem.F.plainAttrs_list PySem.F.slot_list_pop PySem.F.type_list_pop mt_pop (pv 7))))
      (pss_one (ps_if (PW.pt (pw_and (pt_cmpR op_eq (pe_ix (ix_listK (K := K)) (pv 8) (pe_un un_neg (pe_int)) (fun _ _ => rfl)) (pv 3) (nomark _)) (pw_and1 (pt_cmpR op_eq (pe_op op_mod (pe_callB (c_len (K := K)) (by rfl) T.m_len PySem.boot_len (pa_cons (pv 8) pa_nil)) (pe_int)) (pe_int) (nomark _))))) (pss_one (ps_expr (k_bm (K := K) (pe_bm PySem.F.plainAttrs_list PySem.F.slot_list_append PySem.F.type_list_append mt_append (pv 6) (pa_cons (pe_callTy (c_tupOf (K := K)) (by rfl) T.m_tuple (by decide +kernel) (pa_cons (pv 8) pa_nil)) pa_nil))))) (pss_one (ps_expr (k_bm (K := K) (pe_bm PySem.F.plainAttrs_list PySem.F.slot_list_extend PySem.F.type_list_extend mt_extend (pv 7) (pa_cons (pe_call (ok_onward T) (hr.mono (by decide)) (by rfl) T.g_onward T.F_onward.kp T.b_onward .nil pass0 (pa_cons (pv 8) (pa_cons (pv 5) (pa_cons (pv 4) pa_nil)))) pa_nil)))))))))
      (pss_one (ps_ret (pe_callB (cr_sortN (K := K) hr.u40) (by rfl) T.m_sorted (by decide +kernel) (pa_cons (pv 6) pa_nil)))))))))), ?_⟩
  walk_at "st"
  refine ⟨n, a, b, rfl, fun no => hE no _ (Same.refl _), fun ok => ?_⟩
  obtain ⟨ha, hb, ne⟩ := ok
  have q := q ha hb ne
  walk_at "st"
  refine ⟨n, c, cut, a, b, rfl, hc, by omega, C.cut_nodup, by omega, fun p hp p' hp' cp cp' => C.near_inj ha hb ne hp hp' cp cp', fun d H1 ks L s1 nd hD hP => ?_⟩
  walk_at "st"
  refine ⟨n, c, cut, rfl, hc.same s1, by omega, by omega, by omega, fun p hp => C.tie_lt2 hp, fun tl H2 s2 ntl hT => ?_⟩
  walk_at "st"
  refine Pm.w_newL (fun f hf => ?_)
  have s3 := same_new hf (.lst [])
  have f3 : (upd H2 f (.lst [])) f = some (.lst []) := upd_same
  generalize upd H2 f (.lst []) = H3 at s3 f3 ⊢
  walk_at "st"
  refine Pm.w_newL (fun p0 hp0 => ?_)
  have s4 := same_new hp0 (.lst [.int a])
  have f4 : (upd H3 p0 (.lst [.int a])) p0 = some (.lst ([a].map V.int)) := upd_same
  generalize upd H3 p0 (.lst [.int a]) = H4 at s4 f4 ⊢
  walk_at "st"
  refine Pm.w_newL (fun o ho => ?_)
  have s5 := same_new ho (.lst [.ref p0])
  have f5 : (upd H4 o (.lst [.ref p0])) o = some (.lst [.ref p0]) := upd_same
  generalize upd H4 o (.lst [.ref p0]) = H5 at s5 f5 ⊢
  have sB : Same H2 H5 := s3.trans (s4.trans s5)
  have hfB := hf
  have hoB : H2 o = none := (s3.trans s4).free ho
  have nfo : f ≠ o := ne_of_none (s4 _ _ f3) ho
  have fF : H5 f = some (.lst []) := (s4.trans s5) _ _ f3
  have fP : H5 p0 = some (.lst ([a].map V.int)) := s5 _ _ f4
  have hT2 := hT
  have hD2 := hD.same s2
  have sH : Same H H2 := s1.trans s2
  clear s3 s4 s5 f3 f4 hT hD
  walk_at "st"
  generalize hG : geo C ha hb ne = G at q
  have gn : G.n = n := by rw [← hG]; rfl
  have gb : G.b = b := by rw [← hG]; rfl
  have gp : G.ps = posts n := by rw [← hG]; rfl
  have ga : G.a = a := by rw [← hG]; rfl
  have small := Geo.dfs_small gn n12 (by rw [gp, posts_len])
  refine Pm.w_while (fun m σ H' => ∃ (x8 : Option V) (os fs : List V) (stack found : List (List Int)), σ = [some (.int n), some (.ref c), some (.int a), some (.int b), some (.ref d), some (.ref tl), some (.ref f), some (.ref o), x8] ∧ Same H2 H' ∧ H' o = some (.lst os) ∧ H' f = some (.lst fs) ∧ LPs H' os (stack.map List.reverse) ∧ All2 (TupI H') fs (found.map List.reverse) ∧ Geo.Dfs G (2 * n) stack found ∧ m = (stack.map (Geo.ndn G (2 * n))).sum) _ ⟨_, [.ref p0], [], [[G.a]], [], rfl, sB, f5, fF, ⟨⟨p0, rfl, by rw [ga]; exact fP⟩, trivial⟩, trivial, Geo.dfs_start gn, rfl⟩ ?_
  rintro m σ H6 ⟨x8, os, fs, stack, found, rfl, s6, ho6, hf6, hos, hfs, D, rfl⟩
  have los := hos.length
  have lfs := hfs.length
  rw [List.length_map] at los lfs
  have few := D.few
  have lst := Geo.len_ndn (G := G) (N := 2 * n) stack
  walk_at "st"
  refine Pm.w_newL (fun nl hnl => ?_)
  have s7 := same_new hnl (.lst [])
  refine ⟨o, nl, os, rfl, rfl, SqL.of (s7 _ _ ho6), SqL.of upd_same, ?_⟩
  have s67 := s6.trans s7
  have ho7 := s7 _ _ ho6
  have hf7 := s7 _ _ hf6
  have hos7 := hos.same s7
  have hfs7 := hfs.mono fun _ _ r => tupi_mono _ _ _ _ (keeps s7) r
  generalize upd H6 nl (.lst []) = H7 at s67 ho7 hf7 hos7 hfs7 ⊢
  clear s6 s7 ho6 hf6 hos hfs
  walk_at "st"
  rcases List.eq_nil_or_concat os with e | ⟨os', v, e⟩
  · subst e
    have en : (!([] : List V).isEmpty) = false := rfl
    rw [en]
    refine Pm.w_whF ?_
    have st0 : stack = [] := List.length_eq_zero_iff.mp (by rw [← los]; rfl)
    subst st0
    have al := D.all
    rw [List.flatMap_nil, List.append_nil] at al
    walk_at "st"
    refine w_sortW (SqL.of hf7) hfs7 (fun p hp => ?_) (fun ys l hl hys => ?_)
    · obtain ⟨p', hp', rfl⟩ := List.mem_map.mp hp
      have := Geo.leaf_ne (D.fnd p' hp')
      simpa using this
    · have s8 := same_new hl (.lst ys)
      refine q l _ ys (sH.trans (s67.trans s8)) (sH.free (s67.free hl)) upd_same ?_
      have e2 : wsort (found.map List.reverse) = wsort (waysL G n) := wsort_eq (al.map _)
      rw [← e2]
      exact hys.mono fun _ _ r => tupi_mono _ _ _ _ (keeps s8) r
  · rw [List.concat_eq_append] at e
    subst e
    have en : (!(os' ++ [v]).isEmpty) = true := by cases os' <;> rfl
    rw [en]
    refine Pm.w_whT ?_
    rcases List.eq_nil_or_concat stack with e | ⟨stack', p, e⟩
    · rw [e] at los
      rw [List.length_append, List.length_singleton] at los
      cases los
    rw [List.concat_eq_append] at e
    subst e
    have hos8 := hos7
    rw [List.map_append, List.map_cons, List.map_nil] at hos7
    obtain ⟨ps', y0, ey, hos1, pq, ev, hpq⟩ := all2_snoc_inv hos7
    obtain ⟨e1, e2⟩ := List.append_inj' ey rfl
    subst e1
    injection e2 with e2
    subst e2
    subst ev
    have gd := D.good p (List.mem_append.mpr (.inr (List.mem_singleton.mpr rfl)))
    obtain ⟨gl1, gl2, x, hx, xp⟩ := gd.lt
    rw [gp] at xp
    have xn := mem_posts.mp xp
    have pne : p ≠ [] := fun e => by rw [e] at gl2; exact absurd gl2 (Nat.lt_irrefl _)
    have los2 := hos1.length
    rw [List.length_map] at los2
    have sne : ∀ q ∈ stack'.map List.reverse, q ≠ [] := fun q hq => by
      obtain ⟨q', hq', rfl⟩ := List.mem_map.mp hq
      have := (D.good q' (List.mem_append.mpr (.inl hq'))).lt.2.1
      intro e
      have e : q' = [] := by simpa using e
      rw [e] at this
      exact absurd this (Nat.lt_irrefl _)
    have hxl : p.reverse.getLast? = some x := by rw [List.getLast?_reverse]; exact hx
    have orefs : ∀ w ∈ os' ++ [V.ref pq], ∃ r, w = V.ref r := hos8.refs
    have npo : pq ≠ o := refs_ne ho7 orefs hpq (by simpa using pne)
    rw [List.length_append, List.length_singleton] at los
    rw [List.length_append, List.length_singleton] at lst
    walk_at "st"
    refine ⟨.inl ⟨rfl, _, SqL.of ho7⟩, ?_⟩
    walk_at "st"
    refine ⟨o, _, .ref pq, rfl, rfl, ho7, by rw [List.length_append, List.length_singleton, Nat.add_sub_cancel, List.getElem?_append_right (Nat.le_refl _), Nat.sub_self]; rfl, ?_⟩
    rw [List.dropLast_concat]
    have hos9 : LPs (upd H7 o (.lst os')) os' (stack'.map List.reverse) := LPs.put hos1 sne ho7 orefs
    have hpq9 : (upd H7 o (.lst os')) pq = some (.lst (p.reverse.map V.int)) := by rw [upd_ne npo]; exact hpq
    have ho9 : (upd H7 o (.lst os')) o = some (.lst os') := upd_same
    have hf9 : (upd H7 o (.lst os')) f = some (.lst fs) := by rw [upd_ne nfo]; exact hf7
    have k9 := keeps_lst (ys := os') ho7
    have hfs9 := hfs7.mono fun _ _ r => tupi_mono _ _ _ _ k9 r
    have s9 : Same H2 (upd H7 o (.lst os')) := same_but hoB s67
    generalize upd H7 o (.lst os') = H9 at hos9 hpq9 ho9 hf9 hfs9 s9 ⊢
    walk_at "st"
    refine Pm.w_ixL (SqL.of hpq9) (atI_lastI hxl) ?_
    walk_at "st"
    by_cases cb : x = b
    · rw [decide_eq_true cb]
      walk_at "st"
      refine Pm.w_lenL (SqL.of hpq9) ?_
      rw [List.length_map, List.length_reverse]
      walk_at "st"
      by_cases ce : (p.length : Int) % 2 = 0
      · rw [decide_eq_true ce]
        walk_at "st"
        have fp : G.fin p = true := decide_eq_true ⟨by rw [hx, cb, gb], by omega⟩
        obtain ⟨D2, ms⟩ := D.fin fp
        refine ⟨.inl ⟨rfl, _, SqL.of hf9⟩, ?_⟩
        walk_at "st"
        refine Pm.w_tupOf (SqL.of hpq9) (fun tt htt => ?_)
        have s10 := same_new htt (.tup (p.reverse.map V.int))
        have f10 := s10 _ _ hf9
        walk_at "st"
        refine Pm.w_append f10 (size_lt (by omega)) ?_
        have k11 := keeps_lst (ys := fs ++ [.ref tt]) f10
        refine ⟨_, ms, _, os', fs ++ [.ref tt], stack', found ++ [p], rfl, same_but hfB (s9.trans s10), by rw [upd_ne nfo.symm]; exact s10 _ _ ho9, upd_same, LPs.put (hos9.same s10) sne f10 (tups_refs hfs9), ?_, D2, rfl⟩
        rw [List.map_append, List.map_cons, List.map_nil]
        exact All2.snoc (hfs9.mono fun _ _ r => tupi_mono _ _ _ _ k11 (tupi_mono _ _ _ _ (keeps s10) r)) ⟨tt, rfl, k11 _ _ upd_same⟩
      · rw [decide_eq_false ce]
        walk_at "st"
        have nf : G.fin p = false := decide_eq_false fun z => ce (by have := z.2; omega)
        refine ⟨.inl ⟨rfl, _, SqL.of ho9⟩, ?_⟩
        walk_at "st"
        refine ⟨pq, tl, d, p.reverse, n, cut, t, C, a, b, ha, hb, ne, ks, L, x, rfl, hpq9, hT2.same s9, hD2.same s9, hP, hxl, xn, n12, by rw [List.length_reverse]; omega, fun l H10 ws s10 nl10 hl10 hws => ?_⟩
        rw [hG, List.reverse_reverse] at hws
        have pk : ((((nbrL (tiesL n cut) x).filter (G.ok p)).map (· :: p))).Perm (G.kids p) := by
          unfold Geo.kids
          rw [gp]
          exact (C.nbr_perm x (G.ok p) (fun y hy => by
            have := ((Geo.ok_iff hx).mp hy).1
            rw [← hG] at this
            exact of_decide_eq_true this)).map _
        have hws2 : LPs H10 ws ((((nbrL (tiesL n cut) x).filter (G.ok p)).map (· :: p)).map List.reverse) := by
          rw [List.map_map]
          have e : ((List.reverse ∘ fun y => y :: p) : Int → List Int) = fun y => p.reverse ++ [y] := by
            funext y
            show (y :: p).reverse = _
            rw [List.reverse_cons]
          rw [e]
          exact hws
        generalize ((nbrL (tiesL n cut) x).filter (G.ok p)).map (· :: p) = kk at pk hws2
        obtain ⟨D2, ms⟩ := D.go nf pk
        have few2 := D2.few
        have l2 := Geo.len_ndn (G := G) (N := 2 * n) (stack' ++ kk)
        have lws := hws2.length
        rw [List.length_map] at lws
        rw [List.length_append] at l2
        have ho10 := s10 _ _ ho9
        have nlo : l ≠ o := fun e => by rw [e, ho9] at nl10; cases nl10
        have hos10 := hos9.same s10
        walk_at "st"
        refine ⟨o, l, os', ws, rfl, rfl, ho10, hl10, size_ok (by omega), ?_⟩
        have orefs10 : ∀ w ∈ os', ∃ r, w = V.ref r := fun w hw => orefs w (List.mem_append.mpr (.inl hw))
        have kne : ∀ q ∈ kk.map List.reverse, q ≠ [] := fun q hq => by
          obtain ⟨q', hq', rfl⟩ := List.mem_map.mp hq
          have := (D2.good q' (List.mem_append.mpr (.inr hq'))).lt.2.1
          intro e
          have e : q' = [] := by simpa using e
          rw [e] at this
          exact absurd this (Nat.lt_irrefl _)
        have k10 := keeps_lst (ys := os' ++ ws) ho10
        refine ⟨_, ms, _, os' ++ ws, fs, stack' ++ kk, found, rfl, same_but hoB (s9.trans s10), upd_same, by rw [upd_ne nfo]; exact s10 _ _ hf9, ?_, hfs9.mono fun _ _ r => tupi_mono _ _ _ _ k10 (tupi_mono _ _ _ _ (keeps s10) r), D2, rfl⟩
        rw [List.map_append]
        exact (LPs.put hos10 sne ho10 orefs10).append (LPs.put hws2 kne ho10 orefs10)
    · rw [decide_eq_false cb]
      walk_at "st"
      have nf : G.fin p = false := decide_eq_false fun z => cb (by have := z.1; rw [hx, gb] at this; exact Option.some.inj this)
      refine ⟨.inl ⟨rfl, _, SqL.of ho9⟩, ?_⟩
      walk_at "st"
      refine ⟨pq, tl, d, p.reverse, n, cut, t, C, a, b, ha, hb, ne, ks, L, x, rfl, hpq9, hT2.same s9, hD2.same s9, hP, hxl, xn, n12, by rw [List.length_reverse]; omega, fun l H10 ws s10 nl10 hl10 hws => ?_⟩
      rw [hG, List.reverse_reverse] at hws
      have pk : ((((nbrL (tiesL n cut) x).filter (G.ok p)).map (· :: p))).Perm (G.kids p) := by
        unfold Geo.kids
        rw [gp]
        exact (C.nbr_perm x (G.ok p) (fun y hy => by
          have := ((Geo.ok_iff hx).mp hy).1
          rw [← hG] at this
          exact of_decide_eq_true this)).map _
      have hws2 : LPs H10 ws ((((nbrL (tiesL n cut) x).filter (G.ok p)).map (· :: p)).map List.reverse) := by
        rw [List.map_map]
        have e : ((List.reverse ∘ fun y => y :: p) : Int → List Int) = fun y => p.reverse ++ [y] := by
          funext y
          show (y :: p).reverse = _
          rw [List.reverse_cons]
        rw [e]
        exact hws
      generalize ((nbrL (tiesL n cut) x).filter (G.ok p)).map (· :: p) = kk at pk hws2
      obtain ⟨D2, ms⟩ := D.go nf pk
      have few2 := D2.few
      have l2 := Geo.len_ndn (G := G) (N := 2 * n) (stack' ++ kk)
      have lws := hws2.length
      rw [List.length_map] at lws
      rw [List.length_append] at l2
      have ho10 := s10 _ _ ho9
      have nlo : l ≠ o := fun e => by rw [e, ho9] at nl10; cases nl10
      have hos10 := hos9.same s10
      walk_at "st"
      refine ⟨o, l, os', ws, rfl, rfl, ho10, hl10, size_ok (by omega), ?_⟩
      have orefs10 : ∀ w ∈ os', ∃ r, w = V.ref r := fun w hw => orefs w (List.mem_append.mpr (.inl hw))
      have kne : ∀ q ∈ kk.map List.reverse, q ≠ [] := fun q hq => by
        obtain ⟨q', hq', rfl⟩ := List.mem_map.mp hq
        have := (D2.good q' (List.mem_append.mpr (.inr hq'))).lt.2.1
        intro e
        have e : q' = [] := by simpa using e
        rw [e] at this
        exact absurd this (Nat.lt_irrefl _)
      have k10 := keeps_lst (ys := os' ++ ws) ho10
      refine ⟨_, ms, _, os' ++ ws, fs, stack' ++ kk, found, rfl, same_but hoB (s9.trans s10), upd_same, by rw [upd_ne nfo]; exact s10 _ _ hf9, ?_, hfs9.mono fun _ _ r => tupi_mono _ _ _ _ k10 (tupi_mono _ _ _ _ (keeps s10) r), D2, rfl⟩
      rw [List.map_append]
      exact (LPs.put hos10 sne ho10 orefs10).append (LPs.put hws2 kne ho10 orefs10)
end
section
variable {P : Program} {w : World} {K : PySem.W.Frag} {mg : Str → Option Value} {base : Heap}
def spTuple (K : PySem.W.Frag) : Sp := fun vs H Q _ => ∃ (t : Addr) (ns : List Int), vs = [.ref t, .int ns.length] ∧ SqT K H t (ns.map V.int) ∧ Q (.bl true) H
theorem ok_law_tuple (T : Tx K mg) : FnOk P w K mg base CX0 2 T.a_law_tuple T.fd_law_tuple ["_law_found", "_law_many"] (spTuple K) := by
  refine T.F_law_tuple.ok sc_law_tuple (fun vs H Q E h => ?_) (fun cdv A outer s H vs Q E hr h => ?_)
  · obtain ⟨t, ns, rfl, _⟩ := h
    rfl
  obtain ⟨t, ns, rfl, ht, q⟩ := h
  refine ⟨_, (pss_cons (ps_if (PW.pt (pw_or (pt_not (pt_val (pe_callB (call_isK (K := K)) (by rfl) T.m_isinstance (by decide +kernel) (pa_cons (pv 0) (pa_cons (pe_bltn (v := .ty "tuple") (by rfl) T.m_tuple (by decide +kernel) rfl) pa_nil))))) (pw_or1 (pt_cmpR op_ne (pe_callB (c_len (K := K)) (by rfl) T.m_len PySem.boot_len (pa_cons (pv 0) pa_nil)) (pv 1) (nomark _))))) (pss_one (ps_ret (pe_bl))) pss_nil)
      (pss_cons (ps_for PassesOwn.never rfl (k_it (K := K) (pi_tup (pv 0))) (pg_name (i := 2) sc_law_tuple.nd rfl (.inl rfl)) (pss_one (ps_if (pt_not (pt_val (pe_call (ok_law_whole T) (hr.mono (by decide)) (by rfl) T.g_law_whole T.F_law_whole.kp T.b_law_whole .nil pass0 (pa_cons (pv 2) pa_nil)))) (pss_one (ps_ret (pe_bl))) pss_nil)))
      (pss_one (ps_ret (pe_bl))))), ?_⟩
  walk_at "st"
  refine Pm.w_isiTup ht (b := true) (by decide +kernel) ?_
  walk_at "st"
  refine Pm.w_lenT ht ?_
  walk_at "st"
  refine Pm.w_iteN (fun z => absurd (by rw [List.length_map]) z) (fun _ => ?_)
  walk_at "st"
  refine Pm.w_rdT ht ?_
  refine Pm.w_forT (xs := ns.map V.int) (fun i σ H' => ∃ x, σ = [some (.ref t), some (.int ns.length), x] ∧ H' = H) ⟨_, rfl, rfl⟩ (fun i σ H' _ ⟨x, _, e⟩ => by rw [e]; exact ht) ?_ ?_
  · rintro i x σ H' hi ⟨y, rfl, rfl⟩
    rw [List.getElem?_map] at hi
    obtain ⟨k, _, rfl⟩ := Option.map_eq_some_iff.mp hi
    walk_at "st"
    refine ⟨_, rfl, ?_⟩
    walk_at "st"
    exact ⟨_, rfl, rfl⟩
  · rintro σ H' ⟨x, rfl, rfl⟩
    walk_at "st"
    exact q
end
section
variable {P : Program} {w : World} {K : PySem.W.Frag} {mg : Str → Option Value} {base : Heap}
def spLTwo : Sp := fun vs H Q _ => ∃ (n : Nat) (x y z : Int), vs = [.int n, .int x, .int y, .int z] ∧ 2 ≤ n ∧ ∀ (t : Addr) (H' : Hp) (p : IP), Same H H' → H t = none → Pr H' (.ref t) p → (z % 4 ≠ 1 → twoOk n p.1 p.2) → Q (.ref t) H'
theorem ok_law_two (T : Tx K mg) : FnOk P w K mg base CX0 1 T.a_law_two T.fd_law_two ["_law_n", "_law_one", "_law_other", "_law_wild"] spLTwo := by
  refine T.F_law_two.ok sc_law_two (fun vs H Q E h => ?_) (fun cdv A outer s H vs Q E hr h => ?_)
  · obtain ⟨n, x, y, z, rfl, _⟩ := h
    rfl
  obtain ⟨n, x, y, z, rfl, n2, q⟩ := h
  refine ⟨_, (pss_cons (ps_if (pt_cmpR op_eq (pe_op op_mod (pv 3) (pe_int)) (pe_int) (nomark _)) (pss_cons (ps_set (i := 4) sc_law_two.nd rfl (.inl rfl) (pe_ix (ix_listK (K := K)) (pe_lst (pa_cons (pe_un un_neg (pv 0)) (pa_cons (pe_un un_neg (pe_int)) (pa_cons (pe_op op_add (pv 0) (pe_int)) (pa_cons (pe_op op_pow (pe_int) (pe_int)) (pa_cons (pe_un un_neg (pe_op op_pow (pe_int) (pe_int))) pa_nil)))))) (pe_op op_mod (pv 2) (pe_int)) (fun _ _ => rfl)))
      (pss_one (ps_ret (pe_tup (pa_cons (pe_op op_sub (pe_op op_mod (pv 1) (pe_op op_add (pv 0) (pe_int))) (pe_int)) (pa_cons (pe_ifExp (pt_cmpR op_eq (pe_op op_mod (pv 3) (pe_int)) (pe_int) (nomark _)) (pv 4) (pe_op op_sub (pe_op op_mod (pv 2) (pe_op op_add (pv 0) (pe_int))) (pe_int))) pa_nil)))))) pss_nil)
      (pss_cons (ps_set (i := 5) sc_law_two.nd rfl (.inl rfl) (pe_op op_mod (pv 1) (pv 0)))
      (pss_one (ps_ret (pe_tup (pa_cons (pv 5) (pa_cons (pe_op op_mod (pe_op op_add (pe_op op_add (pv 5) (pe_int)) (pe_op op_mod (pv 2) (pe_op op_sub (pv 0) (pe_int)))) (pv 0)) pa_nil))))))), ?_⟩
  walk_at "st"
  refine Pm.w_ite (fun e => ?_) (fun e => ?_)
  · walk_at "st"
    refine Pm.w_newL (fun g hg => ?_)
    have s1 := same_new hg (.lst [.int (-(n : Int)), .int (-2), .int ((n : Int) + 1), .int (10 ^ (20 : Int).toNat), .int (-(10 ^ (20 : Int).toNat))])
    walk_at "st"
    generalize hk : y % 5 = k
    have k0 : 0 ≤ k := by omega
    have k1 : k < 5 := by omega
    refine Pm.w_ixL (SqL.of upd_same) (atI_int (ns := [-(n : Int), -2, (n : Int) + 1, 10 ^ (20 : Int).toNat, -(10 ^ (20 : Int).toNat)]) k0 k1) ?_
    walk_at "st"
    refine Pm.w_ite (fun e2 => ?_) (fun e2 => ?_)
    · walk_at "st"
      refine Pm.w_newT (fun t ht => ?_)
      exact q t _ (_, _) (s1.trans (same_new ht _)) (s1.free ht) (pr_new upd_same) (fun z' => absurd e z')
    · walk_at "st"
      refine Pm.w_newT (fun t ht => ?_)
      exact q t _ (_, _) (s1.trans (same_new ht _)) (s1.free ht) (pr_new upd_same) (fun z' => absurd e z')
  · walk_at "st"
    refine Pm.w_newT (fun t ht => ?_)
    refine q t _ (_, _) (same_new ht _) ht (pr_new upd_same) (fun _ => ?_)
    have h0 := Int.emod_nonneg x (show (n : Int) ≠ 0 by omega)
    have h1 := Int.emod_lt_of_pos x (show (0 : Int) < n by omega)
    have h2 := Int.emod_nonneg y (show (n : Int) - 1 ≠ 0 by omega)
    have h3 := Int.emod_lt_of_pos y (show (0 : Int) < (n : Int) - 1 by omega)
    generalize x % (n : Int) = u at *
    generalize y % ((n : Int) - 1) = v at *
    have h4 := Int.emod_nonneg (u + 1 + v) (show (n : Int) ≠ 0 by omega)
    have h5 := Int.emod_lt_of_pos (u + 1 + v) (show (0 : Int) < n by omega)
    refine ⟨⟨h0, h1⟩, ⟨h4, h5⟩, fun e3 => ?_⟩
    simp only at e3
    rcases Int.lt_or_le (u + 1 + v) n with c | c
    · rw [Int.emod_eq_of_lt (by omega) c] at e3; omega
    · rw [show u + 1 + v = (u + 1 + v - n) + n by omega, Int.add_emod_right, Int.emod_eq_of_lt (by omega) (by omega)] at e3; omega
end
section
variable {P : Program} {w : World} {K : PySem.W.Frag} {mg : Str → Option Value} {base : Heap}
theorem waysL_fwd {G : Geo} {n : Nat} (hn : G.n = n) {p : List Int} (h : p ∈ wsort (waysL G n)) : Geo.Fwd G p := by
  have h := (wsort_perm _).mem_iff.mp h
  unfold waysL at h
  obtain ⟨q, hq, rfl⟩ := List.mem_map.mp h
  obtain ⟨h1, h2⟩ := (Geo.mem_ways (by rw [hn]; omega)).mp hq
  exact Geo.fwd_of (by rw [List.reverse_reverse]; exact h1) (by rw [List.reverse_reverse]; exact h2)
theorem waysL_len {G : Geo} {n : Nat} (hn : G.n = n) (h12 : n ≤ 12) (hp : G.ps.length = n) : (wsort (waysL G n)).length ≤ 800000 := by
  rw [(wsort_perm _).length_eq]
  unfold waysL
  rw [List.length_map]
  exact Nat.le_trans (Geo.leaves_nodes _ _) (Geo.dfs_small hn h12 hp)
theorem waysL_plen {G : Geo} {n : Nat} (hn : G.n = n) {p : List Int} (h : p ∈ wsort (waysL G n)) : p.length ≤ 2 * n + 1 := by
  have h := (wsort_perm _).mem_iff.mp h
  unfold waysL at h
  obtain ⟨q, hq, rfl⟩ := List.mem_map.mp h
  rw [List.length_reverse]
  have gen : ∀ (f : Nat) (p q : List Int), q ∈ G.leaves f p → q.length ≤ p.length + f := by
    intro f
    induction f with
    | zero => intro p q h; cases h
    | succ f ih =>
      intro p q h
      by_cases c : G.fin p = true
      · rw [Geo.leaves_fin c] at h
        rw [List.mem_singleton.mp h]
        omega
      · rw [Geo.leaves_go (by simpa using c)] at h
        obtain ⟨y, _, _, h⟩ := Geo.mem_kids.mp h
        have := ih _ _ h
        rw [List.length_cons] at this
        omega
  have := gen _ _ _ hq
  rw [List.length_singleton] at this
  omega
end
local macro_rules | `(tactic| walk_at "s1") => `(tactic| with_reducible refine Pm.w_nkeys ?_)
local macro_rules | `(tactic| walk_at "s1") => `(tactic| with_reducible refine Pm.w_ng2 ?_)
local macro_rules | `(tactic| walk_at "s1") => `(tactic| with_reducible refine Pm.w_nget ?_)
local macro_rules | `(tactic| walk_at "s1") => `(tactic| with_reducible refine Pm.w_nput ?_)
section
variable {P : Program} {w : World} {K : PySem.W.Frag} {mg : Str → Option Value} {base : Heap}
/-- a dict gathers a list: what has been put in so far -/
structure Gath (ks : List ND) (L : ND → Int) (l : LP) : Prop where
  mem : ∀ d, d ∈ ks ↔ d ∈ l.map (·.1)
  val : ∀ d ∈ ks, L d = tot l d
theorem gath_nil (L : ND → Int) : Gath [] L [] := ⟨fun _ => Iff.rfl, fun d h => absurd h List.not_mem_nil⟩
theorem Gath.snoc {ks : List ND} {L : ND → Int} {l : LP} (h : Gath ks L l) (q : ND × Int) {n : Int} (e : n = tot l q.1 + q.2) : Gath (putd ks q.1) (updL L q.1 n) (l ++ [q]) := ⟨fun d => by
  rw [mem_putd, h.mem, List.map_append, List.mem_append, List.map_cons, List.map_nil, List.mem_singleton], fun d hd => by
  rw [tot_snoc]
  by_cases c : d = q.1
  · rw [c, updL_same, if_pos rfl, e]
  · rw [updL_ne c, if_neg (fun z => c z.symm), Int.add_zero]
    rcases mem_putd.mp hd with m | m
    · exact h.val d m
    · exact absurd m c⟩
theorem Gath.get {ks : List ND} {L : ND → Int} {l : LP} (h : Gath ks L l) (d : ND) : (if d ∈ ks then L d else 0) = tot l d := by
  by_cases c : d ∈ ks
  · rw [if_pos c, h.val d c]
  · rw [if_neg c, tot_none (fun z => c ((h.mem d).mpr z))]
def spSettled (P : Program) (w : World) : Sp := fun vs H Q _ => ∃ (c : Addr) (ks : List ND) (L : ND → Int) (l : LP), vs = [.ref c] ∧ DI P w H c ks L ∧ Gath ks L l ∧ (∀ d ∈ ks, KeyD d) ∧ SrtOkE ks ∧ ks.length < 1000000 ∧ SLNew H (canon l) Q
theorem ok_settled (T : Tx K mg) : FnOk P w K mg base CX0 1 T.a_settled T.fd_settled (["counts"]) (spSettled P w) := by
  refine T.F_settled.ok sc_settled (fun vs H Q E h => ?_) (fun cdv A outer s H vs Q E hr h => ?_)
  · obtain ⟨c, ks, L, l, rfl, _⟩ := h
    rfl
  obtain ⟨c, ks, L, l, rfl, hD, hg, hk, ok, hz, q⟩ := h
  refine ⟨_, (pss_one (ps_ret (pe_lc (own := [("row", 1)]) (g := gName 1) rfl sc_settled.nd (k_il (K := K) (pi_list (pe_callB (n_sort (P := P) (w := w) rfl hr.u40) (by rfl) T.m_sorted (by decide +kernel) (pa_cons (n_keys (P := P) (w := w) (pv 0)) pa_nil)))) (blkOk_by (N := N_settled) (sc := defScope s_settled) (by decide +kernel)) (fun _ _ _ _ _ => (pg_name (i := 1) sc_settled.nd rfl (.inl rfl))) (fun _ _ _ _ _ => (pts_one (pt_cmpR op_ne (n_get (P := P) (w := w) hr.u40 (pv 0) (pv 1) (fun _ _ => rfl)) (pe_int) (nomark _)))) (fun _ _ _ _ _ => (pe_tup (pa_cons (pv 1) (pa_cons (n_get (P := P) (w := w) hr.u40 (pv 0) (pv 1) (fun _ _ => rfl)) pa_nil))))))), ?_⟩
  walk_at "st"
  refine Pm.w_nkeys1 hD (fun kv hkv => ?_)
  have s1 := same_new hkv (keysO kv c)
  have f1 : (upd H kv (keysO kv c)) kv = some (keysO kv c) := upd_same
  generalize upd H kv (keysO kv c) = H1 at s1 f1 ⊢
  walk_at "st"
  refine Pm.w_nsort f1 (hD.same s1) ok (fun ys g hg2 hys => ?_)
  have s2 := same_new hg2 (.lst ys)
  have f2 : (upd H1 g (.lst ys)) g = some (.lst ys) := upd_same
  have hys2 := hys.mono fun v d r => ndv_mono _ _ _ _ (keeps s2) r
  generalize upd H1 g (.lst ys) = H2 at s2 f2 hys2 ⊢
  have s12 := s1.trans s2
  have hl := (ND.sort_perm ks).length_eq
  refine Pm.w_rdL (SqL.of f2) ?_
  refine Pm.w_lcLf (R := NdP) ndp_mono (S := fun H v d => NdV H d v) ndv_mono (SqL.of f2) hys2 (fun d => (d, L d)) (fun d => decide (L d ≠ 0)) (by omega) (fun D x d H3 Nx hD3 hm hs s3 put skip => ?_) (fun D H3 ws hD3 s3 hd3 ha => ?_)
  · have s13 := s12.trans s3
    have md : d ∈ ks := mem_sort.mp hm
    walk_at "st"
    refine Pm.w_nget1 (hD.same s13) (hk d md) hs md ?_
    walk_at "st"
    refine Pm.w_iteN (fun nz => ?_) (fun z => ?_)
    · walk_at "st"
      refine Pm.w_nget1 (hD.same s13) (hk d md) hs md ?_
      walk_at "st"
      refine Pm.w_newT (fun t ht => ?_)
      have s4 := same_new ht (.tup [x, .int (L d)])
      exact put _ _ (decide_eq_true nz) s4 (NdP.of upd_same (ndv_mono _ _ _ _ (keeps s4) hs))
    · exact skip _ (decide_eq_false (fun nz => nz z)) (Same.refl _)
  · rw [canon_of hD.nd hg.mem hg.val] at ha
    exact q D H3 ws (s12.trans s3) ((s12).free hD3) hd3 ha
theorem SumC.key {n : Nat} {s : LP} (h : SumC n s) {q : ND × Int} (hq : q ∈ s) : KeyD q.1 := by
  obtain ⟨r, e, hr⟩ := h.row q hq
  rw [e]
  exact hr.keyD
end
local macro_rules | `(tactic| walk_at "s1") => `(tactic| with_reducible refine Pm.w_nkeys ?_)
local macro_rules | `(tactic| walk_at "s1") => `(tactic| with_reducible refine Pm.w_ng2 ?_)
local macro_rules | `(tactic| walk_at "s1") => `(tactic| with_reducible refine Pm.w_nget ?_)
local macro_rules | `(tactic| walk_at "s1") => `(tactic| with_reducible refine Pm.w_nput ?_)
section
variable {P : Program} {w : World} {K : PySem.W.Frag} {mg : Str → Option Value} {base : Heap}
def spLSettled (K : PySem.W.Frag) : Sp := fun vs H Q _ => ∃ (a : Addr) (s : LP) (n : Nat), vs = [.ref a] ∧ SLs K H a s ∧ (∀ q ∈ s, ∃ r, q.1 = encL r ∧ RowC n r) ∧ s.length < 1000000 ∧ SLNew H (canon s) Q
theorem ok_law_settled (T : Tx K mg) : FnOk P w K mg base CX0 1 T.a_law_settled T.fd_law_settled (["_law_terms"]) (spLSettled K) := by
  refine T.F_law_settled.ok sc_law_settled (fun vs H Q E h => ?_) (fun cdv A outer s H vs Q E hr h => ?_)
  · obtain ⟨a, s, n, rfl, _⟩ := h
    rfl
  obtain ⟨a, s, n, rfl, ⟨xs, ha, hxs⟩, cs, hz, q⟩ := h
  have ha := SqL.of (K := K) ha
  have lx := hxs.length
  refine ⟨_, (pss_cons (ps_set (i := 1) sc_law_settled.nd rfl (.inr rfl) (n_dnew (P := P) (w := w)))
      (pss_cons (ps_for PassesOwn.never rfl (k_il (K := K) (pi_list (pv 0))) (k_gt (K := K) (pg_tup (by rfl) (pgs_cons (pg_name (i := 2) sc_law_settled.nd rfl (.inl rfl)) (pgs_cons (pg_name (i := 3) sc_law_settled.nd rfl (.inl rfl)) pgs_nil)))) (pss_one (n_put (P := P) (w := w) hr.u40 (pv 1) (pv 2) (pe_op op_add (n_get2 (P := P) (w := w) hr.u40 (pv 1) (pv 2) (pe_int) ⟨rfl, rfl, rfl, rfl⟩) (pv 3)) rfl)))
      (pss_one (ps_ret (pe_lc (own := [("_law_row", 2)]) (g := gName 2) rfl sc_law_settled.nd (k_il (K := K) (pi_list (pe_callB (n_sort (P := P) (w := w) rfl hr.u40) (by rfl) T.m_sorted (by decide +kernel) (pa_cons (n_keys (P := P) (w := w) (pv 1)) pa_nil)))) (blkOk_by (N := N_law_settled) (sc := defScope s_law_settled) (by decide +kernel)) (fun _ _ _ _ _ => (pg_name (i := 2) sc_law_settled.nd rfl (.inl rfl))) (fun _ _ _ _ _ => (pts_one (pt_cmpR op_ne (n_get (P := P) (w := w) hr.u40 (pv 1) (pv 2) (fun _ _ => rfl)) (pe_int) (nomark _)))) (fun _ _ _ _ _ => (pe_tup (pa_cons (pv 2) (pa_cons (n_get (P := P) (w := w) hr.u40 (pv 1) (pv 2) (fun _ _ => rfl)) pa_nil))))))))), ?_⟩
  walk_at "st"
  refine Pm.w_ndnew (fun c hc hD => ?_)
  have s1 := same_new hc (ndO P w c [])
  generalize upd H c (ndO P w c []) = H1 at s1 hD ⊢
  walk_at "st"
  refine Pm.w_rdL (s1.seq ha) ?_
  refine Pm.w_forL (xs := xs) (fun i σ H' => ∃ x y ks L, σ = [some (.ref a), some (.ref c), x, y] ∧ Same H H' ∧ DI P w H' c ks L ∧ Gath ks L (s.take i) ∧ ks.length ≤ i) ⟨_, _, [], _, rfl, s1, hD, by rw [List.take_zero]; exact gath_nil _, Nat.le_refl _⟩ (fun i σ H' _ ⟨_, _, _, _, _, h, _⟩ => h.seq ha) ?_ ?_
  · rintro i v σ H2 hi ⟨x, y, ks, L, rfl, s2, hD2, hg, hl⟩
    obtain ⟨q0, hq, hv⟩ := hxs.get hi
    have mq := List.mem_of_getElem? hq
    have ilt : i < xs.length := (List.getElem?_eq_some_iff.mp hi).1
    obtain ⟨t, x0, rfl, ht, hx⟩ := NdP.ex (ndp_mono _ _ _ _ (keeps s2) hv)
    have kd : KeyD q0.1 := by
      obtain ⟨r, e, hr'⟩ := cs q0 mq
      rw [e]
      exact hr'.keyD
    walk_at "st"
    refine Pm.w_gtup (SqT.of ht) rfl ?_
    walk_at "st"
    refine Pm.w_ng2a hD2 ?_
    walk_at "st"
    refine Pm.w_ng2b hD2 kd hx ?_
    rw [hg.get]
    walk_at "st"
    refine Pm.w_nput1 hD2 kd hx (by omega) (fun zs hD3 k3 => ?_)
    refine ⟨_, _, _, _, rfl, same_but hc s2, hD3, ?_, by have := putd_len ks q0.1; omega⟩
    rw [take_snoc hq]
    exact hg.snoc q0 rfl
  · rintro σ H2 ⟨x, y, ks, L, rfl, s2, hD2, hg, hl⟩
    rw [lx, List.take_length] at hg
    have rows : ∀ d ∈ ks, ∃ r', d = encL r' ∧ RowC n r' := fun d hd => by
      obtain ⟨q0, hq0, rfl⟩ := List.mem_map.mp ((hg.mem d).mp hd)
      exact cs q0 hq0
    walk_at "st"
    refine Pm.w_nkeys1 hD2 (fun kv hkv => ?_)
    have s3 := same_new hkv (keysO kv c)
    have f3 : (upd H2 kv (keysO kv c)) kv = some (keysO kv c) := upd_same
    generalize upd H2 kv (keysO kv c) = H3 at s3 f3 ⊢
    walk_at "st"
    refine Pm.w_nsort f3 (hD2.same s3) (srt_rows rows) (fun ys g hg2 hys => ?_)
    have s4 := same_new hg2 (.lst ys)
    have f4 : (upd H3 g (.lst ys)) g = some (.lst ys) := upd_same
    have hys4 := hys.mono fun v d r => ndv_mono _ _ _ _ (keeps s4) r
    generalize upd H3 g (.lst ys) = H4 at s4 f4 hys4 ⊢
    have s34 := s3.trans s4
    have hl2 := (ND.sort_perm ks).length_eq
    refine Pm.w_rdL (SqL.of f4) ?_
    refine Pm.w_lcLf (R := NdP) ndp_mono (S := fun H v d => NdV H d v) ndv_mono (SqL.of f4) hys4 (fun d => (d, L d)) (fun d => decide (L d ≠ 0)) (by omega) (fun D x d H5 Nx hD5 hm hs s5 put skip => ?_) (fun D H5 ws hD5 s5 hd5 hax => ?_)
    · have s15 := s34.trans s5
      have md : d ∈ ks := mem_sort.mp hm
      have kd : KeyD d := by
        obtain ⟨r, rfl, hr'⟩ := rows d md
        exact hr'.keyD
      walk_at "st"
      refine Pm.w_nget1 (hD2.same s15) kd hs md ?_
      walk_at "st"
      refine Pm.w_iteN (fun nz => ?_) (fun z => ?_)
      · walk_at "st"
        refine Pm.w_nget1 (hD2.same s15) kd hs md ?_
        walk_at "st"
        refine Pm.w_newT (fun t ht => ?_)
        have s6 := same_new ht (.tup [x, .int (L d)])
        exact put _ _ (decide_eq_true nz) s6 (NdP.of upd_same (ndv_mono _ _ _ _ (keeps s6) hs))
      · exact skip _ (decide_eq_false (fun nz => nz z)) (Same.refl _)
    · rw [canon_of hD2.nd hg.mem hg.val] at hax
      exact q D H5 ws (s2.trans (s34.trans s5)) ((s2.trans s34).free hD5) hd5 hax
def spLRowTimes : Sp := fun vs H Q _ => ∃ (x y : V) (r s : LP), vs = [x, y] ∧ NdV H (encL r) x ∧ NdV H (encL s) y ∧ (∀ q ∈ r ++ s, ∃ p, q.1 = encM p) ∧ r.length + s.length ≤ 1000 ∧ ∀ (t : Addr) (H' : Hp), Same H H' → NdV H' (encL (canon (r ++ s))) (.ref t) → Q (.ref t) H'
theorem ok_law_row_times (T : Tx K mg) : FnOk P w K mg base CX0 1 T.a_law_row_times T.fd_law_row_times (["_law_one", "_law_other"]) spLRowTimes := by
  refine T.F_law_row_times.ok sc_law_row_times (fun vs H Q E h => ?_) (fun cdv A outer s H vs Q E hr h => ?_)
  · obtain ⟨x, y, r, s, rfl, _⟩ := h
    rfl
  obtain ⟨x, y, r, s, rfl, hx, hy, hm, hz, q⟩ := h
  obtain ⟨a, xs, rfl, ha, hxs⟩ := row_ex hx
  obtain ⟨b, ys, rfl, hb, hys⟩ := row_ex hy
  have lx := hxs.length
  have ly := hys.length
  refine ⟨_, (pss_cons (ps_set (i := 2) sc_law_row_times.nd rfl (.inr rfl) (n_dnew (P := P) (w := w)))
      (pss_cons (ps_for PassesOwn.never rfl (k_it (K := K) (pi_tup (pe_op (op_catAK (K := K)) (pv 0) (pv 1)))) (k_gt (K := K) (pg_tup (by rfl) (pgs_cons (pg_name (i := 3) sc_law_row_times.nd rfl (.inl rfl)) (pgs_cons (pg_name (i := 4) sc_law_row_times.nd rfl (.inl rfl)) pgs_nil)))) (pss_one (n_put (P := P) (w := w) hr.u40 (pv 2) (pv 3) (pe_op op_add (n_get2 (P := P) (w := w) hr.u40 (pv 2) (pv 3) (pe_int) ⟨rfl, rfl, rfl, rfl⟩) (pv 4)) rfl)))
      (pss_one (ps_ret (pe_callTy (c_tupOf (K := K)) (by rfl) T.m_tuple (by decide +kernel) (pa_cons (pe_lc (own := [("_law_mark_here", 3)]) (g := gName 3) rfl sc_law_row_times.nd (k_il (K := K) (pi_list (pe_callB (n_sort (P := P) (w := w) rfl hr.u40) (by rfl) T.m_sorted (by decide +kernel) (pa_cons (n_keys (P := P) (w := w) (pv 2)) pa_nil)))) (blkOk_by (N := N_law_row_times) (sc := defScope s_law_row_times) (by decide +kernel)) (fun _ _ _ _ _ => (pg_name (i := 3) sc_law_row_times.nd rfl (.inl rfl))) (fun _ _ _ _ _ => (pts_one (pt_cmpR op_ne (n_get (P := P) (w := w) hr.u40 (pv 2) (pv 3) (fun _ _ => rfl)) (pe_int) (nomark _)))) (fun _ _ _ _ _ => (pe_tup (pa_cons (pv 3) (pa_cons (n_get (P := P) (w := w) hr.u40 (pv 2) (pv 3) (fun _ _ => rfl)) pa_nil))))) pa_nil)))))), ?_⟩
  walk_at "st"
  refine Pm.w_ndnew (fun c hc hD => ?_)
  have s1 := same_new hc (ndO P w c [])
  generalize upd H c (ndO P w c []) = H1 at s1 hD ⊢
  walk_at "st"
  refine Pm.w_catA (s1 _ _ ha) (s1 _ _ hb) (size_ok (by omega)) (fun t H2 s2 ht => ?_)
  have hz2 := (all2_keep (keeps (s1.trans s2)) hxs).append (all2_keep (keeps (s1.trans s2)) hys)
  have lz := hz2.length
  rw [List.length_append] at lz
  have hD2 := hD.same s2
  have s12 := s1.trans s2
  clear hD
  walk_at "st"
  refine Pm.w_rdT (SqT.of ht) ?_
  refine Pm.w_forT (xs := xs ++ ys) (fun i σ H' => ∃ x y ks L, σ = [some (.ref a), some (.ref b), some (.ref c), x, y] ∧ Same H H' ∧ H' t = some (.tup (xs ++ ys)) ∧ All2 (NdP H') (xs ++ ys) (r ++ s) ∧ DI P w H' c ks L ∧ Gath ks L ((r ++ s).take i) ∧ ks.length ≤ i) ⟨_, _, [], _, rfl, s12, ht, hz2, hD2, by rw [List.take_zero]; exact gath_nil _, Nat.le_refl _⟩ (fun i σ H' _ ⟨_, _, _, _, _, _, h, _⟩ => SqT.of h) ?_ ?_
  · rintro i v σ H3 hi ⟨x, y, ks, L, rfl, s3, ht3, hz3, hD3, hg, hl⟩
    obtain ⟨q0, hq, hv⟩ := hz3.get hi
    have mq := List.mem_of_getElem? hq
    have ilt : i < (xs ++ ys).length := (List.getElem?_eq_some_iff.mp hi).1
    rw [List.length_append] at ilt
    obtain ⟨u, x0, rfl, hu, hx0⟩ := NdP.ex hv
    obtain ⟨pm, em⟩ := hm q0 mq
    have kd : KeyD q0.1 := by rw [em]; exact keyD_M pm
    walk_at "st"
    refine Pm.w_gtup (SqT.of hu) rfl ?_
    walk_at "st"
    refine Pm.w_ng2a hD3 ?_
    walk_at "st"
    refine Pm.w_ng2b hD3 kd hx0 ?_
    rw [hg.get]
    walk_at "st"
    refine Pm.w_nput1 hD3 kd hx0 (by omega) (fun zs hD4 k4 => ?_)
    refine ⟨_, _, _, _, rfl, same_but hc s3, k4 _ _ ht3, all2_keep k4 hz3, hD4, ?_, by have := putd_len ks q0.1; omega⟩
    rw [take_snoc hq]
    exact hg.snoc q0 rfl
  · rintro σ H3 ⟨x, y, ks, L, rfl, s3, ht3, hz3, hD3, hg, hl⟩
    rw [show (xs ++ ys).length = (r ++ s).length by rw [List.length_append, List.length_append]; omega, List.take_length] at hg
    rw [List.length_append] at hl
    have rows : ∀ d ∈ ks, ∃ p, d = encM p := fun d hd => by
      obtain ⟨q0, hq0, rfl⟩ := List.mem_map.mp ((hg.mem d).mp hd)
      exact hm q0 hq0
    walk_at "st"
    refine Pm.w_nkeys1 hD3 (fun kv hkv => ?_)
    have s4 := same_new hkv (keysO kv c)
    have f4 : (upd H3 kv (keysO kv c)) kv = some (keysO kv c) := upd_same
    generalize upd H3 kv (keysO kv c) = H4 at s4 f4 ⊢
    walk_at "st"
    refine Pm.w_nsort f4 (hD3.same s4) (srt_marks rows) (fun zs g hg2 hzs => ?_)
    have s5 := same_new hg2 (.lst zs)
    have f5 : (upd H4 g (.lst zs)) g = some (.lst zs) := upd_same
    have hzs5 := hzs.mono fun v d r => ndv_mono _ _ _ _ (keeps s5) r
    generalize upd H4 g (.lst zs) = H5 at s5 f5 hzs5 ⊢
    have s45 := s4.trans s5
    have hl2 := (ND.sort_perm ks).length_eq
    refine Pm.w_rdL (SqL.of f5) ?_
    refine Pm.w_lcLf (R := NdP) ndp_mono (S := fun H v d => NdV H d v) ndv_mono (SqL.of f5) hzs5 (fun d => (d, L d)) (fun d => decide (L d ≠ 0)) (by omega) (fun D x d H6 Nx hD6 hm6 hs s6 put skip => ?_) (fun D H6 ws hD6 s6 hd6 hax => ?_)
    · have s16 := s45.trans s6
      have md : d ∈ ks := mem_sort.mp hm6
      have kd : KeyD d := by
        obtain ⟨p, rfl⟩ := rows d md
        exact keyD_M p
      walk_at "st"
      refine Pm.w_nget1 (hD3.same s16) kd hs md ?_
      walk_at "st"
      refine Pm.w_iteN (fun nz => ?_) (fun z => ?_)
      · walk_at "st"
        refine Pm.w_nget1 (hD3.same s16) kd hs md ?_
        walk_at "st"
        refine Pm.w_newT (fun t ht => ?_)
        have s7 := same_new ht (.tup [x, .int (L d)])
        exact put _ _ (decide_eq_true nz) s7 (NdP.of upd_same (ndv_mono _ _ _ _ (keeps s7) hs))
      · exact skip _ (decide_eq_false (fun nz => nz z)) (Same.refl _)
    · rw [canon_of hD3.nd hg.mem hg.val] at hax
      walk_at "st"
      refine Pm.w_tupOf (SqL.of hd6) (fun t9 ht9 => ?_)
      have s9 := same_new ht9 (.tup ws)
      exact q t9 _ (s3.trans (s45.trans (s6.trans s9))) (row_of_tup upd_same (all2_keep (keeps s9) hax))
theorem rise_at {s : LP} (h : RisS s) {i : Nat} {p q : ND × Int} (h1 : s[i]? = some p) (h2 : s[i + 1]? = some q) : ND.ltB p.1 q.1 = true := by
  obtain ⟨l1, rfl⟩ := List.getElem?_eq_some_iff.mp h1
  obtain ⟨l2, rfl⟩ := List.getElem?_eq_some_iff.mp h2
  exact List.pairwise_iff_getElem.mp h i (i + 1) l1 l2 (Nat.lt_succ_self i)
theorem w_geD {K : PySem.W.Frag} {H : Hp} {Q : VK} {x y : V} {d e : ND} (hx : NdV H d x) (hy : NdV H e y) (hh : ND.hom d e = true) (dd : d.dep ≤ 8) (h : Q (.bl (!ND.ltB d e)) H) : rGeN K x y H Q := ⟨d, e, NdV.dp d _ hx, NdV.dp e _ hy, hh, dd, h⟩
def spLSum (K : PySem.W.Frag) : Sp := fun vs H Q _ => ∃ (l : Addr) (s : LP) (n : Nat), vs = [.ref l] ∧ SLs K H l s ∧ SumC n s ∧ n ≤ 1000000 ∧ s.length ≤ 1000000 ∧ Q (.bl true) H
theorem ok_law_sum (T : Tx K mg) : FnOk P w K mg base CX0 3 T.a_law_sum T.fd_law_sum (["_law_found"]) (spLSum K) := by
  refine T.F_law_sum.ok sc_law_sum (fun vs H Q E h => ?_) (fun cdv A outer s H vs Q E hr h => ?_)
  · obtain ⟨l, s, n, rfl, _⟩ := h
    rfl
  obtain ⟨l, s, n, rfl, ⟨xs, hl, hxs⟩, cs, n1000, hz, q⟩ := h
  have hl := SqL.of (K := K) hl
  have lx := hxs.length
  refine ⟨_, (pss_cons (ps_if (pt_not (pt_val (pe_callB (call_isK (K := K)) (by rfl) T.m_isinstance (by decide +kernel) (pa_cons (pv 0) (pa_cons (pe_bltn (v := .ty "list") (by rfl) T.m_list (by decide +kernel) rfl) pa_nil))))) (pss_one (ps_ret (pe_bl))) pss_nil)
      (pss_cons (ps_for PassesOwn.never rfl (k_il (K := K) (pi_list (pv 0))) (pg_name (i := 1) sc_law_sum.nd rfl (.inl rfl)) (pss_cons (ps_if (PW.pt (pw_or (pt_not (pt_val (pe_callB (call_isK (K := K)) (by rfl) T.m_isinstance (by decide +kernel) (pa_cons (pv 1) (pa_cons (pe_bltn (v := .ty "tuple") (by rfl) T.m_tuple (by decide +kernel) rfl) pa_nil))))) (pw_or (pt_cmpR op_ne (pe_callB (c_len (K := K)) (by rfl) T.m_len PySem.boot_len (pa_cons (pv 1) pa_nil)) (pe_int) (nomark _)) (pw_or1 (pt_not (pt_val (pe_callB (call_isK (K := K)) (by rfl) T.m_isinstance (by decide +kernel) (pa_cons (pe_ix (ix_tupK (K := K)) (pv 1) (pe_int) (fun _ _ => rfl)) (pa_cons (pe_bltn (v := .ty "tuple") (by rfl) T.m_tuple (by decide +kernel) rfl) pa_nil))))))))) (pss_one (ps_ret (pe_bl))) pss_nil)
      (pss_cons (ps_if (PW.pt (pw_or (pt_not (pt_val (pe_call (ok_law_whole T) (hr.mono (by decide)) (by rfl) T.g_law_whole T.F_law_whole.kp T.b_law_whole .nil pass0 (pa_cons (pe_ix (ix_tupK (K := K)) (pv 1) (pe_int) (fun _ _ => rfl)) pa_nil)))) (pw_or1 (pt_cmpR op_eq (pe_ix (ix_tupK (K := K)) (pv 1) (pe_int) (fun _ _ => rfl)) (pe_int) (nomark _))))) (pss_one (ps_ret (pe_bl))) pss_nil)
      (pss_cons (ps_for PassesOwn.never rfl (k_it (K := K) (pi_tup (pe_ix (ix_tupK (K := K)) (pv 1) (pe_int) (fun _ _ => rfl)))) (pg_name (i := 2) sc_law_sum.nd rfl (.inl rfl)) (pss_cons (ps_if (PW.pt (pw_or (pt_not (pt_val (pe_callB (call_isK (K := K)) (by rfl) T.m_isinstance (by decide +kernel) (pa_cons (pv 2) (pa_cons (pe_bltn (v := .ty "tuple") (by rfl) T.m_tuple (by decide +kernel) rfl) pa_nil))))) (pw_or (pt_cmpR op_ne (pe_callB (c_len (K := K)) (by rfl) T.m_len PySem.boot_len (pa_cons (pv 2) pa_nil)) (pe_int) (nomark _)) (pw_or1 (pt_not (pt_val (pe_call (ok_law_tuple T) (hr.mono (by decide)) (by rfl) T.g_law_tuple T.F_law_tuple.kp T.b_law_tuple .nil pass0 (pa_cons (pe_ix (ix_tupK (K := K)) (pv 2) (pe_int) (fun _ _ => rfl)) (pa_cons (pe_int) pa_nil))))))))) (pss_one (ps_ret (pe_bl))) pss_nil)
      (pss_one (ps_if (PW.pt (pw_or (pt_not (pt_val (pe_call (ok_law_whole T) (hr.mono (by decide)) (by rfl) T.g_law_whole T.F_law_whole.kp T.b_law_whole .nil pass0 (pa_cons (pe_ix (ix_tupK (K := K)) (pv 2) (pe_int) (fun _ _ => rfl)) pa_nil)))) (pw_or1 (pt_cmpR op_eq (pe_ix (ix_tupK (K := K)) (pv 2) (pe_int) (fun _ _ => rfl)) (pe_int) (nomark _))))) (pss_one (ps_ret (pe_bl))) pss_nil))))
      (pss_one (ps_for PassesOwn.never rfl (pi_range1 (by rfl) T.m_range (pa_cons (pe_op op_sub (pe_callB (c_len (K := K)) (by rfl) T.m_len PySem.boot_len (pa_cons (pe_ix (ix_tupK (K := K)) (pv 1) (pe_int) (fun _ _ => rfl)) pa_nil)) (pe_int)) pa_nil)) (pg_name (i := 3) sc_law_sum.nd rfl (.inl rfl)) (pss_one (ps_if (pt_cmpR (op_geN (K := K) hr.u40) (pe_ix (ix_tupK (K := K)) (pe_ix (ix_tupK (K := K)) (pe_ix (ix_tupK (K := K)) (pv 1) (pe_int) (fun _ _ => rfl)) (pv 3) (fun _ _ => rfl)) (pe_int) (fun _ _ => rfl)) (pe_ix (ix_tupK (K := K)) (pe_ix (ix_tupK (K := K)) (pe_ix (ix_tupK (K := K)) (pv 1) (pe_int) (fun _ _ => rfl)) (pe_op op_add (pv 3) (pe_int)) (fun _ _ => rfl)) (pe_int) (fun _ _ => rfl)) (nomark _)) (pss_one (ps_ret (pe_bl))) pss_nil))))))))
      (pss_cons (ps_for PassesOwn.never rfl (pi_range1 (by rfl) T.m_range (pa_cons (pe_op op_sub (pe_callB (c_len (K := K)) (by rfl) T.m_len PySem.boot_len (pa_cons (pv 0) pa_nil)) (pe_int)) pa_nil)) (pg_name (i := 3) sc_law_sum.nd rfl (.inl rfl)) (pss_one (ps_if (pt_cmpR (op_geN (K := K) hr.u40) (pe_ix (ix_tupK (K := K)) (pe_ix (ix_listK (K := K)) (pv 0) (pv 3) (fun _ _ => rfl)) (pe_int) (fun _ _ => rfl)) (pe_ix (ix_tupK (K := K)) (pe_ix (ix_listK (K := K)) (pv 0) (pe_op op_add (pv 3) (pe_int)) (fun _ _ => rfl)) (pe_int) (fun _ _ => rfl)) (nomark _)) (pss_one (ps_ret (pe_bl))) pss_nil)))
      (pss_one (ps_ret (pe_bl)))))), ?_⟩
  walk_at "st"
  refine Pm.w_isiLst hl (b := true) (by decide +kernel) ?_
  walk_at "st"
  refine Pm.w_rdL hl ?_
  refine Pm.w_forL (xs := xs) (fun i σ H' => ∃ x y z, σ = [some (.ref l), x, y, z] ∧ H' = H) ⟨_, _, _, rfl, rfl⟩ (fun i σ H' _ ⟨_, _, _, _, e⟩ => by rw [e]; exact hl) ?_ ?_
  · rintro i v σ H1 hi ⟨x1, x2, x3, rfl, rfl⟩
    obtain ⟨q0, hq, hv⟩ := hxs.get hi
    have mq := List.mem_of_getElem? hq
    obtain ⟨t, x0, rfl, ht, hx⟩ := NdP.ex hv
    obtain ⟨r, er, cr⟩ := cs.row q0 mq
    rw [er] at hx
    obtain ⟨rt, rs, rfl, hrt, hrs⟩ := row_ex hx
    have lr := hrs.length
    have rl := cr.len
    have nz := cs.nz q0 mq
    have ix0 : ∀ {Q2 : VK}, Q2 (.ref rt) H1 → rIxT K (.ref t) (.int 0) H1 Q2 := fun h => Pm.w_ixT (SqT.of ht) rfl h
    have ix1 : ∀ {Q2 : VK}, Q2 (.int q0.2) H1 → rIxT K (.ref t) (.int 1) H1 Q2 := fun h => Pm.w_ixT (SqT.of ht) rfl h
    walk_at "st"
    refine Pm.w_isiTup (SqT.of ht) (b := true) (by decide +kernel) ?_
    walk_at "st"
    refine Pm.w_lenT (SqT.of ht) ?_
    walk_at "st"
    refine Pm.w_iteN (fun z => absurd rfl z) (fun _ => ?_)
    walk_at "st"
    refine ix0 ?_
    walk_at "st"
    refine Pm.w_isiTup (SqT.of hrt) (b := true) (by decide +kernel) ?_
    walk_at "st"
    refine ix1 ?_
    walk_at "st"
    refine ⟨_, rfl, ?_⟩
    walk_at "st"
    refine ix1 ?_
    walk_at "st"
    refine Pm.w_ite (fun z => absurd z nz) (fun _ => ?_)
    walk_at "st"
    refine ix0 ?_
    walk_at "st"
    refine Pm.w_rdT (SqT.of hrt) ?_
    refine Pm.w_forT (xs := rs) (fun j σ H' => ∃ y z, σ = [some (.ref l), some (.ref t), y, z] ∧ H' = H1) ⟨_, _, rfl, rfl⟩ (fun j σ H' _ ⟨_, _, _, e⟩ => by rw [e]; exact SqT.of hrt) ?_ ?_
    · rintro j v2 σ H2 hj ⟨y1, y2, rfl, rfl⟩
      obtain ⟨q1, hq1, hv1⟩ := hrs.get hj
      have mq1 := List.mem_of_getElem? hq1
      obtain ⟨u, x5, rfl, hu, hx5⟩ := NdP.ex hv1
      obtain ⟨pm, em⟩ := cr.mrk q1 mq1
      rw [em] at hx5
      obtain ⟨m, rfl, hm⟩ := mark_ex hx5
      have nz1 := cr.nz q1 mq1
      walk_at "st"
      refine Pm.w_isiTup (SqT.of hu) (b := true) (by decide +kernel) ?_
      walk_at "st"
      refine Pm.w_lenT (SqT.of hu) ?_
      walk_at "st"
      refine Pm.w_iteN (fun z => absurd rfl z) (fun _ => ?_)
      walk_at "st"
      refine Pm.w_ixT (SqT.of hu) rfl ?_
      walk_at "st"
      refine ⟨m, [pm.1, pm.2], rfl, SqT.of hm, ?_⟩
      walk_at "st"
      refine Pm.w_ixT (SqT.of hu) rfl ?_
      walk_at "st"
      refine ⟨_, rfl, ?_⟩
      walk_at "st"
      refine Pm.w_ixT (SqT.of hu) rfl ?_
      walk_at "st"
      refine Pm.w_ite (fun z => absurd z nz1) (fun _ => ?_)
      walk_at "st"
      exact ⟨_, _, rfl, rfl⟩
    · rintro σ H2 ⟨y1, y2, rfl, rfl⟩
      walk_at "st"
      refine ix0 ?_
      walk_at "st"
      refine Pm.w_lenT (SqT.of hrt) ?_
      walk_at "st"
      rw [show ((rs.length : Int) - 1).toNat = rs.length - 1 by omega]
      refine Pm.w_forR (fun k σ H' => ∃ z, σ = [some (.ref l), some (.ref t), y1, z] ∧ H' = H2) ⟨_, rfl, rfl⟩ ?_ ?_
      · rintro k σ H3 hk ⟨z, rfl, rfl⟩
        have el : ∀ j : Nat, j < rs.length → ∃ (u : Addr) (m : V) (qq : ND × Int), rs[j]? = some (.ref u) ∧ r[j]? = some qq ∧ qq ∈ r ∧ H3 u = some (.tup [m, .int qq.2]) ∧ NdV H3 qq.1 m := fun j hj => by
          obtain ⟨qq, h1, h2⟩ := hrs.get (List.getElem?_eq_getElem hj)
          obtain ⟨u, m, e, h3, h4⟩ := NdP.ex h2
          exact ⟨u, m, qq, by rw [List.getElem?_eq_getElem hj, e], h1, List.mem_of_getElem? h1, h3, h4⟩
        obtain ⟨u1, m1, p1, a1, b1, c1, d1, e1⟩ := el k (by omega)
        obtain ⟨u2, m2, p2, a2, b2, c2, d2, e2⟩ := el (k + 1) (by omega)
        obtain ⟨w1, ew1⟩ := cr.mrk p1 c1
        obtain ⟨w2, ew2⟩ := cr.mrk p2 c2
        walk_at "st"
        refine ix0 ?_
        walk_at "st"
        refine Pm.w_ixT (SqT.of hrt) (by rw [Int.zero_add]; exact atI_nat a1) ?_
        walk_at "st"
        refine Pm.w_ixT (SqT.of d1) rfl ?_
        walk_at "st"
        refine ix0 ?_
        walk_at "st"
        refine Pm.w_ixT (SqT.of hrt) (by rw [Int.zero_add]; exact atI_nat (j := k + 1) a2) ?_
        walk_at "st"
        refine Pm.w_ixT (SqT.of d2) rfl ?_
        refine w_geD e1 e2 (by rw [ew1, ew2]; exact hom_M _ _) (by rw [ew1]; exact (keyD_M _).2) ?_
        rw [rise_at cr.ris b1 b2]
        walk_at "st"
        exact ⟨_, rfl, rfl⟩
      · rintro σ H3 ⟨z, rfl, rfl⟩
        exact ⟨_, _, _, rfl, rfl⟩
  · rintro σ H1 ⟨x1, x2, x3, rfl, rfl⟩
    walk_at "st"
    refine Pm.w_lenL hl ?_
    walk_at "st"
    rw [show ((xs.length : Int) - 1).toNat = xs.length - 1 by omega]
    refine Pm.w_forR (fun k σ H' => ∃ x y z, σ = [some (.ref l), x, y, z] ∧ H' = H1) ⟨_, _, _, rfl, rfl⟩ ?_ ?_
    · rintro k σ H3 hk ⟨y1, y2, y3, rfl, rfl⟩
      have el : ∀ j : Nat, j < xs.length → ∃ (u : Addr) (m : V) (qq : ND × Int), xs[j]? = some (.ref u) ∧ s[j]? = some qq ∧ qq ∈ s ∧ H3 u = some (.tup [m, .int qq.2]) ∧ NdV H3 qq.1 m := fun j hj => by
        obtain ⟨qq, h1, h2⟩ := hxs.get (List.getElem?_eq_getElem hj)
        obtain ⟨u, m, e, h3, h4⟩ := NdP.ex h2
        exact ⟨u, m, qq, by rw [List.getElem?_eq_getElem hj, e], h1, List.mem_of_getElem? h1, h3, h4⟩
      obtain ⟨u1, m1, p1, a1, b1, c1, d1, e1⟩ := el k (by omega)
      obtain ⟨u2, m2, p2, a2, b2, c2, d2, e2⟩ := el (k + 1) (by omega)
      obtain ⟨r1, er1, cr1⟩ := cs.row p1 c1
      obtain ⟨r2, er2, cr2⟩ := cs.row p2 c2
      walk_at "st"
      refine Pm.w_ixL hl (by rw [Int.zero_add]; exact atI_nat a1) ?_
      walk_at "st"
      refine Pm.w_ixT (SqT.of d1) rfl ?_
      walk_at "st"
      refine Pm.w_ixL hl (by rw [Int.zero_add]; exact atI_nat (j := k + 1) a2) ?_
      walk_at "st"
      refine Pm.w_ixT (SqT.of d2) rfl ?_
      refine w_geD e1 e2 (by rw [er1, er2]; exact cr1.hom cr2) (by rw [er1]; exact cr1.keyD.2) ?_
      rw [rise_at cs.ris b1 b2]
      walk_at "st"
      exact ⟨_, _, _, rfl, rfl⟩
    · rintro σ H3 ⟨y1, y2, y3, rfl, rfl⟩
      walk_at "st"
      exact q
end
local macro_rules | `(tactic| walk_at "s1") => `(tactic| with_reducible refine Pm.w_nkeys ?_)
local macro_rules | `(tactic| walk_at "s1") => `(tactic| with_reducible refine Pm.w_ng2 ?_)
local macro_rules | `(tactic| walk_at "s1") => `(tactic| with_reducible refine Pm.w_nget ?_)
local macro_rules | `(tactic| walk_at "s1") => `(tactic| with_reducible refine Pm.w_nput ?_)
section
variable {P : Program} {w : World} {K : PySem.W.Frag} {mg : Str → Option Value} {base : Heap}
def spRowOf (P : Program) (w : World) : Sp := fun vs H Q _ => ∃ (c : Addr) (ks : List ND) (L : ND → Int) (l : LP), vs = [.ref c] ∧ DI P w H c ks L ∧ Gath ks L l ∧ (∀ d ∈ ks, ∃ p, d = encM p) ∧ ks.length < 1000000 ∧ ∀ (t : Addr) (H' : Hp), Same H H' → NdV H' (encL (canon l)) (.ref t) → Q (.ref t) H'
theorem ok_row_of (T : Tx K mg) : FnOk P w K mg base CX0 1 T.a_row_of T.fd_row_of (["powers"]) (spRowOf P w) := by
  refine T.F_row_of.ok sc_row_of (fun vs H Q E h => ?_) (fun cdv A outer s H vs Q E hr h => ?_)
  · obtain ⟨c, ks, L, l, rfl, _⟩ := h
    rfl
  obtain ⟨c, ks, L, l, rfl, hD, hg, rows, hz, q⟩ := h
  refine ⟨_, (pss_one (ps_ret (pe_callTy (c_tupOf (K := K)) (by rfl) T.m_tuple (by decide +kernel) (pa_cons (pe_lc (own := [("mark", 1)]) (g := gName 1) rfl sc_row_of.nd (k_il (K := K) (pi_list (pe_callB (n_sort (P := P) (w := w) rfl hr.u40) (by rfl) T.m_sorted (by decide +kernel) (pa_cons (n_keys (P := P) (w := w) (pv 0)) pa_nil)))) (blkOk_by (N := N_row_of) (sc := defScope s_row_of) (by decide +kernel)) (fun _ _ _ _ _ => (pg_name (i := 1) sc_row_of.nd rfl (.inl rfl))) (fun _ _ _ _ _ => (pts_one (pt_cmpR op_ne (n_get (P := P) (w := w) hr.u40 (pv 0) (pv 1) (fun _ _ => rfl)) (pe_int) (nomark _)))) (fun _ _ _ _ _ => (pe_tup (pa_cons (pv 1) (pa_cons (n_get (P := P) (w := w) hr.u40 (pv 0) (pv 1) (fun _ _ => rfl)) pa_nil))))) pa_nil)))), ?_⟩
  walk_at "st"
  refine Pm.w_nkeys1 hD (fun kv hkv => ?_)
  have s1 := same_new hkv (keysO kv c)
  have f1 : (upd H kv (keysO kv c)) kv = some (keysO kv c) := upd_same
  generalize upd H kv (keysO kv c) = H1 at s1 f1 ⊢
  walk_at "st"
  refine Pm.w_nsort f1 (hD.same s1) (srt_marks rows) (fun ys g hg2 hys => ?_)
  have s2 := same_new hg2 (.lst ys)
  have f2 : (upd H1 g (.lst ys)) g = some (.lst ys) := upd_same
  have hys2 := hys.mono fun v d r => ndv_mono _ _ _ _ (keeps s2) r
  generalize upd H1 g (.lst ys) = H2 at s2 f2 hys2 ⊢
  have s12 := s1.trans s2
  have hl := (ND.sort_perm ks).length_eq
  refine Pm.w_rdL (SqL.of f2) ?_
  refine Pm.w_lcLf (R := NdP) ndp_mono (S := fun H v d => NdV H d v) ndv_mono (SqL.of f2) hys2 (fun d => (d, L d)) (fun d => decide (L d ≠ 0)) (by omega) (fun D x d H3 Nx hD3 hm hs s3 put skip => ?_) (fun D H3 ws hD3 s3 hd3 ha => ?_)
  · have s13 := s12.trans s3
    have md : d ∈ ks := mem_sort.mp hm
    have kd : KeyD d := by
      obtain ⟨p, rfl⟩ := rows d md
      exact keyD_M p
    walk_at "st"
    refine Pm.w_nget1 (hD.same s13) kd hs md ?_
    walk_at "st"
    refine Pm.w_iteN (fun nz => ?_) (fun z => ?_)
    · walk_at "st"
      refine Pm.w_nget1 (hD.same s13) kd hs md ?_
      walk_at "st"
      refine Pm.w_newT (fun t ht => ?_)
      have s4 := same_new ht (.tup [x, .int (L d)])
      exact put _ _ (decide_eq_true nz) s4 (NdP.of upd_same (ndv_mono _ _ _ _ (keeps s4) hs))
    · exact skip _ (decide_eq_false (fun nz => nz z)) (Same.refl _)
  · rw [canon_of hD.nd hg.mem hg.val] at ha
    walk_at "st"
    refine Pm.w_tupOf (SqL.of hd3) (fun t9 ht9 => ?_)
    have s9 := same_new ht9 (.tup ws)
    exact q t9 _ (s12.trans (s3.trans s9)) (row_of_tup upd_same (all2_keep (keeps s9) ha))
end
local macro_rules | `(tactic| walk_at "s1") => `(tactic| with_reducible refine Pm.w_nkeys ?_)
local macro_rules | `(tactic| walk_at "s1") => `(tactic| with_reducible refine Pm.w_ng2 ?_)
local macro_rules | `(tactic| walk_at "s1") => `(tactic| with_reducible refine Pm.w_nget ?_)
local macro_rules | `(tactic| walk_at "s1") => `(tactic| with_reducible refine Pm.w_nput ?_)
section
variable {P : Program} {w : World} {K : PySem.W.Frag} {mg : Str → Option Value} {base : Heap}
/-- a way's powers, step by step -/
def rlOf (p : List Int) : LP := (List.range (p.length - 1)).map fun k => (encM (tieOf (p.getD k 0) (p.getD (k + 1) 0)), 1 - 2 * ((k : Int) % 2))
theorem rl_snoc {p : List Int} (k : Nat) : ((List.range (k + 1)).map fun k => (encM (tieOf (p.getD k 0) (p.getD (k + 1) 0)), 1 - 2 * ((k : Int) % 2))) = ((List.range k).map fun k => (encM (tieOf (p.getD k 0) (p.getD (k + 1) 0)), 1 - 2 * ((k : Int) % 2))) ++ [(encM (tieOf (p.getD k 0) (p.getD (k + 1) 0)), 1 - 2 * ((k : Int) % 2))] := by
  rw [List.range_succ, List.map_append]
  rfl
/-- no tie comes twice in a way -/
theorem Fwd_ties {G : Geo} {p : List Int} (F : Geo.Fwd G p) {j k : Nat} (hj : j < k) (hk : k + 1 < p.length) : tieOf (p.getD j 0) (p.getD (j + 1) 0) ≠ tieOf (p.getD k 0) (p.getD (k + 1) 0) := fun e =>
  (F.rel j k _ _ hj (Geo.fw_get (by omega)) (Geo.fw_get hk)).1 (tie_same.mp e)
def spRowWay (K : PySem.W.Frag) : Sp := fun vs H Q _ => ∃ (t : Addr) (p : List Int) (G : Geo), vs = [.ref t] ∧ SqT K H t (p.map V.int) ∧ Geo.Fwd G p ∧ p.length ≤ 1000 ∧ ∀ (u : Addr) (H' : Hp), Same H H' → NdV H' (encL (canon (rlOf p))) (.ref u) → Q (.ref u) H'
theorem ok_row_of_way (T : Tx K mg) : FnOk P w K mg base CX0 2 T.a_row_of_way T.fd_row_of_way (["way"]) (spRowWay K) := by
  refine T.F_row_of_way.ok sc_row_of_way (fun vs H Q E h => ?_) (fun cdv A outer s H vs Q E hr h => ?_)
  · obtain ⟨t, p, G, rfl, _⟩ := h
    rfl
  obtain ⟨t, p, G, rfl, ht, F, pl, q⟩ := h
  have l2 := F.len2
  refine ⟨_, (pss_cons (ps_set (i := 1) sc_row_of_way.nd rfl (.inl rfl) (n_dnew (P := P) (w := w)))
      (pss_cons (ps_for PassesOwn.never rfl (pi_range1 (by rfl) T.m_range (pa_cons (pe_op op_sub (pe_callB (c_len (K := K)) (by rfl) T.m_len PySem.boot_len (pa_cons (pv 0) pa_nil)) (pe_int)) pa_nil)) (pg_name (i := 2) sc_row_of_way.nd rfl (.inl rfl)) (pss_one (n_put (P := P) (w := w) hr.u40 (pv 1) (pe_call (ok_tie_of T) (hr.mono (by decide)) (by rfl) T.g_tie_of T.F_tie_of.kp T.b_tie_of .nil pass0 (pa_cons (pe_ix (ix_tupK (K := K)) (pv 0) (pv 2) (fun _ _ => rfl)) (pa_cons (pe_ix (ix_tupK (K := K)) (pv 0) (pe_op op_add (pv 2) (pe_int)) (fun _ _ => rfl)) pa_nil))) (pe_op op_sub (pe_int) (pe_op op_mul (pe_int) (pe_op op_mod (pv 2) (pe_int)))) rfl)))
      (pss_one (ps_ret (pe_call (ok_row_of T) (hr.mono (by decide)) (by rfl) T.g_row_of T.F_row_of.kp T.b_row_of .nil pass0 (pa_cons (pv 1) pa_nil)))))), ?_⟩
  walk_at "st"
  refine Pm.w_ndnew (fun d hd0 hD => ?_)
  have s1 := same_new hd0 (ndO P w d [])
  generalize upd H d (ndO P w d []) = H1 at s1 hD ⊢
  walk_at "st"
  refine Pm.w_lenT (Pm.Same.tup s1 ht) ?_
  rw [List.length_map]
  walk_at "st"
  refine Pm.w_forR (fun i σ H' => ∃ (x2 : Option V) (ks : List ND) (L : ND → Int), σ = [some (.ref t), some (.ref d), x2] ∧ Same H H' ∧ DI P w H' d ks L ∧ Gath ks L ((List.range i).map fun k => (encM (tieOf (p.getD k 0) (p.getD (k + 1) 0)), 1 - 2 * ((k : Int) % 2))) ∧ ks.length ≤ i) ⟨_, [], _, rfl, s1, hD, gath_nil _, Nat.le_refl _⟩ ?_ ?_
  · rintro i σ H2 hi ⟨x2, ks, L, rfl, s2, hD2, hg, hkl⟩
    walk_at "st"
    refine Pm.w_ixT (Pm.Same.tup s2 ht) (atI_int (by omega) (by omega)) ?_
    walk_at "st"
    refine Pm.w_ixT (Pm.Same.tup s2 ht) (atI_int (by omega) (by omega)) ?_
    rw [show (0 + (i : Int)).toNat = i by omega, show (0 + (i : Int) + 1).toNat = i + 1 by omega]
    walk_at "st"
    refine ⟨_, _, rfl, fun tt H3 s3 n3 h3 => ?_⟩
    have new : tot ((List.range i).map fun k => (encM (tieOf (p.getD k 0) (p.getD (k + 1) 0)), 1 - 2 * ((k : Int) % 2))) (encM (tieOf (p.getD i 0) (p.getD (i + 1) 0))) = 0 := tot_none fun z => by
      rw [List.map_map] at z
      obtain ⟨j, hj, e⟩ := List.mem_map.mp z
      have hj := List.mem_range.mp hj
      exact Fwd_ties F hj (show i + 1 < p.length by omega) (encM_inj e)
    refine Pm.w_nput1 (hD2.same s3) (keyD_M _) (mark_of h3) (by omega) (fun xs hD4 k4 => ?_)
    refine ⟨_, _, _, rfl, same_but hd0 (s2.trans s3), hD4, ?_, by have := putd_len ks (encM (tieOf (p.getD i 0) (p.getD (i + 1) 0))); omega⟩
    rw [rl_snoc]
    exact hg.snoc (encM (tieOf (p.getD i 0) (p.getD (i + 1) 0)), 1 - 2 * ((i : Int) % 2)) (by rw [new, Int.zero_add, Int.zero_add])
  · rintro σ H2 ⟨x2, ks, L, rfl, s2, hD2, hg, hkl⟩
    walk_at "st"
    rw [show ((p.length : Int) - 1).toNat = p.length - 1 by omega] at hg
    refine ⟨d, ks, L, rlOf p, rfl, hD2, hg, fun dd hdd => ?_, by omega, fun u H3 s3 hu => q u H3 (s2.trans s3) hu⟩
    obtain ⟨q0, hq0, rfl⟩ := List.mem_map.mp ((hg.mem dd).mp hdd)
    obtain ⟨k, _, rfl⟩ := List.mem_map.mp hq0
    exact ⟨_, rfl⟩
theorem rl_mark (p : List Int) : ∀ q ∈ rlOf p, ∃ m, q.1 = encM m := fun q hq => by
  obtain ⟨k, _, rfl⟩ := List.mem_map.mp hq
  exact ⟨_, rfl⟩
theorem rl_len (p : List Int) : (rlOf p).length = p.length - 1 := by unfold rlOf; rw [List.length_map, List.length_range]
theorem rl_rowC {n : Nat} {p : List Int} (h : p.length ≤ n + 1) : RowC n (canon (rlOf p)) := canon_row (rl_mark p) (by rw [rl_len]; omega)
def tlL (S : List (List Int)) : LP := S.map fun p => (encL (canon (rlOf p)), 1)
theorem tl_row {n : Nat} {S : List (List Int)} (h : ∀ p ∈ S, p.length ≤ n + 1) : ∀ q ∈ tlL S, ∃ r, q.1 = encL r ∧ RowC n r := fun q hq => by
  obtain ⟨p, hp, rfl⟩ := List.mem_map.mp hq
  exact ⟨_, rfl, rl_rowC (h p hp)⟩
theorem told_sum {n : Nat} {S : List (List Int)} (h : ∀ p ∈ S, p.length ≤ n + 1) : SumC n (canon (tlL S)) := canon_sum (tl_row h)
def spTold (K : PySem.W.Frag) (C : Addr) : Sp := fun vs H Q E => ∃ (n : Nat) (c : Addr) (cut : List IP) (t : Tr) (C' : Cutting n cut t) (a b : Int), vs = [.int n, .ref c, .int a, .int b] ∧ PLt H c cut ∧ n ≤ 12 ∧
  (¬ twoOk n a b → ∀ H', Same H H' → E (.ref C) none H') ∧
  ∀ (ha : 0 ≤ a ∧ a < n) (hb : 0 ≤ b ∧ b < n) (ne : a ≠ b), SLNew H (canon (tlL (wsort (waysL (geo C' ha hb ne) n)))) Q
theorem ok_told (T : Tx K mg) : FnOk P w K mg base (L2.CX P w) 5 T.a_told T.fd_told (["n", "cut", "a", "b"]) (spTold K T.c_NoPost) := by
  refine T.F_told.okX sc_told (fun vs H Q E h => ?_) (fun cdv A outer s H vs Q E hr h => ?_)
  · obtain ⟨n, c, cut, t, C, a, b, rfl, _⟩ := h
    rfl
  obtain ⟨n, c, cut, t, C, a, b, rfl, ⟨cvs, hc, hpc⟩, n12, hE, q⟩ := h
  refine ⟨_, (pss_cons (ps_set (i := 4) sc_told.nd rfl (.inl rfl) (n_dnew (P := P) (w := w)))
      (pss_cons (ps_for (passes_of rfl) rfl (k_il (K := K) (pi_list (pe_call (ok_ways T) (hr.mono (by decide)) (by rfl) T.g_ways T.F_ways.kp T.b_ways .nil (passes_call (takes_of rfl rfl rfl rfl) (fun _ _ _ _ h => h)) (pa_cons (pv 0) (pa_cons (pv 1) (pa_cons (pv 2) (pa_cons (pv 3) pa_nil))))))) (pg_name (i := 5) sc_told.nd rfl (.inl rfl)) (pss_cons (ps_set (i := 6) sc_told.nd rfl (.inl rfl) (pe_call (ok_row_of_way T) (hr.mono (by decide)) (by rfl) T.g_row_of_way T.F_row_of_way.kp T.b_row_of_way .nil pass0 (pa_cons (pv 5) pa_nil)))
      (pss_one (n_put (P := P) (w := w) hr.u40 (pv 4) (pv 6) (pe_op op_add (n_get2 (P := P) (w := w) hr.u40 (pv 4) (pv 6) (pe_int) ⟨rfl, rfl, rfl, rfl⟩) (pe_int)) rfl))))
      (pss_one (ps_ret (pe_call (ok_settled T) (hr.mono (by decide)) (by rfl) T.g_settled T.F_settled.kp T.b_settled .nil pass0 (pa_cons (pv 4) pa_nil)))))), ?_⟩
  walk_at "st"
  refine Pm.w_ndnew (fun d hd0 hD => ?_)
  have s1 := same_new hd0 (ndO P w d [])
  generalize upd H d (ndO P w d []) = H1 at s1 hD ⊢
  walk_at "st"
  refine ⟨n, c, cut, t, C, a, b, rfl, ⟨cvs, s1 _ _ hc, prs_keep (keeps s1) hpc⟩, n12, fun no H2 s2 => hE no _ (s1.trans s2), fun ha hb ne l H2 ws s2 nl hl hws => ?_⟩
  have q := q ha hb ne
  have gn : (geo C ha hb ne).n = (n : Int) := rfl
  have gl := waysL_len gn n12 (show (posts n).length = n from posts_len n)
  have gfw := fun p h => waysL_fwd gn (p := p) h
  have gpl := fun p h => waysL_plen gn (p := p) h
  generalize wsort (waysL (geo C ha hb ne) n) = S at gl gfw gpl hws q
  have lws := hws.length
  have s12 := s1.trans s2
  have hD2 := hD.same s2
  have rowsk : ∀ p ∈ S, KeyD (encL (canon (rlOf p))) := fun p hp => (rl_rowC (n := 2 * n) (gpl p hp)).keyD
  refine Pm.w_rdL (SqL.of hl) ?_
  refine Pm.w_forL (xs := ws) (fun i σ H' => ∃ (x5 x6 : Option V) (ks : List ND) (L : ND → Int), σ = [some (.int n), some (.ref c), some (.int a), some (.int b), some (.ref d), x5, x6] ∧ Same H H' ∧ H' l = some (.lst ws) ∧ All2 (TupI H') ws S ∧ DI P w H' d ks L ∧ Gath ks L (tlL (S.take i)) ∧ ks.length ≤ i) ⟨_, _, [], _, rfl, s12, hl, hws, hD2, by rw [List.take_zero]; exact gath_nil _, Nat.le_refl _⟩ (fun i σ H' _ ⟨_, _, _, _, _, _, h, _⟩ => SqL.of h) ?_ ?_
  · rintro i v σ H3 hi ⟨x5, x6, ks, L, rfl, s3, hl3, hws3, hD3, hg, hkl⟩
    have ilt : i < ws.length := (List.getElem?_eq_some_iff.mp hi).1
    obtain ⟨p, hp, t3, rfl, ht3⟩ := hws3.get hi
    have mp := List.mem_of_getElem? hp
    walk_at "st"
    refine ⟨t3, p, _, rfl, SqT.of ht3, gfw p mp, by have := gpl p mp; omega, fun u H4 s4 hu => ?_⟩
    walk_at "st"
    refine Pm.w_ng2a (hD3.same s4) ?_
    walk_at "st"
    refine Pm.w_ng2b (hD3.same s4) (rowsk p mp) hu ?_
    rw [hg.get]
    walk_at "st"
    refine Pm.w_nput1 (hD3.same s4) (rowsk p mp) hu (by omega) (fun xs hD5 k5 => ?_)
    have nld : l ≠ d := fun e => by
      obtain ⟨_, _, xs0, h1, _⟩ := hD
      rw [e, h1] at nl
      cases nl
    refine ⟨_, _, _, _, rfl, same_but hd0 (s3.trans s4), by rw [upd_ne nld]; exact s4 _ _ hl3, hws3.mono fun _ _ r => tupi_mono _ _ _ _ k5 (tupi_mono _ _ _ _ (keeps s4) r), hD5, ?_, by have := putd_len ks (encL (canon (rlOf p))); omega⟩
    have e : tlL (S.take (i + 1)) = tlL (S.take i) ++ [(encL (canon (rlOf p)), 1)] := by
      unfold tlL
      rw [take_snoc hp, List.map_append]
      rfl
    rw [e]
    exact hg.snoc (encL (canon (rlOf p)), 1) rfl
  · rintro σ H3 ⟨x5, x6, ks, L, rfl, s3, hl3, hws3, hD3, hg, hkl⟩
    rw [lws, List.take_length] at hg
    have rows : ∀ dd ∈ ks, ∃ r', dd = encL r' ∧ RowC (2 * n) r' := fun dd hdd => by
      obtain ⟨q0, hq0, rfl⟩ := List.mem_map.mp ((hg.mem dd).mp hdd)
      exact tl_row (fun p hp => gpl p hp) q0 hq0
    walk_at "st"
    refine ⟨d, ks, L, tlL S, rfl, hD3, hg, fun dd hdd => ?_, srt_rows rows, by omega, fun p H4 zs s4 np hp hzs => ?_⟩
    · obtain ⟨r', rfl, hr'⟩ := rows dd hdd
      exact hr'.keyD
    · exact q p H4 zs (s3.trans s4) (s3.free np) hp hzs
end
local macro_rules | `(tactic| walk_at "s1") => `(tactic| with_reducible refine Pm.w_nkeys ?_)
local macro_rules | `(tactic| walk_at "s1") => `(tactic| with_reducible refine Pm.w_ng2 ?_)
local macro_rules | `(tactic| walk_at "s1") => `(tactic| with_reducible refine Pm.w_nget ?_)
local macro_rules | `(tactic| walk_at "s1") => `(tactic| with_reducible refine Pm.w_nput ?_)
section
variable {P : Program} {w : World} {K : PySem.W.Frag} {mg : Str → Option Value} {base : Heap}
theorem mass_le {b : Nat} : ∀ {l : LP}, (∀ q ∈ l, q.2.natAbs ≤ b) → mass l ≤ b * l.length
  | [], _ => Nat.le_refl _
  | q :: l, h => by
    have h1 := h q List.mem_cons_self
    have h2 := mass_le (l := l) fun p hp => h p (List.mem_cons_of_mem _ hp)
    show ((q :: l).map fun q => q.2.natAbs).sum ≤ _
    rw [List.map_cons, List.sum_cons, List.length_cons, Nat.mul_add, Nat.mul_one]
    have h2 : (l.map fun q => q.2.natAbs).sum ≤ b * l.length := h2
    omega
theorem canon_bound {b : Nat} {l : LP} (h : ∀ q ∈ l, q.2.natAbs ≤ b) : ∀ q ∈ canon l, q.2.natAbs ≤ b * l.length := fun q hq => by
  rw [(canon_mem hq).2.1]
  exact Nat.le_trans (tot_mass l q.1) (mass_le h)
def spLDraw (K : PySem.W.Frag) : Sp := fun vs H Q _ => ∃ (r : Addr) (row : List Int) (T M : Nat), vs = [.ref r, .int T, .int M] ∧ SqL K H r (row.map V.int) ∧ T * M ≤ row.length ∧ T ≤ row.length ∧ M ≤ 20 ∧ T ≤ 100 ∧ ∀ s, SumC M s → s.length ≤ T → (∀ q ∈ s, q.2.natAbs ≤ 4 * T ∧ RowW (3 * M) q.1) → SLNew H s Q
theorem ok_law_draw_sum (T : Tx K mg) : FnOk P w K mg base CX0 2 T.a_law_draw_sum T.fd_law_draw_sum (["_law_row", "_law_terms", "_law_marks"]) (spLDraw K) := by
  refine T.F_law_draw_sum.ok sc_law_draw_sum (fun vs H Q E h => ?_) (fun cdv A outer s H vs Q E hr h => ?_)
  · obtain ⟨r, row, T, M, rfl, _⟩ := h
    rfl
  obtain ⟨r, row, N, M, rfl, hR, hNM, hN, hM, hT, q⟩ := h
  refine ⟨_, (pss_cons (ps_set (i := 3) sc_law_draw_sum.nd rfl (.inl rfl) (pe_lst pa_nil))
      (pss_cons (ps_for PassesOwn.never rfl (pi_range1 (by rfl) T.m_range (pa_cons (pv 1) pa_nil)) (pg_name (i := 4) sc_law_draw_sum.nd rfl (.inl rfl)) (pss_cons (ps_set (i := 5) sc_law_draw_sum.nd rfl (.inl rfl) (pe_tup pa_nil))
      (pss_cons (ps_for PassesOwn.never rfl (pi_range1 (by rfl) T.m_range (pa_cons (pv 2) pa_nil)) (pg_name (i := 6) sc_law_draw_sum.nd rfl (.inl rfl)) (pss_cons (ps_set (i := 7) sc_law_draw_sum.nd rfl (.inl rfl) (pe_ix (ix_listK (K := K)) (pv 0) (pe_op op_add (pe_op op_mul (pv 4) (pv 2)) (pv 6)) (fun _ _ => rfl)))
      (pss_cons (ps_set (i := 8) sc_law_draw_sum.nd rfl (.inl rfl) (pe_op op_add (pe_op op_mod (pv 7) (pe_int)) (pe_op op_mul (pe_int) (pe_callTy c_int1 (by rfl) T.m_int (by decide +kernel) (pa_cons (pe_cmpR op_eq (pe_op op_mod (pe_op op_fdiv (pv 7) (pe_int)) (pe_int)) (pe_int) (nomark _)) pa_nil)))))
      (pss_cons (ps_set (i := 9) sc_law_draw_sum.nd rfl (.inl rfl) (pe_op op_add (pe_op op_add (pe_op op_add (pv 8) (pe_int)) (pe_op op_mod (pe_op op_fdiv (pv 7) (pe_int)) (pe_int))) (pe_op op_mul (pe_int) (pe_callTy c_int1 (by rfl) T.m_int (by decide +kernel) (pa_cons (pe_cmpR op_eq (pe_op op_mod (pe_op op_fdiv (pv 7) (pe_int)) (pe_int)) (pe_int) (nomark _)) pa_nil)))))
      (pss_one (ps_set (i := 5) sc_law_draw_sum.nd rfl (.inl rfl) (pe_call (ok_law_row_times T) (hr.mono (by decide)) (by rfl) T.g_law_row_times T.F_law_row_times.kp T.b_law_row_times .nil pass0 (pa_cons (pv 5) (pa_cons (pe_tup (pa_cons (pe_tup (pa_cons (pe_tup (pa_cons (pv 8) (pa_cons (pv 9) pa_nil))) (pa_cons (pe_op op_sub (pe_op op_mod (pe_op op_fdiv (pv 7) (pe_int)) (pe_int)) (pe_int)) pa_nil))) pa_nil)) pa_nil)))))))))
      (pss_one (ps_expr (k_bm (K := K) (pe_bm PySem.F.plainAttrs_list PySem.F.slot_list_append PySem.F.type_list_append mt_append (pv 3) (pa_cons (pe_tup (pa_cons (pv 5) (pa_cons (pe_op op_sub (pe_op op_mod (pe_op op_fdiv (pe_ix (ix_listK (K := K)) (pv 0) (pv 4) (fun _ _ => rfl)) (pe_int)) (pe_int)) (pe_int)) pa_nil))) pa_nil))))))))
      (pss_one (ps_ret (pe_call (ok_law_settled T) (hr.mono (by decide)) (by rfl) T.g_law_settled T.F_law_settled.kp T.b_law_settled .nil pass0 (pa_cons (pv 3) pa_nil)))))), ?_⟩
  walk_at "st"
  refine Pm.w_newL (fun l hl => ?_)
  have s1 := same_new hl (.lst [])
  have f1 : (upd H l (.lst [])) l = some (.lst []) := upd_same
  generalize upd H l (.lst []) = H1 at s1 f1 ⊢
  walk_at "st"
  rw [Int.toNat_natCast]
  refine Pm.w_forR (fun k σ H' => ∃ (x4 x5 x6 x7 x8 x9 : Option V) (xs : List V) (m : LP), σ = [some (.ref r), some (.int N), some (.int M), some (.ref l), x4, x5, x6, x7, x8, x9] ∧ Same H H' ∧ H' l = some (.lst xs) ∧ All2 (NdP H') xs m ∧ m.length = k ∧ (∀ q ∈ m, (∃ r, q.1 = encL r ∧ RowC M r) ∧ q.2.natAbs ≤ 4 ∧ RowW (3 * M) q.1)) ⟨_, _, _, _, _, _, [], [], rfl, s1, f1, trivial, rfl, fun q h => absurd h List.not_mem_nil⟩ ?_ ?_
  · rintro k σ H2 hk ⟨x4, x5, x6, x7, x8, x9, xs, m, rfl, s2, f2, hxs, hm, hmq⟩
    have kM : k * M + M ≤ N * M := by rw [← Nat.succ_mul]; exact Nat.mul_le_mul_right _ hk
    walk_at "st"
    refine Pm.w_newT (fun t ht => ?_)
    have s3 := same_new ht (.tup [])
    have hp : NdV (upd H2 t (.tup [])) (encL (canon [])) (.ref t) := row_of_tup (l := canon []) upd_same (by
      have : canon [] = [] := List.length_eq_zero_iff.mp (Nat.le_zero.mp (canon_len []))
      rw [this]
      trivial)
    have cl0 : RowC 0 (canon []) := canon_row (fun q h => absurd h List.not_mem_nil) (Nat.le_refl _)
    have cw0 : RowW (3 * 0) (encL (canon [])) := canon_roww (fun q h => absurd h List.not_mem_nil) (Nat.le_refl _)
    generalize canon [] = r0 at hp cl0 cw0
    walk_at "st"
    rw [Int.toNat_natCast]
    refine Pm.w_forR (fun i σ H' => ∃ (u : Addr) (x6 x7 x8 x9 : Option V) (rr : LP), σ = [some (.ref r), some (.int N), some (.int M), some (.ref l), some (.int (0 + (k : Int))), some (.ref u), x6, x7, x8, x9] ∧ Same H2 H' ∧ NdV H' (encL rr) (.ref u) ∧ RowC i rr ∧ RowW (3 * i) (encL rr)) ⟨t, _, _, _, _, r0, rfl, s3, hp, cl0, cw0⟩ ?_ ?_
    · rintro i σ H3 hi ⟨u, x6, x7, x8, x9, rr, rfl, s4, hu, cr, cw⟩
      have rl := cr.len
      have hR3 := (s2.trans s4).seq hR
      walk_at "st"
      refine Pm.w_ixL hR3 (i := (0 + (k : Int)) * M + (0 + (i : Int))) (v := .int (row.getD (k * M + i) 0)) ?_ ?_
      · have := atI_int (ns := row) (i := ((k * M + i : Nat) : Int)) (by omega) (by omega)
        rw [Int.toNat_natCast] at this
        rw [show (0 + (k : Int)) * M + (0 + (i : Int)) = ((k * M + i : Nat) : Int) by rw [Int.zero_add, Int.zero_add, Int.natCast_add, Int.natCast_mul]]
        exact this
      generalize row.getD (k * M + i) 0 = one
      walk_at "st"
      have va1 : 0 ≤ (one % 4 + 9 * if decide (one / 97 % 5 = 1) = true then 1 else 0) ∧ (one % 4 + 9 * if decide (one / 97 % 5 = 1) = true then 1 else 0) ≤ 13 := by split <;> omega
      have vb1 : 0 ≤ (1 + one / 4 % 3 + 20 * if decide (one / 97 % 5 = 2) = true then 1 else 0) ∧ (1 + one / 4 % 3 + 20 * if decide (one / 97 % 5 = 2) = true then 1 else 0) ≤ 23 := by split <;> omega
      have vab : 0 ≤ ((one % 4 + 9 * if decide (one / 97 % 5 = 1) = true then 1 else 0) + 1 + one / 4 % 3 + 20 * if decide (one / 97 % 5 = 2) = true then 1 else 0) ∧ ((one % 4 + 9 * if decide (one / 97 % 5 = 1) = true then 1 else 0) + 1 + one / 4 % 3 + 20 * if decide (one / 97 % 5 = 2) = true then 1 else 0) ≤ 36 := by omega
      generalize (one % 4 + 9 * if decide (one / 97 % 5 = 1) = true then 1 else 0) = va at va1 vab ⊢
      generalize (va + 1 + one / 4 % 3 + 20 * if decide (one / 97 % 5 = 2) = true then 1 else 0) = vb at vab ⊢
      refine Pm.w_newT (fun t1 h1 => ?_)
      have s5 := same_new h1 (.tup [.int va, .int vb])
      walk_at "st"
      have pw1 : (one / 12 % 7 - 3).natAbs ≤ 3 := by omega
      generalize one / 12 % 7 - 3 = pw at pw1 ⊢
      refine Pm.w_newT (fun t2 h2 => ?_)
      have s6 := same_new h2 (.tup [.ref t1, .int pw])
      walk_at "st"
      refine Pm.w_newT (fun t3 h3 => ?_)
      have s7 := same_new h3 (.tup [.ref t2])
      have s57 := s5.trans (s6.trans s7)
      have m1 := mark_of (p := (va, vb)) (H := upd (upd (upd H3 t1 (.tup [.int va, .int vb])) t2 (.tup [.ref t1, .int pw])) t3 (.tup [.ref t2])) ⟨t1, rfl, (s6.trans s7) _ _ upd_same⟩
      have m2 := NdP.of (q := (encM (va, vb), pw)) (s7 _ _ upd_same) m1
      have m3 : NdV _ (encL [(encM (va, vb), pw)]) (.ref t3) := row_of_tup (xs := [.ref t2]) upd_same ⟨m2, trivial⟩
      walk_at "st"
      refine ⟨.ref u, .ref t3, rr, [(encM (va, vb), pw)], rfl, NdV.keep (keeps s57) _ _ hu, m3, fun q hq => ?_, by rw [List.length_singleton]; omega, fun t4 H4 s8 ht4 => ?_⟩
      · rcases List.mem_append.mp hq with h | h
        · exact cr.mrk q h
        · exact ⟨(va, vb), by rw [List.mem_singleton.mp h]⟩
      exact ⟨t4, _, _, _, _, _, rfl, s4.trans (s57.trans s8), ht4, canon_row (fun q hq => (List.mem_append.mp hq).elim (cr.mrk q) fun h => ⟨(va, vb), by rw [List.mem_singleton.mp h]⟩) (by rw [List.length_append, List.length_singleton]; omega), canon_roww (fun q hq => (List.mem_append.mp hq).elim (cw.of.1 q) fun h => ⟨(va, vb), by rw [List.mem_singleton.mp h], va1, vab⟩) (by rw [mass_append, mass_cons, mass_nil]; have := cw.of.2; show _ + (pw.natAbs + 0) ≤ _; omega)⟩
    · rintro σ H3 ⟨u, x6, x7, x8, x9, rr, rfl, s4, hu, cr, cw⟩
      walk_at "st"
      refine ⟨.inl ⟨rfl, _, SqL.of (s4 _ _ f2)⟩, ?_⟩
      have hR3 := (s2.trans s4).seq hR
      have hx3 := all2_keep (keeps s4) hxs
      have lx := hx3.length
      walk_at "st"
      refine Pm.w_ixL hR3 (atI_int (by omega) (by omega)) ?_
      walk_at "st"
      have bc : (row.getD (0 + (k : Int)).toNat 0 / 90 % 9 - 4).natAbs ≤ 4 := by omega
      generalize row.getD (0 + (k : Int)).toNat 0 / 90 % 9 - 4 = cc at bc ⊢
      refine Pm.w_newT (fun t5 h5 => ?_)
      have s5 := same_new h5 (.tup [.ref u, .int cc])
      walk_at "st"
      refine Pm.w_append ((s4.trans s5) _ _ f2) (size_lt (by omega)) ?_
      have k6 := keeps_lst (ys := xs ++ [.ref t5]) ((s4.trans s5) _ _ f2)
      refine ⟨_, _, _, _, _, _, _, m ++ [(encL rr, cc)], rfl, same_but hl (s2.trans (s4.trans s5)), upd_same, ?_, by rw [List.length_append, List.length_singleton, hm], fun q hq => ?_⟩
      · refine (all2_keep k6 (all2_keep (keeps s5) hx3)).snoc (NdP.of (q := (encL rr, cc)) (k6 _ _ upd_same) (NdV.keep k6 _ _ (NdV.keep (keeps s5) _ _ hu)))
      · rcases List.mem_append.mp hq with h | h
        · exact hmq q h
        · rw [List.mem_singleton.mp h]
          exact ⟨⟨rr, rfl, cr⟩, bc, cw⟩
  · rintro σ H2 ⟨x4, x5, x6, x7, x8, x9, xs, m, rfl, s2, f2, hxs, hm, hmq⟩
    walk_at "st"
    refine ⟨l, m, M, rfl, ⟨xs, f2, hxs⟩, fun q hq => (hmq q hq).1, by omega, fun p H3 ys s3 np hp hys => ?_⟩
    refine q (canon m) (canon_sum fun q hq => (hmq q hq).1) (by have := canon_len m; omega) (fun q0 hq0 => ?_) p H3 ys (s2.trans s3) (s2.free np) hp hys
    have := canon_bound (fun q hq => (hmq q hq).2.1) q0 hq0
    rw [hm] at this
    exact ⟨this, canon_rowws (fun q hq => (hmq q hq).2.2) q0 hq0⟩
end
section
open TL
variable {P : Program} {w : World} {K : PySem.W.Frag} {mg : Str → Option Value} {base : Heap}
def spFig : Sp := fun vs H Q _ => ∃ z : Str, vs = [.str z] ∧ z.length ≤ 1000000 ∧ Q (.int (fig z)) H
theorem digits_take {z : Str} {i c : Nat} (h : (tl z)[i]? = some c) (d : ∀ x ∈ (tl z).take i, 48 ≤ x ∧ x ≤ 57) (hc : 48 ≤ c ∧ c ≤ 57) : ∀ x ∈ (tl z).take (i + 1), 48 ≤ x ∧ x ≤ 57 := fun x hx => by
  rw [take_snoc h] at hx
  rcases List.mem_append.mp hx with m | m
  · exact d x m
  · rw [List.mem_singleton.mp m]; exact hc
theorem ok_whole_of (T : Tx K mg) : FnOk P w K mg base CX0 1 T.a_whole_of T.fd_whole_of (["word"]) spFig := by
  refine T.F_whole_of.ok sc_whole_of (fun vs H Q E h => ?_) (fun cdv A outer s H vs Q E hr h => ?_)
  · obtain ⟨z, rfl, _⟩ := h
    rfl
  obtain ⟨z, rfl, hz, q⟩ := h
  have sz : z.length ≤ sizeLine := size_ok (by omega)
  refine ⟨_, (pss_cons (ps_if (PW.pt (pw_or (pt_cmpR op_eq (pv 0) (pe_str) (nomark _)) (pw_or1 (pt_cmpR op_gt (pe_callB c_lenS (by rfl) T.m_len PySem.boot_len (pa_cons (pv 0) pa_nil)) (pe_glob (by rfl) T.g_MOST_FIGURES T.r_MOST_FIGURES) (nomark _))))) (pss_one (ps_ret (pe_un un_neg (pe_int)))) pss_nil)
      (pss_cons (ps_for PassesOwn.never rfl (pi_str (pv 0)) (pg_name (i := 1) sc_whole_of.nd rfl (.inl rfl)) (pss_one (ps_if (pt_cmpR o_ninC (pv 1) (pe_glob (by rfl) T.g_FIGURES T.r_FIGURES) (by rfl)) (pss_one (ps_ret (pe_un un_neg (pe_int)))) pss_nil)))
      (pss_cons (ps_if (PW.pt (pw_and (pt_cmpR op_eq (pe_ix ix_str (pv 0) (pe_int) (fun _ _ => rfl)) (pe_str) (nomark _)) (pw_and1 (pt_cmpR op_gt (pe_callB c_lenS (by rfl) T.m_len PySem.boot_len (pa_cons (pv 0) pa_nil)) (pe_int) (nomark _))))) (pss_one (ps_ret (pe_un un_neg (pe_int)))) pss_nil)
      (pss_one (ps_ret (pe_callTy c_intS (by rfl) T.m_int (by decide +kernel) (pa_cons (pv 0) pa_nil))))))), ?_⟩
  walk_at "st"
  refine Pm.w_ite (fun e => ?_) (fun e => ?_)
  · walk_at "st"
    rw [fig_no (.inl (len_zero.mp e))] at q
    exact q
  rw [len_zero] at e
  walk_at "st"
  refine Pm.w_lenS sz ?_
  walk_at "st"
  refine Pm.w_ite (fun e2 => ?_) (fun e2 => ?_)
  · walk_at "st"
    rw [fig_no (.inr (.inl (by omega)))] at q
    exact q
  walk_at "st"
  refine Pm.w_forS (fun i σ H' => ∃ x, σ = [some (.str z), x] ∧ H' = H ∧ ∀ x ∈ (tl z).take i, 48 ≤ x ∧ x ≤ 57) ⟨_, rfl, rfl, by rw [List.take_zero]; exact fun x h => nomatch h⟩ ?_ ?_
  · rintro i c σ H' hc ⟨x, rfl, rfl, hd⟩
    walk_at "st"
    refine Pm.w_ninC ?_
    walk_at "st"
    refine Pm.w_iteN (fun n => ?_) (fun y => ?_)
    · walk_at "st"
      rw [fig_no (.inr (.inr (.inl fun a => n (figures_mem.mpr (a c (List.mem_of_getElem? hc))))))] at q
      exact q
    · walk_at "st"
      exact ⟨_, rfl, rfl, digits_take hc hd (figures_mem.mp y)⟩
  · rintro σ H' ⟨x, rfl, rfl, hd⟩
    rw [List.take_length] at hd
    have ne : tl z ≠ [] := fun y => e ((len0_tl z).mpr y)
    obtain ⟨c, r, ez⟩ : ∃ c r, tl z = c :: r := by
      cases ez : tl z with
      | nil => exact absurd ez ne
      | cons c r => exact ⟨c, r, rfl⟩
    have hh : (tl z).head? = some c := by rw [ez]; rfl
    walk_at "st"
    refine Pm.w_ixS sz (str_head hh) ?_
    walk_at "st"
    rw [show decide ((⟨#[c]⟩ : Str) = ("0" : Str)) = decide (c = 48) from decide_eq_decide.mpr (one_eq (d := 48))]
    have last : ¬ (c = 48 ∧ 1 < z.length) → rIntS [.str z] H' Q := fun n => by
      refine Pm.w_intS (PySem.intText_digits hd ne (by omega)) (by omega) ?_
      rw [fig_yes (by
        rintro (y | y | y | y)
        · exact e y
        · omega
        · exact y hd
        · rw [hh] at y
          exact n ⟨by simpa using y.1, y.2⟩)] at q
      exact q
    refine Pm.w_ite (fun e3 => ?_) (fun e3 => ?_)
    · walk_at "st"
      refine Pm.w_lenS sz ?_
      walk_at "st"
      refine Pm.w_ite (fun e4 => ?_) (fun e4 => ?_)
      · walk_at "st"
        rw [fig_no (.inr (.inr (.inr ⟨by rw [hh, e3], by omega⟩)))] at q
        exact q
      · walk_at "st"
        exact last fun y => e4 (by have := y.2; omega)
    · walk_at "st"
      exact last fun y => e3 y.1
end
section
open TL
variable {P : Program} {w : World} {K : PySem.W.Frag} {mg : Str → Option Value} {base : Heap}
/-- the number but nought that a text writes -/
def sgnOf (z : Str) : Option Int := if fig (restOf z) < 1 then none else some (if dash z then -fig (restOf z) else fig (restOf z))
def spSigned (C : Addr) : Sp := fun vs H Q E => ∃ z : Str, vs = [.str z] ∧ z.length ≤ 1000000 ∧ (sgnOf z = none → E (.ref C) none H) ∧ (∀ i, sgnOf z = some i → Q (.int i) H)
theorem ok_signed_of (T : Tx K mg) : FnOk P w K mg base (L2.CX P w) 2 T.a_signed_of T.fd_signed_of (["word"]) (spSigned T.c_BadSum) := by
  refine T.F_signed_of.okX sc_signed_of (fun vs H Q E h => ?_) (fun cdv A outer s H vs Q E hr h => ?_)
  · obtain ⟨z, rfl, _⟩ := h
    rfl
  obtain ⟨z, rfl, hz, hE, q⟩ := h
  have sz : z.length ≤ sizeLine := size_ok (by omega)
  refine ⟨_, (pss_cons (ps_set (i := 1) sc_signed_of.nd rfl (.inl rfl) (pe_cmpR op_eq (pe_slice sl_str (pv 0) po_none (po_some (pe_int))) (pe_str) (nomark _)))
      (pss_cons (ps_set (i := 2) sc_signed_of.nd rfl (.inl rfl) (pv 0))
      (C8.pss_cut (ps_if (pt_val (pv 1)) (pss_one (ps_set (i := 2) sc_signed_of.nd rfl (.inl rfl) (pe_slice sl_str (pv 0) (po_some (pe_int)) po_none))) pss_nil)
      (pss_cons (ps_set (i := 3) sc_signed_of.nd rfl (.inl rfl) (pe_call (ok_whole_of T) (hr.mono (by decide)) (by rfl) T.g_whole_of T.F_whole_of.kp T.b_whole_of .nil pass0 (pa_cons (pv 2) pa_nil)))
      (pss_cons (ps_if (pt_cmpR op_lt (pv 3) (pe_int) (nomark _)) (pss_one (ps_raise rfl (takes_of rfl rfl rfl rfl) (pmk_own PySem.F.excBase_ValueError T.x_BadSum T.g_BadSum T.k_BadSum (raises_own T.b_BadSum T.t_BadSum) rfl))) pss_nil)
      (pss_cons (ps_if (pt_val (pv 1)) (pss_one (ps_ret (pe_un un_neg (pv 3)))) pss_nil)
      (pss_one (ps_ret (pv 3))))))))), ?_⟩
  walk_at "st"
  refine Pm.w_slS sz ?_
  walk_at "st"
  have hd : decide (cutS z none (some 1) = ("-" : Str)) = decide (dash z) := rfl
  rw [hd]
  refine Pm.w_cut (fun σ' H' => σ' = [some (.str z), some (.bl (decide (dash z))), some (.str (restOf z)), none] ∧ H' = H) ?_ ?_
  · walk_at "st"
    refine Pm.w_ite (fun e => ?_) (fun e => ?_)
    · walk_at "st"
      refine Pm.w_slS sz ?_
      refine ⟨?_, rfl⟩
      unfold restOf
      rw [if_pos e]
      rfl
    · walk_at "st"
      refine ⟨?_, rfl⟩
      unfold restOf
      rw [if_neg e]
      rfl
  rintro σ H' ⟨rfl, rfl⟩
  have rl := rest_len z
  unfold sgnOf at hE q
  generalize restOf z = rz at hE q rl ⊢
  walk_at "st"
  refine ⟨rz, rfl, by omega, ?_⟩
  walk_at "st"
  refine Pm.w_ite (fun c1 => ?_) (fun c1 => ?_)
  · exact hE (if_pos c1)
  · rw [if_neg c1] at q
    have q := q _ rfl
    by_cases d : dash z
    · rw [if_pos d] at q
      rw [decide_eq_true d]
      walk_at "st"
      exact q
    · rw [if_neg d] at q
      rw [decide_eq_false d]
      walk_at "st"
      exact q
/-- the letter that a text writes -/
def markTwo : List Str → Option IP
  | [a, b] => if fig a < 0 ∨ fig b ≤ fig a then none else some (fig a, fig b)
  | _ => none
def markOf (z : Str) : Option IP := markTwo (Txt.split z ("." : Str))
def spMarkOf (K : PySem.W.Frag) (C : Addr) : Sp := fun vs H Q E => ∃ z : Str, vs = [.str z] ∧ z.length ≤ 1000000 ∧ (markOf z = none → ∀ H', Same H H' → E (.ref C) none H') ∧ (∀ p, markOf z = some p → ∀ (t : Addr) (H' : Hp), Same H H' → H t = none → Pr H' (.ref t) p → Q (.ref t) H')
theorem ok_mark_of (T : Tx K mg) : FnOk P w K mg base (L2.CX P w) 2 T.a_mark_of T.fd_mark_of (["word"]) (spMarkOf K T.c_BadSum) := by
  refine T.F_mark_of.okX sc_mark_of (fun vs H Q E h => ?_) (fun cdv A outer s H vs Q E hr h => ?_)
  · obtain ⟨z, rfl, _⟩ := h
    rfl
  obtain ⟨z, rfl, hz, hE, q⟩ := h
  have sz : z.length ≤ sizeLine := size_ok (by omega)
  refine ⟨_, (pss_cons (ps_set (i := 1) sc_mark_of.nd rfl (.inl rfl) (k_bm (K := K) (pe_bm PySem.F.plainAttrs_str PySem.F.slot_str_split PySem.F.type_str_split mt_splitS (pv 0) (pa_cons (pe_str) pa_nil))))
      (pss_cons (ps_if (pt_cmpR op_ne (pe_callB (c_len (K := K)) (by rfl) T.m_len PySem.boot_len (pa_cons (pv 1) pa_nil)) (pe_int) (nomark _)) (pss_one (ps_raise rfl (takes_of rfl rfl rfl rfl) (pmk_own PySem.F.excBase_ValueError T.x_BadSum T.g_BadSum T.k_BadSum (raises_own T.b_BadSum T.t_BadSum) rfl))) pss_nil)
      (pss_cons (ps_set (i := 2) sc_mark_of.nd rfl (.inl rfl) (pe_call (ok_whole_of T) (hr.mono (by decide)) (by rfl) T.g_whole_of T.F_whole_of.kp T.b_whole_of .nil pass0 (pa_cons (pe_ix (ix_listK (K := K)) (pv 1) (pe_int) (fun _ _ => rfl)) pa_nil)))
      (pss_cons (ps_set (i := 3) sc_mark_of.nd rfl (.inl rfl) (pe_call (ok_whole_of T) (hr.mono (by decide)) (by rfl) T.g_whole_of T.F_whole_of.kp T.b_whole_of .nil pass0 (pa_cons (pe_ix (ix_listK (K := K)) (pv 1) (pe_int) (fun _ _ => rfl)) pa_nil)))
      (pss_cons (ps_if (PW.pt (pw_or (pt_cmpR op_lt (pv 2) (pe_int) (nomark _)) (pw_or1 (pt_cmpR op_le (pv 3) (pv 2) (nomark _))))) (pss_one (ps_raise rfl (takes_of rfl rfl rfl rfl) (pmk_own PySem.F.excBase_ValueError T.x_BadSum T.g_BadSum T.k_BadSum (raises_own T.b_BadSum T.t_BadSum) rfl))) pss_nil)
      (pss_one (ps_ret (pe_tup (pa_cons (pv 2) (pa_cons (pv 3) pa_nil)))))))))), ?_⟩
  walk_at "st"
  refine ⟨rfl, ?_⟩
  walk_at "st"
  refine Pm.w_split (by decide +kernel) (by rw [sizeLine_eq]; omega) (fun l hl => ?_)
  have wl : ∀ x ∈ Txt.split z ("." : Str), x.length ≤ 1000000 := fun x hx => Nat.le_trans (split_piece hx) (by omega)
  unfold markOf at hE q
  generalize Txt.split z ("." : Str) = ws at hE q wl ⊢
  have s1 := same_new hl (.lst (ws.map V.str))
  have f1 : (upd H l (.lst (ws.map V.str))) l = some (.lst (ws.map V.str)) := upd_same
  generalize upd H l (.lst (ws.map V.str)) = H1 at s1 f1 ⊢
  walk_at "st"
  refine Pm.w_lenL (SqL.of f1) ?_
  rw [List.length_map]
  walk_at "st"
  refine Pm.w_iteN (fun e => ?_) (fun e => ?_)
  · refine hE ?_ _ s1
    match ws, e with
    | [], _ => rfl
    | [_], _ => rfl
    | [a, b], e => exact absurd rfl e
    | _ :: _ :: _ :: _, _ => rfl
  have hw : ∃ a b, ws = [a, b] := by
    match ws, e with
    | [a, b], _ => exact ⟨a, b, rfl⟩
    | [], e => exact absurd e (by simp)
    | [_], e => exact absurd e (by simp)
    | _ :: _ :: _ :: _, e => exact absurd e (by simp only [List.length_cons]; omega)
  obtain ⟨a, b, rfl⟩ := hw
  have la := wl a (by simp)
  have lb := wl b (by simp)
  have hE : (fig a < 0 ∨ fig b ≤ fig a) → ∀ H', Same H H' → E (.ref T.c_BadSum) none H' := fun h => hE (if_pos h)
  have q : ¬ (fig a < 0 ∨ fig b ≤ fig a) → ∀ (t : Addr) (H' : Hp), Same H H' → H t = none → Pr H' (.ref t) (fig a, fig b) → Q (.ref t) H' := fun h => q _ (if_neg h)
  walk_at "st"
  refine Pm.w_ixL (SqL.of f1) (v := .str a) rfl ?_
  walk_at "st"
  refine ⟨a, rfl, la, ?_⟩
  walk_at "st"
  refine Pm.w_ixL (SqL.of f1) (v := .str b) rfl ?_
  walk_at "st"
  refine ⟨b, rfl, lb, ?_⟩
  walk_at "st"
  generalize fig a = x at hE q ⊢
  generalize fig b = y at hE q ⊢
  refine Pm.w_ite (fun c1 => ?_) (fun c1 => ?_)
  · exact hE (.inl c1) _ s1
  walk_at "st"
  refine Pm.w_ite (fun c2 => ?_) (fun c2 => ?_)
  · exact hE (.inr c2) _ s1
  walk_at "st"
  refine Pm.w_newT (fun t ht => ?_)
  exact q (by rintro (h | h); exact c1 h; exact c2 h) t _ (s1.trans (same_new ht _)) (s1.free ht) (pr_new upd_same)
theorem fig_int {x : Str} (h : 0 ≤ fig x) : PySem.intText? x = some (fig x) ∧ x.length ≤ 400 := by
  by_cases c : x.length = 0 ∨ 400 < x.length ∨ ¬ (∀ c ∈ tl x, 48 ≤ c ∧ c ≤ 57) ∨ ((tl x).head? = some 48 ∧ 1 < x.length)
  · rw [fig_no c] at h
    exact absurd h (by decide)
  · have c0 : x.length ≠ 0 := fun e => c (.inl e)
    have c1 : x.length ≤ 400 := by
      rcases Nat.lt_or_ge 400 x.length with z | z
      · exact absurd (.inr (.inl z)) c
      · exact z
    have c2 : ∀ c ∈ tl x, 48 ≤ c ∧ c ≤ 57 := Classical.byContradiction fun z => c (.inr (.inr (.inl z)))
    have ne : tl x ≠ [] := fun y => c0 ((len0_tl x).mpr y)
    rw [fig_yes c]
    exact ⟨PySem.intText_digits c2 ne (by omega), c1⟩
def spNumber : Sp := fun vs H Q _ => ∃ (z : Str) (k : Int), vs = [.str z, .int k] ∧ z.length ≤ 1000000 ∧ 0 ≤ k ∧ (fig z < k → Q .non H) ∧ (k ≤ fig z → Q (.int (fig z)) H)
theorem ok_law_number (T : Tx K mg) : FnOk P w K mg base CX0 1 T.a_law_number T.fd_law_number (["_law_word", "_law_least"]) spNumber := by
  refine T.F_law_number.ok sc_law_number (fun vs H Q E h => ?_) (fun cdv A outer s H vs Q E hr h => ?_)
  · obtain ⟨z, k, rfl, _⟩ := h
    rfl
  obtain ⟨z, k, rfl, hz, k0, qn, q⟩ := h
  have sz : z.length ≤ sizeLine := size_ok (by omega)
  have no : (z.length = 0 ∨ 400 < z.length ∨ ¬ (∀ c ∈ tl z, 48 ≤ c ∧ c ≤ 57) ∨ ((tl z).head? = some 48 ∧ 1 < z.length)) → Q .non H := fun h => qn (by rw [fig_no h]; omega)
  refine ⟨_, (C8.pss_cut (ps_if (PW.pt (pw_or (pt_cmpR op_eq (pv 0) (pe_str) (nomark _)) (pw_or (pt_cmpR op_gt (pe_callB c_lenS (by rfl) T.m_len PySem.boot_len (pa_cons (pv 0) pa_nil)) (pe_int) (nomark _)) (pw_or1 (PW.pt (pw_and (pt_cmpR op_gt (pe_callB c_lenS (by rfl) T.m_len PySem.boot_len (pa_cons (pv 0) pa_nil)) (pe_int) (nomark _)) (pw_and1 (pt_cmpR op_eq (pe_ix ix_str (pv 0) (pe_int) (fun _ _ => rfl)) (pe_str) (nomark _))))))))) (pss_one (ps_ret (pe_non))) pss_nil)
      (pss_cons (ps_for PassesOwn.never rfl (pi_str (pv 0)) (pg_name (i := 2) sc_law_number.nd rfl (.inl rfl)) (pss_one (ps_if (pt_cmpR o_ninC (pv 2) (pe_str) (by rfl)) (pss_one (ps_ret (pe_non))) pss_nil)))
      (pss_cons (ps_if (pt_cmpR op_lt (pe_callTy c_intS (by rfl) T.m_int (by decide +kernel) (pa_cons (pv 0) pa_nil)) (pv 1) (nomark _)) (pss_one (ps_ret (pe_non))) pss_nil)
      (pss_one (ps_ret (pe_callTy c_intS (by rfl) T.m_int (by decide +kernel) (pa_cons (pv 0) pa_nil))))))), ?_⟩
  walk_at "st"
  refine Pm.w_cut (fun σ' H' => σ' = [some (.str z), some (.int k), none] ∧ H' = H ∧ z.length ≠ 0 ∧ z.length ≤ 400 ∧ ¬ ((tl z).head? = some 48 ∧ 1 < z.length)) ?_ ?_
  · walk_at "st"
    refine Pm.w_ite (fun e => ?_) (fun e => ?_)
    · walk_at "st"
      exact no (.inl (len_zero.mp e))
    rw [len_zero] at e
    walk_at "st"
    refine Pm.w_lenS sz ?_
    walk_at "st"
    refine Pm.w_ite (fun e2 => ?_) (fun e2 => ?_)
    · walk_at "st"
      exact no (.inr (.inl (by omega)))
    have ne : tl z ≠ [] := fun y => e ((len0_tl z).mpr y)
    obtain ⟨c0, r, ez⟩ : ∃ c r, tl z = c :: r := by
      cases ez : tl z with
      | nil => exact absurd ez ne
      | cons c r => exact ⟨c, r, rfl⟩
    have hh : (tl z).head? = some c0 := by rw [ez]; rfl
    walk_at "st"
    refine Pm.w_lenS sz ?_
    walk_at "st"
    refine Pm.w_ite (fun e3 => ?_) (fun e3 => ?_)
    · walk_at "st"
      refine Pm.w_ixS sz (str_head hh) ?_
      walk_at "st"
      rw [show decide ((⟨#[c0]⟩ : Str) = ("0" : Str)) = decide (c0 = 48) from decide_eq_decide.mpr (one_eq (d := 48))]
      refine Pm.w_ite (fun e4 => ?_) (fun e4 => ?_)
      · walk_at "st"
        exact no (.inr (.inr (.inr ⟨by rw [hh, e4], by omega⟩)))
      · walk_at "st"
        exact ⟨rfl, rfl, e, by omega, fun y => e4 (by have := y.1; rw [hh] at this; simpa using this)⟩
    · walk_at "st"
      exact ⟨rfl, rfl, e, by omega, fun y => e3 (by have := y.2; omega)⟩
  rintro σ H' ⟨rfl, rfl, e, e2, n0⟩
  have ne : tl z ≠ [] := fun y => e ((len0_tl z).mpr y)
  walk_at "st"
  refine Pm.w_forS (fun i σ H2 => ∃ x, σ = [some (.str z), some (.int k), x] ∧ H2 = H' ∧ ∀ x ∈ (tl z).take i, 48 ≤ x ∧ x ≤ 57) ⟨_, rfl, rfl, by rw [List.take_zero]; exact fun x h => nomatch h⟩ ?_ ?_
  · rintro i c σ H2 hc ⟨x, rfl, rfl, hd⟩
    walk_at "st"
    refine Pm.w_ninC ?_
    walk_at "st"
    refine Pm.w_iteN (fun n => ?_) (fun y => ?_)
    · walk_at "st"
      exact no (.inr (.inr (.inl fun a => n (figures_mem.mpr (a c (List.mem_of_getElem? hc))))))
    · walk_at "st"
      exact ⟨_, rfl, rfl, digits_take hc hd (figures_mem.mp y)⟩
  · rintro σ H2 ⟨x, rfl, rfl, hd⟩
    rw [List.take_length] at hd
    have fy := fig_yes (x := z) (by
      rintro (y | y | y | y)
      · exact e y
      · omega
      · exact y hd
      · exact n0 y)
    have hi := PySem.intText_digits hd ne (by omega)
    rw [← fy] at hi
    walk_at "st"
    refine Pm.w_intS hi (by omega) ?_
    walk_at "st"
    refine Pm.w_ite (fun c1 => ?_) (fun c1 => ?_)
    · walk_at "st"
      exact qn c1
    · walk_at "st"
      refine Pm.w_intS hi (by omega) ?_
      exact q (by omega)
theorem w_notN_int {i : Int} {H : Hp} {Q : VK} (h : Q (.bl true) H) : rNotN (.int i) .non H Q := ⟨rfl, h⟩
theorem w_isN_int {i : Int} {H : Hp} {Q : VK} (h : Q (.bl false) H) : rIsN (.int i) .non H Q := ⟨rfl, h⟩
def spLSigned : Sp := fun vs H Q _ => ∃ z : Str, vs = [.str z] ∧ z.length ≤ 1000000 ∧ (sgnOf z = none → Q .non H) ∧ (∀ i, sgnOf z = some i → Q (.int i) H)
theorem ok_law_signed (T : Tx K mg) : FnOk P w K mg base CX0 2 T.a_law_signed T.fd_law_signed (["_law_word"]) spLSigned := by
  refine T.F_law_signed.ok sc_law_signed (fun vs H Q E h => ?_) (fun cdv A outer s H vs Q E hr h => ?_)
  · obtain ⟨z, rfl, _⟩ := h
    rfl
  obtain ⟨z, rfl, hz, qn, q⟩ := h
  have sz : z.length ≤ sizeLine := size_ok (by omega)
  have rl := rest_len z
  unfold sgnOf at qn q
  refine ⟨_, (pss_cons (ps_if (PW.pt (pw_and (pt_cmpR op_eq (pe_slice sl_str (pv 0) po_none (po_some (pe_int))) (pe_str) (nomark _)) (pw_and1 (pt_cmpR op_notNK (pe_call (ok_law_number T) (hr.mono (by decide)) (by rfl) T.g_law_number T.F_law_number.kp T.b_law_number .nil pass0 (pa_cons (pe_slice sl_str (pv 0) (po_some (pe_int)) po_none) (pa_cons (pe_int) pa_nil))) (pe_non) (nomark _))))) (pss_one (ps_ret (pe_un un_neg (pe_callTy c_intS (by rfl) T.m_int (by decide +kernel) (pa_cons (pe_slice sl_str (pv 0) (po_some (pe_int)) po_none) pa_nil))))) pss_nil)
      (pss_one (ps_ret (pe_call (ok_law_number T) (hr.mono (by decide)) (by rfl) T.g_law_number T.F_law_number.kp T.b_law_number .nil pass0 (pa_cons (pv 0) (pa_cons (pe_int) pa_nil)))))), ?_⟩
  walk_at "st"
  refine Pm.w_slS sz ?_
  walk_at "st"
  have hd : decide (cutS z none (some 1) = ("-" : Str)) = decide (dash z) := rfl
  rw [hd]
  by_cases d : dash z
  · rw [decide_eq_true d]
    have er : restOf z = rest1 z := if_pos d
    rw [if_pos d, er] at q
    rw [if_pos d, er] at qn
    rw [er] at rl
    walk_at "st"
    refine Pm.w_slS sz ?_
    walk_at "st"
    refine ⟨rest1 z, 1, rfl, by omega, by decide, fun c1 => ?_, fun c1 => ?_⟩
    · walk_at "st"
      refine Pm.w_notN_non ?_
      walk_at "st"
      refine ⟨z, 1, rfl, by omega, by decide, fun c2 => ?_, fun c2 => ?_⟩
      · exact qn (if_pos c1)
      · exfalso
        have h45 := dash_iff.mp d
        have : ¬ (∀ c ∈ tl z, 48 ≤ c ∧ c ≤ 57) := fun a => by
          have := a 45 (List.mem_of_mem_head? h45)
          omega
        rw [fig_no (.inr (.inr (.inl this)))] at c2
        omega
    · walk_at "st"
      refine w_notN_int ?_
      walk_at "st"
      refine Pm.w_slS sz ?_
      walk_at "st"
      have fi := fig_int (x := rest1 z) (by omega)
      refine Pm.w_intS fi.1 (by have := fi.2; show (rest1 z).length ≤ 640; omega) ?_
      walk_at "st"
      exact q _ (if_neg (by omega))
  · rw [decide_eq_false d]
    have er : restOf z = z := if_neg d
    rw [if_neg d, er] at q
    rw [if_neg d, er] at qn
    walk_at "st"
    refine ⟨z, 1, rfl, by omega, by decide, fun c2 => ?_, fun c2 => ?_⟩
    · exact qn (if_pos c2)
    · exact q _ (if_neg (by omega))
end
section
open TL
variable {P : Program} {w : World} {K : PySem.W.Frag} {mg : Str → Option Value} {base : Heap}
def sI (i : Int) : Str := Str.ofString (toString i)
def markS (t : Str) (q : ND × Int) : Str := t ++ (" " : Str) ++ sI (decM q.1).1 ++ ("." : Str) ++ sI (decM q.1).2 ++ ("^" : Str) ++ sI q.2
def termS (r : LP) (c : Int) : Str := r.foldl markS (sI c)
theorem termS_snoc (r : LP) (q : ND × Int) (c : Int) : termS (r ++ [q]) c = markS (termS r c) q := by
  unfold termS
  rw [List.foldl_append]
  rfl
/-- no number of a row is long -/
def smallR (r : LP) : Prop := r.length ≤ 100 ∧ ∀ q ∈ r, (∃ p, q.1 = encM p) ∧ (decM q.1).1.natAbs < 10 ^ 20 ∧ (decM q.1).2.natAbs < 10 ^ 20 ∧ q.2.natAbs < 10 ^ 20
theorem sI_len {i : Int} (h : i.natAbs < 10 ^ 20) : (sI i).length ≤ 21 := istr_len (by decide) h
theorem sI_log {i : Int} (h : i.natAbs < 10 ^ 20) : i.natAbs.log2 < 1920 := log2_lt (k := 1920) (Nat.lt_trans h (by decide +kernel)) (by decide)
theorem l_sp : (" " : Str).length = 1 := by decide +kernel
theorem l_dot : ("." : Str).length = 1 := by decide +kernel
theorem l_hat : ("^" : Str).length = 1 := by decide +kernel
theorem markS_len {t : Str} {q : ND × Int} (h : (decM q.1).1.natAbs < 10 ^ 20 ∧ (decM q.1).2.natAbs < 10 ^ 20 ∧ q.2.natAbs < 10 ^ 20) : (markS t q).length ≤ t.length + 66 := by
  unfold markS
  rw [len_app, len_app, len_app, len_app, len_app, len_app, l_sp, l_dot, l_hat]
  have := sI_len h.1
  have := sI_len h.2.1
  have := sI_len h.2.2
  omega
theorem termS_len {c : Int} (hc : c.natAbs < 10 ^ 20) {r : LP} (h : smallR r) : ∀ i, i ≤ r.length → (termS (r.take i) c).length ≤ 21 + i * 66
  | 0, _ => by
    rw [List.take_zero]
    exact sI_len hc
  | i + 1, hi => by
    have ih := termS_len hc h i (by omega)
    have e : r[i]? = some r[i] := List.getElem?_eq_getElem (by omega)
    rw [take_snoc e, termS_snoc]
    have := markS_len (t := termS (r.take i) c) (h.2 _ (List.mem_of_getElem? e)).2
    omega
def spTermText (K : PySem.W.Frag) : Sp := fun vs H Q _ => ∃ (x : V) (r : LP) (c : Int), vs = [x, .int c] ∧ NdV H (encL r) x ∧ smallR r ∧ c.natAbs < 10 ^ 20 ∧ Q (.str (termS r c)) H
theorem ok_term_text (T : Tx K mg) : FnOk P w K mg base CX0 1 T.a_term_text T.fd_term_text (["row", "count"]) (spTermText K) := by
  refine T.F_term_text.ok sc_term_text (fun vs H Q E h => ?_) (fun cdv A outer s H vs Q E hr h => ?_)
  · obtain ⟨x, r, c, rfl, _⟩ := h
    rfl
  obtain ⟨x, r, c, rfl, hx, sm, hc, q⟩ := h
  obtain ⟨a, xs, rfl, ha, hxs⟩ := row_ex hx
  have lx := hxs.length
  have lr := sm.1
  refine ⟨_, (pss_cons (ps_set (i := 2) sc_term_text.nd rfl (.inl rfl) (pe_callTy c_strI (by rfl) T.m_str (by decide +kernel) (pa_cons (pv 1) pa_nil)))
      (pss_cons (ps_for PassesOwn.never rfl (k_it (K := K) (pi_tup (pv 0))) (k_gt (K := K) (pg_tup (by rfl) (pgs_cons (k_gt (K := K) (pg_tup (by rfl) (pgs_cons (pg_name (i := 3) sc_term_text.nd rfl (.inl rfl)) (pgs_cons (pg_name (i := 4) sc_term_text.nd rfl (.inl rfl)) pgs_nil)))) (pgs_cons (pg_name (i := 5) sc_term_text.nd rfl (.inl rfl)) pgs_nil)))) (pss_one (ps_set (i := 2) sc_term_text.nd rfl (.inl rfl) (pe_op o_catS (pe_op o_catS (pe_op o_catS (pe_op o_catS (pe_op o_catS (pe_op o_catS (pv 2) (pe_str)) (pe_callTy c_strI (by rfl) T.m_str (by decide +kernel) (pa_cons (pv 3) pa_nil))) (pe_str)) (pe_callTy c_strI (by rfl) T.m_str (by decide +kernel) (pa_cons (pv 4) pa_nil))) (pe_str)) (pe_callTy c_strI (by rfl) T.m_str (by decide +kernel) (pa_cons (pv 5) pa_nil))))))
      (pss_one (ps_ret (pv 2))))), ?_⟩
  walk_at "st"
  refine Pm.w_strI (sI_log hc) ?_
  walk_at "st"
  refine Pm.w_rdT (SqT.of ha) ?_
  refine Pm.w_forT (xs := xs) (fun i σ H' => ∃ (x3 x4 x5 : Option V), σ = [some (.ref a), some (.int c), some (.str (termS (r.take i) c)), x3, x4, x5] ∧ H' = H) ⟨_, _, _, rfl, rfl⟩ (fun i σ H' _ ⟨_, _, _, _, h⟩ => SqT.of (by rw [h]; exact ha)) ?_ ?_
  · rintro i v σ H1 hi ⟨x3, x4, x5, rfl, rfl⟩
    have ilt : i < xs.length := (List.getElem?_eq_some_iff.mp hi).1
    obtain ⟨q0, hq, hv⟩ := hxs.get hi
    obtain ⟨⟨p, ep⟩, b1, b2, b3⟩ := sm.2 q0 (List.mem_of_getElem? hq)
    obtain ⟨u, y, rfl, hu, hy⟩ := NdP.ex hv
    rw [ep] at hy
    obtain ⟨m, rfl, hm⟩ := mark_ex hy
    have tl1 := termS_len hc sm i (by omega)
    have l1 := sI_len b1
    have l2 := sI_len b2
    have l3 := sI_len b3
    rw [take_snoc hq, termS_snoc]
    unfold markS
    generalize termS (r.take i) c = tx at tl1 ⊢
    rw [ep, dec_M] at b1 b2 l1 l2 ⊢
    walk_at "st"
    refine Pm.w_gtup (SqT.of hu) rfl ?_
    walk_at "st"
    refine Pm.w_gtup (SqT.of hm) rfl ?_
    walk_at "st"
    refine Pm.w_catS (size_ok (by rw [l_sp]; omega)) ?_
    walk_at "st"
    refine Pm.w_strI (sI_log b1) ?_
    refine Pm.w_catS (size_ok (by rw [len_app, l_sp]; show _ + (sI p.1).length ≤ _; omega)) ?_
    walk_at "st"
    refine Pm.w_catS (size_ok (by rw [len_app, len_app, l_sp, l_dot]; show _ + (sI p.1).length + _ ≤ _; omega)) ?_
    walk_at "st"
    refine Pm.w_strI (sI_log b2) ?_
    refine Pm.w_catS (size_ok (by rw [len_app, len_app, len_app, l_sp, l_dot]; show _ + (sI p.1).length + _ + (sI p.2).length ≤ _; omega)) ?_
    walk_at "st"
    refine Pm.w_catS (size_ok (by rw [len_app, len_app, len_app, len_app, l_sp, l_dot, l_hat]; show _ + (sI p.1).length + _ + (sI p.2).length + _ ≤ _; omega)) ?_
    walk_at "st"
    refine Pm.w_strI (sI_log b3) ?_
    refine Pm.w_catS (size_ok (by rw [len_app, len_app, len_app, len_app, len_app, l_sp, l_dot, l_hat]; show _ + (sI p.1).length + _ + (sI p.2).length + _ + (sI q0.2).length ≤ _; omega)) ?_
    walk_at "st"
    exact ⟨_, _, _, rfl, rfl⟩
  · rintro σ H1 ⟨x3, x4, x5, rfl, rfl⟩
    rw [lx, List.take_length]
    walk_at "st"
    exact q
def StI (_ : Hp) (v : V) (z : Str) : Prop := v = .str z
theorem sti_mono (H H' : Hp) (v : V) (z : Str) (_ : Keeps H H') (h : StI H v z) : StI H' v z := h
theorem sti_map {H : Hp} : ∀ {ws : List V} {zs : List Str}, All2 (StI H) ws zs → ws = zs.map V.str
  | [], [], _ => rfl
  | _ :: _, _ :: _, h => by rw [h.1, sti_map h.2]; rfl
  | [], _ :: _, h => h.elim
  | _ :: _, [], h => h.elim
def lineS (q : ND × Int) : Str := termS (decL q.1) q.2
def joinS (s : LP) : Str := if s = [] then ("0" : Str) else Txt.join (" + " : Str) (s.map lineS)
structure SmallS (B : Nat) (s : LP) : Prop where
  row : ∀ q ∈ s, ∃ r, q.1 = encL r ∧ smallR r ∧ r.length ≤ B ∧ q.2.natAbs < 10 ^ 20
  sz : s.length * (24 + 66 * B) ≤ 16777216
  few : s.length ≤ 100000
theorem sum_le_mul {α : Type} {l : List α} {f : α → Nat} {B : Nat} (h : ∀ x ∈ l, f x ≤ B) : (l.map f).sum ≤ l.length * B := by
  induction l with
  | nil => exact Nat.zero_le _
  | cons x l ih =>
    have h1 := h x List.mem_cons_self
    have h2 := ih fun y hy => h y (List.mem_cons_of_mem _ hy)
    rw [List.map_cons, List.sum_cons, List.length_cons, Nat.add_mul]
    omega
theorem l_plus : (" + " : Str).length = 3 := by decide +kernel
theorem SmallS.join {B : Nat} {s : LP} (h : SmallS B s) : ((s.map lineS).map (·.length)).sum + (s.map lineS).length * (" + " : Str).length ≤ 16777216 := by
  rw [List.map_map, List.length_map, l_plus]
  have := sum_le_mul (l := s) (f := (fun z : Str => z.length) ∘ lineS) (B := 21 + 66 * B) fun q hq => by
    obtain ⟨r, er, sm, rb, cb⟩ := h.row q hq
    show (lineS q).length ≤ _
    unfold lineS
    rw [er, dec_enc]
    have := termS_len cb sm r.length (Nat.le_refl _)
    rw [List.take_length] at this
    have := Nat.mul_le_mul_right 66 rb
    omega
  have sz := h.sz
  rw [show 24 + 66 * B = (21 + 66 * B) + 3 by omega, Nat.mul_add] at sz
  omega
def spSumText (K : PySem.W.Frag) : Sp := fun vs H Q _ => ∃ (l : Addr) (s : LP) (B : Nat), vs = [.ref l] ∧ SLs K H l s ∧ SmallS B s ∧ ∀ H', Same H H' → Q (.str (joinS s)) H'
theorem ok_sum_text (T : Tx K mg) : FnOk P w K mg base CX0 2 T.a_sum_text T.fd_sum_text (["one"]) (spSumText K) := by
  refine T.F_sum_text.ok sc_sum_text (fun vs H Q E h => ?_) (fun cdv A outer s H vs Q E hr h => ?_)
  · obtain ⟨l, s, B, rfl, _⟩ := h
    rfl
  obtain ⟨l, s, B, rfl, ⟨xs, hl, hxs⟩, sm, q⟩ := h
  have lx := hxs.length
  refine ⟨_, (pss_cons (ps_if (pt_cmpR (op_eqNil (K := K) hr.u65) (pv 0) (pe_lst pa_nil) (nomark _)) (pss_one (ps_ret (pe_str))) pss_nil)
      (pss_one (ps_ret (k_bm (K := K) (pe_bm PySem.F.plainAttrs_str PySem.F.slot_str_join PySem.F.type_str_join (mt_joinK (K := K)) (pe_str) (pa_cons (pe_lc (own := [("row", 1)]) (g := gName 1) (tt := tYes) rfl sc_sum_text.nd (k_il (K := K) (pi_list (pv 0))) (blkOk_by (N := N_sum_text) (sc := defScope s_sum_text) (by decide +kernel)) (fun _ _ _ _ _ => (pg_name (i := 1) sc_sum_text.nd rfl (.inl rfl))) (fun _ _ _ _ _ => pts_nil) (fun _ _ _ _ _ => (pe_call (ok_term_text T) (hr.mono (by decide)) (by rfl) T.g_term_text T.F_term_text.kp T.b_term_text .nil pass0 (pa_cons (pe_ix (ix_tupK (K := K)) (pv 1) (pe_int) (fun _ _ => rfl)) (pa_cons (pe_ix (ix_tupK (K := K)) (pv 1) (pe_int) (fun _ _ => rfl)) pa_nil))))) pa_nil)))))), ?_⟩
  walk_at "st"
  refine Pm.w_newL (fun nl hnl => ?_)
  have s1 := same_new hnl (.lst [])
  refine ⟨l, nl, xs, rfl, rfl, SqL.of (s1 _ _ hl), SqL.of upd_same, ?_⟩
  have hl1 := s1 _ _ hl
  have hxs1 := all2_keep (keeps s1) hxs
  generalize upd H nl (.lst []) = H1 at s1 hl1 hxs1 ⊢
  by_cases c : s = []
  · subst c
    have : xs = [] := List.length_eq_zero_iff.mp lx
    subst this
    walk_at "st"
    exact q _ s1
  · have emp : xs.isEmpty = false := by
      cases xs with
      | nil => exact absurd (List.length_eq_zero_iff.mp lx.symm) c
      | cons _ _ => rfl
    rw [emp]
    walk_at "st"
    refine ⟨rfl, ?_⟩
    walk_at "st"
    refine Pm.w_rdL (SqL.of hl1) ?_
    have szl := sm.few
    refine Pm.w_lcLf (R := StI) sti_mono (S := NdP) ndp_mono (SqL.of hl1) hxs1 lineS (fun _ => true) (by omega) (fun D v q0 H2 Nx hD hm hs s2 put skip => ?_) (fun D H2 us hD s2 hd2 hus => ?_)
    · obtain ⟨u, y, rfl, hu, hy⟩ := NdP.ex hs
      obtain ⟨r, er, sr, rb, cb⟩ := sm.row q0 hm
      rw [er] at hy
      walk_at "st"
      refine Pm.w_ixT (SqT.of hu) rfl ?_
      walk_at "st"
      refine Pm.w_ixT (SqT.of hu) rfl ?_
      walk_at "st"
      refine ⟨y, r, q0.2, rfl, hy, sr, cb, ?_⟩
      refine put _ _ rfl (Same.refl _) ?_
      show V.str _ = V.str (lineS q0)
      unfold lineS
      rw [er, dec_enc]
    · rw [List.filter_eq_self.mpr (fun _ _ => rfl)] at hus
      have e := sti_map hus
      rw [e] at hd2
      walk_at "st"
      refine Pm.w_join (SqL.of hd2) sm.join ?_
      have q := q H2 (s1.trans s2)
      unfold joinS at q
      rw [if_neg c] at q
      exact q
theorem ok_law_text (T : Tx K mg) : FnOk P w K mg base CX0 2 T.a_law_text T.fd_law_text (["_law_one"]) (spSumText K) := by
  refine T.F_law_text.ok sc_law_text (fun vs H Q E h => ?_) (fun cdv A outer s H vs Q E hr h => ?_)
  · obtain ⟨l, s, B, rfl, _⟩ := h
    rfl
  obtain ⟨l, s, B, rfl, ⟨xs, hl, hxs⟩, sm, q⟩ := h
  have lx := hxs.length
  have szl := sm.few
  refine ⟨_, (pss_cons (ps_set (i := 1) sc_law_text.nd rfl (.inl rfl) (pe_lst pa_nil))
      (pss_cons (ps_for PassesOwn.never rfl (k_il (K := K) (pi_list (pv 0))) (k_gt (K := K) (pg_tup (by rfl) (pgs_cons (pg_name (i := 2) sc_law_text.nd rfl (.inl rfl)) (pgs_cons (pg_name (i := 3) sc_law_text.nd rfl (.inl rfl)) pgs_nil)))) (pss_cons (ps_set (i := 4) sc_law_text.nd rfl (.inl rfl) (pe_callTy c_strI (by rfl) T.m_str (by decide +kernel) (pa_cons (pv 3) pa_nil)))
      (pss_cons (ps_for PassesOwn.never rfl (k_it (K := K) (pi_tup (pv 2))) (k_gt (K := K) (pg_tup (by rfl) (pgs_cons (pg_name (i := 5) sc_law_text.nd rfl (.inl rfl)) (pgs_cons (pg_name (i := 6) sc_law_text.nd rfl (.inl rfl)) pgs_nil)))) (pss_cons (ps_set (i := 4) sc_law_text.nd rfl (.inl rfl) (pe_op o_catS (pe_op o_catS (pe_op o_catS (pe_op o_catS (pv 4) (pe_str)) (pe_callTy c_strI (by rfl) T.m_str (by decide +kernel) (pa_cons (pe_ix (ix_tupK (K := K)) (pv 5) (pe_int) (fun _ _ => rfl)) pa_nil))) (pe_str)) (pe_callTy c_strI (by rfl) T.m_str (by decide +kernel) (pa_cons (pe_ix (ix_tupK (K := K)) (pv 5) (pe_int) (fun _ _ => rfl)) pa_nil))))
      (pss_one (ps_set (i := 4) sc_law_text.nd rfl (.inl rfl) (pe_op o_catS (pe_op o_catS (pv 4) (pe_str)) (pe_callTy c_strI (by rfl) T.m_str (by decide +kernel) (pa_cons (pv 6) pa_nil)))))))
      (pss_one (ps_expr (k_bm (K := K) (pe_bm PySem.F.plainAttrs_list PySem.F.slot_list_append PySem.F.type_list_append mt_append (pv 1) (pa_cons (pv 4) pa_nil))))))))
      (pss_cons (ps_if (pt_cmpR (op_eqNil (K := K) hr.u65) (pv 1) (pe_lst pa_nil) (nomark _)) (pss_one (ps_ret (pe_str))) pss_nil)
      (pss_one (ps_ret (k_bm (K := K) (pe_bm PySem.F.plainAttrs_str PySem.F.slot_str_join PySem.F.type_str_join (mt_joinK (K := K)) (pe_str) (pa_cons (pv 1) pa_nil)))))))), ?_⟩
  walk_at "st"
  refine Pm.w_newL (fun ro hro => ?_)
  have s1 := same_new hro (.lst [])
  have hl1 := s1 _ _ hl
  have hr1 : (upd H ro (.lst [])) ro = some (.lst []) := upd_same
  have lro : l ≠ ro := ne_of_none hl hro
  generalize upd H ro (.lst []) = H1 at s1 hl1 hr1 ⊢
  walk_at "st"
  refine Pm.w_rdL (SqL.of hl1) ?_
  refine Pm.w_forL (xs := xs) (fun i σ H' => ∃ (x2 x3 x4 x5 x6 : Option V), σ = [some (.ref l), some (.ref ro), x2, x3, x4, x5, x6] ∧ Same H H' ∧ H' ro = some (.lst (((s.take i).map lineS).map V.str))) ⟨_, _, _, _, _, rfl, s1, by rw [List.take_zero]; exact hr1⟩ (fun i σ H' _ ⟨_, _, _, _, _, _, h, _⟩ => SqL.of (h _ _ hl)) ?_ ?_
  · rintro i v σ H2 hi ⟨x2, x3, x4, x5, x6, rfl, s2, hr2⟩
    have ilt : i < xs.length := (List.getElem?_eq_some_iff.mp hi).1
    obtain ⟨q0, hq, hv⟩ := hxs.get hi
    obtain ⟨r, er, sr, rb, cb⟩ := sm.row q0 (List.mem_of_getElem? hq)
    obtain ⟨u, y, rfl, hu, hy⟩ := NdP.ex hv
    rw [er] at hy
    obtain ⟨ra, ys, rfl, hra, hys⟩ := row_ex hy
    have ly := hys.length
    have lr := sr.1
    walk_at "st"
    refine Pm.w_gtup (SqT.of (s2 _ _ hu)) rfl ?_
    walk_at "st"
    refine Pm.w_strI (sI_log cb) ?_
    walk_at "st"
    refine Pm.w_rdT (SqT.of (s2 _ _ hra)) ?_
    refine Pm.w_forT (xs := ys) (fun j σ H' => ∃ (x5 x6 : Option V), σ = [some (.ref l), some (.ref ro), some (.ref ra), some (.int q0.2), some (.str (termS (r.take j) q0.2)), x5, x6] ∧ H' = H2) ⟨_, _, rfl, rfl⟩ (fun j σ H' _ ⟨_, _, _, h⟩ => SqT.of (by rw [h]; exact s2 _ _ hra)) ?_ ?_
    · rintro j v σ H3 hj ⟨x5, x6, rfl, rfl⟩
      have jlt : j < ys.length := (List.getElem?_eq_some_iff.mp hj).1
      obtain ⟨q1, hq1, hv1⟩ := hys.get hj
      obtain ⟨⟨p, ep⟩, b1, b2, b3⟩ := sr.2 q1 (List.mem_of_getElem? hq1)
      obtain ⟨u1, y1, rfl, hu1, hy1⟩ := NdP.ex hv1
      rw [ep] at hy1
      obtain ⟨m, rfl, hm⟩ := mark_ex hy1
      have hm2 := s2 _ _ hm
      have tl1 := termS_len cb sr j (by omega)
      have l1 := sI_len b1
      have l2 := sI_len b2
      have l3 := sI_len b3
      rw [take_snoc hq1, termS_snoc]
      unfold markS
      generalize termS (r.take j) q0.2 = tx at tl1 ⊢
      rw [ep, dec_M] at b1 b2 l1 l2 ⊢
      walk_at "st"
      refine Pm.w_gtup (SqT.of (s2 _ _ hu1)) rfl ?_
      walk_at "st"
      refine Pm.w_catS (size_ok (by rw [l_sp]; omega)) ?_
      walk_at "st"
      refine Pm.w_ixT (SqT.of hm2) rfl ?_
      walk_at "st"
      refine Pm.w_strI (sI_log b1) ?_
      refine Pm.w_catS (size_ok (by rw [len_app, l_sp]; show _ + (sI p.1).length ≤ _; omega)) ?_
      walk_at "st"
      refine Pm.w_catS (size_ok (by rw [len_app, len_app, l_sp, l_dot]; show _ + (sI p.1).length + _ ≤ _; omega)) ?_
      walk_at "st"
      refine Pm.w_ixT (SqT.of hm2) rfl ?_
      walk_at "st"
      refine Pm.w_strI (sI_log b2) ?_
      refine Pm.w_catS (size_ok (by rw [len_app, len_app, len_app, l_sp, l_dot]; show _ + (sI p.1).length + _ + (sI p.2).length ≤ _; omega)) ?_
      walk_at "st"
      refine Pm.w_catS (size_ok (by rw [len_app, len_app, len_app, len_app, l_sp, l_dot, l_hat]; show _ + (sI p.1).length + _ + (sI p.2).length + _ ≤ _; omega)) ?_
      walk_at "st"
      refine Pm.w_strI (sI_log b3) ?_
      refine Pm.w_catS (size_ok (by rw [len_app, len_app, len_app, len_app, len_app, l_sp, l_dot, l_hat]; show _ + (sI p.1).length + _ + (sI p.2).length + _ + (sI q1.2).length ≤ _; omega)) ?_
      walk_at "st"
      exact ⟨_, _, rfl, rfl⟩
    · rintro σ H3 ⟨x5, x6, rfl, rfl⟩
      rw [ly, List.take_length]
      walk_at "st"
      refine ⟨.inl ⟨rfl, _, SqL.of hr2⟩, ?_⟩
      walk_at "st"
      refine Pm.w_append hr2 (size_lt (by rw [List.length_map, List.length_map, List.length_take]; omega)) ?_
      refine ⟨_, _, _, _, _, rfl, same_but hro s2, ?_⟩
      rw [upd_same, take_snoc hq, List.map_append, List.map_append]
      show _ = some (HO.lst (_ ++ [V.str (lineS q0)]))
      unfold lineS
      rw [er, dec_enc]
  · rintro σ H2 ⟨x2, x3, x4, x5, x6, rfl, s2, hr2⟩
    rw [lx, List.take_length] at hr2
    walk_at "st"
    refine Pm.w_newL (fun nl hnl => ?_)
    have s3 := same_new hnl (.lst [])
    refine ⟨ro, nl, _, rfl, rfl, SqL.of (s3 _ _ hr2), SqL.of upd_same, ?_⟩
    have hr3 := s3 _ _ hr2
    generalize upd H2 nl (.lst []) = H3 at s3 hr3 ⊢
    have q := q H3 (s2.trans s3)
    unfold joinS at q
    by_cases c : s = []
    · subst c
      walk_at "st"
      exact q
    · rw [if_neg c] at q
      have emp : ((s.map lineS).map V.str).isEmpty = false := by
        cases s with
        | nil => exact absurd rfl c
        | cons _ _ => rfl
      rw [emp]
      walk_at "st"
      refine ⟨rfl, ?_⟩
      walk_at "st"
      refine Pm.w_join (SqL.of hr3) sm.join ?_
      exact q
end
section
open TL
variable {P : Program} {w : World} {K : PySem.W.Frag} {mg : Str → Option Value} {base : Heap}
def pwTwo : List Str → Option (IP × Int)
  | [a, b] => match markOf a with
    | none => none
    | some m => match sgnOf b with
      | none => none
      | some i => some (m, i)
  | _ => none
def pwOf (z : Str) : Option (IP × Int) := pwTwo (Txt.split z ("^" : Str))
def risen (l : LP) (d : ND) : Bool := match l.getLast? with
  | none => true
  | some q => ND.ltB q.1 d
def stepW (acc : Option LP) (z : Str) : Option LP := match acc with
  | none => none
  | some l => match pwOf z with
    | none => none
    | some (m, i) => if risen l (encM m) = true then some (l ++ [(encM m, i)]) else none
def rowW (ws : List Str) : Option LP := ws.foldl stepW (some [])
theorem fold_none : ∀ ws : List Str, ws.foldl stepW none = none
  | [] => rfl
  | _ :: ws => fold_none ws
theorem rowW_snoc {ws : List Str} {i : Nat} {z : Str} (h : ws[i]? = some z) : rowW (ws.take (i + 1)) = stepW (rowW (ws.take i)) z := by
  rw [take_snoc h]
  unfold rowW
  rw [List.foldl_append]
  rfl
theorem rowW_none {ws : List Str} {i : Nat} (h : rowW (ws.take i) = none) : rowW ws = none := by
  have e : rowW ws = (ws.drop i).foldl stepW (rowW (ws.take i)) := by
    unfold rowW
    rw [← List.foldl_append, List.take_append_drop]
  rw [e, h, fold_none]
def termW : List Str → Option (LP × Int)
  | [] => none
  | w0 :: rest => match sgnOf w0 with
    | none => none
    | some c => match rowW rest with
      | none => none
      | some r => some (r, c)
def termOf (z : Str) : Option (LP × Int) := termW (Txt.split z (" " : Str))
theorem split_ne (z : Str) {c : Nat} (hc : c < 256 := by decide) : ∃ a rest, Txt.split z ⟨#[c]⟩ = a :: rest := by
  obtain ⟨p, rest, e⟩ := spl_first (S := [c]) (tl z) 0 []
  exact ⟨_, _, split_of e hc⟩
def spTermOf (K : PySem.W.Frag) (C : Addr) : Sp := fun vs H Q E => ∃ z : Str, vs = [.str z] ∧ z.length ≤ 1000000 ∧ (termOf z = none → ∀ H', Same H H' → E (.ref C) none H') ∧ (∀ r c, termOf z = some (r, c) → ∀ (t : Addr) (H' : Hp), Same H H' → NdP H' (.ref t) (encL r, c) → Q (.ref t) H')
theorem ok_term_of (T : Tx K mg) : FnOk P w K mg base (L2.CX P w) 3 T.a_term_of T.fd_term_of (["text"]) (spTermOf K T.c_BadSum) := by
  refine T.F_term_of.okX sc_term_of (fun vs H Q E h => ?_) (fun cdv A outer s H vs Q E hr h => ?_)
  · obtain ⟨z, rfl, _⟩ := h
    rfl
  obtain ⟨z, rfl, hz, hE, q⟩ := h
  refine ⟨_, (pss_cons (ps_set (i := 1) sc_term_of.nd rfl (.inl rfl) (k_bm (K := K) (pe_bm PySem.F.plainAttrs_str PySem.F.slot_str_split PySem.F.type_str_split mt_splitS (pv 0) (pa_cons (pe_str) pa_nil))))
      (pss_cons (ps_set (i := 2) sc_term_of.nd rfl (.inl rfl) (pe_call (ok_signed_of T) (hr.mono (by decide)) (by rfl) T.g_signed_of T.F_signed_of.kp T.b_signed_of .nil (passes_call (takes_of rfl rfl rfl rfl) (fun _ _ _ _ h => h)) (pa_cons (pe_ix (ix_listK (K := K)) (pv 1) (pe_int) (fun _ _ => rfl)) pa_nil)))
      (pss_cons (ps_set (i := 3) sc_term_of.nd rfl (.inl rfl) (pe_lst pa_nil))
      (pss_cons (ps_for (passes_of rfl) rfl (k_il (K := K) (pi_list (pe_slice (sl_listK (K := K)) (pv 1) (po_some (pe_int)) po_none))) (pg_name (i := 4) sc_term_of.nd rfl (.inl rfl)) (pss_cons (ps_set (i := 5) sc_term_of.nd rfl (.inl rfl) (k_bm (K := K) (pe_bm PySem.F.plainAttrs_str PySem.F.slot_str_split PySem.F.type_str_split mt_splitS (pv 4) (pa_cons (pe_str) pa_nil))))
      (pss_cons (ps_if (pt_cmpR op_ne (pe_callB (c_len (K := K)) (by rfl) T.m_len PySem.boot_len (pa_cons (pv 5) pa_nil)) (pe_int) (nomark _)) (pss_one (ps_raise rfl (takes_of rfl rfl rfl rfl) (pmk_own PySem.F.excBase_ValueError T.x_BadSum T.g_BadSum T.k_BadSum (raises_own T.b_BadSum T.t_BadSum) rfl))) pss_nil)
      (pss_cons (ps_set (i := 6) sc_term_of.nd rfl (.inl rfl) (pe_call (ok_mark_of T) (hr.mono (by decide)) (by rfl) T.g_mark_of T.F_mark_of.kp T.b_mark_of .nil (passes_call (takes_of rfl rfl rfl rfl) (fun _ _ _ _ h => h)) (pa_cons (pe_ix (ix_listK (K := K)) (pv 5) (pe_int) (fun _ _ => rfl)) pa_nil)))
      (C8.pss_cut (ps_if (PW.pt (pw_and (pt_cmpR (op_neNil (K := K) hr.u65) (pv 3) (pe_lst pa_nil) (nomark _)) (pw_and1 (pt_cmpR (op_geN (K := K) hr.u40) (pe_ix (ix_tupK (K := K)) (pe_ix (ix_listK (K := K)) (pv 3) (pe_un un_neg (pe_int)) (fun _ _ => rfl)) (pe_int) (fun _ _ => rfl)) (pv 6) (nomark _))))) (pss_one (ps_raise rfl (takes_of rfl rfl rfl rfl) (pmk_own PySem.F.excBase_ValueError T.x_BadSum T.g_BadSum T.k_BadSum (raises_own T.b_BadSum T.t_BadSum) rfl))) pss_nil)
      (pss_one (ps_expr (k_bm (K := K) (pe_bm PySem.F.plainAttrs_list PySem.F.slot_list_append PySem.F.type_list_append mt_append (pv 3) (pa_cons (pe_tup (pa_cons (pv 6) (pa_cons (pe_call (ok_signed_of T) (hr.mono (by decide)) (by rfl) T.g_signed_of T.F_signed_of.kp T.b_signed_of .nil (passes_call (takes_of rfl rfl rfl rfl) (fun _ _ _ _ h => h)) (pa_cons (pe_ix (ix_listK (K := K)) (pv 5) (pe_int) (fun _ _ => rfl)) pa_nil)) pa_nil))) pa_nil))))))))))
      (pss_one (ps_ret (pe_tup (pa_cons (pe_callTy (c_tupOf (K := K)) (by rfl) T.m_tuple (by decide +kernel) (pa_cons (pv 3) pa_nil)) (pa_cons (pv 2) pa_nil))))))))), ?_⟩
  walk_at "st"
  refine ⟨rfl, ?_⟩
  walk_at "st"
  refine Pm.w_split (by decide +kernel) (by rw [sizeLine_eq]; omega) (fun l hl => ?_)
  have wl : ∀ x ∈ Txt.split z (" " : Str), x.length ≤ 1000000 := fun x hx => Nat.le_trans (split_piece hx) (by omega)
  have wm : (Txt.split z (" " : Str)).length ≤ z.length + 1 := split_many
  obtain ⟨w0, rest, ews⟩ : ∃ a rest, Txt.split z (" " : Str) = a :: rest := split_ne z
  unfold termOf at hE q
  rw [ews] at hE q wl wm ⊢
  rw [List.length_cons] at wm
  have s1 := same_new hl (.lst ((w0 :: rest).map V.str))
  have f1 : (upd H l (.lst ((w0 :: rest).map V.str))) l = some (.lst ((w0 :: rest).map V.str)) := upd_same
  generalize upd H l (.lst ((w0 :: rest).map V.str)) = H1 at s1 f1 ⊢
  walk_at "st"
  refine Pm.w_ixL (SqL.of f1) (v := .str w0) (atI_nat (j := 0) rfl) ?_
  walk_at "st"
  refine ⟨w0, rfl, wl w0 List.mem_cons_self, fun hn => hE (by show (match sgnOf w0 with | none => none | some c => _) = none; rw [hn]) _ s1, fun cnt hcnt => ?_⟩
  have hE : rowW rest = none → ∀ H', Same H H' → E (.ref T.c_BadSum) none H' := fun hn => hE (by
    show (match sgnOf w0 with | none => none | some c => match rowW rest with | none => none | some r => some (r, c)) = none
    rw [hcnt, hn])
  have q : ∀ r, rowW rest = some r → ∀ (t : Addr) (H' : Hp), Same H H' → NdP H' (.ref t) (encL r, cnt) → Q (.ref t) H' := fun r hr => q r cnt (by
    show (match sgnOf w0 with | none => none | some c => match rowW rest with | none => none | some r => some (r, c)) = some (r, cnt)
    rw [hcnt, hr])
  walk_at "st"
  refine Pm.w_newL (fun ro hro => ?_)
  have s2 := s1.trans (same_new hro (.lst []))
  have f2 := (same_new hro (.lst [])) _ _ f1
  have r2 : (upd H1 ro (.lst [])) ro = some (.lst []) := upd_same
  have hHro : H ro = none := s1.free hro
  generalize upd H1 ro (.lst []) = H2 at s2 f2 r2 ⊢
  walk_at "st"
  refine Pm.w_slL (SqL.of f2) (fun p1 hp1 => ?_)
  rw [cut_drop (by decide) (by rw [List.length_map, List.length_cons]; show (1 : Int) ≤ _; omega)]
  have e1 : ((w0 :: rest).map V.str).drop (1 : Int).toNat = rest.map V.str := rfl
  rw [e1]
  have s3 := same_new hp1 (.lst (rest.map V.str))
  have f3 : (upd H2 p1 (.lst (rest.map V.str))) p1 = some (.lst (rest.map V.str)) := upd_same
  have r3 := s3 _ _ r2
  have p1ro : p1 ≠ ro := fun z => by rw [z, r2] at hp1; cases hp1
  have s13 := s2.trans s3
  generalize upd H2 p1 (.lst (rest.map V.str)) = H3 at f3 r3 s13 ⊢
  walk_at "st"
  refine Pm.w_rdL (SqL.of f3) ?_
  refine Pm.w_forL (xs := rest.map V.str) (fun i σ H' => ∃ (x4 x5 x6 : Option V) (vs : List V) (lp : LP), σ = [some (.str z), some (.ref l), some (.int cnt), some (.ref ro), x4, x5, x6] ∧ Same H H' ∧ H' p1 = some (.lst (rest.map V.str)) ∧ H' ro = some (.lst vs) ∧ All2 (NdP H') vs lp ∧ rowW (rest.take i) = some lp ∧ lp.length ≤ i ∧ ∀ q ∈ lp, ∃ m, q.1 = encM m) ⟨_, _, _, [], [], rfl, s13, f3, r3, trivial, rfl, Nat.le_refl _, fun q h => nomatch h⟩ (fun i σ H' _ ⟨_, _, _, _, _, _, _, h, _⟩ => SqL.of h) ?_ ?_
  · rintro i v σ H4 hi ⟨x4, x5, x6, vs, lp, rfl, s4, hp4, hr4, hv4, hw4, ll, mk4⟩
    rw [List.getElem?_map] at hi
    obtain ⟨wd, hwd, rfl⟩ : ∃ wd, rest[i]? = some wd ∧ V.str wd = v := by
      cases h : rest[i]? with
      | none => rw [h] at hi; cases hi
      | some wd => rw [h] at hi; exact ⟨wd, rfl, Option.some.inj hi⟩
    have ilt : i < rest.length := (List.getElem?_eq_some_iff.mp hwd).1
    have lvs := hv4.length
    have wdl := wl wd (List.mem_cons_of_mem _ (List.mem_of_getElem? hwd))
    have sn := rowW_snoc hwd
    rw [hw4] at sn
    have bad : stepW (some lp) wd = none → ∀ H', Same H H' → E (.ref T.c_BadSum) none H' := fun e => hE (rowW_none (i := i + 1) (sn.trans e))
    walk_at "st"
    refine ⟨rfl, ?_⟩
    walk_at "st"
    refine Pm.w_split (by decide +kernel) (by rw [sizeLine_eq]; omega) (fun h5 hh5 => ?_)
    have hl5 : ∀ x ∈ Txt.split wd ("^" : Str), x.length ≤ 1000000 := fun x hx => Nat.le_trans (split_piece hx) (by omega)
    have pw : pwOf wd = pwTwo (Txt.split wd ("^" : Str)) := rfl
    generalize Txt.split wd ("^" : Str) = hs at hl5 pw ⊢
    have s5 := same_new hh5 (.lst (hs.map V.str))
    have f5 : (upd H4 h5 (.lst (hs.map V.str))) h5 = some (.lst (hs.map V.str)) := upd_same
    have hr5 := s5 _ _ hr4
    have hp5 := s5 _ _ hp4
    have hv5 := all2_keep (keeps s5) hv4
    have s45 := s4.trans s5
    have h5ro : h5 ≠ ro := fun z => by rw [z, hr4] at hh5; cases hh5
    generalize upd H4 h5 (.lst (hs.map V.str)) = H5 at f5 hr5 hp5 hv5 s45 ⊢
    walk_at "st"
    refine Pm.w_lenL (SqL.of f5) ?_
    rw [List.length_map]
    walk_at "st"
    refine Pm.w_iteN (fun e => ?_) (fun e => ?_)
    · refine bad ?_ _ s45
      have : pwOf wd = none := by
        rw [pw]
        match hs, e with
        | [], _ => rfl
        | [_], _ => rfl
        | [a, b], e => exact absurd rfl e
        | _ :: _ :: _ :: _, _ => rfl
      show (match pwOf wd with | none => none | some (m, i) => _) = none
      rw [this]
    have hab : ∃ a b, hs = [a, b] := by
      match hs, e with
      | [a, b], _ => exact ⟨a, b, rfl⟩
      | [], e => exact absurd e (by simp)
      | [_], e => exact absurd e (by simp)
      | _ :: _ :: _ :: _, e => exact absurd e (by simp only [List.length_cons]; omega)
    obtain ⟨a, b, rfl⟩ := hab
    have la := hl5 a (by simp)
    have lb := hl5 b (by simp)
    walk_at "st"
    refine Pm.w_ixL (SqL.of f5) (v := .str a) rfl ?_
    walk_at "st"
    refine ⟨a, rfl, la, fun hn H' s' => bad ?_ _ (s45.trans s'), fun m hm mt H6 s6 nmt hmt => ?_⟩
    · have : pwOf wd = none := by
        rw [pw]
        show (match markOf a with | none => none | some m => _) = none
        rw [hn]
      show (match pwOf wd with | none => none | some (m, i) => _) = none
      rw [this]
    have pwa : pwOf wd = match sgnOf b with | none => none | some i => some (m, i) := by
      rw [pw]
      show (match markOf a with | none => none | some m => match sgnOf b with | none => none | some i => some (m, i)) = _
      rw [hm]
    have hr6 := s6 _ _ hr5
    have hp6 := s6 _ _ hp5
    have hv6 := all2_keep (keeps s6) hv5
    have s46 := s45.trans s6
    have f6 := s6 _ _ f5
    walk_at "st"
    refine Pm.w_cut (fun σ' H' => σ' = [some (.str z), some (.ref l), some (.int cnt), some (.ref ro), some (.str wd), some (.ref h5), some (.ref mt)] ∧ Same H6 H' ∧ risen lp (encM m) = true) ?_ ?_
    · walk_at "st"
      refine Pm.w_newL (fun nl hnl => ?_)
      have s7 := same_new hnl (.lst [])
      refine ⟨ro, nl, vs, rfl, rfl, SqL.of (s7 _ _ hr6), SqL.of upd_same, ?_⟩
      have hr7 := s7 _ _ hr6
      have hv7 := all2_keep (keeps s7) hv6
      have hmt7 := hmt.keep (keeps s7)
      generalize upd H6 nl (.lst []) = H7 at s7 hr7 hv7 hmt7 ⊢
      cases hlast : lp.getLast? with
      | none =>
        have : lp = [] := List.getLast?_eq_none_iff.mp hlast
        subst this
        have : vs = [] := List.length_eq_zero_iff.mp lvs
        subst this
        walk_at "st"
        exact ⟨rfl, s7, rfl⟩
      | some q0 =>
        obtain ⟨ini, rfl⟩ : ∃ ini, lp = ini ++ [q0] := List.getLast?_eq_some_iff.mp hlast
        rw [List.length_append, List.length_singleton] at lvs
        obtain ⟨m0, em0⟩ := mk4 q0 (List.mem_append.mpr (.inr (List.mem_singleton.mpr rfl)))
        have gl : (ini ++ [q0])[ini.length]? = some q0 := by rw [List.getElem?_append_right (Nat.le_refl _), Nat.sub_self]; rfl
        obtain ⟨y, hy, ny⟩ : ∃ y, vs[ini.length]? = some y ∧ NdP H7 y q0 := by
          have hlt : ini.length < vs.length := by omega
          obtain ⟨q', hq', hn'⟩ := hv7.get (List.getElem?_eq_getElem hlt)
          rw [gl] at hq'
          cases hq'
          exact ⟨_, List.getElem?_eq_getElem hlt, hn'⟩
        obtain ⟨u, k0, rfl, hu, hk0⟩ := NdP.ex ny
        have emp : vs.isEmpty = false := by
          cases vs with
          | nil => exact absurd lvs (by simp)
          | cons _ _ => rfl
        rw [emp]
        walk_at "st"
        have at1 : atI vs (-1) = some (.ref u) := by
          unfold atI ixN
          rw [if_neg (by omega), if_pos (by omega)]
          show vs[(-1 + (vs.length : Int)).toNat]? = _
          rw [show (-1 + (vs.length : Int)).toNat = ini.length by omega]
          exact hy
        refine Pm.w_ixL (SqL.of hr7) at1 ?_
        walk_at "st"
        refine Pm.w_ixT (SqT.of hu) rfl ?_
        walk_at "st"
        refine w_geD hk0 (mark_of hmt7) (by rw [em0]; exact hom_M _ _) (by rw [em0]; exact (keyD_M _).2) ?_
        have rs : risen (ini ++ [q0]) (encM m) = ND.ltB q0.1 (encM m) := by
          unfold risen
          rw [hlast]
        cases lt : ND.ltB q0.1 (encM m) with
        | true =>
          walk_at "st"
          exact ⟨rfl, s7, by rw [rs]; exact lt⟩
        | false =>
          walk_at "st"
          refine bad ?_ _ (s46.trans s7)
          rw [lt] at rs
          show (match pwOf wd with | none => none | some (m, i) => if risen (ini ++ [q0]) (encM m) = true then some ((ini ++ [q0]) ++ [(encM m, i)]) else none) = none
          rw [pwa]
          cases sgnOf b with
          | none => rfl
          | some k =>
            show (if risen (ini ++ [q0]) (encM m) = true then _ else none) = none
            rw [rs]
            rfl
    rintro σ' H7 ⟨rfl, s7, rs⟩
    have hr7 := s7 _ _ hr6
    have hp7 := s7 _ _ hp6
    have hv7 := all2_keep (keeps s7) hv6
    have hmt7 := hmt.keep (keeps s7)
    have s47 := s46.trans s7
    have f7 := s7 _ _ f6
    walk_at "st"
    refine ⟨.inl ⟨rfl, _, SqL.of hr7⟩, ?_⟩
    walk_at "st"
    refine Pm.w_ixL (SqL.of f7) (v := .str b) rfl ?_
    walk_at "st"
    refine ⟨b, rfl, lb, fun hn => bad ?_ _ s47, fun k hk => ?_⟩
    · show (match pwOf wd with | none => none | some (m, i) => _) = none
      rw [pwa, hn]
    rw [hk] at pwa
    walk_at "st"
    refine Pm.w_newT (fun t8 ht8 => ?_)
    have s8 := same_new ht8 (.tup [.ref mt, .int k])
    have n8 : NdP (upd H7 t8 (.tup [.ref mt, .int k])) (.ref t8) (encM m, k) := NdP.of (q := (encM m, k)) upd_same (mark_of (hmt7.keep (keeps s8)))
    have hr8 := s8 _ _ hr7
    have hp8 := s8 _ _ hp7
    have hv8 := all2_keep (keeps s8) hv7
    have s48 := s47.trans s8
    generalize upd H7 t8 (.tup [.ref mt, .int k]) = H8 at n8 hr8 hp8 hv8 s48 ⊢
    walk_at "st"
    refine Pm.w_append hr8 (size_lt (by omega)) ?_
    refine ⟨_, _, _, vs ++ [.ref t8], lp ++ [(encM m, k)], rfl, same_but hHro s48, by rw [upd_ne p1ro]; exact hp8, upd_same, All2.snoc (all2_keep (keeps_lst hr8) hv8) (ndp_mono _ _ _ _ (keeps_lst hr8) n8), ?_, by rw [List.length_append, List.length_singleton]; omega, fun q hq => ?_⟩
    · rw [sn]
      show (match pwOf wd with | none => none | some (m, i) => if risen lp (encM m) = true then some (lp ++ [(encM m, i)]) else none) = _
      rw [pwa]
      show (if risen lp (encM m) = true then some (lp ++ [(encM m, k)]) else none) = _
      rw [if_pos rs]
    · rcases List.mem_append.mp hq with h | h
      · exact mk4 q h
      · rw [List.mem_singleton.mp h]
        exact ⟨m, rfl⟩
  · rintro σ H4 ⟨x4, x5, x6, vs, lp, rfl, s4, hp4, hr4, hv4, hw4, ll, mk4⟩
    rw [List.length_map, List.take_length] at hw4
    walk_at "st"
    refine Pm.w_tupOf (SqL.of hr4) (fun u hu => ?_)
    have s5 := same_new hu (.tup vs)
    have n5 : NdV (upd H4 u (.tup vs)) (encL lp) (.ref u) := row_of_tup upd_same (all2_keep (keeps s5) hv4)
    generalize upd H4 u (.tup vs) = H5 at s5 n5 ⊢
    walk_at "st"
    refine Pm.w_newT (fun t hT => ?_)
    have s6 := same_new hT (.tup [.ref u, .int cnt])
    exact q lp hw4 t _ (s4.trans (s5.trans s6)) (NdP.of (q := (encL lp, cnt)) upd_same (ndv_mono _ _ _ _ (keeps s6) n5))
end
section
open TL
variable {P : Program} {w : World} {K : PySem.W.Frag} {mg : Str → Option Value} {base : Heap}
theorem ltB_trans {x y z : ND} (h : ND.ltB x y = true) (k : ND.ltB y z = true) : ND.ltB x z = true := ND.ltB_iff.mpr (ND.cmp_trans (ND.ltB_iff.mp h) (ND.ltB_iff.mp k))
theorem ris_snoc {l : LP} {d : ND} {i : Int} (h : RisS l) (r : risen l d = true) : RisS (l ++ [(d, i)]) := by
  refine List.pairwise_append.mpr ⟨h, List.pairwise_singleton _ _, fun x hx y hy => ?_⟩
  rw [List.mem_singleton.mp hy]
  unfold risen at r
  cases hl : l.getLast? with
  | none => rw [List.getLast?_eq_none_iff.mp hl] at hx; cases hx
  | some q0 =>
    rw [hl] at r
    obtain ⟨ini, rfl⟩ := List.getLast?_eq_some_iff.mp hl
    rcases List.mem_append.mp hx with m | m
    · exact ltB_trans ((List.pairwise_append.mp h).2.2 x m q0 (List.mem_singleton.mpr rfl)) r
    · rw [List.mem_singleton.mp m]
      exact r
theorem sgn_nz {z : Str} {i : Int} (h : sgnOf z = some i) : i ≠ 0 := by
  unfold sgnOf at h
  by_cases c : fig (restOf z) < 1
  · rw [if_pos c] at h; cases h
  · rw [if_neg c] at h
    have := Option.some.inj h
    by_cases d : dash z
    · rw [if_pos d] at this; omega
    · rw [if_neg d] at this; omega
theorem pw_nz {z : Str} {m : IP} {i : Int} (h : pwOf z = some (m, i)) : i ≠ 0 := by
  unfold pwOf at h
  generalize Txt.split z ("^" : Str) = ws at h
  match ws, h with
  | [a, b], h =>
    have h : (match markOf a with | none => none | some m => match sgnOf b with | none => none | some i => some (m, i)) = some (m, i) := h
    cases e1 : markOf a with
    | none => rw [e1] at h; cases h
    | some m' =>
      rw [e1] at h
      have h : (match sgnOf b with | none => none | some i => some (m', i)) = some (m, i) := h
      cases e2 : sgnOf b with
      | none => rw [e2] at h; cases h
      | some i' =>
        rw [e2] at h
        have h : some (m', i') = some (m, i) := h
        injection h with h
        injection h with _ h
        rw [← h]
        exact sgn_nz e2
  | [], h => cases h
  | [_], h => cases h
  | _ :: _ :: _ :: _, h => cases h
theorem rowW_good : ∀ (ws : List Str) {k : Nat} {l r : LP}, RowC k l → ws.foldl stepW (some l) = some r → RowC (k + ws.length) r
  | [], k, l, r, h, e => by
    cases Option.some.inj e
    exact h
  | z :: ws, k, l, r, h, e => by
    have e : ws.foldl stepW (stepW (some l) z) = some r := e
    cases pw : pwOf z with
    | none =>
      have : stepW (some l) z = none := by
        show (match pwOf z with | none => none | some (m, i) => _) = none
        rw [pw]
      rw [this, fold_none] at e
      cases e
    | some q =>
      obtain ⟨m, i⟩ := q
      have st : stepW (some l) z = if risen l (encM m) = true then some (l ++ [(encM m, i)]) else none := by
        show (match pwOf z with | none => none | some (m, i) => if risen l (encM m) = true then some (l ++ [(encM m, i)]) else none) = _
        rw [pw]
      by_cases rs : risen l (encM m) = true
      · rw [st, if_pos rs] at e
        have g : RowC (k + 1) (l ++ [(encM m, i)]) := ⟨by rw [List.length_append, List.length_singleton]; have := h.len; omega, fun q hq => by
          rcases List.mem_append.mp hq with a | a
          · exact h.mrk q a
          · rw [List.mem_singleton.mp a]; exact ⟨m, rfl⟩, ris_snoc h.ris rs, fun q hq => by
          rcases List.mem_append.mp hq with a | a
          · exact h.nz q a
          · rw [List.mem_singleton.mp a]; exact pw_nz pw⟩
        have := rowW_good ws g e
        rw [List.length_cons]
        exact this.mono (by omega)
      · rw [st, if_neg rs, fold_none] at e
        cases e
theorem termOf_good {z : Str} {r : LP} {c : Int} (h : termOf z = some (r, c)) : RowC (z.length + 1) r ∧ c ≠ 0 := by
  unfold termOf at h
  have wm : (Txt.split z (" " : Str)).length ≤ z.length + 1 := split_many
  generalize Txt.split z (" " : Str) = ws at h wm
  match ws, h with
  | [], h => cases h
  | w0 :: rest, h =>
    have h : (match sgnOf w0 with | none => none | some c => match rowW rest with | none => none | some r => some (r, c)) = some (r, c) := h
    cases e1 : sgnOf w0 with
    | none => rw [e1] at h; cases h
    | some c' =>
      rw [e1] at h
      have h : (match rowW rest with | none => none | some r => some (r, c')) = some (r, c) := h
      cases e2 : rowW rest with
      | none => rw [e2] at h; cases h
      | some r' =>
        rw [e2] at h
        have h : some (r', c') = some (r, c) := h
        injection h with h
        injection h with h1 h2
        subst h1
        subst h2
        rw [List.length_cons] at wm
        exact ⟨(rowW_good rest (k := 0) rowC_nil e2).mono (by omega), sgn_nz e1⟩
def stepT (acc : Option LP) (z : Str) : Option LP := match acc with
  | none => none
  | some s => match termOf z with
    | none => none
    | some (r, c) => if risen s (encL r) = true then some (s ++ [(encL r, c)]) else none
def sumW (ws : List Str) : Option LP := ws.foldl stepT (some [])
def sumOf (z : Str) : Option LP := if z = ("0" : Str) then some [] else sumW (Txt.split z (" + " : Str))
theorem foldT_none : ∀ ws : List Str, ws.foldl stepT none = none
  | [] => rfl
  | _ :: ws => foldT_none ws
theorem sumW_snoc {ws : List Str} {i : Nat} {z : Str} (h : ws[i]? = some z) : sumW (ws.take (i + 1)) = stepT (sumW (ws.take i)) z := by
  rw [take_snoc h]
  unfold sumW
  rw [List.foldl_append]
  rfl
theorem sumW_none {ws : List Str} {i : Nat} (h : sumW (ws.take i) = none) : sumW ws = none := by
  have e : sumW ws = (ws.drop i).foldl stepT (sumW (ws.take i)) := by
    unfold sumW
    rw [← List.foldl_append, List.take_append_drop]
  rw [e, h, foldT_none]
end
section
open TL
variable {P : Program} {w : World} {K : PySem.W.Frag} {mg : Str → Option Value} {base : Heap}
theorem split_many' {x y : Str} (hy : tl y ≠ []) (hk : y.cps.all (· < 256) = true) : (Txt.split x y).length ≤ x.length + 1 := by
  have h := split_spl x y hy (kind_ok hk)
  have e : (Txt.split x y).length = ((Txt.split x y).map tl).length := (List.length_map _).symm
  rw [e, h, len_tl]
  exact spl_many _ _ _
def spSumRead (K : PySem.W.Frag) (C : Addr) : Sp := fun vs H Q E => ∃ z : Str, vs = [.str z] ∧ z.length ≤ 1000000 ∧ (sumOf z = none → ∀ H', Same H H' → E (.ref C) none H') ∧ (∀ s, sumOf z = some s → ∀ (t : Addr) (H' : Hp), Same H H' → SLs K H' t s → Q (.ref t) H')
theorem ok_sum_read (T : Tx K mg) : FnOk P w K mg base (L2.CX P w) 4 T.a_sum_read T.fd_sum_read (["line"]) (spSumRead K T.c_BadSum) := by
  refine T.F_sum_read.okX sc_sum_read (fun vs H Q E h => ?_) (fun cdv A outer s H vs Q E hr h => ?_)
  · obtain ⟨z, rfl, _⟩ := h
    rfl
  obtain ⟨z, rfl, hz, hE, q⟩ := h
  refine ⟨_, (pss_cons (ps_if (pt_cmpR op_eq (pv 0) (pe_str) (nomark _)) (pss_one (ps_ret (pe_lst pa_nil))) pss_nil)
      (pss_cons (ps_set (i := 1) sc_sum_read.nd rfl (.inl rfl) (pe_lst pa_nil))
      (pss_cons (ps_for (passes_of rfl) rfl (k_il (K := K) (pi_list (k_bm (K := K) (pe_bm PySem.F.plainAttrs_str PySem.F.slot_str_split PySem.F.type_str_split mt_splitS (pv 0) (pa_cons (pe_str) pa_nil))))) (pg_name (i := 2) sc_sum_read.nd rfl (.inl rfl)) (pss_cons (ps_set (i := 3) sc_sum_read.nd rfl (.inl rfl) (pe_call (ok_term_of T) (hr.mono (by decide)) (by rfl) T.g_term_of T.F_term_of.kp T.b_term_of .nil (passes_call (takes_of rfl rfl rfl rfl) (fun _ _ _ _ h => h)) (pa_cons (pv 2) pa_nil)))
      (C8.pss_cut (ps_if (PW.pt (pw_and (pt_cmpR (op_neNil (K := K) hr.u65) (pv 1) (pe_lst pa_nil) (nomark _)) (pw_and1 (pt_cmpR (op_geN (K := K) hr.u40) (pe_ix (ix_tupK (K := K)) (pe_ix (ix_listK (K := K)) (pv 1) (pe_un un_neg (pe_int)) (fun _ _ => rfl)) (pe_int) (fun _ _ => rfl)) (pe_ix (ix_tupK (K := K)) (pv 3) (pe_int) (fun _ _ => rfl)) (nomark _))))) (pss_one (ps_raise rfl (takes_of rfl rfl rfl rfl) (pmk_own PySem.F.excBase_ValueError T.x_BadSum T.g_BadSum T.k_BadSum (raises_own T.b_BadSum T.t_BadSum) rfl))) pss_nil)
      (pss_one (ps_expr (k_bm (K := K) (pe_bm PySem.F.plainAttrs_list PySem.F.slot_list_append PySem.F.type_list_append mt_append (pv 1) (pa_cons (pv 3) pa_nil))))))))
      (pss_one (ps_ret (pv 1)))))), ?_⟩
  walk_at "st"
  unfold sumOf at hE q
  refine Pm.w_ite (fun e0 => ?_) (fun e0 => ?_)
  · rw [if_pos e0] at q
    walk_at "st"
    refine Pm.w_newL (fun l hl => ?_)
    exact q [] rfl l _ (same_new hl _) ⟨[], upd_same, trivial⟩
  rw [if_neg e0] at q
  rw [if_neg e0] at hE
  walk_at "st"
  refine Pm.w_newL (fun ro hro => ?_)
  have s1 := same_new hro (.lst [])
  have r1 : (upd H ro (.lst [])) ro = some (.lst []) := upd_same
  generalize upd H ro (.lst []) = H1 at s1 r1 ⊢
  walk_at "st"
  refine ⟨rfl, ?_⟩
  walk_at "st"
  have hy : tl (" + " : Str) ≠ [] := by decide +kernel
  have hk : (" + " : Str).cps.all (· < 256) = true := by decide +kernel
  refine Pm.w_split (by decide +kernel) (by rw [sizeLine_eq]; omega) (fun l hl => ?_)
  have wl : ∀ x ∈ Txt.split z (" + " : Str), x.length ≤ z.length := fun x hx => split_piece' hy hk hx
  have wm : (Txt.split z (" + " : Str)).length ≤ z.length + 1 := split_many' hy hk
  generalize Txt.split z (" + " : Str) = ws at hE q wl wm ⊢
  have s2 := same_new hl (.lst (ws.map V.str))
  have f2 : (upd H1 l (.lst (ws.map V.str))) l = some (.lst (ws.map V.str)) := upd_same
  have r2 := s2 _ _ r1
  have lro : l ≠ ro := fun e => by rw [e, r1] at hl; cases hl
  have s12 := s1.trans s2
  generalize upd H1 l (.lst (ws.map V.str)) = H2 at f2 r2 s12 ⊢
  walk_at "st"
  refine Pm.w_rdL (SqL.of f2) ?_
  refine Pm.w_forL (xs := ws.map V.str) (fun i σ H' => ∃ (x2 x3 : Option V) (vs : List V) (lp : LP), σ = [some (.str z), some (.ref ro), x2, x3] ∧ Same H H' ∧ H' l = some (.lst (ws.map V.str)) ∧ H' ro = some (.lst vs) ∧ All2 (NdP H') vs lp ∧ sumW (ws.take i) = some lp ∧ lp.length ≤ i ∧ ∀ q ∈ lp, ∃ r, q.1 = encL r ∧ RowC (z.length + 1) r) ⟨_, _, [], [], rfl, s12, f2, r2, trivial, rfl, Nat.le_refl _, fun q h => nomatch h⟩ (fun i σ H' _ ⟨_, _, _, _, _, _, h, _⟩ => SqL.of h) ?_ ?_
  · rintro i v σ H4 hi ⟨x2, x3, vs, lp, rfl, s4, hp4, hr4, hv4, hw4, ll, mk4⟩
    rw [List.getElem?_map] at hi
    obtain ⟨wd, hwd, rfl⟩ : ∃ wd, ws[i]? = some wd ∧ V.str wd = v := by
      cases h : ws[i]? with
      | none => rw [h] at hi; cases hi
      | some wd => rw [h] at hi; exact ⟨wd, rfl, Option.some.inj hi⟩
    have ilt : i < ws.length := (List.getElem?_eq_some_iff.mp hwd).1
    have lvs := hv4.length
    have wdl := wl wd (List.mem_of_getElem? hwd)
    have sn := sumW_snoc hwd
    rw [hw4] at sn
    have bad : stepT (some lp) wd = none → ∀ H', Same H H' → E (.ref T.c_BadSum) none H' := fun e => hE (sumW_none (i := i + 1) (sn.trans e))
    walk_at "st"
    refine ⟨wd, rfl, by omega, fun hn H' s' => bad ?_ _ (s4.trans s'), fun r c hrc mt H6 s6 hmt => ?_⟩
    · show (match termOf wd with | none => none | some (r, c) => _) = none
      rw [hn]
    have gr := (termOf_good hrc).1.mono (m := z.length + 1) (by omega)
    have stp : stepT (some lp) wd = if risen lp (encL r) = true then some (lp ++ [(encL r, c)]) else none := by
      show (match termOf wd with | none => none | some (r, c) => if risen lp (encL r) = true then some (lp ++ [(encL r, c)]) else none) = _
      rw [hrc]
    obtain ⟨mt', ra, e6, hmt6, hra⟩ := NdP.ex hmt
    cases e6
    have hr6 := s6 _ _ hr4
    have hp6 := s6 _ _ hp4
    have hv6 := all2_keep (keeps s6) hv4
    have s46 := s4.trans s6
    walk_at "st"
    refine Pm.w_cut (fun σ' H' => σ' = [some (.str z), some (.ref ro), some (.str wd), some (.ref mt)] ∧ Same H6 H' ∧ risen lp (encL r) = true) ?_ ?_
    · walk_at "st"
      refine Pm.w_newL (fun nl hnl => ?_)
      have s7 := same_new hnl (.lst [])
      refine ⟨ro, nl, vs, rfl, rfl, SqL.of (s7 _ _ hr6), SqL.of upd_same, ?_⟩
      have hr7 := s7 _ _ hr6
      have hv7 := all2_keep (keeps s7) hv6
      have hmt7 := s7 _ _ hmt6
      have hra7 := ndv_mono _ _ _ _ (keeps s7) hra
      generalize upd H6 nl (.lst []) = H7 at s7 hr7 hv7 hmt7 hra7 ⊢
      cases hlast : lp.getLast? with
      | none =>
        have : lp = [] := List.getLast?_eq_none_iff.mp hlast
        subst this
        have : vs = [] := List.length_eq_zero_iff.mp lvs
        subst this
        walk_at "st"
        exact ⟨rfl, s7, rfl⟩
      | some q0 =>
        obtain ⟨ini, rfl⟩ : ∃ ini, lp = ini ++ [q0] := List.getLast?_eq_some_iff.mp hlast
        rw [List.length_append, List.length_singleton] at lvs
        obtain ⟨r0, er0, g0⟩ := mk4 q0 (List.mem_append.mpr (.inr (List.mem_singleton.mpr rfl)))
        have gl : (ini ++ [q0])[ini.length]? = some q0 := by rw [List.getElem?_append_right (Nat.le_refl _), Nat.sub_self]; rfl
        obtain ⟨y, hy, ny⟩ : ∃ y, vs[ini.length]? = some y ∧ NdP H7 y q0 := by
          have hlt : ini.length < vs.length := by omega
          obtain ⟨q', hq', hn'⟩ := hv7.get (List.getElem?_eq_getElem hlt)
          rw [gl] at hq'
          cases hq'
          exact ⟨_, List.getElem?_eq_getElem hlt, hn'⟩
        obtain ⟨u, k0, rfl, hu, hk0⟩ := NdP.ex ny
        have emp : vs.isEmpty = false := by
          cases vs with
          | nil => exact absurd lvs (by simp)
          | cons _ _ => rfl
        rw [emp]
        walk_at "st"
        have at1 : atI vs (-1) = some (.ref u) := by
          unfold atI ixN
          rw [if_neg (by omega), if_pos (by omega)]
          show vs[(-1 + (vs.length : Int)).toNat]? = _
          rw [show (-1 + (vs.length : Int)).toNat = ini.length by omega]
          exact hy
        refine Pm.w_ixL (SqL.of hr7) at1 ?_
        walk_at "st"
        refine Pm.w_ixT (SqT.of hu) rfl ?_
        walk_at "st"
        refine Pm.w_ixT (SqT.of hmt7) rfl ?_
        walk_at "st"
        refine w_geD hk0 hra7 (by rw [er0]; exact g0.hom gr) (by rw [er0]; exact g0.keyD.2) ?_
        have rs : risen (ini ++ [q0]) (encL r) = ND.ltB q0.1 (encL r) := by
          unfold risen
          rw [hlast]
        cases lt : ND.ltB q0.1 (encL r) with
        | true =>
          walk_at "st"
          exact ⟨rfl, s7, by rw [rs]; exact lt⟩
        | false =>
          walk_at "st"
          refine bad ?_ _ (s46.trans s7)
          rw [stp, rs, lt]
          rfl
    rintro σ' H7 ⟨rfl, s7, rs⟩
    have hr7 := s7 _ _ hr6
    have hp7 := s7 _ _ hp6
    have hv7 := all2_keep (keeps s7) hv6
    have hmt7 := ndp_mono _ _ _ _ (keeps s7) hmt
    have s47 := s46.trans s7
    walk_at "st"
    refine ⟨.inl ⟨rfl, _, SqL.of hr7⟩, ?_⟩
    walk_at "st"
    refine Pm.w_append hr7 (size_lt (by omega)) ?_
    refine ⟨_, _, vs ++ [.ref mt], lp ++ [(encL r, c)], rfl, same_but hro s47, by rw [upd_ne lro]; exact hp7, upd_same, All2.snoc (all2_keep (keeps_lst hr7) hv7) (ndp_mono _ _ _ _ (keeps_lst hr7) hmt7), ?_, by rw [List.length_append, List.length_singleton]; omega, fun q hq => ?_⟩
    · rw [sn, stp, if_pos rs]
    · rcases List.mem_append.mp hq with h | h
      · exact mk4 q h
      · rw [List.mem_singleton.mp h]
        exact ⟨r, rfl, gr⟩
  · rintro σ H4 ⟨x2, x3, vs, lp, rfl, s4, hp4, hr4, hv4, hw4, ll, mk4⟩
    rw [List.length_map, List.take_length] at hw4
    walk_at "st"
    exact q lp hw4 ro _ s4 ⟨vs, hr4, hv4⟩
end
section
open TL
variable {P : Program} {w : World} {K : PySem.W.Frag} {mg : Str → Option Value} {base : Heap}
def spLMark : Sp := fun vs H Q _ => ∃ z : Str, vs = [.str z] ∧ z.length ≤ 1000000 ∧ (pwOf z = none → ∀ H', Same H H' → Q .non H') ∧ (∀ m i, pwOf z = some (m, i) → ∀ (t : Addr) (H' : Hp), Same H H' → NdP H' (.ref t) (encM m, i) → Q (.ref t) H')
theorem two_of {α : Type} {ws : List α} (e : ¬ (¬ ((ws.length : Int) = 2))) : ∃ a b, ws = [a, b] := by
  match ws, e with
  | [a, b], _ => exact ⟨a, b, rfl⟩
  | [], e => exact absurd e (by simp)
  | [_], e => exact absurd e (by simp)
  | _ :: _ :: _ :: _, e => exact absurd e (by simp only [List.length_cons]; omega)
theorem pwTwo_no {ws : List Str} (e : ¬ ((ws.length : Int) = 2)) : pwTwo ws = none := by
  match ws, e with
  | [], _ => rfl
  | [_], _ => rfl
  | [a, b], e => exact absurd rfl e
  | _ :: _ :: _ :: _, _ => rfl
theorem markTwo_no {ws : List Str} (e : ¬ ((ws.length : Int) = 2)) : markTwo ws = none := by
  match ws, e with
  | [], _ => rfl
  | [_], _ => rfl
  | [a, b], e => exact absurd rfl e
  | _ :: _ :: _ :: _, _ => rfl
theorem ok_law_mark (T : Tx K mg) : FnOk P w K mg base CX0 3 T.a_law_mark T.fd_law_mark (["_law_word"]) spLMark := by
  refine T.F_law_mark.ok sc_law_mark (fun vs H Q E h => ?_) (fun cdv A outer s H vs Q E hr h => ?_)
  · obtain ⟨z, rfl, _⟩ := h
    rfl
  obtain ⟨z, rfl, hz, qn, q⟩ := h
  refine ⟨_, (pss_cons (ps_set (i := 1) sc_law_mark.nd rfl (.inl rfl) (k_bm (K := K) (pe_bm PySem.F.plainAttrs_str PySem.F.slot_str_split PySem.F.type_str_split mt_splitS (pv 0) (pa_cons (pe_str) pa_nil))))
      (pss_cons (ps_if (pt_cmpR op_ne (pe_callB (c_len (K := K)) (by rfl) T.m_len PySem.boot_len (pa_cons (pv 1) pa_nil)) (pe_int) (nomark _)) (pss_one (ps_ret (pe_non))) pss_nil)
      (pss_cons (ps_set (i := 2) sc_law_mark.nd rfl (.inl rfl) (k_bm (K := K) (pe_bm PySem.F.plainAttrs_str PySem.F.slot_str_split PySem.F.type_str_split mt_splitS (pe_ix (ix_listK (K := K)) (pv 1) (pe_int) (fun _ _ => rfl)) (pa_cons (pe_str) pa_nil))))
      (pss_cons (ps_if (PW.pt (pw_or (pt_cmpR op_ne (pe_callB (c_len (K := K)) (by rfl) T.m_len PySem.boot_len (pa_cons (pv 2) pa_nil)) (pe_int) (nomark _)) (pw_or1 (pt_cmpR op_isNK (pe_call (ok_law_signed T) (hr.mono (by decide)) (by rfl) T.g_law_signed T.F_law_signed.kp T.b_law_signed .nil pass0 (pa_cons (pe_ix (ix_listK (K := K)) (pv 1) (pe_int) (fun _ _ => rfl)) pa_nil)) (pe_non) (nomark _))))) (pss_one (ps_ret (pe_non))) pss_nil)
      (pss_cons (ps_set (i := 3) sc_law_mark.nd rfl (.inl rfl) (pe_call (ok_law_number T) (hr.mono (by decide)) (by rfl) T.g_law_number T.F_law_number.kp T.b_law_number .nil pass0 (pa_cons (pe_ix (ix_listK (K := K)) (pv 2) (pe_int) (fun _ _ => rfl)) (pa_cons (pe_int) pa_nil))))
      (pss_cons (ps_set (i := 4) sc_law_mark.nd rfl (.inl rfl) (pe_call (ok_law_number T) (hr.mono (by decide)) (by rfl) T.g_law_number T.F_law_number.kp T.b_law_number .nil pass0 (pa_cons (pe_ix (ix_listK (K := K)) (pv 2) (pe_int) (fun _ _ => rfl)) (pa_cons (pe_int) pa_nil))))
      (pss_cons (ps_if (PW.pt (pw_or (pt_cmpR op_isNK (pv 3) (pe_non) (nomark _)) (pw_or (pt_cmpR op_isNK (pv 4) (pe_non) (nomark _)) (pw_or1 (pt_cmpR op_ge (pv 3) (pv 4) (nomark _)))))) (pss_one (ps_ret (pe_non))) pss_nil)
      (pss_one (ps_ret (pe_tup (pa_cons (pe_tup (pa_cons (pv 3) (pa_cons (pv 4) pa_nil))) (pa_cons (pe_call (ok_law_signed T) (hr.mono (by decide)) (by rfl) T.g_law_signed T.F_law_signed.kp T.b_law_signed .nil pass0 (pa_cons (pe_ix (ix_listK (K := K)) (pv 1) (pe_int) (fun _ _ => rfl)) pa_nil)) pa_nil)))))))))))), ?_⟩
  walk_at "st"
  refine ⟨rfl, ?_⟩
  walk_at "st"
  refine Pm.w_split (by decide +kernel) (by rw [sizeLine_eq]; omega) (fun l hl => ?_)
  have wl : ∀ x ∈ Txt.split z ("^" : Str), x.length ≤ 1000000 := fun x hx => Nat.le_trans (split_piece hx) (by omega)
  unfold pwOf at qn q
  generalize Txt.split z ("^" : Str) = hs at qn q wl ⊢
  have s1 := same_new hl (.lst (hs.map V.str))
  have f1 : (upd H l (.lst (hs.map V.str))) l = some (.lst (hs.map V.str)) := upd_same
  generalize upd H l (.lst (hs.map V.str)) = H1 at s1 f1 ⊢
  walk_at "st"
  refine Pm.w_lenL (SqL.of f1) ?_
  rw [List.length_map]
  walk_at "st"
  refine Pm.w_iteN (fun e => ?_) (fun e => ?_)
  · walk_at "st"
    exact qn (pwTwo_no e) _ s1
  obtain ⟨a, b, rfl⟩ := two_of (ws := hs) (by omega)
  have la := wl a (by simp)
  have lb := wl b (by simp)
  have pw : pwTwo [a, b] = match markOf a with | none => none | some m => match sgnOf b with | none => none | some i => some (m, i) := rfl
  walk_at "st"
  refine Pm.w_ixL (SqL.of f1) (v := .str a) rfl ?_
  walk_at "st"
  refine ⟨rfl, ?_⟩
  walk_at "st"
  refine Pm.w_split (by decide +kernel) (by rw [sizeLine_eq]; omega) (fun l2 hl2 => ?_)
  have wl2 : ∀ x ∈ Txt.split a ("." : Str), x.length ≤ 1000000 := fun x hx => Nat.le_trans (split_piece hx) (by omega)
  have ma : markOf a = markTwo (Txt.split a ("." : Str)) := rfl
  generalize Txt.split a ("." : Str) = es at ma wl2 ⊢
  have s2 := same_new hl2 (.lst (es.map V.str))
  have f2 : (upd H1 l2 (.lst (es.map V.str))) l2 = some (.lst (es.map V.str)) := upd_same
  have g2 := s2 _ _ f1
  have s12 := s1.trans s2
  generalize upd H1 l2 (.lst (es.map V.str)) = H2 at f2 g2 s12 ⊢
  walk_at "st"
  refine Pm.w_lenL (SqL.of f2) ?_
  rw [List.length_map]
  walk_at "st"
  refine Pm.w_iteN (fun e2 => ?_) (fun e2 => ?_)
  · walk_at "st"
    exact qn (by rw [pw, ma, markTwo_no e2]) _ s12
  obtain ⟨x, y, rfl⟩ := two_of (ws := es) (by omega)
  have lx := wl2 x (by simp)
  have ly := wl2 y (by simp)
  have ma : markOf a = if fig x < 0 ∨ fig y ≤ fig x then none else some (fig x, fig y) := ma
  walk_at "st"
  refine Pm.w_ixL (SqL.of g2) (v := .str b) rfl ?_
  walk_at "st"
  refine ⟨b, rfl, lb, fun hn => ?_, fun k hk => ?_⟩
  · walk_at "st"
    refine Pm.w_isN_non ?_
    walk_at "st"
    refine qn ?_ _ s12
    rw [pw, hn]
    cases markOf a <;> rfl
  walk_at "st"
  refine w_isN_int ?_
  walk_at "st"
  have non : (fig x < 0 ∨ fig y ≤ fig x) → Q .non H2 := fun h => qn (by rw [pw, ma, if_pos h]) _ s12
  refine Pm.w_ixL (SqL.of f2) (v := .str x) rfl ?_
  walk_at "st"
  refine ⟨x, 0, rfl, lx, by decide, fun n1 => ?_, fun n1 => ?_⟩
  · walk_at "st"
    refine Pm.w_ixL (SqL.of f2) (v := .str y) rfl ?_
    walk_at "st"
    refine ⟨y, 0, rfl, ly, by decide, fun n2 => ?_, fun n2 => ?_⟩ <;>
    · walk_at "st"
      refine Pm.w_isN_non ?_
      walk_at "st"
      exact non (.inl n1)
  · walk_at "st"
    refine Pm.w_ixL (SqL.of f2) (v := .str y) rfl ?_
    walk_at "st"
    refine ⟨y, 0, rfl, ly, by decide, fun n2 => ?_, fun n2 => ?_⟩
    · walk_at "st"
      refine w_isN_int ?_
      walk_at "st"
      refine Pm.w_isN_non ?_
      walk_at "st"
      exact non (.inr (by omega))
    · walk_at "st"
      refine w_isN_int ?_
      walk_at "st"
      refine w_isN_int ?_
      walk_at "st"
      refine Pm.w_ite (fun c => ?_) (fun c => ?_)
      · walk_at "st"
        exact non (.inr c)
      · walk_at "st"
        refine Pm.w_newT (fun t hT => ?_)
        have s3 := same_new hT (.tup [.int (fig x), .int (fig y)])
        have n3 : NdV (upd H2 t (.tup [.int (fig x), .int (fig y)])) (encM (fig x, fig y)) (.ref t) := mark_of (p := (fig x, fig y)) (pr_new (a := fig x) (b := fig y) upd_same)
        have g3 := s3 _ _ g2
        generalize upd H2 t (.tup [.int (fig x), .int (fig y)]) = H3 at s3 n3 g3 ⊢
        walk_at "st"
        refine Pm.w_ixL (SqL.of g3) (v := .str b) rfl ?_
        walk_at "st"
        refine ⟨b, rfl, lb, fun hn => ?_, fun k' hk' => ?_⟩
        · rw [hk] at hn
          cases hn
        walk_at "st"
        refine Pm.w_newT (fun t4 hT4 => ?_)
        have s4 := same_new hT4 (.tup [.ref t, .int k'])
        refine q (fig x, fig y) k' ?_ t4 _ (s12.trans (s3.trans s4)) (NdP.of (q := (encM (fig x, fig y), k')) upd_same (ndv_mono _ _ _ _ (keeps s4) n3))
        rw [pw, ma, if_neg (by rintro (h | h) <;> omega), hk']
end
section
open TL
variable {P : Program} {w : World} {K : PySem.W.Frag} {mg : Str → Option Value} {base : Heap}
/-- a term or None -/
def OpI (H : Hp) (v : V) (o : Option (ND × Int)) : Prop := match o with
  | none => v = .non
  | some q => NdP H v q
theorem opi_mono (H H' : Hp) (v : V) (o : Option (ND × Int)) (k : Keeps H H') (h : OpI H v o) : OpI H' v o := by
  cases o with
  | none => exact h
  | some q => exact ndp_mono _ _ _ _ k h
def opD : Option (ND × Int) → PyData
  | none => .none
  | some q => (encP q).py
theorem ops_dp {K : PySem.W.Frag} {H : Hp} : ∀ {xs : List V} {os : List (Option (ND × Int))}, All2 (OpI H) xs os → DpAll K H xs (os.map opD)
  | [], [], _ => .nil
  | v :: _, none :: _, h => by
    have e : v = .non := h.1
    subst e
    exact .cons .non (ops_dp h.2)
  | _ :: _, some q :: _, h => .cons (NdV.dp _ _ h.1) (ops_dp h.2)
  | [], _ :: _, h => h.elim
  | _ :: _, [], h => h.elim
theorem shaped_ops {os : List (Option (ND × Int))} (h : ∀ q, some q ∈ os → (encP q).dep ≤ 4) : SeqAt.shaped (.list (os.map opD)) = true := by
  have lay : PyData.canLayAll0 (os.map opD) = true := by
    clear h
    induction os with
    | nil => simp only [List.map_nil, PyData.canLayAll0]
    | cons x s ih =>
      rw [List.map_cons]
      simp only [PyData.canLayAll0]
      rw [ih, Bool.and_true]
      cases x with
      | none => rfl
      | some q => exact ND.lay _
  have dep : PyData.depthAll (os.map opD) ≤ 4 := by
    clear lay
    induction os with
    | nil => simp only [List.map_nil, PyData.depthAll]; decide
    | cons x s ih =>
      rw [List.map_cons]
      simp only [PyData.depthAll]
      have h2 := ih fun q hq => h q (List.mem_cons_of_mem _ hq)
      have h1 : (opD x).depth ≤ 4 := by
        cases x with
        | none => show PyData.depth .none ≤ 4; simp [PyData.depth]
        | some q => exact h q List.mem_cons_self
      omega
  unfold SeqAt.shaped
  simp only [PyData.canLay0, PyData.depth]
  rw [lay, Bool.true_and]
  exact decide_eq_true (by omega)
theorem any_none (os : List (Option (ND × Int))) : ((os.map opD).any fun z => PyData.eqv z .none) = decide (none ∈ os) := by
  induction os with
  | nil => rfl
  | cons x s ih =>
    rw [List.map_cons, List.any_cons, ih]
    cases x with
    | none => simp [opD, PyData.eqv]
    | some q =>
      have e : PyData.eqv (opD (some q)) .none = false := by
        show PyData.eqv (encP q).py .none = false
        unfold encP
        simp only [ND.py, PyData.eqv]
      rw [e, Bool.false_or]
      simp
theorem w_inNone {K : PySem.W.Frag} {H : Hp} {Q : VK} {a : Addr} {xs : List V} {os : List (Option (ND × Int))} (h2 : SqL K H a xs) (p2 : All2 (OpI H) xs os) (hd : ∀ q, some q ∈ os → (encP q).dep ≤ 4) (h : Q (.bl (decide (none ∈ os))) H) : rInD K .non (.ref a) H Q :=
  ⟨.none, _, .non, .lst h2 (ops_dp p2), by rfl, shaped_ops hd, by rw [any_none]; exact h⟩
def pwE (z : Str) : Option (ND × Int) := (pwOf z).map fun q => (encM q.1, q.2)
theorem pwE_none {z : Str} : pwE z = none ↔ pwOf z = none := by
  unfold pwE
  cases pwOf z <;> simp
theorem step_no {acc : LP} {z : Str} (h : pwE z = none) : stepW (some acc) z = none := by
  have h := pwE_none.mp h
  show (match pwOf z with | none => none | some (m, i) => _) = none
  rw [h]
theorem step_yes {acc : LP} {z : Str} {q : ND × Int} (h : pwE z = some q) : stepW (some acc) z = if risen acc q.1 = true then some (acc ++ [q]) else none := by
  unfold pwE at h
  cases e : pwOf z with
  | none => rw [e] at h; cases h
  | some p =>
    rw [e] at h
    have h : some (encM p.1, p.2) = some q := h
    cases h
    show (match pwOf z with | none => none | some (m, i) => if risen acc (encM m) = true then some (acc ++ [(encM m, i)]) else none) = _
    rw [e]
theorem rowW_bad {ws : List Str} {z : Str} (hz : z ∈ ws) (h : pwE z = none) : rowW ws = none := by
  obtain ⟨i, hi, e⟩ := List.mem_iff_getElem.mp hz
  have hg : ws[i]? = some z := by rw [List.getElem?_eq_getElem hi, e]
  refine rowW_none (i := i + 1) ?_
  rw [rowW_snoc hg]
  cases rowW (ws.take i) with
  | none => rfl
  | some l => exact step_no h
theorem risen_at {l : LP} {k : Nat} {q : ND × Int} (h : l[k]? = some q) (d : ND) : risen (l.take (k + 1)) d = ND.ltB q.1 d := by
  unfold risen
  rw [take_snoc h, List.getLast?_append]
  rfl
/-- all words read, the rows so far rise, the next one too or not -/
theorem rowW_next {ws : List Str} {l : LP} (hl : ws.map pwE = l.map some) {k : Nat} {p q : ND × Int} (hp : l[k]? = some p) (hq : l[k + 1]? = some q) (h : rowW (ws.take (k + 1)) = some (l.take (k + 1))) : rowW (ws.take (k + 2)) = if ND.ltB p.1 q.1 = true then some (l.take (k + 2)) else none := by
  have hw : (ws.map pwE)[k + 1]? = some (some q) := by rw [hl, List.getElem?_map, hq]; rfl
  rw [List.getElem?_map] at hw
  cases e : ws[k + 1]? with
  | none => rw [e] at hw; cases hw
  | some z =>
    rw [e] at hw
    have hw : pwE z = some q := Option.some.inj hw
    rw [rowW_snoc e, h, step_yes hw, risen_at hp, take_snoc hq]
theorem rowW_one {ws : List Str} {l : LP} (hl : ws.map pwE = l.map some) : rowW (ws.take 1) = some (l.take 1) := by
  cases ws with
  | nil =>
    cases l with
    | nil => rfl
    | cons _ _ => cases hl
  | cons z r =>
    cases l with
    | nil => cases hl
    | cons q l =>
      injection hl with h1 h2
      show stepW (some []) z = some [q]
      rw [step_yes h1]
      rfl
end
section
open TL
variable {P : Program} {w : World} {K : PySem.W.Frag} {mg : Str → Option Value} {base : Heap}
theorem sti_of {H : Hp} : ∀ zs : List Str, All2 (StI H) (zs.map V.str) zs
  | [] => trivial
  | _ :: zs => ⟨rfl, sti_of zs⟩
theorem all_some {os : List (Option (ND × Int))} (h : none ∉ os) : ∃ lp : LP, os = lp.map some := by
  induction os with
  | nil => exact ⟨[], rfl⟩
  | cons x r ih =>
    rw [List.mem_cons, not_or] at h
    obtain ⟨lp, hlp⟩ := ih h.2
    cases x with
    | none => exact absurd rfl h.1
    | some q => exact ⟨q :: lp, by rw [hlp]; rfl⟩
theorem ops_all {H : Hp} : ∀ {us : List V} {lp : LP}, All2 (OpI H) us (lp.map some) → All2 (NdP H) us lp
  | [], [], _ => trivial
  | _ :: _, _ :: _, h => ⟨h.1, ops_all h.2⟩
  | [], _ :: _, h => h.elim
  | _ :: _, [], h => h.elim
def spLTerm : Sp := fun vs H Q _ => ∃ z : Str, vs = [.str z] ∧ z.length ≤ 990000 ∧ (termOf z = none → ∀ H', Same H H' → Q .non H') ∧ (∀ r c, termOf z = some (r, c) → ∀ (t : Addr) (H' : Hp), Same H H' → NdP H' (.ref t) (encL r, c) → Q (.ref t) H')
theorem ok_law_term (T : Tx K mg) : FnOk P w K mg base CX0 4 T.a_law_term T.fd_law_term (["_law_text_here"]) spLTerm := by
  refine T.F_law_term.ok sc_law_term (fun vs H Q E h => ?_) (fun cdv A outer s H vs Q E hr h => ?_)
  · obtain ⟨z, rfl, _⟩ := h
    rfl
  obtain ⟨z, rfl, hz, qn, q⟩ := h
  refine ⟨_, (pss_cons (ps_set (i := 1) sc_law_term.nd rfl (.inl rfl) (k_bm (K := K) (pe_bm PySem.F.plainAttrs_str PySem.F.slot_str_split PySem.F.type_str_split mt_splitS (pv 0) (pa_cons (pe_str) pa_nil))))
      (pss_cons (ps_setLc (i := 2) (own := [("_law_word", 3)]) (g := gName 3) (tt := tYes) rfl sc_law_term.nd rfl rfl (sw_true rfl rfl rfl (by decide +kernel)) (k_il (K := K) (pi_list (pe_slice (sl_listK (K := K)) (pv 1) (po_some (pe_int)) po_none))) (blkOk_by (N := N_law_term) (sc := defScope s_law_term) (by decide +kernel)) (fun _ _ _ _ _ => (pg_name (i := 3) sc_law_term.nd rfl (.inl rfl))) (fun _ _ _ _ _ => pts_nil) (fun _ _ _ _ _ => (pe_call (ok_law_mark T) (hr.mono (by decide)) (by rfl) T.g_law_mark T.F_law_mark.kp T.b_law_mark .nil pass0 (pa_cons (pv 3) pa_nil))))
      (pss_cons (ps_if (PW.pt (pw_or (pt_cmpR op_isNK (pe_call (ok_law_signed T) (hr.mono (by decide)) (by rfl) T.g_law_signed T.F_law_signed.kp T.b_law_signed .nil pass0 (pa_cons (pe_ix (ix_listK (K := K)) (pv 1) (pe_int) (fun _ _ => rfl)) pa_nil)) (pe_non) (nomark _)) (pw_or1 (pt_cmpR (op_inDK (K := K) hr.u65) (pe_non) (pv 2) (by rfl))))) (pss_one (ps_ret (pe_non))) pss_nil)
      (pss_cons (ps_for PassesOwn.never rfl (pi_range1 (by rfl) T.m_range (pa_cons (pe_op op_sub (pe_callB (c_len (K := K)) (by rfl) T.m_len PySem.boot_len (pa_cons (pv 2) pa_nil)) (pe_int)) pa_nil)) (pg_name (i := 4) sc_law_term.nd rfl (.inl rfl)) (pss_one (ps_if (pt_cmpR (op_geN (K := K) hr.u40) (pe_ix (ix_tupK (K := K)) (pe_ix (ix_listK (K := K)) (pv 2) (pv 4) (fun _ _ => rfl)) (pe_int) (fun _ _ => rfl)) (pe_ix (ix_tupK (K := K)) (pe_ix (ix_listK (K := K)) (pv 2) (pe_op op_add (pv 4) (pe_int)) (fun _ _ => rfl)) (pe_int) (fun _ _ => rfl)) (nomark _)) (pss_one (ps_ret (pe_non))) pss_nil)))
      (pss_one (ps_ret (pe_tup (pa_cons (pe_callTy (c_tupOf (K := K)) (by rfl) T.m_tuple (by decide +kernel) (pa_cons (pv 2) pa_nil)) (pa_cons (pe_call (ok_law_signed T) (hr.mono (by decide)) (by rfl) T.g_law_signed T.F_law_signed.kp T.b_law_signed .nil pass0 (pa_cons (pe_ix (ix_listK (K := K)) (pv 1) (pe_int) (fun _ _ => rfl)) pa_nil)) pa_nil))))))))), ?_⟩
  walk_at "st"
  refine ⟨rfl, ?_⟩
  walk_at "st"
  refine Pm.w_split (by decide +kernel) (by rw [sizeLine_eq]; omega) (fun l hl => ?_)
  have wl : ∀ x ∈ Txt.split z (" " : Str), x.length ≤ 1000000 := fun x hx => Nat.le_trans (split_piece hx) (by omega)
  have wm : (Txt.split z (" " : Str)).length ≤ z.length + 1 := split_many
  obtain ⟨w0, rest, ews⟩ : ∃ a rest, Txt.split z (" " : Str) = a :: rest := split_ne z
  unfold termOf at qn q
  rw [ews] at qn q wl wm ⊢
  rw [List.length_cons] at wm
  have s1 := same_new hl (.lst ((w0 :: rest).map V.str))
  have f1 : (upd H l (.lst ((w0 :: rest).map V.str))) l = some (.lst ((w0 :: rest).map V.str)) := upd_same
  generalize upd H l (.lst ((w0 :: rest).map V.str)) = H1 at s1 f1 ⊢
  have qn1 : sgnOf w0 = none ∨ rowW rest = none → ∀ H', Same H H' → Q .non H' := fun hn => qn (by
    show (match sgnOf w0 with | none => none | some c => match rowW rest with | none => none | some r => some (r, c)) = none
    rcases hn with h | h
    · rw [h]
    · rw [h]; cases sgnOf w0 <;> rfl)
  have q1 : ∀ c r, sgnOf w0 = some c → rowW rest = some r → ∀ (t : Addr) (H' : Hp), Same H H' → NdP H' (.ref t) (encL r, c) → Q (.ref t) H' := fun c r hc hr => q r c (by
    show (match sgnOf w0 with | none => none | some c => match rowW rest with | none => none | some r => some (r, c)) = some (r, c)
    rw [hc, hr])
  clear qn q
  walk_at "st"
  refine Pm.w_slL (SqL.of f1) (fun p1 hp1 => ?_)
  rw [cut_drop (by decide) (by rw [List.length_map, List.length_cons]; show (1 : Int) ≤ _; omega)]
  have e1 : ((w0 :: rest).map V.str).drop (1 : Int).toNat = rest.map V.str := rfl
  rw [e1]
  have s3 := same_new hp1 (.lst (rest.map V.str))
  have f3 : (upd H1 p1 (.lst (rest.map V.str))) p1 = some (.lst (rest.map V.str)) := upd_same
  have f13 := s3 _ _ f1
  have s13 := s1.trans s3
  generalize upd H1 p1 (.lst (rest.map V.str)) = H3 at f3 f13 s13 ⊢
  walk_at "st"
  refine Pm.w_rdL (SqL.of f3) ?_
  refine Pm.w_lcLf (R := OpI) opi_mono (S := StI) sti_mono (SqL.of f3) (sti_of rest) pwE (fun _ => true) (by omega) (fun D v wd H4 Nx hD hm hs s4 put skip => ?_) (fun D H4 us hD s4 hd4 hus => ?_)
  · have hs : v = .str wd := hs
    subst hs
    walk_at "st"
    refine ⟨wd, rfl, wl wd (List.mem_cons_of_mem _ hm), fun hn H' s' => ?_, fun m i hmi t H' s' hn => ?_⟩
    · refine put _ _ rfl s' ?_
      rw [pwE_none.mpr hn]
      exact rfl
    · refine put _ _ rfl s' ?_
      have : pwE wd = some (encM m, i) := by unfold pwE; rw [hmi]; rfl
      rw [this]
      exact hn
  rw [List.filter_eq_self.mpr (fun _ _ => rfl)] at hus
  have s14 := s13.trans s4
  have f14 := s4 _ _ f13
  walk_at "st"
  refine Pm.w_ixL (SqL.of f14) (v := .str w0) (atI_nat (j := 0) rfl) ?_
  walk_at "st"
  refine ⟨w0, rfl, wl w0 List.mem_cons_self, fun hn => ?_, fun c hc => ?_⟩
  · walk_at "st"
    refine Pm.w_isN_non ?_
    walk_at "st"
    exact qn1 (.inl hn) _ s14
  walk_at "st"
  refine w_isN_int ?_
  walk_at "st"
  have dep : ∀ q, some q ∈ rest.map pwE → (encP q).dep ≤ 4 := fun q hq => by
    obtain ⟨wd, _, e⟩ := List.mem_map.mp hq
    unfold pwE at e
    cases h : pwOf wd with
    | none => rw [h] at e; cases e
    | some p =>
      rw [h] at e
      have e : some (encM p.1, p.2) = some q := e
      cases e
      exact Nat.le_trans (dep_P (dep_M p.1)) (by decide)
  refine w_inNone (SqL.of hd4) hus dep ?_
  by_cases no : none ∈ rest.map pwE
  · rw [decide_eq_true no]
    walk_at "st"
    obtain ⟨wd, hwd, e⟩ := List.mem_map.mp no
    exact qn1 (.inr (rowW_bad hwd e)) _ s14
  rw [decide_eq_false no]
  obtain ⟨lp, hlp⟩ := all_some no
  rw [hlp] at hus
  have hus : All2 (NdP H4) us lp := ops_all hus
  have lus := hus.length
  have lrl : rest.length = lp.length := by
    have := congrArg List.length hlp
    rw [List.length_map, List.length_map] at this
    exact this
  walk_at "st"
  refine Pm.w_lenL (SqL.of hd4) ?_
  walk_at "st"
  have mk : ∀ q ∈ lp, ∃ m, q.1 = encM m := fun q hq => by
    have : some q ∈ rest.map pwE := by rw [hlp]; exact List.mem_map.mpr ⟨q, hq, rfl⟩
    obtain ⟨wd, _, e⟩ := List.mem_map.mp this
    unfold pwE at e
    cases h : pwOf wd with
    | none => rw [h] at e; cases e
    | some p =>
      rw [h] at e
      have e : some (encM p.1, p.2) = some q := e
      cases e
      exact ⟨_, rfl⟩
  refine Pm.w_forR (fun i σ H' => ∃ (x4 : Option V), σ = [some (.str z), some (.ref l), some (.ref D), none, x4] ∧ H' = H4 ∧ rowW (rest.take (i + 1)) = some (lp.take (i + 1))) ⟨_, rfl, rfl, rowW_one hlp⟩ ?_ ?_
  · rintro i σ H5 hi ⟨x4, rfl, rfl, hw⟩
    have l1 : i < lp.length := by omega
    have l2 : i + 1 < lp.length := by omega
    have g1 : lp[i]? = some lp[i] := List.getElem?_eq_getElem l1
    have g2 : lp[i + 1]? = some lp[i + 1] := List.getElem?_eq_getElem l2
    have el : ∀ k (hk : k < lp.length), ∃ (u : Addr) (x : V), us[k]? = some (.ref u) ∧ H5 u = some (.tup [x, .int lp[k].2]) ∧ NdV H5 lp[k].1 x := fun k hk => by
      have hk2 : k < us.length := by omega
      obtain ⟨qq, h1, h2⟩ := hus.get (List.getElem?_eq_getElem hk2)
      rw [List.getElem?_eq_getElem hk] at h1
      cases h1
      obtain ⟨u, x, e, h3, h4⟩ := NdP.ex h2
      exact ⟨u, x, by rw [List.getElem?_eq_getElem hk2, e], h3, h4⟩
    obtain ⟨u1, y1, a1, b1, c1⟩ := el i l1
    obtain ⟨u2, y2, a2, b2, c2⟩ := el (i + 1) l2
    obtain ⟨m1, em1⟩ := mk lp[i] (List.getElem_mem l1)
    obtain ⟨m2, em2⟩ := mk lp[i + 1] (List.getElem_mem l2)
    have nx := rowW_next hlp g1 g2 hw
    walk_at "st"
    refine Pm.w_ixL (SqL.of hd4) (by rw [Int.zero_add]; exact atI_nat a1) ?_
    walk_at "st"
    refine Pm.w_ixT (SqT.of b1) rfl ?_
    walk_at "st"
    refine Pm.w_ixL (SqL.of hd4) (by rw [Int.zero_add]; exact atI_nat (j := i + 1) a2) ?_
    walk_at "st"
    refine Pm.w_ixT (SqT.of b2) rfl ?_
    walk_at "st"
    refine w_geD c1 c2 (by rw [em1, em2]; exact hom_M _ _) (by rw [em1]; exact (keyD_M _).2) ?_
    cases lt : ND.ltB lp[i].1 lp[i + 1].1 with
    | true =>
      rw [lt] at nx
      walk_at "st"
      exact ⟨_, rfl, rfl, nx⟩
    | false =>
      rw [lt] at nx
      walk_at "st"
      exact qn1 (.inr (rowW_none (i := i + 2) nx)) _ s14
  · rintro σ H5 ⟨x4, rfl, rfl, hw⟩
    rw [List.take_of_length_le (by omega), List.take_of_length_le (by omega)] at hw
    walk_at "st"
    refine Pm.w_tupOf (SqL.of hd4) (fun u hu => ?_)
    have s5 := same_new hu (.tup us)
    have n5 : NdV (upd H5 u (.tup us)) (encL lp) (.ref u) := row_of_tup upd_same (all2_keep (keeps s5) hus)
    have f15 := s5 _ _ f14
    generalize upd H5 u (.tup us) = H6 at s5 n5 f15 ⊢
    walk_at "st"
    refine Pm.w_ixL (SqL.of f15) (v := .str w0) (atI_nat (j := 0) rfl) ?_
    walk_at "st"
    refine ⟨w0, rfl, wl w0 List.mem_cons_self, fun hn => ?_, fun c' hc' => ?_⟩
    · rw [hc] at hn
      cases hn
    walk_at "st"
    refine Pm.w_newT (fun t hT => ?_)
    have s6 := same_new hT (.tup [.ref u, .int c'])
    exact q1 c' lp hc' hw t _ (s14.trans (s5.trans s6)) (NdP.of (q := (encL lp, c')) upd_same (ndv_mono _ _ _ _ (keeps s6) n5))
end
section
open TL
variable {P : Program} {w : World} {K : PySem.W.Frag} {mg : Str → Option Value} {base : Heap}
def tmE (z : Str) : Option (ND × Int) := (termOf z).map fun q => (encL q.1, q.2)
theorem tmE_none {z : Str} : tmE z = none ↔ termOf z = none := by
  unfold tmE
  cases termOf z <;> simp
theorem stepT_no {acc : LP} {z : Str} (h : tmE z = none) : stepT (some acc) z = none := by
  have h := tmE_none.mp h
  show (match termOf z with | none => none | some (r, c) => _) = none
  rw [h]
theorem stepT_yes {acc : LP} {z : Str} {q : ND × Int} (h : tmE z = some q) : stepT (some acc) z = if risen acc q.1 = true then some (acc ++ [q]) else none := by
  unfold tmE at h
  cases e : termOf z with
  | none => rw [e] at h; cases h
  | some p =>
    rw [e] at h
    have h : some (encL p.1, p.2) = some q := h
    cases h
    show (match termOf z with | none => none | some (r, c) => if risen acc (encL r) = true then some (acc ++ [(encL r, c)]) else none) = _
    rw [e]
theorem sumW_bad {ws : List Str} {z : Str} (hz : z ∈ ws) (h : tmE z = none) : sumW ws = none := by
  obtain ⟨i, hi, e⟩ := List.mem_iff_getElem.mp hz
  have hg : ws[i]? = some z := by rw [List.getElem?_eq_getElem hi, e]
  refine sumW_none (i := i + 1) ?_
  rw [sumW_snoc hg]
  cases sumW (ws.take i) with
  | none => rfl
  | some l => exact stepT_no h
/-- all words read, the rows so far rise, the next one too or not -/
theorem sumW_next {ws : List Str} {l : LP} (hl : ws.map tmE = l.map some) {k : Nat} {p q : ND × Int} (hp : l[k]? = some p) (hq : l[k + 1]? = some q) (h : sumW (ws.take (k + 1)) = some (l.take (k + 1))) : sumW (ws.take (k + 2)) = if ND.ltB p.1 q.1 = true then some (l.take (k + 2)) else none := by
  have hw : (ws.map tmE)[k + 1]? = some (some q) := by rw [hl, List.getElem?_map, hq]; rfl
  rw [List.getElem?_map] at hw
  cases e : ws[k + 1]? with
  | none => rw [e] at hw; cases hw
  | some z =>
    rw [e] at hw
    have hw : tmE z = some q := Option.some.inj hw
    rw [sumW_snoc e, h, stepT_yes hw, risen_at hp, take_snoc hq]
theorem sumW_one {ws : List Str} {l : LP} (hl : ws.map tmE = l.map some) : sumW (ws.take 1) = some (l.take 1) := by
  cases ws with
  | nil =>
    cases l with
    | nil => rfl
    | cons _ _ => cases hl
  | cons z r =>
    cases l with
    | nil => cases hl
    | cons q l =>
      injection hl with h1 h2
      show stepT (some []) z = some [q]
      rw [stepT_yes h1]
      rfl
def spLDue (K : PySem.W.Frag) : Sp := fun vs H Q _ => ∃ z : Str, vs = [.str z] ∧ z.length ≤ 990000 ∧ (sumOf z = none → ∀ H', Same H H' → Q .non H') ∧ (∀ s, sumOf z = some s → ∀ (t : Addr) (H' : Hp), Same H H' → SLs K H' t s → Q (.ref t) H')
theorem ok_law_due (T : Tx K mg) : FnOk P w K mg base CX0 5 T.a_law_due T.fd_law_due (["_law_line"]) (spLDue K) := by
  refine T.F_law_due.ok sc_law_due (fun vs H Q E h => ?_) (fun cdv A outer s H vs Q E hr h => ?_)
  · obtain ⟨z, rfl, _⟩ := h
    rfl
  obtain ⟨z, rfl, hz, qn, q⟩ := h
  refine ⟨_, (pss_cons (ps_if (pt_cmpR op_eq (pv 0) (pe_str) (nomark _)) (pss_one (ps_ret (pe_lst pa_nil))) pss_nil)
      (pss_cons (ps_setLc (i := 1) (own := [("_law_text_here", 2)]) (g := gName 2) (tt := tYes) rfl sc_law_due.nd rfl rfl (sw_true rfl rfl rfl (by decide +kernel)) (k_il (K := K) (pi_list (k_bm (K := K) (pe_bm PySem.F.plainAttrs_str PySem.F.slot_str_split PySem.F.type_str_split mt_splitS (pv 0) (pa_cons (pe_str) pa_nil))))) (blkOk_by (N := N_law_due) (sc := defScope s_law_due) (by decide +kernel)) (fun _ _ _ _ _ => (pg_name (i := 2) sc_law_due.nd rfl (.inl rfl))) (fun _ _ _ _ _ => pts_nil) (fun _ _ _ _ _ => (pe_call (ok_law_term T) (hr.mono (by decide)) (by rfl) T.g_law_term T.F_law_term.kp T.b_law_term .nil pass0 (pa_cons (pv 2) pa_nil))))
      (pss_cons (ps_if (pt_cmpR (op_inDK (K := K) hr.u65) (pe_non) (pv 1) (by rfl)) (pss_one (ps_ret (pe_non))) pss_nil)
      (pss_cons (ps_for PassesOwn.never rfl (pi_range1 (by rfl) T.m_range (pa_cons (pe_op op_sub (pe_callB (c_len (K := K)) (by rfl) T.m_len PySem.boot_len (pa_cons (pv 1) pa_nil)) (pe_int)) pa_nil)) (pg_name (i := 3) sc_law_due.nd rfl (.inl rfl)) (pss_one (ps_if (pt_cmpR (op_geN (K := K) hr.u40) (pe_ix (ix_tupK (K := K)) (pe_ix (ix_listK (K := K)) (pv 1) (pv 3) (fun _ _ => rfl)) (pe_int) (fun _ _ => rfl)) (pe_ix (ix_tupK (K := K)) (pe_ix (ix_listK (K := K)) (pv 1) (pe_op op_add (pv 3) (pe_int)) (fun _ _ => rfl)) (pe_int) (fun _ _ => rfl)) (nomark _)) (pss_one (ps_ret (pe_non))) pss_nil)))
      (pss_one (ps_ret (pv 1))))))), ?_⟩
  walk_at "st"
  unfold sumOf at qn q
  refine Pm.w_ite (fun e0 => ?_) (fun e0 => ?_)
  · rw [if_pos e0] at q
    walk_at "st"
    refine Pm.w_newL (fun l hl => ?_)
    exact q [] rfl l _ (same_new hl _) ⟨[], upd_same, trivial⟩
  rw [if_neg e0] at q
  rw [if_neg e0] at qn
  walk_at "st"
  refine ⟨rfl, ?_⟩
  walk_at "st"
  have hy : tl (" + " : Str) ≠ [] := by decide +kernel
  have hk : (" + " : Str).cps.all (· < 256) = true := by decide +kernel
  refine Pm.w_split (by decide +kernel) (by rw [sizeLine_eq]; omega) (fun l hl => ?_)
  have wl : ∀ x ∈ Txt.split z (" + " : Str), x.length ≤ z.length := fun x hx => split_piece' hy hk hx
  have wm : (Txt.split z (" + " : Str)).length ≤ z.length + 1 := split_many' hy hk
  generalize Txt.split z (" + " : Str) = ws at qn q wl wm ⊢
  have s1 := same_new hl (.lst (ws.map V.str))
  have f1 : (upd H l (.lst (ws.map V.str))) l = some (.lst (ws.map V.str)) := upd_same
  generalize upd H l (.lst (ws.map V.str)) = H3 at s1 f1 ⊢
  walk_at "st"
  refine Pm.w_rdL (SqL.of f1) ?_
  refine Pm.w_lcLf (R := OpI) opi_mono (S := StI) sti_mono (SqL.of f1) (sti_of ws) tmE (fun _ => true) (by omega) (fun D v wd H4 Nx hD hm hs s4 put skip => ?_) (fun D H4 us hD s4 hd4 hus => ?_)
  · have hs : v = .str wd := hs
    subst hs
    walk_at "st"
    refine ⟨wd, rfl, by have := wl wd hm; omega, fun hn H' s' => ?_, fun m i hmi t H' s' hn => ?_⟩
    · refine put _ _ rfl s' ?_
      rw [tmE_none.mpr hn]
      exact rfl
    · refine put _ _ rfl s' ?_
      have : tmE wd = some (encL m, i) := by unfold tmE; rw [hmi]; rfl
      rw [this]
      exact hn
  rw [List.filter_eq_self.mpr (fun _ _ => rfl)] at hus
  have s14 := s1.trans s4
  walk_at "st"
  have rowOk : ∀ q, some q ∈ ws.map tmE → ∃ r, q.1 = encL r ∧ RowC (z.length + 1) r := fun q hq => by
    obtain ⟨wd, hwd, e⟩ := List.mem_map.mp hq
    have := wl wd hwd
    unfold tmE at e
    cases h : termOf wd with
    | none => rw [h] at e; cases e
    | some p =>
      rw [h] at e
      have e : some (encL p.1, p.2) = some q := e
      cases e
      exact ⟨p.1, rfl, (termOf_good (z := wd) (r := p.1) (c := p.2) h).1.mono (by omega)⟩
  have dep : ∀ q, some q ∈ ws.map tmE → (encP q).dep ≤ 4 := fun q hq => by
    obtain ⟨r, er, hr⟩ := rowOk q hq
    exact dep_P (n := 3) (by rw [er]; exact hr.dep)
  refine w_inNone (SqL.of hd4) hus dep ?_
  by_cases no : none ∈ ws.map tmE
  · rw [decide_eq_true no]
    walk_at "st"
    obtain ⟨wd, hwd, e⟩ := List.mem_map.mp no
    exact qn (sumW_bad hwd e) _ s14
  rw [decide_eq_false no]
  obtain ⟨lp, hlp⟩ := all_some no
  rw [hlp] at hus
  have hus : All2 (NdP H4) us lp := ops_all hus
  have lus := hus.length
  have lrl : ws.length = lp.length := by
    have := congrArg List.length hlp
    rw [List.length_map, List.length_map] at this
    exact this
  walk_at "st"
  refine Pm.w_lenL (SqL.of hd4) ?_
  walk_at "st"
  have mk : ∀ q ∈ lp, ∃ r, q.1 = encL r ∧ RowC (z.length + 1) r := fun q hq => rowOk q (by rw [hlp]; exact List.mem_map.mpr ⟨q, hq, rfl⟩)
  refine Pm.w_forR (fun i σ H' => ∃ (x3 : Option V), σ = [some (.str z), some (.ref D), none, x3] ∧ H' = H4 ∧ sumW (ws.take (i + 1)) = some (lp.take (i + 1))) ⟨_, rfl, rfl, sumW_one hlp⟩ ?_ ?_
  · rintro i σ H5 hi ⟨x3, rfl, rfl, hw⟩
    have l1 : i < lp.length := by omega
    have l2 : i + 1 < lp.length := by omega
    have g1 : lp[i]? = some lp[i] := List.getElem?_eq_getElem l1
    have g2 : lp[i + 1]? = some lp[i + 1] := List.getElem?_eq_getElem l2
    have el : ∀ k (hk : k < lp.length), ∃ (u : Addr) (x : V), us[k]? = some (.ref u) ∧ H5 u = some (.tup [x, .int lp[k].2]) ∧ NdV H5 lp[k].1 x := fun k hk => by
      have hk2 : k < us.length := by omega
      obtain ⟨qq, h1, h2⟩ := hus.get (List.getElem?_eq_getElem hk2)
      rw [List.getElem?_eq_getElem hk] at h1
      cases h1
      obtain ⟨u, x, e, h3, h4⟩ := NdP.ex h2
      exact ⟨u, x, by rw [List.getElem?_eq_getElem hk2, e], h3, h4⟩
    obtain ⟨u1, y1, a1, b1, c1⟩ := el i l1
    obtain ⟨u2, y2, a2, b2, c2⟩ := el (i + 1) l2
    obtain ⟨m1, em1, r1⟩ := mk lp[i] (List.getElem_mem l1)
    obtain ⟨m2, em2, r2⟩ := mk lp[i + 1] (List.getElem_mem l2)
    have nx := sumW_next hlp g1 g2 hw
    walk_at "st"
    refine Pm.w_ixL (SqL.of hd4) (by rw [Int.zero_add]; exact atI_nat a1) ?_
    walk_at "st"
    refine Pm.w_ixT (SqT.of b1) rfl ?_
    walk_at "st"
    refine Pm.w_ixL (SqL.of hd4) (by rw [Int.zero_add]; exact atI_nat (j := i + 1) a2) ?_
    walk_at "st"
    refine Pm.w_ixT (SqT.of b2) rfl ?_
    walk_at "st"
    refine w_geD c1 c2 (by rw [em1, em2]; exact r1.hom r2) (by rw [em1]; exact r1.keyD.2) ?_
    cases lt : ND.ltB lp[i].1 lp[i + 1].1 with
    | true =>
      rw [lt] at nx
      walk_at "st"
      exact ⟨_, rfl, rfl, nx⟩
    | false =>
      rw [lt] at nx
      walk_at "st"
      exact qn (sumW_none (i := i + 2) nx) _ s14
  · rintro σ H5 ⟨x3, rfl, rfl, hw⟩
    rw [List.take_of_length_le (by omega), List.take_of_length_le (by omega)] at hw
    walk_at "st"
    exact q lp hw D _ s14 ⟨us, hd4, hus⟩
end
section
open TL
variable {P : Program} {w : World} {K : PySem.W.Frag} {mg : Str → Option Value} {base : Heap}
theorem l_a : ("1 0." : Str).length = 4 := by decide +kernel
theorem l_b : ("^1" : Str).length = 2 := by decide +kernel
theorem l_c : ("1 0.1^" : Str).length = 6 := by decide +kernel
theorem l_d : ("1 0.1^-" : Str).length = 7 := by decide +kernel
def spOdd : Sp := fun vs H Q _ => ∃ i : Int, vs = [.int i] ∧ ∀ (z : Str) (H' : Hp), Same H H' → z.length ≤ 10010 → Q (.str z) H'
theorem ok_law_odd (T : Tx K mg) : FnOk P w K mg base CX0 1 T.a_law_odd T.fd_law_odd (["_law_one"]) spOdd := by
  refine T.F_law_odd.ok sc_law_odd (fun vs H Q E h => ?_) (fun cdv A outer s H vs Q E hr h => ?_)
  · obtain ⟨i, rfl, _⟩ := h
    rfl
  obtain ⟨i, rfl, q⟩ := h
  refine ⟨_, (pss_cons (ps_set (i := 1) sc_law_odd.nd rfl (.inl rfl) (pe_lst (pa_cons (pe_str) (pa_cons (pe_str) (pa_cons (pe_str) (pa_cons (pe_str) (pa_cons (pe_str) (pa_cons (pe_str) (pa_cons (pe_str) (pa_cons (pe_str) (pa_cons (pe_str) pa_nil)))))))))))
      (pss_cons (ps_set (i := 1) sc_law_odd.nd rfl (.inl rfl) (pe_op op_cat (pv 1) (pe_lst (pa_cons (pe_str) (pa_cons (pe_str) (pa_cons (pe_str) (pa_cons (pe_str) (pa_cons (pe_str) (pa_cons (pe_str) (pa_cons (pe_str) (pa_cons (pe_str) (pa_cons (pe_str) pa_nil))))))))))))
      (pss_cons (ps_set (i := 1) sc_law_odd.nd rfl (.inl rfl) (pe_op op_cat (pv 1) (pe_lst (pa_cons (pe_str) (pa_cons (pe_str) (pa_cons (pe_str) (pa_cons (pe_str) (pa_cons (pe_str) (pa_cons (pe_op op_mulS (pe_str) (pe_int)) pa_nil)))))))))
      (pss_cons (ps_set (i := 1) sc_law_odd.nd rfl (.inl rfl) (pe_op op_cat (pv 1) (pe_lst (pa_cons (pe_op o_catS (pe_str) (pe_op op_mulS (pe_str) (pe_int))) (pa_cons (pe_op o_catS (pe_op o_catS (pe_str) (pe_op op_mulS (pe_str) (pe_int))) (pe_str)) (pa_cons (pe_op o_catS (pe_op o_catS (pe_str) (pe_op op_mulS (pe_str) (pe_int))) (pe_str)) (pa_cons (pe_op o_catS (pe_str) (pe_op op_mulS (pe_str) (pe_int))) pa_nil)))))))
      (pss_cons (ps_set (i := 1) sc_law_odd.nd rfl (.inl rfl) (pe_op op_cat (pv 1) (pe_lst (pa_cons (pe_op o_catS (pe_str) (pe_op op_mulS (pe_str) (pe_int))) (pa_cons (pe_str) (pa_cons (pe_str) (pa_cons (pe_str) pa_nil)))))))
      (pss_cons (ps_set (i := 1) sc_law_odd.nd rfl (.inl rfl) (pe_op op_cat (pv 1) (pe_lst (pa_cons (pe_str) (pa_cons (pe_str) (pa_cons (pe_op op_mulS (pe_str) (pe_int)) (pa_cons (pe_op o_catS (pe_op o_catS (pe_str) (pe_op op_mulS (pe_str) (pe_int))) (pe_str)) (pa_cons (pe_op o_catS (pe_str) (pe_op op_mulS (pe_str) (pe_int))) pa_nil))))))))
      (pss_one (ps_ret (pe_ix (ix_listK (K := K)) (pv 1) (pe_op op_mod (pv 0) (pe_callB (c_len (K := K)) (by rfl) T.m_len PySem.boot_len (pa_cons (pv 1) pa_nil))) (fun _ _ => rfl)))))))))), ?_⟩
  walk_at "st"
  refine w_newLS (B := 10010) (k := 9) ?_ rfl (fun p1 ys1 hp1 ha1 hl1 => ?_)
  · repeat (first | exact trivial | refine ⟨⟨_, rfl, by first | omega | decide +kernel | (simp only [len_app, l_dash, l_a, l_b, l_c, l_d]; omega)⟩, ?_⟩)
  have s1 := same_new hp1 (.lst ys1)
  have f1 : (upd H p1 (.lst ys1)) p1 = some (.lst ys1) := upd_same
  generalize upd H p1 (.lst ys1) = H1 at s1 f1 ⊢
  have sA := s1
  have hA := ha1
  have hL := hl1
  generalize ys1 = za at f1 hA hL
  walk_at "st"
  refine w_newLS (B := 10010) (k := 9) ?_ rfl (fun p2 ys2 hp2 ha2 hl2 => ?_)
  · repeat (first | exact trivial | refine ⟨⟨_, rfl, by first | omega | decide +kernel | (simp only [len_app, l_dash, l_a, l_b, l_c, l_d]; omega)⟩, ?_⟩)
  have s2 := same_new hp2 (.lst ys2)
  have f2 : (upd H1 p2 (.lst ys2)) p2 = some (.lst ys2) := upd_same
  generalize upd H1 p2 (.lst ys2) = G2 at s2 f2 ⊢
  refine Pm.w_cat (s2 _ _ f1) f2 (size_ok (by omega)) (fun r2 hr2 => ?_)
  have t2 := same_new hr2 (.lst (za ++ ys2))
  have g2 : (upd G2 r2 (.lst (za ++ ys2))) r2 = some (.lst (za ++ ys2)) := upd_same
  generalize upd G2 r2 (.lst (za ++ ys2)) = H2 at t2 g2 ⊢
  have sA := sA.trans (s2.trans t2)
  have hA := hA.app ha2
  have hL : (za ++ ys2).length = 18 := by rw [List.length_append, hL, hl2]
  generalize za ++ ys2 = za at g2 hA hL
  walk_at "st"
  refine Pm.w_mulA (B := 5000) ⟨by decide +kernel, by decide +kernel, by decide +kernel⟩ (by decide +kernel) (fun m1 hm1 => ?_)
  try walk_at "st"
  refine w_newLS (B := 10010) (k := 6) ?_ rfl (fun p3 ys3 hp3 ha3 hl3 => ?_)
  · repeat (first | exact trivial | refine ⟨⟨_, rfl, by first | omega | decide +kernel | (simp only [len_app, l_dash, l_a, l_b, l_c, l_d]; omega)⟩, ?_⟩)
  have s3 := same_new hp3 (.lst ys3)
  have f3 : (upd H2 p3 (.lst ys3)) p3 = some (.lst ys3) := upd_same
  generalize upd H2 p3 (.lst ys3) = G3 at s3 f3 ⊢
  refine Pm.w_cat (s3 _ _ g2) f3 (size_ok (by omega)) (fun r3 hr3 => ?_)
  have t3 := same_new hr3 (.lst (za ++ ys3))
  have g3 : (upd G3 r3 (.lst (za ++ ys3))) r3 = some (.lst (za ++ ys3)) := upd_same
  generalize upd G3 r3 (.lst (za ++ ys3)) = H3 at t3 g3 ⊢
  have sA := sA.trans (s3.trans t3)
  have hA := hA.app ha3
  have hL : (za ++ ys3).length = 24 := by rw [List.length_append, hL, hl3]
  generalize za ++ ys3 = za at g3 hA hL
  walk_at "st"
  refine Pm.w_mulA (B := 5000) ⟨by decide +kernel, by decide +kernel, by decide +kernel⟩ (by decide +kernel) (fun m2 hm2 => ?_)
  try walk_at "st"
  refine Pm.w_catS (size_ok (by simp only [len_app, l_dash, l_a, l_b, l_c, l_d]; omega)) ?_
  try walk_at "st"
  refine Pm.w_mulA (B := 5000) ⟨by decide +kernel, by decide +kernel, by decide +kernel⟩ (by decide +kernel) (fun m3 hm3 => ?_)
  try walk_at "st"
  refine Pm.w_catS (size_ok (by simp only [len_app, l_dash, l_a, l_b, l_c, l_d]; omega)) ?_
  try walk_at "st"
  refine Pm.w_catS (size_ok (by simp only [len_app, l_dash, l_a, l_b, l_c, l_d]; omega)) ?_
  try walk_at "st"
  refine Pm.w_mulA (B := 5000) ⟨by decide +kernel, by decide +kernel, by decide +kernel⟩ (by decide +kernel) (fun m4 hm4 => ?_)
  try walk_at "st"
  refine Pm.w_catS (size_ok (by simp only [len_app, l_dash, l_a, l_b, l_c, l_d]; omega)) ?_
  try walk_at "st"
  refine Pm.w_catS (size_ok (by simp only [len_app, l_dash, l_a, l_b, l_c, l_d]; omega)) ?_
  try walk_at "st"
  refine Pm.w_mulA (B := 5000) ⟨by decide +kernel, by decide +kernel, by decide +kernel⟩ (by decide +kernel) (fun m5 hm5 => ?_)
  try walk_at "st"
  refine Pm.w_catS (size_ok (by simp only [len_app, l_dash, l_a, l_b, l_c, l_d]; omega)) ?_
  try walk_at "st"
  refine w_newLS (B := 10010) (k := 4) ?_ rfl (fun p4 ys4 hp4 ha4 hl4 => ?_)
  · repeat (first | exact trivial | refine ⟨⟨_, rfl, by first | omega | decide +kernel | (simp only [len_app, l_dash, l_a, l_b, l_c, l_d]; omega)⟩, ?_⟩)
  have s4 := same_new hp4 (.lst ys4)
  have f4 : (upd H3 p4 (.lst ys4)) p4 = some (.lst ys4) := upd_same
  generalize upd H3 p4 (.lst ys4) = G4 at s4 f4 ⊢
  refine Pm.w_cat (s4 _ _ g3) f4 (size_ok (by omega)) (fun r4 hr4 => ?_)
  have t4 := same_new hr4 (.lst (za ++ ys4))
  have g4 : (upd G4 r4 (.lst (za ++ ys4))) r4 = some (.lst (za ++ ys4)) := upd_same
  generalize upd G4 r4 (.lst (za ++ ys4)) = H4 at t4 g4 ⊢
  have sA := sA.trans (s4.trans t4)
  have hA := hA.app ha4
  have hL : (za ++ ys4).length = 28 := by rw [List.length_append, hL, hl4]
  generalize za ++ ys4 = za at g4 hA hL
  walk_at "st"
  refine Pm.w_mulA (B := 5000) ⟨by decide +kernel, by decide +kernel, by decide +kernel⟩ (by decide +kernel) (fun m6 hm6 => ?_)
  try walk_at "st"
  refine Pm.w_catS (size_ok (by simp only [len_app, l_dash, l_a, l_b, l_c, l_d]; omega)) ?_
  try walk_at "st"
  refine w_newLS (B := 10010) (k := 4) ?_ rfl (fun p5 ys5 hp5 ha5 hl5 => ?_)
  · repeat (first | exact trivial | refine ⟨⟨_, rfl, by first | omega | decide +kernel | (simp only [len_app, l_dash, l_a, l_b, l_c, l_d]; omega)⟩, ?_⟩)
  have s5 := same_new hp5 (.lst ys5)
  have f5 : (upd H4 p5 (.lst ys5)) p5 = some (.lst ys5) := upd_same
  generalize upd H4 p5 (.lst ys5) = G5 at s5 f5 ⊢
  refine Pm.w_cat (s5 _ _ g4) f5 (size_ok (by omega)) (fun r5 hr5 => ?_)
  have t5 := same_new hr5 (.lst (za ++ ys5))
  have g5 : (upd G5 r5 (.lst (za ++ ys5))) r5 = some (.lst (za ++ ys5)) := upd_same
  generalize upd G5 r5 (.lst (za ++ ys5)) = H5 at t5 g5 ⊢
  have sA := sA.trans (s5.trans t5)
  have hA := hA.app ha5
  have hL : (za ++ ys5).length = 32 := by rw [List.length_append, hL, hl5]
  generalize za ++ ys5 = za at g5 hA hL
  walk_at "st"
  refine Pm.w_mulA (B := 5000) ⟨by decide +kernel, by decide +kernel, by decide +kernel⟩ (by decide +kernel) (fun m7 hm7 => ?_)
  try walk_at "st"
  refine Pm.w_mulA (B := 5000) ⟨by decide +kernel, by decide +kernel, by decide +kernel⟩ (by decide +kernel) (fun m8 hm8 => ?_)
  try walk_at "st"
  refine Pm.w_catS (size_ok (by simp only [len_app, l_dash, l_a, l_b, l_c, l_d]; omega)) ?_
  try walk_at "st"
  refine Pm.w_catS (size_ok (by simp only [len_app, l_dash, l_a, l_b, l_c, l_d]; omega)) ?_
  try walk_at "st"
  refine Pm.w_mulA (B := 5000) ⟨by decide +kernel, by decide +kernel, by decide +kernel⟩ (by decide +kernel) (fun m9 hm9 => ?_)
  try walk_at "st"
  refine Pm.w_catS (size_ok (by simp only [len_app, l_dash, l_a, l_b, l_c, l_d]; omega)) ?_
  try walk_at "st"
  refine w_newLS (B := 10010) (k := 5) ?_ rfl (fun p6 ys6 hp6 ha6 hl6 => ?_)
  · repeat (first | exact trivial | refine ⟨⟨_, rfl, by first | omega | decide +kernel | (simp only [len_app, l_dash, l_a, l_b, l_c, l_d]; omega)⟩, ?_⟩)
  have s6 := same_new hp6 (.lst ys6)
  have f6 : (upd H5 p6 (.lst ys6)) p6 = some (.lst ys6) := upd_same
  generalize upd H5 p6 (.lst ys6) = G6 at s6 f6 ⊢
  refine Pm.w_cat (s6 _ _ g5) f6 (size_ok (by omega)) (fun r6 hr6 => ?_)
  have t6 := same_new hr6 (.lst (za ++ ys6))
  have g6 : (upd G6 r6 (.lst (za ++ ys6))) r6 = some (.lst (za ++ ys6)) := upd_same
  generalize upd G6 r6 (.lst (za ++ ys6)) = H6 at t6 g6 ⊢
  have sA := sA.trans (s6.trans t6)
  have hA := hA.app ha6
  have hL : (za ++ ys6).length = 37 := by rw [List.length_append, hL, hl6]
  generalize za ++ ys6 = za at g6 hA hL
  walk_at "st"
  refine Pm.w_lenL (SqL.of g6) ?_
  rw [hL]
  walk_at "st"
  obtain ⟨j, ej, hj⟩ : ∃ j : Nat, i % ((37 : Nat) : Int) = (j : Int) ∧ j < 37 := by
    have h1 := Int.emod_nonneg i (show ((37 : Nat) : Int) ≠ 0 by decide)
    have h2 := Int.emod_lt_of_pos i (show (0 : Int) < ((37 : Nat) : Int) by decide)
    exact ⟨(i % ((37 : Nat) : Int)).toNat, by omega, by omega⟩
  rw [ej]
  obtain ⟨z, hz, lz⟩ := hA.get (i := j) (by omega)
  refine Pm.w_ixL (SqL.of g6) (atI_nat hz) ?_
  exact q z _ sA lz
end
section
open TL
variable {P : Program} {w : World} {K : PySem.W.Frag} {mg : Str → Option Value} {base : Heap}
theorem cut_two {z : Str} {a b : Int} (h0 : 0 ≤ a) (h : a ≤ b) : (cutS z none (some a)).length + (cutS z (some b) none).length ≤ z.length := by
  have e1 : ∀ d, HT.sIx z.length d (some a) = min a.toNat z.length := fun d => by
    show (if a < 0 then _ else _) = _
    rw [if_neg (by omega)]
  have e2 : ∀ d, HT.sIx z.length d (some b) = min b.toNat z.length := fun d => by
    show (if b < 0 then _ else _) = _
    rw [if_neg (by omega)]
  have h1 : (cutS z none (some a)).length ≤ min a.toNat z.length := by
    rw [len_tl, tl_cut, List.length_take, List.length_drop, e1]
    omega
  have h2 : (cutS z (some b) none).length ≤ z.length - min b.toNat z.length := by
    rw [len_tl (cutS _ _ _), tl_cut, List.length_take, List.length_drop, e2, ← len_tl]
    omega
  omega
def spSpoilt (K : PySem.W.Frag) : Sp := fun vs H Q _ => ∃ (z : Str) (r : Addr) (row : List Int), vs = [.str z, .ref r] ∧ z.length ≤ 2000000 ∧ SqL K H r (row.map V.int) ∧ 5 ≤ row.length ∧ ∀ y : Str, y.length ≤ z.length + 1 → Q (.str y) H
theorem ok_law_spoilt (T : Tx K mg) : FnOk P w K mg base CX0 1 T.a_law_spoilt T.fd_law_spoilt (["_law_line", "_law_row"]) (spSpoilt K) := by
  refine T.F_law_spoilt.ok sc_law_spoilt (fun vs H Q E h => ?_) (fun cdv A outer s H vs Q E hr h => ?_)
  · obtain ⟨z, r, row, rfl, _⟩ := h
    rfl
  obtain ⟨z, r, row, rfl, hz, hR, rl, q⟩ := h
  have sz : z.length ≤ sizeLine := size_ok (by omega)
  have cl := fun lo hi => len_cut z lo hi
  refine ⟨_, (pss_cons (ps_set (i := 2) sc_law_spoilt.nd rfl (.inl rfl) (pe_op op_mod (pe_ix (ix_listK (K := K)) (pv 1) (pe_int) (fun _ _ => rfl)) (pe_op op_add (pe_callB c_lenS (by rfl) T.m_len PySem.boot_len (pa_cons (pv 0) pa_nil)) (pe_int))))
      (pss_cons (ps_set (i := 3) sc_law_spoilt.nd rfl (.inl rfl) (pe_ix ix_str (pe_str) (pe_op op_mod (pe_ix (ix_listK (K := K)) (pv 1) (pe_int) (fun _ _ => rfl)) (pe_int)) (fun _ _ => rfl)))
      (pss_cons (ps_if (pt_cmpR op_eq (pe_op op_mod (pe_op op_fdiv (pe_ix (ix_listK (K := K)) (pv 1) (pe_int) (fun _ _ => rfl)) (pe_int)) (pe_int)) (pe_int) (nomark _)) (pss_one (ps_ret (pe_op o_catS (pe_op o_catS (pe_slice sl_str (pv 0) po_none (po_some (pv 2))) (pv 3)) (pe_slice sl_str (pv 0) (po_some (pv 2)) po_none)))) pss_nil)
      (pss_cons (ps_if (pt_cmpR op_eq (pe_op op_mod (pe_op op_fdiv (pe_ix (ix_listK (K := K)) (pv 1) (pe_int) (fun _ _ => rfl)) (pe_int)) (pe_int)) (pe_int) (nomark _)) (pss_one (ps_ret (pe_op o_catS (pe_op o_catS (pe_slice sl_str (pv 0) po_none (po_some (pv 2))) (pv 3)) (pe_slice sl_str (pv 0) (po_some (pe_op op_add (pv 2) (pe_int))) po_none)))) pss_nil)
      (pss_one (ps_ret (pe_op o_catS (pe_slice sl_str (pv 0) po_none (po_some (pv 2))) (pe_slice sl_str (pv 0) (po_some (pe_op op_add (pv 2) (pe_int))) po_none)))))))), ?_⟩
  walk_at "st"
  refine Pm.w_ixL hR (atI_int (by omega) (by omega)) ?_
  walk_at "st"
  refine Pm.w_lenS sz ?_
  walk_at "st"
  have at00 : 0 ≤ row.getD (3 : Int).toNat 0 % ((z.length : Int) + 1) := Int.emod_nonneg _ (by omega)
  generalize row.getD (3 : Int).toNat 0 % ((z.length : Int) + 1) = at0 at at00
  have ct := cut_two (z := z) at00 (Int.le_refl at0)
  have ct1 := cut_two (z := z) at00 (show at0 ≤ at0 + 1 by omega)
  refine Pm.w_ixL hR (atI_int (by omega) (by omega)) ?_
  walk_at "st"
  obtain ⟨j, ej, hj⟩ : ∃ j : Nat, row.getD (2 : Int).toNat 0 % 15 = (j : Int) ∧ j < 15 := by
    have h1 := Int.emod_nonneg (row.getD (2 : Int).toNat 0) (show (15 : Int) ≠ 0 by decide)
    have h2 := Int.emod_lt_of_pos (row.getD (2 : Int).toNat 0) (show (0 : Int) < 15 by decide)
    exact ⟨(row.getD (2 : Int).toNat 0 % 15).toNat, by omega, by omega⟩
  rw [ej]
  have signs : ∀ j : Nat, j < 15 → ∃ c, ("012349 -+.^\na/_" : Str).cps.toList[j]? = some c := fun j hj => ⟨_, List.getElem?_eq_getElem (show j < ("012349 -+.^\na/_" : Str).cps.toList.length by
    rw [show ("012349 -+.^\na/_" : Str).cps.toList.length = 15 by decide +kernel]; exact hj)⟩
  obtain ⟨c, hc⟩ := signs j hj
  refine Pm.w_ixS (size_ok (by decide +kernel)) (atI_nat hc) ?_
  walk_at "st"
  refine Pm.w_ixL hR (atI_int (by omega) (by omega)) ?_
  walk_at "st"
  refine Pm.w_ite (fun e1 => ?_) (fun e1 => ?_)
  · walk_at "st"
    refine Pm.w_slS sz ?_
    walk_at "st"
    have c1 := cl none (some at0)
    refine Pm.w_catS (size_ok (by rw [len_one]; omega)) ?_
    walk_at "st"
    refine Pm.w_slS sz ?_
    have c2 := cl (some at0) none
    refine Pm.w_catS (size_ok (by rw [len_app, len_one]; omega)) ?_
    exact q _ (by rw [len_app, len_app, len_one]; omega)
  walk_at "st"
  refine Pm.w_ixL hR (atI_int (by omega) (by omega)) ?_
  walk_at "st"
  refine Pm.w_ite (fun e2 => ?_) (fun e2 => ?_)
  · walk_at "st"
    refine Pm.w_slS sz ?_
    walk_at "st"
    have c1 := cl none (some at0)
    refine Pm.w_catS (size_ok (by rw [len_one]; omega)) ?_
    walk_at "st"
    refine Pm.w_slS sz ?_
    have c2 := cl (some (at0 + 1)) none
    refine Pm.w_catS (size_ok (by rw [len_app, len_one]; omega)) ?_
    exact q _ (by rw [len_app, len_app, len_one]; omega)
  · walk_at "st"
    refine Pm.w_slS sz ?_
    walk_at "st"
    have c1 := cl none (some at0)
    refine Pm.w_slS sz ?_
    have c2 := cl (some (at0 + 1)) none
    refine Pm.w_catS (size_ok (by omega)) ?_
    exact q _ (by rw [len_app]; omega)
end
section
theorem leaves_len {G : Geo} : ∀ (f : Nat) (p q : List Int), q ∈ G.leaves f p → q.length + 1 ≤ p.length + f
  | 0, p, q, h => by cases h
  | f + 1, p, q, h => by
    by_cases c : G.fin p = true
    · rw [Geo.leaves_fin c] at h
      rw [List.mem_singleton.mp h]
      omega
    · rw [Geo.leaves_go (by simpa using c)] at h
      obtain ⟨y, _, _, h⟩ := Geo.mem_kids.mp h
      have := leaves_len f _ _ h
      rw [List.length_cons] at this
      omega
/-- a way is short -/
theorem waysL_short {G : Geo} {n : Nat} (hn : G.n = n) (h3 : 3 ≤ n) {p : List Int} (h : p ∈ wsort (waysL G n)) : p.length ≤ 2 * (n - 3) + 2 := by
  have h := (wsort_perm _).mem_iff.mp h
  unfold waysL at h
  obtain ⟨q, hq, rfl⟩ := List.mem_map.mp h
  rw [List.length_reverse]
  obtain ⟨r, hs, hr⟩ := G.start
  have l := hs.len3 (by omega)
  have e := Geo.stable_add (Geo.startS hs hr) (f := 2 * r.length + 2) (by omega) (2 * n - (2 * r.length + 2))
  rw [show 2 * r.length + 2 + (2 * n - (2 * r.length + 2)) = 2 * n by omega] at e
  rw [e] at hq
  have := leaves_len _ _ _ hq
  rw [List.length_singleton] at this
  omega
theorem waysL_3 {G : Geo} {n : Nat} (hn : G.n = n) (h3 : 3 ≤ n) : (wsort (waysL G n)).length ≤ 3 ^ (n - 3) := by
  rw [(wsort_perm _).length_eq]
  unfold waysL
  rw [List.length_map]
  obtain ⟨r, hs, hr⟩ := G.start
  have l := hs.len3 (by omega)
  exact Nat.le_trans (Geo.lv_bound (Geo.startS hs hr) _) (Nat.pow_le_pow_right (by decide) (by omega))
end
section
theorem sumW_good {N : Nat} : ∀ (ws : List Str) {l s : LP}, (∀ x ∈ ws, x.length + 1 ≤ N) → SumC N l → ws.foldl stepT (some l) = some s → SumC N s
  | [], l, s, _, h, e => by
    cases Option.some.inj e
    exact h
  | z :: ws, l, s, hN, h, e => by
    have e : ws.foldl stepT (stepT (some l) z) = some s := e
    cases tm : termOf z with
    | none =>
      have : stepT (some l) z = none := by
        show (match termOf z with | none => none | some (r, c) => _) = none
        rw [tm]
      rw [this, foldT_none] at e
      cases e
    | some q =>
      obtain ⟨r, c⟩ := q
      have g := termOf_good tm
      have st : stepT (some l) z = if risen l (encL r) = true then some (l ++ [(encL r, c)]) else none := by
        show (match termOf z with | none => none | some (r, c) => if risen l (encL r) = true then some (l ++ [(encL r, c)]) else none) = _
        rw [tm]
      by_cases rs : risen l (encL r) = true
      · rw [st, if_pos rs] at e
        have k : SumC N (l ++ [(encL r, c)]) := ⟨fun q hq => by
          rcases List.mem_append.mp hq with a | a
          · exact h.row q a
          · rw [List.mem_singleton.mp a]; exact ⟨r, rfl, g.1.mono (hN z List.mem_cons_self)⟩, ris_snoc h.ris rs, fun q hq => by
          rcases List.mem_append.mp hq with a | a
          · exact h.nz q a
          · rw [List.mem_singleton.mp a]; exact g.2⟩
        exact sumW_good ws (fun x hx => hN x (List.mem_cons_of_mem _ hx)) k e
      · rw [st, if_neg rs, foldT_none] at e
        cases e
/-- what is read is a sum in its one form -/
theorem sumOf_good {z : Str} {s : LP} (h : sumOf z = some s) : SumC (z.length + 1) s := by
  have nil : SumC (z.length + 1) [] := ⟨fun q h => (nomatch h), List.Pairwise.nil, fun q h => (nomatch h)⟩
  unfold sumOf at h
  by_cases e : z = ("0" : Str)
  · rw [if_pos e] at h
    cases Option.some.inj h
    exact nil
  · rw [if_neg e] at h
    exact sumW_good _ (fun x hx => by
      have := split_piece' (x := z) (y := (" + " : Str)) (by decide +kernel) (by decide +kernel) hx
      omega) nil h
theorem sumW_len : ∀ (ws : List Str) {l s : LP}, ws.foldl stepT (some l) = some s → s.length ≤ l.length + ws.length
  | [], l, s, e => by
    cases Option.some.inj e
    omega
  | z :: ws, l, s, e => by
    have e : ws.foldl stepT (stepT (some l) z) = some s := e
    cases st : stepT (some l) z with
    | none => rw [st, foldT_none] at e; cases e
    | some l' =>
      rw [st] at e
      have := sumW_len ws e
      have e2 : (match termOf z with | none => none | some (r, c) => if risen l (encL r) = true then some (l ++ [(encL r, c)]) else none) = some l' := st
      have : l'.length = l.length + 1 := by
        cases tm : termOf z with
        | none => rw [tm] at e2; cases e2
        | some q =>
          rw [tm] at e2
          have e2 : (if risen l (encL q.1) = true then some (l ++ [(encL q.1, q.2)]) else none) = some l' := e2
          by_cases rs : risen l (encL q.1) = true
          · rw [if_pos rs] at e2
            rw [← Option.some.inj e2, List.length_append, List.length_singleton]
          · rw [if_neg rs] at e2; cases e2
      rw [List.length_cons]
      omega
theorem sumOf_len {z : Str} {s : LP} (h : sumOf z = some s) : s.length ≤ z.length + 1 := by
  unfold sumOf at h
  by_cases e : z = ("0" : Str)
  · rw [if_pos e] at h
    cases Option.some.inj h
    exact Nat.zero_le _
  · rw [if_neg e] at h
    have h1 := sumW_len _ h
    have h2 := split_many' (x := z) (y := (" + " : Str)) (by decide +kernel) (by decide +kernel)
    rw [List.length_nil] at h1
    omega
end
section
theorem tot_at : ∀ {l : LP}, (l.map (·.1)).Nodup → ∀ q ∈ l, tot l q.1 = q.2
  | [], _, q, h => absurd h List.not_mem_nil
  | x :: l, nd, q, h => by
    rw [List.map_cons] at nd
    obtain ⟨n1, n2⟩ := List.nodup_cons.mp nd
    rw [tot_cons]
    rcases List.mem_cons.mp h with rfl | h
    · rw [if_pos rfl, tot_none n1, Int.add_zero]
    · have ne : x.1 ≠ q.1 := fun e => n1 (by rw [e]; exact List.mem_map.mpr ⟨q, h, rfl⟩)
      rw [if_neg ne, Int.zero_add]
      exact tot_at n2 q h
/-- keys once each, nothing of nought: the one form is the same row, sorted -/
theorem canon_perm {l : LP} (nd : (l.map (·.1)).Nodup) (nz : ∀ q ∈ l, q.2 ≠ 0) : (canon l).Perm l := by
  have ndl : ∀ {m : LP}, (m.map (·.1)).Nodup → m.Nodup := fun {m} h => by
    have h : m.Pairwise fun p q => p.1 ≠ q.1 := List.pairwise_map.mp h
    exact h.imp fun ne e => ne (by rw [e])
  refine (List.perm_ext_iff_of_nodup (ndl (rise_nodup (canon_rise l))) (ndl nd)).mpr fun q => ?_
  constructor
  · intro h
    obtain ⟨h1, h2, h3⟩ := canon_mem h
    obtain ⟨q', hq', e⟩ := List.mem_map.mp h1
    have := tot_at nd q' hq'
    have e2 : q = q' := Prod.ext e.symm (by rw [h2, ← e, this])
    rw [e2]
    exact hq'
  · intro h
    unfold canon
    refine List.mem_map.mpr ⟨q.1, List.mem_filter.mpr ⟨mem_sort.mpr (mem_keysOf.mpr (List.mem_map.mpr ⟨q, h, rfl⟩)), decide_eq_true (by rw [tot_at nd q h]; exact nz q h)⟩, Prod.ext rfl (tot_at nd q h)⟩
theorem rl_nodup {G : Geo} {p : List Int} (F : Geo.Fwd G p) : ((rlOf p).map (·.1)).Nodup := by
  unfold rlOf
  rw [List.map_map]
  show List.Pairwise (· ≠ ·) _
  rw [List.pairwise_map, List.pairwise_iff_getElem]
  intro i j hi hj ij e
  rw [List.getElem_range, List.getElem_range] at e
  rw [List.length_range] at hj
  exact Fwd_ties F ij (by omega) (encM_inj e)
theorem rl_nz (p : List Int) : ∀ q ∈ rlOf p, q.2 ≠ 0 := fun q hq => by
  obtain ⟨k, _, rfl⟩ := List.mem_map.mp hq
  show 1 - 2 * ((k : Int) % 2) ≠ 0
  omega
/-- the powers of a way, tie by tie -/
theorem rl_pw (s t : Int) (st : s ≠ t) (p : List Int) : ∀ k, k < p.length → tot ((List.range k).map fun k => (encM (tieOf (p.getD k 0) (p.getD (k + 1) 0)), 1 - 2 * ((k : Int) % 2))) (encM (tieOf s t)) = Geo.pw (p.take (k + 1)).reverse s t
  | 0, h => by
    have e : (p.take (0 + 1)).reverse = [p.getD 0 0] := by
      cases p with
      | nil => exact absurd h (by simp)
      | cons x r => rfl
    rw [e]
    rfl
  | k + 1, h => by
    have ih := rl_pw s t st p k (by omega)
    rw [rl_snoc, tot_snoc, ih, Geo.take_rev h]
    have hd := Geo.take_hd (p := p) (k := k) (by omega)
    have l : (p.take (k + 1)).reverse.length = k + 1 := by rw [List.length_reverse, List.length_take]; omega
    by_cases c : tieOf (p.getD k 0) (p.getD (k + 1) 0) = tieOf s t
    · rw [if_pos (by rw [c])]
      have sm := tie_same.mp c
      unfold Geo.SameT at sm
      simp only at sm
      rw [Geo.pw_hit hd (by rcases sm with e | e; exact .inr ⟨e.2, e.1⟩; exact .inl ⟨e.2, e.1⟩), l]
      by_cases d : (k + 1) % 2 = 1
      · rw [if_pos d]; omega
      · rw [if_neg d]; omega
    · rw [if_neg (fun e => c (encM_inj e)), Geo.pw_skip hd (fun z => c (tie_same.mpr ?_)), Int.add_zero]
      unfold Geo.SameT
      simp only
      rcases z with z | z
      · exact .inr ⟨z.2, z.1⟩
      · exact .inl ⟨z.2, z.1⟩
theorem pw_self (s : Int) {G : Geo} {q : List Int} (h : Geo.Pth G q) : Geo.pw q s s = 0 := by
  have key : ∀ q : List Int, (∀ e ∈ Geo.stepsOf q, e.1 ≠ e.2) → Geo.pw q s s = 0 := by
    intro q
    induction q with
    | nil => intro _; rfl
    | cons y r ih =>
      cases r with
      | nil => intro _; rfl
      | cons x r =>
        intro h
        have h1 := h (x, y) List.mem_cons_self
        simp only at h1
        have h2 := ih fun e he => h e (List.mem_cons_of_mem _ he)
        show (if (y = s ∧ x = s) ∨ (y = s ∧ x = s) then _ else 0) + Geo.pw (x :: r) s s = 0
        rw [if_neg (by omega), h2]
        rfl
  refine key q fun e he eq => ?_
  have := (Geo.pth_iff.mp h).tie e he
  rw [eq, G.irr] at this
  exact Bool.noConfusion this
/-- unlike ways have unlike rows -/
theorem tl_nodup {G : Geo} {n : Nat} (hn : G.n = n) : ((tlL (wsort (waysL G n))).map (·.1)).Nodup := by
  unfold tlL
  rw [List.map_map]
  have pm : (wsort (waysL G n)).Perm (waysL G n) := wsort_perm _
  refine (pm.map _).nodup_iff.mpr ?_
  unfold waysL
  rw [List.map_map]
  show List.Pairwise (· ≠ ·) _
  rw [List.pairwise_map]
  obtain ⟨r, hs, hr⟩ := G.start
  refine ((Geo.apart (2 * n)).2 _ _ _ _ _ (Geo.startS hs hr)).imp_of_mem fun {q q'} hq hq' h e => ?_
  obtain ⟨s, t, h⟩ := h
  obtain ⟨w1, w2⟩ := (Geo.mem_ways (by rw [hn]; omega)).mp hq
  obtain ⟨w1', w2'⟩ := (Geo.mem_ways (by rw [hn]; omega)).mp hq'
  by_cases st : s = t
  · rw [← st, pw_self s w1, pw_self s w1'] at h
    exact h rfl
  · have F := Geo.fwd_of (G := G) (p := q.reverse) (by rw [List.reverse_reverse]; exact w1) (by rw [List.reverse_reverse]; exact w2)
    have F' := Geo.fwd_of (G := G) (p := q'.reverse) (by rw [List.reverse_reverse]; exact w1') (by rw [List.reverse_reverse]; exact w2')
    have e : canon (rlOf q.reverse) = canon (rlOf q'.reverse) := encL_inj e
    have t1 := tot_perm (canon_perm (rl_nodup F) (rl_nz _)) (encM (tieOf s t))
    have t2 := tot_perm (canon_perm (rl_nodup F') (rl_nz _)) (encM (tieOf s t))
    rw [e] at t1
    have p1 := rl_pw s t st q.reverse (q.reverse.length - 1) (by have := F.len2; omega)
    have p2 := rl_pw s t st q'.reverse (q'.reverse.length - 1) (by have := F'.len2; omega)
    rw [show q.reverse.length - 1 + 1 = q.reverse.length by have := F.len2; omega, List.take_length, List.reverse_reverse] at p1
    rw [show q'.reverse.length - 1 + 1 = q'.reverse.length by have := F'.len2; omega, List.take_length, List.reverse_reverse] at p2
    exact h (p1.symm.trans (t1.symm.trans (t2.trans p2)))
theorem tl_perm {G : Geo} {n : Nat} (hn : G.n = n) : (canon (tlL (wsort (waysL G n)))).Perm (tlL (wsort (waysL G n))) := canon_perm (tl_nodup hn) fun q hq => by
  obtain ⟨p, _, rfl⟩ := List.mem_map.mp hq
  exact (by decide : (1 : Int) ≠ 0)
end
section
/-- the told sum is short in its one form: keys within the posts, powers 1 and -1 -/
theorem told_rows {n : Nat} {cut : List IP} {t : Tr} (C : Cutting n cut t) {a b : Int} (ha : 0 ≤ a ∧ a < n) (hb : 0 ≤ b ∧ b < n) (ne : a ≠ b) (n3 : 3 ≤ n) : ∀ q ∈ canon (tlL (wsort (waysL (geo C ha hb ne) n))), q.2 = 1 ∧ ∃ r, q.1 = encL r ∧ r.length ≤ 2 * (n - 3) + 1 ∧ ∀ x ∈ r, ∃ m : IP, x.1 = encM m ∧ 0 ≤ m.1 ∧ m.1 < m.2 ∧ m.2 < n ∧ (x.2 = 1 ∨ x.2 = -1) := fun q hq => by
  have gn : (geo C ha hb ne).n = (n : Int) := rfl
  obtain ⟨p, hp, rfl⟩ := List.mem_map.mp ((tl_perm gn).mem_iff.mp hq)
  have F := waysL_fwd gn hp
  have sh := waysL_short gn n3 hp
  refine ⟨rfl, canon (rlOf p), rfl, ?_, fun x hx => ?_⟩
  · have := canon_len (rlOf p)
    rw [rl_len] at this
    omega
  · obtain ⟨k, hk, rfl⟩ := List.mem_map.mp ((canon_perm (rl_nodup F) (rl_nz p)).mem_iff.mp hx)
    have hk := List.mem_range.mp hk
    have T := F.tie _ (List.mem_of_getElem? (Geo.fw_get (p := p) (k := k) (by omega)))
    have p1 := mem_posts.mp ((geo C ha hb ne).rng _ _ T)
    have p2 := mem_posts.mp ((geo C ha hb ne).rng2 T)
    simp only at p1 p2
    have lt := C.tie_lt2 (of_decide_eq_true T)
    generalize p.getD k 0 = x at *
    generalize p.getD (k + 1) 0 = y at *
    refine ⟨tieOf x y, rfl, ?_, lt.1, ?_, ?_⟩
    · show 0 ≤ min x y; omega
    · show max x y < n; omega
    · show 1 - 2 * ((k : Int) % 2) = 1 ∨ 1 - 2 * ((k : Int) % 2) = -1; omega
theorem told_small {n : Nat} {cut : List IP} {t : Tr} (C : Cutting n cut t) {a b : Int} (ha : 0 ≤ a ∧ a < n) (hb : 0 ≤ b ∧ b < n) (ne : a ≠ b) (n3 : 3 ≤ n) (n11 : n ≤ 11) : SmallS 17 (canon (tlL (wsort (waysL (geo C ha hb ne) n)))) := by
  have gn : (geo C ha hb ne).n = (n : Int) := rfl
  have few : (canon (tlL (wsort (waysL (geo C ha hb ne) n)))).length ≤ 6561 := by
    rw [(tl_perm gn).length_eq]
    unfold tlL
    rw [List.length_map]
    have h := waysL_3 gn n3
    have h2 : 3 ^ (n - 3) ≤ 3 ^ 8 := Nat.pow_le_pow_right (by decide) (by omega)
    have : 3 ^ 8 = 6561 := by decide
    omega
  have big : ∀ {i : Int}, i.natAbs ≤ 12 → i.natAbs < 10 ^ 20 := fun h => Nat.lt_of_le_of_lt h (by decide)
  refine ⟨fun q hq => ?_, ?_, by omega⟩
  · obtain ⟨e1, r, er, rl, hx⟩ := told_rows C ha hb ne n3 q hq
    refine ⟨r, er, ⟨by omega, fun x hx' => ?_⟩, by omega, by rw [e1]; decide⟩
    obtain ⟨m, em, h0, h1, h2, h3⟩ := hx x hx'
    refine ⟨⟨m, em⟩, ?_, ?_, ?_⟩
    · rw [em, dec_M]; exact big (by omega)
    · rw [em, dec_M]; exact big (by omega)
    · exact big (by omega)
  · exact Nat.le_trans (Nat.mul_le_mul_right (24 + 66 * 17) few) (by decide)
end
section
open TL
theorem joinL_len (S : List Nat) : ∀ ps : List (List Nat), (joinL S ps).length ≤ (ps.map (·.length)).sum + ps.length * S.length
  | [] => Nat.zero_le _
  | [p] => by
    show p.length ≤ (p.length + 0) + 1 * S.length
    omega
  | p :: q :: r => by
    have ih := joinL_len S (q :: r)
    show (p ++ (S ++ joinL S (q :: r))).length ≤ _
    rw [List.length_append, List.length_append, List.map_cons, List.sum_cons, List.length_cons, Nat.add_mul]
    omega
theorem join_len {a : Str} {ys : List Str} {B : Nat} (h : ∀ y ∈ ys, y.length ≤ B) : (Txt.join a ys).length ≤ ys.length * (B + a.length) := by
  have e : tl (Txt.join a ys) = joinL (tl a) (ys.map tl) := (congrArg tl (join_eq a ys)).trans (tl_join a ys)
  rw [len_tl, e]
  have h1 := joinL_len (tl a) (ys.map tl)
  rw [List.length_map, List.map_map] at h1
  have h2 := sum_le_mul (l := ys) (f := (fun l : List Nat => l.length) ∘ tl) (B := B) fun y hy => by
    show (tl y).length ≤ B
    rw [← len_tl]
    exact h y hy
  rw [Nat.mul_add, len_tl a]
  omega
end
section
open TL
theorem sI_9 {i : Int} (h0 : 0 ≤ i) (h : i ≤ 9) : (sI i).length ≤ 1 := by
  have : ∀ k : Fin 10, (sI (k.val : Int)).length ≤ 1 := by decide +kernel
  have := this ⟨i.toNat, by omega⟩
  simp only at this
  rw [show ((i.toNat : Nat) : Int) = i by omega] at this
  exact this
theorem sI_10 {i : Int} (h0 : 0 ≤ i) (h : i ≤ 10) : (sI i).length ≤ 2 := by
  have : ∀ k : Fin 11, (sI (k.val : Int)).length ≤ 2 := by decide +kernel
  have := this ⟨i.toNat, by omega⟩
  simp only at this
  rw [show ((i.toNat : Nat) : Int) = i by omega] at this
  exact this
theorem fold_short : ∀ (r : LP) (t : Str), (∀ x ∈ r, ∃ m : IP, x.1 = encM m ∧ 0 ≤ m.1 ∧ m.1 < m.2 ∧ m.2 ≤ 10 ∧ (x.2 = 1 ∨ x.2 = -1)) → (r.foldl markS t).length ≤ t.length + 8 * r.length
  | [], t, _ => Nat.le_refl _
  | x :: r, t, h => by
    have ih := fold_short r (markS t x) fun y hy => h y (List.mem_cons_of_mem _ hy)
    obtain ⟨m, em, h0, h1, h2, h3⟩ := h x List.mem_cons_self
    have e : (markS t x).length ≤ t.length + 8 := by
      unfold markS
      rw [em, dec_M, len_app, len_app, len_app, len_app, len_app, len_app, l_sp, l_dot, l_hat]
      have a1 := sI_9 h0 (by omega)
      have a2 := sI_10 (show 0 ≤ m.2 by omega) h2
      have a3 : (sI x.2).length ≤ 2 := by
        rcases h3 with h3 | h3
        · rw [h3]; decide +kernel
        · rw [h3]; decide +kernel
      omega
    rw [List.foldl_cons, List.length_cons]
    omega
/-- the line of a told sum is not too long -/
theorem told_line {n : Nat} {cut : List IP} {t : Tr} (C : Cutting n cut t) {a b : Int} (ha : 0 ≤ a ∧ a < n) (hb : 0 ≤ b ∧ b < n) (ne : a ≠ b) (n3 : 3 ≤ n) (n11 : n ≤ 11) : (joinS (canon (tlL (wsort (waysL (geo C ha hb ne) n))))).length ≤ 918540 := by
  have gn : (geo C ha hb ne).n = (n : Int) := rfl
  have rows := told_rows C ha hb ne n3
  have few : (canon (tlL (wsort (waysL (geo C ha hb ne) n)))).length ≤ 6561 := by
    rw [(tl_perm gn).length_eq]
    unfold tlL
    rw [List.length_map]
    have h := waysL_3 gn n3
    have h2 : 3 ^ (n - 3) ≤ 3 ^ 8 := Nat.pow_le_pow_right (by decide) (by omega)
    have : 3 ^ 8 = 6561 := by decide
    omega
  generalize canon (tlL (wsort (waysL (geo C ha hb ne) n))) = TS at rows few
  unfold joinS
  split
  · exact Nat.le_trans (show ("0" : Str).length ≤ 1 by decide +kernel) (by omega)
  · have h := join_len (a := (" + " : Str)) (ys := TS.map lineS) (B := 137) fun y hy => by
      obtain ⟨q, hq, rfl⟩ := List.mem_map.mp hy
      obtain ⟨e1, r, er, rl, hx⟩ := rows q hq
      unfold lineS termS
      rw [er, dec_enc, e1]
      have f := fold_short r (sI 1) fun x hx' => by
        obtain ⟨m, em, h0, h1, h2, h3⟩ := hx x hx'
        exact ⟨m, em, h0, h1, by omega, h3⟩
      have : (sI 1).length ≤ 1 := sI_9 (by decide) (by decide)
      omega
    rw [List.length_map, l_plus] at h
    have := Nat.mul_le_mul_right (137 + 3) few
    omega
end
section
open TL
theorem pre_le {S l : List Nat} (h : pre S l = true) : S.length ≤ l.length := by
  have e : l.take S.length = S := eq_of_beq h
  have := congrArg List.length e
  rw [List.length_take] at this
  omega
/-- what is split has all its signs in its pieces, but for the cuts -/
theorem spl_sum {S : List Nat} (hS : 0 < S.length) : ∀ (l : List Nat) (k : Nat) (acc : List Nat), k ≤ l.length → ((spl S k acc l).map (·.length)).sum + (spl S k acc l).length * S.length ≤ acc.length + (l.length - k) + S.length
  | [], k, acc, h => by
    rw [spl_nil]
    simp only [List.map_cons, List.map_nil, List.sum_cons, List.sum_nil, List.length_cons, List.length_nil]
    omega
  | c :: r, 0, acc, _ => by
    cases hp : pre S (c :: r) with
    | true =>
      have hl := pre_le hp
      rw [List.length_cons] at hl
      have ih := spl_sum hS r (S.length - 1) [] (by omega)
      rw [spl_hit hp, List.map_cons, List.sum_cons, List.length_cons, List.length_cons, Nat.add_mul]
      rw [List.length_nil] at ih
      omega
    | false =>
      have ih := spl_sum hS r 0 (acc ++ [c]) (Nat.zero_le _)
      rw [spl_miss hp, List.length_cons]
      rw [List.length_append, List.length_singleton] at ih
      omega
  | c :: r, k + 1, acc, h => by
    rw [List.length_cons] at h ⊢
    have ih := spl_sum hS r k acc (by omega)
    have e : spl S (k + 1) acc (c :: r) = spl S k acc r := rfl
    rw [e]
    omega
theorem split_sum {x y : Str} (hy : tl y ≠ []) (hk : y.cps.all (· < 256) = true) : ((Txt.split x y).map (·.length)).sum + (Txt.split x y).length * y.length ≤ x.length + y.length := by
  have h := split_spl x y hy (kind_ok hk)
  have e : (Txt.split x y).map (·.length) = ((Txt.split x y).map tl).map (·.length) := by
    rw [List.map_map]
    exact List.map_congr_left fun z _ => len_tl z
  have e2 : (Txt.split x y).length = ((Txt.split x y).map tl).length := (List.length_map _).symm
  rw [e, e2, h, len_tl x, len_tl y]
  have := spl_sum (S := tl y) (List.length_pos_iff.mpr hy) (tl x) 0 [] (Nat.zero_le _)
  rw [List.length_nil] at this
  omega
theorem join_sum {a : Str} {ys : List Str} : (Txt.join a ys).length ≤ (ys.map (·.length)).sum + ys.length * a.length := by
  have e : tl (Txt.join a ys) = joinL (tl a) (ys.map tl) := (congrArg tl (join_eq a ys)).trans (tl_join a ys)
  rw [len_tl, e]
  have h1 := joinL_len (tl a) (ys.map tl)
  rw [List.length_map, List.map_map] at h1
  rw [List.map_congr_left (g := (fun l : List Nat => l.length) ∘ tl) (fun z _ => len_tl z), len_tl a]
  exact h1
theorem rot_sum (ws : List Str) (k : Nat) : ((ws.drop k ++ ws.take k).map (·.length)).sum + (ws.drop k ++ ws.take k).length * (" + " : Str).length = (ws.map (·.length)).sum + ws.length * (" + " : Str).length := by
  have p : (ws.drop k ++ ws.take k).Perm ws := by
    have := List.perm_append_comm (l₁ := ws.drop k) (l₂ := ws.take k)
    rw [List.take_append_drop] at this
    exact this
  rw [p.length_eq, (p.map _).sum_nat]
theorem cut_dropG {xs : List V} {k : Int} (h0 : 0 ≤ k) : cutV xs (some k) none = xs.drop k.toNat := by
  unfold cutV HT.sIx
  simp only
  rw [if_neg (by omega)]
  by_cases h : k.toNat ≤ xs.length
  · rw [Nat.min_eq_left h]
    exact List.take_of_length_le (by rw [List.length_drop]; omega)
  · rw [Nat.min_eq_right (by omega), List.drop_of_length_le (i := xs.length) (by omega), List.drop_of_length_le (i := k.toNat) (by omega), List.take_nil]
theorem cut_takeG {xs : List V} {k : Int} (h0 : 0 ≤ k) : cutV xs none (some k) = xs.take k.toNat := by
  unfold cutV HT.sIx
  simp only
  rw [if_neg (by omega), List.drop_zero, Nat.sub_zero]
  by_cases h : k.toNat ≤ xs.length
  · rw [Nat.min_eq_left h]
  · rw [Nat.min_eq_right (by omega), List.take_of_length_le (i := xs.length) (by omega), List.take_of_length_le (i := k.toNat) (by omega)]
theorem big20 {i : Int} (h : i.natAbs ≤ 100) : i.natAbs < 10 ^ 20 := Nat.lt_of_le_of_lt h (by decide)
theorem mass_mem {r : LP} {x : ND × Int} (h : x ∈ r) : x.2.natAbs ≤ mass r := by
  induction r with
  | nil => cases h
  | cons q r ih =>
    rw [mass_cons]
    rcases List.mem_cons.mp h with rfl | h
    · omega
    · have := ih h
      omega
/-- a drawn sum is small -/
theorem drawn_small {s : LP} (cs : SumC 3 s) (hl : s.length ≤ 4) (hq : ∀ q ∈ s, q.2.natAbs ≤ 4 * s.length ∨ q.2.natAbs ≤ 16) (hw : ∀ q ∈ s, RowW 9 q.1) : SmallS 3 s := ⟨fun q h => by
  obtain ⟨r, er, cr⟩ := cs.row q h
  have w := hw q h
  rw [er] at w
  obtain ⟨w1, w2⟩ := w.of
  have rl := cr.len
  refine ⟨r, er, ⟨by omega, fun x hx => ?_⟩, rl, big20 (by have := hq q h; omega)⟩
  obtain ⟨p, ep, mp⟩ := w1 x hx
  have := mass_mem hx
  obtain ⟨⟨a1, a2⟩, a3, a4⟩ := mp
  refine ⟨⟨p, ep⟩, ?_, ?_, big20 (by omega)⟩
  · rw [ep, dec_M]; exact big20 (by omega)
  · rw [ep, dec_M]; exact big20 (by omega), by have := Nat.mul_le_mul_right (24 + 66 * 3) hl; omega, by omega⟩
/-- the line of a small drawn sum is short -/
theorem small_line {B : Nat} {s : LP} (h : SmallS B s) (hb : s.length * (24 + 66 * B) ≤ 918000) : (joinS s).length ≤ 918540 := by
  unfold joinS
  split
  · exact Nat.le_trans (show ("0" : Str).length ≤ 1 by decide +kernel) (by omega)
  · have := join_len (a := (" + " : Str)) (ys := s.map lineS) (B := 21 + 66 * B) fun y hy => by
      obtain ⟨q, hq, rfl⟩ := List.mem_map.mp hy
      obtain ⟨r, er, sm, rb, cb⟩ := h.row q hq
      unfold lineS
      rw [er, dec_enc]
      have := termS_len cb sm r.length (Nat.le_refl _)
      rw [List.take_length] at this
      have := Nat.mul_le_mul_right 66 rb
      omega
    rw [List.length_map, l_plus, show 21 + 66 * B + 3 = 24 + 66 * B by omega] at this
    omega
end
local macro_rules | `(tactic| walk_at "s1") => `(tactic| with_reducible refine Pm.w_nkeys ?_)
local macro_rules | `(tactic| walk_at "s1") => `(tactic| with_reducible refine Pm.w_ng2 ?_)
local macro_rules | `(tactic| walk_at "s1") => `(tactic| with_reducible refine Pm.w_nget ?_)
local macro_rules | `(tactic| walk_at "s1") => `(tactic| with_reducible refine Pm.w_nput ?_)
section
open TL
variable {P : Program} {w : World} {K : PySem.W.Frag} {mg : Str → Option Value} {base : Heap}
def spLaw (K : PySem.W.Frag) : Sp := fun vs H Q _ => ∃ (a : Addr) (ns : List Int), vs = [.ref a] ∧ SqL K H a (ns.map V.int) ∧ ns.length ≤ 63 ∧ ∀ H', Q (.bl true) H'
theorem ok_law (T : Tx K mg) : FnOk P w K mg base CX0 7 T.a_law T.fd_law ["_law_script"] (spLaw K) := by
  refine T.F_law.ok sc_law (fun vs H Q E h => ?_) (fun cdv A outer s H vs Q E hr h => ?_)
  · obtain ⟨a, ns, rfl, _⟩ := h
    rfl
  obtain ⟨sc, ns, rfl, hS, hl, q⟩ := h
  refine ⟨_, (pss_cons (ps_set (i := 1) sc_law.nd rfl (.inl rfl) (pe_call (ok_law_flow T) (hr.mono (by decide)) (by rfl) T.g_law_flow T.F_law_flow.kp T.b_law_flow .nil pass0 (pa_cons (pv 0) (pa_cons (pe_int) pa_nil))))
      (pss_cons (ps_set (i := 2) sc_law.nd rfl (.inl rfl) (pe_call (ok_law_draw_sum T) (hr.mono (by decide)) (by rfl) T.g_law_draw_sum T.F_law_draw_sum.kp T.b_law_draw_sum .nil pass0 (pa_cons (pe_slice (sl_listK (K := K)) (pv 1) (po_some (pe_int)) po_none) (pa_cons (pe_op op_mod (pe_ix (ix_listK (K := K)) (pv 1) (pe_int) (fun _ _ => rfl)) (pe_int)) (pa_cons (pe_int) pa_nil)))))
      (C8.pss_cut (ps_if (pt_cmpR op_eq (pe_op op_mod (pe_op op_fdiv (pe_ix (ix_listK (K := K)) (pv 1) (pe_int) (fun _ _ => rfl)) (pe_int)) (pe_int)) (pe_int) (nomark _)) (pss_cons (ps_set (i := 3) sc_law.nd rfl (.inl rfl) (pe_op op_add (pe_int) (pe_op op_mod (pe_ix (ix_listK (K := K)) (pv 1) (pe_int) (fun _ _ => rfl)) (pe_int))))
      (pss_cons (ps_asg (pe_call (ok_law_two T) (hr.mono (by decide)) (by rfl) T.g_law_two T.F_law_two.kp T.b_law_two .nil pass0 (pa_cons (pv 3) (pa_cons (pe_ix (ix_listK (K := K)) (pv 1) (pe_int) (fun _ _ => rfl)) (pa_cons (pe_ix (ix_listK (K := K)) (pv 1) (pe_int) (fun _ _ => rfl)) (pa_cons (pe_int) pa_nil))))) (k_gt (K := K) (pg_tup (by rfl) (pgs_cons (pg_name (i := 4) sc_law.nd rfl (.inl rfl)) (pgs_cons (pg_name (i := 5) sc_law.nd rfl (.inl rfl)) pgs_nil)))))
      (pss_cons (ps_set (i := 2) sc_law.nd rfl (.inl rfl) (pe_call (ok_told T) (hr.mono (by decide)) (by rfl) T.g_told T.F_told.kp T.b_told .nil passL (pa_cons (pv 3) (pa_cons (pe_call (ok_law_ropes T) (hr.mono (by decide)) (by rfl) T.g_law_ropes T.F_law_ropes.kp T.b_law_ropes .nil pass0 (pa_cons (pe_call (ok_law_ears T) (hr.mono (by decide)) (by rfl) T.g_law_ears T.F_law_ears.kp T.b_law_ears .nil pass0 (pa_cons (pv 3) (pa_cons (pe_slice (sl_listK (K := K)) (pv 1) (po_some (pe_int)) po_none) pa_nil))) pa_nil)) (pa_cons (pv 4) (pa_cons (pv 5) pa_nil))))))
      (pss_one (ps_if (pt_not (pt_val (pe_call (ok_law_sum T) (hr.mono (by decide)) (by rfl) T.g_law_sum T.F_law_sum.kp T.b_law_sum .nil pass0 (pa_cons (pv 2) pa_nil)))) (pss_one (ps_ret (pe_bl))) pss_nil))))) pss_nil)
      (pss_cons (ps_set (i := 6) sc_law.nd rfl (.inl rfl) (pe_callTy (c_listOf (K := K)) (by rfl) T.m_list (by decide +kernel) (pa_cons (pv 2) pa_nil)))
      (pss_cons (ps_set (i := 7) sc_law.nd rfl (.inl rfl) (pe_call (ok_sum_text T) (hr.mono (by decide)) (by rfl) T.g_sum_text T.F_sum_text.kp T.b_sum_text .nil pass0 (pa_cons (pv 6) pa_nil)))
      (pss_cons (ps_if (PW.pt (pw_or (pt_cmpR (op_neDK (K := K) hr.units) (pv 6) (pv 2) (nomark _)) (pw_or (pt_not (pt_val (pe_callB (call_isK (K := K)) (by rfl) T.m_isinstance (by decide +kernel) (pa_cons (pv 7) (pa_cons (pe_bltn (v := .ty "str") (by rfl) T.m_str (by decide +kernel) rfl) pa_nil))))) (pw_or1 (pt_cmpR op_ne (pv 7) (pe_call (ok_law_text T) (hr.mono (by decide)) (by rfl) T.g_law_text T.F_law_text.kp T.b_law_text .nil pass0 (pa_cons (pv 2) pa_nil)) (nomark _)))))) (pss_one (ps_ret (pe_bl))) pss_nil)
      (C8.pss_cut (ps_if (pt_cmpR op_eq (pe_op op_mod (pe_ix (ix_listK (K := K)) (pv 1) (pe_int) (fun _ _ => rfl)) (pe_int)) (pe_int) (nomark _)) (pss_one (ps_set (i := 7) sc_law.nd rfl (.inl rfl) (pe_call (ok_law_spoilt T) (hr.mono (by decide)) (by rfl) T.g_law_spoilt T.F_law_spoilt.kp T.b_law_spoilt .nil pass0 (pa_cons (pv 7) (pa_cons (pv 1) pa_nil))))) pss_nil)
      (C8.pss_cut (ps_if (pt_cmpR op_eq (pe_op op_mod (pe_ix (ix_listK (K := K)) (pv 1) (pe_int) (fun _ _ => rfl)) (pe_int)) (pe_int) (nomark _)) (pss_one (ps_set (i := 7) sc_law.nd rfl (.inl rfl) (pe_call (ok_law_odd T) (hr.mono (by decide)) (by rfl) T.g_law_odd T.F_law_odd.kp T.b_law_odd .nil pass0 (pa_cons (pe_ix (ix_listK (K := K)) (pv 1) (pe_int) (fun _ _ => rfl)) pa_nil)))) pss_nil)
      (C8.pss_cut (ps_if (pt_cmpR op_eq (pe_op op_mod (pe_ix (ix_listK (K := K)) (pv 1) (pe_int) (fun _ _ => rfl)) (pe_int)) (pe_int) (nomark _)) (pss_cons (ps_set (i := 8) sc_law.nd rfl (.inl rfl) (pe_op op_mod (pe_ix (ix_listK (K := K)) (pv 1) (pe_int) (fun _ _ => rfl)) (pe_int)))
      (pss_cons (ps_set (i := 9) sc_law.nd rfl (.inl rfl) (k_bm (K := K) (pe_bm PySem.F.plainAttrs_str PySem.F.slot_str_split PySem.F.type_str_split mt_splitS (pv 7) (pa_cons (pe_str) pa_nil))))
      (pss_one (ps_set (i := 7) sc_law.nd rfl (.inl rfl) (k_bm (K := K) (pe_bm PySem.F.plainAttrs_str PySem.F.slot_str_join PySem.F.type_str_join (mt_joinK (K := K)) (pe_str) (pa_cons (pe_op op_cat (pe_slice (sl_listK (K := K)) (pv 9) (po_some (pv 8)) po_none) (pe_slice (sl_listK (K := K)) (pv 9) po_none (po_some (pv 8)))) pa_nil))))))) pss_nil)
      (pss_cons (ps_set (i := 10) sc_law.nd rfl (.inl rfl) (pe_call (ok_law_due T) (hr.mono (by decide)) (by rfl) T.g_law_due T.F_law_due.kp T.b_law_due .nil pass0 (pa_cons (pv 7) pa_nil)))
      (pss_cons (ps_try_as (i := 12) rfl rfl sc_law.nd rfl rfl ⟨rfl, by decide, .inl T.g_MeadError⟩ takes0 (fun W pn xe tk _ => (pss_one (ps_set (i := 11) sc_law.nd rfl (.inl rfl) (by exact (pe_callS (ok_sum_read T) (hr.mono (by decide)) (by rfl) T.g_sum_read T.F_sum_read.kp T.b_sum_read (fun q => passAt tk q) (by exact (pa_cons (pv 7) pa_nil))))))) (fun a oe cls d pn hz hf => (pss_one (ps_ret ((pe_and (pe_cmpR op_isNK (pv 10) (pe_non) (nomark _)) (pe_one (pe_callB (c_isX (K := K) hz hf) (by rfl) T.m_isinstance (by decide +kernel) (pa_cons (pv 12) (pa_cons (pe_glob (v := .ref T.c_BadSum) (by rfl) T.g_BadSum rfl) pa_nil))))))))))
      (pss_one (ps_ret ((pe_and (pe_cmpR op_notNK (pv 10) (pe_non) (nomark _)) (pe_and (pe_call (ok_law_sum T) (hr.mono (by decide)) (by rfl) T.g_law_sum T.F_law_sum.kp T.b_law_sum .nil pass0 (pa_cons (pv 11) pa_nil)) (pe_one (pe_cmpR (op_eqDK (K := K) hr.units) (pv 11) (pv 10) (nomark _))))))))))))))))))), ?_⟩
  walk_at "st"
  refine ⟨sc, ns, 34, rfl, hS, by decide, fun row H1 r hrow hb s1 nr hr1 => ?_⟩
  have hR : SqL K H1 r (row.map V.int) := SqL.of hr1
  have bd : ∀ i : Nat, i < 34 → 0 ≤ row.getD i 0 ∧ row.getD i 0 < 1000000 := fun i hi => by
    have := hb (row.getD i 0) (by rw [List.getD_eq_getElem?_getD, List.getElem?_eq_getElem (by omega)]; exact List.getElem_mem _)
    exact this
  walk_at "st"
  refine Pm.w_slL hR (fun p1 hp1 => ?_)
  rw [cut_drop (by decide) (by rw [List.length_map, hrow]; decide), ← List.map_drop]
  have s2 := same_new hp1 (.lst ((row.drop (4 : Int).toNat).map V.int))
  walk_at "st"
  refine Pm.w_ixL (s2.seq hR) (atI_int (by omega) (by omega)) ?_
  walk_at "st"
  have b1 := bd 1 (by decide)
  have b4 := bd 4 (by decide)
  refine ⟨p1, row.drop (4 : Int).toNat, (row.getD 1 0 % 5).toNat, 3, ?_, SqL.of upd_same, by rw [List.length_drop, hrow]; show _ ≤ 30; omega, by rw [List.length_drop, hrow]; show _ ≤ 30; omega, by decide, by omega, fun s0 cs0 ls0 bs0 p2 H2 xs s3 np2 hp2 hxs => ?_⟩
  · rw [Int.toNat_of_nonneg (by omega)]
    rfl
  have s23 := s2.trans s3
  have hR2 := s23.seq hR
  have sm0 : SmallS 3 s0 := drawn_small cs0 (by omega) (fun q0 hq0 => .inr (by have := (bs0 q0 hq0).1; omega)) (fun q0 hq0 => (bs0 q0 hq0).2)
  have sl0 : s0.length * (24 + 66 * 3) ≤ 918000 := by have := Nat.mul_le_mul_right (24 + 66 * 3) (show s0.length ≤ 4 by omega); omega
  have jl0 := small_line sm0 sl0
  have st0 : SLs K H2 p2 s0 := ⟨xs, hp2, hxs⟩
  clear bs0 sl0
  walk_at "st"
  refine Pm.w_cut (fun σ' H' => ∃ (p : Addr) (s : LP) (N B : Nat) (x3 x4 x5 : Option V), σ' = [some (.ref sc), some (.ref r), some (.ref p), x3, x4, x5, none, none, none, none, none, none, none] ∧ Same H2 H' ∧ SLs K H' p s ∧ SumC N s ∧ N ≤ 1000000 ∧ SmallS B s ∧ (joinS s).length ≤ 918540) ?_ ?_
  · walk_at "st"
    refine Pm.w_ixL hR2 (atI_int (by omega) (by omega)) ?_
    walk_at "st"
    refine Pm.w_ite (fun e => ?_) (fun e => ?_)
    · walk_at "st"
      refine Pm.w_ixL hR2 (atI_int (by omega) (by omega)) ?_
      walk_at "st"
      obtain ⟨n, en⟩ : ∃ n : Nat, 4 + row.getD (4 : Int).toNat 0 % 8 = (n : Int) := ⟨(4 + row.getD (4 : Int).toNat 0 % 8).toNat, by omega⟩
      have n4 : 4 ≤ n := by omega
      have n11 : n ≤ 11 := by omega
      rw [en]
      refine Pm.w_ixL hR2 (atI_int (by omega) (by omega)) ?_
      walk_at "st"
      refine Pm.w_ixL hR2 (atI_int (by omega) (by omega)) ?_
      walk_at "st"
      refine ⟨n, _, _, _, rfl, by omega, fun tp H4 p s4 ntp hp4 two => ?_⟩
      have ok := two (by decide)
      obtain ⟨tp', e4, ht4⟩ := hp4
      cases e4
      have hR4 := s4.seq hR2
      walk_at "st"
      refine Pm.w_gtup (SqT.of ht4) rfl ?_
      walk_at "st"
      refine Pm.w_slL hR4 (fun p3 hp3 => ?_)
      rw [cut_drop (by decide) (by rw [List.length_map, hrow]; decide), ← List.map_drop]
      have s5 := same_new hp3 (.lst ((row.drop (7 : Int).toNat).map V.int))
      walk_at "st"
      refine ⟨n, p3, row.drop (7 : Int).toNat, rfl, SqL.of upd_same, by omega, by omega, by rw [List.length_drop, hrow]; show n ≤ 34 - 7 + 3; omega, fun e H6 evs es s6 ne0 he hA hears hes => ?_⟩
      walk_at "st"
      refine ⟨e, evs, es, rfl, SqL.of he, hA, by omega, fun c H7 cvs s7 nc hc hpc => ?_⟩
      obtain ⟨t, C⟩ := drawn_cutting hears (by omega)
      generalize hcut : sortP (es.map ropeOf) = cut at C hpc
      walk_at "st"
      refine ⟨n, c, cut, t, C, p.1, p.2, rfl, ⟨cvs, hc, hpc⟩, by omega, fun no => absurd ok no, fun ha' hb' ne' tl1 H8 zs s8 ntl htl hzs => ?_⟩
      have gn : (geo C ha' hb' ne').n = (n : Int) := rfl
      have gpl := fun p h => waysL_plen gn (p := p) h
      have tsum := told_sum (n := 2 * n) (S := wsort (waysL (geo C ha' hb' ne') n)) (fun p hp => gpl p hp)
      have sm := told_small C ha' hb' ne' (by omega) n11
      have jl := told_line C ha' hb' ne' (by omega) n11
      generalize canon (tlL (wsort (waysL (geo C ha' hb' ne') n))) = s at tsum sm jl hzs
      walk_at "st"
      have st : SLs K H8 tl1 s := ⟨zs, htl, hzs⟩
      have few := sm.few
      refine ⟨tl1, s, 2 * n, rfl, st, tsum, by omega, by omega, ?_⟩
      walk_at "st"
      exact ⟨tl1, s, 2 * n, 17, _, _, _, rfl, s4.trans (s5.trans (s6.trans (s7.trans s8))), st, tsum, by omega, sm, jl⟩
    · walk_at "st"
      exact ⟨p2, s0, 3, 3, _, _, _, rfl, Same.refl _, st0, cs0, by decide, sm0, jl0⟩
  clear st0 cs0 sm0 jl0
  rintro σ5 H5 ⟨p, s, N, B, x3, x4, x5, rfl, s5, st, cs, hN, sm, jl⟩
  have hR5 := s5.seq hR2
  obtain ⟨vs0, hv0, hvs0⟩ := id st
  walk_at "st"
  refine Pm.w_listOf (SqL.of hv0) (fun hd hhd => ?_)
  have s6 := same_new hhd (.lst vs0)
  have hdS : SLs K (upd H5 hd (.lst vs0)) hd s := ⟨vs0, upd_same, all2_keep (keeps s6) hvs0⟩
  have st6 := st.same s6
  have hR6 := s6.seq hR5
  generalize upd H5 hd (.lst vs0) = H6 at s6 hdS st6 hR6 ⊢
  walk_at "st"
  refine ⟨hd, s, B, rfl, hdS, sm, fun H7 s7 => ?_⟩
  have hd7 := hdS.same s7
  have st7 := st6.same s7
  have hR7 := s7.seq hR6
  walk_at "st"
  refine w_neSum hd7 st7 cs cs ?_
  rw [decide_eq_true rfl]
  walk_at "st"
  refine Pm.w_isiStr (b := true) (by decide +kernel) ?_
  walk_at "st"
  refine ⟨p, s, B, rfl, st7, sm, fun H8 s8 => ?_⟩
  have hR8 := s8.seq hR7
  walk_at "st"
  rw [show decide (joinS s = joinS s) = true from decide_eq_true rfl]
  walk_at "st"
  generalize joinS s = z0 at jl ⊢
  clear st st7 st6 hdS hd7 hvs0 hv0 hR hR2 hR5 hR6 hR7 sm cs
  refine Pm.w_cut (fun σ' H' => ∃ z : Str, σ' = [some (.ref sc), some (.ref r), some (.ref p), x3, x4, x5, some (.ref hd), some (.str z), none, none, none, none, none] ∧ Same H8 H' ∧ z.length ≤ 918541) ?_ ?_
  · walk_at "st"
    refine Pm.w_ixL hR8 (atI_int (by omega) (by omega)) ?_
    walk_at "st"
    refine Pm.w_ite (fun e => ?_) (fun e => ?_)
    · walk_at "st"
      refine ⟨z0, r, row, rfl, by omega, hR8, by omega, fun z hz => ?_⟩
      exact ⟨z, rfl, Same.refl _, by omega⟩
    · walk_at "st"
      exact ⟨z0, rfl, Same.refl _, by omega⟩
  rintro σ H9 ⟨z1, rfl, s9, lz1⟩
  have hR9 := s9.seq hR8
  walk_at "st"
  refine Pm.w_cut (fun σ' H' => ∃ z : Str, σ' = [some (.ref sc), some (.ref r), some (.ref p), x3, x4, x5, some (.ref hd), some (.str z), none, none, none, none, none] ∧ Same H9 H' ∧ z.length ≤ 918541) ?_ ?_
  · walk_at "st"
    refine Pm.w_ixL hR9 (atI_int (by omega) (by omega)) ?_
    walk_at "st"
    refine Pm.w_ite (fun e => ?_) (fun e => ?_)
    · walk_at "st"
      refine Pm.w_ixL hR9 (atI_int (by omega) (by omega)) ?_
      walk_at "st"
      refine ⟨_, rfl, fun z H' s hz => ?_⟩
      exact ⟨z, rfl, s, by omega⟩
    · walk_at "st"
      exact ⟨z1, rfl, Same.refl _, lz1⟩
  rintro σ HA ⟨z2, rfl, sA, lz2⟩
  have hRA := sA.seq hR9
  walk_at "st"
  refine Pm.w_cut (fun σ' H' => ∃ (z : Str) (x8 x9 : Option V), σ' = [some (.ref sc), some (.ref r), some (.ref p), x3, x4, x5, some (.ref hd), some (.str z), x8, x9, none, none, none] ∧ z.length ≤ 918544) ?_ ?_
  · walk_at "st"
    refine Pm.w_ixL hRA (atI_int (by omega) (by omega)) ?_
    walk_at "st"
    refine Pm.w_ite (fun e => ?_) (fun e => ?_)
    · walk_at "st"
      refine Pm.w_ixL hRA (atI_int (by omega) (by omega)) ?_
      walk_at "st"
      have b2 := bd 2 (by decide)
      have c0 : 0 ≤ row.getD (2 : Int).toNat 0 % 3 := Int.emod_nonneg _ (by decide)
      generalize row.getD (2 : Int).toNat 0 % 3 = ct at c0 ⊢
      refine ⟨rfl, ?_⟩
      walk_at "st"
      have hy : tl (" + " : Str) ≠ [] := by decide +kernel
      have hk : (" + " : Str).cps.all (· < 256) = true := by decide +kernel
      refine Pm.w_split (by decide +kernel) (by rw [sizeLine_eq]; omega) (fun l hl => ?_)
      have wsum := split_sum (x := z2) hy hk
      have wm : (Txt.split z2 (" + " : Str)).length ≤ z2.length + 1 := split_many' hy hk
      generalize Txt.split z2 (" + " : Str) = ws at wsum wm ⊢
      have s1 := same_new hl (.lst (ws.map V.str))
      have f1 : (upd HA l (.lst (ws.map V.str))) l = some (.lst (ws.map V.str)) := upd_same
      generalize upd HA l (.lst (ws.map V.str)) = HB at s1 f1 ⊢
      walk_at "st"
      refine ⟨rfl, ?_⟩
      walk_at "st"
      refine Pm.w_slL (SqL.of f1) (fun l2 hl2 => ?_)
      rw [cut_dropG c0, ← List.map_drop]
      have s2 := same_new hl2 (.lst ((ws.drop ct.toNat).map V.str))
      have f2 : (upd HB l2 (.lst ((ws.drop ct.toNat).map V.str))) l2 = some (.lst ((ws.drop ct.toNat).map V.str)) := upd_same
      have f1 := s2 _ _ f1
      generalize upd HB l2 (.lst ((ws.drop ct.toNat).map V.str)) = HC at s2 f1 f2 ⊢
      walk_at "st"
      refine Pm.w_slL (SqL.of f1) (fun l3 hl3 => ?_)
      rw [cut_takeG c0, ← List.map_take]
      have s3 := same_new hl3 (.lst ((ws.take ct.toNat).map V.str))
      have f3 : (upd HC l3 (.lst ((ws.take ct.toNat).map V.str))) l3 = some (.lst ((ws.take ct.toNat).map V.str)) := upd_same
      have f2 := s3 _ _ f2
      generalize upd HC l3 (.lst ((ws.take ct.toNat).map V.str)) = HD at s3 f2 f3 ⊢
      have rs := rot_sum ws ct.toNat
      have ld : (ws.drop ct.toNat).length + (ws.take ct.toNat).length ≤ ws.length + ws.length := by
        rw [List.length_drop, List.length_take]
        omega
      refine Pm.w_cat f2 f3 (size_ok (by rw [List.length_map, List.length_map]; omega)) (fun l4 hl4 => ?_)
      rw [← List.map_append]
      walk_at "st"
      refine Pm.w_join (SqL.of upd_same) (by rw [rs]; have := l_plus; omega) ?_
      have js := join_sum (a := (" + " : Str)) (ys := ws.drop ct.toNat ++ ws.take ct.toNat)
      rw [rs] at js
      rw [l_plus] at js wsum
      exact ⟨_, _, _, rfl, by omega⟩
    · walk_at "st"
      exact ⟨z2, _, _, rfl, by omega⟩
  rintro σ HB ⟨z, x8, x9, rfl, lz⟩
  walk_at "st"
  refine ⟨z, rfl, by omega, fun hno H6 s6 => ?_, fun so hso tD H6 s6 stD => ?_⟩
  · walk_at "st"
    refine ⟨z, rfl, by omega, fun _ H7 s7 => ?_, fun so hso => ?_⟩
    · refine ⟨true, T.exm_BadSum_MeadError, fun _ x hx => ?_, fun z => Bool.noConfusion z⟩
      walk_at "st"
      refine Pm.w_isN_non ?_
      walk_at "st"
      refine Pm.w_isX T.exc_BadSum (fun u r => r) T.kit_BadSum_BadSum ?_
      exact q _
    · rw [hno] at hso
      cases hso
  · walk_at "st"
    refine ⟨z, rfl, by omega, fun hno => ?_, fun s2 hs2 tR H7 s7 stR => ?_⟩
    · rw [hso] at hno
      cases hno
    rw [hso] at hs2
    cases hs2
    have gd := sumOf_good hso
    have gl := sumOf_len hso
    have stD := stD.same s7
    walk_at "st"
    refine Pm.w_notN_ref ?_
    walk_at "st"
    refine ⟨tR, so, z.length + 1, rfl, stR, gd, by omega, by omega, ?_⟩
    walk_at "st"
    refine w_eqSum stR stD gd gd ?_
    rw [decide_eq_true rfl]
    exact q _
end
def D_whole_of : He.FnD := ⟨("whole_of", none), "whole_of", "whole_of", defArgs s_whole_of, defBody s_whole_of, defScope s_whole_of⟩
def D_settled : He.FnD := ⟨("settled", none), "settled", "settled", defArgs s_settled, defBody s_settled, defScope s_settled⟩
def D_row_of : He.FnD := ⟨("row_of", none), "row_of", "row_of", defArgs s_row_of, defBody s_row_of, defScope s_row_of⟩
def D_term_text : He.FnD := ⟨("term_text", none), "term_text", "term_text", defArgs s_term_text, defBody s_term_text, defScope s_term_text⟩
def D_sum_text : He.FnD := ⟨("sum_text", none), "sum_text", "sum_text", defArgs s_sum_text, defBody s_sum_text, defScope s_sum_text⟩
def D_signed_of : He.FnD := ⟨("signed_of", none), "signed_of", "signed_of", defArgs s_signed_of, defBody s_signed_of, defScope s_signed_of⟩
def D_mark_of : He.FnD := ⟨("mark_of", none), "mark_of", "mark_of", defArgs s_mark_of, defBody s_mark_of, defScope s_mark_of⟩
def D_term_of : He.FnD := ⟨("term_of", none), "term_of", "term_of", defArgs s_term_of, defBody s_term_of, defScope s_term_of⟩
def D_sum_read : He.FnD := ⟨("sum_read", none), "sum_read", "sum_read", defArgs s_sum_read, defBody s_sum_read, defScope s_sum_read⟩
def D_tie_of : He.FnD := ⟨("tie_of", none), "tie_of", "tie_of", defArgs s_tie_of, defBody s_tie_of, defScope s_tie_of⟩
def D_crosses : He.FnD := ⟨("crosses", none), "crosses", "crosses", defArgs s_crosses, defBody s_crosses, defScope s_crosses⟩
def D_sides : He.FnD := ⟨("sides", none), "sides", "sides", defArgs s_sides, defBody s_sides, defScope s_sides⟩
def D_ties : He.FnD := ⟨("ties", none), "ties", "ties", defArgs s_ties, defBody s_ties, defScope s_ties⟩
def D_two_posts : He.FnD := ⟨("two_posts", none), "two_posts", "two_posts", defArgs s_two_posts, defBody s_two_posts, defScope s_two_posts⟩
def D_nearness : He.FnD := ⟨("nearness", none), "nearness", "nearness", defArgs s_nearness, defBody s_nearness, defScope s_nearness⟩
def D_across : He.FnD := ⟨("across", none), "across", "across", defArgs s_across, defBody s_across, defScope s_across⟩
def D_neighbours : He.FnD := ⟨("neighbours", none), "neighbours", "neighbours", defArgs s_neighbours, defBody s_neighbours, defScope s_neighbours⟩
def D_onward : He.FnD := ⟨("onward", none), "onward", "onward", defArgs s_onward, defBody s_onward, defScope s_onward⟩
def D_ways : He.FnD := ⟨("ways", none), "ways", "ways", defArgs s_ways, defBody s_ways, defScope s_ways⟩
def D_row_of_way : He.FnD := ⟨("row_of_way", none), "row_of_way", "row_of_way", defArgs s_row_of_way, defBody s_row_of_way, defScope s_row_of_way⟩
def D_told : He.FnD := ⟨("told", none), "told", "told", defArgs s_told, defBody s_told, defScope s_told⟩
def D_law_flow : He.FnD := ⟨("_law_flow", none), "_law_flow", "_law_flow", defArgs s_law_flow, defBody s_law_flow, defScope s_law_flow⟩
def D_law_whole : He.FnD := ⟨("_law_whole", none), "_law_whole", "_law_whole", defArgs s_law_whole, defBody s_law_whole, defScope s_law_whole⟩
def D_law_pair : He.FnD := ⟨("_law_pair", none), "_law_pair", "_law_pair", defArgs s_law_pair, defBody s_law_pair, defScope s_law_pair⟩
def D_law_ears : He.FnD := ⟨("_law_ears", none), "_law_ears", "_law_ears", defArgs s_law_ears, defBody s_law_ears, defScope s_law_ears⟩
def D_law_ropes : He.FnD := ⟨("_law_ropes", none), "_law_ropes", "_law_ropes", defArgs s_law_ropes, defBody s_law_ropes, defScope s_law_ropes⟩
def D_law_tuple : He.FnD := ⟨("_law_tuple", none), "_law_tuple", "_law_tuple", defArgs s_law_tuple, defBody s_law_tuple, defScope s_law_tuple⟩
def D_law_sum : He.FnD := ⟨("_law_sum", none), "_law_sum", "_law_sum", defArgs s_law_sum, defBody s_law_sum, defScope s_law_sum⟩
def D_law_row_times : He.FnD := ⟨("_law_row_times", none), "_law_row_times", "_law_row_times", defArgs s_law_row_times, defBody s_law_row_times, defScope s_law_row_times⟩
def D_law_settled : He.FnD := ⟨("_law_settled", none), "_law_settled", "_law_settled", defArgs s_law_settled, defBody s_law_settled, defScope s_law_settled⟩
def D_law_draw_sum : He.FnD := ⟨("_law_draw_sum", none), "_law_draw_sum", "_law_draw_sum", defArgs s_law_draw_sum, defBody s_law_draw_sum, defScope s_law_draw_sum⟩
def D_law_two : He.FnD := ⟨("_law_two", none), "_law_two", "_law_two", defArgs s_law_two, defBody s_law_two, defScope s_law_two⟩
def D_law_number : He.FnD := ⟨("_law_number", none), "_law_number", "_law_number", defArgs s_law_number, defBody s_law_number, defScope s_law_number⟩
def D_law_signed : He.FnD := ⟨("_law_signed", none), "_law_signed", "_law_signed", defArgs s_law_signed, defBody s_law_signed, defScope s_law_signed⟩
def D_law_mark : He.FnD := ⟨("_law_mark", none), "_law_mark", "_law_mark", defArgs s_law_mark, defBody s_law_mark, defScope s_law_mark⟩
def D_law_term : He.FnD := ⟨("_law_term", none), "_law_term", "_law_term", defArgs s_law_term, defBody s_law_term, defScope s_law_term⟩
def D_law_due : He.FnD := ⟨("_law_due", none), "_law_due", "_law_due", defArgs s_law_due, defBody s_law_due, defScope s_law_due⟩
def D_law_text : He.FnD := ⟨("_law_text", none), "_law_text", "_law_text", defArgs s_law_text, defBody s_law_text, defScope s_law_text⟩
def D_law_odd : He.FnD := ⟨("_law_odd", none), "_law_odd", "_law_odd", defArgs s_law_odd, defBody s_law_odd, defScope s_law_odd⟩
def D_law_spoilt : He.FnD := ⟨("_law_spoilt", none), "_law_spoilt", "_law_spoilt", defArgs s_law_spoilt, defBody s_law_spoilt, defScope s_law_spoilt⟩
def D_law : He.FnD := ⟨("law", none), "law", "law", defArgs s_law, defBody s_law, defScope s_law⟩
def hfn : List He.FnD := [D_whole_of, D_settled, D_row_of, D_term_text, D_sum_text, D_signed_of, D_mark_of, D_term_of, D_sum_read, D_tie_of, D_crosses, D_sides, D_ties, D_two_posts, D_nearness, D_across, D_neighbours, D_onward, D_ways, D_row_of_way, D_told, D_law_flow, D_law_whole, D_law_pair, D_law_ears, D_law_ropes, D_law_tuple, D_law_sum, D_law_row_times, D_law_settled, D_law_draw_sum, D_law_two, D_law_number, D_law_signed, D_law_mark, D_law_term, D_law_due, D_law_text, D_law_odd, D_law_spoilt, D_law]
def hfa0 : List He.Fa := [.glo "BadSum",
  .exc "BadSum",
  .glo "NoPost",
  .exc "NoPost",
  .glo "MeadError",
  .exc "MeadError",
  .keep "whole_of",
  .glo "whole_of",
  .keep "settled",
  .glo "settled",
  .keep "row_of",
  .glo "row_of",
  .keep "term_text",
  .glo "term_text",
  .keep "sum_text",
  .glo "sum_text",
  .keep "signed_of",
  .glo "signed_of",
  .keep "mark_of",
  .glo "mark_of",
  .keep "term_of",
  .glo "term_of",
  .keep "sum_read",
  .glo "sum_read",
  .keep "tie_of",
  .glo "tie_of",
  .keep "crosses",
  .glo "crosses",
  .keep "sides",
  .glo "sides",
  .keep "ties",
  .glo "ties",
  .keep "two_posts",
  .glo "two_posts",
  .keep "nearness",
  .glo "nearness",
  .keep "across",
  .glo "across",
  .keep "neighbours",
  .glo "neighbours",
  .keep "onward",
  .glo "onward",
  .keep "ways",
  .glo "ways",
  .keep "row_of_way",
  .glo "row_of_way",
  .keep "told",
  .glo "told",
  .keep "_law_flow",
  .glo "_law_flow",
  .keep "_law_whole",
  .glo "_law_whole",
  .keep "_law_pair",
  .glo "_law_pair",
  .keep "_law_ears",
  .glo "_law_ears",
  .keep "_law_ropes",
  .glo "_law_ropes",
  .keep "_law_tuple",
  .glo "_law_tuple",
  .keep "_law_sum",
  .glo "_law_sum",
  .keep "_law_row_times",
  .glo "_law_row_times",
  .keep "_law_settled",
  .glo "_law_settled",
  .keep "_law_draw_sum",
  .glo "_law_draw_sum",
  .keep "_law_two",
  .glo "_law_two",
  .keep "_law_number",
  .glo "_law_number",
  .keep "_law_signed",
  .glo "_law_signed",
  .keep "_law_mark",
  .glo "_law_mark",
  .keep "_law_term",
  .glo "_law_term",
  .keep "_law_due",
  .glo "_law_due",
  .keep "_law_text",
  .glo "_law_text",
  .keep "_law_odd",
  .glo "_law_odd",
  .keep "_law_spoilt",
  .glo "_law_spoilt",
  .keep "law",
  .glo "law",
  .free "int",
  .free "len",
  .free "sorted",
  .free "tuple",
  .free "str",
  .free "min",
  .free "max",
  .free "range",
  .free "abs",
  .free "isinstance",
  .free "bool",
  .free "list",
  .int "MOST_FIGURES" (400),
  .str "FIGURES" "0123456789"]
def hfa : List He.Fa := hfa0
def hex0 (K : PySem.W.Frag) : List Bool := [PySem.W.isClsIn K (He.ga K "BadSum"),
  decide (PySem.W.subIn K (.ref (He.ga K "BadSum")) (.ref (He.ga K "BadSum")) = some true),
  PySem.W.isClsIn K (He.ga K "NoPost"),
  decide (PySem.W.subIn K (.ref (He.ga K "NoPost")) (.ref (He.ga K "NoPost")) = some true),
  PySem.W.isClsIn K (He.ga K "MeadError"),
  decide (PySem.W.subIn K (.ref (He.ga K "MeadError")) (.ref (He.ga K "MeadError")) = some true),
  decide (PySem.W.findIn K (.ref (He.ga K "BadSum")) "__getattribute__" = some (some (.builtin "BaseException.__getattribute__"))),
  decide (PySem.W.findIn K (.ref (He.ga K "BadSum")) "__getattr__" = some none),
  decide (PySem.W.hasDictIn K (He.ga K "BadSum") = true),
  decide (PySem.W.findIn K (.ref (He.ga K "BadSum")) "__class__" = some (some (.builtin "object.__class__"))),
  decide (PySem.W.specialIn K (.builtin "object.__class__") "__get__" = some (some (.builtin "getset_descriptor.__get__"))),
  decide (PySem.W.takesIn K (.builtin "object.__class__") = some true),
  decide (PySem.W.mroIn K (He.ga K "BadSum") (.type "object") = some true),
  decide (PySem.W.kitOne K (.ref (He.ga K "BadSum")) (.ref (He.ga K "MeadError")) = some true),
  decide (PySem.W.exmOne K (.ref (He.ga K "BadSum")) (.ref (He.ga K "MeadError")) = some true),
  decide (PySem.W.kitOne K (.ref (He.ga K "BadSum")) (.ref (He.ga K "BadSum")) = some true),
  decide (PySem.W.exmOne K (.ref (He.ga K "BadSum")) (.ref (He.ga K "BadSum")) = some true)]
def hex (K : PySem.W.Frag) : List Bool := hex0 K
def loose0 : List Str := [("MeadError" : Str), ("BadSum" : Str), ("NoPost" : Str), ("FIGURES" : Str), ("MOST_FIGURES" : Str), ("whole_of" : Str), ("settled" : Str), ("row_of" : Str), ("term_text" : Str), ("sum_text" : Str), ("signed_of" : Str), ("mark_of" : Str), ("term_of" : Str), ("sum_read" : Str), ("tie_of" : Str), ("crosses" : Str), ("sides" : Str), ("ties" : Str), ("two_posts" : Str), ("nearness" : Str), ("across" : Str), ("neighbours" : Str), ("onward" : Str), ("ways" : Str), ("row_of_way" : Str), ("told" : Str), ("_law_flow" : Str), ("_law_whole" : Str), ("_law_pair" : Str), ("_law_ears" : Str), ("_law_ropes" : Str), ("_law_tuple" : Str), ("_law_sum" : Str), ("_law_row_times" : Str), ("_law_settled" : Str), ("_law_draw_sum" : Str), ("_law_two" : Str), ("_law_number" : Str), ("_law_signed" : Str), ("_law_mark" : Str)]
def loose1 : List Str := [("_law_term" : Str), ("_law_due" : Str), ("_law_text" : Str), ("_law_odd" : Str), ("_law_spoilt" : Str)]
def looseA : List Str := loose0 ++ loose1
abbrev hRow : PySem.W.OpenRow := PySem.W.OpenLaw.row PySem.Challenge.rw_postmead_k07_letters_written
abbrev hHook : PySem.W.Hook := hookP 1200 hfa hfn hex
noncomputable abbrev hOb (s : PySem.W.SharedT) : He.Al := obT 1200 hfa hfn hex s
theorem hRunA (w : World) (os : OsState) : (endR hRow 40000 w os).map (fun s => (HandSHeadRun.looksF hRow.prog (PySem.W.boot_heap w.params) s.abs, HandSHeadRun.seenQ (PySem.W.view hRow.prog [51]) looseA (importedModules hRow.prog.main.body) (fun s => PySem.W.xlAt (PySem.W.view hRow.prog [51]) [] s && PySem.W.recOk hRow.toRowW.records s) s.abs)) = some (true, PySem.W.openGood (PySem.W.view hRow.prog [51]) looseA) := by kernel_rfl
theorem hRunD (w : World) : Look hRow 40000 1200 w (fun K => (hfn.map fun d => He.fnObs K d.at_, hfn.all fun d => (He.Fa.code d.at_ d.qual).ok K)) (hfn.map He.FnD.val, true) := by
  intro os
  kernel_rfl
theorem hRunF0 (w : World) : Look hRow 40000 1200 w (fun K => hfa0.all fun f => f.ok K) true := by
  intro os
  kernel_rfl
theorem hRunX0 (w : World) : Look hRow 40000 1200 w (fun K => (hex0 K).all id) true := by
  intro os
  kernel_rfl
theorem hRun (w : World) : HandSHeadRun.RunEq hRow (PySem.W.view hRow.prog [51]) hHook hOb 40000 looseA w := by
  refine run_of (hRunA w) fun os s e => obsP_of (congrArg Prod.fst ((hRunD w).at_ e)) (congrArg Prod.snd ((hRunD w).at_ e)) ?_ ?_
  · simp only [hfa, List.all_append, (hRunF0 w).at_ e, Bool.and_self]
  · simp only [hex, List.all_append, (hRunX0 w).at_ e, Bool.and_self]
theorem qe_BadSum {K : PySem.W.Frag} {h : Heap} {mg : Str → Option Value} (X : K.In h) (G : h.Ns mainGlobals mg) (c : SaysP hfa hfn hex K) : Nonempty { e : ExAt K mg "BadSum" // e.c = (He.ga K "BadSum") } := ⟨⟨{ c := _, g := He.glo_ok X G (c.e.fact 0 (f := .glo "BadSum") rfl), x := (He.exc_ok (c.e.fact 1 (f := .exc "BadSum") rfl)).1, k := (He.exc_ok (c.e.fact 1 (f := .exc "BadSum") rfl)).2.1, b := (He.exc_ok (c.e.fact 1 (f := .exc "BadSum") rfl)).2.2.1, t := (He.exc_ok (c.e.fact 1 (f := .exc "BadSum") rfl)).2.2.2, i := (c.b 0 (b := PySem.W.isClsIn K (He.ga K "BadSum")) rfl), z := (c.d 1 (p := PySem.W.subIn K (.ref (He.ga K "BadSum")) (.ref (He.ga K "BadSum")) = some true) rfl) }, rfl⟩⟩
theorem qe_NoPost {K : PySem.W.Frag} {h : Heap} {mg : Str → Option Value} (X : K.In h) (G : h.Ns mainGlobals mg) (c : SaysP hfa hfn hex K) : Nonempty { e : ExAt K mg "NoPost" // e.c = (He.ga K "NoPost") } := ⟨⟨{ c := _, g := He.glo_ok X G (c.e.fact 2 (f := .glo "NoPost") rfl), x := (He.exc_ok (c.e.fact 3 (f := .exc "NoPost") rfl)).1, k := (He.exc_ok (c.e.fact 3 (f := .exc "NoPost") rfl)).2.1, b := (He.exc_ok (c.e.fact 3 (f := .exc "NoPost") rfl)).2.2.1, t := (He.exc_ok (c.e.fact 3 (f := .exc "NoPost") rfl)).2.2.2, i := (c.b 2 (b := PySem.W.isClsIn K (He.ga K "NoPost")) rfl), z := (c.d 3 (p := PySem.W.subIn K (.ref (He.ga K "NoPost")) (.ref (He.ga K "NoPost")) = some true) rfl) }, rfl⟩⟩
theorem qe_MeadError {K : PySem.W.Frag} {h : Heap} {mg : Str → Option Value} (X : K.In h) (G : h.Ns mainGlobals mg) (c : SaysP hfa hfn hex K) : Nonempty { e : ExAt K mg "MeadError" // e.c = (He.ga K "MeadError") } := ⟨⟨{ c := _, g := He.glo_ok X G (c.e.fact 4 (f := .glo "MeadError") rfl), x := (He.exc_ok (c.e.fact 5 (f := .exc "MeadError") rfl)).1, k := (He.exc_ok (c.e.fact 5 (f := .exc "MeadError") rfl)).2.1, b := (He.exc_ok (c.e.fact 5 (f := .exc "MeadError") rfl)).2.2.1, t := (He.exc_ok (c.e.fact 5 (f := .exc "MeadError") rfl)).2.2.2, i := (c.b 4 (b := PySem.W.isClsIn K (He.ga K "MeadError")) rfl), z := (c.d 5 (p := PySem.W.subIn K (.ref (He.ga K "MeadError")) (.ref (He.ga K "MeadError")) = some true) rfl) }, rfl⟩⟩
theorem qd_whole_of {K : PySem.W.Frag} {h : Heap} {mg : Str → Option Value} (X : K.In h) (G : h.Ns mainGlobals mg) (c : SaysP hfa hfn hex K) : Nonempty (DefAt K mg "whole_of" "whole_of" s_whole_of ["word"]) := by
  obtain ⟨oc, od, osl, kV, dc, pm, an, cd, ct, l, cc⟩ := c.def_ 0 (D := D_whole_of) rfl
  have F := fun_mk (st := s_whole_of) l cc (c.e.fact 6 (f := .keep "whole_of") rfl)
  exact ⟨{ a := _, fd := _, F := F, g := He.glo_ok X G (c.e.fact 7 (f := .glo "whole_of") rfl), b := F.binds (ps := ["word"]) fun _ _ _ _ _ _ us hl => match us, hl with | [_], _ => rfl }⟩
theorem qd_settled {K : PySem.W.Frag} {h : Heap} {mg : Str → Option Value} (X : K.In h) (G : h.Ns mainGlobals mg) (c : SaysP hfa hfn hex K) : Nonempty (DefAt K mg "settled" "settled" s_settled ["counts"]) := by
  obtain ⟨oc, od, osl, kV, dc, pm, an, cd, ct, l, cc⟩ := c.def_ 1 (D := D_settled) rfl
  have F := fun_mk (st := s_settled) l cc (c.e.fact 8 (f := .keep "settled") rfl)
  exact ⟨{ a := _, fd := _, F := F, g := He.glo_ok X G (c.e.fact 9 (f := .glo "settled") rfl), b := F.binds (ps := ["counts"]) fun _ _ _ _ _ _ us hl => match us, hl with | [_], _ => rfl }⟩
theorem qd_row_of {K : PySem.W.Frag} {h : Heap} {mg : Str → Option Value} (X : K.In h) (G : h.Ns mainGlobals mg) (c : SaysP hfa hfn hex K) : Nonempty (DefAt K mg "row_of" "row_of" s_row_of ["powers"]) := by
  obtain ⟨oc, od, osl, kV, dc, pm, an, cd, ct, l, cc⟩ := c.def_ 2 (D := D_row_of) rfl
  have F := fun_mk (st := s_row_of) l cc (c.e.fact 10 (f := .keep "row_of") rfl)
  exact ⟨{ a := _, fd := _, F := F, g := He.glo_ok X G (c.e.fact 11 (f := .glo "row_of") rfl), b := F.binds (ps := ["powers"]) fun _ _ _ _ _ _ us hl => match us, hl with | [_], _ => rfl }⟩
theorem qd_term_text {K : PySem.W.Frag} {h : Heap} {mg : Str → Option Value} (X : K.In h) (G : h.Ns mainGlobals mg) (c : SaysP hfa hfn hex K) : Nonempty (DefAt K mg "term_text" "term_text" s_term_text ["row", "count"]) := by
  obtain ⟨oc, od, osl, kV, dc, pm, an, cd, ct, l, cc⟩ := c.def_ 3 (D := D_term_text) rfl
  have F := fun_mk (st := s_term_text) l cc (c.e.fact 12 (f := .keep "term_text") rfl)
  exact ⟨{ a := _, fd := _, F := F, g := He.glo_ok X G (c.e.fact 13 (f := .glo "term_text") rfl), b := F.binds (ps := ["row", "count"]) fun _ _ _ _ _ _ us hl => match us, hl with | [_, _], _ => rfl }⟩
theorem qd_sum_text {K : PySem.W.Frag} {h : Heap} {mg : Str → Option Value} (X : K.In h) (G : h.Ns mainGlobals mg) (c : SaysP hfa hfn hex K) : Nonempty (DefAt K mg "sum_text" "sum_text" s_sum_text ["one"]) := by
  obtain ⟨oc, od, osl, kV, dc, pm, an, cd, ct, l, cc⟩ := c.def_ 4 (D := D_sum_text) rfl
  have F := fun_mk (st := s_sum_text) l cc (c.e.fact 14 (f := .keep "sum_text") rfl)
  exact ⟨{ a := _, fd := _, F := F, g := He.glo_ok X G (c.e.fact 15 (f := .glo "sum_text") rfl), b := F.binds (ps := ["one"]) fun _ _ _ _ _ _ us hl => match us, hl with | [_], _ => rfl }⟩
theorem qd_signed_of {K : PySem.W.Frag} {h : Heap} {mg : Str → Option Value} (X : K.In h) (G : h.Ns mainGlobals mg) (c : SaysP hfa hfn hex K) : Nonempty (DefAt K mg "signed_of" "signed_of" s_signed_of ["word"]) := by
  obtain ⟨oc, od, osl, kV, dc, pm, an, cd, ct, l, cc⟩ := c.def_ 5 (D := D_signed_of) rfl
  have F := fun_mk (st := s_signed_of) l cc (c.e.fact 16 (f := .keep "signed_of") rfl)
  exact ⟨{ a := _, fd := _, F := F, g := He.glo_ok X G (c.e.fact 17 (f := .glo "signed_of") rfl), b := F.binds (ps := ["word"]) fun _ _ _ _ _ _ us hl => match us, hl with | [_], _ => rfl }⟩
theorem qd_mark_of {K : PySem.W.Frag} {h : Heap} {mg : Str → Option Value} (X : K.In h) (G : h.Ns mainGlobals mg) (c : SaysP hfa hfn hex K) : Nonempty (DefAt K mg "mark_of" "mark_of" s_mark_of ["word"]) := by
  obtain ⟨oc, od, osl, kV, dc, pm, an, cd, ct, l, cc⟩ := c.def_ 6 (D := D_mark_of) rfl
  have F := fun_mk (st := s_mark_of) l cc (c.e.fact 18 (f := .keep "mark_of") rfl)
  exact ⟨{ a := _, fd := _, F := F, g := He.glo_ok X G (c.e.fact 19 (f := .glo "mark_of") rfl), b := F.binds (ps := ["word"]) fun _ _ _ _ _ _ us hl => match us, hl with | [_], _ => rfl }⟩
theorem qd_term_of {K : PySem.W.Frag} {h : Heap} {mg : Str → Option Value} (X : K.In h) (G : h.Ns mainGlobals mg) (c : SaysP hfa hfn hex K) : Nonempty (DefAt K mg "term_of" "term_of" s_term_of ["text"]) := by
  obtain ⟨oc, od, osl, kV, dc, pm, an, cd, ct, l, cc⟩ := c.def_ 7 (D := D_term_of) rfl
  have F := fun_mk (st := s_term_of) l cc (c.e.fact 20 (f := .keep "term_of") rfl)
  exact ⟨{ a := _, fd := _, F := F, g := He.glo_ok X G (c.e.fact 21 (f := .glo "term_of") rfl), b := F.binds (ps := ["text"]) fun _ _ _ _ _ _ us hl => match us, hl with | [_], _ => rfl }⟩
theorem qd_sum_read {K : PySem.W.Frag} {h : Heap} {mg : Str → Option Value} (X : K.In h) (G : h.Ns mainGlobals mg) (c : SaysP hfa hfn hex K) : Nonempty (DefAt K mg "sum_read" "sum_read" s_sum_read ["line"]) := by
  obtain ⟨oc, od, osl, kV, dc, pm, an, cd, ct, l, cc⟩ := c.def_ 8 (D := D_sum_read) rfl
  have F := fun_mk (st := s_sum_read) l cc (c.e.fact 22 (f := .keep "sum_read") rfl)
  exact ⟨{ a := _, fd := _, F := F, g := He.glo_ok X G (c.e.fact 23 (f := .glo "sum_read") rfl), b := F.binds (ps := ["line"]) fun _ _ _ _ _ _ us hl => match us, hl with | [_], _ => rfl }⟩
theorem qd_tie_of {K : PySem.W.Frag} {h : Heap} {mg : Str → Option Value} (X : K.In h) (G : h.Ns mainGlobals mg) (c : SaysP hfa hfn hex K) : Nonempty (DefAt K mg "tie_of" "tie_of" s_tie_of ["a", "b"]) := by
  obtain ⟨oc, od, osl, kV, dc, pm, an, cd, ct, l, cc⟩ := c.def_ 9 (D := D_tie_of) rfl
  have F := fun_mk (st := s_tie_of) l cc (c.e.fact 24 (f := .keep "tie_of") rfl)
  exact ⟨{ a := _, fd := _, F := F, g := He.glo_ok X G (c.e.fact 25 (f := .glo "tie_of") rfl), b := F.binds (ps := ["a", "b"]) fun _ _ _ _ _ _ us hl => match us, hl with | [_, _], _ => rfl }⟩
theorem qd_crosses {K : PySem.W.Frag} {h : Heap} {mg : Str → Option Value} (X : K.In h) (G : h.Ns mainGlobals mg) (c : SaysP hfa hfn hex K) : Nonempty (DefAt K mg "crosses" "crosses" s_crosses ["one", "other"]) := by
  obtain ⟨oc, od, osl, kV, dc, pm, an, cd, ct, l, cc⟩ := c.def_ 10 (D := D_crosses) rfl
  have F := fun_mk (st := s_crosses) l cc (c.e.fact 26 (f := .keep "crosses") rfl)
  exact ⟨{ a := _, fd := _, F := F, g := He.glo_ok X G (c.e.fact 27 (f := .glo "crosses") rfl), b := F.binds (ps := ["one", "other"]) fun _ _ _ _ _ _ us hl => match us, hl with | [_, _], _ => rfl }⟩
theorem qd_sides {K : PySem.W.Frag} {h : Heap} {mg : Str → Option Value} (X : K.In h) (G : h.Ns mainGlobals mg) (c : SaysP hfa hfn hex K) : Nonempty (DefAt K mg "sides" "sides" s_sides ["n"]) := by
  obtain ⟨oc, od, osl, kV, dc, pm, an, cd, ct, l, cc⟩ := c.def_ 11 (D := D_sides) rfl
  have F := fun_mk (st := s_sides) l cc (c.e.fact 28 (f := .keep "sides") rfl)
  exact ⟨{ a := _, fd := _, F := F, g := He.glo_ok X G (c.e.fact 29 (f := .glo "sides") rfl), b := F.binds (ps := ["n"]) fun _ _ _ _ _ _ us hl => match us, hl with | [_], _ => rfl }⟩
theorem qd_ties {K : PySem.W.Frag} {h : Heap} {mg : Str → Option Value} (X : K.In h) (G : h.Ns mainGlobals mg) (c : SaysP hfa hfn hex K) : Nonempty (DefAt K mg "ties" "ties" s_ties ["n", "cut"]) := by
  obtain ⟨oc, od, osl, kV, dc, pm, an, cd, ct, l, cc⟩ := c.def_ 12 (D := D_ties) rfl
  have F := fun_mk (st := s_ties) l cc (c.e.fact 30 (f := .keep "ties") rfl)
  exact ⟨{ a := _, fd := _, F := F, g := He.glo_ok X G (c.e.fact 31 (f := .glo "ties") rfl), b := F.binds (ps := ["n", "cut"]) fun _ _ _ _ _ _ us hl => match us, hl with | [_, _], _ => rfl }⟩
theorem qd_two_posts {K : PySem.W.Frag} {h : Heap} {mg : Str → Option Value} (X : K.In h) (G : h.Ns mainGlobals mg) (c : SaysP hfa hfn hex K) : Nonempty (DefAt K mg "two_posts" "two_posts" s_two_posts ["n", "a", "b"]) := by
  obtain ⟨oc, od, osl, kV, dc, pm, an, cd, ct, l, cc⟩ := c.def_ 13 (D := D_two_posts) rfl
  have F := fun_mk (st := s_two_posts) l cc (c.e.fact 32 (f := .keep "two_posts") rfl)
  exact ⟨{ a := _, fd := _, F := F, g := He.glo_ok X G (c.e.fact 33 (f := .glo "two_posts") rfl), b := F.binds (ps := ["n", "a", "b"]) fun _ _ _ _ _ _ us hl => match us, hl with | [_, _, _], _ => rfl }⟩
theorem qd_nearness {K : PySem.W.Frag} {h : Heap} {mg : Str → Option Value} (X : K.In h) (G : h.Ns mainGlobals mg) (c : SaysP hfa hfn hex K) : Nonempty (DefAt K mg "nearness" "nearness" s_nearness ["n", "rope", "a"]) := by
  obtain ⟨oc, od, osl, kV, dc, pm, an, cd, ct, l, cc⟩ := c.def_ 14 (D := D_nearness) rfl
  have F := fun_mk (st := s_nearness) l cc (c.e.fact 34 (f := .keep "nearness") rfl)
  exact ⟨{ a := _, fd := _, F := F, g := He.glo_ok X G (c.e.fact 35 (f := .glo "nearness") rfl), b := F.binds (ps := ["n", "rope", "a"]) fun _ _ _ _ _ _ us hl => match us, hl with | [_, _, _], _ => rfl }⟩
theorem qd_across {K : PySem.W.Frag} {h : Heap} {mg : Str → Option Value} (X : K.In h) (G : h.Ns mainGlobals mg) (c : SaysP hfa hfn hex K) : Nonempty (DefAt K mg "across" "across" s_across ["n", "cut", "a", "b"]) := by
  obtain ⟨oc, od, osl, kV, dc, pm, an, cd, ct, l, cc⟩ := c.def_ 15 (D := D_across) rfl
  have F := fun_mk (st := s_across) l cc (c.e.fact 36 (f := .keep "across") rfl)
  exact ⟨{ a := _, fd := _, F := F, g := He.glo_ok X G (c.e.fact 37 (f := .glo "across") rfl), b := F.binds (ps := ["n", "cut", "a", "b"]) fun _ _ _ _ _ _ us hl => match us, hl with | [_, _, _, _], _ => rfl }⟩
theorem qd_neighbours {K : PySem.W.Frag} {h : Heap} {mg : Str → Option Value} (X : K.In h) (G : h.Ns mainGlobals mg) (c : SaysP hfa hfn hex K) : Nonempty (DefAt K mg "neighbours" "neighbours" s_neighbours ["n", "cut"]) := by
  obtain ⟨oc, od, osl, kV, dc, pm, an, cd, ct, l, cc⟩ := c.def_ 16 (D := D_neighbours) rfl
  have F := fun_mk (st := s_neighbours) l cc (c.e.fact 38 (f := .keep "neighbours") rfl)
  exact ⟨{ a := _, fd := _, F := F, g := He.glo_ok X G (c.e.fact 39 (f := .glo "neighbours") rfl), b := F.binds (ps := ["n", "cut"]) fun _ _ _ _ _ _ us hl => match us, hl with | [_, _], _ => rfl }⟩
theorem qd_onward {K : PySem.W.Frag} {h : Heap} {mg : Str → Option Value} (X : K.In h) (G : h.Ns mainGlobals mg) (c : SaysP hfa hfn hex K) : Nonempty (DefAt K mg "onward" "onward" s_onward ["path", "tied", "places"]) := by
  obtain ⟨oc, od, osl, kV, dc, pm, an, cd, ct, l, cc⟩ := c.def_ 17 (D := D_onward) rfl
  have F := fun_mk (st := s_onward) l cc (c.e.fact 40 (f := .keep "onward") rfl)
  exact ⟨{ a := _, fd := _, F := F, g := He.glo_ok X G (c.e.fact 41 (f := .glo "onward") rfl), b := F.binds (ps := ["path", "tied", "places"]) fun _ _ _ _ _ _ us hl => match us, hl with | [_, _, _], _ => rfl }⟩
theorem qd_ways {K : PySem.W.Frag} {h : Heap} {mg : Str → Option Value} (X : K.In h) (G : h.Ns mainGlobals mg) (c : SaysP hfa hfn hex K) : Nonempty (DefAt K mg "ways" "ways" s_ways ["n", "cut", "a", "b"]) := by
  obtain ⟨oc, od, osl, kV, dc, pm, an, cd, ct, l, cc⟩ := c.def_ 18 (D := D_ways) rfl
  have F := fun_mk (st := s_ways) l cc (c.e.fact 42 (f := .keep "ways") rfl)
  exact ⟨{ a := _, fd := _, F := F, g := He.glo_ok X G (c.e.fact 43 (f := .glo "ways") rfl), b := F.binds (ps := ["n", "cut", "a", "b"]) fun _ _ _ _ _ _ us hl => match us, hl with | [_, _, _, _], _ => rfl }⟩
theorem qd_row_of_way {K : PySem.W.Frag} {h : Heap} {mg : Str → Option Value} (X : K.In h) (G : h.Ns mainGlobals mg) (c : SaysP hfa hfn hex K) : Nonempty (DefAt K mg "row_of_way" "row_of_way" s_row_of_way ["way"]) := by
  obtain ⟨oc, od, osl, kV, dc, pm, an, cd, ct, l, cc⟩ := c.def_ 19 (D := D_row_of_way) rfl
  have F := fun_mk (st := s_row_of_way) l cc (c.e.fact 44 (f := .keep "row_of_way") rfl)
  exact ⟨{ a := _, fd := _, F := F, g := He.glo_ok X G (c.e.fact 45 (f := .glo "row_of_way") rfl), b := F.binds (ps := ["way"]) fun _ _ _ _ _ _ us hl => match us, hl with | [_], _ => rfl }⟩
theorem qd_told {K : PySem.W.Frag} {h : Heap} {mg : Str → Option Value} (X : K.In h) (G : h.Ns mainGlobals mg) (c : SaysP hfa hfn hex K) : Nonempty (DefAt K mg "told" "told" s_told ["n", "cut", "a", "b"]) := by
  obtain ⟨oc, od, osl, kV, dc, pm, an, cd, ct, l, cc⟩ := c.def_ 20 (D := D_told) rfl
  have F := fun_mk (st := s_told) l cc (c.e.fact 46 (f := .keep "told") rfl)
  exact ⟨{ a := _, fd := _, F := F, g := He.glo_ok X G (c.e.fact 47 (f := .glo "told") rfl), b := F.binds (ps := ["n", "cut", "a", "b"]) fun _ _ _ _ _ _ us hl => match us, hl with | [_, _, _, _], _ => rfl }⟩
theorem qd_law_flow {K : PySem.W.Frag} {h : Heap} {mg : Str → Option Value} (X : K.In h) (G : h.Ns mainGlobals mg) (c : SaysP hfa hfn hex K) : Nonempty (DefAt K mg "_law_flow" "_law_flow" s_law_flow ["_law_script", "_law_many"]) := by
  obtain ⟨oc, od, osl, kV, dc, pm, an, cd, ct, l, cc⟩ := c.def_ 21 (D := D_law_flow) rfl
  have F := fun_mk (st := s_law_flow) l cc (c.e.fact 48 (f := .keep "_law_flow") rfl)
  exact ⟨{ a := _, fd := _, F := F, g := He.glo_ok X G (c.e.fact 49 (f := .glo "_law_flow") rfl), b := F.binds (ps := ["_law_script", "_law_many"]) fun _ _ _ _ _ _ us hl => match us, hl with | [_, _], _ => rfl }⟩
theorem qd_law_whole {K : PySem.W.Frag} {h : Heap} {mg : Str → Option Value} (X : K.In h) (G : h.Ns mainGlobals mg) (c : SaysP hfa hfn hex K) : Nonempty (DefAt K mg "_law_whole" "_law_whole" s_law_whole ["_law_found"]) := by
  obtain ⟨oc, od, osl, kV, dc, pm, an, cd, ct, l, cc⟩ := c.def_ 22 (D := D_law_whole) rfl
  have F := fun_mk (st := s_law_whole) l cc (c.e.fact 50 (f := .keep "_law_whole") rfl)
  exact ⟨{ a := _, fd := _, F := F, g := He.glo_ok X G (c.e.fact 51 (f := .glo "_law_whole") rfl), b := F.binds (ps := ["_law_found"]) fun _ _ _ _ _ _ us hl => match us, hl with | [_], _ => rfl }⟩
theorem qd_law_pair {K : PySem.W.Frag} {h : Heap} {mg : Str → Option Value} (X : K.In h) (G : h.Ns mainGlobals mg) (c : SaysP hfa hfn hex K) : Nonempty (DefAt K mg "_law_pair" "_law_pair" s_law_pair ["_law_a", "_law_b"]) := by
  obtain ⟨oc, od, osl, kV, dc, pm, an, cd, ct, l, cc⟩ := c.def_ 23 (D := D_law_pair) rfl
  have F := fun_mk (st := s_law_pair) l cc (c.e.fact 52 (f := .keep "_law_pair") rfl)
  exact ⟨{ a := _, fd := _, F := F, g := He.glo_ok X G (c.e.fact 53 (f := .glo "_law_pair") rfl), b := F.binds (ps := ["_law_a", "_law_b"]) fun _ _ _ _ _ _ us hl => match us, hl with | [_, _], _ => rfl }⟩
theorem qd_law_ears {K : PySem.W.Frag} {h : Heap} {mg : Str → Option Value} (X : K.In h) (G : h.Ns mainGlobals mg) (c : SaysP hfa hfn hex K) : Nonempty (DefAt K mg "_law_ears" "_law_ears" s_law_ears ["_law_n", "_law_row"]) := by
  obtain ⟨oc, od, osl, kV, dc, pm, an, cd, ct, l, cc⟩ := c.def_ 24 (D := D_law_ears) rfl
  have F := fun_mk (st := s_law_ears) l cc (c.e.fact 54 (f := .keep "_law_ears") rfl)
  exact ⟨{ a := _, fd := _, F := F, g := He.glo_ok X G (c.e.fact 55 (f := .glo "_law_ears") rfl), b := F.binds (ps := ["_law_n", "_law_row"]) fun _ _ _ _ _ _ us hl => match us, hl with | [_, _], _ => rfl }⟩
theorem qd_law_ropes {K : PySem.W.Frag} {h : Heap} {mg : Str → Option Value} (X : K.In h) (G : h.Ns mainGlobals mg) (c : SaysP hfa hfn hex K) : Nonempty (DefAt K mg "_law_ropes" "_law_ropes" s_law_ropes ["_law_ears_here"]) := by
  obtain ⟨oc, od, osl, kV, dc, pm, an, cd, ct, l, cc⟩ := c.def_ 25 (D := D_law_ropes) rfl
  have F := fun_mk (st := s_law_ropes) l cc (c.e.fact 56 (f := .keep "_law_ropes") rfl)
  exact ⟨{ a := _, fd := _, F := F, g := He.glo_ok X G (c.e.fact 57 (f := .glo "_law_ropes") rfl), b := F.binds (ps := ["_law_ears_here"]) fun _ _ _ _ _ _ us hl => match us, hl with | [_], _ => rfl }⟩
theorem qd_law_tuple {K : PySem.W.Frag} {h : Heap} {mg : Str → Option Value} (X : K.In h) (G : h.Ns mainGlobals mg) (c : SaysP hfa hfn hex K) : Nonempty (DefAt K mg "_law_tuple" "_law_tuple" s_law_tuple ["_law_found", "_law_many"]) := by
  obtain ⟨oc, od, osl, kV, dc, pm, an, cd, ct, l, cc⟩ := c.def_ 26 (D := D_law_tuple) rfl
  have F := fun_mk (st := s_law_tuple) l cc (c.e.fact 58 (f := .keep "_law_tuple") rfl)
  exact ⟨{ a := _, fd := _, F := F, g := He.glo_ok X G (c.e.fact 59 (f := .glo "_law_tuple") rfl), b := F.binds (ps := ["_law_found", "_law_many"]) fun _ _ _ _ _ _ us hl => match us, hl with | [_, _], _ => rfl }⟩
theorem qd_law_sum {K : PySem.W.Frag} {h : Heap} {mg : Str → Option Value} (X : K.In h) (G : h.Ns mainGlobals mg) (c : SaysP hfa hfn hex K) : Nonempty (DefAt K mg "_law_sum" "_law_sum" s_law_sum ["_law_found"]) := by
  obtain ⟨oc, od, osl, kV, dc, pm, an, cd, ct, l, cc⟩ := c.def_ 27 (D := D_law_sum) rfl
  have F := fun_mk (st := s_law_sum) l cc (c.e.fact 60 (f := .keep "_law_sum") rfl)
  exact ⟨{ a := _, fd := _, F := F, g := He.glo_ok X G (c.e.fact 61 (f := .glo "_law_sum") rfl), b := F.binds (ps := ["_law_found"]) fun _ _ _ _ _ _ us hl => match us, hl with | [_], _ => rfl }⟩
theorem qd_law_row_times {K : PySem.W.Frag} {h : Heap} {mg : Str → Option Value} (X : K.In h) (G : h.Ns mainGlobals mg) (c : SaysP hfa hfn hex K) : Nonempty (DefAt K mg "_law_row_times" "_law_row_times" s_law_row_times ["_law_one", "_law_other"]) := by
  obtain ⟨oc, od, osl, kV, dc, pm, an, cd, ct, l, cc⟩ := c.def_ 28 (D := D_law_row_times) rfl
  have F := fun_mk (st := s_law_row_times) l cc (c.e.fact 62 (f := .keep "_law_row_times") rfl)
  exact ⟨{ a := _, fd := _, F := F, g := He.glo_ok X G (c.e.fact 63 (f := .glo "_law_row_times") rfl), b := F.binds (ps := ["_law_one", "_law_other"]) fun _ _ _ _ _ _ us hl => match us, hl with | [_, _], _ => rfl }⟩
theorem qd_law_settled {K : PySem.W.Frag} {h : Heap} {mg : Str → Option Value} (X : K.In h) (G : h.Ns mainGlobals mg) (c : SaysP hfa hfn hex K) : Nonempty (DefAt K mg "_law_settled" "_law_settled" s_law_settled ["_law_terms"]) := by
  obtain ⟨oc, od, osl, kV, dc, pm, an, cd, ct, l, cc⟩ := c.def_ 29 (D := D_law_settled) rfl
  have F := fun_mk (st := s_law_settled) l cc (c.e.fact 64 (f := .keep "_law_settled") rfl)
  exact ⟨{ a := _, fd := _, F := F, g := He.glo_ok X G (c.e.fact 65 (f := .glo "_law_settled") rfl), b := F.binds (ps := ["_law_terms"]) fun _ _ _ _ _ _ us hl => match us, hl with | [_], _ => rfl }⟩
theorem qd_law_draw_sum {K : PySem.W.Frag} {h : Heap} {mg : Str → Option Value} (X : K.In h) (G : h.Ns mainGlobals mg) (c : SaysP hfa hfn hex K) : Nonempty (DefAt K mg "_law_draw_sum" "_law_draw_sum" s_law_draw_sum ["_law_row", "_law_terms", "_law_marks"]) := by
  obtain ⟨oc, od, osl, kV, dc, pm, an, cd, ct, l, cc⟩ := c.def_ 30 (D := D_law_draw_sum) rfl
  have F := fun_mk (st := s_law_draw_sum) l cc (c.e.fact 66 (f := .keep "_law_draw_sum") rfl)
  exact ⟨{ a := _, fd := _, F := F, g := He.glo_ok X G (c.e.fact 67 (f := .glo "_law_draw_sum") rfl), b := F.binds (ps := ["_law_row", "_law_terms", "_law_marks"]) fun _ _ _ _ _ _ us hl => match us, hl with | [_, _, _], _ => rfl }⟩
theorem qd_law_two {K : PySem.W.Frag} {h : Heap} {mg : Str → Option Value} (X : K.In h) (G : h.Ns mainGlobals mg) (c : SaysP hfa hfn hex K) : Nonempty (DefAt K mg "_law_two" "_law_two" s_law_two ["_law_n", "_law_one", "_law_other", "_law_wild"]) := by
  obtain ⟨oc, od, osl, kV, dc, pm, an, cd, ct, l, cc⟩ := c.def_ 31 (D := D_law_two) rfl
  have F := fun_mk (st := s_law_two) l cc (c.e.fact 68 (f := .keep "_law_two") rfl)
  exact ⟨{ a := _, fd := _, F := F, g := He.glo_ok X G (c.e.fact 69 (f := .glo "_law_two") rfl), b := F.binds (ps := ["_law_n", "_law_one", "_law_other", "_law_wild"]) fun _ _ _ _ _ _ us hl => match us, hl with | [_, _, _, _], _ => rfl }⟩
theorem qd_law_number {K : PySem.W.Frag} {h : Heap} {mg : Str → Option Value} (X : K.In h) (G : h.Ns mainGlobals mg) (c : SaysP hfa hfn hex K) : Nonempty (DefAt K mg "_law_number" "_law_number" s_law_number ["_law_word", "_law_least"]) := by
  obtain ⟨oc, od, osl, kV, dc, pm, an, cd, ct, l, cc⟩ := c.def_ 32 (D := D_law_number) rfl
  have F := fun_mk (st := s_law_number) l cc (c.e.fact 70 (f := .keep "_law_number") rfl)
  exact ⟨{ a := _, fd := _, F := F, g := He.glo_ok X G (c.e.fact 71 (f := .glo "_law_number") rfl), b := F.binds (ps := ["_law_word", "_law_least"]) fun _ _ _ _ _ _ us hl => match us, hl with | [_, _], _ => rfl }⟩
theorem qd_law_signed {K : PySem.W.Frag} {h : Heap} {mg : Str → Option Value} (X : K.In h) (G : h.Ns mainGlobals mg) (c : SaysP hfa hfn hex K) : Nonempty (DefAt K mg "_law_signed" "_law_signed" s_law_signed ["_law_word"]) := by
  obtain ⟨oc, od, osl, kV, dc, pm, an, cd, ct, l, cc⟩ := c.def_ 33 (D := D_law_signed) rfl
  have F := fun_mk (st := s_law_signed) l cc (c.e.fact 72 (f := .keep "_law_signed") rfl)
  exact ⟨{ a := _, fd := _, F := F, g := He.glo_ok X G (c.e.fact 73 (f := .glo "_law_signed") rfl), b := F.binds (ps := ["_law_word"]) fun _ _ _ _ _ _ us hl => match us, hl with | [_], _ => rfl }⟩
theorem qd_law_mark {K : PySem.W.Frag} {h : Heap} {mg : Str → Option Value} (X : K.In h) (G : h.Ns mainGlobals mg) (c : SaysP hfa hfn hex K) : Nonempty (DefAt K mg "_law_mark" "_law_mark" s_law_mark ["_law_word"]) := by
  obtain ⟨oc, od, osl, kV, dc, pm, an, cd, ct, l, cc⟩ := c.def_ 34 (D := D_law_mark) rfl
  have F := fun_mk (st := s_law_mark) l cc (c.e.fact 74 (f := .keep "_law_mark") rfl)
  exact ⟨{ a := _, fd := _, F := F, g := He.glo_ok X G (c.e.fact 75 (f := .glo "_law_mark") rfl), b := F.binds (ps := ["_law_word"]) fun _ _ _ _ _ _ us hl => match us, hl with | [_], _ => rfl }⟩
theorem qd_law_term {K : PySem.W.Frag} {h : Heap} {mg : Str → Option Value} (X : K.In h) (G : h.Ns mainGlobals mg) (c : SaysP hfa hfn hex K) : Nonempty (DefAt K mg "_law_term" "_law_term" s_law_term ["_law_text_here"]) := by
  obtain ⟨oc, od, osl, kV, dc, pm, an, cd, ct, l, cc⟩ := c.def_ 35 (D := D_law_term) rfl
  have F := fun_mk (st := s_law_term) l cc (c.e.fact 76 (f := .keep "_law_term") rfl)
  exact ⟨{ a := _, fd := _, F := F, g := He.glo_ok X G (c.e.fact 77 (f := .glo "_law_term") rfl), b := F.binds (ps := ["_law_text_here"]) fun _ _ _ _ _ _ us hl => match us, hl with | [_], _ => rfl }⟩
theorem qd_law_due {K : PySem.W.Frag} {h : Heap} {mg : Str → Option Value} (X : K.In h) (G : h.Ns mainGlobals mg) (c : SaysP hfa hfn hex K) : Nonempty (DefAt K mg "_law_due" "_law_due" s_law_due ["_law_line"]) := by
  obtain ⟨oc, od, osl, kV, dc, pm, an, cd, ct, l, cc⟩ := c.def_ 36 (D := D_law_due) rfl
  have F := fun_mk (st := s_law_due) l cc (c.e.fact 78 (f := .keep "_law_due") rfl)
  exact ⟨{ a := _, fd := _, F := F, g := He.glo_ok X G (c.e.fact 79 (f := .glo "_law_due") rfl), b := F.binds (ps := ["_law_line"]) fun _ _ _ _ _ _ us hl => match us, hl with | [_], _ => rfl }⟩
theorem qd_law_text {K : PySem.W.Frag} {h : Heap} {mg : Str → Option Value} (X : K.In h) (G : h.Ns mainGlobals mg) (c : SaysP hfa hfn hex K) : Nonempty (DefAt K mg "_law_text" "_law_text" s_law_text ["_law_one"]) := by
  obtain ⟨oc, od, osl, kV, dc, pm, an, cd, ct, l, cc⟩ := c.def_ 37 (D := D_law_text) rfl
  have F := fun_mk (st := s_law_text) l cc (c.e.fact 80 (f := .keep "_law_text") rfl)
  exact ⟨{ a := _, fd := _, F := F, g := He.glo_ok X G (c.e.fact 81 (f := .glo "_law_text") rfl), b := F.binds (ps := ["_law_one"]) fun _ _ _ _ _ _ us hl => match us, hl with | [_], _ => rfl }⟩
theorem qd_law_odd {K : PySem.W.Frag} {h : Heap} {mg : Str → Option Value} (X : K.In h) (G : h.Ns mainGlobals mg) (c : SaysP hfa hfn hex K) : Nonempty (DefAt K mg "_law_odd" "_law_odd" s_law_odd ["_law_one"]) := by
  obtain ⟨oc, od, osl, kV, dc, pm, an, cd, ct, l, cc⟩ := c.def_ 38 (D := D_law_odd) rfl
  have F := fun_mk (st := s_law_odd) l cc (c.e.fact 82 (f := .keep "_law_odd") rfl)
  exact ⟨{ a := _, fd := _, F := F, g := He.glo_ok X G (c.e.fact 83 (f := .glo "_law_odd") rfl), b := F.binds (ps := ["_law_one"]) fun _ _ _ _ _ _ us hl => match us, hl with | [_], _ => rfl }⟩
theorem qd_law_spoilt {K : PySem.W.Frag} {h : Heap} {mg : Str → Option Value} (X : K.In h) (G : h.Ns mainGlobals mg) (c : SaysP hfa hfn hex K) : Nonempty (DefAt K mg "_law_spoilt" "_law_spoilt" s_law_spoilt ["_law_line", "_law_row"]) := by
  obtain ⟨oc, od, osl, kV, dc, pm, an, cd, ct, l, cc⟩ := c.def_ 39 (D := D_law_spoilt) rfl
  have F := fun_mk (st := s_law_spoilt) l cc (c.e.fact 84 (f := .keep "_law_spoilt") rfl)
  exact ⟨{ a := _, fd := _, F := F, g := He.glo_ok X G (c.e.fact 85 (f := .glo "_law_spoilt") rfl), b := F.binds (ps := ["_law_line", "_law_row"]) fun _ _ _ _ _ _ us hl => match us, hl with | [_, _], _ => rfl }⟩
theorem qd_law {K : PySem.W.Frag} {h : Heap} {mg : Str → Option Value} (X : K.In h) (G : h.Ns mainGlobals mg) (c : SaysP hfa hfn hex K) : Nonempty (DefAt K mg "law" "law" s_law ["_law_script"]) := by
  obtain ⟨oc, od, osl, kV, dc, pm, an, cd, ct, l, cc⟩ := c.def_ 40 (D := D_law) rfl
  have F := fun_mk (st := s_law) l cc (c.e.fact 86 (f := .keep "law") rfl)
  exact ⟨{ a := _, fd := _, F := F, g := He.glo_ok X G (c.e.fact 87 (f := .glo "law") rfl), b := F.binds (ps := ["_law_script"]) fun _ _ _ _ _ _ us hl => match us, hl with | [_], _ => rfl }⟩
theorem tx_of {K : PySem.W.Frag} {h : Heap} {mg : Str → Option Value} (X : K.In h) (G : h.Ns mainGlobals mg) (c : SaysP hfa hfn hex K) : Nonempty (Tx K mg) := by
  obtain ⟨⟨e_BadSum, ee_BadSum⟩⟩ := qe_BadSum X G c
  obtain ⟨⟨e_NoPost, ee_NoPost⟩⟩ := qe_NoPost X G c
  obtain ⟨⟨e_MeadError, ee_MeadError⟩⟩ := qe_MeadError X G c
  obtain ⟨t_MOST_FIGURES, ht_MOST_FIGURES⟩ := He.int_ok X G (c.e.fact 100 (f := .int "MOST_FIGURES" (400)) rfl)
  obtain ⟨t_FIGURES, ht_FIGURES⟩ := He.str_ok X G (c.e.fact 101 (f := .str "FIGURES" "0123456789") rfl)
  exact ⟨{
    d_whole_of := Classical.choice (qd_whole_of X G c),
    d_settled := Classical.choice (qd_settled X G c),
    d_row_of := Classical.choice (qd_row_of X G c),
    d_term_text := Classical.choice (qd_term_text X G c),
    d_sum_text := Classical.choice (qd_sum_text X G c),
    d_signed_of := Classical.choice (qd_signed_of X G c),
    d_mark_of := Classical.choice (qd_mark_of X G c),
    d_term_of := Classical.choice (qd_term_of X G c),
    d_sum_read := Classical.choice (qd_sum_read X G c),
    d_tie_of := Classical.choice (qd_tie_of X G c),
    d_crosses := Classical.choice (qd_crosses X G c),
    d_sides := Classical.choice (qd_sides X G c),
    d_ties := Classical.choice (qd_ties X G c),
    d_two_posts := Classical.choice (qd_two_posts X G c),
    d_nearness := Classical.choice (qd_nearness X G c),
    d_across := Classical.choice (qd_across X G c),
    d_neighbours := Classical.choice (qd_neighbours X G c),
    d_onward := Classical.choice (qd_onward X G c),
    d_ways := Classical.choice (qd_ways X G c),
    d_row_of_way := Classical.choice (qd_row_of_way X G c),
    d_told := Classical.choice (qd_told X G c),
    d_law_flow := Classical.choice (qd_law_flow X G c),
    d_law_whole := Classical.choice (qd_law_whole X G c),
    d_law_pair := Classical.choice (qd_law_pair X G c),
    d_law_ears := Classical.choice (qd_law_ears X G c),
    d_law_ropes := Classical.choice (qd_law_ropes X G c),
    d_law_tuple := Classical.choice (qd_law_tuple X G c),
    d_law_sum := Classical.choice (qd_law_sum X G c),
    d_law_row_times := Classical.choice (qd_law_row_times X G c),
    d_law_settled := Classical.choice (qd_law_settled X G c),
    d_law_draw_sum := Classical.choice (qd_law_draw_sum X G c),
    d_law_two := Classical.choice (qd_law_two X G c),
    d_law_number := Classical.choice (qd_law_number X G c),
    d_law_signed := Classical.choice (qd_law_signed X G c),
    d_law_mark := Classical.choice (qd_law_mark X G c),
    d_law_term := Classical.choice (qd_law_term X G c),
    d_law_due := Classical.choice (qd_law_due X G c),
    d_law_text := Classical.choice (qd_law_text X G c),
    d_law_odd := Classical.choice (qd_law_odd X G c),
    d_law_spoilt := Classical.choice (qd_law_spoilt X G c),
    d_law := Classical.choice (qd_law X G c),
    m_int := He.free_ok X G (c.e.fact 88 (f := .free "int") rfl),
    m_len := He.free_ok X G (c.e.fact 89 (f := .free "len") rfl),
    m_sorted := He.free_ok X G (c.e.fact 90 (f := .free "sorted") rfl),
    m_tuple := He.free_ok X G (c.e.fact 91 (f := .free "tuple") rfl),
    m_str := He.free_ok X G (c.e.fact 92 (f := .free "str") rfl),
    m_min := He.free_ok X G (c.e.fact 93 (f := .free "min") rfl),
    m_max := He.free_ok X G (c.e.fact 94 (f := .free "max") rfl),
    m_range := He.free_ok X G (c.e.fact 95 (f := .free "range") rfl),
    m_abs := He.free_ok X G (c.e.fact 96 (f := .free "abs") rfl),
    m_isinstance := He.free_ok X G (c.e.fact 97 (f := .free "isinstance") rfl),
    m_bool := He.free_ok X G (c.e.fact 98 (f := .free "bool") rfl),
    m_list := He.free_ok X G (c.e.fact 99 (f := .free "list") rfl),
    e_BadSum := e_BadSum,
    e_NoPost := e_NoPost,
    e_MeadError := e_MeadError,
    u_MOST_FIGURES := .int (400) t_MOST_FIGURES, g_MOST_FIGURES := ht_MOST_FIGURES, r_MOST_FIGURES := ⟨t_MOST_FIGURES, rfl⟩,
    u_FIGURES := .str "0123456789" t_FIGURES, g_FIGURES := ht_FIGURES, r_FIGURES := ⟨t_FIGURES, rfl⟩,
    ex1_BadSum := by rw [ee_BadSum]; exact (c.d 6 (p := PySem.W.findIn K (.ref (He.ga K "BadSum")) "__getattribute__" = some (some (.builtin "BaseException.__getattribute__"))) rfl),
    ex2_BadSum := by rw [ee_BadSum]; exact (c.d 7 (p := PySem.W.findIn K (.ref (He.ga K "BadSum")) "__getattr__" = some none) rfl),
    ex3_BadSum := by rw [ee_BadSum]; exact (c.d 8 (p := PySem.W.hasDictIn K (He.ga K "BadSum") = true) rfl),
    ex4_BadSum := by rw [ee_BadSum]; exact (c.d 9 (p := PySem.W.findIn K (.ref (He.ga K "BadSum")) "__class__" = some (some (.builtin "object.__class__"))) rfl),
    ex5_BadSum := by exact (c.d 10 (p := PySem.W.specialIn K (.builtin "object.__class__") "__get__" = some (some (.builtin "getset_descriptor.__get__"))) rfl),
    ex6_BadSum := by exact (c.d 11 (p := PySem.W.takesIn K (.builtin "object.__class__") = some true) rfl),
    ex7_BadSum := by rw [ee_BadSum]; exact (c.d 12 (p := PySem.W.mroIn K (He.ga K "BadSum") (.type "object") = some true) rfl),
    kit_BadSum_MeadError := by rw [ee_BadSum]; rw [ee_MeadError]; exact (c.d 13 (p := PySem.W.kitOne K (.ref (He.ga K "BadSum")) (.ref (He.ga K "MeadError")) = some true) rfl),
    exm_BadSum_MeadError := by rw [ee_BadSum]; rw [ee_MeadError]; exact (c.d 14 (p := PySem.W.exmOne K (.ref (He.ga K "BadSum")) (.ref (He.ga K "MeadError")) = some true) rfl),
    kit_BadSum_BadSum := by rw [ee_BadSum]; exact (c.d 15 (p := PySem.W.kitOne K (.ref (He.ga K "BadSum")) (.ref (He.ga K "BadSum")) = some true) rfl),
    exm_BadSum_BadSum := by rw [ee_BadSum]; exact (c.d 16 (p := PySem.W.exmOne K (.ref (He.ga K "BadSum")) (.ref (He.ga K "BadSum")) = some true) rfl) }⟩
theorem all_mk {l : PySem.W.OpenLaw} {w : World} {K : PySem.W.Frag} {mg : Str → Option Value} {fa : Addr} (hfa : mg "law" = some (.ref fa)) (T : Tx K mg) :
    ∃ fd : FuncData, (∀ (s : Shared) (v : Value), BindsTo s fd ⟨[v], []⟩ [("_law_script", v)]) ∧ ∀ b : Heap, K.In b → b.Ns mainGlobals mg → FnOk l.prog w K mg b CX0 7 fa fd ["_law_script"] (spLaw K) := by
  have e := hfa.symm.trans T.g_law
  cases e
  refine ⟨T.fd_law, fun s v => ?_, fun b _ _ => ok_law (base := b) T⟩
  obtain ⟨oc, od, kV, doc, pm, an, cdv, ct, osl, e, lk, hcd⟩ := T.F_law.ex
  rw [e]
  exact .of_eq rfl
end Pm
open PySem PySem.W PySem.Calls PyProof.Rows
set_option maxHeartbeats 0 in
theorem PySem.Challenge.cw_postmead_k07_letters_written_holds : PySem.Challenge.rw_postmead_k07_letters_written.Holds := by
  w_on; o_law
  refine HandSHeadRun.head_any (r := PySem.W.OpenLaw.row PySem.Challenge.rw_postmead_k07_letters_written) (q := PySem.W.view (PySem.W.OpenLaw.row PySem.Challenge.rw_postmead_k07_letters_written).prog [51]) (H := Pm.hHook) (ob := Pm.hOb) (M := 40000) (loose := Pm.looseA) (d := HandSHeadRun.topDef (PySem.W.OpenLaw.row PySem.Challenge.rw_postmead_k07_letters_written).prog 51) (kwd := []) Pm.obT_eq
    (by kernel_rfl) (fun s => by kernel_rfl) Pm.hRun (by kernel_rfl) (by kernel_rfl) (by kernel_rfl) (by rfl) (by first | assumption | decide +kernel) (by decide +kernel) ⟨rfl, rfl, rfl, rfl, rfl, by decide +kernel⟩ ?hw ?hc
  case hw => w_witness2
  case hc =>
    refine L2.walk_ofE (l := PySem.Challenge.rw_postmead_k07_letters_written) (n := 63) (k := 7) (x := "_law_script") (CX := L2.CX0) rfl (by decide) (by kernel_rfl) ⟨rfl, by decide, by decide⟩ ?F (fun _ _ _ _ z => z)
    intro w mg fa h Y G hmg0
    obtain ⟨K, KX, c⟩ := Y
    have hmg : mg ("law" : PySem.Str) = some (.ref fa) := by
      have e : (HandSHeadRun.topDef (PySem.W.OpenLaw.row PySem.Challenge.rw_postmead_k07_letters_written).prog 51).name = ("law" : PySem.Str) := by kernel_rfl
      rw [← e]
      exact hmg0
    obtain ⟨T⟩ := Pm.tx_of KX G c
    obtain ⟨fd, hb, hF⟩ := Pm.all_mk (l := PySem.Challenge.rw_postmead_k07_letters_written) (w := w) hmg T
    exact ⟨K, fd, Pm.spLaw K, KX, hb, fun H a ns hl _ hS => ⟨a, ns, rfl, hS, hl, fun _ => rfl⟩, hF⟩
#print axioms PySem.Challenge.cw_postmead_k07_letters_written_holds
