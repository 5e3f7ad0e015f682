import PyProof.Rows.All
import HandS.DictTup
import HandS.TupLen
import KE.KDictWalk
import KE.KDictCopyH
import KE.KDictOf
import HandS.Style
import HandS.SortInts
import KE.KDictSum
import KE.KDictKeyed
import KE.KeyNested
import HandS.TupAny
import KE.KEqDict
import PyProof.DictFindH
import KE.KDictDisplayH
import HandS.Head0
import HandS.Head1
import HandS.Head2
import HandS.HeadEnd
import HandS.HeadHook1
import HandS.HeadHook2
import Wide.All
import OpenK.AllK
import Wide.FinOn
import PySem.Challenge.RW_postmead_k06_letters_worth
import HandS.ForMost
import HandS.ForExc
import HandS.IsInst
import HandS.Deep
import HandS.Codes
import HandS.SortRule
import HandS.Wide
import HandS.ExcIs
import HandS.TryOnly
import HandS.TupLe
set_option exponentiation.threshold 2000
set_option Elab.async false
set_option linter.all false
set_option maxRecDepth 100000
set_option maxHeartbeats 4000000
namespace Pm
open PySem PySem.Spec PyProof.Rows L2
theorem size_ok {n : Nat} (h : n ≤ 16777216) : n ≤ sizeLine := by rw [sizeLine_eq]; exact h
theorem size_lt {n : Nat} (h : n < 16777216) : n < sizeLine := by rw [sizeLine_eq]; exact h
section
variable {X : Cx} {K : PySem.W.Frag}
theorem ix_listK (e : X.K = K := by rfl) : IxR X (rIxL K) := e ▸ ix_list
theorem ix_tupK (e : X.K = K := by rfl) : IxR X (rIxT K) := e ▸ ix_tup
theorem sl_listK (e : X.K = K := by rfl) : SlR X (rSlL K) := e ▸ sl_list
theorem op_eqDK (hu : X.A.units + 64 < cLine) (e : X.K = K := by rfl) : OpR X (compareOp .Eq) (rEqD K) := e ▸ op_eqD hu
theorem op_neDK (hu : X.A.units + 64 < cLine) (e : X.K = K := by rfl) : OpR X (compareOp .NotEq) (rNeD K) := e ▸ op_neD hu
theorem call_isK (e : X.K = K := by rfl) : CallR X (.builtin "isinstance") (rIsi K) := e ▸ call_isi
theorem k_bm {ex : Expr} {T : String} {r : V → List V → Hp → VK → Prop} {to : TE} {t : TA} (h : PE X ex (tBM X.K T r to t)) (e : X.K = K := by rfl) : PE X ex (tBM K T r to t) := e ▸ h
theorem k_il {tg ex : Expr} {te : TE} (h : PI X tg ex (iList X.K te)) (e : X.K = K := by rfl) : PI X tg ex (iList K te) := e ▸ h
theorem k_it {tg ex : Expr} {te : TE} (h : PI X tg ex (iTup X.K te)) (e : X.K = K := by rfl) : PI X tg ex (iTup K te) := e ▸ h
theorem k_gt {tg : Expr} {n : Nat} {t : TGs} (h : PG X tg (gTup X.K n t)) (e : X.K = K := by rfl) : PG X tg (gTup K n t) := e ▸ h
end
/-- a op1 b op2 c op3 d -/
def tChain3 (r r' r'' : R2) (ta tb tc td : TE) : TE := fun σ H Q => ta σ H fun x H1 => tb σ H1 fun y H2 => r x y H2 fun z H3 => ∃ k, z = .bl k ∧
  (if k = true then tc σ H3 fun w' H4 => r' y w' H4 fun z' H5 => ∃ k', z' = .bl k' ∧ (if k' = true then td σ H5 fun v' H6 => r'' w' v' H6 Q else Q (.bl false) H5) else Q (.bl false) H3)
def rAbs : List V → Hp → VK → Prop := fun xs H Q => ∃ i, xs = [.int i] ∧ Q (.int (if i < 0 then -i else i)) H
theorem c_abs {X : Cx} : CallR X (.builtin "abs") rAbs := call_abs
def rMax2 : List V → Hp → VK → Prop := fun xs H Q => ∃ i j, xs = [.int i, .int j] ∧ Q (.int (if j > i then j else i)) H
def rMin2 : List V → Hp → VK → Prop := fun xs H Q => ∃ i j, xs = [.int i, .int j] ∧ Q (.int (if j < i then j else i)) H
def rLen (K : PySem.W.Frag) : List V → Hp → VK → Prop := fun xs H Q => ∃ p ys, xs = [.ref p] ∧ (SqL K H p ys ∨ SqT K H p ys) ∧ Q (.int ys.length) H
theorem c_len {X : Cx} {K : PySem.W.Frag} (e : X.K = K := by rfl) : CallR X (.builtin "len") (rLen K) := e ▸ call_len_seq
def rInt1 : List V → Hp → VK → Prop := fun xs H Q => (∃ i, xs = [.int i] ∧ Q (.int i) H) ∨ ∃ k, xs = [.bl k] ∧ Q (.int (if k then 1 else 0)) H
theorem c_int1 {X : Cx} : CallR X (.type "int") rInt1 := call_int1
def rListOf (K : PySem.W.Frag) : List V → Hp → VK → Prop := fun xs H Q => ∃ p ys, xs = [.ref p] ∧ (SqL K H p ys ∨ SqT K H p ys) ∧ ∀ l, H l = none → Q (.ref l) (upd H l (.lst ys))
theorem c_listOf {X : Cx} {K : PySem.W.Frag} (e : X.K = K := by rfl) : CallR X (.type "list") (rListOf K) := e ▸ call_list_of
def rTupOf (K : PySem.W.Frag) : List V → Hp → VK → Prop := fun xs H Q => ∃ p ys, xs = [.ref p] ∧ ((SqL K H p ys ∧ ∀ l, H l = none → Q (.ref l) (upd H l (.tup ys))) ∨ (SqT K H p ys ∧ Q (.ref p) H))
theorem c_tupOf {X : Cx} {K : PySem.W.Frag} (e : X.K = K := by rfl) : CallR X (.type "tuple") (rTupOf K) := e ▸ call_tuple_of
def TupK (Q : VK) : List V → Hp → Prop := fun xs H1 => xs.length ≤ sizeLine ∧ ∀ p, H1 p = none → Q (.ref p) (upd H1 p (.tup xs))
def LstK (Q : VK) : List V → Hp → Prop := fun xs H1 => xs.length ≤ sizeLine ∧ ∀ p, H1 p = none → Q (.ref p) (upd H1 p (.lst xs))
/-- isinstance(e, c) of the exception at a that an except suite holds (its class cls, its dict d) -/
def rIsX (K : PySem.W.Frag) (cls : Value) (d : Option Addr) (a : Addr) : List V → Hp → VK → Prop := fun xs H Q => ∃ (D : Addr) (c : V) (cv : Value) (b : Bool), cls = .ref D ∧ d = none ∧ ExcC K D ∧ xs = [.ref a, c] ∧ (∀ u, RelV c u → u = cv) ∧ PySem.W.kitOne K (.ref D) cv = some b ∧ Q (.bl b) H
theorem c_isX {X : Cx} {K : PySem.W.Frag} {a : Addr} {oe : Obj} {cls : Value} {d : Option Addr} {pn : List (Addr × Obj)} (hz : Zc cls d oe) (hf : ∃ vs, oe.data = .fields vs) (e : X.K = K := by rfl) : CallR (X.suite a ((a, oe) :: pn)) (.builtin "isinstance") (rIsX K cls d a) := by
  subst e
  intro pins s σ H xs us Q I r h
  obtain ⟨D, c, cv, b, rfl, rfl, C, ex, hc, k, q⟩ := h
  exact call_isE C hz hf pins s σ H xs us Q I r ⟨c, cv, b, ex, hc, k, q⟩
/-- what is asked of a for's body, once what is walked is there -/
def ForB (g : TG) (t : TS) (nx : L2.St → Hp → Prop) (rt : VK) (σ : L2.St) : It → Hp → Prop := fun J H1 => ∃ W : Nat → Nat → L2.St → Hp → Prop, (∃ m, W 0 m σ H1) ∧ ∀ i m σ H, W i m σ H →
  (J.stop i H ∧ nx σ H) ∨ (J.go i H ∧ ∃ N : L2.St → Hp → Prop, (∀ σ' H', N σ' H' → ∃ m', m' < m ∧ W (i + 1) m' σ' H') ∧ ∀ x H', J.yld i H x H' → g x σ H' fun σ2 H2 => t ⟨N, rt, nx, N⟩ σ2 H2)
def WhB (t : TS) (nx : L2.St → Hp → Prop) (rt : VK) (Pv : Nat → L2.St → Hp → Prop) (m : Nat) (σ : L2.St) : Bool → Hp → Prop := fun b H1 => if b = true then ∃ N : L2.St → Hp → Prop, (∀ σ' H', N σ' H' → ∃ m', m' < m ∧ Pv m' σ' H') ∧ t ⟨N, rt, nx, N⟩ σ H1 else nx σ H1
def ParK (i j : Nat) (nx : L2.St → Hp → Prop) (σ : L2.St) : List V → Hp → Prop := fun vs H1 => ∃ v w, vs = [v, w] ∧ nx ((σ.set i (some v)).set j (some w)) H1
def PartK (O : Option Int → Hp → Prop) : VK := fun x H1 => ∃ i, x = .int i ∧ O (some i) H1
def DPK (nx : L2.St → Hp → Prop) (σ : L2.St) (v x : V) : VK := fun y H3 => ∃ a H4, x = .ref a ∧ DPut H3 a y v H4 ∧ nx σ H4
def DInK (y : V) (Q : VK) : VK := fun x H2 => ∃ a o, x = .ref a ∧ DGet H2 a y o ∧ Q (.bl o.isSome) H2
def DNotInK (y : V) (Q : VK) : VK := fun x H2 => ∃ a o, x = .ref a ∧ DGet H2 a y o ∧ Q (.bl (!o.isSome)) H2
def DGK (x : V) (Q : VK) : VK := fun y H2 => ∃ a v, x = .ref a ∧ DGet H2 a y (some v) ∧ Q v H2
def RdL (K : PySem.W.Frag) (R : It → Hp → Prop) : VK := fun x H1 => ∃ a, x = .ref a ∧ (∃ xs, SqL K H1 a xs) ∧ R (Itl K a) H1
def RdT (K : PySem.W.Frag) (R : It → Hp → Prop) : VK := fun x H1 => ∃ a, x = .ref a ∧ (∃ xs, SqT K H1 a xs) ∧ R (Itt K a) H1
def Rg1 (R : It → Hp → Prop) : List V → Hp → Prop := fun vs H1 => ∃ j : Int, vs = [.int j] ∧ -(2 ^ 62) ≤ j ∧ j < 2 ^ 62 ∧ R (Itr 0 j.toNat) H1
def Rg2 (R : It → Hp → Prop) : List V → Hp → Prop := fun vs H1 => ∃ i j : Int, vs = [.int i, .int j] ∧ (-(2 ^ 62) ≤ i ∧ i < 2 ^ 62 ∧ -(2 ^ 62) ≤ j ∧ j < 2 ^ 62) ∧ R (Itr i (j - i).toNat) H1
/-- what is asked of a list comprehension, once what is walked is there -/
def LcB (g : TG) (tt : TT) (te : TE) (vs : List Nat) (σ : L2.St) (Q : VK) : It → Hp → Prop := fun J H1 => ∀ D, H1 D = none → ∃ W : Nat → Nat → Hp → Prop, (∃ m, W 0 m (upd H1 D (.lst []))) ∧ ∀ i m H, W i m H →
  (J.stop i H ∧ Q (.ref D) H) ∨ (J.go i H ∧ ∃ Nx : Hp → Prop, (∀ H', Nx H' → ∃ m', m' < m ∧ W (i + 1) m' H') ∧ ∀ x H', J.yld i H x H' → g x (wipe σ vs) H' fun σ2 H2 => wipe σ2 vs = wipe σ vs ∧ tt σ2 H2 fun b H3 =>
    if b = true then te σ2 H3 fun y H4 => ∃ acc, H4 D = some (.lst acc) ∧ acc.length < sizeLine ∧ Nx (upd H4 D (.lst (acc ++ [y]))) else Nx H3)
/-- a turn of a comprehension: the item put behind the list at D -/
def LcPut (D : Addr) (Nx : Hp → Prop) : VK := fun y H4 => ∃ acc, H4 D = some (.lst acc) ∧ acc.length < sizeLine ∧ Nx (upd H4 D (.lst (acc ++ [y])))
def LcTurn (tt : TT) (te : TE) (vs : List Nat) (σ : L2.St) (D : Addr) (Nx : Hp → Prop) : L2.St → Hp → Prop := fun σ2 H2 => wipe σ2 vs = wipe σ vs ∧ tt σ2 H2 fun b H3 => if b = true then te σ2 H3 (LcPut D Nx) else Nx H3
section
variable {nx bk ct : L2.St → Hp → Prop} {rt : VK} {σ : L2.St} {H : Hp} {t u : TS} {te ta tb tc : TE} {g : TG} {Q : VK} {B : Bool → Hp → Prop} {c c' : TT} {L : List V → Hp → Prop}
theorem w_seq (h : t ⟨u ⟨nx, rt, bk, ct⟩, rt, bk, ct⟩ σ H) : tSeq t u ⟨nx, rt, bk, ct⟩ σ H := h
theorem w_cut (Mid : L2.St → Hp → Prop) (h : t ⟨Mid, rt, bk, ct⟩ σ H) (h2 : ∀ σ' H', Mid σ' H' → u ⟨nx, rt, bk, ct⟩ σ' H') : C8.tCut t u ⟨nx, rt, bk, ct⟩ σ H := ⟨Mid, h, h2⟩
theorem w_asg (h : te σ H fun x H1 => g x σ H1 nx) : tAsg te g ⟨nx, rt, bk, ct⟩ σ H := h
theorem w_drop (h : te σ H fun _ H1 => nx σ H1) : tDrop te ⟨nx, rt, bk, ct⟩ σ H := h
theorem w_ret (h : te σ H rt) : tRet te ⟨nx, rt, bk, ct⟩ σ H := h
theorem w_retN (h : rt .non H) : tRetN ⟨nx, rt, bk, ct⟩ σ H := h
theorem w_next (h : nx σ H) : tNext ⟨nx, rt, bk, ct⟩ σ H := h
theorem w_brk (h : bk σ H) : tBreak ⟨nx, rt, bk, ct⟩ σ H := h
theorem w_cont (h : ct σ H) : tCont ⟨nx, rt, bk, ct⟩ σ H := h
theorem w_if (h : c σ H fun b H1 => if b = true then t ⟨nx, rt, bk, ct⟩ σ H1 else u ⟨nx, rt, bk, ct⟩ σ H1) : tIfS c t u ⟨nx, rt, bk, ct⟩ σ H := h
theorem w_par {i j : Nat} {t : TA} (h : t σ H (ParK i j nx σ)) : tPar i j t ⟨nx, rt, bk, ct⟩ σ H := h
theorem w_par2 {v w : V} {i j : Nat} (h : nx ((σ.set i (some v)).set j (some w)) H) : ParK i j nx σ [v, w] H := ⟨v, w, rfl, h⟩
theorem w_gname {v : V} {i : Nat} {R : L2.St → Hp → Prop} (h : R (σ.set i (some v)) H) : gName i v σ H R := h
theorem w_gtup {K : PySem.W.Frag} {n : Nat} {t : TGs} {a : Addr} {xs : List V} {R : L2.St → Hp → Prop} (hl : SqT K H a xs) (e : xs.length = n) (h : t xs σ H R) : gTup K n t (.ref a) σ H R := ⟨a, xs, rfl, hl, e, h⟩
theorem w_gcons {t : TG} {u : TGs} {v : V} {r : List V} {R : L2.St → Hp → Prop} (h : t v σ H fun σ' H' => u r σ' H' R) : gCons t u (v :: r) σ H R := ⟨v, r, rfl, h⟩
theorem w_gnil {R : L2.St → Hp → Prop} (h : R σ H) : gNil [] σ H R := ⟨rfl, h⟩
theorem w_gsub {to ti : TE} {t : TSet} {v : V} {R : L2.St → Hp → Prop} (h : to σ H fun o H1 => ti σ H1 fun i H2 => t o i v H2 fun H3 => R σ H3) : gSub to ti t v σ H R := h
theorem w_var {i : Nat} {v : V} (e : σ[i]? = some (some v)) (h : Q v H) : tVar i σ H Q := ⟨v, e, h⟩
theorem w_c {v : V} (h : Q v H) : tC v σ H Q := h
theorem w_op {r : R2} (h : ta σ H fun x H1 => tb σ H1 fun y H2 => r x y H2 Q) : tOp r ta tb σ H Q := h
theorem w_un {r : V → Hp → VK → Prop} (h : ta σ H fun x H1 => r x H1 Q) : tUn r ta σ H Q := h
theorem w_i0 {k : Int → Int → V} {i j : Int} (h : Q (k i j) H) : rI0 k (.int i) (.int j) H Q := ⟨i, j, rfl, rfl, h⟩
theorem w_i {C : Int → Int → Prop} {k : Int → Int → V} {i j : Int} (hc : C i j) (h : Q (k i j) H) : rI C k (.int i) (.int j) H Q := ⟨i, j, rfl, rfl, hc, h⟩
theorem w_u {k : Int → V} {i : Int} (h : Q (k i) H) : rU k (.int i) H Q := ⟨i, rfl, h⟩
theorem w_eqi {i j : Int} (h : Q (.bl (decide (i = j))) H) : rEq (.int i) (.int j) H Q := by
  refine ⟨rfl, ?_⟩
  have e : decide (V.int i = V.int j) = decide (i = j) := by simp
  rw [e]; exact h
theorem w_nei {i j : Int} (h : Q (.bl (!decide (i = j))) H) : rNe (.int i) (.int j) H Q := by
  refine ⟨rfl, ?_⟩
  have e : decide (V.int i = V.int j) = decide (i = j) := by simp
  rw [e]; exact h
theorem w_eqb {i j : Bool} (h : Q (.bl (i == j)) H) : rEq (.bl i) (.bl j) H Q := by
  refine ⟨rfl, ?_⟩
  have e : decide (V.bl i = V.bl j) = (i == j) := by cases i <;> cases j <;> rfl
  rw [e]; exact h
theorem w_neb {i j : Bool} (h : Q (.bl (!(i == j))) H) : rNe (.bl i) (.bl j) H Q := by
  refine ⟨rfl, ?_⟩
  have e : decide (V.bl i = V.bl j) = (i == j) := by cases i <;> cases j <;> rfl
  rw [e]; exact h
theorem w_eqs {i j : Str} (h : Q (.bl (decide (i = j))) H) : rEq (.str i) (.str j) H Q := by
  refine ⟨rfl, ?_⟩
  have e : decide (V.str i = V.str j) = decide (i = j) := by simp
  rw [e]; exact h
theorem w_cb {r : List V → Hp → VK → Prop} {t : TA} (h : t σ H fun vs H1 => r vs H1 Q) : tCB r t σ H Q := h
theorem w_nil (h : L [] H) : tNil σ H L := h
theorem w_cons {t : TA} (h : ta σ H fun x H1 => t σ H1 fun xs H2 => L (x :: xs) H2) : tCons ta t σ H L := h
theorem w_call {sp : Sp} {E : XK} {t : TA} (h : t σ H fun vs H1 => sp (vs ++ []) H1 Q E) : tCall sp [] E t σ H Q := h
theorem w_tup {t : TA} (h : t σ H (TupK Q)) : tTup t σ H Q := h
theorem w_lst {t : TA} (h : t σ H (LstK Q)) : tLst t σ H Q := h
theorem w_newT {xs : List V} (h : ∀ p, H p = none → Q (.ref p) (upd H p (.tup xs))) (hz : xs.length ≤ sizeLine := by exact Pm.size_ok (Nat.le_of_ble_eq_true rfl)) : TupK Q xs H := ⟨hz, h⟩
theorem w_newL {xs : List V} (h : ∀ p, H p = none → Q (.ref p) (upd H p (.lst xs))) (hz : xs.length ≤ sizeLine := by exact Pm.size_ok (Nat.le_of_ble_eq_true rfl)) : LstK Q xs H := ⟨hz, h⟩
theorem w_test (h : te σ H fun x H' => ∃ k, x = .bl k ∧ B k H') : tTest te σ H B := h
theorem w_b (h : te σ H fun x H' => ∃ k, x = .bl k ∧ B k H') : tB te σ H B := h
theorem w_bl {k : Bool} (h : B k H) : ∃ k', V.bl k = .bl k' ∧ B k' H := ⟨k, rfl, h⟩
theorem w_and (h : c σ H fun b H1 => if b = true then c' σ H1 B else B false H1) : tAnd c c' σ H B := h
theorem w_or (h : c σ H fun b H1 => if b = true then B true H1 else c' σ H1 B) : tOr c c' σ H B := h
theorem w_not (h : c σ H fun b H1 => B (!b) H1) : tNot c σ H B := h
theorem w_andV (h : ta σ H fun x H1 => ∃ k, x = .bl k ∧ if k = true then tb σ H1 Q else Q (.bl false) H1) : tAndV ta tb σ H Q := h
theorem w_orV (h : ta σ H fun x H1 => ∃ k, x = .bl k ∧ if k = true then Q (.bl true) H1 else tb σ H1 Q) : tOrV ta tb σ H Q := h
theorem w_notV (h : ta σ H fun x H1 => ∃ k, x = .bl k ∧ Q (.bl (!k)) H1) : tNotV ta σ H Q := h
theorem w_ifE (h : c σ H fun b H1 => if b = true then ta σ H1 Q else tb σ H1 Q) : tIf c ta tb σ H Q := h
theorem w_chain {r r' : R2} (h : ta σ H fun x H1 => tb σ H1 fun y H2 => r x y H2 fun z H3 => ∃ k, z = .bl k ∧ (if k = true then tc σ H3 fun w H4 => r' y w H4 Q else Q (.bl false) H3)) : tChain r r' ta tb tc σ H Q := h
theorem w_chain3 {r r' r'' : R2} {td : TE} (h : ta σ H fun x H1 => tb σ H1 fun y H2 => r x y H2 fun z H3 => ∃ k, z = .bl k ∧
  (if k = true then tc σ H3 fun w' H4 => r' y w' H4 fun z' H5 => ∃ k', z' = .bl k' ∧ (if k' = true then td σ H5 fun v' H6 => r'' w' v' H6 Q else Q (.bl false) H5) else Q (.bl false) H3)) : tChain3 r r' r'' ta tb tc td σ H Q := h
theorem w_blx {k : Bool} {R : Bool → Prop} (h : R k) : ∃ k', V.bl k = .bl k' ∧ R k' := ⟨k, rfl, h⟩
theorem w_iteT {A C : Prop} (h : A) : if true = true then A else C := by rw [if_pos rfl]; exact h
theorem w_iteF {A C : Prop} (h : C) : if false = true then A else C := by rw [if_neg Bool.false_ne_true]; exact h
theorem w_iteN1 {A C : Prop} (h : C) : if (!true) = true then A else C := w_iteF h
theorem w_iteN0 {A C : Prop} (h : A) : if (!false) = true then A else C := w_iteT h
theorem w_ite {p A C : Prop} [Decidable p] (h1 : p → A) (h2 : ¬ p → C) : if decide p = true then A else C := by
  by_cases h : p
  · rw [decide_eq_true h, if_pos rfl]; exact h1 h
  · rw [decide_eq_false h, if_neg Bool.false_ne_true]; exact h2 h
theorem w_iteN {p A C : Prop} [Decidable p] (h1 : ¬ p → A) (h2 : p → C) : if (!decide p) = true then A else C := by
  by_cases h : p
  · rw [decide_eq_true h]; exact w_iteF (h2 h)
  · rw [decide_eq_false h]; exact w_iteT (h1 h)
theorem w_abs {i : Int} (h : Q (.int (if i < 0 then -i else i)) H) : rAbs [.int i] H Q := ⟨i, rfl, h⟩
theorem w_max {i j : Int} (h : Q (.int (max i j)) H) : rMax2 [V.int i, V.int j] H Q := by
  refine ⟨i, j, rfl, ?_⟩
  have e : (if j > i then j else i) = max i j := by rw [Int.max_def]; split <;> split <;> omega
  rw [e]; exact h
theorem w_min {i j : Int} (h : Q (.int (min i j)) H) : rMin2 [V.int i, V.int j] H Q := by
  refine ⟨i, j, rfl, ?_⟩
  have e : (if j < i then j else i) = min i j := by rw [Int.min_def]; split <;> split <;> omega
  rw [e]; exact h
theorem w_mul1 {i j : Int} (h : -(2 ^ 64) < i ∧ i < 2 ^ 64) : CMul i j := .inl h
theorem w_mul2 {i j : Int} (h : -(2 ^ 64) < j ∧ j < 2 ^ 64) : CMul i j := .inr h
theorem w_ixL {K : PySem.W.Frag} {p : Addr} {xs : List V} {i : Int} {v : V} (hl : SqL K H p xs) (e : atI xs i = some v) (h : Q v H) : rIxL K (.ref p) (.int i) H Q := ⟨p, xs, i, v, rfl, rfl, hl, e, h⟩
theorem w_ixT {K : PySem.W.Frag} {p : Addr} {xs : List V} {i : Int} {v : V} (hl : SqT K H p xs) (e : atI xs i = some v) (h : Q v H) : rIxT K (.ref p) (.int i) H Q := ⟨p, xs, i, v, rfl, rfl, hl, e, h⟩
theorem w_bm {K : PySem.W.Frag} {T : String} {r : V → List V → Hp → VK → Prop} {t : TA} (h : ta σ H fun x H1 => tyV K T x H1 ∧ t σ H1 fun xs H2 => r x xs H2 Q) : tBM K T r ta t σ H Q := h
theorem w_bm0 {K : PySem.W.Frag} {T : String} {r : V → List V → Hp → VK → Prop} (h : ta σ H fun x H1 => tyV K T x H1 ∧ r x [] H1 Q) : tBM0 K T r ta σ H Q := h
theorem w_append {l : Addr} {xs : List V} {y : V} (hl : H l = some (.lst xs)) (hz : xs.length < sizeLine) (h : Q .non (upd H l (.lst (xs ++ [y])))) : rAppend (.ref l) [y] H Q := ⟨l, xs, y, rfl, rfl, hl, hz, h⟩
theorem w_len {K : PySem.W.Frag} {p : Addr} {ys : List V} (hl : SqL K H p ys ∨ SqT K H p ys) (h : Q (.int ys.length) H) : rLen K [V.ref p] H Q := ⟨p, ys, rfl, hl, h⟩
theorem w_lenL {K : PySem.W.Frag} {p : Addr} {ys : List V} (hl : SqL K H p ys) (h : Q (.int ys.length) H) : rLen K [V.ref p] H Q := ⟨p, ys, rfl, .inl hl, h⟩
theorem w_lenT {K : PySem.W.Frag} {p : Addr} {ys : List V} (hl : SqT K H p ys) (h : Q (.int ys.length) H) : rLen K [V.ref p] H Q := ⟨p, ys, rfl, .inr hl, h⟩
theorem w_int1 {b : Bool} (h : Q (.int (if b then 1 else 0)) H) : rInt1 [.bl b] H Q := .inr ⟨b, rfl, h⟩
theorem w_listOf {K : PySem.W.Frag} {p : Addr} {ys : List V} (hl : SqL K H p ys) (h : ∀ l, H l = none → Q (.ref l) (upd H l (.lst ys))) : rListOf K [.ref p] H Q := ⟨p, ys, rfl, .inl hl, h⟩
theorem w_tupOf {K : PySem.W.Frag} {p : Addr} {ys : List V} (hl : SqL K H p ys) (h : ∀ l, H l = none → Q (.ref l) (upd H l (.tup ys))) : rTupOf K [.ref p] H Q := ⟨p, ys, rfl, .inl ⟨hl, h⟩⟩
theorem w_sl {r : V → Option Int → Option Int → Hp → VK → Prop} {tl th : TO} (h : te σ H fun x H1 => tl σ H1 fun l H2 => th σ H2 fun u H3 => r x l u H3 Q) : tSl r te tl th σ H Q := h
theorem w_noPart {O : Option Int → Hp → Prop} (h : O none H) : tNoPart σ H O := h
theorem w_part {O : Option Int → Hp → Prop} (h : te σ H (PartK O)) : tPart te σ H O := h
theorem w_partK {O : Option Int → Hp → Prop} {i : Int} (h : O (some i) H) : PartK O (.int i) H := ⟨i, rfl, h⟩
theorem w_slL {K : PySem.W.Frag} {a : Addr} {xs : List V} {lo hi : Option Int} (hl : SqL K H a xs) (h : ∀ p, H p = none → Q (.ref p) (upd H p (.lst (cutV xs lo hi)))) : rSlL K (.ref a) lo hi H Q := ⟨a, xs, rfl, hl, h⟩
theorem w_dput {td ty tv : TE} (h : tv σ H fun v H1 => td σ H1 fun x H2 => ty σ H2 (DPK nx σ v x)) : sDPut td ty tv ⟨nx, rt, bk, ct⟩ σ H := h
theorem w_dpT {a b : Addr} {kvs : List (List L2.Key × V)} {k : List L2.Key} {v : V} (h1 : H a = some (.dT kvs)) (h2 : H b = some (.tup (k.map kV))) (hl : kvs.length < sizeLine) (h : nx σ (upd H a (.dT (putK kvs k v)))) : DPK nx σ v (.ref a) (.ref b) H := ⟨a, _, rfl, DPut.t h1 h2 hl, h⟩
theorem w_din {ty td : TE} (h : ty σ H fun y H1 => td σ H1 (DInK y Q)) : tDIn ty td σ H Q := h
theorem w_dnotin {ty td : TE} (h : ty σ H fun y H1 => td σ H1 (DNotInK y Q)) : tDNotIn ty td σ H Q := h
theorem w_dniT {a b : Addr} {kvs : List (List L2.Key × V)} {k : List L2.Key} (h1 : H a = some (.dT kvs)) (h2 : H b = some (.tup (k.map kV))) (h : Q (.bl (!(valV kvs k).isSome)) H) : DNotInK (.ref b) Q (.ref a) H := ⟨a, _, rfl, DGet.t h1 h2, h⟩
theorem w_dget {td ty : TE} (h : td σ H fun x H1 => ty σ H1 (DGK x Q)) : tDGet td ty σ H Q := h
theorem w_dgT {a b : Addr} {kvs : List (List L2.Key × V)} {k : List L2.Key} {v : V} (h1 : H a = some (.dT kvs)) (h2 : H b = some (.tup (k.map kV))) (e : valV kvs k = some v) (h : Q v H) : DGK (.ref a) Q (.ref b) H := ⟨a, v, rfl, by rw [← e]; exact DGet.t h1 h2, h⟩
theorem w_for {wi : TI} (h : wi σ H (ForB g t nx rt σ)) : tFor wi g t ⟨nx, rt, bk, ct⟩ σ H := h
theorem w_iList {K : PySem.W.Frag} {R : It → Hp → Prop} (h : te σ H (RdL K R)) : iList K te σ H R := h
theorem w_iTup {K : PySem.W.Frag} {R : It → Hp → Prop} (h : te σ H (RdT K R)) : iTup K te σ H R := h
theorem w_rdL {K : PySem.W.Frag} {R : It → Hp → Prop} {a : Addr} {xs : List V} (hl : SqL K H a xs) (h : R (Itl K a) H) : RdL K R (.ref a) H := ⟨a, rfl, ⟨xs, hl⟩, h⟩
theorem w_rdT {K : PySem.W.Frag} {R : It → Hp → Prop} {a : Addr} {xs : List V} (hl : SqT K H a xs) (h : R (Itt K a) H) : RdT K R (.ref a) H := ⟨a, rfl, ⟨xs, hl⟩, h⟩
theorem w_iRng1 {t : TA} {R : It → Hp → Prop} (h : t σ H (Rg1 R)) : iRng1 t σ H R := h
theorem w_iRng2 {t : TA} {R : It → Hp → Prop} (h : t σ H (Rg2 R)) : iRng2 t σ H R := h
theorem w_rg1 {j : Int} {R : It → Hp → Prop} (h1 : -(2 ^ 62) ≤ j ∧ j < 2 ^ 62) (h : R (Itr 0 j.toNat) H) : Rg1 R [.int j] H := ⟨j, rfl, h1.1, h1.2, h⟩
theorem w_rg2 {i j : Int} {R : It → Hp → Prop} (h1 : (-(2 ^ 62) ≤ i ∧ i < 2 ^ 62) ∧ (-(2 ^ 62) ≤ j ∧ j < 2 ^ 62)) (h : R (Itr i (j - i).toNat) H) : Rg2 R [.int i, .int j] H := ⟨i, j, rfl, ⟨h1.1.1, h1.1.2, h1.2.1, h1.2.2⟩, h⟩
/-- for over a range, by what holds ahead of turn i -/
theorem w_forR {lo : Int} {n : Nat} (Pv : Nat → L2.St → Hp → Prop) (h0 : Pv 0 σ H) (hs : ∀ i σ H, i < n → Pv i σ H → g (.int (lo + i)) σ H fun σ2 H2 => t ⟨Pv (i + 1), rt, nx, Pv (i + 1)⟩ σ2 H2) (hd : ∀ σ H, Pv n σ H → nx σ H) : ForB g t nx rt σ (Itr lo n) H :=
  for_range (D := ⟨nx, rt, fun _ _ => False, fun _ _ => False⟩) Pv h0 hs hd
theorem w_forL {K : PySem.W.Frag} {a : Addr} {xs : List V} (Pv : Nat → L2.St → Hp → Prop) (h0 : Pv 0 σ H) (hl : ∀ i σ H, i ≤ xs.length → Pv i σ H → SqL K H a xs) (hs : ∀ i x σ H, xs[i]? = some x → Pv i σ H → g x σ H fun σ2 H2 => t ⟨Pv (i + 1), rt, nx, Pv (i + 1)⟩ σ2 H2) (hd : ∀ σ H, Pv xs.length σ H → nx σ H) : ForB g t nx rt σ (Itl K a) H :=
  for_list (D := ⟨nx, rt, fun _ _ => False, fun _ _ => False⟩) Pv h0 hl hs hd
theorem w_forT {K : PySem.W.Frag} {a : Addr} {xs : List V} (Pv : Nat → L2.St → Hp → Prop) (h0 : Pv 0 σ H) (hl : ∀ i σ H, i ≤ xs.length → Pv i σ H → SqT K H a xs) (hs : ∀ i x σ H, xs[i]? = some x → Pv i σ H → g x σ H fun σ2 H2 => t ⟨Pv (i + 1), rt, nx, Pv (i + 1)⟩ σ2 H2) (hd : ∀ σ H, Pv xs.length σ H → nx σ H) : ForB g t nx rt σ (Itt K a) H :=
  for_tup (D := ⟨nx, rt, fun _ _ => False, fun _ _ => False⟩) Pv h0 hl hs hd
/-- while, by an invariant with a measure -/
theorem w_while {c : TT} (Pv : Nat → L2.St → Hp → Prop) (m : Nat) (h0 : Pv m σ H) (hs : ∀ m σ H, Pv m σ H → c σ H (WhB t nx rt Pv m σ)) : tWhile c t ⟨nx, rt, bk, ct⟩ σ H := ⟨Pv, ⟨m, h0⟩, hs⟩
theorem w_whT {Pv : Nat → L2.St → Hp → Prop} {m : Nat} (h : t ⟨fun σ' H' => ∃ m', m' < m ∧ Pv m' σ' H', rt, nx, fun σ' H' => ∃ m', m' < m ∧ Pv m' σ' H'⟩ σ H) : WhB t nx rt Pv m σ true H := w_iteT ⟨_, fun _ _ h => h, h⟩
theorem w_whF {Pv : Nat → L2.St → Hp → Prop} {m : Nat} (h : nx σ H) : WhB t nx rt Pv m σ false H := w_iteF h
theorem w_wh {Pv : Nat → L2.St → Hp → Prop} {m : Nat} {p : Prop} [Decidable p] (h1 : p → t ⟨fun σ' H' => ∃ m', m' < m ∧ Pv m' σ' H', rt, nx, fun σ' H' => ∃ m', m' < m ∧ Pv m' σ' H'⟩ σ H) (h2 : ¬ p → nx σ H) : WhB t nx rt Pv m σ (decide p) H := by
  by_cases h : p
  · rw [decide_eq_true h]; exact w_whT (h1 h)
  · rw [decide_eq_false h]; exact w_whF (h2 h)
theorem w_lc {wi : TI} {tt : TT} {vs : List Nat} (h : wi σ H (LcB g tt te vs σ Q)) : tLc wi g tt te vs σ H Q := h
theorem w_yes (h : B true H) : tYes σ H B := h
theorem w_lcL {K : PySem.W.Frag} {a : Addr} {xs : List V} {tt : TT} {vs : List Nat} (h : ∀ D, H D = none → ∃ Pv : Nat → Hp → Prop, Pv 0 (upd H D (.lst [])) ∧ (∀ i H1, i ≤ xs.length → Pv i H1 → SqL K H1 a xs) ∧
    (∀ i x H1, xs[i]? = some x → Pv i H1 → g x (wipe σ vs) H1 (LcTurn tt te vs σ D (Pv (i + 1)))) ∧ ∀ H1, Pv xs.length H1 → Q (.ref D) H1) : LcB g tt te vs σ Q (Itl K a) H := fun D hD => by
  obtain ⟨Pv, h0, hl, hs, hd⟩ := h D hD
  exact lc_list (Qd := Q (.ref D)) Pv h0 hl hs hd
theorem w_turn {tt : TT} {vs : List Nat} {σ2 : L2.St} {D : Addr} {Nx : Hp → Prop} (e : wipe σ2 vs = wipe σ vs) (h : tt σ2 H fun b H3 => if b = true then te σ2 H3 (LcPut D Nx) else Nx H3) : LcTurn tt te vs σ D Nx σ2 H := ⟨e, h⟩
theorem w_put {D : Addr} {Nx : Hp → Prop} {acc : List V} {y : V} (hl : H D = some (.lst acc)) (hz : acc.length < sizeLine) (h : Nx (upd H D (.lst (acc ++ [y])))) : LcPut D Nx y H := ⟨acc, hl, hz, h⟩
theorem w_isiInt {K : PySem.W.Frag} {i : Int} {n : String} {b : Bool} (e : kitB "int" n = some b) (h : Q (.bl b) H) : rIsi K [.int i, .ty n] H Q := ⟨_, _, _, _, b, rfl, .ty n, .base (.int i), kit_ty e, h⟩
theorem w_isiTup {K : PySem.W.Frag} {a : Addr} {xs : List V} {n : String} {b : Bool} (hl : SqT K H a xs) (e : kitB "tuple" n = some b) (h : Q (.bl b) H) : rIsi K [.ref a, .ty n] H Q := by
  rcases hl with (h1 | ⟨o, h1⟩) | ⟨o, its, m, h1, h2, h3⟩
  · exact ⟨_, _, _, _, b, rfl, .ty n, .base (.tup h1), kit_ty e, h⟩
  · exact ⟨_, _, _, _, b, rfl, .ty n, .fTuple h1, kit_ty e, h⟩
  · exact ⟨_, _, _, _, b, rfl, .ty n, .kTuple h1 h2, kit_ty e, h⟩
theorem w_isX {K : PySem.W.Frag} {D a : Addr} {c : V} {cv : Value} {b : Bool} (C : ExcC K D) (hc : ∀ u, RelV c u → u = cv) (k : PySem.W.kitOne K (.ref D) cv = some b) (h : Q (.bl b) H) : rIsX K (.ref D) none a [.ref a, c] H Q := ⟨D, c, cv, b, rfl, rfl, C, rfl, hc, k, h⟩
theorem w_callS {sp : Sp} {E : L2.St → XK} {t : TA} (h : t σ H fun vs H1 => sp vs H1 Q (E σ)) : tCallS sp E t σ H Q := h
theorem eqv_ints2 (a b c d : Int) : PyData.eqv (.tuple [.int a, .int b]) (.tuple [.int c, .int d]) = decide (a = c ∧ b = d) := by
  simp only [PyData.eqv, PyData.eqvAll, Bool.and_true]
  by_cases h : a = c <;> by_cases h2 : b = d <;> simp [h, h2]
theorem dp_ints2 {K : PySem.W.Frag} {t : Addr} {a b : Int} (h : SqT K H t [.int a, .int b]) : Dp K H (.ref t) (.tuple [.int a, .int b]) := .tup h (.cons (.int a) (.cons (.int b) .nil))
theorem w_eqPair {K : PySem.W.Frag} {t u : Addr} {a b c d : Int} (h1 : SqT K H t [.int a, .int b]) (h2 : SqT K H u [.int c, .int d]) (h : Q (.bl (decide (a = c ∧ b = d))) H) : rEqD K (.ref t) (.ref u) H Q :=
  ⟨_, _, dp_ints2 h1, dp_ints2 h2, rfl, rfl, by rw [eqv_ints2]; exact h⟩
theorem Same.tup {K : PySem.W.Frag} {H H' : Hp} {a : Addr} {xs : List V} (e : Same H H') (h : SqT K H a xs) : SqT K H' a xs := by
  rcases h with (h | ⟨o, h⟩) | h
  · exact .inl (.inl (e _ _ h))
  · exact .inl (.inr ⟨o, e _ _ h⟩)
  · exact .inr h
end
theorem same_new {H : Hp} {p : Addr} (h : H p = none) (o : HO) : Same H (upd H p o) := fun b u q => by rw [upd_ne (ne_of_none q h)]; exact q
theorem cut_drop {xs : List V} {k : Int} (h0 : 0 ≤ k) (h : k ≤ (xs.length : Int)) : cutV xs (some k) none = xs.drop k.toNat := by
  unfold cutV HT.sIx
  simp only
  rw [if_neg (by omega), Nat.min_eq_left (by omega)]
  exact List.take_of_length_le (by rw [List.length_drop]; omega)
theorem _root_.L2.Room.u65 {A : Around} {k : Nat} (hr : Room k A) : A.units + 65 < cLine := by have := hr.un; omega
theorem atI2 (a b : V) : atI [a, b] 0 = some a ∧ atI [a, b] 1 = some b := ⟨rfl, rfl⟩
theorem atI_int {ns : List Int} {i : Int} (h0 : 0 ≤ i) (h : i < (ns.length : Int)) : atI (ns.map V.int) i = some (.int (ns.getD i.toNat 0)) := by
  have hk : i.toNat < ns.length := by omega
  have ek : i = ((i.toNat : Nat) : Int) := by omega
  have q : atI (ns.map V.int) ((i.toNat : Nat) : Int) = some (.int ns[i.toNat]) := atI_nat (by rw [List.getElem?_map, List.getElem?_eq_getElem hk] <;> rfl)
  rw [← ek] at q
  rw [q, List.getD_eq_getElem?_getD, List.getElem?_eq_getElem hk] <;> rfl
end Pm
namespace Pm
open PySem PySem.Spec PyProof.Rows L2
/-- item by item -/
def All2 {α β : Type} (R : α → β → Prop) : List α → List β → Prop
  | [], [] => True
  | x :: xs, y :: ys => R x y ∧ All2 R xs ys
  | _, _ => False
section
variable {α β : Type} {R S : α → β → Prop}
theorem All2.nil : All2 R [] [] := trivial
theorem All2.cons {x : α} {y : β} {xs : List α} {ys : List β} (h : R x y) (t : All2 R xs ys) : All2 R (x :: xs) (y :: ys) := ⟨h, t⟩
theorem All2.length : ∀ {xs : List α} {ys : List β}, All2 R xs ys → xs.length = ys.length
  | [], [], _ => rfl
  | _ :: _, _ :: _, h => by rw [List.length_cons, List.length_cons, h.2.length]
theorem All2.mono (f : ∀ x y, R x y → S x y) : ∀ {xs : List α} {ys : List β}, All2 R xs ys → All2 S xs ys
  | [], [], _ => trivial
  | _ :: _, _ :: _, h => ⟨f _ _ h.1, h.2.mono f⟩
theorem All2.get : ∀ {xs : List α} {ys : List β} {i : Nat} {x : α}, All2 R xs ys → xs[i]? = some x → ∃ y, ys[i]? = some y ∧ R x y
  | [], [], _, _, _, e => by simp at e
  | _ :: _, _ :: _, 0, _, h, e => by simp at e; subst e; exact ⟨_, rfl, h.1⟩
  | _ :: _, _ :: _, i + 1, x, h, e => by
    obtain ⟨y, e1, r⟩ := All2.get (i := i) (x := x) h.2 (by simpa using e)
    exact ⟨y, by simpa using e1, r⟩
theorem All2.get' : ∀ {xs : List α} {ys : List β} {i : Nat} {y : β}, All2 R xs ys → ys[i]? = some y → ∃ x, xs[i]? = some x ∧ R x y
  | [], [], _, _, _, e => by simp at e
  | _ :: _, _ :: _, 0, _, h, e => by simp at e; subst e; exact ⟨_, rfl, h.1⟩
  | _ :: _, _ :: _, i + 1, y, h, e => by
    obtain ⟨x, e1, r⟩ := All2.get' (i := i) (y := y) h.2 (by simpa using e)
    exact ⟨x, by simpa using e1, r⟩
theorem All2.append : ∀ {xs : List α} {ys : List β} {xs' : List α} {ys' : List β}, All2 R xs ys → All2 R xs' ys' → All2 R (xs ++ xs') (ys ++ ys')
  | [], [], _, _, _, h => h
  | _ :: _, _ :: _, _, _, h, h' => ⟨h.1, h.2.append h'⟩
theorem All2.snoc {xs : List α} {ys : List β} {x : α} {y : β} (h : All2 R xs ys) (r : R x y) : All2 R (xs ++ [x]) (ys ++ [y]) := h.append ⟨r, trivial⟩
theorem All2.take : ∀ {xs : List α} {ys : List β} (n : Nat), All2 R xs ys → All2 R (xs.take n) (ys.take n)
  | [], [], n, _ => by rw [List.take_nil, List.take_nil]; trivial
  | _ :: _, _ :: _, 0, _ => trivial
  | _ :: _, _ :: _, n + 1, h => ⟨h.1, h.2.take n⟩
theorem All2.drop : ∀ {xs : List α} {ys : List β} (n : Nat), All2 R xs ys → All2 R (xs.drop n) (ys.drop n)
  | [], [], n, _ => by rw [List.drop_nil, List.drop_nil]; trivial
  | _ :: _, _ :: _, 0, h => h
  | _ :: _, _ :: _, n + 1, h => h.2.drop n
theorem All2.set : ∀ {xs : List α} {ys : List β} (i : Nat) {x : α} {y : β}, All2 R xs ys → R x y → All2 R (xs.set i x) (ys.set i y)
  | [], [], _, _, _, _, _ => trivial
  | _ :: _, _ :: _, 0, _, _, h, r => ⟨r, h.2⟩
  | _ :: _, _ :: _, i + 1, _, _, h, r => ⟨h.1, h.2.set i r⟩
theorem All2.mem : ∀ {xs : List α} {ys : List β} {x : α}, All2 R xs ys → x ∈ xs → ∃ y, y ∈ ys ∧ R x y
  | [], [], _, _, e => by simp at e
  | a :: _, b :: _, x, h, e => by
    rcases List.mem_cons.mp e with e | e
    · subst e; exact ⟨b, List.mem_cons_self, h.1⟩
    · obtain ⟨y, e1, r⟩ := h.2.mem e
      exact ⟨y, List.mem_cons_of_mem _ e1, r⟩
theorem All2.map_eq {f : α → β} : ∀ {xs : List α} {ys : List β}, All2 R xs ys → (∀ x y, R x y → f x = y) → xs.map f = ys
  | [], [], _, _ => rfl
  | _ :: _, _ :: _, h, q => by rw [List.map_cons, q _ _ h.1, h.2.map_eq q]
end
/-- tuples stay -/
def Keeps (H H' : Hp) : Prop := ∀ t xs, H t = some (.tup xs) → H' t = some (.tup xs)
theorem Keeps.refl (H : Hp) : Keeps H H := fun _ _ h => h
theorem Keeps.trans {H H1 H2 : Hp} (a : Keeps H H1) (b : Keeps H1 H2) : Keeps H H2 := fun t xs h => b t xs (a t xs h)
theorem keeps {H H' : Hp} (s : Same H H') : Keeps H H' := fun _ _ h => s _ _ h
theorem keeps_lst {H : Hp} {a : Addr} {xs ys : List V} (h : H a = some (.lst xs)) : Keeps H (upd H a (.lst ys)) := fun t zs e => by
  rw [upd_ne (fun z => by subst z; rw [e] at h; cases h)]
  exact e
theorem keeps_dT {H : Hp} {a : Addr} {xs ys : List (List L2.Key × V)} (h : H a = some (.dT xs)) : Keeps H (upd H a (.dT ys)) := fun t zs e => by
  rw [upd_ne (fun z => by subst z; rw [e] at h; cases h)]
  exact e
/-- all but the object at a stays -/
theorem same_but {H H' : Hp} {a : Addr} {o : HO} (h0 : H a = none) (s : Same H H') : Same H (upd H' a o) := fun b u e => by
  rw [upd_ne (fun z => by subst z; rw [h0] at e; cases e)]
  exact s b u e
abbrev IP := Int × Int
def Pr (H : Hp) (v : V) (p : IP) : Prop := ∃ t, v = .ref t ∧ H t = some (.tup [.int p.1, .int p.2])
abbrev Prs (H : Hp) : List V → List IP → Prop := All2 (Pr H)
theorem Pr.keep {H H' : Hp} (k : Keeps H H') {v : V} {p : IP} (h : Pr H v p) : Pr H' v p := by
  obtain ⟨t, e, ht⟩ := h
  exact ⟨t, e, k _ _ ht⟩
theorem prs_keep {H H' : Hp} (k : Keeps H H') {vs : List V} {ps : List IP} (h : Prs H vs ps) : Prs H' vs ps := h.mono fun _ _ r => r.keep k
theorem Pr.inj {H : Hp} {v : V} {p q : IP} (h : Pr H v p) (k : Pr H v q) : p = q := by
  obtain ⟨t, rfl, ht⟩ := h
  obtain ⟨u, e, hu⟩ := k
  cases e
  rw [ht] at hu
  have e := HO.tup.inj (Option.some.inj hu)
  injection e with e1 e2
  injection e2 with e2 _
  obtain ⟨a, b⟩ := p
  obtain ⟨c, d⟩ := q
  rw [show a = c from V.int.inj e1, show b = d from V.int.inj e2]
/-- the pair at a value -/
def kOf (H : Hp) : V → IP
  | .ref t => match H t with
    | some (.tup [.int a, .int b]) => (a, b)
    | _ => (0, 0)
  | _ => (0, 0)
theorem Pr.k {H : Hp} {v : V} {p : IP} (h : Pr H v p) : kOf H v = p := by
  obtain ⟨t, rfl, ht⟩ := h
  show (match H t with | some (.tup [.int a, .int b]) => (a, b) | _ => (0, 0)) = p
  rw [ht]
theorem Pr.tup {K : PySem.W.Frag} {H : Hp} {t : Addr} {p : IP} (h : Pr H (.ref t) p) : SqT K H t [.int p.1, .int p.2] := by
  obtain ⟨u, e, hu⟩ := h
  cases e
  exact SqT.of hu
def pD (p : IP) : PyData := .tuple [.int p.1, .int p.2]
theorem eqv_pD (p q : IP) : PyData.eqv (pD p) (pD q) = decide (p = q) := by
  obtain ⟨a, b⟩ := p
  obtain ⟨c, d⟩ := q
  rw [show PyData.eqv (pD (a, b)) (pD (c, d)) = decide (a = c ∧ b = d) from eqv_ints2 a b c d]
  exact decide_eq_decide.mpr ⟨fun h => by rw [h.1, h.2], fun h => ⟨congrArg Prod.fst h, congrArg Prod.snd h⟩⟩
theorem lay_pD (p : IP) : (pD p).canLay0 = true := by simp [pD, PyData.canLay0, PyData.canLayAll0]
theorem depth_pD (p : IP) : (pD p).depth = 1 := by simp [pD, PyData.depth, PyData.depthAll]
theorem shaped_pD (p : IP) : SeqAt.shaped (pD p) = true := by
  show ((pD p).canLay0 && decide ((pD p).depth ≤ 64)) = true
  rw [lay_pD, depth_pD]
  rfl
def lexLe (p q : IP) : Bool := decide (p.1 < q.1 ∨ (p.1 = q.1 ∧ p.2 ≤ q.2))
abbrev Rising (ps : List IP) : Prop := ps.Pairwise fun p q => lexLe p q = true
def sortP (ps : List IP) : List IP := ps.mergeSort lexLe
theorem sortP_perm (ps : List IP) : (sortP ps).Perm ps := List.mergeSort_perm ps lexLe
theorem mem_sortP {p : IP} {ps : List IP} : p ∈ sortP ps ↔ p ∈ ps := (sortP_perm ps).mem_iff
/-- a list of pairs that is handed in -/
def PL (K : PySem.W.Frag) (H : Hp) (a : Addr) (ps : List IP) : Prop := ∃ vs, SqL K H a vs ∧ Prs H vs ps
theorem PL.same {K : PySem.W.Frag} {H H' : Hp} {a : Addr} {ps : List IP} (h : PL K H a ps) (s : Same H H') : PL K H' a ps := by
  obtain ⟨vs, h1, h2⟩ := h
  exact ⟨vs, s.seq h1, prs_keep (keeps s) h2⟩
section
variable {H : Hp} {Q : VK} {σ : L2.St} {g : TG} {tt : TT} {te : TE} {vs : List Nat} {β : Type} {R : Hp → V → β → Prop}
theorem put_next (mono : ∀ H H' v b, Keeps H H' → R H v b → R H' v b) {H0 H1 H4 : Hp} {D : Addr} {acc : List V} {bs : List β} {y : V} {b : β} {Pv : Hp → Prop} (hD : H0 D = none) (s1 : Same H0 H1) (hd : H1 D = some (.lst acc)) (ha : All2 (R H1) acc bs) (hz : bs.length < 1000000)
    (s4 : Same H1 H4) (hy : R H4 y b) (hp : ∀ H5 acc', Same H0 H5 → H5 D = some (.lst acc') → All2 (R H5) acc' (bs ++ [b]) → Pv H5) : LcPut D Pv y H4 := by
  refine w_put (s4 _ _ hd) (size_lt (by rw [ha.length]; omega)) (hp _ _ (same_but hD (s1.trans s4)) upd_same ?_)
  have k := keeps_lst (ys := acc ++ [y]) (s4 _ _ hd)
  exact (ha.mono fun _ _ r => mono _ _ _ _ k (mono _ _ _ _ (keeps s4) r)).snoc (mono _ _ _ _ k hy)
/-- [f(x) for x in xs if p(x)]: the items taken by a relation of their own -/
theorem w_lcLf (mono : ∀ H H' v b, Keeps H H' → R H v b → R H' v b) {K : PySem.W.Frag} {a : Addr} {xs : List V} {γ : Type} {S : Hp → V → γ → Prop} (monoS : ∀ H H' v b, Keeps H H' → S H v b → S H' v b) {cs : List γ} (hl : SqL K H a xs) (hx : All2 (S H) xs cs) (f : γ → β) (pr : γ → Bool) (hn : cs.length < 1000000)
    (body : ∀ D (x : V) (c : γ) H1 (Nx : Hp → Prop), H D = none → c ∈ cs → S H1 x c → Same H H1 → (∀ y H4, pr c = true → Same H1 H4 → R H4 y (f c) → LcPut D Nx y H4) → (∀ H4, pr c = false → Same H1 H4 → Nx H4) → g x (wipe σ vs) H1 (LcTurn tt te vs σ D Nx))
    (done : ∀ D H1 ws, H D = none → Same H H1 → H1 D = some (.lst ws) → All2 (R H1) ws ((cs.filter pr).map f) → Q (.ref D) H1) : LcB g tt te vs σ Q (Itl K a) H := by
  have hlen := hx.length
  refine w_lcL (xs := xs) fun D hD => ⟨fun i H1 => Same H H1 ∧ ∃ acc, H1 D = some (.lst acc) ∧ All2 (R H1) acc (((cs.take i).filter pr).map f), ⟨same_new hD _, [], upd_same, trivial⟩, ?_, ?_, ?_⟩
  · rintro i H1 _ ⟨s1, _⟩
    exact s1.seq hl
  · rintro i x H1 hi ⟨s1, acc, hd, ha⟩
    obtain ⟨c, hc, hs⟩ := hx.get hi
    have hlt : i < cs.length := (List.getElem?_eq_some_iff.mp hc).1
    have hle : (((cs.take i).filter pr).map f).length < 1000000 := by
      rw [List.length_map]
      have := List.length_filter_le pr (cs.take i)
      rw [List.length_take] at this
      omega
    have et : cs.take (i + 1) = cs.take i ++ [c] := by rw [List.take_add_one, hc] <;> rfl
    refine body D x c H1 _ hD (List.mem_of_getElem? hc) (monoS _ _ _ _ (keeps s1) hs) s1 (fun y H4 hp s4 hy => ?_) (fun H4 hp s4 => ?_)
    · refine put_next mono hD s1 hd ha hle s4 hy fun H5 acc' s5 h5 a5 => ⟨s5, acc', h5, ?_⟩
      rw [et, List.filter_append, List.map_append]
      have e1 : List.filter pr [c] = [c] := by simp [hp]
      rw [e1]
      exact a5
    · refine ⟨s1.trans s4, acc, s4 _ _ hd, ?_⟩
      have e1 : List.filter pr [c] = [] := by simp [hp]
      rw [et, List.filter_append, e1, List.append_nil]
      exact ha.mono fun _ _ r => mono _ _ _ _ (keeps s4) r
  · rintro H1 ⟨s1, acc, hd, ha⟩
    rw [hlen, List.take_length] at ha
    exact done D H1 acc hD s1 hd ha
end
/-- an int as an item -/
def In (_ : Hp) (v : V) (i : Int) : Prop := v = .int i
theorem take_snoc {α : Type} {l : List α} {i : Nat} {x : α} (h : l[i]? = some x) : l.take (i + 1) = l.take i ++ [x] := by rw [List.take_add_one, h] <;> rfl
end Pm
namespace Pm
inductive Tr where
  | leaf
  | node (l r : Tr)
namespace Tr
def w : Tr → Nat
  | leaf => 1
  | node l r => l.w + r.w
theorem w_pos : ∀ t : Tr, 1 ≤ t.w
  | leaf => Nat.le_refl _
  | node l r => by have := l.w_pos; show 1 ≤ l.w + r.w; omega
/-- all ties -/
def all : Nat → Tr → List (Nat × Nat)
  | lo, leaf => [(lo, lo + 1)]
  | lo, node l r => (lo, lo + (l.w + r.w)) :: (l.all lo ++ r.all (lo + l.w))
/-- the ties of nodes -/
def inn : Nat → Tr → List (Nat × Nat)
  | _, leaf => []
  | lo, node l r => (lo, lo + (l.w + r.w)) :: (l.inn lo ++ r.inn (lo + l.w))
/-- the ropes of the whole -/
def ropes : Nat → Tr → List (Nat × Nat)
  | _, leaf => []
  | lo, node l r => l.inn lo ++ r.inn (lo + l.w)
theorem inn_node {lo : Nat} {t : Tr} (h : 2 ≤ t.w) : t.inn lo = (lo, lo + t.w) :: t.ropes lo := by
  cases t with
  | leaf => exact absurd h (by show ¬ 2 ≤ 1; omega)
  | node l r => rfl
theorem bd : ∀ {t : Tr} {lo : Nat} {p : Nat × Nat}, p ∈ t.all lo → lo ≤ p.1 ∧ p.1 < p.2 ∧ p.2 ≤ lo + t.w
  | leaf, lo, p, h => by
    rw [List.mem_singleton.mp h]
    exact ⟨Nat.le_refl _, Nat.lt_succ_self _, Nat.le_refl _⟩
  | node l r, lo, p, h => by
    have wl := l.w_pos
    have wr := r.w_pos
    show lo ≤ p.1 ∧ p.1 < p.2 ∧ p.2 ≤ lo + (l.w + r.w)
    rcases List.mem_cons.mp h with h | h
    · rw [h]; simp only; omega
    · rcases List.mem_append.mp h with h | h
      · have := bd h; omega
      · have := bd h; omega
theorem mem_node {l r : Tr} {lo : Nat} {p : Nat × Nat} : p ∈ (node l r).all lo ↔ p = (lo, lo + (l.w + r.w)) ∨ p ∈ l.all lo ∨ p ∈ r.all (lo + l.w) := by
  show p ∈ _ :: (_ ++ _) ↔ _
  rw [List.mem_cons, List.mem_append]
theorem inn_all : ∀ {t : Tr} {lo : Nat} {p : Nat × Nat}, p ∈ t.inn lo → p ∈ t.all lo
  | leaf, _, _, h => by cases h
  | node l r, lo, p, h => by
    rw [mem_node]
    rcases List.mem_cons.mp h with h | h
    · exact .inl h
    · rcases List.mem_append.mp h with h | h
      · exact .inr (.inl (inn_all h))
      · exact .inr (.inr (inn_all h))
/-- a tie is one of a node, or of two neighbours -/
theorem all_iff : ∀ {t : Tr} {lo : Nat} {p : Nat × Nat}, p ∈ t.all lo ↔ p ∈ t.inn lo ∨ (lo ≤ p.1 ∧ p.2 = p.1 + 1 ∧ p.2 ≤ lo + t.w)
  | leaf, lo, p => by
    show p ∈ [(lo, lo + 1)] ↔ p ∈ [] ∨ (lo ≤ p.1 ∧ p.2 = p.1 + 1 ∧ p.2 ≤ lo + 1)
    obtain ⟨a, b⟩ := p
    simp only [List.mem_singleton, Prod.mk.injEq, List.not_mem_nil, false_or]
    omega
  | node l r, lo, p => by
    have wl := l.w_pos
    have wr := r.w_pos
    rw [mem_node, all_iff (t := l), all_iff (t := r)]
    show _ ↔ p ∈ _ :: (_ ++ _) ∨ (lo ≤ p.1 ∧ p.2 = p.1 + 1 ∧ p.2 ≤ lo + (l.w + r.w))
    rw [List.mem_cons, List.mem_append]
    constructor
    · rintro (h | (h | h) | (h | h))
      · exact .inl (.inl h)
      · exact .inl (.inr (.inl h))
      · exact .inr (by omega)
      · exact .inl (.inr (.inr h))
      · exact .inr (by omega)
    · rintro ((h | h | h) | h)
      · exact .inl h
      · exact .inr (.inl (.inl h))
      · exact .inr (.inr (.inl h))
      · by_cases c : p.2 ≤ lo + l.w
        · exact .inr (.inl (.inr (by omega)))
        · exact .inr (.inr (.inr (by omega)))
/-- m makes a plot with (a, b) from outside -/
def Out (t : Tr) (lo a b m : Nat) : Prop := (m < a ∧ (m, a) ∈ t.all lo ∧ (m, b) ∈ t.all lo) ∨ (b < m ∧ (a, m) ∈ t.all lo ∧ (b, m) ∈ t.all lo)
end Tr
end Pm
namespace Pm
def tieOf (a b : Int) : IP := (min a b, max a b)
def castP (p : Nat × Nat) : IP := ((p.1 : Int), (p.2 : Int))
end Pm
namespace Pm
open PySem PySem.Spec PyProof.Rows L2
def sides0 (n : Nat) : List IP := ((List.range (n - 1)).map fun k : Nat => ((k : Int), (k : Int) + 1)) ++ [(0, (n : Int) - 1)]
def tiesL (n : Nat) (cut : List IP) : List IP := sortP (sides0 n ++ cut)
theorem mem_ties {n : Nat} {cut : List IP} {p : IP} : p ∈ tiesL n cut ↔ p ∈ sides0 n ∨ p ∈ cut := by rw [tiesL, mem_sortP, List.mem_append]
def isBeside (T : List IP) (a b : Int) (c : Nat) : Bool := decide (tieOf a c ∈ T) && decide (tieOf b c ∈ T)
def besideL (n : Nat) (T : List IP) (a b : Int) : List Int := ((List.range n).filter (isBeside T a b)).map fun c : Nat => (c : Int)
/-- a tracked list of pairs -/
def PLt (H : Hp) (a : Addr) (ps : List IP) : Prop := ∃ vs, H a = some (.lst vs) ∧ Prs H vs ps
theorem PLt.same {H H' : Hp} {a : Addr} {ps : List IP} (h : PLt H a ps) (s : Same H H') : PLt H' a ps := by
  obtain ⟨vs, h1, h2⟩ := h
  exact ⟨vs, s _ _ h1, prs_keep (keeps s) h2⟩
end Pm
namespace Pm
open PySem PySem.Spec PyProof.Rows L2
/-- cut is the cutting of the tree t -/
structure Cutting (n : Nat) (cut : List IP) (t : Tr) : Prop where
  w : t.w + 1 = n
  n3 : 3 ≤ n
  perm : cut.Perm ((t.ropes 0).map castP)
  rise : Rising cut
theorem mem_sides0 {n : Nat} {p : IP} (hn : 2 ≤ n) : p ∈ sides0 n ↔ (∃ k : Nat, k + 1 < n ∧ p = castP (k, k + 1)) ∨ p = castP (0, n - 1) := by
  unfold sides0
  rw [List.mem_append, List.mem_map, List.mem_singleton]
  constructor
  · rintro (⟨k, hk, rfl⟩ | rfl)
    · exact .inl ⟨k, by have := List.mem_range.mp hk; omega, by simp [castP]⟩
    · exact .inr (by simp only [castP]; congr 1; omega)
  · rintro (⟨k, hk, rfl⟩ | rfl)
    · exact .inl ⟨k, List.mem_range.mpr (by omega), by simp [castP]⟩
    · exact .inr (by simp only [castP]; congr 1; omega)
section
variable {n : Nat} {cut : List IP} {t : Tr}
theorem Cutting.mem (C : Cutting n cut t) {p : IP} : p ∈ cut ↔ ∃ q, q ∈ t.ropes 0 ∧ p = castP q := by
  rw [C.perm.mem_iff, List.mem_map]
  exact ⟨fun ⟨q, h, e⟩ => ⟨q, h, e.symm⟩, fun ⟨q, h, e⟩ => ⟨q, h, e.symm⟩⟩
theorem Cutting.w2 (C : Cutting n cut t) : 2 ≤ t.w := by have := C.w; have := C.n3; omega
theorem inn_iff {q : Nat × Nat} (h : 2 ≤ t.w) : q ∈ t.inn 0 ↔ q = (0, t.w) ∨ q ∈ t.ropes 0 := by
  rw [Tr.inn_node h, List.mem_cons, Nat.zero_add]
theorem Cutting.ties (C : Cutting n cut t) {p : IP} : p ∈ tiesL n cut ↔ ∃ q, q ∈ t.all 0 ∧ p = castP q := by
  have h2 := C.w2
  have hw := C.w
  rw [mem_ties, mem_sides0 (by omega), C.mem]
  constructor
  · rintro ((⟨k, hk, rfl⟩ | rfl) | ⟨q, hq, rfl⟩)
    · exact ⟨_, Tr.all_iff.mpr (.inr ⟨Nat.zero_le _, rfl, by simp only; omega⟩), rfl⟩
    · refine ⟨_, Tr.inn_all ((inn_iff h2).mpr (.inl rfl)), ?_⟩
      rw [← hw] <;> rfl
    · exact ⟨q, Tr.inn_all ((inn_iff h2).mpr (.inr hq)), rfl⟩
  · rintro ⟨q, hq, rfl⟩
    rcases Tr.all_iff.mp hq with h | ⟨_, h, h'⟩
    · rcases (inn_iff h2).mp h with rfl | h
      · refine .inl (.inr ?_)
        rw [← hw] <;> rfl
      · exact .inr ⟨q, h, rfl⟩
    · refine .inl (.inl ⟨q.1, by omega, ?_⟩)
      obtain ⟨a, b⟩ := q
      simp only at h
      rw [h]
end
end Pm
namespace Pm
inductive ND where
  | i (n : Int)
  | t (xs : List ND)
namespace ND
mutual
def cmp : ND → ND → Ordering
  | .i a, .i b => compare a b
  | .i _, .t _ => .lt
  | .t _, .i _ => .gt
  | .t xs, .t ys => cmpL xs ys
def cmpL : List ND → List ND → Ordering
  | [], [] => .eq
  | [], _ :: _ => .lt
  | _ :: _, [] => .gt
  | x :: xs, y :: ys => (cmp x y).then (cmpL xs ys)
end
mutual
theorem cmp_swap : ∀ x y : ND, cmp y x = (cmp x y).swap
  | .i a, .i b => by simp only [cmp]; exact Std.OrientedCmp.eq_swap
  | .i _, .t _ => rfl
  | .t _, .i _ => rfl
  | .t xs, .t ys => by simp only [cmp]; exact cmpL_swap xs ys
theorem cmpL_swap : ∀ xs ys : List ND, cmpL ys xs = (cmpL xs ys).swap
  | [], [] => rfl
  | [], _ :: _ => rfl
  | _ :: _, [] => rfl
  | x :: xs, y :: ys => by
    simp only [cmpL]
    rw [cmp_swap x y, cmpL_swap xs ys]
    cases cmp x y <;> cases cmpL xs ys <;> rfl
end
mutual
theorem cmp_eq : ∀ {x y : ND}, cmp x y = .eq → x = y
  | .i a, .i b, h => by
    simp only [cmp] at h
    rw [show a = b from Std.LawfulEqCmp.eq_of_compare h]
  | .i _, .t _, h => by cases h
  | .t _, .i _, h => by cases h
  | .t xs, .t ys, h => by
    simp only [cmp] at h
    rw [cmpL_eq h]
theorem cmpL_eq : ∀ {xs ys : List ND}, cmpL xs ys = .eq → xs = ys
  | [], [], _ => rfl
  | [], _ :: _, h => by cases h
  | _ :: _, [], h => by cases h
  | x :: xs, y :: ys, h => by
    simp only [cmpL] at h
    cases e : cmp x y with
    | eq =>
      rw [e] at h
      rw [cmp_eq e, cmpL_eq (xs := xs) (ys := ys) h]
    | lt => rw [e] at h; cases h
    | gt => rw [e] at h; cases h
end
mutual
theorem cmp_self : ∀ x : ND, cmp x x = .eq
  | .i a => by simp only [cmp]; exact Std.ReflCmp.compare_self
  | .t xs => by simp only [cmp]; exact cmpL_self xs
theorem cmpL_self : ∀ xs : List ND, cmpL xs xs = .eq
  | [] => rfl
  | x :: xs => by simp only [cmpL]; rw [cmp_self x, cmpL_self xs]; rfl
end
theorem int_lt {a b : Int} : compare a b = .lt ↔ a < b := Int.compare_eq_lt
mutual
theorem cmp_trans : ∀ {x y z : ND}, cmp x y = .lt → cmp y z = .lt → cmp x z = .lt
  | .i a, .i b, .i c, h, k => by
    simp only [cmp] at h k ⊢
    rw [int_lt] at h k ⊢
    omega
  | .i _, .i _, .t _, _, _ => rfl
  | .i _, .t _, .i _, _, k => by cases k
  | .i _, .t _, .t _, _, _ => rfl
  | .t _, .i _, _, h, _ => by cases h
  | .t _, .t _, .i _, _, k => by cases k
  | .t xs, .t ys, .t zs, h, k => by
    simp only [cmp] at h k ⊢
    exact cmpL_trans h k
theorem cmpL_trans : ∀ {xs ys zs : List ND}, cmpL xs ys = .lt → cmpL ys zs = .lt → cmpL xs zs = .lt
  | [], [], _, h, _ => by cases h
  | [], _ :: _, [], _, k => by cases k
  | [], _ :: _, _ :: _, _, _ => rfl
  | _ :: _, [], _, h, _ => by cases h
  | _ :: _, _ :: _, [], _, k => by cases k
  | x :: xs, y :: ys, z :: zs, h, k => by
    simp only [cmpL] at h k ⊢
    cases e1 : cmp x y with
    | gt => rw [e1] at h; cases h
    | lt =>
      cases e2 : cmp y z with
      | gt => rw [e2] at k; cases k
      | lt => rw [cmp_trans e1 e2]; rfl
      | eq => rw [← cmp_eq e2, e1]; rfl
    | eq =>
      rw [e1] at h
      have h : cmpL xs ys = .lt := h
      have e := cmp_eq e1
      subst e
      cases e2 : cmp x z with
      | gt => rw [e2] at k; cases k
      | lt => rfl
      | eq =>
        rw [e2] at k
        have k : cmpL ys zs = .lt := k
        show (Ordering.eq).then (cmpL xs zs) = .lt
        exact cmpL_trans (xs := xs) h k
end
def ltB (x y : ND) : Bool := cmp x y == .lt
theorem ltB_iff {x y : ND} : ltB x y = true ↔ cmp x y = .lt := by unfold ltB; cases cmp x y <;> simp
theorem ltB_no {x y : ND} : ltB x y = false ↔ cmp x y ≠ .lt := by unfold ltB; cases cmp x y <;> simp
theorem ltB_asym {x y : ND} (h : ltB x y = true) : ltB y x = false := by
  rw [ltB_iff] at h
  rw [ltB_no, cmp_swap x y, h]
  simp
theorem ltB_tr {x y z : ND} (h1 : ltB y x = false) (h2 : ltB z y = false) : ltB z x = false := by
  rw [ltB_no] at *
  intro h
  cases e : cmp x y with
  | lt => exact h2 (cmp_trans h e)
  | eq => exact h2 (by rw [← cmp_eq e]; exact h)
  | gt => exact h1 (by rw [cmp_swap x y, e]; rfl)
def leB (x y : ND) : Bool := !ltB y x
theorem leB_trans (x y z : ND) (h : leB x y = true) (k : leB y z = true) : leB x z = true := by
  unfold leB at *
  rw [Bool.not_eq_true'] at *
  exact ltB_tr h k
theorem leB_total (x y : ND) : (leB x y || leB y x) = true := by
  unfold leB
  cases e : ltB y x with
  | false => rfl
  | true => rw [ltB_asym e]; rfl
theorem leB_anti {x y : ND} (h : leB x y = true) (k : leB y x = true) : x = y := by
  unfold leB at *
  rw [Bool.not_eq_true', ltB_no] at *
  cases e : cmp x y with
  | eq => exact cmp_eq e
  | lt => exact absurd e k
  | gt => exact absurd (by rw [cmp_swap x y, e]; rfl) h
abbrev Ris (ds : List ND) : Prop := ds.Pairwise fun x y => leB x y = true
def sort (ds : List ND) : List ND := ds.mergeSort leB
theorem sort_perm (ds : List ND) : (sort ds).Perm ds := List.mergeSort_perm ds leB
theorem sort_ris (ds : List ND) : Ris (sort ds) := List.pairwise_mergeSort leB_trans leB_total ds
theorem ris_eq {ds es : List ND} (h : Ris ds) (k : Ris es) (e : ds.Perm es) : ds = es := List.Perm.eq_of_pairwise (fun _ _ _ _ a b => leB_anti a b) h k e
theorem sort_eq {ds es : List ND} (h : Ris ds) (e : ds.Perm es) : sort es = ds := ris_eq (sort_ris es) h ((sort_perm es).trans e.symm)
mutual
def py : ND → PySem.PyData
  | .i n => .int n
  | .t xs => .tuple (pyL xs)
def pyL : List ND → List PySem.PyData
  | [] => []
  | x :: xs => py x :: pyL xs
end
theorem pyL_map : ∀ xs : List ND, pyL xs = xs.map py
  | [] => rfl
  | x :: xs => by rw [pyL, pyL_map xs]; rfl
mutual
def of : PySem.PyData → ND
  | .int n => .i n
  | .tuple xs => .t (ofL xs)
  | .list _ => .i 0
  | .dict _ => .i 0
  | .none => .i 0
  | .bool _ => .i 0
  | .str _ => .i 0
def ofL : List PySem.PyData → List ND
  | [] => []
  | x :: xs => of x :: ofL xs
end
mutual
theorem of_py : ∀ d : ND, of (py d) = d
  | .i n => by simp only [py, of]
  | .t xs => by simp only [py, of]; rw [ofL_pyL xs]
theorem ofL_pyL : ∀ ds : List ND, ofL (pyL ds) = ds
  | [] => rfl
  | x :: xs => by simp only [pyL, ofL]; rw [of_py x, ofL_pyL xs]
end
mutual
theorem lay : ∀ d : ND, (py d).canLay0 = true
  | .i n => by simp only [py, PySem.PyData.canLay0]
  | .t xs => by simp only [py, PySem.PyData.canLay0]; exact layL xs
theorem layL : ∀ ds : List ND, PySem.PyData.canLayAll0 (pyL ds) = true
  | [] => by simp only [pyL, PySem.PyData.canLayAll0]
  | x :: xs => by simp only [pyL, PySem.PyData.canLayAll0]; rw [lay x, layL xs]; rfl
end
mutual
theorem eqv_py : ∀ x y : ND, PySem.PyData.eqv (py x) (py y) = (cmp x y == .eq)
  | .i a, .i b => by
    simp only [py, PySem.PyData.eqv, cmp]
    by_cases h : a = b
    · subst h; simp
    · have : compare a b ≠ .eq := fun e => h (Std.LawfulEqCmp.eq_of_compare e)
      cases e : compare a b <;> simp_all
  | .i _, .t _ => by simp only [py, PySem.PyData.eqv, cmp]; rfl
  | .t _, .i _ => by simp only [py, PySem.PyData.eqv, cmp]; rfl
  | .t xs, .t ys => by simp only [py, PySem.PyData.eqv, cmp]; exact eqvAll_py xs ys
theorem eqvAll_py : ∀ xs ys : List ND, PySem.PyData.eqvAll (pyL xs) (pyL ys) = (cmpL xs ys == .eq)
  | [], [] => by simp [pyL, PySem.PyData.eqvAll, cmpL]
  | [], _ :: _ => by simp [pyL, PySem.PyData.eqvAll, cmpL]
  | _ :: _, [] => by simp [pyL, PySem.PyData.eqvAll, cmpL]
  | x :: xs, y :: ys => by
    simp only [pyL, PySem.PyData.eqvAll, cmpL]
    rw [eqv_py x y, eqvAll_py xs ys]
    cases cmp x y <;> cases cmpL xs ys <;> rfl
end
theorem eqv_false {x y : ND} (h : PySem.PyData.eqv (py x) (py y) = false) : cmp x y ≠ .eq := fun e => by
  rw [eqv_py, e] at h
  cases h
theorem eqv_true {x y : ND} (h : PySem.PyData.eqv (py x) (py y) = true) : cmp x y = .eq := by
  rw [eqv_py] at h
  cases e : cmp x y with
  | eq => rfl
  | lt => rw [e] at h; cases h
  | gt => rw [e] at h; cases h
mutual
def hom : ND → ND → Bool
  | .i _, .i _ => true
  | .t xs, .t ys => homL xs ys
  | .i _, .t _ => false
  | .t _, .i _ => false
def homL : List ND → List ND → Bool
  | [], _ => true
  | _ :: _, [] => true
  | x :: xs, y :: ys => hom x y && homL xs ys
end
def dep (d : ND) : Nat := (py d).depth
end ND
open PySem PySem.Spec PyProof.Rows L2
theorem readsAll_at {h : Heap} : ∀ {vs : List Value} {ds : List PyData} {as : List Addr} {j : Nat} (_ : ReadsAll h vs ds as) (h1 : j < vs.length) (h2 : j < ds.length), ∃ bs, Reads h vs[j] ds[j] bs
  | _ :: _, _ :: _, _, 0, .cons r _, _, _ => ⟨_, r⟩
  | _ :: _, _ :: _, _, j + 1, .cons _ t, h1, h2 => readsAll_at t (Nat.lt_of_succ_lt_succ h1) (Nat.lt_of_succ_lt_succ h2)
theorem lexAt_shift (e r : Nat → Bool) (z : Bool) : ∀ (k i : Nat), Ob.lexAt (fun j => e (j + 1)) (fun j => r (j + 1)) z i k = Ob.lexAt e r z (i + 1) k
  | 0, _ => rfl
  | k + 1, i => by
    show (if e (i + 1) = true then Ob.lexAt _ _ z (i + 1) k else r (i + 1)) = (if e (i + 1) = true then Ob.lexAt e r z (i + 1 + 1) k else r (i + 1))
    rw [lexAt_shift e r z k (i + 1)]
theorem lexAt_cmp : ∀ (xs ys : List ND), Ob.lexAt (fun j => ND.cmp (xs.getD j (.i 0)) (ys.getD j (.i 0)) == .eq) (fun j => ND.ltB (xs.getD j (.i 0)) (ys.getD j (.i 0))) (decide (xs.length < ys.length)) 0 (min xs.length ys.length) = (ND.cmpL xs ys == .lt)
  | [], [] => rfl
  | [], y :: ys => by simp [Ob.lexAt, ND.cmpL]
  | x :: xs, [] => by simp [Ob.lexAt, ND.cmpL]
  | x :: xs, y :: ys => by
    have ih := lexAt_cmp xs ys
    rw [List.length_cons, List.length_cons, show min (xs.length + 1) (ys.length + 1) = min xs.length ys.length + 1 by omega, Ob.lexAt_succ]
    rw [← lexAt_shift]
    show (if (ND.cmp x y == .eq) = true then Ob.lexAt (fun j => ND.cmp (xs.getD j (.i 0)) (ys.getD j (.i 0)) == .eq) (fun j => ND.ltB (xs.getD j (.i 0)) (ys.getD j (.i 0))) (decide (xs.length + 1 < ys.length + 1)) 0 _ else ND.ltB x y) = ((ND.cmp x y).then (ND.cmpL xs ys) == .lt)
    rw [show decide (xs.length + 1 < ys.length + 1) = decide (xs.length < ys.length) from decide_eq_decide.mpr (by omega), ih]
    unfold ND.ltB
    cases ND.cmp x y <;> rfl
theorem py_getD (xs : List ND) {j : Nat} (h : j < (ND.pyL xs).length) : (ND.pyL xs)[j] = ND.py (xs.getD j (.i 0)) := by
  have h' : j < xs.length := by rw [ND.pyL_map, List.length_map] at h; exact h
  rw [List.getD_eq_getElem?_getD, List.getElem?_eq_getElem h']
  simp only [ND.pyL_map, List.getElem_map, Option.getD_some]
theorem depL (xs : List ND) (j : Nat) : (ND.py (xs.getD j (.i 0))).depth ≤ PyData.depthAll (ND.pyL xs) := by
  induction xs generalizing j with
  | nil => show PyData.depth (.int 0) ≤ _; simp [PyData.depth]
  | cons x xs ih =>
    cases j with
    | zero =>
      show (ND.py x).depth ≤ PyData.depthAll (ND.py x :: ND.pyL xs)
      simp only [PyData.depthAll]
      omega
    | succ j =>
      have := ih j
      show (ND.py (xs.getD j (.i 0))).depth ≤ PyData.depthAll (ND.py x :: ND.pyL xs)
      simp only [PyData.depthAll]
      omega
theorem hom_at : ∀ {xs ys : List ND} {j : Nat}, ND.homL xs ys = true → j < xs.length → j < ys.length → ND.hom (xs.getD j (.i 0)) (ys.getD j (.i 0)) = true
  | x :: xs, y :: ys, 0, h, _, _ => by
    simp only [ND.homL, Bool.and_eq_true] at h
    exact h.1
  | x :: xs, y :: ys, j + 1, h, h1, h2 => by
    simp only [ND.homL, Bool.and_eq_true] at h
    exact hom_at (xs := xs) (ys := ys) h.2 (Nat.lt_of_succ_lt_succ h1) (Nat.lt_of_succ_lt_succ h2)
theorem nd_size : ∀ (xs : List ND) (j : Nat), j < xs.length → sizeOf (xs.getD j (.i 0)) < sizeOf xs
  | x :: xs, 0, _ => by show sizeOf x < sizeOf (x :: xs); simp; omega
  | x :: xs, j + 1, h => by
    have := nd_size xs j (Nat.lt_of_succ_lt_succ h)
    show sizeOf (xs.getD j (.i 0)) < sizeOf (x :: xs)
    simp only [List.cons.sizeOf_spec]
    omega
/-- x < y of nested tuples of numbers of one form -/
theorem rc_lt : ∀ (x y : ND) (A : Around) (s : Shared) (a b : Value) (as bs : List Addr), Reads s.heap a x.py as → Reads s.heap b y.py bs → ND.hom x y = true → A.units + min x.dep y.dep < cLine → Ob.RcOp .Lt A s a b (ND.ltB x y)
  | .i p, .i q, A, s, a, b, as, bs, ra, rb, _, hu => by
    simp only [ND.py] at ra rb
    cases ra
    cases rb
    have e : ND.ltB (.i p) (.i q) = decide (p < q) := by
      unfold ND.ltB
      simp only [ND.cmp]
      by_cases h : p < q
      · rw [decide_eq_true h, ND.int_lt.mpr h]; rfl
      · rw [decide_eq_false h]
        have : compare p q ≠ .lt := fun e => h (ND.int_lt.mp e)
        cases e : compare p q <;> simp_all
    rw [e]
    exact Ob.RcOp.lt_int _ _ _ _
  | .t xs, .t ys, A, s, a, b, as, bs, ra, rb, hh, hu => by
    simp only [ND.py] at ra rb
    cases ra with
    | tuple k1 k2 k3 k4 =>
      cases rb with
      | tuple l1 l2 l3 l4 =>
        rename_i a oa vs na b ob ws nb
        have n1 := SeqAt.ReadsAll.length _ _ _ k4
        have n2 := SeqAt.ReadsAll.length _ _ _ l4
        simp only [ND.hom] at hh
        have dx : (ND.t xs).dep = PyData.depthAll (ND.pyL xs) + 1 := by simp only [ND.dep, ND.py, PyData.depth]
        have dy : (ND.t ys).dep = PyData.depthAll (ND.pyL ys) + 1 := by simp only [ND.dep, ND.py, PyData.depth]
        rw [dx, dy] at hu
        have px : (ND.pyL xs).length = xs.length := by rw [ND.pyL_map, List.length_map]
        have py' : (ND.pyL ys).length = ys.length := by rw [ND.pyL_map, List.length_map]
        have e1 : vs.size = xs.length := by rw [← px, ← n1, Array.length_toList]
        have e2 : ws.size = ys.length := by rw [← py', ← n2, Array.length_toList]
        have in1 : A.in1.units = A.units + 1 := rfl
        have R := Ob.RcOp.tuples_lt (A := A) (s := s) (e := fun j => ND.cmp (xs.getD j (.i 0)) (ys.getD j (.i 0)) == .eq) (r := fun j => ND.ltB (xs.getD j (.i 0)) (ys.getD j (.i 0))) ⟨_, k1, k2, _, k3⟩ ⟨_, l1, l2, _, l3⟩ (by omega)
          (fun j h1 h2 => by
            obtain ⟨cs, r1⟩ := readsAll_at (j := j) k4 (by simpa using h1) (by omega)
            obtain ⟨ds, r2⟩ := readsAll_at (j := j) l4 (by simpa using h2) (by omega)
            rw [py_getD] at r1 r2
            have z := SeqAt.eqAt_reads _ _ A.in1 s _ _ _ _ r1 r2 (ND.lay _) (ND.lay _) (by have := depL xs j; have := depL ys j; rw [in1]; omega)
            rw [ND.eqv_py] at z
            simpa using z)
          (fun j h1 h2 _ => by
            obtain ⟨cs, r1⟩ := readsAll_at (j := j) k4 (by simpa using h1) (by omega)
            obtain ⟨ds, r2⟩ := readsAll_at (j := j) l4 (by simpa using h2) (by omega)
            rw [py_getD] at r1 r2
            have sz := nd_size xs j (by omega)
            have z := rc_lt (xs.getD j (.i 0)) (ys.getD j (.i 0)) A.in1 s _ _ _ _ r1 r2 (hom_at hh (by omega) (by omega)) (by have := depL xs j; have := depL ys j; rw [in1]; simp only [ND.dep]; omega)
            simpa using z)
        rw [e1, e2, lexAt_cmp] at R
        exact R
  | .i _, .t _, _, _, _, _, _, _, _, _, h, _ => by simp [ND.hom] at h
  | .t _, .i _, _, _, _, _, _, _, _, _, h, _ => by simp [ND.hom] at h
termination_by x => sizeOf x
decreasing_by simp only [ND.t.sizeOf_spec]; omega
mutual
theorem reads_keep {h h' : Heap} (k : ∀ b o, h.get? b = some o → o.cls = .type "tuple" → h'.get? b = some o) : ∀ (d : ND) (v : Value) (as : List Addr), Reads h v d.py as → Reads h' v d.py as
  | .i n, v, as, r => by
    simp only [ND.py] at r ⊢
    cases r
    exact .int _ _
  | .t xs, v, as, r => by
    simp only [ND.py] at r ⊢
    cases r with
    | tuple k1 k2 k3 k4 => exact .tuple (k _ _ k1 k2) k2 k3 (readsL_keep k xs _ _ k4)
theorem readsL_keep {h h' : Heap} (k : ∀ b o, h.get? b = some o → o.cls = .type "tuple" → h'.get? b = some o) : ∀ (ds : List ND) (vs : List Value) (as : List Addr), ReadsAll h vs (ND.pyL ds) as → ReadsAll h' vs (ND.pyL ds) as
  | [], vs, as, r => by
    simp only [ND.pyL] at r ⊢
    cases r
    exact .nil
  | d :: ds, vs, as, r => by
    simp only [ND.pyL] at r ⊢
    cases r with
    | cons r1 r2 => exact .cons (reads_keep k d _ _ r1) (readsL_keep k ds _ _ r2)
end
section
variable {prog : Program} {w : World} {A : Around} {E : Value → Shared → Prop} {s : Shared}
theorem kat_all {b : Bool} : ∀ (xs ys : List ND) (vs ws : List Value) (as bs : List Addr) (i : Nat), ReadsAll s.heap vs (ND.pyL xs) as → ReadsAll s.heap ws (ND.pyL ys) bs → ND.homL xs ys = true → A.units + max (PyData.depthAll (ND.pyL xs)) (PyData.depthAll (ND.pyL ys)) < cLine →
    ((b && i == 0) = true → ∀ x ∈ xs, ∃ n r, xs = .i n :: r) → PySem.W.KatLex prog w A b (decide (xs.length < ys.length)) (fun r s' => s' = s ∧ r = (ND.cmpL xs ys == .lt)) (vs.zip ws) i s
  | [], [], vs, ws, as, bs, i, ra, rb, _, _, _ => by
    simp only [ND.pyL] at ra rb
    cases ra
    cases rb
    exact PySem.W.kat_nil ⟨rfl, rfl⟩
  | [], y :: ys, vs, ws, as, bs, i, ra, rb, _, _, _ => by
    simp only [ND.pyL] at ra rb
    cases ra
    exact PySem.W.kat_nil ⟨rfl, by simp [ND.cmpL]⟩
  | x :: xs, [], vs, ws, as, bs, i, ra, rb, _, _, _ => by
    simp only [ND.pyL] at ra rb
    cases rb
    rw [List.zip_nil_right]
    exact PySem.W.kat_nil ⟨rfl, by simp [ND.cmpL]⟩
  | x :: xs, y :: ys, vs, ws, as, bs, i, ra, rb, hh, hu, hb => by
    simp only [ND.pyL] at ra rb hu
    simp only [PyData.depthAll] at hu
    simp only [ND.homL, Bool.and_eq_true] at hh
    cases ra with
    | cons r1 r2 =>
      cases rb with
      | cons q1 q2 =>
        rename_i v vs' as1 as2 u us' bs1 bs2
        rw [List.zip_cons_cons]
        have ee := SeqAt.eqAt_reads _ _ A s _ _ _ _ r1 q1 (ND.lay x) (ND.lay y) (by omega)
        refine PySem.W.kat_cons (ee prog w _ _ ?_)
        refine PySem.W.kat_go (fun e1 => ?_) (fun e1 => ?_)
        · have ec := ND.eqv_true e1
          have ih := kat_all (b := b) xs ys vs' us' _ _ (i + 1) r2 q2 hh.2 (by omega) (fun z => by simp at z)
          rw [List.length_cons, List.length_cons, show decide (xs.length + 1 < ys.length + 1) = decide (xs.length < ys.length) from decide_eq_decide.mpr (by omega)]
          refine PySem.W.kat_yes ?_
          have ev : ND.cmpL (x :: xs) (y :: ys) = ND.cmpL xs ys := by simp only [ND.cmpL]; rw [ec]; rfl
          rw [ev]
          exact ih
        · have ec := ND.eqv_false e1
          have ev : (ND.cmpL (x :: xs) (y :: ys) == .lt) = ND.ltB x y := by
            simp only [ND.cmpL, ND.ltB]
            cases e : ND.cmp x y with
            | eq => exact absurd e ec
            | lt => rfl
            | gt => rfl
          rw [ev]
          refine PySem.W.kat_no ?_
          cases hc : (b && i == 0) with
          | true =>
            obtain ⟨n, r, en⟩ := hb hc x List.mem_cons_self
            injection en with en _
            subst en
            cases y with
            | t _ => simp [ND.hom] at hh
            | i m =>
              simp only [ND.py] at r1 q1
              cases r1
              cases q1
              refine TS.oneLt_ints true ?_
              refine ⟨rfl, ?_⟩
              unfold ND.ltB
              simp only [ND.cmp]
              by_cases h : n < m
              · rw [decide_eq_true h, ND.int_lt.mpr h]; rfl
              · rw [decide_eq_false h]
                have : compare n m ≠ .lt := fun e => h (ND.int_lt.mp e)
                cases e : compare n m <;> simp_all
          | false =>
            refine PySem.W.kat_one _ _ ?_
            exact rc_lt x y A s _ _ _ _ r1 q1 hh.1 (by simp only [ND.dep]; omega) prog w _ _ ⟨rfl, rfl⟩
noncomputable def datOf (h : Heap) (v : Value) : ND := ND.of (SeqAt.readOf h v)
theorem datOf_eq {h : Heap} {v : Value} {d : ND} {as : List Addr} (r : Reads h v d.py as) : datOf h v = d := by
  unfold datOf
  rw [SeqAt.readOf_eq (ND.lay d) r, ND.of_py]
/-- what a list to be sorted holds: tuples, not empty, of one form -/
structure SrtOk (ds : List ND) : Prop where
  tup : ∀ d ∈ ds, ∃ f r, d = .t (f :: r)
  hom : ∀ d ∈ ds, ∀ e ∈ ds, ND.hom d e = true
  dep : ∀ d ∈ ds, d.dep ≤ 8
theorem swo_dat (f : Value → ND) : SrtO.Swo fun v u => ND.ltB (f v) (f u) := ⟨fun _ _ h => ND.ltB_asym h, fun _ _ _ h1 h2 => ND.ltB_tr h1 h2⟩
theorem firsts_nd : ∀ {h : Heap} {vs : List Value} {ds : List ND}, All2 (fun v d => ∃ as, Reads h v (ND.py d) as) vs ds → (∀ d ∈ ds, ∃ f r, d = .t (f :: r)) →
    ∃ fs : List Value, PySem.W.KatTups h vs fs ∧ fs.length = vs.length ∧ ∀ f ∈ fs, ∃ d g r as, d ∈ ds ∧ d = .t (g :: r) ∧ Reads h f g.py as
  | _, [], [], _, _ => ⟨[], .nil, rfl, fun _ hf => absurd hf List.not_mem_nil⟩
  | h, v :: vs, d :: ds, ha, ht => by
    obtain ⟨⟨as, r⟩, ha'⟩ := ha
    obtain ⟨fs, k, kl, kf⟩ := firsts_nd ha' fun d hd => ht d (List.mem_cons_of_mem _ hd)
    obtain ⟨g, rr, e⟩ := ht d List.mem_cons_self
    subst e
    simp only [ND.py, ND.pyL] at r
    cases r with
    | tuple k1 k2 k3 k4 =>
      rename_i a o ws n
      obtain ⟨wl⟩ := ws
      cases k4 with
      | cons q1 q2 =>
        rename_i x xs bs cs
        refine ⟨x :: fs, .cons k1 k2 k3 (by simp) k, by simp [kl], fun f hf => ?_⟩
        rcases List.mem_cons.mp hf with e | e
        · subst e
          exact ⟨_, g, rr, _, List.mem_cons_self, rfl, q1⟩
        · obtain ⟨d, g', r', as', h1, h2, h3⟩ := kf f e
          exact ⟨d, g', r', as', List.mem_cons_of_mem _ h1, h2, h3⟩
theorem nd_sortable {a : Addr} {vs : List Value} {ds : List ND} (h0 : 0 < vs.length) (hp : All2 (fun v d => ∃ as, Reads s.heap v (ND.py d) as) vs ds) (ok : SrtOk ds) (hu : A.units + 16 < cLine) (ha : ∀ o, s.heap.get? a = some o → o.cls ≠ .type "tuple") (f : Value → ND) (hf : ∀ v ∈ vs, ∀ d as, Reads s.heap v (ND.py d) as → f v = d) : SrtO.SortableO prog w A s a vs fun v u => ND.ltB (f v) (f u) := by
  intro h' keep
  have kt : ∀ b o, s.heap.get? b = some o → o.cls = .type "tuple" → h'.get? b = some o := fun b o e c => keep b o (fun z => by subst z; exact ha o e c) e
  have hp' : All2 (fun v d => ∃ as, Reads h' v (ND.py d) as) vs ds := hp.mono fun v d ⟨as, r⟩ => ⟨as, reads_keep kt d v as r⟩
  obtain ⟨fs, k1, k2, k3⟩ := firsts_nd hp' ok.tup
  -- the kind
  obtain ⟨f0, hf0⟩ : ∃ f0, f0 ∈ fs := by
    match fs, k2 with
    | [], k => simp at k; omega
    | x :: _, _ => exact ⟨x, List.mem_cons_self⟩
  obtain ⟨d0, g0, r0, as0, hd0, e0, rd0⟩ := k3 f0 hf0
  have same : ∀ f ∈ fs, ∃ g as, Reads h' f (ND.py g) as ∧ ND.hom g g0 = true := fun f hf => by
    obtain ⟨d, g, r, as, hd, e, rd⟩ := k3 f hf
    have hh := ok.hom d hd d0 hd0
    rw [e, e0] at hh
    simp only [ND.hom, ND.homL, Bool.and_eq_true] at hh
    exact ⟨g, as, rd, hh.1⟩
  have cmpB : ∀ b : Bool, (b = true → ∀ d ∈ ds, ∃ n r, d = .t (.i n :: r)) → SrtO.Cmp prog w A { s with heap := h' } (tuples' b) (fun p => p.1 ∈ vs) (SrtO.lt2 fun v u => ND.ltB (f v) (f u)) := fun b hb p q hm hm' => by
    obtain ⟨d, hd, as, rd⟩ := hp.mem hm
    obtain ⟨e, he, bs, re⟩ := hp.mem hm'
    have ef := hf _ hm d as rd
    have eg := hf _ hm' e bs re
    show wpAny (model prog w) A (keyLt' (tuples' b) p.1 q.1) (fun r s' => s' = _ ∧ r = ND.ltB (f p.1) (f q.1)) (fun _ _ => False) _
    rw [ef, eg]
    have rd' := reads_keep kt d _ _ rd
    have re' := reads_keep kt e _ _ re
    have hh := ok.hom d hd e he
    have dd := ok.dep d hd
    have de := ok.dep e he
    obtain ⟨g, r, rfl⟩ := ok.tup d hd
    obtain ⟨g', r', rfl⟩ := ok.tup e he
    have hb' : b = true → ∃ n, g = .i n := fun z => by
      obtain ⟨n, rr, en⟩ := hb z _ hd
      injection en with en
      injection en with en _
      exact ⟨n, en⟩
    generalize hv : p.1 = v at rd'
    generalize hw : q.1 = u at re'
    have dx : ∀ xs : List ND, (ND.t xs).dep = PyData.depthAll (ND.pyL xs) + 1 := fun xs => by simp only [ND.dep, ND.py, PyData.depth]
    rw [dx] at dd de
    have rd2 : Reads h' v (.tuple (ND.pyL (g :: r))) as := by simpa only [ND.py] using rd'
    have re2 : Reads h' u (.tuple (ND.pyL (g' :: r'))) bs := by simpa only [ND.py] using re'
    cases rd2 with
    | tuple k1 k2 k3 k4 =>
      cases re2 with
      | tuple l1 l2 l3 l4 =>
        rename_i va vo vvs vn ua uo uvs un
        refine PySem.W.kat_lt k1 k3 l1 l3 ?_
        have z := kat_all (prog := prog) (w := w) (A := A) (s := { s with heap := h' }) (b := b) (g :: r) (g' :: r') vvs.toList uvs.toList _ _ 0 k4 l4 (by simpa only [ND.hom] using hh) (by omega) (fun z x _ => by
          obtain ⟨n, en⟩ := hb' (by simpa using z)
          exact ⟨n, r, by rw [en]⟩)
        have n1 := SeqAt.ReadsAll.length _ _ _ k4
        have n2 := SeqAt.ReadsAll.length _ _ _ l4
        have m1 : vvs.size = (g :: r).length := by rw [← Array.length_toList, n1, ND.pyL_map, List.length_map]
        have m2 : uvs.size = (g' :: r').length := by rw [← Array.length_toList, n2, ND.pyL_map, List.length_map]
        rw [m1, m2]
        have ev : ND.ltB (.t (g :: r)) (.t (g' :: r')) = (ND.cmpL (g :: r) (g' :: r') == .lt) := by simp only [ND.ltB, ND.cmp]
        rw [ev]
        exact z
  cases g0 with
  | i n0 =>
    refine ⟨tuples' true, fun Q E hq => ?_, cmpB true fun _ d hd => ?_⟩
    · refine PySem.W.kat_kind (T := .type "int") k1 (by omega) (fun f hm => ?_) (by rfl) ?_
      · obtain ⟨g, as, rd, hh⟩ := same f hm
        cases g with
        | t _ => simp [ND.hom] at hh
        | i n =>
          simp only [ND.py] at rd
          cases rd
          exact PySem.W.Looks.now
      · have e : (Value.type "int" != Value.type "tuple") = true := by first | decide +kernel | rfl | decide
        rw [e]
        exact hq
    · have hh := ok.hom d hd d0 hd0
      obtain ⟨g, r, rfl⟩ := ok.tup d hd
      rw [e0] at hh
      simp only [ND.hom, ND.homL, Bool.and_eq_true] at hh
      cases g with
      | t _ => simp [ND.hom] at hh
      | i n => exact ⟨n, r, rfl⟩
  | t x0 =>
    refine ⟨tuples' false, fun Q E hq => ?_, cmpB false fun z => by cases z⟩
    refine PySem.W.kat_kind (T := .type "tuple") k1 (by omega) (fun f hm => ?_) (by rfl) ?_
    · obtain ⟨g, as, rd, hh⟩ := same f hm
      cases g with
      | i _ => simp [ND.hom] at hh
      | t xs =>
        simp only [ND.py] at rd
        cases rd with
        | tuple q1 q2 q3 q4 =>
          rename_i ga go gvs gn
          have z : PySem.W.Looks (model prog w) h' (typeOf (.ref ga)) go.cls := (PySem.W.Looks.ld q1).andThen .now
          rw [q2] at z
          exact z
    · have e : (Value.type "tuple" != Value.type "tuple") = false := by first | decide +kernel | rfl | decide
      rw [e]
      exact hq
end
section
variable {X : Cx} {K : PySem.W.Frag}
theorem reads2 {pins : List (Addr × Obj)} {σ : L2.St} {H : Hp} {s : Shared} (I : Inv X pins σ H s) : ∀ {xs : List V} {us : List Value} {ds : List ND}, Vals xs us → All2 (fun x d => Dp X.K H x (ND.py d)) xs ds → All2 (fun v d => ∃ as, Reads s.heap v (ND.py d) as) us ds
  | [], [], [], _, _ => trivial
  | _ :: _, _ :: _, _ :: _, .cons r t, h => ⟨Dp.reads I _ _ _ h.1 r, reads2 I t h.2⟩
  | [], _ :: _, _, r, _ => by cases r
  | _ :: _, [], _, r, _ => by cases r
end
theorem _root_.L2.Room.u40 {A : Around} {k : Nat} (hr : Room k A) : A.units + 40 < cLine := by have := hr.un; omega
end Pm
namespace Pm
open PySem PySem.Spec PyProof.Rows L2
theorem gcd_turn (x y : Nat) (hy : 0 < y) : Nat.gcd y (x % y) = Nat.gcd x y := by
  rw [Nat.gcd_comm x y, Nat.gcd_rec y x, Nat.gcd_comm]
theorem gcd_abs (a b : Int) : Nat.gcd (if a < 0 then -a else a).natAbs (if b < 0 then -b else b).natAbs = Int.gcd a b := by
  unfold Int.gcd
  have e : ∀ c : Int, (if c < 0 then -c else c).natAbs = c.natAbs := fun c => by split <;> omega
  rw [e, e]
theorem div_pos_num {a b : Int} (h : 0 < b) : a / ((Int.gcd a b : Nat) : Int) = (Rat.divInt a b).num ∧ b / ((Int.gcd a b : Nat) : Int) = ((Rat.divInt a b).den : Int) := by
  rw [Rat.num_divInt, Rat.den_divInt, if_neg (by omega), Int.sign_eq_one_of_pos h, Int.one_mul, Int.gcd_comm b a]
  refine ⟨rfl, ?_⟩
  rw [Int.natCast_ediv]
  congr 1
  omega
theorem gcd_le_right {a b : Int} (h : 0 < b) : ((Int.gcd a b : Nat) : Int) ≤ b := Int.gcd_le_right a h
theorem gcd_pos {a b : Int} (h : b ≠ 0) : 0 < ((Int.gcd a b : Nat) : Int) := by
  have := Int.gcd_pos_of_ne_zero_right a h
  omega
/-- the size of a fraction -/
def rb (r : Rat) (n : Nat) : Prop := r.num.natAbs < 2 ^ n ∧ r.den < 2 ^ n
theorem rb.mono {r : Rat} {n m : Nat} (h : rb r n) (k : n ≤ m) : rb r m :=
  ⟨Nat.lt_of_lt_of_le h.1 (Nat.pow_le_pow_right (by decide) k), Nat.lt_of_lt_of_le h.2 (Nat.pow_le_pow_right (by decide) k)⟩
theorem rb_div {a b : Int} {n : Nat} (hb : b ≠ 0) (h1 : a.natAbs < 2 ^ n) (h2 : b.natAbs < 2 ^ n) : rb (Rat.divInt a b) n := by
  have hg : 0 < Int.gcd b a := Int.gcd_pos_of_ne_zero_left a hb
  constructor
  · rw [Rat.num_divInt]
    refine Nat.lt_of_le_of_lt ?_ h1
    have e : (b.sign * a).natAbs ≤ a.natAbs := by
      rw [Int.natAbs_mul]
      have := Int.natAbs_sign_of_ne_zero hb
      rw [this, Nat.one_mul]
      exact Nat.le_refl _
    refine Nat.le_trans ?_ e
    exact Int.natAbs_ediv_le_natAbs _ _
  · rw [Rat.den_divInt, if_neg hb]
    exact Nat.lt_of_le_of_lt (Nat.div_le_self _ _) h2
theorem wide_add {i j : Int} {a b : Nat} (ha : i.natAbs < 2 ^ a) (hb : j.natAbs < 2 ^ a) : (i + j).natAbs < 2 ^ (a + 1) := by
  have := Int.natAbs_add_le i j
  rw [Nat.pow_succ]
  omega
theorem den_ne (r : Rat) : (r.den : Int) ≠ 0 := by have := r.den_nz; omega
theorem divInt_self' (r : Rat) : Rat.divInt r.num r.den = r := Rat.num_divInt_den r
theorem plus_is (x y : Rat) : Rat.divInt (x.num * y.den + y.num * x.den) (x.den * y.den) = x + y := by
  rw [← Rat.divInt_add_divInt _ _ (den_ne x) (den_ne y), divInt_self', divInt_self']
theorem times_is (x y : Rat) : Rat.divInt (x.num * y.num) (x.den * y.den) = x * y := by
  rw [← Rat.divInt_mul_divInt, divInt_self', divInt_self']
theorem over_is (x y : Rat) : Rat.divInt (x.num * y.den) (x.den * y.num) = x / y := by
  rw [← Rat.divInt_mul_divInt, divInt_self', Rat.div_def, Rat.inv_def]
theorem rb_pos {r : Rat} {n : Nat} (h : rb r n) : 0 < n := by
  rcases Nat.eq_zero_or_pos n with z | z
  · subst z
    have := h.2
    have := r.den_nz
    omega
  · exact z
theorem rb_den {r : Rat} {n : Nat} (h : rb r n) : (r.den : Int).natAbs < 2 ^ n := by have := h.2; omega
theorem den_mul (x y : Rat) : (x.den : Int) * (y.den : Int) ≠ 0 := Int.mul_ne_zero (den_ne x) (den_ne y)
theorem rb_add {x y : Rat} {n m : Nat} (h : rb x n) (k : rb y m) : rb (x + y) (n + m + 1) := by
  rw [← plus_is]
  refine rb_div (den_mul x y) (wide_add (b := 0) (wide_lt h.1 (rb_den k)) ?_) ?_
  · rw [Nat.add_comm n m]; exact wide_lt k.1 (rb_den h)
  · exact Nat.lt_of_lt_of_le (wide_lt (rb_den h) (rb_den k)) (Nat.pow_le_pow_right (by decide) (by omega))
theorem rb_mul {x y : Rat} {n m : Nat} (h : rb x n) (k : rb y m) : rb (x * y) (n + m) := by
  rw [← times_is]
  exact rb_div (den_mul x y) (wide_lt h.1 k.1) (wide_lt (rb_den h) (rb_den k))
theorem rb_quot {x y : Rat} {n m : Nat} (hy : y ≠ 0) (h : rb x n) (k : rb y m) : rb (x / y) (n + m) := by
  rw [← over_is]
  exact rb_div (Int.mul_ne_zero (den_ne x) (fun z => hy (Rat.num_eq_zero.mp z))) (wide_lt h.1 (rb_den k)) (wide_lt (rb_den h) k.1)
/-- a new tuple that is the fraction r -/
def FrNew (H : Hp) (r : Rat) (Q : VK) : Prop := ∀ (t : Addr) (H' : Hp), Same H H' → H t = none → H' t = some (.tup [.int r.num, .int r.den]) → Q (.ref t) H'
end Pm
namespace Pm
namespace Tr
theorem noncross : ∀ {t : Tr} {lo : Nat} {p q : Nat × Nat}, p ∈ t.all lo → q ∈ t.all lo → ¬ (p.1 < q.1 ∧ q.1 < p.2 ∧ p.2 < q.2)
  | leaf, lo, p, q, hp, hq => by
    rw [List.mem_singleton.mp hp, List.mem_singleton.mp hq]
    simp only
    omega
  | node l r, lo, p, q, hp, hq => by
    have bp := bd hp
    have bq := bd hq
    have e : (node l r).w = l.w + r.w := rfl
    rw [e] at bp bq
    rcases mem_node.mp hp with h | h | h <;> rcases mem_node.mp hq with k | k | k
    · rw [h, k]; simp only; omega
    · rw [h]; simp only; omega
    · rw [h]; simp only; omega
    · rw [k]; simp only; omega
    · exact noncross h k
    · have := bd h; have := bd k; omega
    · rw [k]; simp only; omega
    · have := bd h; have := bd k; omega
    · exact noncross h k
/-- the tree turned at the rope (x, y), its ropes by a common rest R; m between, o outside -/
structure Flip (t t' : Tr) (lo x y m o : Nat) (R : List (Nat × Nat)) : Prop where
  w : t'.w = t.w
  old : (t.ropes lo).Perm ((x, y) :: R)
  new : (t'.ropes lo).Perm ((min m o, max m o) :: R)
  btw : x < m ∧ m < y
  out : Out t lo x y o
  am : (x, m) ∈ t.all lo
  mb : (m, y) ∈ t.all lo
end Tr
open PySem PySem.Spec PyProof.Rows L2
/-- the cutting behind a turning -/
def turnedL (n : Nat) (cut : List IP) (a b : Int) : List IP :=
  let e := besideL n (tiesL n cut) a b
  sortP (cut.filter (fun p => !decide (p = tieOf a b)) ++ [(e.getD 0 0, e.getD 1 0)])
structure Turning (n : Nat) (cut : List IP) (t t' : Tr) (x y m o : Nat) (R : List (Nat × Nat)) : Prop where
  F : Tr.Flip t t' 0 x y m o R
  bes : besideL n (tiesL n cut) x y = [((min m o : Nat) : Int), ((max m o : Nat) : Int)]
  out : o < x ∨ y < o
  on : o < n
  rest : (cut.filter (fun p => !decide (p = castP (x, y)))).Perm (R.map castP)
  cut' : Cutting n (turnedL n cut x y) t'
section
variable {n : Nat} {cut : List IP} {t t' : Tr} {x y m o : Nat} {R : List (Nat × Nat)}
/-- the new rope crosses the old one -/
theorem Turning.cross (C : Cutting n cut t) (U : Turning n cut t t' x y m o R) : (x < m ∧ m < y ∧ y < o ∧ min m o = m ∧ max m o = o) ∨ (o < x ∧ x < m ∧ m < y ∧ min m o = o ∧ max m o = m) := by
  have b := U.F.btw
  rcases U.out with h | h <;> omega
end
end Pm
namespace Pm
open PySem PySem.Spec PyProof.Rows L2
def crossP (a b c d : Int) : Prop := (c ≠ min a b ∧ c ≠ max a b ∧ d ≠ min a b ∧ d ≠ max a b) ∧ ¬ ((min a b < c ∧ c < max a b) ↔ (min a b < d ∧ d < max a b))
instance (a b c d : Int) : Decidable (crossP a b c d) := by unfold crossP; exact inferInstance
theorem cross_iff {a b c d : Int} (h1 : a < b) (h2 : c < d) : crossP a b c d ↔ (a < c ∧ c < b ∧ b < d) ∨ (c < a ∧ a < d ∧ d < b) := by
  unfold crossP
  rw [Int.min_eq_left (by omega), Int.max_eq_right (by omega)]
  omega
/-- ties of a cutting do not cross -/
theorem Cutting.nocross {n : Nat} {cut : List IP} {t : Tr} (C : Cutting n cut t) {p q : IP} (hp : p ∈ tiesL n cut) (hq : q ∈ tiesL n cut) : ¬ crossP p.1 p.2 q.1 q.2 := by
  obtain ⟨⟨a, b⟩, ha, rfl⟩ := C.ties.mp hp
  obtain ⟨⟨c, d⟩, hc, rfl⟩ := C.ties.mp hq
  have h1 := Tr.bd ha
  have h2 := Tr.bd hc
  simp only at h1 h2
  have n1 := Tr.noncross ha hc
  have n2 := Tr.noncross hc ha
  simp only at n1 n2
  simp only [castP]
  rw [cross_iff (by omega) (by omega)]
  omega
section
variable {n : Nat} {cut : List IP} {t t' : Tr} {x y m o : Nat} {R : List (Nat × Nat)}
theorem Turning.rope_mem (U : Turning n cut t t' x y m o R) : (x, y) ∈ t.ropes 0 := U.F.old.mem_iff.mpr List.mem_cons_self
theorem Turning.new_mem (U : Turning n cut t t' x y m o R) : (min m o, max m o) ∈ t'.ropes 0 := U.F.new.mem_iff.mpr List.mem_cons_self
theorem Turning.cutP (C : Cutting n cut t) (U : Turning n cut t t' x y m o R) : cut.Perm (castP (x, y) :: R.map castP) := C.perm.trans (U.F.old.map castP)
theorem Turning.newP (U : Turning n cut t t' x y m o R) : (turnedL n cut x y).Perm (castP (min m o, max m o) :: R.map castP) := U.cut'.perm.trans (U.F.new.map castP)
theorem Turning.len (C : Cutting n cut t) (U : Turning n cut t t' x y m o R) : (turnedL n cut x y).length = cut.length := by
  rw [U.newP.length_eq, (U.cutP C).length_eq] <;> rfl
theorem Turning.new_cross (C : Cutting n cut t) (U : Turning n cut t t' x y m o R) : crossP (castP (min m o, max m o)).1 (castP (min m o, max m o)).2 (castP (x, y)).1 (castP (x, y)).2 := by
  have c := U.cross C
  have b := U.F.btw
  simp only [castP]
  rw [cross_iff (by omega) (by omega)]
  omega
theorem Turning.new_notin (C : Cutting n cut t) (U : Turning n cut t t' x y m o R) : castP (min m o, max m o) ∉ tiesL n cut := fun h => by
  exact C.nocross h (mem_ties.mpr (.inr (C.mem.mpr ⟨_, U.rope_mem, rfl⟩))) (U.new_cross C)
theorem Turning.fresh (C : Cutting n cut t) (U : Turning n cut t t' x y m o R) : (turnedL n cut x y).filter (fun p => !decide (p ∈ cut)) = [castP (min m o, max m o)] := by
  have pp := U.newP.filter (fun p => !decide (p ∈ cut))
  rw [List.filter_cons_of_pos (by
    have : castP (min m o, max m o) ∉ cut := fun h => U.new_notin C (mem_ties.mpr (.inr h))
    simp [this])] at pp
  have e2 : (R.map castP).filter (fun p => !decide (p ∈ cut)) = [] := List.filter_eq_nil_iff.mpr (fun p hp => by
    have : p ∈ cut := (U.cutP C).mem_iff.mpr (List.mem_cons_of_mem _ hp)
    simp [this])
  rw [e2] at pp
  exact List.perm_singleton.mp pp
theorem Turning.keeps (C : Cutting n cut t) (U : Turning n cut t t' x y m o R) {p : IP} (hp : p ∈ cut) (hne : p ≠ castP (x, y)) : p ∈ turnedL n cut x y ∧ ¬ crossP p.1 p.2 (castP (min m o, max m o)).1 (castP (min m o, max m o)).2 := by
  have h1 : p ∈ turnedL n cut x y := by
    rcases List.mem_cons.mp ((U.cutP C).mem_iff.mp hp) with e | e
    · exact absurd e hne
    · exact U.newP.mem_iff.mpr (List.mem_cons_of_mem _ e)
  exact ⟨h1, U.cut'.nocross (mem_ties.mpr (.inr h1)) (mem_ties.mpr (.inr (U.cut'.mem.mpr ⟨_, U.new_mem, rfl⟩)))⟩
end
end Pm
namespace Pm
abbrev I3 := Int × Int × Int
end Pm
namespace Pm
structure V2 where
  p : Rat
  q : Rat
theorem rat_pos_of_mul {a b : Rat} (hb : 0 < b) (h : 0 < a * b) : 0 < a := by
  by_cases z : 0 < a
  · exact z
  · have z1 : a ≤ 0 := by grind
    have z2 : 0 ≤ -a := by grind
    have := Rat.mul_nonneg z2 (show (0 : Rat) ≤ b by grind)
    grind
theorem rat_div_pos {a b : Rat} (h : 0 < a) (k : 0 < b) : 0 < a / b := by
  refine rat_pos_of_mul k ?_
  have : a / b * b = a := by grind
  rw [this]; exact h
end Pm
namespace Pm
def vb (v : V2) (E B : Nat) : Prop := ∃ x y : Int, v.p * E = x ∧ v.q * E = y ∧ x.natAbs ≤ B ∧ y.natAbs ≤ B
theorem vb.mono {v : V2} {E B C : Nat} (h : vb v E B) (k : B ≤ C) : vb v E C := by
  obtain ⟨x, y, h1, h2, h3, h4⟩ := h
  exact ⟨x, y, h1, h2, by omega, by omega⟩
/-- a length above nought with a small top and bottom -/
def szd (r : Rat) (N M : Nat) : Prop := 0 < r ∧ r.num.natAbs ≤ N ∧ r.den ≤ M
theorem pos_num {r : Rat} (h : 0 < r) : 0 < r.num := by
  have h1 := Rat.num_nonneg.mpr (show 0 ≤ r by grind)
  have h2 : r.num ≠ 0 := fun z => by rw [Rat.num_eq_zero.mp z] at h; exact absurd h (by grind)
  omega
end Pm
namespace Pm
open PySem PySem.Spec PyProof.Rows L2
section
variable {prog : Program} {w : World} {κ : Type} [DecidableEq κ] {knd : HeapKind prog w κ} {A : Around} {E : Value → Shared → Prop} {s : Shared}
theorem call_dictH {o : Addr} {more : List (κ × Addr × Value)} {Q : Value → Shared → Prop} (hu : ∀ A' : Around, A'.units ≤ A.units + 2 → knd.room A') (hoS : (o == sysModules) = false) (ho : s.heap.DictOfH knd o more) (hsz : more.length ≤ sizeLine)
    (hty : ∀ x ∈ more, s.TypeIs (.ref x.2.1) "tuple") (hap : (more.map fun x => knd.hash x.1).Nodup) (hst : ∀ x ∈ more, knd.is (s.heap.push { cls := .type "dict", data := .dict #[] }) x.1 x.2.1)
    (h : ∀ h', h'.DictOfH knd s.heap.objs.size more → Heap.SameBut s.heap.objs.size (s.heap.push { cls := .type "dict", data := .dict #[] }) h' → Q (.ref s.heap.objs.size) { s with heap := h' }) :
    wpAny (model prog w) A (call (.type "dict") [.ref o]) Q E s := by
  refine callType_codes (Q₁ := fun obj s₁ => obj = .ref s.heap.objs.size ∧ s₁ = { s with heap := s.heap.push { cls := .type "dict", data := .dict #[] } }) F.kt_called_dict (F.kt_typeCall_dict_1 _) F.entry_dict_init (kt_code_dict_new _ ⟨rfl, rfl⟩) ?_
  rintro obj s₁ ⟨rfl, rfl⟩
  have hnew : (s.heap.push { cls := .type "dict", data := .dict #[] }).DictOfH knd s.heap.objs.size [] := Heap.DictOfH.new s.heap
  have hdo : s.heap.objs.size ≠ o := by
    obtain ⟨_, _, _, hg, _⟩ := ho
    exact fun e => absurd (Heap.lt_size hg) (by rw [e]; exact Nat.lt_irrefl _)
  have ho' : (s.heap.push { cls := .type "dict", data := .dict #[] }).DictOfH knd o more := by
    obtain ⟨ob, es, ep, h1, h2, h3, h4, h5, h6⟩ := ho
    exact ⟨ob, es, ep, Heap.get?_push_of_some _ h1, h2, h3, h4, hst, h6⟩
  have hn := ho.nodup
  refine ⟨hnew.typeIs, F.args_dict_init_2 _ _, ?_⟩
  unfold Builtin.«dict.__init__»
  refine wpAny_bind ?_
  unfold Builtin.Dict.selfAndRest
  refine wpAny_bind (wpAny_notOrdered_dict hnew.typeIs ?_)
  show wpAny _ _ (pure (s.heap.objs.size, [Value.ref o])) _ _ _
  refine wpAny_pure ?_
  show wpAny _ _ (Builtin.Dict.updateFrom "dict.__init__" s.heap.objs.size (.ref o) [] .none) _ _ _
  unfold Builtin.Dict.updateFrom
  refine wpAny_bind (wpAny_typeOf ho'.typeIs ?_)
  rw [if_neg (by decide)]
  refine wpAny_bind ?_
  unfold Builtin.Dict.merge
  refine wpAny_bind ?_
  unfold Builtin.Dict.readDirectly
  refine wpAny_bind (wpAny_isInstance ho'.typeIs isSubtype_dict_dict ?_)
  simp only [Bool.not_true, Bool.false_eq_true, if_false]
  refine wpAny_bind (wpAny_specialOf ho'.typeIs F.slot_dict_iter.lookup (wpAny_pure ?_))
  simp only [beq_self_eq_true, if_true]
  refine wpAny_bind (wpAny_pure ?_)
  refine wpAny_mergeDict_heap (hsz := by simpa using hsz) (hu _ ?_) hdo hoS hnew ho' (.inr ⟨fun x hx => ?_, hap⟩) fun h' hd' _ hs' => ?_
  · exact Nat.le_refl _
  · obtain ⟨ob, h1, h2⟩ := hty x hx
    exact ⟨ob, Heap.get?_push_of_some _ h1, h2⟩
  show wpAny _ _ (Builtin.Dict.addKeywords s.heap.objs.size [] >>= _) _ _ _
  rw [storedAllH_nil_of_nodup more hn] at hd'
  exact wpAny_bind (wpAny_pure (wpAny_pure ⟨rfl, h h' hd' hs'⟩))
end
/-- the hash of a pair of small numbers -/
def ph (p : Int × Int) : Int := reduceHash (Builtin.Tuple.tupleHashOf [hashInt p.1, hashInt p.2])
theorem inj_of_nodup_map {α β : Type} {f : α → β} : ∀ {l : List α}, (l.map f).Nodup → ∀ {x y}, x ∈ l → y ∈ l → f x = f y → x = y
  | [], _, x, y, h, _, _ => nomatch h
  | z :: l, h, x, y, hx, hy, e => by
    rw [List.map_cons, List.nodup_cons] at h
    rcases List.mem_cons.mp hx with ex | mx
    · rcases List.mem_cons.mp hy with ey | my
      · rw [ex, ey]
      · rw [ex] at e
        exact absurd (List.mem_map.mpr ⟨y, my, e.symm⟩) h.1
    · rcases List.mem_cons.mp hy with ey | my
      · rw [ey] at e
        exact absurd (List.mem_map.mpr ⟨x, mx, e⟩) h.1
      · exact inj_of_nodup_map h.2 mx my e
/-- a pair as a key -/
def kk (p : IP) : List L2.Key := [.inl p.1, .inl p.2]
theorem kk_inj {p q : IP} (h : kk p = kk q) : p = q := by
  unfold kk at h
  injection h with h1 h2
  injection h2 with h2 _
  injection h1 with h1
  injection h2 with h2
  exact Prod.ext h1 h2
theorem ph_is {prog : Program} {w : World} (p : IP) : (tupleKind (mixKind prog w)).hash (kk p) = ph p := rfl
theorem KT_mem {H : Hp} : ∀ {kvs : List (List L2.Key × V)} {xs : List (List L2.Key × Addr × Value)}, KT H kvs xs → ∀ x ∈ xs, ∃ v, (x.1, v) ∈ kvs ∧ H x.2.1 = some (.tup (x.1.map kV))
  | [], _, h, x, hx => by cases h; exact nomatch hx
  | e :: kvs, _, h, x, hx => by
    cases h with
    | cons h1 h2 =>
      rcases List.mem_cons.mp hx with rfl | hx
      · exact ⟨e.2, List.mem_cons.mpr (.inl (by rw [← h1.1])), by rw [← h1.1]; exact h1.2.1⟩
      · obtain ⟨v, m, q⟩ := KT_mem h2 x hx
        exact ⟨v, List.mem_cons_of_mem _ m, q⟩
theorem KT_stay {H H' : Hp} (k : ∀ t ys, H t = some (.tup ys) → H' t = some (.tup ys)) : ∀ {kvs : List (List L2.Key × V)} {xs : List (List L2.Key × Addr × Value)}, KT H kvs xs → KT H' kvs xs
  | [], _, h => by cases h; exact .nil
  | e :: kvs, _, h => by
    cases h with
    | cons h1 h2 => exact .cons ⟨h1.1, k _ _ h1.2.1, h1.2.2⟩ (KT_stay k h2)
theorem nodup_map_inj {α β : Type} {f : α → β} : ∀ {l : List α}, (∀ x ∈ l, ∀ y ∈ l, f x = f y → x = y) → l.Nodup → (l.map f).Nodup
  | [], _, _ => List.nodup_nil
  | x :: l, h, n => by
    rw [List.nodup_cons] at n
    rw [List.map_cons, List.nodup_cons]
    refine ⟨fun m => ?_, nodup_map_inj (fun a ha b hb => h a (List.mem_cons_of_mem _ ha) b (List.mem_cons_of_mem _ hb)) n.2⟩
    obtain ⟨y, hy, e⟩ := List.mem_map.mp m
    have := h y (List.mem_cons_of_mem _ hy) x List.mem_cons_self e
    subst this
    exact n.1 hy
theorem _root_.L2.Room.u2 {A : Around} {k : Nat} (hr : Room k A) : A.units + 2 < cLine := by have := hr.un; omega
theorem meetsPop1 {prog : Program} {w : World} {κ : Type} [DecidableEq κ] {knd : HeapKind prog w κ} {d b : Addr} {k : κ} (hd : (d == sysModules) = false) :
    MeetsIn prog w (Builtin.«dict.pop» ⟨[.ref d, .ref b], []⟩) (fun A R s => ∃ xs, knd.room A.in1 ∧ knd.is s.heap k b ∧ s.heap.DictOfH knd d xs ∧ xs.length ≤ sizeLine ∧ (∃ p, atKey xs k = some p) ∧
      ∀ p, atKey xs k = some p → ∀ h' tk, h'.DictOfH knd d (DT.dropH xs k) → Heap.SameBut d s.heap h' → R (.ok (.ret p.2)) { s with heap := h', toks := tk }) :=
  .of_wp fun A R s ⟨xs, hu, hkey, hm, hsz, ⟨p0, hp0⟩, hsome⟩ => by
    obtain ⟨o, es, ep, ho, hc, hdat, he, his, hn⟩ := id hm
    have hes : es.size = xs.length := size_of_entries he
    have hpart : (keyPart (Value.ref b)).isSome = false := rfl
    unfold Builtin.«dict.pop»
    refine wpAny_bind ?_
    unfold Builtin.Dict.keyAndDefault
    refine wpAny_bind (wpAny_notOrdered_dict hm.typeIs ?_)
    show wpAny _ _ (pure (d, Value.ref b, none)) _ _ s
    refine wpAny_pure ?_
    simp only [hpart, Bool.false_eq_true, if_false]
    refine wpAny_bind (wpAny_dictEntries ho hdat (wpAny_bind (wpAny_pure ?_)))
    cases hem : es.isEmpty with
    | true =>
      have h0 : xs = [] := by
        have z : es.size = 0 := by simpa using hem
        exact List.length_eq_zero_iff.mp (by omega)
      subst h0
      exact nomatch hp0
    | false =>
      simp only [Bool.false_eq_true, if_false]
      refine wpAny_bind (DT.takeH hu hkey hm hsz (fun hno => ?_) fun p e hp hev h' hm' hs' => ?_)
      · rw [hno] at hp0
        exact nomatch hp0
      · simp only [Option.isNone_some, Bool.false_eq_true, if_false]
        exact wpAny_bind (wpAny_letGo (wpAny_pure ⟨e.val, rfl, by rw [hev]; exact hsome p hp h' _ hm' hs'⟩))
def rPop1T : V → List V → Hp → VK → Prop := fun x xs H Q => ∃ (a : Addr) (kvs : List (List L2.Key × V)) (k : List L2.Key) (b : Addr) (v : V), x = .ref a ∧ xs = [.ref b] ∧ H a = some (.dT kvs) ∧ H b = some (.tup (k.map kV)) ∧ valV kvs k = some v ∧ Q v (upd H a (.dT (dropK kvs k)))
theorem mt_pop1T {X : Cx} (hu : X.A.units + 2 < cLine) : MtR X "dict.pop" rPop1T := by
  intro pins s σ H x xs v us Q I rx rxs h
  obtain ⟨a, kvs, k, b, v1, rfl, rfl, ha, hb, ev, q1⟩ := h
  cases rx
  obtain ⟨u1, rfl, r1⟩ := vals1 rxs
  cases r1
  obtain ⟨z, hd, xs', rel, dd⟩ := dt_of I.hok ha
  have hz : xs'.length ≤ sizeLine := by rw [← Paired.length rel]; exact z
  have r := rel.val k
  rw [ev] at r
  refine call_meetsIn PySem.F.slot_dict_pop dd.typeIs PySem.F.entry_dict_pop (PySem.F.args_dict_pop_2 _ _) (meetsPop1 (knd := tupleKind (mixKind X.prog X.w)) (k := k) hd)
    ⟨xs', tupleKind_room_in1 (by omega), key_of I.hok hb, dd, hz, ?_, fun p hp h' tk dd' hs => ?_⟩
  · cases ea : atKey xs' k with
    | none => rw [ea] at r; exact (show False from r).elim
    | some p => exact ⟨p, rfl⟩
  · rw [hp] at r
    obtain ⟨o, es, ep, hq, h2, h3, h4, _, h5⟩ := dd'
    have I2 : Inv X pins σ (upd H a (.dT (dropK kvs k))) { s with heap := h', toks := tk } :=
      d_write I (by rw [ha]; exact True.intro) hs ⟨o, hq⟩ ⟨Nat.le_trans (dropK_le kvs k) z, hd, _, (DX.KT_drop k rel).keeps (fun c ys ec => (by rw [upd_ne (ne_of ec ha (fun z => nomatch z))]; exact ec)), o, es, ep, hq, h2, h3, h4, h5⟩
    show EP X pins σ Q p.2 _
    exact ⟨v1, _, I2, r, q1⟩
end Pm
namespace Pm
open PySem PySem.Spec PyProof.Rows L2
/-- a pair of numbers: tracked, or written in the top -/
def FrV (K : PySem.W.Frag) (H : Hp) (v : V) (p : IP) : Prop := ∃ t, v = .ref t ∧ (H t = some (.tup [.int p.1, .int p.2]) ∨ ∀ H', SqT K H' t [.int p.1, .int p.2])
section
variable {K : PySem.W.Frag} {H H' : Hp} {v : V} {p q : IP}
theorem FrV.keep (k : Keeps H H') (h : FrV K H v p) : FrV K H' v p := by
  obtain ⟨t, e, h | h⟩ := h
  · exact ⟨t, e, .inl (k _ _ h)⟩
  · exact ⟨t, e, .inr h⟩
theorem FrV.tup {t : Addr} (h : FrV K H (.ref t) p) : SqT K H t [.int p.1, .int p.2] := by
  obtain ⟨t, e, h | h⟩ := h
  · cases e; exact SqT.of h
  · cases e; exact h H
theorem FrV.of (h : Pr H v p) : FrV K H v p := by
  obtain ⟨t, e, h⟩ := h
  exact ⟨t, e, .inl h⟩
theorem FrV.dp (h : FrV K H v p) : Dp K H v (pD p) := by
  obtain ⟨t, rfl, h⟩ := h
  exact .tup (FrV.tup ⟨t, rfl, h⟩) (.cons (.int _) (.cons (.int _) .nil))
end
theorem w_eqFr {K : PySem.W.Frag} {H : Hp} {Q : VK} {v u : V} {p q : IP} (h1 : FrV K H v p) (h2 : FrV K H u q) (h : Q (.bl (decide (p = q))) H) : rEqD K v u H Q :=
  ⟨_, _, h1.dp, h2.dp, shaped_pD _, shaped_pD _, by rw [eqv_pD]; exact h⟩
/-- the fraction as a pair -/
def rp (r : Rat) : IP := (r.num, (r.den : Int))
def En (K : PySem.W.Frag) (H : Hp) (L : IP → IP) (e : List L2.Key × V) (k : IP) : Prop := e.1 = kk k ∧ FrV K H e.2 (L k)
/-- the dict at d: its keys in order, and what each holds -/
structure LD (K : PySem.W.Frag) (H : Hp) (d : Addr) (ks : List IP) (L : IP → IP) : Prop where
  nd : ks.Nodup
  ex : ∃ es, H d = some (.dT es) ∧ All2 (En K H L) es ks
def updF (L : IP → IP) (k : IP) (p : IP) : IP → IP := fun j => if j = k then p else L j
theorem updF_same {L : IP → IP} {k p : IP} : updF L k p k = p := if_pos rfl
theorem updF_ne {L : IP → IP} {k p j : IP} (h : j ≠ k) : updF L k p j = L j := if_neg h
def putk (ks : List IP) (k : IP) : List IP := if k ∈ ks then ks else ks ++ [k]
theorem mem_putk {ks : List IP} {k j : IP} : j ∈ putk ks k ↔ j ∈ ks ∨ j = k := by
  unfold putk
  split
  · rename_i h
    constructor
    · exact .inl
    · rintro (z | rfl)
      · exact z
      · exact h
  · rw [List.mem_append, List.mem_singleton]
theorem putk_nodup {ks : List IP} {k : IP} (h : ks.Nodup) : (putk ks k).Nodup := by
  unfold putk
  split
  · exact h
  · rename_i n
    rw [List.nodup_append]
    exact ⟨h, by simp, fun a ha b hb => by rw [List.mem_singleton.mp hb]; rintro rfl; exact n ha⟩
theorem putk_len (ks : List IP) (k : IP) : (putk ks k).length ≤ ks.length + 1 := by
  unfold putk
  split
  · omega
  · rw [List.length_append, List.length_singleton]; exact Nat.le_refl _
section
variable {K : PySem.W.Frag} {H H' : Hp} {L : IP → IP}
theorem ens_keep (k : Keeps H H') {es : List (List L2.Key × V)} {ks : List IP} (h : All2 (En K H L) es ks) : All2 (En K H' L) es ks := h.mono fun _ _ q => ⟨q.1, q.2.keep k⟩
theorem ens_congr {L' : IP → IP} : ∀ {es : List (List L2.Key × V)} {ks : List IP}, (∀ k ∈ ks, L' k = L k) → All2 (En K H L) es ks → All2 (En K H L') es ks
  | [], [], _, _ => trivial
  | _ :: _, _ :: _, e, h => ⟨⟨h.1.1, by rw [e _ List.mem_cons_self]; exact h.1.2⟩, ens_congr (fun k hk => e k (List.mem_cons_of_mem _ hk)) h.2⟩
theorem ens_val : ∀ {es : List (List L2.Key × V)} {ks : List IP}, All2 (En K H L) es ks → ∀ k, (k ∉ ks → valV es (kk k) = none) ∧ (k ∈ ks → ∃ v, valV es (kk k) = some v ∧ FrV K H v (L k))
  | [], [], _, k => ⟨fun _ => rfl, fun h => nomatch h⟩
  | e :: es, j :: ks, h, k => by
    have ih := ens_val h.2 k
    by_cases z : j = k
    · subst z
      refine ⟨fun n => absurd List.mem_cons_self n, fun _ => ⟨e.2, valV_pos h.1.1, h.1.2⟩⟩
    · have ne : ¬ e.1 = kk k := fun q => z (kk_inj (h.1.1.symm.trans q))
      rw [valV_neg ne]
      refine ⟨fun n => ih.1 fun m => n (List.mem_cons_of_mem _ m), fun m => ih.2 ?_⟩
      rcases List.mem_cons.mp m with q | q
      · exact absurd q.symm z
      · exact q
theorem ens_some {es : List (List L2.Key × V)} {ks : List IP} (h : All2 (En K H L) es ks) (k : IP) : (valV es (kk k)).isSome = decide (k ∈ ks) := by
  obtain ⟨h1, h2⟩ := ens_val h k
  by_cases m : k ∈ ks
  · obtain ⟨v, e, _⟩ := h2 m
    rw [e, decide_eq_true m] <;> rfl
  · rw [h1 m, decide_eq_false m] <;> rfl
theorem ens_map {v : V} {k p : IP} (hv : FrV K H v p) : ∀ {es : List (List L2.Key × V)} {ks : List IP}, All2 (En K H L) es ks → All2 (En K H (updF L k p)) (es.map fun kv => if kv.1 = kk k then (kv.1, v) else kv) ks
  | [], [], _ => trivial
  | e :: es, j :: ks, h => by
    refine ⟨?_, ens_map hv h.2⟩
    by_cases z : j = k
    · subst z
      show En K H _ (if e.1 = kk j then (e.1, v) else e) j
      rw [if_pos h.1.1]
      exact ⟨h.1.1, by rw [updF_same]; exact hv⟩
    · have ne : ¬ e.1 = kk k := fun q => z (kk_inj (h.1.1.symm.trans q))
      show En K H _ (if e.1 = kk k then (e.1, v) else e) j
      rw [if_neg ne]
      exact ⟨h.1.1, by rw [updF_ne z]; exact h.1.2⟩
theorem ens_put {v : V} {k p : IP} (hv : FrV K H v p) {es : List (List L2.Key × V)} {ks : List IP} (h : All2 (En K H L) es ks) : All2 (En K H (updF L k p)) (putK es (kk k) v) (putk ks k) := by
  unfold putK putk
  rw [valV_any, ens_some h]
  by_cases m : k ∈ ks
  · rw [decide_eq_true m, if_pos rfl, if_pos m]
    exact ens_map hv h
  · rw [decide_eq_false m, if_neg Bool.false_ne_true, if_neg m]
    refine All2.snoc (ens_congr (fun j hj => updF_ne (fun z => m (z ▸ hj))) h) ⟨rfl, by rw [updF_same]; exact hv⟩
theorem ens_drop {k : IP} : ∀ {es : List (List L2.Key × V)} {ks : List IP}, All2 (En K H L) es ks → All2 (En K H L) (dropK es (kk k)) (ks.filter fun j => decide (j ≠ k))
  | [], [], _ => trivial
  | e :: es, j :: ks, h => by
    have ih := ens_drop (k := k) h.2
    unfold dropK at ih ⊢
    by_cases z : j = k
    · subst z
      rw [List.filter_cons_of_neg (by simp [h.1.1]), List.filter_cons_of_neg (by simp)]
      exact ih
    · have ne : ¬ e.1 = kk k := fun q => z (kk_inj (h.1.1.symm.trans q))
      rw [List.filter_cons_of_pos (by simp [ne]), List.filter_cons_of_pos (by simp [z])]
      exact ⟨h.1, ih⟩
end
section
variable {K : PySem.W.Frag} {H H' : Hp} {d b : Addr} {ks : List IP} {L : IP → IP} {k : IP} {Q : VK} {nx : L2.St → Hp → Prop} {σ : L2.St}
theorem LD.same (h : LD K H d ks L) (s : Same H H') : LD K H' d ks L := by
  obtain ⟨n, es, h1, h2⟩ := h
  exact ⟨n, es, s _ _ h1, ens_keep (keeps s) h2⟩
theorem LD.keep {o : HO} (h : LD K H d ks L) (k : Keeps H H') (e : H' d = H d) : LD K H' d ks L := by
  obtain ⟨n, es, h1, h2⟩ := h
  exact ⟨n, es, by rw [e]; exact h1, ens_keep k h2⟩
theorem LD.congr {L' : IP → IP} (h : LD K H d ks L) (e : ∀ k ∈ ks, L' k = L k) : LD K H d ks L' := by
  obtain ⟨n, es, h1, h2⟩ := h
  exact ⟨n, es, h1, ens_congr e h2⟩
theorem Pr.kkey (h : Pr H (.ref b) k) : H b = some (.tup ((kk k).map kV)) := by
  obtain ⟨t, e, h⟩ := h
  cases e
  exact h
theorem w_ldNotIn (h : LD K H d ks L) (hb : Pr H (.ref b) k) (q : Q (.bl (!decide (k ∈ ks))) H) : DNotInK (.ref b) Q (.ref d) H := by
  obtain ⟨n, es, h1, h2⟩ := h
  exact w_dniT h1 hb.kkey (by rw [ens_some h2]; exact q)
theorem w_ldGet (h : LD K H d ks L) (hb : Pr H (.ref b) k) (m : k ∈ ks) (q : ∀ t, FrV K H (.ref t) (L k) → Q (.ref t) H) : DGK (.ref d) Q (.ref b) H := by
  obtain ⟨n, es, h1, h2⟩ := h
  obtain ⟨v, e, hv⟩ := (ens_val h2 k).2 m
  obtain ⟨t, rfl, ht⟩ := id hv
  exact w_dgT h1 hb.kkey e (q t hv)
theorem w_ldPut {v : V} {p : IP} (h : LD K H d ks L) (hb : Pr H (.ref b) k) (hv : FrV K H v p) (hl : ks.length < 1000000) (q : ∀ es, LD K (upd H d (.dT es)) d (putk ks k) (updF L k p) → Keeps H (upd H d (.dT es)) → nx σ (upd H d (.dT es))) : DPK nx σ v (.ref d) (.ref b) H := by
  obtain ⟨n, es, h1, h2⟩ := h
  have k0 : Keeps H (upd H d (.dT (putK es (kk k) v))) := keeps_dT h1
  exact w_dpT h1 hb.kkey (size_lt (by rw [h2.length]; omega)) (q _ ⟨putk_nodup n, _, upd_same, ens_keep k0 (ens_put hv h2)⟩ k0)
end
theorem perm_len {α : Type} {l l' : List α} (h : l.Nodup) (h' : l'.Nodup) (e : ∀ x, x ∈ l ↔ x ∈ l') : l.length = l'.length := ((List.perm_ext_iff_of_nodup h h').mpr e).length_eq
end Pm
namespace Pm
open PySem PySem.Spec PyProof.Rows L2
theorem FrV.rat {K : PySem.W.Frag} {H : Hp} {t : Addr} {r : Rat} (h : FrV K H (.ref t) (rp r)) : SqT K H t [.int r.num, .int r.den] := h.tup
theorem frv_new {K : PySem.W.Frag} {H : Hp} {t : Addr} {r : Rat} (h : H t = some (.tup [.int r.num, .int r.den])) : FrV K H (.ref t) (rp r) := ⟨t, rfl, .inl h⟩
/-- a pair of fractions -/
def PrV (K : PySem.W.Frag) (H : Hp) (v : V) (s : V2) : Prop := ∃ t u w, v = .ref t ∧ H t = some (.tup [.ref u, .ref w]) ∧ FrV K H (.ref u) (rp s.p) ∧ FrV K H (.ref w) (rp s.q)
section
variable {K : PySem.W.Frag} {H H' : Hp}
theorem PrV.keep (k : Keeps H H') {v : V} {s : V2} (h : PrV K H v s) : PrV K H' v s := by
  obtain ⟨t, u, w, e, h1, h2, h3⟩ := h
  exact ⟨t, u, w, e, k _ _ h1, h2.keep k, h3.keep k⟩
end
def SEn (K : PySem.W.Frag) (H : Hp) (S : Nat → V2) (e : L2.Key × V) (i : Nat) : Prop := e.1 = .inl (i : Int) ∧ PrV K H e.2 (S i)
structure SD (K : PySem.W.Frag) (H : Hp) (d : Addr) (ks : List Nat) (S : Nat → V2) : Prop where
  nd : ks.Nodup
  ex : ∃ es, H d = some (.dK es) ∧ All2 (SEn K H S) es ks
section
variable {K : PySem.W.Frag} {H H' : Hp} {S : Nat → V2}
theorem sens_keep (k : Keeps H H') {es : List (L2.Key × V)} {ks : List Nat} (h : All2 (SEn K H S) es ks) : All2 (SEn K H' S) es ks := h.mono fun _ _ q => ⟨q.1, q.2.keep k⟩
theorem key_inj {i j : Nat} (h : (Sum.inl (i : Int) : L2.Key) = Sum.inl (j : Int)) : i = j := by
  have := Sum.inl.inj h
  omega
end
section
variable {K : PySem.W.Frag} {H H' : Hp} {d : Addr} {ks : List Nat} {S : Nat → V2} {k : Nat} {Q : VK} {nx : L2.St → Hp → Prop} {σ : L2.St}
theorem SD.same (h : SD K H d ks S) (s : Same H H') : SD K H' d ks S := by
  obtain ⟨n, es, h1, h2⟩ := h
  exact ⟨n, es, s _ _ h1, sens_keep (keeps s) h2⟩
end
theorem w_pairs {tk tv : TE} {r : List (TE × TE)} {σ : L2.St} {H : Hp} {R : List (V × V) → Hp → Prop} (h : tk σ H fun x H1 => tv σ H1 fun y H2 => tPairs r σ H2 fun ps H3 => R ((x, y) :: ps) H3) : tPairs ((tk, tv) :: r) σ H R := h
theorem w_pairs0 {σ : L2.St} {H : Hp} {R : List (V × V) → Hp → Prop} (h : R [] H) : tPairs [] σ H R := h
structure LenD (K : PySem.W.Frag) (H : Hp) (d : Addr) (t : Tr) (D : Nat → Nat → Rat) : Prop where
  ex : ∃ ks L, LD K H d ks L ∧ (∀ p, p ∈ ks ↔ ∃ q, q ∈ t.all 0 ∧ p = castP q) ∧ ∀ q ∈ t.all 0, L (castP q) = rp (D q.1 q.2)
theorem LenD.same {K : PySem.W.Frag} {H H' : Hp} {d : Addr} {t : Tr} {D : Nat → Nat → Rat} (h : LenD K H d t D) (s : Same H H') : LenD K H' d t D := by
  obtain ⟨ks, L, h1, h2⟩ := h
  exact ⟨ks, L, h1.same s, h2⟩
end Pm
namespace Pm
open PySem PySem.Spec PyProof.Rows L2
/-- a row: a list of pairs -/
def Row (K : PySem.W.Frag) (H : Hp) (a : Addr) (row : List IP) : Prop := ∃ vs, H a = some (.lst vs) ∧ All2 (FrV K H) vs row
structure Tb (K : PySem.W.Frag) (H : Hp) (l : Addr) (as : List Addr) (R : List (List IP)) : Prop where
  top : H l = some (.lst (as.map V.ref))
  nd : as.Nodup
  out : l ∉ as
  rows : All2 (Row K H) as R
section
variable {K : PySem.W.Frag} {H H' : Hp} {l : Addr} {as : List Addr} {R : List (List IP)}
theorem frvs_keep (k : Keeps H H') {vs : List V} {row : List IP} (h : All2 (FrV K H) vs row) : All2 (FrV K H') vs row := h.mono fun _ _ q => q.keep k
theorem Row.same {a : Addr} {row : List IP} (h : Row K H a row) (s : Same H H') : Row K H' a row := by
  obtain ⟨vs, h1, h2⟩ := h
  exact ⟨vs, s _ _ h1, frvs_keep (keeps s) h2⟩
theorem Row.keep {a : Addr} {row : List IP} (h : Row K H a row) (k : Keeps H H') (e : H' a = H a) : Row K H' a row := by
  obtain ⟨vs, h1, h2⟩ := h
  exact ⟨vs, by rw [e]; exact h1, frvs_keep k h2⟩
theorem Tb.same (h : Tb K H l as R) (s : Same H H') : Tb K H' l as R := ⟨s _ _ h.top, h.nd, h.out, h.rows.mono fun _ _ q => q.same s⟩
theorem Tb.len (h : Tb K H l as R) : as.length = R.length := h.rows.length
theorem nodup_get {α : Type} : ∀ {l : List α} {i j : Nat} {x : α}, l.Nodup → l[i]? = some x → l[j]? = some x → i = j
  | [], i, j, x, _, h, _ => by simp at h
  | y :: l, 0, 0, x, _, _, _ => rfl
  | y :: l, 0, j + 1, x, n, h, k => by
    simp only [List.getElem?_cons_zero, Option.some.injEq, List.getElem?_cons_succ] at h k
    subst h
    exact absurd (List.mem_of_getElem? k) (List.nodup_cons.mp n).1
  | y :: l, i + 1, 0, x, n, h, k => by
    simp only [List.getElem?_cons_zero, Option.some.injEq, List.getElem?_cons_succ] at h k
    subst k
    exact absurd (List.mem_of_getElem? h) (List.nodup_cons.mp n).1
  | y :: l, i + 1, j + 1, x, n, h, k => by
    simp only [List.getElem?_cons_succ] at h k
    rw [nodup_get (List.nodup_cons.mp n).2 h k]
theorem all2_of_get {α β : Type} {P : α → β → Prop} : ∀ {xs : List α} {ys : List β}, xs.length = ys.length → (∀ (i : Nat) (x : α) (y : β), xs[i]? = some x → ys[i]? = some y → P x y) → All2 P xs ys
  | [], [], _, _ => trivial
  | x :: xs, [], h, _ => by simp at h
  | [], y :: ys, h, _ => by simp at h
  | x :: xs, y :: ys, h, f => ⟨f 0 x y rfl rfl, all2_of_get (by simpa using h) fun i a b ha hb => f (i + 1) a b (by simpa using ha) (by simpa using hb)⟩
theorem Tb.row (h : Tb K H l as R) {i : Nat} {row : List IP} (e : R[i]? = some row) : ∃ a vs, as[i]? = some a ∧ H a = some (.lst vs) ∧ All2 (FrV K H) vs row := by
  obtain ⟨a, ha, vs, h1, h2⟩ := h.rows.get' e
  exact ⟨a, vs, ha, h1, h2⟩
/-- a place of a table set -/
theorem Tb.put (h : Tb K H l as R) {i k : Nat} {a : Addr} {vs : List V} {row : List IP} {v : V} {p : IP} (e : R[i]? = some row) (ha : as[i]? = some a) (hv : H a = some (.lst vs)) (hr : All2 (FrV K H) vs row) (fv : FrV K H v p) :
    Tb K (upd H a (.lst (vs.set k v))) l as (R.set i (row.set k p)) := by
  have kp : Keeps H (upd H a (.lst (vs.set k v))) := keeps_lst hv
  have ma : a ∈ as := List.mem_of_getElem? ha
  have nl : l ≠ a := fun z => h.out (by rw [z]; exact ma)
  refine ⟨by rw [upd_ne nl]; exact h.top, h.nd, h.out, all2_of_get (by rw [List.length_set]; exact h.len) fun j b r hb hrj => ?_⟩
  by_cases z : j = i
  · subst z
    rw [ha] at hb
    cases hb
    have el : j < R.length := (List.getElem?_eq_some_iff.mp e).1
    rw [List.getElem?_set_self el] at hrj
    cases hrj
    exact ⟨_, upd_same, frvs_keep kp (hr.set k fv)⟩
  · rw [List.getElem?_set_ne (fun q => z q.symm)] at hrj
    obtain ⟨r', hr', q⟩ := h.rows.get hb
    rw [hrj] at hr'
    cases hr'
    exact q.keep kp (upd_ne fun q : b = a => z (nodup_get h.nd hb (by rw [q]; exact ha)))
end
structure RowsAt (K : PySem.W.Frag) (H0 H : Hp) (D : Addr) (f : Nat → List IP) (i : Nat) (as : List Addr) : Prop where
  same : Same H0 H
  top : H D = some (.lst (as.map V.ref))
  nd : as.Nodup
  out : D ∉ as
  fresh : ∀ a ∈ as, H0 a = none
  rows : All2 (Row K H) as ((List.range i).map f)
theorem RowsAt.put {K : PySem.W.Frag} {H0 H1 H2 : Hp} {D r : Addr} {f : Nat → List IP} {i : Nat} {as : List Addr} (h : RowsAt K H0 H1 D f i as) (hD : H0 D = none) (s : Same H1 H2) (nr : H1 r = none) (hr : Row K H2 r (f i)) : RowsAt K H0 (upd H2 D (.lst (as.map V.ref ++ [.ref r]))) D f (i + 1) (as ++ [r]) := by
  have top2 := s _ _ h.top
  have kp : Keeps H2 (upd H2 D (.lst (as.map V.ref ++ [.ref r]))) := keeps_lst top2
  have nD : r ≠ D := (ne_of_none h.top nr).symm
  have na : r ∉ as := fun z => by
    obtain ⟨row, _, vs, e, _⟩ := h.rows.mem z
    rw [nr] at e
    cases e
  refine ⟨same_but hD (h.same.trans s), by rw [upd_same, List.map_append]; rfl, ?_, ?_, ?_, ?_⟩
  · rw [List.nodup_append]
    exact ⟨h.nd, by simp, fun a ha b hb => by rw [List.mem_singleton.mp hb]; rintro rfl; exact na ha⟩
  · intro z
    rcases List.mem_append.mp z with z | z
    · exact h.out z
    · exact nD (List.mem_singleton.mp z).symm
  · intro a ha
    rcases List.mem_append.mp ha with z | z
    · exact h.fresh a z
    · rw [List.mem_singleton.mp z]; exact h.same.free nr
  · rw [List.range_succ, List.map_append]
    refine All2.append ?_ ⟨hr.keep kp (upd_ne nD), trivial⟩
    refine all2_of_get (by have := h.rows.length; exact this) fun j b row hb hrow => ?_
    obtain ⟨row', e', q⟩ := h.rows.get hb
    rw [hrow] at e'
    cases e'
    have nb : b ≠ D := fun z => h.out (by rw [← z]; exact List.mem_of_getElem? hb)
    exact (q.same s).keep kp (upd_ne nb)
end Pm
namespace Pm
open PySem PySem.Spec PyProof.Rows L2
def rowD (r : List IP) : PyData := .list (r.map pD)
def tabDat (R : List (List IP)) : PyData := .list (R.map rowD)
section
variable {K : PySem.W.Frag} {H : Hp} {Q : VK} {l m : Addr} {as bs : List Addr} {R R' : List (List IP)}
theorem frvs_dp : ∀ {row : List IP}, ∀ {vs : List V}, All2 (FrV K H) vs row → DpAll K H vs (row.map pD)
  | [], [], _ => .nil
  | _ :: _, _ :: _, h => .cons h.1.dp (frvs_dp h.2)
  | [], _ :: _, h => nomatch h
  | _ :: _, [], h => nomatch h
theorem rows_dp : ∀ {R : List (List IP)} {as : List Addr}, All2 (Row K H) as R → DpAll K H (as.map V.ref) (R.map rowD)
  | [], [], _ => .nil
  | _ :: _, _ :: _, h => by
    obtain ⟨vs, h1, h2⟩ := h.1
    exact .cons (.lst (SqL.of h1) (frvs_dp h2)) (rows_dp h.2)
  | [], _ :: _, h => nomatch h
  | _ :: _, [], h => nomatch h
theorem Tb.dp (h : Tb K H l as R) : Dp K H (.ref l) (tabDat R) := .lst (SqL.of h.top) (rows_dp h.rows)
end
end Pm
namespace Pm
open PySem PySem.Spec PyProof.Rows L2
section
variable {prog : Program} {w : World} {A : Around} {E : Value → Shared → Prop} {s : Shared}
theorem oneLt_nd {f : Bool} {xs ys : List ND} {a b : Value} {as bs : List Addr} {Q : Bool → Shared → Prop} (ra : Reads s.heap a (ND.t xs).py as) (rb : Reads s.heap b (ND.t ys).py bs) (hh : ND.hom (.t xs) (.t ys) = true) (hu : A.units + min (ND.t xs).dep (ND.t ys).dep < cLine) (hq : Q (ND.ltB (.t xs) (.t ys)) s) : wpAny (model prog w) A (oneLt' f a b) Q E s := by
  cases f with
  | false =>
    refine PySem.W.kat_one _ _ ?_
    exact rc_lt _ _ A s _ _ _ _ ra rb hh hu prog w _ _ hq
  | true =>
    simp only [ND.py] at ra rb
    cases ra with
    | tuple k1 k2 k3 k4 =>
      cases rb with
      | tuple l1 l2 l3 l4 =>
        rename_i a oa vs na b ob ws nb
        obtain ⟨cls, dd, data, sl⟩ := oa
        obtain ⟨cls2, dd2, data2, sl2⟩ := ob
        simp only at k2 k3 l2 l3
        subst k2 k3 l2 l3
        have n1 := SeqAt.ReadsAll.length _ _ _ k4
        have n2 := SeqAt.ReadsAll.length _ _ _ l4
        simp only [ND.hom] at hh
        have dx : (ND.t xs).dep = PyData.depthAll (ND.pyL xs) + 1 := by simp only [ND.dep, ND.py, PyData.depth]
        have dy : (ND.t ys).dep = PyData.depthAll (ND.pyL ys) + 1 := by simp only [ND.dep, ND.py, PyData.depth]
        rw [dx, dy] at hu
        have px : (ND.pyL xs).length = xs.length := by rw [ND.pyL_map, List.length_map]
        have py' : (ND.pyL ys).length = ys.length := by rw [ND.pyL_map, List.length_map]
        have e1 : vs.size = xs.length := by rw [← px, ← n1, Array.length_toList]
        have e2 : ws.size = ys.length := by rw [← py', ← n2, Array.length_toList]
        have in1 : A.in1.units = A.units + 1 := rfl
        have ev : ND.ltB (.t xs) (.t ys) = Ob.lexAt (fun j => ND.cmp (xs.getD j (.i 0)) (ys.getD j (.i 0)) == .eq) (fun j => ND.ltB (xs.getD j (.i 0)) (ys.getD j (.i 0))) (decide (vs.size < ws.size)) 0 (min vs.size ws.size) := by
          rw [e1, e2, lexAt_cmp]
          simp only [ND.ltB, ND.cmp]
        rw [ev] at hq
        rw [oneLt'_eq]
        simp only [if_true]
        refine wpAny_bind (wpAny_cRoomFor (by omega) ?_)
        refine wpAny_bind (wpAny_callSpecialIfBound?_slot (T := "tuple") ⟨_, k1, rfl⟩ F.slot_tuple_lt (call_meets F.slot_tuple_lt ⟨_, k1, rfl⟩ F.entry_tuple_lt (F.args_tuple_lt_2 _ _) (Ob.tuple_ltAt a b vs ws na nb dd dd2 sl sl2 (fun j => ND.cmp (xs.getD j (.i 0)) (ys.getD j (.i 0)) == .eq) (fun j => ND.ltB (xs.getD j (.i 0)) (ys.getD j (.i 0)))) ⟨k1, l1, ?_, ?_, ?_⟩))
        · intro j h1 h2
          obtain ⟨cs, r1⟩ := readsAll_at (j := j) k4 (by simpa using h1) (by omega)
          obtain ⟨ds, r2⟩ := readsAll_at (j := j) l4 (by simpa using h2) (by omega)
          rw [py_getD] at r1 r2
          have z := SeqAt.eqAt_reads _ _ A.in1 s _ _ _ _ r1 r2 (ND.lay _) (ND.lay _) (by have := depL xs j; have := depL ys j; rw [in1]; omega)
          rw [ND.eqv_py] at z
          simpa using z
        · intro j h1 h2 _
          obtain ⟨cs, r1⟩ := readsAll_at (j := j) k4 (by simpa using h1) (by omega)
          obtain ⟨ds, r2⟩ := readsAll_at (j := j) l4 (by simpa using h2) (by omega)
          rw [py_getD] at r1 r2
          have z := rc_lt (xs.getD j (.i 0)) (ys.getD j (.i 0)) A.in1 s _ _ _ _ r1 r2 (hom_at hh (by omega) (by omega)) (by have := depL xs j; have := depL ys j; rw [in1]; simp only [ND.dep]; omega)
          simpa using z
        · exact wpAny_truthy_bool hq
structure SrtOkE (ds : List ND) : Prop where
  tup : ∀ d ∈ ds, ∃ r, d = .t r
  hom : ∀ d ∈ ds, ∀ e ∈ ds, ND.hom d e = true
  dep : ∀ d ∈ ds, d.dep ≤ 8
theorem firsts_any {M : Model} : ∀ {vs : List Value} {ds : List ND}, All2 (fun v d => ∃ as, Reads s.heap v (ND.py d) as) vs ds → (∀ d ∈ ds, ∃ r, d = .t r) →
    ∃ os : List (Option Value), (∀ (A : Around) (E : Value → Shared → Prop) (Q : List (Option Value) → Shared → Prop), Q os s → wpAny M A (vs.mapM firstOfTuple') Q E s) ∧ All2 (fun o d => o.isSome = true ↔ d ≠ ND.t []) os ds
  | [], [], _, _ => ⟨[], fun A E Q h => by rw [List.mapM_nil]; exact wpAny_pure h, trivial⟩
  | v :: vs, d :: ds, ha, ht => by
    obtain ⟨⟨as, r⟩, ha'⟩ := ha
    obtain ⟨os, k, kl⟩ := firsts_any (M := M) ha' fun d hd => ht d (List.mem_cons_of_mem _ hd)
    obtain ⟨xs, e⟩ := ht d List.mem_cons_self
    subst e
    simp only [ND.py] at r
    cases r with
    | tuple k1 k2 k3 k4 =>
      rename_i a o ws n
      have n1 := SeqAt.ReadsAll.length _ _ _ k4
      rw [ND.pyL_map, List.length_map, Array.length_toList] at n1
      refine ⟨ws[0]? :: os, fun A E Q h => ?_, ⟨?_, kl⟩⟩
      · rw [List.mapM_cons]
        refine wpAny_bind ?_
        rw [PySem.W.kas_first_eq]
        refine wpAny_bind (PySem.W.Looks.here (show PySem.W.Looks M s.heap (typeOf (.ref a)) o.cls from (PySem.W.Looks.ld k1).andThen .now) ?_)
        rw [k2, if_neg (by first | decide | simp)]
        refine wpAny_bind (listItems_at k1 k3 (wpAny_pure ?_))
        exact wpAny_bind (k A E (fun bs s' => wpAny M A (pure (ws[0]? :: bs)) Q E s') (wpAny_pure h))
      · cases xs with
        | nil =>
          rw [List.length_nil] at n1
          rw [Array.getElem?_eq_none (by omega)]
          simp
        | cons x r =>
          rw [List.length_cons] at n1
          rw [Array.getElem?_eq_getElem (by omega)]
          simp
theorem nd_sortableE {a : Addr} {vs : List Value} {ds : List ND} (h0 : 0 < vs.length) (hp : All2 (fun v d => ∃ as, Reads s.heap v (ND.py d) as) vs ds) (ok : SrtOkE ds) (hu : A.units + 16 < cLine) (ha : ∀ o, s.heap.get? a = some o → o.cls ≠ .type "tuple") (f : Value → ND) (hf : ∀ v ∈ vs, ∀ d as, Reads s.heap v (ND.py d) as → f v = d) : SrtO.SortableO prog w A s a vs fun v u => ND.ltB (f v) (f u) := by
  by_cases full : ∀ d ∈ ds, d ≠ ND.t []
  · refine nd_sortable h0 hp ⟨fun d hd => ?_, ok.hom, ok.dep⟩ hu ha f hf
    obtain ⟨r, rfl⟩ := ok.tup d hd
    cases r with
    | nil => exact absurd rfl (full _ hd)
    | cons g r => exact ⟨g, r, rfl⟩
  intro h' keep
  have kt : ∀ b o, s.heap.get? b = some o → o.cls = .type "tuple" → h'.get? b = some o := fun b o e c => keep b o (fun z => by subst z; exact ha o e c) e
  have hp' : All2 (fun v d => ∃ as, Reads h' v (ND.py d) as) vs ds := hp.mono fun v d ⟨as, r⟩ => ⟨as, reads_keep kt d v as r⟩
  have cmpB : ∀ (b : Bool) (p q : Value × Value), p.1 ∈ vs → q.1 ∈ vs → wpAny (model prog w) A (oneLt' b p.1 q.1) (fun r s' => s' = { s with heap := h' } ∧ r = ND.ltB (f p.1) (f q.1)) (fun _ _ => False) { s with heap := h' } := fun b p q hm hm' => by
    obtain ⟨d, hd, as, rd⟩ := hp.mem hm
    obtain ⟨e, he, bs, re⟩ := hp.mem hm'
    rw [hf _ hm d as rd, hf _ hm' e bs re]
    have rd' := reads_keep kt d _ _ rd
    have re' := reads_keep kt e _ _ re
    have hh := ok.hom d hd e he
    have dd := ok.dep d hd
    obtain ⟨xs, rfl⟩ := ok.tup d hd
    obtain ⟨ys, rfl⟩ := ok.tup e he
    exact oneLt_nd (s := { s with heap := h' }) rd' re' hh (by omega) ⟨rfl, rfl⟩
  obtain ⟨os, ho, hos⟩ := firsts_any (M := model prog w) (s := { s with heap := h' }) hp' ok.tup
  have notall : (os.toArray.all fun x => x.isSome) = false := by
    cases e : os.toArray.all fun x => x.isSome with
    | false => rfl
    | true =>
      refine absurd (fun d hd => ?_) full
      obtain ⟨i, hi⟩ := List.getElem?_of_mem hd
      obtain ⟨o, ho', iff⟩ : ∃ o, os[i]? = some o ∧ (o.isSome = true ↔ d ≠ ND.t []) := by
        have lt := (List.getElem?_eq_some_iff.mp hi).1
        rw [← hos.length] at lt
        obtain ⟨d', hd', iff⟩ := hos.get (List.getElem?_eq_getElem lt)
        rw [hi] at hd'
        cases hd'
        exact ⟨_, List.getElem?_eq_getElem lt, iff⟩
      refine iff.mp ?_
      rw [List.all_toArray, List.all_eq_true] at e
      exact e o (List.mem_of_getElem? ho')
  have tyv : ∀ v ∈ vs, PySem.W.Looks (model prog w) h' (typeOf v) (.type "tuple") := fun v hv => by
    obtain ⟨d, hd, as, rd⟩ := hp'.mem hv
    obtain ⟨xs, rfl⟩ := ok.tup d hd
    simp only [ND.py] at rd
    cases rd with
    | tuple q1 q2 q3 q4 =>
      rename_i ga go gvs gn
      have z : PySem.W.Looks (model prog w) h' (typeOf (.ref ga)) go.cls := (PySem.W.Looks.ld q1).andThen .now
      rw [q2] at z
      exact z
  cases h00 : (os.toArray[0]?.bind id).isSome with
  | true =>
    refine ⟨general', fun Q E hq => ?_, cmpB false⟩
    rw [kat_kind_eq, List.mapM_toArray, map_eq_pure_bind]
    refine wpAny_bind (wpAny_bind (ho A E _ (wpAny_pure ?_)))
    rw [if_neg (by rw [notall]; exact Bool.false_ne_true), if_pos h00]
    exact wpAny_pure hq
  | false =>
    refine ⟨oneType', fun Q E hq => ?_, cmpB true⟩
    rw [kat_kind_eq, List.mapM_toArray, map_eq_pure_bind]
    refine wpAny_bind (wpAny_bind (ho A E _ (wpAny_pure ?_)))
    rw [if_neg (by rw [notall]; exact Bool.false_ne_true), if_neg (by rw [h00]; exact Bool.false_ne_true)]
    rw [oneTypeOnly'_eq, List.mapM_toArray, map_eq_pure_bind]
    obtain ⟨v1, vr, rfl⟩ : ∃ v1 vr, vs = v1 :: vr := by
      match vs, h0 with
      | v :: r, _ => exact ⟨v, r, rfl⟩
    refine wpAny_bind (wpAny_bind (wpAny_bind (PySem.W.kas_mapM (r := Value.type "tuple") _ (fun v hv Q' hq => (tyv v hv).here hq) (wpAny_pure ?_))))
    have hall2 : ((List.map (fun _ => Value.type "tuple") (v1 :: vr)).toArray.all fun x => x == Value.type "tuple") = true := by
      simp only [List.all_toArray, List.all_map, List.all_eq_true]
      intro _ _
      first | decide +kernel | rfl
    have h0 : (List.map (fun _ => Value.type "tuple") (v1 :: vr)).toArray[0]? = some (Value.type "tuple") := by simp
    rw [h0]
    simp only [hall2, if_true]
    exact wpAny_pure (wpAny_pure hq)
end
end Pm
namespace Pm
open PySem PySem.Spec PyProof.Rows L2 PySem.W
def keysO (p d : Addr) : HO := .ext fun h => KdlKeysView h p d
theorem keysO_ok {P : Program} {w : World} {H : Hp} {h : Heap} {p d : Addr} (e : h.get? p = some { cls := .type "dict_keys", data := .fields #[.ref d] }) : ObjOk P w H h p (keysO p d) :=
  ⟨⟨_, e, rfl, rfl⟩, ⟨_, e⟩, fun h1 h2 x k => let ⟨o, ho, r⟩ := x; ⟨o, k o ho, r⟩⟩
end Pm
namespace Pm
open PySem PySem.Spec PyProof.Rows L2 PySem.W
namespace ND
mutual
def key : ND → NestedKey
  | .i n => .num n
  | .t xs => .tup (keyL xs)
def keyL : List ND → List NestedKey
  | [] => []
  | x :: xs => key x :: keyL xs
end
mutual
theorem key_inj : ∀ x y : ND, key x = key y → x = y
  | .i a, .i b, h => by simp only [key] at h; injection h with h; rw [h]
  | .i _, .t _, h => by simp only [key] at h; cases h
  | .t _, .i _, h => by simp only [key] at h; cases h
  | .t xs, .t ys, h => by simp only [key] at h; injection h with h; rw [keyL_inj xs ys h]
theorem keyL_inj : ∀ xs ys : List ND, keyL xs = keyL ys → xs = ys
  | [], [], _ => rfl
  | [], _ :: _, h => by simp only [keyL] at h; cases h
  | _ :: _, [], h => by simp only [keyL] at h; cases h
  | x :: xs, y :: ys, h => by
    simp only [keyL] at h
    injection h with h1 h2
    rw [key_inj x y h1, keyL_inj xs ys h2]
end
mutual
theorem key_dep : ∀ x : ND, x.key.depth = (py x).depth
  | .i _ => rfl
  | .t xs => by simp only [key, py, NestedKey.depth, PyData.depth]; rw [keyL_dep xs]
theorem keyL_dep : ∀ xs : List ND, NestedKey.depthAll (keyL xs) = PyData.depthAll (pyL xs)
  | [] => rfl
  | x :: xs => by simp only [keyL, pyL, NestedKey.depthAll, PyData.depthAll]; rw [key_dep x, keyL_dep xs]
end
end ND
instance : DecidableEq ND := fun x y => if h : ND.cmp x y = .eq then .isTrue (ND.cmp_eq h) else .isFalse fun e => h (e ▸ ND.cmp_self x)
mutual
def NdV (H : Hp) : ND → V → Prop
  | .i n, v => v = .int n
  | .t ds, v => ∃ (a : Addr) (xs : List V), v = .ref a ∧ H a = some (.tup xs) ∧ NdL H ds xs
def NdL (H : Hp) : List ND → List V → Prop
  | [], xs => xs = []
  | d :: ds, xs => ∃ (x : V) (r : List V), xs = x :: r ∧ NdV H d x ∧ NdL H ds r
end
mutual
theorem NdV.keep {H H' : Hp} (k : Keeps H H') : ∀ (d : ND) (v : V), NdV H d v → NdV H' d v
  | .i n, v, h => by unfold NdV at h ⊢; exact h
  | .t ds, v, h => by
    unfold NdV at h ⊢
    obtain ⟨a, xs, e, ha, hl⟩ := h
    exact ⟨a, xs, e, k _ _ ha, NdL.keep k ds xs hl⟩
theorem NdL.keep {H H' : Hp} (k : Keeps H H') : ∀ (ds : List ND) (xs : List V), NdL H ds xs → NdL H' ds xs
  | [], xs, h => by unfold NdL at h ⊢; exact h
  | d :: ds, xs, h => by
    unfold NdL at h ⊢
    obtain ⟨x, r, e, h1, h2⟩ := h
    exact ⟨x, r, e, NdV.keep k d x h1, NdL.keep k ds r h2⟩
end
mutual
theorem NdV.dp {K : PySem.W.Frag} {H : Hp} : ∀ (d : ND) (v : V), NdV H d v → Dp K H v d.py
  | .i n, v, h => by
    unfold NdV at h
    subst h
    simp only [ND.py]
    exact .int n
  | .t ds, v, h => by
    unfold NdV at h
    obtain ⟨a, xs, rfl, ha, hl⟩ := h
    simp only [ND.py]
    exact .tup (SqT.of ha) (NdL.dp ds xs hl)
theorem NdL.dp {K : PySem.W.Frag} {H : Hp} : ∀ (ds : List ND) (xs : List V), NdL H ds xs → DpAll K H xs (ND.pyL ds)
  | [], xs, h => by
    unfold NdL at h
    subst h
    simp only [ND.pyL]
    exact .nil
  | d :: ds, xs, h => by
    unfold NdL at h
    obtain ⟨x, r, rfl, h1, h2⟩ := h
    simp only [ND.pyL]
    exact .cons (NdV.dp d x h1) (NdL.dp ds r h2)
end
section
variable {P : Program} {w : World} {H : Hp} {h : Heap}
mutual
theorem nested_of (ok : HOk P w H h) : ∀ (d : ND) (v : V) (u : Value), NdV H d v → RelV v u → NestedIs h d.key u
  | .i n, v, u, hv, r => by
    unfold NdV at hv
    subst hv
    obtain ⟨t, rfl⟩ := r
    simp only [ND.key]
    exact .int n t
  | .t ds, v, u, hv, r => by
    unfold NdV at hv
    obtain ⟨a, xs, rfl, ha, hl⟩ := hv
    obtain rfl : u = Value.ref a := r
    obtain ⟨_, its, rv, o, h1, h2, n, h3⟩ := (show ObjOk P w H h a (.tup xs) from ok a _ ha)
    simp only [ND.key]
    exact .tup h1 h2 h3 (nestedL_of ok ds xs its hl rv)
theorem nestedL_of (ok : HOk P w H h) : ∀ (ds : List ND) (xs : List V) (us : List Value), NdL H ds xs → Vals xs us → NestedAll h (ND.keyL ds) us
  | [], xs, us, hv, r => by
    unfold NdL at hv
    subst hv
    cases r
    simp only [ND.keyL]
    exact .nil
  | d :: ds, xs, us, hv, r => by
    unfold NdL at hv
    obtain ⟨x, rr, rfl, h1, h2⟩ := hv
    cases r with
    | cons r1 r2 =>
      simp only [ND.keyL]
      exact .cons (nested_of ok d x _ h1 r1) (nestedL_of ok ds rr _ h2 r2)
end
end
def ndO (P : Program) (w : World) (a : Addr) (xs : List (NestedKey × Addr × Value)) : HO := .ext fun h => (a == sysModules) = false ∧ ∃ o es ep, h.get? a = some o ∧ o.ExactDict ∧ o.data = .dict es ep ∧ es.toList = xs.map (entryOfKey (nestedKind P w))
theorem ndO_ok {P : Program} {w : World} {H : Hp} {h : Heap} {a : Addr} {xs : List (NestedKey × Addr × Value)} (hd : (a == sysModules) = false) {o : Obj} {es : Array DictEntry} {ep : Nat} (h1 : h.get? a = some o) (h2 : o.ExactDict) (h3 : o.data = .dict es ep) (h4 : es.toList = xs.map (entryOfKey (nestedKind P w))) : ObjOk P w H h a (ndO P w a xs) :=
  ⟨⟨hd, o, es, ep, h1, h2, h3, h4⟩, ⟨o, h1⟩, fun _ _ x k => let ⟨hd, o, es, ep, g1, g2, g3, g4⟩ := x; ⟨hd, o, es, ep, k o g1, g2, g3, g4⟩⟩
def KN (H : Hp) (L : ND → Int) : List ND → List (NestedKey × Addr × Value) → Prop := Paired fun d q => d.key = q.1 ∧ NdV H d (.ref q.2.1) ∧ d.dep ≤ 8 ∧ ∃ t, q.2.2 = .int (L d) t
/-- the dict at a: its keys in order, what each holds -/
structure DI (P : Program) (w : World) (H : Hp) (a : Addr) (ks : List ND) (L : ND → Int) : Prop where
  nd : ks.Nodup
  sz : ks.length ≤ 1000000
  ex : ∃ xs, H a = some (ndO P w a xs) ∧ KN H L ks xs
def updL (L : ND → Int) (d : ND) (n : Int) : ND → Int := fun j => if j = d then n else L j
theorem updL_same {L : ND → Int} {d : ND} {n : Int} : updL L d n d = n := if_pos rfl
theorem updL_ne {L : ND → Int} {d j : ND} {n : Int} (h : j ≠ d) : updL L d n j = L j := if_neg h
def putd (ks : List ND) (d : ND) : List ND := if d ∈ ks then ks else ks ++ [d]
theorem mem_putd {ks : List ND} {d j : ND} : j ∈ putd ks d ↔ j ∈ ks ∨ j = d := by
  unfold putd
  split
  · rename_i h
    constructor
    · exact .inl
    · rintro (z | rfl)
      · exact z
      · exact h
  · rw [List.mem_append, List.mem_singleton]
theorem putd_nodup {ks : List ND} {d : ND} (h : ks.Nodup) : (putd ks d).Nodup := by
  unfold putd
  split
  · exact h
  · rename_i n
    rw [List.nodup_append]
    exact ⟨h, by simp, fun a ha b hb => by rw [List.mem_singleton.mp hb]; rintro rfl; exact n ha⟩
theorem putd_len (ks : List ND) (d : ND) : (putd ks d).length ≤ ks.length + 1 := by
  unfold putd
  split
  · omega
  · rw [List.length_append, List.length_singleton]; exact Nat.le_refl _
section
variable {P : Program} {w : World} {H H' : Hp} {L : ND → Int} {ks : List ND} {xs : List (NestedKey × Addr × Value)} {a : Addr}
theorem KN.keep (k : Keeps H H') (h : KN H L ks xs) : KN H' L ks xs := Paired.mapP h fun _ _ z => ⟨z.1, NdV.keep k _ _ z.2.1, z.2.2⟩
theorem KN.at (h : KN H L ks xs) (d : ND) : (d ∈ ks → ∃ b t, PySem.atKey xs d.key = some (b, .int (L d) t)) ∧ (d ∉ ks → PySem.atKey xs d.key = none) := by
  unfold KN at h
  induction h with
  | nil => exact ⟨fun z => absurd z List.not_mem_nil, fun _ => rfl⟩
  | @cons p q ps qs hq t ih =>
    obtain ⟨h1, h2, h3, tk, h4⟩ := hq
    by_cases e : p = d
    · subst e
      have b : PySem.atKey (q :: qs) p.key = some q.2 := by simp [PySem.atKey, List.find?_cons, h1.symm]
      refine ⟨fun _ => ⟨q.2.1, tk, ?_⟩, fun z => absurd List.mem_cons_self z⟩
      rw [b, ← h4]
    · have e' : ¬ q.1 = d.key := fun z => e (ND.key_inj _ _ (h1.trans z))
      have b : PySem.atKey (q :: qs) d.key = PySem.atKey qs d.key := by simp [PySem.atKey, List.find?_cons, e']
      rw [b]
      refine ⟨fun z => ih.1 ?_, fun z => ih.2 fun m => z (List.mem_cons_of_mem _ m)⟩
      rcases List.mem_cons.mp z with z | z
      · exact absurd z.symm e
      · exact z
theorem KN.repl (h : KN H L ks xs) (d : ND) (n : Int) (t : Tok) : KN H (updL L d n) ks (xs.map (putAt d.key (.int n t))) := by
  unfold KN at h ⊢
  induction h with
  | nil => exact .nil
  | @cons p q ps qs hq _ ih =>
    rw [List.map_cons]
    refine .cons ?_ ih
    obtain ⟨h1, h2, h3, tk, h4⟩ := hq
    unfold putAt
    by_cases e : p = d
    · subst e
      rw [if_pos h1.symm]
      exact ⟨h1, h2, h3, t, by rw [updL_same]⟩
    · rw [if_neg (fun z => e (ND.key_inj _ _ (h1.trans z)))]
      exact ⟨h1, h2, h3, tk, by rw [updL_ne e]; exact h4⟩
theorem KN.congr {L' : ND → Int} (h : KN H L ks xs) (e : ∀ d ∈ ks, L' d = L d) : KN H L' ks xs := by
  unfold KN at h ⊢
  induction h with
  | nil => exact .nil
  | @cons p q ps qs hq _ ih =>
    refine .cons ?_ (ih fun d hd => e d (List.mem_cons_of_mem _ hd))
    obtain ⟨h1, h2, h3, tk, h4⟩ := hq
    exact ⟨h1, h2, h3, tk, by rw [e _ List.mem_cons_self]; exact h4⟩
theorem KN.put (h : KN H L ks xs) {d : ND} {b : Addr} (hb : NdV H d (.ref b)) (dd : d.dep ≤ 8) (n : Int) (t : Tok) : KN H (updL L d n) (putd ks d) (storedH xs d.key b (.int n t)) := by
  unfold putd storedH
  obtain ⟨h1, h2⟩ := h.at d
  by_cases m : d ∈ ks
  · obtain ⟨b', t', e⟩ := h1 m
    rw [e, if_pos m]
    exact h.repl d n t
  · rw [h2 m, if_neg m]
    exact Paired.snoc (h.congr fun j hj => updL_ne (fun z => m (z ▸ hj))) ⟨rfl, hb, dd, t, by rw [updL_same]⟩
theorem KN.keys (h : KN H L ks xs) : xs.map (·.1) = ks.map ND.key := by
  unfold KN at h
  induction h with
  | nil => rfl
  | @cons p q ps qs hq _ ih => rw [List.map_cons, List.map_cons, ih, hq.1]
theorem KN.refs (h : KN H L ks xs) : All2 (fun v d => NdV H d v) (xs.map fun x => V.ref x.2.1) ks := by
  unfold KN at h
  induction h with
  | nil => trivial
  | @cons p q ps qs hq _ ih => exact ⟨hq.2.1, ih⟩
theorem KN.len (h : KN H L ks xs) : ks.length = xs.length := Paired.length h
theorem DI.same (h : DI P w H a ks L) (s : Same H H') : DI P w H' a ks L := by
  obtain ⟨n, z, xs, h1, h2⟩ := h
  exact ⟨n, z, xs, s _ _ h1, h2.keep (keeps s)⟩
theorem DI.keep (h : DI P w H a ks L) (k : Keeps H H') (e : H' a = H a) : DI P w H' a ks L := by
  obtain ⟨n, z, xs, h1, h2⟩ := h
  exact ⟨n, z, xs, by rw [e]; exact h1, h2.keep k⟩
theorem DI.congr {L' : ND → Int} (h : DI P w H a ks L) (e : ∀ d ∈ ks, L' d = L d) : DI P w H a ks L' := by
  obtain ⟨n, z, xs, h1, h2⟩ := h
  exact ⟨n, z, xs, h1, h2.congr e⟩
theorem dn_of {h : Heap} (ok : HOk P w H h) (D : DI P w H a ks L) : (a == sysModules) = false ∧ ∃ xs, H a = some (ndO P w a xs) ∧ KN H L ks xs ∧ h.DictOfH (nestedKind P w) a xs := by
  obtain ⟨n, z, xs, h1, h2⟩ := D
  obtain ⟨⟨hd, o, es, ep, g1, g2, g3, g4⟩, _⟩ := (show ObjOk P w H h a (ndO P w a xs) from ok a _ h1)
  refine ⟨hd, xs, h1, h2, o, es, ep, g1, g2, g3, g4, ?_, ?_⟩
  · have all : ∀ {l : List ND} {m : List (NestedKey × Addr × Value)}, KN H L l m → ∀ x ∈ m, (nestedKind P w).is h x.1 x.2.1 := by
      intro l m q
      unfold KN at q
      induction q with
      | nil => intro x hx; exact nomatch hx
      | @cons p q ps qs hq t ih =>
        intro x hx
        rcases List.mem_cons.mp hx with e | hx
        · subst e
          obtain ⟨k1, k2, k3, _⟩ := hq
          refine ⟨?_, ?_⟩
          · rw [← k1]
            exact nested_of ok p _ _ k2 rfl
          · rw [← k1, ND.key_dep]
            exact k3
        · exact ih x hx
    exact all h2
  · rw [h2.keys]
    exact List.pairwise_map.mpr (n.imp fun {x y} h z => h (ND.key_inj _ _ z))
end
def tDNewN (P : Program) (w : World) : TE := fun _ H Q => ∀ p, H p = none → Q (.ref p) (upd H p (ndO P w p []))
theorem di_new {P : Program} {w : World} {H : Hp} {p : Addr} (L : ND → Int) : DI P w (upd H p (ndO P w p [])) p [] L := ⟨List.nodup_nil, Nat.zero_le _, [], upd_same, .nil⟩
/-- a key: a tuple, not too deep -/
def KeyD (d : ND) : Prop := (∃ r, d = .t r) ∧ d.dep ≤ 8
theorem NdV.ref {H : Hp} {d : ND} {v : V} (h : NdV H d v) (k : KeyD d) : ∃ b, v = .ref b := by
  obtain ⟨⟨r, rfl⟩, _⟩ := k
  unfold NdV at h
  obtain ⟨a, _, e, _⟩ := h
  exact ⟨a, e⟩
def sNPut (P : Program) (w : World) (td ty tv : TE) : TS := fun D σ H => tv σ H fun v H1 => td σ H1 fun x H2 => ty σ H2 fun y H3 => ∃ a ks L d n, x = .ref a ∧ v = .int n ∧ DI P w H3 a ks L ∧ KeyD d ∧ NdV H3 d y ∧ ks.length < 1000000 ∧
  ∀ xs, DI P w (upd H3 a (ndO P w a xs)) a (putd ks d) (updL L d n) → Keeps H3 (upd H3 a (ndO P w a xs)) → D.nx σ (upd H3 a (ndO P w a xs))
def tNGet (P : Program) (w : World) (td ty : TE) : TE := fun σ H Q => td σ H fun x H1 => ty σ H1 fun y H2 => ∃ a ks L d, x = .ref a ∧ DI P w H2 a ks L ∧ KeyD d ∧ NdV H2 d y ∧ d ∈ ks ∧ Q (.int (L d)) H2
def tNGet2 (P : Program) (w : World) (td ty tx : TE) : TE := fun σ H Q => td σ H fun x H1 => ∃ a ks L, x = .ref a ∧ DI P w H1 a ks L ∧ ty σ H1 fun y H2 => tx σ H2 fun z H3 => ∃ ks L d n, z = .int n ∧ DI P w H3 a ks L ∧ KeyD d ∧ NdV H3 d y ∧ Q (.int (if d ∈ ks then L d else n)) H3
def tNKeys (P : Program) (w : World) (td : TE) : TE := fun σ H Q => td σ H fun x H1 => ∃ a ks L, x = .ref a ∧ DI P w H1 a ks L ∧ ∀ p, H1 p = none → Q (.ref p) (upd H1 p (keysO p a))
section
variable {X : Cx} {o i e f value : Expr} {pos pos' apos cpos : Pos} {td ty tv tx : TE}
theorem pe_dnewN : PE X (.Dict [] [] pos) (tDNewN X.prog X.w) := ⟨fun pins s σ H Q I h =>
  wpAny_Dict_empty ⟨.ref s.heap.objs.size, _, I.laid (a := s.heap.objs.size) (o := ndO X.prog X.w s.heap.objs.size []) (t' := s.toks) (fun _ _ q => Heap.get?_push_of_some _ q) (Nat.le_refl _) (ndO_ok (beq_eq_false_iff_ne.mpr (Ne.symm (Nat.ne_of_lt I.big))) (es := #[]) (ep := 0) (Heap.get?_push_size _ rfl) ⟨rfl, rfl, rfl⟩ rfl rfl), rfl, h _ (I.hok.fresh (Nat.le_refl _))⟩⟩
theorem nd_is {pins : List (Addr × Obj)} {σ : L2.St} {H : Hp} {s : Shared} (I : Inv X pins σ H s) {d : ND} {b : Addr} (k : KeyD d) (h : NdV H d (.ref b)) : (nestedKind X.prog X.w).is s.heap d.key b := ⟨nested_of I.hok d _ _ h rfl, by rw [ND.key_dep]; exact k.2⟩
theorem ps_nput (hu : X.A.units + 40 < cLine) (ho : PE X o td) (hi : PE X i ty) (hv : PE X value tv) (hs : swapsWith value (some (.Subscript o i pos')) pos.line X.env = pure false) :
    PS X (.Assign [.Subscript o i pos'] value pos) (sNPut X.prog X.w td ty tv) := by
  refine ⟨fun pins s σ H D I h => ?_⟩
  refine wpAny_Assign_Subscript (thn (hv.run pins s σ H _ I h) fun r s1 ⟨v, H1, I1, rv, q1⟩ => thn (ho.run pins s1 σ H1 _ I1 q1) fun u s2 ⟨x, H2, I2, rx, q2⟩ => thn (hi.run pins s2 σ H2 _ I2 q2) fun iv s3 ⟨y, H3, I3, ry, a, ks, L, d, n, ex, ev, D3, kd, hy, hz, q3⟩ => ?_) hs
  subst ex ev
  obtain ⟨b, rfl⟩ := hy.ref kd
  obtain rfl : u = Value.ref a := rx
  obtain rfl : iv = Value.ref b := ry
  obtain ⟨t, rfl⟩ := rv
  obtain ⟨hd, xs, ha, hk, dd⟩ := dn_of I3.hok D3
  have hl := hk.len
  refine wpAny_setItem_heap (hsz := by rw [← hl, sizeLine_eq]; omega) (by show X.A.in1.units + 8 < cLine; show X.A.units + 1 + 8 < cLine; omega) (nd_is I3 kd hy) dd fun h' dd' hs => ?_
  obtain ⟨q, es, ep, hq, h2, h3, h4, _, h5⟩ := dd'
  have k9 : Keeps H3 (upd H3 a (ndO X.prog X.w a (storedH xs d.key b (.int n t)))) := fun c ys ec => by
    rw [upd_ne (ne_of ec ha (fun z => nomatch z))]
    exact ec
  have I4 := d_write (X := X) (t' := s3.toks + (nestedKind X.prog X.w).draws d.key) (ob := ndO X.prog X.w a (storedH xs d.key b (.int n t))) I3 (by rw [ha]; exact True.intro) hs ⟨q, hq⟩ (ndO_ok hd hq h2 h3 h4)
  exact ⟨σ, _, I4, q3 _ ⟨putd_nodup D3.nd, by have := putd_len ks d; omega, _, upd_same, (hk.keep k9).put (NdV.keep k9 _ _ hy) kd.2 n t⟩ k9⟩
theorem pe_nget (hu : X.A.units + 40 < cLine) (ho : PE X o td) (hi : PE X i ty) (hs : NoSl i) : PE X (.Subscript o i pos) (tNGet X.prog X.w td ty) := by
  refine ⟨fun pins s σ H Q I h => ?_⟩
  refine subD_of PySem.F.slot_dict_getitem.lookup hs (thn (ho.run pins s σ H _ I h) fun u s1 ⟨x, H1, I1, rx, q1⟩ => thn (hi.run pins s1 σ H1 _ I1 q1) fun iv s2 ⟨y, H2, I2, ry, a, ks, L, d, ex, D2, kd, hy, m, q2⟩ => ?_)
  subst ex
  obtain ⟨b, rfl⟩ := hy.ref kd
  obtain rfl : u = Value.ref a := rx
  obtain rfl : iv = Value.ref b := ry
  obtain ⟨hd, xs, ha, hk, dd⟩ := dn_of I2.hok D2
  obtain ⟨b', t', e⟩ := (hk.at d).1 m
  exact ⟨dd.typeIs, wpAny_getItem_heap (by show X.A.units + 1 + 8 < cLine; omega) (nd_is I2 kd hy) dd e ⟨.int (L d), H2, I2.tok _, ⟨t', rfl⟩, q2⟩⟩
theorem nd_ty {pins : List (Addr × Obj)} {σ : L2.St} {H : Hp} {s : Shared} {a : Addr} {ks : List ND} {L : ND → Int} (I : Inv X pins σ H s) (D : DI X.prog X.w H a ks L) : s.TypeIs (.ref a) "dict" ∧ (∀ b, Value.ref a = .ref b → ∃ ob, s.heap.get? b = some ob ∧ ob.dict = none) ∧ (a == sysModules) = false := by
  obtain ⟨hd, xs, ha, hk, dd⟩ := dn_of I.hok D
  refine ⟨dd.typeIs, fun b e => ?_, hd⟩
  cases e
  obtain ⟨ob, _, _, h1, h2, _⟩ := dd
  exact ⟨ob, h1, h2.2.1⟩
theorem pe_nget2 (hu : X.A.units + 40 < cLine) (ho : PE X o td) (he : PE X e ty) (hf : PE X f tx) (m : M2 X o "get" apos e f cpos) : PE X (.Call (.Attribute o "get" apos) [e, f] [] cpos) (tNGet2 X.prog X.w td ty tx) := by
  refine ⟨fun pins s σ H Q I h => ?_⟩
  refine wpAny_Call_method m.base m.few m.line PySem.F.plainAttrs_dict PySem.F.slot_dict_get PySem.F.type_dict_get (thn (ho.run pins s σ H _ I h) fun u s1 ⟨x, H1, I1, rx, a, ks, L, ex, d, q1⟩ => ?_)
  subst ex
  obtain rfl : u = Value.ref a := rx
  obtain ⟨t1, t2, _⟩ := nd_ty I1 d
  refine ⟨t1, t2, ?_⟩
  rw [m.trees]
  refine Calls.callWith_builtin rfl (Calls.evalArgs_plain (Calls.spliced_cons (thn (he.run pins s1 σ H1 _ I1 q1) fun iv s2 ⟨y, H2, I2, ry, q2⟩ =>
    Calls.spliced_cons (thn (hf.run pins s2 σ H2 _ I2 q2) fun fv s3 ⟨z, H3, I3, rz, ks3, L3, d3, n, ez, D3, kd, hy, q3⟩ => Calls.spliced_nil ?_))))
  subst ez
  obtain ⟨b, rfl⟩ := hy.ref kd
  obtain rfl : iv = Value.ref b := ry
  obtain ⟨tz, rfl⟩ := rz
  obtain ⟨hd, xs, ha, hk, dd⟩ := dn_of I3.hok D3
  refine call_meetsIn PySem.F.slot_dict_get dd.typeIs PySem.F.entry_dict_get (PySem.F.args_dict_get_3 _ _ _) (meetsH_dict_get_default (nestedKind X.prog X.w) a b hd _) ⟨by show X.A.units + 1 + 8 < cLine; omega, d3.key, xs, nd_is I3 kd hy, dd, ?_⟩
  by_cases mm : d3 ∈ ks3
  · obtain ⟨b', t', e⟩ := (hk.at d3).1 mm
    rw [e]
    rw [if_pos mm] at q3
    exact ⟨.int (L3 d3), H3, I3.tok _, ⟨t', rfl⟩, q3⟩
  · rw [(hk.at d3).2 mm]
    rw [if_neg mm] at q3
    exact ⟨.int n, H3, I3.tok _, ⟨tz, rfl⟩, q3⟩
theorem pe_nkeys (ho : PE X o td) (hbase : attributeBase o "keys" X.env (eval o X.env) = eval o X.env := by rfl) (hline : (apos.endLine == cpos.line) = true := by rfl) : PE X (.Call (.Attribute o "keys" apos) [] [] cpos) (tNKeys X.prog X.w td) := by
  refine ⟨fun pins s σ H Q I h => ?_⟩
  refine wpAny_Call_method0_late hbase hline (thn (ho.run pins s σ H _ I h) fun u s1 ⟨x, H1, I1, rx, a, ks, L, ex, D, q1⟩ => ?_)
  subst ex
  obtain rfl : u = Value.ref a := rx
  obtain ⟨t1, t2, hd⟩ := nd_ty I1 D
  refine ⟨"dict", "dict.keys", PySem.F.plainAttrs_dict, PySem.F.slot_dict_keys, PySem.F.type_dict_keys, t1, t2, Calls.callWith_builtin rfl (PySem.evalArgs_none ?_)⟩
  obtain ⟨_, xs, ha, hk, dd⟩ := dn_of I1.hok D
  obtain ⟨ob, es, ep, ho2, hx, hdat, _⟩ := id dd
  have raw : s1.heap.DictRaw a es ep := ⟨ob, ho2, hx, hdat⟩
  have hf : H1 s1.heap.objs.size = none := I1.hok.fresh (Nat.le_refl _)
  exact call_meetsIn PySem.F.slot_dict_keys dd.typeIs PySem.F.entry_dict_keys (PySem.F.args_dict_keys_1 _) (meets_dict_keys_raw a hd)
    ⟨⟨es, ep, raw⟩, ⟨.ref s1.heap.objs.size, upd H1 s1.heap.objs.size (keysO s1.heap.objs.size a), I1.laid (t' := s1.toks) (fun b u e => Heap.get?_push_of_some _ e) (Nat.le_refl _) (keysO_ok (Heap.get?_push_size _ rfl)), rfl, q1 _ hf⟩⟩
end
section
variable {prog : Program} {w : World} {A : Around} {E : Value → Shared → Prop} {s : Shared}
theorem sorted_keysN {r d : Addr} {es : Array DictEntry} {ep : Nat} {ds : List ND} {Q : Value → Shared → Prop} (hh : A.handled = none) (hv : KdlKeysView s.heap r d) (hm : s.heap.DictRaw d es ep) (hz : es.size ≤ sizeLine) (hu : A.units + 30 < cLine) (ok : SrtOkE ds)
    (hp : All2 (fun v d => ∃ as, Reads s.heap v (ND.py d) as) (es.toList.map (·.key)) ds)
    (h : ∀ (h1 h' : Heap) (tk : Nat) (out : List Value), SrtO.Srtd (fun v u => ND.ltB (datOf s.heap v) (datOf s.heap u)) out → SrtO.Stb (fun v u => ND.ltB (datOf s.heap v) (datOf s.heap u)) out (es.toList.map (·.key)) → (∀ b o, s.heap.get? b = some o → h1.get? b = some o) → (∀ b o, h1.get? b = some o → h'.get? b = some o) → (∃ n, h'.get? h1.objs.size = some (seqObj "list" out.toArray n)) → Q (.ref h1.objs.size) { s with heap := h', toks := tk }) :
    wpAny (model prog w) A (call (.builtin "sorted") [.ref r]) Q E s := by
  refine Calls.call_function_entry kind_sorted plain_sorted entry_sorted (args_sorted1 _) ?_
  unfold Builtin.«sorted»
  refine wpAny_bind (m := checkCount "sorted" 1 1 _) (wpAny_pure ?_)
  refine wpAny_bind (kdu_collect (A := A.in1) (KdlSrc.rawKeys (r := r) (d := d) (es := es) (ep := ep)) hh ⟨hv, hm⟩ hz fun h1 tk acc hk hacc => ?_)
  have eacc : acc.toList = es.toList.map (·.key) := by
    refine List.ext_getElem? fun j => ?_
    rw [List.getElem?_map]
    have sz := hacc.1
    by_cases c : j < es.size
    · have c1 : j < acc.size := by omega
      have q := hacc.2 j acc[j] (by rw [Array.getElem?_eq_getElem c1])
      obtain ⟨hi, e⟩ := q
      rw [Array.getElem?_toList, Array.getElem?_toList, Array.getElem?_eq_getElem c1, Array.getElem?_eq_getElem c, e]
      rfl
    · rw [Array.getElem?_toList, Array.getElem?_toList, Array.getElem?_eq_none (by omega), Array.getElem?_eq_none (by omega)]
      rfl
  rw [eacc]
  have hz' : (es.toList.map (·.key)).length ≤ sizeLine := by rw [List.length_map, Array.length_toList]; exact hz
  generalize hvs : es.toList.map (·.key) = vs at *
  refine wpAny_bind (wpAny_newList ?_ hz')
  have hoL : (h1.push (seqObj "list" vs.toArray 0)).get? h1.objs.size = some (seqObj "list" vs.toArray 0) := Heap.get?_push_size _ rfl
  have keep : ∀ b o, s.heap.get? b = some o → b ≠ h1.objs.size ∧ (h1.push (seqObj "list" vs.toArray 0)).get? b = some o := fun b o q => by
    have q1 := hk b o q
    exact ⟨Nat.ne_of_lt (Heap.lt_size q1), Heap.get?_push_of_some _ q1⟩
  show wpAny _ _ _ _ _ { s with heap := h1.push (seqObj "list" vs.toArray 0), toks := tk }
  refine wpAny_bind (wpAny_holding (wpAny_call_entry slot_list_sort ⟨_, hoL, rfl⟩ entry_list_sort (SrtO.list_sort_ord (swo_dat (datOf s.heap)) hoL hz' (fun h2 => ?_) fun out hs hb => ⟨_, rfl, ?_⟩) (args_list_sort _)))
  · have kt : ∀ c o, s.heap.get? c = some o → o.cls = .type "tuple" → (h1.push (seqObj "list" vs.toArray 0)).get? c = some o := fun c o e _ => (keep c o e).2
    refine nd_sortableE (s := { s with heap := h1.push (seqObj "list" vs.toArray 0), toks := tk }) (ds := ds) (by omega) (hp.mono fun v d ⟨as, rd⟩ => ⟨as, reads_keep kt d v as rd⟩) ok (by show A.units + 1 + 1 + 16 < cLine; omega) (fun o e => ?_) (datOf s.heap) (fun v hv' d as rd => ?_)
    · have e' : some o = some (seqObj "list" vs.toArray 0) := e.symm.trans hoL
      cases e'
      intro c
      exact absurd (Value.type.inj c) (by decide)
    · obtain ⟨d', _, as', rd'⟩ := hp.mem hv'
      rw [datOf_eq rd']
      exact (datOf_eq (reads_keep kt d' v as' rd')).symm.trans (datOf_eq rd)
  · refine wpAny_pure ⟨_, rfl, h h1 _ _ out hs hb hk (fun b o e => ?_) (sortedHeap_at hoL)⟩
    have n2 := Heap.get?_push_of_some (seqObj "list" vs.toArray 0) e
    rw [sortedHeap_old (Nat.ne_of_lt (Heap.lt_size e)) (Heap.lt_size n2)]
    exact n2
end
/-- sorted(d.keys()) of a dict with nested keys -/
def rSortKN (P : Program) (w : World) : List V → Hp → VK → Prop := fun vs H Q => ∃ (p a : Addr) (ks : List ND) (L : ND → Int), vs = [.ref p] ∧ H p = some (keysO p a) ∧ DI P w H a ks L ∧ SrtOkE ks ∧ ∀ ys l, H l = none → All2 (fun v d => NdV H d v) ys (ND.sort ks) → Q (.ref l) (upd H l (.lst ys))
theorem cr_sortKN {X : Cx} (hc : X.calm = true) (hu : X.A.units + 40 < cLine) : CallR X (.builtin "sorted") (rSortKN X.prog X.w) := by
  intro pins s σ H vs us Q I r h
  obtain ⟨p, a, ks, L, rfl, hp, D, ok, q⟩ := h
  obtain ⟨u, rfl, ru⟩ := vals1 r
  obtain rfl : u = Value.ref p := ru
  obtain ⟨hd, xs, ha, hk, dd⟩ := dn_of I.hok D
  obtain ⟨o, es, ep, ho, hx, hdat, he, _, hn⟩ := id dd
  have hview : KdlKeysView s.heap p a := (I.hok p _ hp).1
  have hsz : es.size = xs.length := size_of_entries he
  have lx := hk.len
  have zk := D.sz
  have ek : es.toList.map (·.key) = xs.map fun x => Value.ref x.2.1 := by
    rw [he, List.map_map]
    rfl
  have keys2 := hk.refs
  have rv : Vals (xs.map fun x => V.ref x.2.1) (xs.map fun x => Value.ref x.2.1) := by
    have gen : ∀ xs : List (NestedKey × Addr × Value), Vals (xs.map fun x => V.ref x.2.1) (xs.map fun x => Value.ref x.2.1) := fun xs => by
      induction xs with
      | nil => exact .nil
      | cons x xs ih => exact .cons rfl ih
    exact gen xs
  have hR : All2 (fun v d => ∃ as, Reads s.heap v (ND.py d) as) (xs.map fun x => Value.ref x.2.1) ks := reads2 I rv (keys2.mono fun v d h => NdV.dp d v h)
  have em : (xs.map fun x => Value.ref x.2.1).map (datOf s.heap) = ks := hR.map_eq fun v d ⟨as, rd⟩ => datOf_eq rd
  refine sorted_keysN (ds := ks) (I.ok.hd hc) hview ⟨o, ho, hx, hdat⟩ (by rw [sizeLine_eq]; omega) (by omega) ok (by rw [ek]; exact hR) fun h1 h' tk out hs hb hk' hkk hn' => ?_
  rw [ek] at hb
  have h3 : ∀ u ∈ out, ∃ a, u = Value.ref a := fun u hu => by
    have hu2 := hb.perm.mem_iff.mp hu
    obtain ⟨x, _, e⟩ := List.mem_map.mp hu2
    exact ⟨_, e.symm⟩
  obtain ⟨n, hn'⟩ := hn'
  have I1 : Inv X pins σ H { s with heap := h1, toks := tk } := I.kept hk'
  have len : (out.map backV).length ≤ sizeLine := by rw [List.length_map, hb.perm.length_eq, List.length_map, sizeLine_eq]; omega
  refine ⟨.ref h1.objs.size, upd H h1.objs.size (.lst (out.map backV)), I1.laid (t' := tk) hkk (Nat.le_refl _) (show ObjOk X.prog X.w _ _ _ (.lst (out.map backV)) from ⟨len, out, n, vals_back h3, hn'⟩), rfl, q _ _ (I1.hok.fresh (Nat.le_refl _)) ?_⟩
  have so : out.map (datOf s.heap) = ND.sort ks := by
    refine (ND.sort_eq ?_ ?_).symm
    · refine List.pairwise_map.mpr (hs.imp fun {x y} z => ?_)
      have z : ND.ltB (datOf s.heap y) (datOf s.heap x) = false := z
      unfold ND.leB
      rw [z]
      rfl
    · rw [← em]; exact hb.perm.map _
  rw [← so]
  -- each of them, with its own datum
  have each : ∀ u ∈ out, NdV H (datOf s.heap u) (backV u) := fun u hu => by
    have hu2 := hb.perm.mem_iff.mp hu
    obtain ⟨x, hx', e⟩ := List.mem_map.mp hu2
    have mv : V.ref x.2.1 ∈ xs.map fun x => V.ref x.2.1 := List.mem_map.mpr ⟨x, hx', rfl⟩
    obtain ⟨d, _, hv⟩ := keys2.mem mv
    obtain ⟨as, rd⟩ := Dp.reads I _ _ _ (NdV.dp (K := X.K) d _ hv) (show RelV (V.ref x.2.1) (Value.ref x.2.1) from rfl)
    rw [← e, datOf_eq rd]
    exact hv
  clear so hb hs hn' len q h3
  induction out with
  | nil => trivial
  | cons u r ih => exact ⟨each u List.mem_cons_self, ih fun v hv => each v (List.mem_cons_of_mem _ hv)⟩
section
variable {X : Cx} {P : Program} {w : World} {o i e f value : Expr} {pos pos' apos cpos : Pos} {td ty tv tx : TE}
theorem n_dnew (eP : X.prog = P := by rfl) (ew : X.w = w := by rfl) : PE X (.Dict [] [] pos) (tDNewN P w) := by
  subst eP ew
  exact pe_dnewN
theorem n_put (hu : X.A.units + 40 < cLine) (ho : PE X o td) (hi : PE X i ty) (hv : PE X value tv) (hs : swapsWith value (some (.Subscript o i pos')) pos.line X.env = pure false) (eP : X.prog = P := by rfl) (ew : X.w = w := by rfl) :
    PS X (.Assign [.Subscript o i pos'] value pos) (sNPut P w td ty tv) := by
  subst eP ew
  exact ps_nput hu ho hi hv hs
theorem n_get (hu : X.A.units + 40 < cLine) (ho : PE X o td) (hi : PE X i ty) (hs : NoSl i) (eP : X.prog = P := by rfl) (ew : X.w = w := by rfl) : PE X (.Subscript o i pos) (tNGet P w td ty) := by
  subst eP ew
  exact pe_nget hu ho hi hs
theorem n_get2 (hu : X.A.units + 40 < cLine) (ho : PE X o td) (he : PE X e ty) (hf : PE X f tx) (m : M2 X o "get" apos e f cpos) (eP : X.prog = P := by rfl) (ew : X.w = w := by rfl) : PE X (.Call (.Attribute o "get" apos) [e, f] [] cpos) (tNGet2 P w td ty tx) := by
  subst eP ew
  exact pe_nget2 hu ho he hf m
theorem n_keys (ho : PE X o td) (hbase : attributeBase o "keys" X.env (eval o X.env) = eval o X.env := by rfl) (hline : (apos.endLine == cpos.line) = true := by rfl) (eP : X.prog = P := by rfl) (ew : X.w = w := by rfl) : PE X (.Call (.Attribute o "keys" apos) [] [] cpos) (tNKeys P w td) := by
  subst eP ew
  exact pe_nkeys ho hbase hline
theorem n_sort (hc : X.calm = true) (hu : X.A.units + 40 < cLine) (eP : X.prog = P := by rfl) (ew : X.w = w := by rfl) : CallR X (.builtin "sorted") (rSortKN P w) := by
  subst eP ew
  exact cr_sortKN hc hu
end
section
variable {P : Program} {w : World} {σ : L2.St} {H : Hp} {td ty tv tx : TE} {Q : VK} {a p : Addr} {ks : List ND} {L : ND → Int} {d : ND} {n : Int} {x y v : V} {D : Ends} {nx : L2.St → Hp → Prop}
theorem w_ndnew (h : ∀ p, H p = none → DI P w (upd H p (ndO P w p [])) p [] (fun _ => 0) → Q (.ref p) (upd H p (ndO P w p []))) : tDNewN P w σ H Q := fun p hp => h p hp (di_new _)
def NPutK (P : Program) (w : World) (v x : V) (nx : L2.St → Hp → Prop) (σ : L2.St) : VK := fun y H3 => ∃ a ks L d n, x = .ref a ∧ v = .int n ∧ DI P w H3 a ks L ∧ KeyD d ∧ NdV H3 d y ∧ ks.length < 1000000 ∧
  ∀ xs, DI P w (upd H3 a (ndO P w a xs)) a (putd ks d) (updL L d n) → Keeps H3 (upd H3 a (ndO P w a xs)) → nx σ (upd H3 a (ndO P w a xs))
theorem w_nput (h : tv σ H fun v H1 => td σ H1 fun x H2 => ty σ H2 (NPutK P w v x D.nx σ)) : sNPut P w td ty tv D σ H := h
theorem w_nput1 (hD : DI P w H a ks L) (kd : KeyD d) (hy : NdV H d y) (hz : ks.length < 1000000) (q : ∀ xs, DI P w (upd H a (ndO P w a xs)) a (putd ks d) (updL L d n) → Keeps H (upd H a (ndO P w a xs)) → nx σ (upd H a (ndO P w a xs))) : NPutK P w (.int n) (.ref a) nx σ y H := ⟨a, ks, L, d, n, rfl, rfl, hD, kd, hy, hz, q⟩
def NGetK (P : Program) (w : World) (x : V) (Q : VK) : VK := fun y H2 => ∃ a ks L d, x = .ref a ∧ DI P w H2 a ks L ∧ KeyD d ∧ NdV H2 d y ∧ d ∈ ks ∧ Q (.int (L d)) H2
theorem w_nget (h : td σ H fun x H1 => ty σ H1 (NGetK P w x Q)) : tNGet P w td ty σ H Q := h
theorem w_nget1 (hD : DI P w H a ks L) (kd : KeyD d) (hy : NdV H d y) (m : d ∈ ks) (q : Q (.int (L d)) H) : NGetK P w (.ref a) Q y H := ⟨a, ks, L, d, rfl, hD, kd, hy, m, q⟩
def NG2L (P : Program) (w : World) (a : Addr) (y : V) (Q : VK) : VK := fun z H3 => ∃ ks L d n, z = .int n ∧ DI P w H3 a ks L ∧ KeyD d ∧ NdV H3 d y ∧ Q (.int (if d ∈ ks then L d else n)) H3
def NG2K (P : Program) (w : World) (ty tx : TE) (σ : L2.St) (Q : VK) : VK := fun x H1 => ∃ a ks L, x = .ref a ∧ DI P w H1 a ks L ∧ ty σ H1 fun y H2 => tx σ H2 (NG2L P w a y Q)
theorem w_ng2 (h : td σ H (NG2K P w ty tx σ Q)) : tNGet2 P w td ty tx σ H Q := h
theorem w_ng2a (hD : DI P w H a ks L) (h : ty σ H fun y H2 => tx σ H2 (NG2L P w a y Q)) : NG2K P w ty tx σ Q (.ref a) H := ⟨a, ks, L, rfl, hD, h⟩
theorem w_ng2b (hD : DI P w H a ks L) (kd : KeyD d) (hy : NdV H d y) (q : Q (.int (if d ∈ ks then L d else n)) H) : NG2L P w a y Q (.int n) H := ⟨ks, L, d, n, rfl, hD, kd, hy, q⟩
def NKeysK (P : Program) (w : World) (Q : VK) : VK := fun x H1 => ∃ a ks L, x = .ref a ∧ DI P w H1 a ks L ∧ ∀ p, H1 p = none → Q (.ref p) (upd H1 p (keysO p a))
theorem w_nkeys (h : td σ H (NKeysK P w Q)) : tNKeys P w td σ H Q := h
theorem w_nkeys1 (hD : DI P w H a ks L) (q : ∀ p, H p = none → Q (.ref p) (upd H p (keysO p a))) : NKeysK P w Q (.ref a) H := ⟨a, ks, L, rfl, hD, q⟩
theorem w_nsort (hp : H p = some (keysO p a)) (hD : DI P w H a ks L) (ok : SrtOkE ks) (q : ∀ ys l, H l = none → All2 (fun v d => NdV H d v) ys (ND.sort ks) → Q (.ref l) (upd H l (.lst ys))) : rSortKN P w [.ref p] H Q := ⟨p, a, ks, L, rfl, hp, hD, ok, q⟩
end
theorem op_catAK {X : Cx} {K : PySem.W.Frag} (e : X.K = K := by rfl) : OpR X (binaryOp .Add) (rCatA K) := e ▸ op_catA
theorem w_catA {K : PySem.W.Frag} {H : Hp} {Q : VK} {a b : Addr} {xs ys : List V} (h1 : H a = some (.tup xs)) (h2 : H b = some (.tup ys)) (hz : xs.length + ys.length ≤ sizeLine) (q : ∀ t H', Same H H' → H' t = some (.tup (xs ++ ys)) → Q (.ref t) H') : rCatA K (.ref a) (.ref b) H Q :=
  ⟨a, b, xs, ys, rfl, rfl, SqT.of h1, SqT.of h2, hz, fun e => q b H (Same.refl _) (by rw [e]; exact h2), fun _ e => q a H (Same.refl _) (by rw [e, List.append_nil]; exact h1), fun _ _ p hp => q p _ (same_new hp _) upd_same⟩
end Pm
namespace Pm
open PySem PySem.Spec PyProof.Rows L2
abbrev LP := List (ND × Int)
def tot (l : LP) (d : ND) : Int := (l.map fun q => if q.1 = d then q.2 else 0).sum
theorem tot_nil (d : ND) : tot [] d = 0 := rfl
theorem tot_cons (q : ND × Int) (l : LP) (d : ND) : tot (q :: l) d = (if q.1 = d then q.2 else 0) + tot l d := by
  unfold tot
  rw [List.map_cons, List.sum_cons]
theorem tot_append (l m : LP) (d : ND) : tot (l ++ m) d = tot l d + tot m d := by
  unfold tot
  rw [List.map_append, List.sum_append]
theorem tot_none {d : ND} : ∀ {l : LP}, d ∉ l.map (·.1) → tot l d = 0
  | [], _ => rfl
  | q :: l, h => by
    rw [List.map_cons, List.mem_cons, not_or] at h
    rw [tot_cons, if_neg (fun z => h.1 z.symm), tot_none h.2]
    rfl
theorem tot_snoc (l : LP) (q : ND × Int) (d : ND) : tot (l ++ [q]) d = tot l d + (if q.1 = d then q.2 else 0) := by
  rw [tot_append, tot_cons, tot_nil, Int.add_zero]
/-- what a number is at most: of all together -/
def mass (l : LP) : Nat := (l.map fun q => q.2.natAbs).sum
theorem tot_mass (l : LP) (d : ND) : (tot l d).natAbs ≤ mass l := by
  induction l with
  | nil => exact Nat.le_refl _
  | cons q l ih =>
    rw [tot_cons]
    show _ ≤ ((q :: l).map fun q => q.2.natAbs).sum
    rw [List.map_cons, List.sum_cons]
    have ih : (tot l d).natAbs ≤ (l.map fun q => q.2.natAbs).sum := ih
    split <;> omega
def keysOf (l : LP) : List ND := (l.map (·.1)).foldl putd []
theorem fold_putd : ∀ (ds acc : List ND), acc.Nodup → (ds.foldl putd acc).Nodup ∧ ∀ d, d ∈ ds.foldl putd acc ↔ d ∈ acc ∨ d ∈ ds
  | [], acc, h => ⟨h, fun d => ⟨.inl, fun z => z.elim id (fun m => absurd m List.not_mem_nil)⟩⟩
  | x :: ds, acc, h => by
    obtain ⟨h1, h2⟩ := fold_putd ds (putd acc x) (putd_nodup h)
    refine ⟨h1, fun d => ?_⟩
    rw [List.foldl_cons, h2, mem_putd, List.mem_cons]
    constructor
    · rintro ((z | z) | z)
      · exact .inl z
      · exact .inr (.inl z)
      · exact .inr (.inr z)
    · rintro (z | z | z)
      · exact .inl (.inl z)
      · exact .inl (.inr z)
      · exact .inr z
theorem keysOf_nodup (l : LP) : (keysOf l).Nodup := (fold_putd _ _ List.nodup_nil).1
theorem mem_keysOf {l : LP} {d : ND} : d ∈ keysOf l ↔ d ∈ l.map (·.1) := by
  unfold keysOf
  rw [(fold_putd _ _ List.nodup_nil).2]
  exact ⟨fun z => z.elim (fun m => absurd m List.not_mem_nil) id, .inr⟩
theorem sort_same {ks js : List ND} (h1 : ks.Nodup) (h2 : js.Nodup) (h : ∀ d, d ∈ ks ↔ d ∈ js) : ND.sort ks = ND.sort js :=
  ND.ris_eq (ND.sort_ris ks) (ND.sort_ris js) ((ND.sort_perm ks).trans (((List.perm_ext_iff_of_nodup h1 h2).mpr h).trans (ND.sort_perm js).symm))
theorem mem_sort {ks : List ND} {d : ND} : d ∈ ND.sort ks ↔ d ∈ ks := (ND.sort_perm ks).mem_iff
theorem sort_nodup {ks : List ND} (h : ks.Nodup) : (ND.sort ks).Nodup := (ND.sort_perm ks).nodup_iff.mpr h
/-- the one form: keys rising, all with what they have together, nothing of nought -/
def canon (l : LP) : LP := ((ND.sort (keysOf l)).filter fun d => decide (tot l d ≠ 0)).map fun d => (d, tot l d)
theorem canon_of {l : LP} {ks : List ND} {L : ND → Int} (nd : ks.Nodup) (hm : ∀ d, d ∈ ks ↔ d ∈ l.map (·.1)) (hL : ∀ d ∈ ks, L d = tot l d) : ((ND.sort ks).filter fun d => decide (L d ≠ 0)).map (fun d => (d, L d)) = canon l := by
  unfold canon
  rw [sort_same nd (keysOf_nodup l) (fun d => (hm d).trans mem_keysOf.symm)]
  have hL : ∀ d ∈ ND.sort (keysOf l), L d = tot l d := fun d hd => hL d ((hm d).mpr (mem_keysOf.mp (mem_sort.mp hd)))
  rw [List.filter_congr (q := fun d => decide (tot l d ≠ 0)) (fun d hd => by rw [hL d hd])]
  exact List.map_congr_left fun d hd => by rw [hL d (List.mem_filter.mp hd).1]
abbrev RisS (l : LP) : Prop := l.Pairwise fun p q => ND.ltB p.1 q.1 = true
theorem ltB_of {x y : ND} (h : ND.leB x y = true) (ne : x ≠ y) : ND.ltB x y = true := by
  unfold ND.leB at h
  rw [Bool.not_eq_true', ND.ltB_no] at h
  rw [ND.ltB_iff]
  cases e : ND.cmp x y with
  | lt => rfl
  | eq => exact absurd (ND.cmp_eq e) ne
  | gt => exact absurd (by rw [ND.cmp_swap x y, e]; rfl) h
theorem ltB_ne {x y : ND} (h : ND.ltB x y = true) : x ≠ y := fun e => by
  rw [e, ND.ltB_iff, ND.cmp_self] at h
  cases h
theorem canon_rise (l : LP) : RisS (canon l) := by
  unfold canon
  refine List.pairwise_map.mpr ?_
  exact (((ND.sort_ris _).and (sort_nodup (keysOf_nodup l))).sublist List.filter_sublist).imp fun h => ltB_of h.1 h.2
theorem canon_mem {l : LP} {q : ND × Int} (h : q ∈ canon l) : q.1 ∈ l.map (·.1) ∧ q.2 = tot l q.1 ∧ q.2 ≠ 0 := by
  unfold canon at h
  obtain ⟨d, hd, rfl⟩ := List.mem_map.mp h
  obtain ⟨h1, h2⟩ := List.mem_filter.mp hd
  exact ⟨mem_keysOf.mp (mem_sort.mp h1), rfl, of_decide_eq_true h2⟩
theorem rise_nodup {l : LP} (h : RisS l) : (l.map (·.1)).Nodup := List.pairwise_map.mpr (h.imp fun z => ltB_ne z)
theorem keysOf_len (l : LP) : (keysOf l).length ≤ l.length := by
  have gen : ∀ (ds acc : List ND), (ds.foldl putd acc).length ≤ acc.length + ds.length := by
    intro ds
    induction ds with
    | nil => intro acc; exact Nat.le_refl _
    | cons x ds ih =>
      intro acc
      rw [List.foldl_cons, List.length_cons]
      have := ih (putd acc x)
      have := putd_len acc x
      omega
  have := gen (l.map (·.1)) []
  rw [List.length_map, List.length_nil] at this
  unfold keysOf
  omega
theorem canon_len (l : LP) : (canon l).length ≤ l.length := by
  unfold canon
  rw [List.length_map]
  have h1 := List.length_filter_le (fun d => decide (tot l d ≠ 0)) (ND.sort (keysOf l))
  have h2 := (ND.sort_perm (keysOf l)).length_eq
  have h3 := keysOf_len l
  omega
def encP (q : ND × Int) : ND := .t [q.1, .i q.2]
def encL (l : LP) : ND := .t (l.map encP)
def encM (p : IP) : ND := .t [.i p.1, .i p.2]
def decP : ND → ND × Int
  | .t [d, .i n] => (d, n)
  | _ => (.i 0, 0)
def decL : ND → LP
  | .t xs => xs.map decP
  | _ => []
theorem dec_enc (l : LP) : decL (encL l) = l := by
  show (l.map encP).map decP = l
  rw [List.map_map]
  conv => rhs; rw [← List.map_id l]
  exact List.map_congr_left fun q _ => rfl
theorem encL_inj {l m : LP} (h : encL l = encL m) : l = m := by rw [← dec_enc l, h, dec_enc]
theorem encP_inj {p q : ND × Int} (h : encP p = encP q) : p = q := by
  unfold encP at h
  injection h with h
  injection h with h1 h2
  injection h2 with h2 _
  injection h2 with h2
  exact Prod.ext h1 h2
theorem dep_t {xs : List ND} {n : Nat} (h : ∀ x ∈ xs, x.dep ≤ n) : (ND.t xs).dep ≤ n + 1 := by
  have gen : ∀ xs : List ND, (∀ x ∈ xs, x.dep ≤ n) → PyData.depthAll (ND.pyL xs) ≤ n := by
    intro xs
    induction xs with
    | nil => intro _; simp only [ND.pyL, PyData.depthAll]; exact Nat.zero_le _
    | cons x xs ih =>
      intro h
      simp only [ND.pyL, PyData.depthAll]
      have h1 : (ND.py x).depth ≤ n := h x List.mem_cons_self
      have h2 := ih fun y hy => h y (List.mem_cons_of_mem _ hy)
      omega
  show (ND.py (.t xs)).depth ≤ n + 1
  simp only [ND.py, PyData.depth]
  have := gen xs h
  omega
theorem dep_i (n : Int) (k : Nat) : (ND.i n).dep ≤ k := by
  show (ND.py (.i n)).depth ≤ k
  simp only [ND.py, PyData.depth]
  exact Nat.zero_le _
theorem dep_M (p : IP) : (encM p).dep ≤ 1 := dep_t fun x hx => by
  rcases List.mem_cons.mp hx with rfl | hx
  · exact dep_i _ _
  · rw [List.mem_singleton.mp hx]; exact dep_i _ _
theorem dep_P {q : ND × Int} {n : Nat} (h : q.1.dep ≤ n) : (encP q).dep ≤ n + 1 := dep_t fun x hx => by
  rcases List.mem_cons.mp hx with rfl | hx
  · exact h
  · rw [List.mem_singleton.mp hx]; exact dep_i _ _
theorem dep_L {l : LP} {n : Nat} (h : ∀ q ∈ l, q.1.dep ≤ n) : (encL l).dep ≤ n + 2 := dep_t (n := n + 1) fun x hx => by
  obtain ⟨q, hq, rfl⟩ := List.mem_map.mp hx
  exact dep_P (h q hq)
/-- a power row in its form; a letter sum in its form -/
structure RowC (n : Nat) (r : LP) : Prop where
  len : r.length ≤ n
  mrk : ∀ q ∈ r, ∃ p, q.1 = encM p
  ris : RisS r
  nz : ∀ q ∈ r, q.2 ≠ 0
structure SumC (n : Nat) (s : LP) : Prop where
  row : ∀ q ∈ s, ∃ r, q.1 = encL r ∧ RowC n r
  ris : RisS s
  nz : ∀ q ∈ s, q.2 ≠ 0
theorem RowC.mono {n m : Nat} {r : LP} (h : RowC n r) (l : n ≤ m) : RowC m r := ⟨Nat.le_trans h.len l, h.mrk, h.ris, h.nz⟩
theorem SumC.mono {n m : Nat} {s : LP} (h : SumC n s) (l : n ≤ m) : SumC m s := ⟨fun q hq => let ⟨r, e, hr⟩ := h.row q hq; ⟨r, e, hr.mono l⟩, h.ris, h.nz⟩
theorem canon_row {n : Nat} {l : LP} (h : ∀ q ∈ l, ∃ p, q.1 = encM p) (hl : l.length ≤ n) : RowC n (canon l) := ⟨Nat.le_trans (canon_len l) hl, fun q hq => by
  obtain ⟨q', hq', e⟩ := List.mem_map.mp (canon_mem hq).1
  obtain ⟨p, hp⟩ := h q' hq'
  exact ⟨p, e.symm.trans hp⟩, canon_rise l, fun q hq => (canon_mem hq).2.2⟩
theorem canon_sum {n : Nat} {l : LP} (h : ∀ q ∈ l, ∃ r, q.1 = encL r ∧ RowC n r) : SumC n (canon l) := ⟨fun q hq => by
  obtain ⟨q', hq', e⟩ := List.mem_map.mp (canon_mem hq).1
  obtain ⟨r, hr, h2⟩ := h q' hq'
  exact ⟨r, e.symm.trans hr, h2⟩, canon_rise l, fun q hq => (canon_mem hq).2.2⟩
theorem RowC.dep {n : Nat} {r : LP} (h : RowC n r) : (encL r).dep ≤ 3 := dep_L (n := 1) fun q hq => by
  obtain ⟨p, e⟩ := h.mrk q hq
  rw [e]
  exact dep_M p
theorem keyD_M (p : IP) : KeyD (encM p) := ⟨⟨_, rfl⟩, Nat.le_trans (dep_M p) (by decide)⟩
theorem RowC.keyD {n : Nat} {r : LP} (h : RowC n r) : KeyD (encL r) := ⟨⟨_, rfl⟩, Nat.le_trans h.dep (by decide)⟩
theorem SumC.dep {n : Nat} {s : LP} (h : SumC n s) : (encL s).dep ≤ 5 := dep_L (n := 3) fun q hq => by
  obtain ⟨r, e, hr⟩ := h.row q hq
  rw [e]
  exact hr.dep
theorem hom_M (p q : IP) : ND.hom (encM p) (encM q) = true := by simp [encM, ND.hom, ND.homL]
theorem homL_of : ∀ {xs ys : List ND}, (∀ x ∈ xs, ∀ y ∈ ys, ND.hom x y = true) → ND.homL xs ys = true
  | [], _, _ => by simp only [ND.homL]
  | _ :: _, [], _ => by simp only [ND.homL]
  | x :: xs, y :: ys, h => by
    simp only [ND.homL]
    rw [h x List.mem_cons_self y List.mem_cons_self, homL_of fun a ha b hb => h a (List.mem_cons_of_mem _ ha) b (List.mem_cons_of_mem _ hb)]
    rfl
theorem hom_P {p q : ND × Int} (h : ND.hom p.1 q.1 = true) : ND.hom (encP p) (encP q) = true := by simp [encP, ND.hom, ND.homL, h]
theorem hom_L {l m : LP} (h : ∀ p ∈ l, ∀ q ∈ m, ND.hom p.1 q.1 = true) : ND.hom (encL l) (encL m) = true := by
  unfold encL
  simp only [ND.hom]
  refine homL_of fun x hx y hy => ?_
  obtain ⟨p, hp, rfl⟩ := List.mem_map.mp hx
  obtain ⟨q, hq, rfl⟩ := List.mem_map.mp hy
  exact hom_P (h p hp q hq)
theorem RowC.hom {n m : Nat} {r r' : LP} (h : RowC n r) (h' : RowC m r') : ND.hom (encL r) (encL r') = true := hom_L fun p hp q hq => by
  obtain ⟨a, ea⟩ := h.mrk p hp
  obtain ⟨b, eb⟩ := h'.mrk q hq
  rw [ea, eb]
  exact hom_M a b
theorem srt_marks {ks : List ND} (h : ∀ d ∈ ks, ∃ p, d = encM p) : SrtOkE ks := ⟨fun d hd => let ⟨p, e⟩ := h d hd; ⟨_, e⟩, fun d hd e he => by
  obtain ⟨p, rfl⟩ := h d hd
  obtain ⟨q, rfl⟩ := h e he
  exact hom_M p q, fun d hd => by
  obtain ⟨p, rfl⟩ := h d hd
  exact (keyD_M p).2⟩
theorem srt_rows {n : Nat} {ks : List ND} (h : ∀ d ∈ ks, ∃ r, d = encL r ∧ RowC n r) : SrtOkE ks := ⟨fun d hd => let ⟨r, e, _⟩ := h d hd; ⟨_, e⟩, fun d hd e he => by
  obtain ⟨p, rfl, hp⟩ := h d hd
  obtain ⟨q, rfl, hq⟩ := h e he
  exact hp.hom hq, fun d hd => by
  obtain ⟨p, rfl, hp⟩ := h d hd
  exact hp.keyD.2⟩
def rt (d e : ND) : ND := encL (canon (decL d ++ decL e))
def prod (a b : LP) : LP := a.flatMap fun p => b.map fun q => (rt p.1 q.1, p.2 * q.2)
theorem prod_len (a b : LP) : (prod a b).length = a.length * b.length := by
  unfold prod
  induction a with
  | nil => simp
  | cons x a ih => rw [List.flatMap_cons, List.length_append, List.length_map, ih, List.length_cons, Nat.add_mul, Nat.one_mul, Nat.add_comm]
def NdP (H : Hp) (v : V) (q : ND × Int) : Prop := NdV H (encP q) v
theorem ndp_mono (H H' : Hp) (v : V) (q : ND × Int) (k : Keeps H H') (h : NdP H v q) : NdP H' v q := NdV.keep k _ _ h
theorem ndv_mono (H H' : Hp) (v : V) (d : ND) (k : Keeps H H') (h : NdV H d v) : NdV H' d v := NdV.keep k _ _ h
theorem NdP.ex {H : Hp} {v : V} {q : ND × Int} (h : NdP H v q) : ∃ t x, v = .ref t ∧ H t = some (.tup [x, .int q.2]) ∧ NdV H q.1 x := by
  unfold NdP encP NdV at h
  obtain ⟨a, xs, e, ha, hl⟩ := h
  unfold NdL at hl
  obtain ⟨x, r, rfl, hx, hl⟩ := hl
  unfold NdL at hl
  obtain ⟨y, r2, rfl, hy, hl⟩ := hl
  unfold NdV at hy
  unfold NdL at hl
  subst hy hl
  exact ⟨a, x, e, ha, hx⟩
theorem NdP.of {H : Hp} {t : Addr} {x : V} {q : ND × Int} (h : H t = some (.tup [x, .int q.2])) (hx : NdV H q.1 x) : NdP H (.ref t) q := by
  unfold NdP encP NdV
  refine ⟨t, _, rfl, h, ?_⟩
  unfold NdL
  refine ⟨x, _, rfl, hx, ?_⟩
  unfold NdL
  refine ⟨_, _, rfl, by unfold NdV; rfl, ?_⟩
  unfold NdL
  rfl
theorem ndL_of {H : Hp} : ∀ {xs : List V} {l : LP}, All2 (NdP H) xs l → NdL H (l.map encP) xs
  | [], [], _ => by unfold List.map NdL; rfl
  | x :: xs, q :: l, h => by
    rw [List.map_cons]
    unfold NdL
    exact ⟨x, xs, rfl, h.1, ndL_of h.2⟩
theorem all2_ndL {H : Hp} : ∀ {l : LP} {xs : List V}, NdL H (l.map encP) xs → All2 (NdP H) xs l
  | [], xs, h => by
    rw [List.map_nil] at h
    unfold NdL at h
    subst h
    trivial
  | q :: l, xs, h => by
    rw [List.map_cons] at h
    unfold NdL at h
    obtain ⟨x, r, rfl, h1, h2⟩ := h
    exact ⟨h1, all2_ndL h2⟩
/-- a row in the heap: a tuple of its letters -/
theorem row_ex {H : Hp} {l : LP} {v : V} (h : NdV H (encL l) v) : ∃ t xs, v = .ref t ∧ H t = some (.tup xs) ∧ All2 (NdP H) xs l := by
  unfold encL NdV at h
  obtain ⟨a, xs, e, ha, hl⟩ := h
  exact ⟨a, xs, e, ha, all2_ndL hl⟩
theorem row_of_tup {H : Hp} {l : LP} {t : Addr} {xs : List V} (h : H t = some (.tup xs)) (hx : All2 (NdP H) xs l) : NdV H (encL l) (.ref t) := by
  unfold encL NdV
  exact ⟨t, xs, rfl, h, ndL_of hx⟩
theorem mark_ex {H : Hp} {p : IP} {v : V} (h : NdV H (encM p) v) : Pr H v p := by
  unfold encM NdV at h
  obtain ⟨a, xs, e, ha, hl⟩ := h
  unfold NdL at hl
  obtain ⟨x, r, rfl, hx, hl⟩ := hl
  unfold NdL at hl
  obtain ⟨y, r2, rfl, hy, hl⟩ := hl
  unfold NdV at hx hy
  unfold NdL at hl
  subst hx hy hl
  exact ⟨a, e, ha⟩
theorem mark_of {H : Hp} {p : IP} {v : V} (h : Pr H v p) : NdV H (encM p) v := by
  obtain ⟨t, rfl, ht⟩ := h
  unfold encM NdV
  refine ⟨t, _, rfl, ht, ?_⟩
  unfold NdL
  refine ⟨_, _, rfl, by unfold NdV; rfl, ?_⟩
  unfold NdL
  refine ⟨_, _, rfl, by unfold NdV; rfl, ?_⟩
  unfold NdL
  rfl
/-- a list of terms -/
def SLs (_ : PySem.W.Frag) (H : Hp) (l : Addr) (s : LP) : Prop := ∃ xs, H l = some (.lst xs) ∧ All2 (NdP H) xs s
theorem SLs.same {K : PySem.W.Frag} {H H' : Hp} {l : Addr} {s : LP} (h : SLs K H l s) (k : Same H H') : SLs K H' l s := by
  obtain ⟨xs, h1, h2⟩ := h
  exact ⟨xs, k _ _ h1, h2.mono fun v q r => ndp_mono _ _ _ _ (keeps k) r⟩
theorem SLs.keep {K : PySem.W.Frag} {H H' : Hp} {l : Addr} {s : LP} (h : SLs K H l s) (k : Keeps H H') (e : H' l = H l) : SLs K H' l s := by
  obtain ⟨xs, h1, h2⟩ := h
  exact ⟨xs, by rw [e]; exact h1, h2.mono fun v q r => ndp_mono _ _ _ _ k r⟩
theorem all2_keep {H H' : Hp} {xs : List V} {s : LP} (k : Keeps H H') (h : All2 (NdP H) xs s) : All2 (NdP H') xs s := h.mono fun v q r => ndp_mono _ _ _ _ k r
/-- a new list of terms -/
def SLNew (H : Hp) (s : LP) (Q : VK) : Prop := ∀ (p : Addr) (H' : Hp) (xs : List V), Same H H' → H p = none → H' p = some (.lst xs) → All2 (NdP H') xs s → Q (.ref p) H'
theorem sums_dp {K : PySem.W.Frag} {H : Hp} : ∀ {xs : List V} {s : LP}, All2 (NdP H) xs s → DpAll K H xs (s.map fun q => (encP q).py)
  | [], [], _ => .nil
  | _ :: _, _ :: _, h => .cons (NdV.dp _ _ h.1) (sums_dp h.2)
def sumD (s : LP) : PyData := .list (s.map fun q => (encP q).py)
theorem SLs.dp {K : PySem.W.Frag} {H : Hp} {l : Addr} {s : LP} (h : SLs K H l s) : Dp K H (.ref l) (sumD s) := by
  obtain ⟨xs, h1, h2⟩ := h
  exact .lst (SqL.of h1) (sums_dp h2)
theorem eqv_sums (s r : LP) : PyData.eqv (sumD s) (sumD r) = decide (s = r) := by
  have gen : ∀ s r : LP, PyData.eqvAll (s.map fun q => (encP q).py) (r.map fun q => (encP q).py) = decide (s = r) := by
    intro s
    induction s with
    | nil =>
      intro r
      cases r with
      | nil => simp [PyData.eqvAll]
      | cons _ _ => simp [PyData.eqvAll]
    | cons x s ih =>
      intro r
      cases r with
      | nil => simp [PyData.eqvAll]
      | cons y r =>
        rw [List.map_cons, List.map_cons]
        simp only [PyData.eqvAll]
        rw [ih, ND.eqv_py]
        have e : (ND.cmp (encP x) (encP y) == .eq) = decide (x = y) := by
          by_cases c : x = y
          · rw [c, ND.cmp_self, decide_eq_true rfl]; rfl
          · rw [decide_eq_false c]
            cases h : ND.cmp (encP x) (encP y) with
            | eq => exact absurd (encP_inj (ND.cmp_eq h)) c
            | lt => rfl
            | gt => rfl
        rw [e]
        by_cases c : x = y
        · by_cases c2 : s = r
          · simp [c, c2]
          · simp [c, c2]
        · simp [c]
  unfold sumD
  simp only [PyData.eqv]
  exact gen s r
theorem shaped_sums {n : Nat} {s : LP} (h : SumC n s) : SeqAt.shaped (sumD s) = true := by
  have lay : PyData.canLayAll0 (s.map fun q => (encP q).py) = true := by
    clear h
    induction s with
    | nil => simp only [List.map_nil, PyData.canLayAll0]
    | cons x s ih => rw [List.map_cons]; simp only [PyData.canLayAll0]; rw [ND.lay, ih]; rfl
  have dep : ∀ s : LP, (∀ q ∈ s, (encP q).dep ≤ 4) → PyData.depthAll (s.map fun q => (encP q).py) ≤ 4 := by
    intro s
    induction s with
    | nil => intro _; simp only [List.map_nil, PyData.depthAll]; decide
    | cons x s ih =>
      intro h
      rw [List.map_cons]
      simp only [PyData.depthAll]
      have h1 : ((encP x).py).depth ≤ 4 := h x List.mem_cons_self
      have h2 := ih fun y hy => h y (List.mem_cons_of_mem _ hy)
      omega
  have d := dep s fun q hq => by
    obtain ⟨r, e, hr⟩ := h.row q hq
    exact dep_P (n := 3) (by rw [e]; exact hr.dep)
  unfold sumD SeqAt.shaped
  simp only [PyData.canLay0, PyData.depth]
  rw [lay, Bool.true_and]
  exact decide_eq_true (by omega)
theorem w_neSum {K : PySem.W.Frag} {H : Hp} {Q : VK} {l m : Addr} {a b : Nat} {s r : LP} (h1 : SLs K H l s) (h2 : SLs K H m r) (c1 : SumC a s) (c2 : SumC b r) (q : Q (.bl (!decide (s = r))) H) : rNeD K (.ref l) (.ref m) H Q :=
  ⟨_, _, h1.dp, h2.dp, shaped_sums c1, shaped_sums c2, by rw [eqv_sums]; exact q⟩
end Pm
namespace Pm
open PySem PySem.Spec PyProof.Rows L2 PySem.W
section
variable {prog : Program} {w : World} {κ : Type} [DecidableEq κ] {knd : HeapKind prog w κ} {A : Around} {E : Value → Shared → Prop} {s : Shared}
inductive HitsH {κ : Type} [DecidableEq κ] (A : Around) (s : Shared) (kb : List (κ × Addr × Value)) : List (κ × Addr × Value) → Bool → Prop
  | nil : HitsH A s kb [] true
  | hit {k : κ} {a a' : Addr} {v y : Value} {r : List (κ × Addr × Value)} {e b : Bool} : atKey kb k = some (a', y) → SeqAt.EqAt A s v y e → HitsH A s kb r b → HitsH A s kb ((k, a, v) :: r) (e && b)
theorem HitsH.inv {kb : List (κ × Addr × Value)} {k : κ} {a : Addr} {v : Value} {r : List (κ × Addr × Value)} {b : Bool} (h : HitsH A s kb ((k, a, v) :: r) b) :
    ∃ a' y e b', atKey kb k = some (a', y) ∧ SeqAt.EqAt A s v y e ∧ HitsH A s kb r b' ∧ b = (e && b') := by
  cases h with
  | hit hy he hr => exact ⟨_, _, _, _, hy, he, hr, rfl⟩
theorem samePairsH {nm : String} {a b : Addr} {ka kb : List (κ × Addr × Value)} {r : Bool} {Q : Bool → Shared → Prop} (hu : knd.room A) (ha : (a == sysModules) = false) (hb : (b == sysModules) = false)
    (da : s.heap.DictOfH knd a ka) (db : s.heap.DictOfH knd b kb) (hl : ka.length = kb.length) (hits : HitsH A s kb ka r) (h : Q r s) :
    wpAny (model prog w) A (Builtin.Dict.samePairs nm a b) Q E s := by
  obtain ⟨oa, es, ep, hoa, _, hda, hea, hia, _⟩ := da
  obtain ⟨ob, es', ep', hob, _, hdb, heb, hib, hnb⟩ := db
  have hla : ka.length = es.size := (size_of_entries hea).symm
  have hlb : kb.length = es'.size := (size_of_entries heb).symm
  have hsz : es.size = es'.size := by omega
  unfold Builtin.Dict.samePairs Builtin.Dict.showsAll
  rw [if_neg (show ¬ (a == sysModules) = true by rw [ha]; exact Bool.false_ne_true), if_neg (show ¬ (b == sysModules) = true by rw [hb]; exact Bool.false_ne_true)]
  refine wpAny_bind (wpAny_pure (wpAny_bind (wpAny_pure ?_)))
  refine wpAny_bind (wpAny_dictEntries hoa hda ?_)
  dsimp only
  refine wpAny_bind (wpAny_dictEntries hob hdb ?_)
  rw [if_neg (by rw [hsz]; simp)]
  refine wpAny_bind (wpAny_dictEpoch hoa hda ?_)
  refine wpAny_bind ?_
  rw [Std.Legacy.Range.forIn_eq_forIn_range']
  simp only [Std.Legacy.Range.size, Nat.sub_zero, Nat.add_sub_cancel, Nat.div_one]
  refine wpAny_forIn_list _
    (fun rest q s' => s' = s ∧ q = (none, ()) ∧ ∃ i, rest = List.range' i (es.size - i) ∧ i ≤ es.size ∧ HitsH A s kb (ka.drop i) r)
    _ ?_ ?_ _ _ ⟨rfl, rfl, 0, by simp, Nat.zero_le _, hits⟩
  · rintro x rest q s' ⟨rfl, rfl, i, hr, hi, hpre⟩
    have hlt : i < es.size := by
      rcases Nat.lt_or_ge i es.size with h | h
      · exact h
      · rw [Nat.sub_eq_zero_of_le h] at hr; simp at hr
    obtain ⟨rfl, hrest⟩ : x = i ∧ rest = List.range' (i + 1) (es.size - (i + 1)) := by
      have e : es.size - i = (es.size - (i + 1)) + 1 := by omega
      rw [e, List.range'_succ] at hr
      injection hr with h1 h2
      exact ⟨h1, h2⟩
    refine wpAny_bind (wpAny_dictEntries hoa hda ?_)
    have hlt' : x < ka.length := by rw [hla]; exact hlt
    obtain ⟨k, ad, v, hkv⟩ : ∃ k ad v, ka[x] = (k, ad, v) := ⟨_, _, _, rfl⟩
    have hdrop : ka.drop x = (k, ad, v) :: ka.drop (x + 1) := by rw [← hkv]; exact List.drop_eq_getElem_cons hlt'
    have eent : es[x]? = some (entryOfKey knd (k, ad, v)) := by rw [entry_at hea x, List.getElem?_eq_getElem hlt', hkv]; rfl
    rw [eent]
    rw [hdrop] at hpre
    obtain ⟨a', y, e, b', hy, he, hrr, er⟩ := hpre.inv
    have hkey : knd.is s'.heap k ad := hia (k, ad, v) (by rw [← hkv]; exact List.getElem_mem hlt')
    show wpAny _ _ (holding [.ref ad, v] _ >>= _) _ _ _
    refine wpAny_bind (wpAny_holding (wpAny_bind ?_))
    show wpAny _ _ (dictFind b (.ref ad) (knd.hash k)) _ _ _
    refine wpAny_dictFind_heap hu hkey hob hdb heb hib hnb ?_ ?_
    · intro hno
      rw [atKey_none_of_get hno] at hy
      exact nomatch hy
    · intro j p hj
      have ep' : atKey kb k = some p := atKey_of_get hnb hj
      rw [ep'] at hy
      cases hy
      refine wpAny_bind (wpAny_dictEntries hob hdb ?_)
      rw [entry_at heb j, hj]
      refine wpAny_holding (he prog w _ _ ?_)
      cases e with
      | false =>
        rw [er, Bool.false_and] at h
        show wpAny _ _ (if (!false) = true then _ else _) _ _ _
        rw [if_pos (by decide)]
        exact wpAny_pure (wpAny_pure h)
      | true =>
        rw [Bool.true_and] at er
        rw [← er] at hrr
        show wpAny _ _ (if (!true) = true then _ else _) _ _ _
        rw [if_neg (by decide)]
        refine wpAny_bind (wpAny_dictEpoch hoa hda ?_)
        rw [if_neg (by simp)]
        exact wpAny_pure ⟨rfl, rfl, x + 1, hrest, hlt, hrr⟩
  · rintro q s' ⟨rfl, rfl, i, hr, hi, hpre⟩
    have hin : i = es.size := by
      rcases Nat.lt_or_ge i es.size with h | h
      · have e : es.size - i = (es.size - (i + 1)) + 1 := by omega
        rw [e, List.range'_succ] at hr; exact nomatch hr
      · exact Nat.le_antisymm hi h
    refine wpAny_pure ?_
    rw [hin, ← hla, List.drop_length] at hpre
    cases hpre
    exact h
end
/-- the pairs of one dict, each looked for in the other -/
inductive HitsV (K : PySem.W.Frag) (H : Hp) (kb : List (List L2.Key × V)) : List (List L2.Key × V) → Bool → Prop
  | nil : HitsV K H kb [] true
  | hit {k : List L2.Key} {v y : V} {d e : PyData} {r : List (List L2.Key × V)} {b : Bool} : valV kb k = some y → Dp K H v d → Dp K H y e → SeqAt.shaped d = true → SeqAt.shaped e = true → HitsV K H kb r b → HitsV K H kb ((k, v) :: r) (PyData.eqv d e && b)
def rEqT (K : PySem.W.Frag) : R2 := fun x y H Q => ∃ (a b : Addr) (ka kb : List (List L2.Key × V)) (r : Bool), x = .ref a ∧ y = .ref b ∧ H a = some (.dT ka) ∧ H b = some (.dT kb) ∧ ka.length = kb.length ∧ HitsV K H kb ka r ∧ Q (.bl r) H
theorem hitsH_of {X : Cx} {pins : List (Addr × Obj)} {σ : L2.St} {H : Hp} {s : Shared} (I : Inv X pins σ H s) (hu : X.A.in1.units + 64 < cLine) {kb : List (List L2.Key × V)} {xb : List (List L2.Key × Addr × Value)} (rb : KT H kb xb) : ∀ {ka : List (List L2.Key × V)} {xa : List (List L2.Key × Addr × Value)} {r : Bool}, KT H ka xa → HitsV X.K H kb ka r → HitsH X.A.in1 s xb xa r
  | [], _, _, h, hv => by
    cases h
    cases hv
    exact .nil
  | (k, v) :: ka, _, r, h, hv => by
    cases h with
    | @cons _ q _ qs h1 h2 =>
      cases hv with
      | hit hy dv dy sd se hr =>
        obtain ⟨q1, q2, q3⟩ := q
        obtain ⟨e1, _, e3⟩ := h1
        simp only at e1 e3
        subst e1
        have hb := rb.val k
        rw [hy] at hb
        cases ea : atKey xb k with
        | none => rw [ea] at hb; exact (show False from hb).elim
        | some p =>
          rw [ea] at hb
          obtain ⟨as, r1⟩ := Dp.reads I _ _ _ dv e3
          obtain ⟨bs, r2⟩ := Dp.reads I _ _ _ dy (show RelV _ p.2 from hb)
          exact .hit ea (PySem.W.keq_at (A := X.A) r1 r2 sd se hu) (hitsH_of I hu rb h2 hr)
/-- == of two dicts with the same keys -/
theorem w_ldEq {K : PySem.W.Frag} {H : Hp} {Q : VK} {f d : Addr} {kf kd : List IP} {Lf Ld : IP → IP} (hf : LD K H f kf Lf) (hd : LD K H d kd Ld) (hk : ∀ p, p ∈ kf ↔ p ∈ kd) (q : Q (.bl (decide (∀ k ∈ kf, Lf k = Ld k))) H) : rEqT K (.ref f) (.ref d) H Q := by
  have len := perm_len hf.nd hd.nd hk
  obtain ⟨nf, ef, hf1, hf2⟩ := hf
  obtain ⟨nd, ed, hd1, hd2⟩ := hd
  refine ⟨f, d, ef, ed, _, rfl, rfl, hf1, hd1, by rw [hf2.length, hd2.length, len], ?_, q⟩
  have gen : ∀ {es : List (List L2.Key × V)} {ks : List IP}, (∀ k ∈ ks, k ∈ kd) → All2 (En K H Lf) es ks → HitsV K H ed es (decide (∀ k ∈ ks, Lf k = Ld k)) := by
    intro es
    induction es with
    | nil =>
      intro ks _ h
      match ks, h with
      | [], _ => rw [decide_eq_true (fun k hk => nomatch hk)]; exact .nil
    | cons e es ih =>
      intro ks hs h
      match ks, h with
      | k :: ks, ⟨h1, h2⟩ =>
        obtain ⟨y, hy, fy⟩ := (ens_val hd2 k).2 (hs k List.mem_cons_self)
        have ih' := ih (fun j hj => hs j (List.mem_cons_of_mem _ hj)) h2
        obtain ⟨ek, ev⟩ := e
        obtain ⟨e1, e2⟩ := h1
        simp only at e1 e2
        have hh := HitsV.hit (k := ek) (v := ev) (by rw [e1]; exact hy) e2.dp fy.dp (shaped_pD _) (shaped_pD _) ih'
        rw [eqv_pD] at hh
        have eb : (decide (Lf k = Ld k) && decide (∀ k ∈ ks, Lf k = Ld k)) = decide (∀ j ∈ k :: ks, Lf j = Ld j) := by
          rw [← Bool.decide_and]
          exact decide_eq_decide.mpr ⟨fun ⟨x, z⟩ j hj => by
            rcases List.mem_cons.mp hj with rfl | hj
            · exact x
            · exact z j hj, fun z => ⟨z k List.mem_cons_self, fun j hj => z j (List.mem_cons_of_mem _ hj)⟩⟩
        rw [eb] at hh
        exact hh
  exact gen (fun k hk' => (hk k).mp hk') hf2
end Pm
namespace Pm
open PySem PySem.Spec PyProof.Rows L2 PySem.W
section
variable {prog : Program} {w : World} {κ : Type} [DecidableEq κ] {knd : HeapKind prog w κ} {A : Around} {E : Value → Shared → Prop} {s : Shared}
theorem ne_dictH {a b : Addr} {ka kb : List (κ × Addr × Value)} {r : Bool} {Q : Value → Shared → Prop} (hr : knd.room A.in1) (ha : (a == sysModules) = false) (hb : (b == sysModules) = false)
    (da : s.heap.DictOfH knd a ka) (db : s.heap.DictOfH knd b kb) (hu : A.units < cLine) (hl : ka.length = kb.length) (hits : HitsH A.in1 s kb ka r) (h : Q (.bool (!r)) s) :
    wpAny (model prog w) A (compareOp .NotEq (.ref a) (.ref b)) Q E s := by
  refine wpAny_richCompare_same_room (op := .NotEq) da.typeIs db.typeIs PySem.F.slot_dict_ne (wpAny_call_entry PySem.F.slot_dict_ne da.typeIs PySem.F.entry_dict_ne ?_ (PySem.F.args_dict_ne_2 _ _)) hu
  show wpAny _ _ (Builtin.Dict.dictSlotArgs "__ne__" ⟨[.ref a, .ref b], []⟩ >>= _) _ _ s
  refine wpAny_bind ?_
  unfold Builtin.Dict.dictSlotArgs
  refine wpAny_bind (wpAny_notOrdered_dict da.typeIs ?_)
  show wpAny _ _ (pure (Value.ref a, Value.ref b)) _ _ s
  refine wpAny_pure ?_
  refine wpAny_bind (wpAny_isInstance (T := "dict") db.typeIs PySem.F.sub_dict_dict ?_)
  simp only [Bool.not_true, Bool.false_eq_true, if_false]
  refine wpAny_bind (wpAny_pure (wpAny_bind (wpAny_pure ?_)))
  refine wpAny_bind (samePairsH hr ha hb da db hl hits ?_)
  refine wpAny_pure ⟨_, rfl, ?_, ?_⟩
  · exact fun x => nomatch x
  · simpa using h
end
def rNeT (K : PySem.W.Frag) : R2 := fun x y H Q => ∃ (a b : Addr) (ka kb : List (List L2.Key × V)) (r : Bool), x = .ref a ∧ y = .ref b ∧ H a = some (.dT ka) ∧ H b = some (.dT kb) ∧ ka.length = kb.length ∧ HitsV K H kb ka r ∧ Q (.bl (!r)) H
theorem op_neT {X : Cx} {K : PySem.W.Frag} (hu : X.A.units + 65 < cLine) (e : X.K = K := by rfl) : OpR X (compareOp .NotEq) (rNeT K) := by
  subst e
  intro pins s σ H x y v u Q I rx ry h
  obtain ⟨a, b, ka, kb, r, rfl, rfl, ha, hb, hl, hits, q⟩ := h
  cases rx
  cases ry
  obtain ⟨za, sa, xa, ra, da⟩ := dt_of I.hok ha
  obtain ⟨zb, sb, xb, rb, db⟩ := dt_of I.hok hb
  have la := Paired.length ra
  have lb := Paired.length rb
  exact ne_dictH (knd := tupleKind (mixKind X.prog X.w)) (tupleKind_room_in1 (by omega)) sa sb da db (by omega) (by omega) (hitsH_of I (show X.A.units + 1 + 64 < cLine by omega) rb ra hits) ⟨.bl (!r), H, I, rfl, q⟩
theorem w_ldNe {K : PySem.W.Frag} {H : Hp} {Q : VK} {f d : Addr} {kf kd : List IP} {Lf Ld : IP → IP} (hf : LD K H f kf Lf) (hd : LD K H d kd Ld) (hk : ∀ p, p ∈ kf ↔ p ∈ kd) (q : Q (.bl (!decide (∀ k ∈ kf, Lf k = Ld k))) H) : rNeT K (.ref f) (.ref d) H Q := by
  obtain ⟨a, b, ka, kb, r, ea, eb, h1, h2, h3, h4, h5⟩ := w_ldEq (Q := fun x H => Q (.bl (!(match x with | .bl b => b | _ => true))) H) hf hd hk q
  exact ⟨a, b, ka, kb, r, ea, eb, h1, h2, h3, h4, h5⟩
end Pm
namespace Pm
open PySem PySem.Spec PyProof.Rows L2 PySem.W
def DispT1 (p : Addr) (Q : VK) : List (V × V) → Hp → Prop := fun ps H2 => ∃ (b : Addr) (k : List L2.Key) (y : V), ps = [(.ref b, y)] ∧ H2 b = some (.tup (k.map kV)) ∧ H2 p = some (.dT []) ∧ Q (.ref p) (upd H2 p (.dT [(k, y)]))
def tDispT1 (tk tv : TE) : TE := fun σ H Q => ∀ p, H p = none → tPairs [(tk, tv)] σ (upd H p (.dT [])) (DispT1 p Q)
theorem pe_dispT1 {X : Cx} {pos : Pos} {k v : Expr} {tk tv : TE} (hu : X.A.units + 2 < cLine) (hk : PE X k tk) (hv : PE X v tv) : PE X (.Dict [some k] [v] pos) (tDispT1 tk tv) := by
  refine ⟨fun pins s σ H Q I q => ?_⟩
  have hn := I.hok.fresh (Nat.le_refl s.heap.objs.size)
  have I1 := I.laid (a := s.heap.objs.size) (o := .dT []) (h' := s.heap.push { cls := .type "dict", data := .dict #[] }) (t' := s.toks) (fun _ _ q => Heap.get?_push_of_some _ q) (Nat.le_refl _) (dt_empty s.heap I.big)
  have hl2 := pairTrees_length [some k] [v] X.env pos rfl rfl
  have hp0 : pairTrees [some k] [v] X.env pos ≠ [] := by
    intro he
    rw [he] at hl2
    exact nomatch hl2
  have hl3 : (pairTrees [some k] [v] X.env pos).length = 1 := hl2
  rw [arm_eval_Dict, zip_pairTrees [some k] [v] X.env pos rfl rfl, dictDisplay_pairs _ hp0 (by rw [hl3]; decide)]
  refine wpAny_bind (wpAny_standAt (wpAny_bind (wpAny_subDictH (knd := tupleKind (mixKind X.prog X.w)) (Q := fun d s' => wpAny (model X.prog X.w) X.A (pure (Value.ref d)) (fun u s2 => ∃ x H2, Inv X pins σ H2 s2 ∧ RelV x u ∧ Q x H2) X.xe s') (show (tupleKind (mixKind X.prog X.w)).room X.A from (show X.A.units < cLine by omega)) (by rw [hl3]; decide)
    (thn ((pps_cons hk hv pps_nil).run pins _ σ _ _ I1 (q _ hn)) fun ws s2 ⟨ps, H2, I2, rel, b, kk, y, eps, hb, hp, q2⟩ => ?_))))
  subst eps
  cases rel with
  | @cons p1 p2 l1 l2 r1 r2 =>
    cases r2
    obtain ⟨u, wv⟩ := p2
    obtain ⟨r1, r3⟩ := r1
    have r1 : RelV (.ref b) u := r1
    have r3 : RelV y wv := r3
    cases r1
    obtain ⟨z, hd, xs', rl, dd⟩ := dt_of I2.hok hp
    cases rl
    refine ⟨[(kk, b, wv)], ⟨rfl, rfl, key_of I2.hok hb, trivial⟩, dd, fun h' tk dd' hs => wpAny_pure ⟨.ref s.heap.objs.size, _, ?_, rfl, q2⟩⟩
    obtain ⟨o, es, ep, g1, g2, g3, g4, g5, g6⟩ := dd'
    exact d_write I2 (by rw [hp]; exact True.intro) hs ⟨o, g1⟩ ⟨show 1 ≤ sizeLine by rw [sizeLine_eq]; decide, hd, [(kk, b, wv)], .cons ⟨rfl, by
      show upd H2 _ _ b = _
      rw [upd_ne (ne_of hb hp (fun z => nomatch z))]; exact hb, r3⟩ .nil, o, es, ep, g1, g2, g3, g4, g6⟩
theorem w_dispT1 {tk tv : TE} {σ : L2.St} {H : Hp} {Q : VK} (h : ∀ p, H p = none → tPairs [(tk, tv)] σ (upd H p (.dT [])) (DispT1 p Q)) : tDispT1 tk tv σ H Q := h
theorem w_ld1 {K : PySem.W.Frag} {H : Hp} {p b : Addr} {k q : IP} {y : V} {Q : VK} (hp : H p = some (.dT [])) (hb : Pr H (.ref b) k) (hy : FrV K H y q) (h : ∀ es, LD K (upd H p (.dT es)) p [k] (fun _ => q) → Keeps H (upd H p (.dT es)) → Q (.ref p) (upd H p (.dT es))) : DispT1 p Q [(.ref b, y)] H := by
  have k0 : Keeps H (upd H p (.dT [(kk k, y)])) := keeps_dT hp
  exact ⟨b, kk k, y, rfl, hb.kkey, hp, h _ ⟨by simp, _, upd_same, ⟨rfl, hy.keep k0⟩, trivial⟩ k0⟩
end Pm
namespace Pm
open PySem PySem.Spec PyProof.Rows L2
def mids : List (Int × Int) := (List.range 14).flatMap fun a : Nat => (List.range 37).map fun b : Nat => ((a : Int), (b : Int))
theorem mids_nodup : (mids.map ph).Nodup := by decide +kernel
def midP (p : Int × Int) : Prop := (0 ≤ p.1 ∧ p.1 ≤ 13) ∧ (0 ≤ p.2 ∧ p.2 ≤ 36)
theorem mem_mids {p : Int × Int} (h : midP p) : p ∈ mids := by
  unfold mids
  rw [List.mem_flatMap]
  obtain ⟨a, b⟩ := p
  obtain ⟨⟨h1, h2⟩, h3, h4⟩ := h
  simp only at h1 h2 h3 h4
  refine ⟨a.toNat, List.mem_range.mpr (by omega), List.mem_map.mpr ⟨b.toNat, List.mem_range.mpr (by omega), ?_⟩⟩
  congr 1 <;> omega
def rDictM : List V → Hp → VK → Prop := fun xs H Q => ∃ (a : Addr) (kvs : List (List L2.Key × V)), xs = [.ref a] ∧ Rd H a (.dT kvs) ∧ (∀ e ∈ kvs, ∃ p, e.1 = kk p ∧ midP p) ∧ ∀ p, H p = none → Q (.ref p) (upd H p (.dT kvs))
section
variable {X : Cx}
theorem call_dictM (hu : X.A.units + 2 < cLine) : CallR X (.type "dict") rDictM := by
  intro pins s σ H xs us Q I r q
  obtain ⟨a, kvs, ex, hd, hk, q⟩ := q
  subst ex
  obtain ⟨u, eu, rx⟩ := vals1 r
  subst eu
  cases rx
  obtain ⟨z, lo, vs, rel, dd⟩ := dt_rd I.hok hd
  have keyOk : ∀ x ∈ vs, ∃ p, x.1 = kk p ∧ midP p := fun x hx => by
    obtain ⟨v, m, _⟩ := KT_mem rel x hx
    exact hk _ m
  have hap : (vs.map fun x => (tupleKind (mixKind X.prog X.w)).hash x.1).Nodup := by
    have e : (vs.map fun x => (tupleKind (mixKind X.prog X.w)).hash x.1) = (vs.map (·.1)).map (tupleKind (mixKind X.prog X.w)).hash := by rw [List.map_map] <;> rfl
    rw [e]
    refine nodup_map_inj (fun x hx y hy exy => ?_) dd.nodup
    obtain ⟨x', hx', rfl⟩ := List.mem_map.mp hx
    obtain ⟨y', hy', rfl⟩ := List.mem_map.mp hy
    obtain ⟨p, ep, sp⟩ := keyOk x' hx'
    obtain ⟨p', ep', sp'⟩ := keyOk y' hy'
    rw [ep, ep'] at exy ⊢
    rw [ph_is, ph_is] at exy
    rw [inj_of_nodup_map mids_nodup (mem_mids sp) (mem_mids sp') exy]
  have tupOf : ∀ x ∈ vs, ∃ its : List Value, IsTup s.heap x.2.1 its.toArray := fun x hx => by
    obtain ⟨v, m, e⟩ := KT_mem rel x hx
    obtain ⟨_, its, _, it⟩ := (show ObjOk X.prog X.w H s.heap x.2.1 (.tup (x.1.map kV)) from I.hok _ _ e)
    exact ⟨its, it⟩
  refine call_dictH (knd := tupleKind (mixKind X.prog X.w)) (fun A' hA => show A'.units < cLine by omega) lo dd (by rw [← Paired.length rel]; exact z) (fun x hx => ?_) hap (fun x hx => ?_) fun h' d' hs => ?_
  · obtain ⟨its, o, h1, h2, _⟩ := tupOf x hx
    exact ⟨o, h1, h2⟩
  · obtain ⟨_, _, _, _, _, _, _, his, _⟩ := dd
    obtain ⟨o, items, n, h1, h2, h3, h4⟩ := his x hx
    exact ⟨o, items, n, Heap.get?_push_of_some _ h1, h2, h3, h4⟩
  have hm : (s.heap.objs.size == sysModules) = false := beq_eq_false_iff_ne.mpr (Nat.ne_of_gt I.big)
  have hfree := I.hok.fresh (Nat.le_refl _)
  obtain ⟨o, es, ep, g1, g2, g3, g4, _, g6⟩ := d'
  refine ⟨.ref s.heap.objs.size, upd H s.heap.objs.size (.dT kvs), I.laid (t' := s.toks) (fun b u e => (hs.2 b (Nat.ne_of_lt (Heap.lt_size e))).trans (Heap.get?_push_of_some _ e)) (Nat.le_refl _)
    (show ObjOk X.prog X.w _ _ _ (.dT kvs) from ⟨z, hm, vs, KT_stay (fun t ys e => by rw [upd_ne (ne_of_none e hfree)]; exact e) rel, o, es, ep, g1, g2, g3, g4, g6⟩), rfl, q _ hfree⟩
end
theorem w_ldDictM {K : PySem.W.Frag} {H : Hp} {Q : VK} {d : Addr} {ks : List IP} {L : IP → IP} (h : LD K H d ks L) (sm : ∀ k ∈ ks, midP k) (q : ∀ p es, H p = none → LD K (upd H p (.dT es)) p ks L → Q (.ref p) (upd H p (.dT es))) : rDictM [.ref d] H Q := by
  obtain ⟨n, es, h1, h2⟩ := h
  refine ⟨d, es, rfl, .inl h1, fun e he => ?_, fun p hp => q p es hp ⟨n, es, upd_same, ens_keep (keeps (same_new hp _)) h2⟩⟩
  obtain ⟨k, hk, r⟩ := h2.mem he
  exact ⟨k, r.1, sm k hk⟩
end Pm
namespace Pm
open PySem PySem.Spec PyProof.Rows L2
def decM : ND → IP
  | .t [.i a, .i b] => (a, b)
  | _ => (0, 0)
theorem mass_nil : mass [] = 0 := rfl
theorem mass_cons (q : ND × Int) (l : LP) : mass (q :: l) = q.2.natAbs + mass l := rfl
theorem mass_append (l m : LP) : mass (l ++ m) = mass l + mass m := by
  unfold mass
  rw [List.map_append, List.sum_append]
theorem mass_keys (l : LP) : ∀ ks : List ND, ks.Nodup → (ks.map fun d => (tot l d).natAbs).sum ≤ mass l := by
  induction l with
  | nil =>
    intro ks nd
    clear nd
    induction ks with
    | nil => exact Nat.le_refl _
    | cons k ks ih => rw [List.map_cons, List.sum_cons, tot_nil]; simpa using ih
  | cons q l ih =>
    intro ks nd
    rw [mass_cons]
    have h := ih ks nd
    have one : ∀ ks : List ND, ks.Nodup → (ks.map fun d => (tot (q :: l) d).natAbs).sum ≤ (if q.1 ∈ ks then q.2.natAbs else 0) + (ks.map fun d => (tot l d).natAbs).sum := by
      intro ks
      induction ks with
      | nil => intro _; rw [if_neg List.not_mem_nil]; exact Nat.le_refl _
      | cons k ks ihk =>
        intro nd
        obtain ⟨n1, n2⟩ := List.nodup_cons.mp nd
        have h2 := ihk n2
        rw [List.map_cons, List.sum_cons, List.map_cons, List.sum_cons, tot_cons]
        by_cases c : q.1 = k
        · have c2 : q.1 ∉ ks := by rw [c]; exact n1
          rw [if_neg c2] at h2
          rw [if_pos (show q.1 ∈ k :: ks by rw [c]; exact List.mem_cons_self), if_pos c]
          omega
        · rw [if_neg c]
          by_cases c2 : q.1 ∈ ks
          · rw [if_pos c2] at h2
            rw [if_pos (List.mem_cons_of_mem _ c2)]
            omega
          · rw [if_neg c2] at h2
            rw [if_neg (fun z => (List.mem_cons.mp z).elim c c2)]
            omega
    have := one ks nd
    split at this <;> omega
theorem mass_canon (l : LP) : mass (canon l) ≤ mass l := by
  have e : mass (canon l) = (((canon l).map (·.1)).map fun d => (tot l d).natAbs).sum := by
    unfold mass
    rw [List.map_map]
    exact congrArg List.sum (List.map_congr_left fun q hq => by rw [(canon_mem hq).2.1]; rfl)
  rw [e]
  exact mass_keys l _ (rise_nodup (canon_rise l))
/-- a row of middling marks with powers of so much together -/
def RowW (B : Nat) (d : ND) : Prop := ∃ r, d = encL r ∧ (∀ q ∈ r, ∃ p, q.1 = encM p ∧ midP p) ∧ mass r ≤ B
theorem RowW.mono {B C : Nat} {d : ND} (h : RowW B d) (l : B ≤ C) : RowW C d := let ⟨r, e, hm, hb⟩ := h; ⟨r, e, hm, Nat.le_trans hb l⟩
theorem RowW.of {B : Nat} {r : LP} (h : RowW B (encL r)) : (∀ q ∈ r, ∃ p, q.1 = encM p ∧ midP p) ∧ mass r ≤ B := by
  obtain ⟨r', e, h1, h2⟩ := h
  rw [encL_inj e]
  exact ⟨h1, h2⟩
theorem roww_nil : RowW 0 (encL []) := ⟨[], rfl, fun q h => absurd h List.not_mem_nil, Nat.le_refl _⟩
theorem canon_mid {l : LP} (h : ∀ q ∈ l, ∃ p, q.1 = encM p ∧ midP p) : ∀ q ∈ canon l, ∃ p, q.1 = encM p ∧ midP p := fun q hq => by
  obtain ⟨q', hq', e⟩ := List.mem_map.mp (canon_mem hq).1
  obtain ⟨p, hp, hm⟩ := h q' hq'
  exact ⟨p, e.symm.trans hp, hm⟩
theorem canon_roww {B : Nat} {l : LP} (h : ∀ q ∈ l, ∃ p, q.1 = encM p ∧ midP p) (hb : mass l ≤ B) : RowW B (encL (canon l)) := ⟨_, rfl, canon_mid h, Nat.le_trans (mass_canon l) hb⟩
theorem canon_rowws {B : Nat} {l : LP} (h : ∀ q ∈ l, RowW B q.1) : ∀ q ∈ canon l, RowW B q.1 := fun q hq => by
  obtain ⟨q', hq', e⟩ := List.mem_map.mp (canon_mem hq).1
  rw [← e]
  exact h q' hq'
theorem rt_roww {B C : Nat} {d e : ND} (h : RowW B d) (k : RowW C e) : RowW (B + C) (rt d e) := by
  obtain ⟨r, rfl, h1, h2⟩ := h
  obtain ⟨s, rfl, k1, k2⟩ := k
  unfold rt
  rw [dec_enc, dec_enc]
  exact canon_roww (fun q hq => (List.mem_append.mp hq).elim (h1 q) (k1 q)) (by rw [mass_append]; omega)
def itN (z : Rat) (p : Int) : Nat → Rat → Rat
  | 0, v => v
  | k + 1, v => if 0 < p then itN z p k v * z else itN z p k v / z
def rowF (G : IP → Rat) : LP → Rat → Rat
  | [], v => v
  | q :: r, v => rowF G r (itN (G (decM q.1)) q.2 q.2.natAbs v)
theorem itN_lin (z : Rat) (p : Int) : ∀ (k : Nat) (v : Rat), itN z p k v = v * itN z p k 1
  | 0, v => (Rat.mul_one v).symm
  | k + 1, v => by
    unfold itN
    rw [itN_lin z p k v]
    split
    · rw [Rat.mul_assoc]
    · rw [Rat.div_def, Rat.div_def, Rat.mul_assoc]
theorem rowF_lin (G : IP → Rat) : ∀ (r : LP) (v : Rat), rowF G r v = v * rowF G r 1
  | [], v => (Rat.mul_one v).symm
  | q :: r, v => by
    unfold rowF
    rw [rowF_lin G r (itN _ _ _ v), rowF_lin G r (itN _ _ _ 1), itN_lin _ _ _ v, Rat.mul_assoc]
theorem itN_rb {z : Rat} {n m : Nat} (p : Int) (z0 : z ≠ 0) (hz : rb z m) {v : Rat} (hv : rb v n) : ∀ k, rb (itN z p k v) (n + k * m)
  | 0 => hv.mono (by omega)
  | k + 1 => by
    have ih := itN_rb p z0 hz hv k
    unfold itN
    split
    · exact (rb_mul ih hz).mono (by rw [Nat.add_mul]; omega)
    · exact (rb_quot z0 ih hz).mono (by rw [Nat.add_mul]; omega)
theorem rowF_rb {G : IP → Rat} {m : Nat} : ∀ {r : LP}, (∀ q ∈ r, G (decM q.1) ≠ 0 ∧ rb (G (decM q.1)) m) → ∀ {v : Rat} {n : Nat}, rb v n → rb (rowF G r v) (n + mass r * m)
  | [], _, v, n, hv => hv.mono (by rw [mass_nil]; omega)
  | q :: r, h, v, n, hv => by
    obtain ⟨h1, h2⟩ := h q List.mem_cons_self
    unfold rowF
    exact (rowF_rb (r := r) (fun q hq => h q (List.mem_cons_of_mem _ hq)) (itN_rb q.2 h1 h2 hv q.2.natAbs)).mono (by rw [mass_cons, Nat.add_mul]; omega)
theorem rowF_snoc (G : IP → Rat) (q : ND × Int) : ∀ (r : LP) (v : Rat), rowF G (r ++ [q]) v = itN (G (decM q.1)) q.2 q.2.natAbs (rowF G r v)
  | [], _ => rfl
  | x :: r, v => by
    rw [List.cons_append]
    unfold rowF
    exact rowF_snoc G q r _
theorem mass_take (r : LP) (i : Nat) : mass (r.take i) ≤ mass r := by
  conv => rhs; rw [← List.take_append_drop i r]
  rw [mass_append]
  omega
theorem mass_get {r : LP} {i : Nat} {q : ND × Int} (h : r[i]? = some q) : mass (r.take i) + q.2.natAbs ≤ mass r := by
  have e := mass_take r (i + 1)
  have e2 : r.take (i + 1) = r.take i ++ [q] := take_snoc h
  rw [e2, mass_append, mass_cons, mass_nil] at e
  omega
def sumF (G : IP → Rat) (s : LP) : Rat := (s.map fun q => (q.2 : Rat) * rowF G (decL q.1) 1).sum
theorem sumF_snoc (G : IP → Rat) (s : LP) (q : ND × Int) : sumF G (s ++ [q]) = sumF G s + (q.2 : Rat) * rowF G (decL q.1) 1 := by
  unfold sumF
  rw [List.map_append, List.sum_append, List.map_cons, List.map_nil, List.sum_cons, List.sum_nil, Rat.add_zero]
theorem int_rat (n : Int) : Rat.divInt n 1 = (n : Rat) := by
  rw [Rat.divInt_eq_div]
  show (n : Rat) / ((1 : Int) : Rat) = _
  rw [show ((1 : Int) : Rat) = (1 : Rat) from rfl, Rat.div_def]
  rw [show (1 : Rat)⁻¹ = 1 by decide +kernel, Rat.mul_one]
end Pm
namespace Pm
open PySem PySem.Spec PyProof.Rows L2
/-- the objects at a, a + 1, .., n of them, read one by one -/
def frR {α : Type} (g : Addr → Option Obj) : Nat → Addr → (PySem.W.Frag → α) → α
  | 0, _, k => k []
  | n + 1, a, k => HandSHeadRun.frNat a fun a => match g a with
    | none => frR g n (a + 1) k
    | some o => frR g n (a + 1) fun K => k ((a, o) :: K)
theorem frR_eq {α : Type} (g : Addr → Option Obj) : ∀ (n : Nat) (a : Addr) (k : PySem.W.Frag → α), frR g n a k = k (He.frG g (List.range' a n))
  | 0, _, _ => rfl
  | n + 1, a, k => by
    unfold frR
    rw [HandSHeadRun.frNat_eq, List.range'_succ]
    show (match g a with | none => frR g n (a + 1) k | some o => frR g n (a + 1) fun K => k ((a, o) :: K)) = k (He.frG g (a :: List.range' (a + 1) n))
    cases h : g a with
    | none =>
      show frR g n (a + 1) k = _
      rw [frR_eq g n (a + 1) k]
      unfold He.frG
      rw [List.filterMap_cons, h]
      rfl
    | some o =>
      show (frR g n (a + 1) fun K => k ((a, o) :: K)) = _
      rw [frR_eq g n (a + 1) fun K => k ((a, o) :: K)]
      unfold He.frG
      rw [List.filterMap_cons, h]
      rfl
def asR (n : Nat) : List Addr := mainGlobals :: List.range' 0 n
def obsK {α : Type} (n : Nat) (F : PySem.W.Frag → α) (g : Addr → Option Obj) : α := match g mainGlobals with
  | none => frR g n 0 F
  | some o => frR g n 0 fun K => F ((mainGlobals, o) :: K)
theorem obsK_eq {α : Type} (n : Nat) (F : PySem.W.Frag → α) (g : Addr → Option Obj) : obsK n F g = F (He.frG g (asR n)) := by
  unfold obsK asR
  cases h : g mainGlobals with
  | none =>
    show frR g n 0 F = _
    rw [frR_eq]
    unfold He.frG
    rw [List.filterMap_cons, h]
    rfl
  | some o =>
    show (frR g n 0 fun K => F ((mainGlobals, o) :: K)) = _
    rw [frR_eq]
    unfold He.frG
    rw [List.filterMap_cons, h]
    rfl
/-- the Hook's facts, and Bools of one's own -/
def obsP (fa : List He.Fa) (fn : List He.FnD) (ex : PySem.W.Frag → List Bool) (K : PySem.W.Frag) : He.Al := ((He.obsE fa fn K).1 && (ex K).all id, (He.obsE fa fn K).2)
/-- what the end leans on -/
structure SaysP (fa : List He.Fa) (fn : List He.FnD) (ex : PySem.W.Frag → List Bool) (K : PySem.W.Frag) : Prop where
  e : He.SaysE fa fn K
  x : (ex K).all id = true
theorem saysP_of {fa : List He.Fa} {fn : List He.FnD} {ex : PySem.W.Frag → List Bool} {K : PySem.W.Frag} (h : obsP fa fn ex K = He.valE fn) : SaysP fa fn ex K := by
  have h1 : ((He.obsE fa fn K).1 && (ex K).all id) = true := congrArg Prod.fst h
  have h2 : (He.obsE fa fn K).2 = (He.valE fn).2 := by have z := congrArg Prod.snd h; exact z
  obtain ⟨a, b⟩ := Bool.and_eq_true_iff.mp h1
  exact ⟨Prod.ext a h2, b⟩
theorem obsP_of {fa : List He.Fa} {fn : List He.FnD} {ex : PySem.W.Frag → List Bool} {K : PySem.W.Frag} (h0 : (fn.map fun d => He.fnObs K d.at_) = fn.map He.FnD.val) (h1 : (fn.all fun d => (He.Fa.code d.at_ d.qual).ok K) = true) (h2 : (fa.all fun f => f.ok K) = true) (h3 : (ex K).all id = true) : obsP fa fn ex K = He.valE fn := by
  unfold obsP He.obsE He.valE
  rw [h0, h1, h2, h3]
  rfl
def hookP (n : Nat) (fa : List He.Fa) (fn : List He.FnD) (ex : PySem.W.Frag → List Bool) : PySem.W.Hook where
  α := He.Al
  obs := fun s => obsP fa fn ex (He.frG s.heap.get? (asR n))
  val := fun _ => He.valE fn
  says := fun _ h => ∃ K : PySem.W.Frag, K.In h ∧ SaysP fa fn ex K
  of := fun _ _ e => ⟨_, He.frG_in, saysP_of e⟩
  keeps := fun _ _ _ ⟨K, hK, c⟩ k => ⟨K, PySem.W.Frag.In.keeps hK k, c⟩
def obT (n : Nat) (fa : List He.Fa) (fn : List He.FnD) (ex : PySem.W.Frag → List Bool) (s : PySem.W.SharedT) : He.Al := obsP fa fn ex (He.frG (HandSHeadRun.getT s) (asR n))
theorem obT_eq {n : Nat} {fa : List He.Fa} {fn : List He.FnD} {ex : PySem.W.Frag → List Bool} (s : PySem.W.SharedT) : obT n fa fn ex s = (hookP n fa fn ex).obs s.abs := by
  have e : HandSHeadRun.getT s = s.abs.heap.get? := funext (HandSHeadRun.getT_eq s)
  unfold obT hookP
  rw [e]
/-- the top's end -/
noncomputable abbrev endR (r : PySem.W.OpenRow) (M : Nat) (w : World) (os : OsState) : Option PySem.W.SharedT := HandSHeadRun.endF (HandSHeadRun.stepQ (HandSHeadRun.denQ HandSHeadRun.tabQ) r.prog w) M r.prog w os
/-- one look at what stands at the end -/
def Look {α : Type} (r : PySem.W.OpenRow) (M n : Nat) (w : World) (F : PySem.W.Frag → α) (v : α) : Prop := ∀ os : OsState, (endR r M w os).map (fun s => obsK n F (HandSHeadRun.getT s)) = some v
theorem Look.at_ {α : Type} {r : PySem.W.OpenRow} {M n : Nat} {w : World} {F : PySem.W.Frag → α} {v : α} (h : Look r M n w F v) {os : OsState} {s : PySem.W.SharedT} (e : endR r M w os = some s) : F (He.frG (HandSHeadRun.getT s) (asR n)) = v := by
  have z := h os
  rw [e] at z
  have z2 : obsK n F (HandSHeadRun.getT s) = v := Option.some.inj z
  rw [obsK_eq] at z2
  exact z2
theorem run_of {r : PySem.W.OpenRow} {q : Program} {fa : List He.Fa} {fn : List He.FnD} {ex : PySem.W.Frag → List Bool} {M n : Nat} {loose : List Str} {w : World}
    (A : ∀ os : OsState, (endR r M w os).map (fun s => (HandSHeadRun.looksF r.prog (PySem.W.boot_heap w.params) s.abs, HandSHeadRun.seenQ q loose (importedModules r.prog.main.body) (fun s => PySem.W.xlAt q [] s && PySem.W.recOk r.toRowW.records s) s.abs)) = some (true, PySem.W.openGood q loose))
    (B : ∀ os s, endR r M w os = some s → obsP fa fn ex (He.frG (HandSHeadRun.getT s) (asR n)) = He.valE fn) : HandSHeadRun.RunEq r q (hookP n fa fn ex) (obT n fa fn ex) M loose w := by
  intro os
  have a := A os
  cases e : endR r M w os with
  | none =>
    rw [e] at a
    cases a
  | some s =>
    rw [e] at a
    have a2 := Option.some.inj a
    have a3 := congrArg Prod.fst a2
    have a4 := congrArg Prod.snd a2
    simp only at a3 a4
    show (endR r M w os).map _ = _
    rw [e]
    show some (_, _, obT n fa fn ex s) = some (true, _, He.valE fn)
    rw [a3, a4]
    unfold obT
    rw [B os s e]
section
variable {fa : List He.Fa} {fn : List He.FnD} {ex : PySem.W.Frag → List Bool} {K : PySem.W.Frag}
theorem SaysP.b (c : SaysP fa fn ex K) (i : Nat) {b : Bool} (h : (ex K)[i]? = some b) : b = true := List.all_eq_true.mp c.x b (List.mem_of_getElem? h)
theorem SaysP.d (c : SaysP fa fn ex K) (i : Nat) {p : Prop} [Decidable p] (h : (ex K)[i]? = some (decide p)) : p := of_decide_eq_true (c.b i h)
/-- a def of the top -/
theorem SaysP.def_ {D : He.FnD} (c : SaysP fa fn ex K) (i : Nat) (h : fn[i]? = some D) : ∃ oc od osl kV doc pm an cdv ct, K.lookup (He.fAd K D.at_) = some ⟨oc, od, .func (PySem.W.fnOf D.name D.qual D.params D.body D.scope .none kV doc pm an cdv ct), osl⟩ ∧ PySem.W.codeIn K cdv D.qual = true := c.e.def_ i h
end
end Pm
local macro_rules | `(tactic| walk_at "s1") => `(tactic| with_reducible refine Pm.w_rdS ?_)
local macro_rules | `(tactic| walk_at "s1") => `(tactic| with_reducible refine Pm.w_iStr ?_)
local macro_rules | `(tactic| walk_at "s1") => `(tactic| with_reducible refine Pm.w_iteN0 ?_)
local macro_rules | `(tactic| walk_at "s1") => `(tactic| with_reducible refine Pm.w_iteN1 ?_)
local macro_rules | `(tactic| walk_at "s1") => `(tactic| with_reducible refine Pm.w_iteF ?_)
local macro_rules | `(tactic| walk_at "s1") => `(tactic| with_reducible refine Pm.w_iteT ?_)
local macro_rules | `(tactic| walk_at "s1") => `(tactic| with_reducible refine Pm.w_makeX ?_)
local macro_rules | `(tactic| walk_at "s1") => `(tactic| with_reducible refine Pm.w_make ?_)
local macro_rules | `(tactic| walk_at "s1") => `(tactic| with_reducible refine Pm.w_methX ?_)
local macro_rules | `(tactic| walk_at "s1") => `(tactic| with_reducible refine Pm.w_sfld ?_)
local macro_rules | `(tactic| walk_at "s1") => `(tactic| with_reducible refine Pm.w_nes ?_)
local macro_rules | `(tactic| walk_at "s1") => `(tactic| with_reducible refine Pm.w_yes ?_)
local macro_rules | `(tactic| walk_at "s1") => `(tactic| with_reducible refine Pm.w_partK ?_)
local macro_rules | `(tactic| walk_at "s1") => `(tactic| with_reducible refine Pm.w_part ?_)
local macro_rules | `(tactic| walk_at "s1") => `(tactic| with_reducible refine Pm.w_noPart ?_)
local macro_rules | `(tactic| walk_at "s1") => `(tactic| with_reducible refine Pm.w_sl ?_)
local macro_rules | `(tactic| walk_at "s1") => `(tactic| with_reducible refine Pm.w_int1 ?_)
local macro_rules | `(tactic| walk_at "s1") => `(tactic| with_reducible refine Pm.w_dget ?_)
local macro_rules | `(tactic| walk_at "s1") => `(tactic| with_reducible refine Pm.w_dnotin ?_)
local macro_rules | `(tactic| walk_at "s1") => `(tactic| with_reducible refine Pm.w_din ?_)
local macro_rules | `(tactic| walk_at "s1") => `(tactic| with_reducible refine Pm.w_pairs0 ?_)
local macro_rules | `(tactic| walk_at "s1") => `(tactic| with_reducible refine Pm.w_pairs ?_)
local macro_rules | `(tactic| walk_at "s1") => `(tactic| ((with_reducible refine Pm.w_rg2 ?_ ?_); (refine ⟨⟨?_, ?_⟩, ?_, ?_⟩ <;> omega)))
local macro_rules | `(tactic| walk_at "s1") => `(tactic| ((with_reducible refine Pm.w_rg1 ?_ ?_); (constructor <;> omega)))
local macro_rules | `(tactic| walk_at "s1") => `(tactic| with_reducible refine Pm.w_iRng2 ?_)
local macro_rules | `(tactic| walk_at "s1") => `(tactic| with_reducible refine Pm.w_iRng1 ?_)
local macro_rules | `(tactic| walk_at "s1") => `(tactic| with_reducible refine Pm.w_iTup ?_)
local macro_rules | `(tactic| walk_at "s1") => `(tactic| with_reducible refine Pm.w_bm0 ?_)
local macro_rules | `(tactic| walk_at "s1") => `(tactic| with_reducible refine Pm.w_bm ?_)
local macro_rules | `(tactic| walk_at "s1") => `(tactic| with_reducible refine Pm.w_abs ?_)
local macro_rules | `(tactic| walk_at "s1") => `(tactic| with_reducible refine Pm.w_min ?_)
local macro_rules | `(tactic| walk_at "s1") => `(tactic| with_reducible refine Pm.w_max ?_)
local macro_rules | `(tactic| walk_at "s1") => `(tactic| with_reducible refine Pm.w_par2 ?_)
local macro_rules | `(tactic| walk_at "s1") => `(tactic| with_reducible refine Pm.w_par ?_)
local macro_rules | `(tactic| walk_at "s1") => `(tactic| with_reducible refine Pm.w_blx ?_)
local macro_rules | `(tactic| walk_at "s1") => `(tactic| with_reducible refine Pm.w_chain3 ?_)
local macro_rules | `(tactic| walk_at "s1") => `(tactic| with_reducible refine Pm.w_chain ?_)
local macro_rules | `(tactic| walk_at "s1") => `(tactic| with_reducible refine Pm.w_ifE ?_)
local macro_rules | `(tactic| walk_at "s1") => `(tactic| with_reducible refine Pm.w_notV ?_)
local macro_rules | `(tactic| walk_at "s1") => `(tactic| with_reducible refine Pm.w_orV ?_)
local macro_rules | `(tactic| walk_at "s1") => `(tactic| with_reducible refine Pm.w_andV ?_)
local macro_rules | `(tactic| walk_at "s1") => `(tactic| with_reducible refine Pm.w_not ?_)
local macro_rules | `(tactic| walk_at "s1") => `(tactic| with_reducible refine Pm.w_and ?_)
local macro_rules | `(tactic| walk_at "s1") => `(tactic| with_reducible refine Pm.w_bl ?_)
local macro_rules | `(tactic| walk_at "s1") => `(tactic| with_reducible refine Pm.w_lst ?_)
local macro_rules | `(tactic| walk_at "s1") => `(tactic| with_reducible refine Pm.w_callS ?_)
local macro_rules | `(tactic| walk_at "s1") => `(tactic| with_reducible refine Pm.w_eqs ?_)
local macro_rules | `(tactic| walk_at "s1") => `(tactic| with_reducible refine Pm.w_neb ?_)
local macro_rules | `(tactic| walk_at "s1") => `(tactic| with_reducible refine Pm.w_eqb ?_)
local macro_rules | `(tactic| walk_at "s1") => `(tactic| with_reducible refine Pm.w_nei ?_)
local macro_rules | `(tactic| walk_at "s1") => `(tactic| with_reducible refine Pm.w_eqi ?_)
local macro_rules | `(tactic| walk_at "s1") => `(tactic| with_reducible refine Pm.w_u ?_)
local macro_rules | `(tactic| walk_at "s1") => `(tactic| with_reducible refine Pm.w_gnil ?_)
local macro_rules | `(tactic| walk_at "s1") => `(tactic| with_reducible refine Pm.w_gsub ?_)
local macro_rules | `(tactic| walk_at "s1") => `(tactic| with_reducible refine Pm.w_cont ?_)
local macro_rules | `(tactic| walk_at "s1") => `(tactic| with_reducible refine Pm.w_brk ?_)
local macro_rules | `(tactic| walk_at "s1") => `(tactic| with_reducible refine Pm.w_retN ?_)
local macro_rules | `(tactic| walk_at "s1") => `(tactic| with_reducible refine Pm.w_or ?_)
local macro_rules | `(tactic| walk_at "s1") => `(tactic| with_reducible refine Pm.w_un ?_)
local macro_rules | `(tactic| walk_at "s1") => `(tactic| with_reducible refine Pm.w_drop ?_)
local macro_rules | `(tactic| walk_at "s1") => `(tactic| with_reducible refine Pm.w_b ?_)
local macro_rules | `(tactic| walk_at "s1") => `(tactic| with_reducible refine Pm.w_iList ?_)
local macro_rules | `(tactic| walk_at "s1") => `(tactic| with_reducible refine Pm.w_meth ?_)
local macro_rules | `(tactic| walk_at "s1") => `(tactic| with_reducible refine Pm.w_for ?_)
local macro_rules | `(tactic| walk_at "s1") => `(tactic| with_reducible refine Pm.w_dput ?_)
local macro_rules | `(tactic| walk_at "s1") => `(tactic| with_reducible refine Pm.w_fld ?_)
local macro_rules | `(tactic| walk_at "s1") => `(tactic| with_reducible refine Pm.w_cb ?_)
local macro_rules | `(tactic| walk_at "s1") => `(tactic| with_reducible refine Pm.w_lc ?_)
local macro_rules | `(tactic| walk_at "s1") => `(tactic| with_reducible refine Pm.w_gcons ?_)
local macro_rules | `(tactic| walk_at "s1") => `(tactic| with_reducible refine Pm.w_test ?_)
local macro_rules | `(tactic| walk_at "s1") => `(tactic| with_reducible refine Pm.w_tup ?_)
local macro_rules | `(tactic| walk_at "s1") => `(tactic| ((with_reducible show Pm.LcTurn _ _ _ _ _ _ _ _); refine Pm.w_turn rfl ?_))
local macro_rules | `(tactic| walk_at "s1") => `(tactic| with_reducible refine Pm.w_next ?_)
local macro_rules | `(tactic| walk_at "s1") => `(tactic| with_reducible refine Pm.w_nil ?_)
local macro_rules | `(tactic| walk_at "s1") => `(tactic| ((with_reducible refine Pm.w_i ?_ ?_); (walk_at "side")))
local macro_rules | `(tactic| walk_at "s1") => `(tactic| with_reducible refine Pm.w_i0 ?_)
local macro_rules | `(tactic| walk_at "s1") => `(tactic| with_reducible refine Pm.w_call ?_)
local macro_rules | `(tactic| walk_at "s1") => `(tactic| with_reducible refine Pm.w_ret ?_)
local macro_rules | `(tactic| walk_at "s1") => `(tactic| with_reducible refine Pm.w_gname ?_)
local macro_rules | `(tactic| walk_at "s1") => `(tactic| with_reducible refine Pm.w_if ?_)
local macro_rules | `(tactic| walk_at "s1") => `(tactic| with_reducible refine Pm.w_asg ?_)
local macro_rules | `(tactic| walk_at "s1") => `(tactic| with_reducible refine Pm.w_c ?_)
local macro_rules | `(tactic| walk_at "s1") => `(tactic| with_reducible refine Pm.w_seq ?_)
local macro_rules | `(tactic| walk_at "s1") => `(tactic| with_reducible refine Pm.w_op ?_)
local macro_rules | `(tactic| walk_at "s1") => `(tactic| with_reducible refine Pm.w_cons ?_)
local macro_rules | `(tactic| walk_at "s1") => `(tactic| ((with_reducible show L2.tVar _ _ _ _); refine Pm.w_var rfl ?_))
local macro_rules | `(tactic| walk_at "side") => `(tactic| first | (refine Pm.w_mul1 ?_; constructor <;> omega) | (refine Pm.w_mul2 ?_; constructor <;> omega) | ((with_reducible show L2.CDiv _ _); refine ⟨?_, ?_⟩ <;> omega) | ((with_reducible show L2.CPow _ _); exact ⟨by decide, by decide, by decide⟩) | (show (0:Int) < _; omega))
local macro_rules | `(tactic| walk_at "st") => `(tactic| repeat (walk_at "s1"))
namespace Pm
open PySem PySem.Spec PyProof.Rows L2
def top (i : Nat) : Stmt := PySem.Challenge.pw_postmead_k06_letters_worth.main.body.getD i (.Pass ⟨0, 0, 0, 0⟩)
abbrev s_measure : Stmt := top 6
abbrev N_measure : List Str := ["one", "other"]
theorem sc_measure : FnScope N_measure ["one", "other"] (defScope s_measure) := ⟨rfl, rfl, rfl, by decide +kernel, rfl, by decide +kernel, by decide +kernel⟩
abbrev s_lowest : Stmt := top 7
abbrev N_lowest : List Str := ["top", "bottom", "by"]
theorem sc_lowest : FnScope N_lowest ["top", "bottom"] (defScope s_lowest) := ⟨rfl, rfl, rfl, by decide +kernel, rfl, by decide +kernel, by decide +kernel⟩
abbrev s_plus : Stmt := top 8
abbrev N_plus : List Str := ["one", "other"]
theorem sc_plus : FnScope N_plus ["one", "other"] (defScope s_plus) := ⟨rfl, rfl, rfl, by decide +kernel, rfl, by decide +kernel, by decide +kernel⟩
abbrev s_times : Stmt := top 9
abbrev N_times : List Str := ["one", "other"]
theorem sc_times : FnScope N_times ["one", "other"] (defScope s_times) := ⟨rfl, rfl, rfl, by decide +kernel, rfl, by decide +kernel, by decide +kernel⟩
abbrev s_over : Stmt := top 10
abbrev N_over : List Str := ["one", "other"]
theorem sc_over : FnScope N_over ["one", "other"] (defScope s_over) := ⟨rfl, rfl, rfl, by decide +kernel, rfl, by decide +kernel, by decide +kernel⟩
abbrev s_row_worth : Stmt := top 12
abbrev N_row_worth : List Str := ["row", "lengths", "value", "mark", "power", "turn"]
theorem sc_row_worth : FnScope N_row_worth ["row", "lengths"] (defScope s_row_worth) := ⟨rfl, rfl, rfl, by decide +kernel, rfl, by decide +kernel, by decide +kernel⟩
abbrev s_worth : Stmt := top 13
abbrev N_worth : List Str := ["one", "lengths", "value", "row", "count"]
theorem sc_worth : FnScope N_worth ["one", "lengths"] (defScope s_worth) := ⟨rfl, rfl, rfl, by decide +kernel, rfl, by decide +kernel, by decide +kernel⟩
abbrev s_law_flow : Stmt := top 15
abbrev N_law_flow : List Str := ["_law_script", "_law_many", "_law_great", "_law_row", "_law_k", "_law_cell", "_law_mixed"]
theorem sc_law_flow : FnScope N_law_flow ["_law_script", "_law_many"] (defScope s_law_flow) := ⟨rfl, rfl, rfl, by decide +kernel, rfl, by decide +kernel, by decide +kernel⟩
abbrev s_law_whole : Stmt := top 16
abbrev N_law_whole : List Str := ["_law_found"]
theorem sc_law_whole : FnScope N_law_whole ["_law_found"] (defScope s_law_whole) := ⟨rfl, rfl, rfl, by decide +kernel, rfl, by decide +kernel, by decide +kernel⟩
abbrev s_law_low : Stmt := top 17
abbrev N_law_low : List Str := ["_law_top", "_law_bottom", "_law_one", "_law_other"]
theorem sc_law_low : FnScope N_law_low ["_law_top", "_law_bottom"] (defScope s_law_low) := ⟨rfl, rfl, rfl, by decide +kernel, rfl, by decide +kernel, by decide +kernel⟩
abbrev s_law_add : Stmt := top 18
abbrev N_law_add : List Str := ["_law_one", "_law_other"]
theorem sc_law_add : FnScope N_law_add ["_law_one", "_law_other"] (defScope s_law_add) := ⟨rfl, rfl, rfl, by decide +kernel, rfl, by decide +kernel, by decide +kernel⟩
abbrev s_law_mul : Stmt := top 19
abbrev N_law_mul : List Str := ["_law_one", "_law_other"]
theorem sc_law_mul : FnScope N_law_mul ["_law_one", "_law_other"] (defScope s_law_mul) := ⟨rfl, rfl, rfl, by decide +kernel, rfl, by decide +kernel, by decide +kernel⟩
abbrev s_law_div : Stmt := top 20
abbrev N_law_div : List Str := ["_law_one", "_law_other"]
theorem sc_law_div : FnScope N_law_div ["_law_one", "_law_other"] (defScope s_law_div) := ⟨rfl, rfl, rfl, by decide +kernel, rfl, by decide +kernel, by decide +kernel⟩
abbrev s_law_part : Stmt := top 21
abbrev N_law_part : List Str := ["_law_found"]
theorem sc_law_part : FnScope N_law_part ["_law_found"] (defScope s_law_part) := ⟨rfl, rfl, rfl, by decide +kernel, rfl, by decide +kernel, by decide +kernel⟩
abbrev s_law_size : Stmt := top 22
abbrev N_law_size : List Str := ["_law_one"]
theorem sc_law_size : FnScope N_law_size ["_law_one"] (defScope s_law_size) := ⟨rfl, rfl, rfl, by decide +kernel, rfl, by decide +kernel, by decide +kernel⟩
abbrev s_law_row_times : Stmt := top 23
abbrev N_law_row_times : List Str := ["_law_one", "_law_other", "_law_powers", "_law_mark", "_law_power"]
theorem sc_law_row_times : FnScope N_law_row_times ["_law_one", "_law_other"] (defScope s_law_row_times) := ⟨rfl, rfl, rfl, by decide +kernel, rfl, by decide +kernel, by decide +kernel⟩
abbrev s_law_settled : Stmt := top 24
abbrev N_law_settled : List Str := ["_law_terms", "_law_counts", "_law_row", "_law_count"]
theorem sc_law_settled : FnScope N_law_settled ["_law_terms"] (defScope s_law_settled) := ⟨rfl, rfl, rfl, by decide +kernel, rfl, by decide +kernel, by decide +kernel⟩
abbrev s_law_times : Stmt := top 25
abbrev N_law_times : List Str := ["_law_one", "_law_other", "_law_terms", "_law_row", "_law_count", "_law_late", "_law_many"]
theorem sc_law_times : FnScope N_law_times ["_law_one", "_law_other"] (defScope s_law_times) := ⟨rfl, rfl, rfl, by decide +kernel, rfl, by decide +kernel, by decide +kernel⟩
abbrev s_law_draw_sum : Stmt := top 26
abbrev N_law_draw_sum : List Str := ["_law_row", "_law_terms", "_law_marks", "_law_made", "_law_k", "_law_powers", "_law_i", "_law_one", "_law_a", "_law_b"]
theorem sc_law_draw_sum : FnScope N_law_draw_sum ["_law_row", "_law_terms", "_law_marks"] (defScope s_law_draw_sum) := ⟨rfl, rfl, rfl, by decide +kernel, rfl, by decide +kernel, by decide +kernel⟩
abbrev s_law_worth : Stmt := top 27
abbrev N_law_worth : List Str := ["_law_one", "_law_lengths", "_law_value", "_law_row", "_law_count", "_law_part_here", "_law_mark", "_law_power", "_law_turn"]
theorem sc_law_worth : FnScope N_law_worth ["_law_one", "_law_lengths"] (defScope s_law_worth) := ⟨rfl, rfl, rfl, by decide +kernel, rfl, by decide +kernel, by decide +kernel⟩
abbrev s_law : Stmt := top 28
abbrev N_law : List Str := ["_law_script", "_law_row", "_law_one", "_law_lengths", "_law_marks", "_law_powers", "_law_count", "_law_mark", "_law_power", "_law_missing", "_law_handed", "_law_terms", "_law_found", "e"]
theorem sc_law : FnScope N_law ["_law_script"] (defScope s_law) := ⟨rfl, rfl, rfl, by decide +kernel, rfl, by decide +kernel, by decide +kernel⟩
structure DefAt (K : PySem.W.Frag) (mg : Str → Option Value) (nm qn : Str) (st : Stmt) (ps : List Str) : Type where
  a : Addr
  fd : FuncData
  F : Fun K nm qn st a fd
  g : mg nm = some (.ref a)
  b : Binds K fd ps []
structure ExAt (K : PySem.W.Frag) (mg : Str → Option Value) (nm : Str) : Type where
  c : Addr
  g : mg nm = some (.ref c)
  x : PySem.W.excIn K c [.type "ValueError", .type "Exception", .type "BaseException", .type "object"] "ValueError.__new__" = true
  k : PySem.W.keepIn K (.ref c) = true
  b : PySem.W.subIn K (.ref c) (.type "BaseException") = some true
  t : PySem.W.typeIn K (.ref c) = some (.type "type")
  i : PySem.W.isClsIn K c = true
  z : PySem.W.subIn K (.ref c) (.ref c) = some true
/-- what the top has written -/
structure Tx (K : PySem.W.Frag) (mg : Str → Option Value) : Type where
  d_measure : DefAt K mg "measure" "measure" s_measure ["one", "other"]
  d_lowest : DefAt K mg "lowest" "lowest" s_lowest ["top", "bottom"]
  d_plus : DefAt K mg "plus" "plus" s_plus ["one", "other"]
  d_times : DefAt K mg "times" "times" s_times ["one", "other"]
  d_over : DefAt K mg "over" "over" s_over ["one", "other"]
  d_row_worth : DefAt K mg "row_worth" "row_worth" s_row_worth ["row", "lengths"]
  d_worth : DefAt K mg "worth" "worth" s_worth ["one", "lengths"]
  d_law_flow : DefAt K mg "_law_flow" "_law_flow" s_law_flow ["_law_script", "_law_many"]
  d_law_whole : DefAt K mg "_law_whole" "_law_whole" s_law_whole ["_law_found"]
  d_law_low : DefAt K mg "_law_low" "_law_low" s_law_low ["_law_top", "_law_bottom"]
  d_law_add : DefAt K mg "_law_add" "_law_add" s_law_add ["_law_one", "_law_other"]
  d_law_mul : DefAt K mg "_law_mul" "_law_mul" s_law_mul ["_law_one", "_law_other"]
  d_law_div : DefAt K mg "_law_div" "_law_div" s_law_div ["_law_one", "_law_other"]
  d_law_part : DefAt K mg "_law_part" "_law_part" s_law_part ["_law_found"]
  d_law_size : DefAt K mg "_law_size" "_law_size" s_law_size ["_law_one"]
  d_law_row_times : DefAt K mg "_law_row_times" "_law_row_times" s_law_row_times ["_law_one", "_law_other"]
  d_law_settled : DefAt K mg "_law_settled" "_law_settled" s_law_settled ["_law_terms"]
  d_law_times : DefAt K mg "_law_times" "_law_times" s_law_times ["_law_one", "_law_other"]
  d_law_draw_sum : DefAt K mg "_law_draw_sum" "_law_draw_sum" s_law_draw_sum ["_law_row", "_law_terms", "_law_marks"]
  d_law_worth : DefAt K mg "_law_worth" "_law_worth" s_law_worth ["_law_one", "_law_lengths"]
  d_law : DefAt K mg "law" "law" s_law ["_law_script"]
  m_abs : mg "abs" = none
  m_range : mg "range" = none
  m_len : mg "len" = none
  m_isinstance : mg "isinstance" = none
  m_int : mg "int" = none
  m_bool : mg "bool" = none
  m_tuple : mg "tuple" = none
  m_sorted : mg "sorted" = none
  m_dict : mg "dict" = none
  m_list : mg "list" = none
  e_NoFraction : ExAt K mg "NoFraction"
  e_NoLetter : ExAt K mg "NoLetter"
  e_MeadError : ExAt K mg "MeadError"
  c_NOUGHT : Addr
  g_NOUGHT : mg "NOUGHT" = some (.ref c_NOUGHT)
  r_NOUGHT : RelV (.ref c_NOUGHT) (.ref c_NOUGHT)
  v_NOUGHT : ∀ H, SqT K H c_NOUGHT [.int 0, .int 1]
  ex1_NoLetter : PySem.W.findIn K (.ref e_NoLetter.c) "__getattribute__" = some (some (.builtin "BaseException.__getattribute__"))
  ex2_NoLetter : PySem.W.findIn K (.ref e_NoLetter.c) "__getattr__" = some none
  ex3_NoLetter : PySem.W.hasDictIn K e_NoLetter.c = true
  ex4_NoLetter : PySem.W.findIn K (.ref e_NoLetter.c) "__class__" = some (some (.builtin "object.__class__"))
  ex5_NoLetter : PySem.W.specialIn K (.builtin "object.__class__") "__get__" = some (some (.builtin "getset_descriptor.__get__"))
  ex6_NoLetter : PySem.W.takesIn K (.builtin "object.__class__") = some true
  ex7_NoLetter : PySem.W.mroIn K e_NoLetter.c (.type "object") = some true
  kit_NoLetter_MeadError : PySem.W.kitOne K (.ref e_NoLetter.c) (.ref e_MeadError.c) = some true
  exm_NoLetter_MeadError : PySem.W.exmOne K (.ref e_NoLetter.c) (.ref e_MeadError.c) = some true
  kit_NoLetter_NoLetter : PySem.W.kitOne K (.ref e_NoLetter.c) (.ref e_NoLetter.c) = some true
  exm_NoLetter_NoLetter : PySem.W.exmOne K (.ref e_NoLetter.c) (.ref e_NoLetter.c) = some true
abbrev Tx.a_measure {K : PySem.W.Frag} {mg : Str → Option Value} (T : Tx K mg) : Addr := T.d_measure.a
abbrev Tx.fd_measure {K : PySem.W.Frag} {mg : Str → Option Value} (T : Tx K mg) : FuncData := T.d_measure.fd
theorem Tx.F_measure {K : PySem.W.Frag} {mg : Str → Option Value} (T : Tx K mg) : Fun K "measure" "measure" s_measure T.a_measure T.fd_measure := T.d_measure.F
theorem Tx.g_measure {K : PySem.W.Frag} {mg : Str → Option Value} (T : Tx K mg) : mg "measure" = some (.ref T.a_measure) := T.d_measure.g
theorem Tx.b_measure {K : PySem.W.Frag} {mg : Str → Option Value} (T : Tx K mg) : Binds K T.fd_measure ["one", "other"] [] := T.d_measure.b
abbrev Tx.a_lowest {K : PySem.W.Frag} {mg : Str → Option Value} (T : Tx K mg) : Addr := T.d_lowest.a
abbrev Tx.fd_lowest {K : PySem.W.Frag} {mg : Str → Option Value} (T : Tx K mg) : FuncData := T.d_lowest.fd
theorem Tx.F_lowest {K : PySem.W.Frag} {mg : Str → Option Value} (T : Tx K mg) : Fun K "lowest" "lowest" s_lowest T.a_lowest T.fd_lowest := T.d_lowest.F
theorem Tx.g_lowest {K : PySem.W.Frag} {mg : Str → Option Value} (T : Tx K mg) : mg "lowest" = some (.ref T.a_lowest) := T.d_lowest.g
theorem Tx.b_lowest {K : PySem.W.Frag} {mg : Str → Option Value} (T : Tx K mg) : Binds K T.fd_lowest ["top", "bottom"] [] := T.d_lowest.b
abbrev Tx.a_plus {K : PySem.W.Frag} {mg : Str → Option Value} (T : Tx K mg) : Addr := T.d_plus.a
abbrev Tx.fd_plus {K : PySem.W.Frag} {mg : Str → Option Value} (T : Tx K mg) : FuncData := T.d_plus.fd
theorem Tx.F_plus {K : PySem.W.Frag} {mg : Str → Option Value} (T : Tx K mg) : Fun K "plus" "plus" s_plus T.a_plus T.fd_plus := T.d_plus.F
theorem Tx.g_plus {K : PySem.W.Frag} {mg : Str → Option Value} (T : Tx K mg) : mg "plus" = some (.ref T.a_plus) := T.d_plus.g
theorem Tx.b_plus {K : PySem.W.Frag} {mg : Str → Option Value} (T : Tx K mg) : Binds K T.fd_plus ["one", "other"] [] := T.d_plus.b
abbrev Tx.a_times {K : PySem.W.Frag} {mg : Str → Option Value} (T : Tx K mg) : Addr := T.d_times.a
abbrev Tx.fd_times {K : PySem.W.Frag} {mg : Str → Option Value} (T : Tx K mg) : FuncData := T.d_times.fd
theorem Tx.F_times {K : PySem.W.Frag} {mg : Str → Option Value} (T : Tx K mg) : Fun K "times" "times" s_times T.a_times T.fd_times := T.d_times.F
theorem Tx.g_times {K : PySem.W.Frag} {mg : Str → Option Value} (T : Tx K mg) : mg "times" = some (.ref T.a_times) := T.d_times.g
theorem Tx.b_times {K : PySem.W.Frag} {mg : Str → Option Value} (T : Tx K mg) : Binds K T.fd_times ["one", "other"] [] := T.d_times.b
abbrev Tx.a_over {K : PySem.W.Frag} {mg : Str → Option Value} (T : Tx K mg) : Addr := T.d_over.a
abbrev Tx.fd_over {K : PySem.W.Frag} {mg : Str → Option Value} (T : Tx K mg) : FuncData := T.d_over.fd
theorem Tx.F_over {K : PySem.W.Frag} {mg : Str → Option Value} (T : Tx K mg) : Fun K "over" "over" s_over T.a_over T.fd_over := T.d_over.F
theorem Tx.g_over {K : PySem.W.Frag} {mg : Str → Option Value} (T : Tx K mg) : mg "over" = some (.ref T.a_over) := T.d_over.g
theorem Tx.b_over {K : PySem.W.Frag} {mg : Str → Option Value} (T : Tx K mg) : Binds K T.fd_over ["one", "other"] [] := T.d_over.b
abbrev Tx.a_row_worth {K : PySem.W.Frag} {mg : Str → Option Value} (T : Tx K mg) : Addr := T.d_row_worth.a
abbrev Tx.fd_row_worth {K : PySem.W.Frag} {mg : Str → Option Value} (T : Tx K mg) : FuncData := T.d_row_worth.fd
theorem Tx.F_row_worth {K : PySem.W.Frag} {mg : Str → Option Value} (T : Tx K mg) : Fun K "row_worth" "row_worth" s_row_worth T.a_row_worth T.fd_row_worth := T.d_row_worth.F
theorem Tx.g_row_worth {K : PySem.W.Frag} {mg : Str → Option Value} (T : Tx K mg) : mg "row_worth" = some (.ref T.a_row_worth) := T.d_row_worth.g
theorem Tx.b_row_worth {K : PySem.W.Frag} {mg : Str → Option Value} (T : Tx K mg) : Binds K T.fd_row_worth ["row", "lengths"] [] := T.d_row_worth.b
abbrev Tx.a_worth {K : PySem.W.Frag} {mg : Str → Option Value} (T : Tx K mg) : Addr := T.d_worth.a
abbrev Tx.fd_worth {K : PySem.W.Frag} {mg : Str → Option Value} (T : Tx K mg) : FuncData := T.d_worth.fd
theorem Tx.F_worth {K : PySem.W.Frag} {mg : Str → Option Value} (T : Tx K mg) : Fun K "worth" "worth" s_worth T.a_worth T.fd_worth := T.d_worth.F
theorem Tx.g_worth {K : PySem.W.Frag} {mg : Str → Option Value} (T : Tx K mg) : mg "worth" = some (.ref T.a_worth) := T.d_worth.g
theorem Tx.b_worth {K : PySem.W.Frag} {mg : Str → Option Value} (T : Tx K mg) : Binds K T.fd_worth ["one", "lengths"] [] := T.d_worth.b
abbrev Tx.a_law_flow {K : PySem.W.Frag} {mg : Str → Option Value} (T : Tx K mg) : Addr := T.d_law_flow.a
abbrev Tx.fd_law_flow {K : PySem.W.Frag} {mg : Str → Option Value} (T : Tx K mg) : FuncData := T.d_law_flow.fd
theorem Tx.F_law_flow {K : PySem.W.Frag} {mg : Str → Option Value} (T : Tx K mg) : Fun K "_law_flow" "_law_flow" s_law_flow T.a_law_flow T.fd_law_flow := T.d_law_flow.F
theorem Tx.g_law_flow {K : PySem.W.Frag} {mg : Str → Option Value} (T : Tx K mg) : mg "_law_flow" = some (.ref T.a_law_flow) := T.d_law_flow.g
theorem Tx.b_law_flow {K : PySem.W.Frag} {mg : Str → Option Value} (T : Tx K mg) : Binds K T.fd_law_flow ["_law_script", "_law_many"] [] := T.d_law_flow.b
abbrev Tx.a_law_whole {K : PySem.W.Frag} {mg : Str → Option Value} (T : Tx K mg) : Addr := T.d_law_whole.a
abbrev Tx.fd_law_whole {K : PySem.W.Frag} {mg : Str → Option Value} (T : Tx K mg) : FuncData := T.d_law_whole.fd
theorem Tx.F_law_whole {K : PySem.W.Frag} {mg : Str → Option Value} (T : Tx K mg) : Fun K "_law_whole" "_law_whole" s_law_whole T.a_law_whole T.fd_law_whole := T.d_law_whole.F
theorem Tx.g_law_whole {K : PySem.W.Frag} {mg : Str → Option Value} (T : Tx K mg) : mg "_law_whole" = some (.ref T.a_law_whole) := T.d_law_whole.g
theorem Tx.b_law_whole {K : PySem.W.Frag} {mg : Str → Option Value} (T : Tx K mg) : Binds K T.fd_law_whole ["_law_found"] [] := T.d_law_whole.b
abbrev Tx.a_law_low {K : PySem.W.Frag} {mg : Str → Option Value} (T : Tx K mg) : Addr := T.d_law_low.a
abbrev Tx.fd_law_low {K : PySem.W.Frag} {mg : Str → Option Value} (T : Tx K mg) : FuncData := T.d_law_low.fd
theorem Tx.F_law_low {K : PySem.W.Frag} {mg : Str → Option Value} (T : Tx K mg) : Fun K "_law_low" "_law_low" s_law_low T.a_law_low T.fd_law_low := T.d_law_low.F
theorem Tx.g_law_low {K : PySem.W.Frag} {mg : Str → Option Value} (T : Tx K mg) : mg "_law_low" = some (.ref T.a_law_low) := T.d_law_low.g
theorem Tx.b_law_low {K : PySem.W.Frag} {mg : Str → Option Value} (T : Tx K mg) : Binds K T.fd_law_low ["_law_top", "_law_bottom"] [] := T.d_law_low.b
abbrev Tx.a_law_add {K : PySem.W.Frag} {mg : Str → Option Value} (T : Tx K mg) : Addr := T.d_law_add.a
abbrev Tx.fd_law_add {K : PySem.W.Frag} {mg : Str → Option Value} (T : Tx K mg) : FuncData := T.d_law_add.fd
theorem Tx.F_law_add {K : PySem.W.Frag} {mg : Str → Option Value} (T : Tx K mg) : Fun K "_law_add" "_law_add" s_law_add T.a_law_add T.fd_law_add := T.d_law_add.F
theorem Tx.g_law_add {K : PySem.W.Frag} {mg : Str → Option Value} (T : Tx K mg) : mg "_law_add" = some (.ref T.a_law_add) := T.d_law_add.g
theorem Tx.b_law_add {K : PySem.W.Frag} {mg : Str → Option Value} (T : Tx K mg) : Binds K T.fd_law_add ["_law_one", "_law_other"] [] := T.d_law_add.b
abbrev Tx.a_law_mul {K : PySem.W.Frag} {mg : Str → Option Value} (T : Tx K mg) : Addr := T.d_law_mul.a
abbrev Tx.fd_law_mul {K : PySem.W.Frag} {mg : Str → Option Value} (T : Tx K mg) : FuncData := T.d_law_mul.fd
theorem Tx.F_law_mul {K : PySem.W.Frag} {mg : Str → Option Value} (T : Tx K mg) : Fun K "_law_mul" "_law_mul" s_law_mul T.a_law_mul T.fd_law_mul := T.d_law_mul.F
theorem Tx.g_law_mul {K : PySem.W.Frag} {mg : Str → Option Value} (T : Tx K mg) : mg "_law_mul" = some (.ref T.a_law_mul) := T.d_law_mul.g
theorem Tx.b_law_mul {K : PySem.W.Frag} {mg : Str → Option Value} (T : Tx K mg) : Binds K T.fd_law_mul ["_law_one", "_law_other"] [] := T.d_law_mul.b
abbrev Tx.a_law_div {K : PySem.W.Frag} {mg : Str → Option Value} (T : Tx K mg) : Addr := T.d_law_div.a
abbrev Tx.fd_law_div {K : PySem.W.Frag} {mg : Str → Option Value} (T : Tx K mg) : FuncData := T.d_law_div.fd
theorem Tx.F_law_div {K : PySem.W.Frag} {mg : Str → Option Value} (T : Tx K mg) : Fun K "_law_div" "_law_div" s_law_div T.a_law_div T.fd_law_div := T.d_law_div.F
theorem Tx.g_law_div {K : PySem.W.Frag} {mg : Str → Option Value} (T : Tx K mg) : mg "_law_div" = some (.ref T.a_law_div) := T.d_law_div.g
theorem Tx.b_law_div {K : PySem.W.Frag} {mg : Str → Option Value} (T : Tx K mg) : Binds K T.fd_law_div ["_law_one", "_law_other"] [] := T.d_law_div.b
abbrev Tx.a_law_part {K : PySem.W.Frag} {mg : Str → Option Value} (T : Tx K mg) : Addr := T.d_law_part.a
abbrev Tx.fd_law_part {K : PySem.W.Frag} {mg : Str → Option Value} (T : Tx K mg) : FuncData := T.d_law_part.fd
theorem Tx.F_law_part {K : PySem.W.Frag} {mg : Str → Option Value} (T : Tx K mg) : Fun K "_law_part" "_law_part" s_law_part T.a_law_part T.fd_law_part := T.d_law_part.F
theorem Tx.g_law_part {K : PySem.W.Frag} {mg : Str → Option Value} (T : Tx K mg) : mg "_law_part" = some (.ref T.a_law_part) := T.d_law_part.g
theorem Tx.b_law_part {K : PySem.W.Frag} {mg : Str → Option Value} (T : Tx K mg) : Binds K T.fd_law_part ["_law_found"] [] := T.d_law_part.b
abbrev Tx.a_law_size {K : PySem.W.Frag} {mg : Str → Option Value} (T : Tx K mg) : Addr := T.d_law_size.a
abbrev Tx.fd_law_size {K : PySem.W.Frag} {mg : Str → Option Value} (T : Tx K mg) : FuncData := T.d_law_size.fd
theorem Tx.F_law_size {K : PySem.W.Frag} {mg : Str → Option Value} (T : Tx K mg) : Fun K "_law_size" "_law_size" s_law_size T.a_law_size T.fd_law_size := T.d_law_size.F
theorem Tx.g_law_size {K : PySem.W.Frag} {mg : Str → Option Value} (T : Tx K mg) : mg "_law_size" = some (.ref T.a_law_size) := T.d_law_size.g
theorem Tx.b_law_size {K : PySem.W.Frag} {mg : Str → Option Value} (T : Tx K mg) : Binds K T.fd_law_size ["_law_one"] [] := T.d_law_size.b
abbrev Tx.a_law_row_times {K : PySem.W.Frag} {mg : Str → Option Value} (T : Tx K mg) : Addr := T.d_law_row_times.a
abbrev Tx.fd_law_row_times {K : PySem.W.Frag} {mg : Str → Option Value} (T : Tx K mg) : FuncData := T.d_law_row_times.fd
theorem Tx.F_law_row_times {K : PySem.W.Frag} {mg : Str → Option Value} (T : Tx K mg) : Fun K "_law_row_times" "_law_row_times" s_law_row_times T.a_law_row_times T.fd_law_row_times := T.d_law_row_times.F
theorem Tx.g_law_row_times {K : PySem.W.Frag} {mg : Str → Option Value} (T : Tx K mg) : mg "_law_row_times" = some (.ref T.a_law_row_times) := T.d_law_row_times.g
theorem Tx.b_law_row_times {K : PySem.W.Frag} {mg : Str → Option Value} (T : Tx K mg) : Binds K T.fd_law_row_times ["_law_one", "_law_other"] [] := T.d_law_row_times.b
abbrev Tx.a_law_settled {K : PySem.W.Frag} {mg : Str → Option Value} (T : Tx K mg) : Addr := T.d_law_settled.a
abbrev Tx.fd_law_settled {K : PySem.W.Frag} {mg : Str → Option Value} (T : Tx K mg) : FuncData := T.d_law_settled.fd
theorem Tx.F_law_settled {K : PySem.W.Frag} {mg : Str → Option Value} (T : Tx K mg) : Fun K "_law_settled" "_law_settled" s_law_settled T.a_law_settled T.fd_law_settled := T.d_law_settled.F
theorem Tx.g_law_settled {K : PySem.W.Frag} {mg : Str → Option Value} (T : Tx K mg) : mg "_law_settled" = some (.ref T.a_law_settled) := T.d_law_settled.g
theorem Tx.b_law_settled {K : PySem.W.Frag} {mg : Str → Option Value} (T : Tx K mg) : Binds K T.fd_law_settled ["_law_terms"] [] := T.d_law_settled.b
abbrev Tx.a_law_times {K : PySem.W.Frag} {mg : Str → Option Value} (T : Tx K mg) : Addr := T.d_law_times.a
abbrev Tx.fd_law_times {K : PySem.W.Frag} {mg : Str → Option Value} (T : Tx K mg) : FuncData := T.d_law_times.fd
theorem Tx.F_law_times {K : PySem.W.Frag} {mg : Str → Option Value} (T : Tx K mg) : Fun K "_law_times" "_law_times" s_law_times T.a_law_times T.fd_law_times := T.d_law_times.F
theorem Tx.g_law_times {K : PySem.W.Frag} {mg : Str → Option Value} (T : Tx K mg) : mg "_law_times" = some (.ref T.a_law_times) := T.d_law_times.g
theorem Tx.b_law_times {K : PySem.W.Frag} {mg : Str → Option Value} (T : Tx K mg) : Binds K T.fd_law_times ["_law_one", "_law_other"] [] := T.d_law_times.b
abbrev Tx.a_law_draw_sum {K : PySem.W.Frag} {mg : Str → Option Value} (T : Tx K mg) : Addr := T.d_law_draw_sum.a
abbrev Tx.fd_law_draw_sum {K : PySem.W.Frag} {mg : Str → Option Value} (T : Tx K mg) : FuncData := T.d_law_draw_sum.fd
theorem Tx.F_law_draw_sum {K : PySem.W.Frag} {mg : Str → Option Value} (T : Tx K mg) : Fun K "_law_draw_sum" "_law_draw_sum" s_law_draw_sum T.a_law_draw_sum T.fd_law_draw_sum := T.d_law_draw_sum.F
theorem Tx.g_law_draw_sum {K : PySem.W.Frag} {mg : Str → Option Value} (T : Tx K mg) : mg "_law_draw_sum" = some (.ref T.a_law_draw_sum) := T.d_law_draw_sum.g
theorem Tx.b_law_draw_sum {K : PySem.W.Frag} {mg : Str → Option Value} (T : Tx K mg) : Binds K T.fd_law_draw_sum ["_law_row", "_law_terms", "_law_marks"] [] := T.d_law_draw_sum.b
abbrev Tx.a_law_worth {K : PySem.W.Frag} {mg : Str → Option Value} (T : Tx K mg) : Addr := T.d_law_worth.a
abbrev Tx.fd_law_worth {K : PySem.W.Frag} {mg : Str → Option Value} (T : Tx K mg) : FuncData := T.d_law_worth.fd
theorem Tx.F_law_worth {K : PySem.W.Frag} {mg : Str → Option Value} (T : Tx K mg) : Fun K "_law_worth" "_law_worth" s_law_worth T.a_law_worth T.fd_law_worth := T.d_law_worth.F
theorem Tx.g_law_worth {K : PySem.W.Frag} {mg : Str → Option Value} (T : Tx K mg) : mg "_law_worth" = some (.ref T.a_law_worth) := T.d_law_worth.g
theorem Tx.b_law_worth {K : PySem.W.Frag} {mg : Str → Option Value} (T : Tx K mg) : Binds K T.fd_law_worth ["_law_one", "_law_lengths"] [] := T.d_law_worth.b
abbrev Tx.a_law {K : PySem.W.Frag} {mg : Str → Option Value} (T : Tx K mg) : Addr := T.d_law.a
abbrev Tx.fd_law {K : PySem.W.Frag} {mg : Str → Option Value} (T : Tx K mg) : FuncData := T.d_law.fd
theorem Tx.F_law {K : PySem.W.Frag} {mg : Str → Option Value} (T : Tx K mg) : Fun K "law" "law" s_law T.a_law T.fd_law := T.d_law.F
theorem Tx.g_law {K : PySem.W.Frag} {mg : Str → Option Value} (T : Tx K mg) : mg "law" = some (.ref T.a_law) := T.d_law.g
abbrev Tx.c_NoFraction {K : PySem.W.Frag} {mg : Str → Option Value} (T : Tx K mg) : Addr := T.e_NoFraction.c
theorem Tx.g_NoFraction {K : PySem.W.Frag} {mg : Str → Option Value} (T : Tx K mg) : mg "NoFraction" = some (.ref T.c_NoFraction) := T.e_NoFraction.g
theorem Tx.x_NoFraction {K : PySem.W.Frag} {mg : Str → Option Value} (T : Tx K mg) : PySem.W.excIn K T.c_NoFraction [.type "ValueError", .type "Exception", .type "BaseException", .type "object"] "ValueError.__new__" = true := T.e_NoFraction.x
theorem Tx.k_NoFraction {K : PySem.W.Frag} {mg : Str → Option Value} (T : Tx K mg) : PySem.W.keepIn K (.ref T.c_NoFraction) = true := T.e_NoFraction.k
theorem Tx.b_NoFraction {K : PySem.W.Frag} {mg : Str → Option Value} (T : Tx K mg) : PySem.W.subIn K (.ref T.c_NoFraction) (.type "BaseException") = some true := T.e_NoFraction.b
theorem Tx.t_NoFraction {K : PySem.W.Frag} {mg : Str → Option Value} (T : Tx K mg) : PySem.W.typeIn K (.ref T.c_NoFraction) = some (.type "type") := T.e_NoFraction.t
abbrev Tx.c_NoLetter {K : PySem.W.Frag} {mg : Str → Option Value} (T : Tx K mg) : Addr := T.e_NoLetter.c
theorem Tx.g_NoLetter {K : PySem.W.Frag} {mg : Str → Option Value} (T : Tx K mg) : mg "NoLetter" = some (.ref T.c_NoLetter) := T.e_NoLetter.g
theorem Tx.x_NoLetter {K : PySem.W.Frag} {mg : Str → Option Value} (T : Tx K mg) : PySem.W.excIn K T.c_NoLetter [.type "ValueError", .type "Exception", .type "BaseException", .type "object"] "ValueError.__new__" = true := T.e_NoLetter.x
theorem Tx.k_NoLetter {K : PySem.W.Frag} {mg : Str → Option Value} (T : Tx K mg) : PySem.W.keepIn K (.ref T.c_NoLetter) = true := T.e_NoLetter.k
theorem Tx.b_NoLetter {K : PySem.W.Frag} {mg : Str → Option Value} (T : Tx K mg) : PySem.W.subIn K (.ref T.c_NoLetter) (.type "BaseException") = some true := T.e_NoLetter.b
theorem Tx.t_NoLetter {K : PySem.W.Frag} {mg : Str → Option Value} (T : Tx K mg) : PySem.W.typeIn K (.ref T.c_NoLetter) = some (.type "type") := T.e_NoLetter.t
abbrev Tx.c_MeadError {K : PySem.W.Frag} {mg : Str → Option Value} (T : Tx K mg) : Addr := T.e_MeadError.c
theorem Tx.g_MeadError {K : PySem.W.Frag} {mg : Str → Option Value} (T : Tx K mg) : mg "MeadError" = some (.ref T.c_MeadError) := T.e_MeadError.g
theorem Tx.exc_NoLetter {K : PySem.W.Frag} {mg : Str → Option Value} (T : Tx K mg) : ExcC K T.c_NoLetter := ⟨T.ex1_NoLetter, T.ex2_NoLetter, T.b_NoLetter, T.ex3_NoLetter, T.ex4_NoLetter, T.ex5_NoLetter, T.ex6_NoLetter, T.ex7_NoLetter⟩
def spFlow (K : PySem.W.Frag) : Sp := fun vs H Q _ => ∃ (a : Addr) (ns : List Int) (m : Nat), vs = [.ref a, .int m] ∧ SqL K H a (ns.map V.int) ∧ m ≤ 100000 ∧
  ∀ (row : List Int) (H' : Hp) (p : Addr), row.length = m → (∀ x ∈ row, 0 ≤ x ∧ x < 1000000) → Same H H' → H p = none → H' p = some (.lst (row.map V.int)) → Q (.ref p) H'
theorem flow_more {row : List Int} {x : Int} (h : ∀ x ∈ row, 0 ≤ x ∧ x < 1000000) (h0 : 0 ≤ x) (h1 : x < 1000000) : ∀ y ∈ row ++ [x], 0 ≤ y ∧ y < 1000000 := fun y hy => by
  rcases List.mem_append.mp hy with q | q
  · exact h y q
  · rw [List.mem_singleton.mp q]; exact ⟨h0, h1⟩
section
variable {P : Program} {w : World} {K : PySem.W.Frag} {mg : Str → Option Value} {base : Heap}
theorem ok_law_flow (T : Tx K mg) : FnOk P w K mg base CX0 1 T.a_law_flow T.fd_law_flow ["_law_script", "_law_many"] (spFlow K) := by
  refine T.F_law_flow.ok sc_law_flow (fun vs H Q E h => ?_) (fun cdv A outer s H vs Q E hr h => ?_)
  · obtain ⟨a, ns, m, rfl, _⟩ := h
    rfl
  obtain ⟨a, ns, m, rfl, hS, hm, q⟩ := h
  refine ⟨_, (pss_cons (ps_set (i := 2) sc_law_flow.nd rfl (.inl rfl) (pe_int))
      (C8.pss_cut (ps_if (PW.pt (pw_and (pt_cmpR op_gt (pe_callB (c_len (K := K)) (by rfl) T.m_len PySem.boot_len (pa_cons (pv 0) pa_nil)) (pe_int) (nomark _)) (pw_and1 (pt_cmpR op_ge (pe_callB c_abs (by rfl) T.m_abs (by decide +kernel) (pa_cons (pe_ix (ix_listK (K := K)) (pv 0) (pe_int) (fun _ _ => rfl)) pa_nil)) (pe_op op_pow (pe_int) (pe_int)) (nomark _))))) (pss_one (ps_set (i := 2) sc_law_flow.nd rfl (.inl rfl) (pe_op op_sub (pe_callB c_abs (by rfl) T.m_abs (by decide +kernel) (pa_cons (pe_ix (ix_listK (K := K)) (pv 0) (pe_int) (fun _ _ => rfl)) pa_nil)) (pe_op op_pow (pe_int) (pe_int))))) pss_nil)
      (pss_cons (ps_set (i := 3) sc_law_flow.nd rfl (.inl rfl) (pe_lst pa_nil))
      (pss_cons (ps_for PassesOwn.never rfl (pi_range1 (by rfl) T.m_range (pa_cons (pv 1) pa_nil)) (pg_name (i := 4) sc_law_flow.nd rfl (.inl rfl)) (pss_one (ps_if (pt_cmpR op_gt (pv 2) (pe_int) (nomark _)) (pss_cons (ps_expr (k_bm (K := K) (pe_bm PySem.F.plainAttrs_list PySem.F.slot_list_append PySem.F.type_list_append mt_append (pv 3) (pa_cons (pe_op op_mod (pv 2) (pe_int)) pa_nil))))
      (pss_one (ps_set (i := 2) sc_law_flow.nd rfl (.inl rfl) (pe_op op_fdiv (pv 2) (pe_int))))) (pss_cons (ps_set (i := 5) sc_law_flow.nd rfl (.inl rfl) (pe_op op_add (pv 4) (pe_int)))
      (C8.pss_cut (ps_if (pt_cmpR op_gt (pe_callB (c_len (K := K)) (by rfl) T.m_len PySem.boot_len (pa_cons (pv 0) pa_nil)) (pe_int) (nomark _)) (pss_one (ps_set (i := 5) sc_law_flow.nd rfl (.inl rfl) (pe_ix (ix_listK (K := K)) (pv 0) (pe_op op_mod (pv 4) (pe_callB (c_len (K := K)) (by rfl) T.m_len PySem.boot_len (pa_cons (pv 0) pa_nil))) (fun _ _ => rfl)))) pss_nil)
      (pss_cons (ps_set (i := 6) sc_law_flow.nd rfl (.inl rfl) (pe_op op_mod (pe_op op_add (pe_op op_add (pe_op op_mul (pv 5) (pe_int)) (pe_op op_mul (pv 4) (pe_int))) (pe_int)) (pe_int)))
      (pss_cons (ps_set (i := 6) sc_law_flow.nd rfl (.inl rfl) (pe_op op_mod (pe_op op_add (pe_op op_add (pe_op op_mul (pv 6) (pe_int)) (pe_op op_mul (pv 4) (pe_int))) (pe_callB (c_len (K := K)) (by rfl) T.m_len PySem.boot_len (pa_cons (pv 0) pa_nil))) (pe_int)))
      (pss_one (ps_expr (k_bm (K := K) (pe_bm PySem.F.plainAttrs_list PySem.F.slot_list_append PySem.F.type_list_append mt_append (pv 3) (pa_cons (pe_op op_mod (pe_op op_fdiv (pv 6) (pe_int)) (pe_int)) pa_nil))))))))))))
      (pss_one (ps_ret (pv 3))))))), ?_⟩
  walk_at "st"
  have hl : (ns.map V.int).length = ns.length := List.length_map _
  refine Pm.w_cut (fun σ' H' => ∃ g : Int, σ' = [some (.ref a), some (.int m), some (.int g), none, none, none, none] ∧ H' = H) ?_ ?_
  · walk_at "st"
    refine Pm.w_len (.inl hS) ?_
    walk_at "st"
    refine Pm.w_ite (fun c => ?_) (fun c => ?_)
    · rw [hl] at c
      walk_at "st"
      refine Pm.w_ixL hS (atI_int (by omega) (by omega)) ?_
      walk_at "st"
      refine Pm.w_ite (fun c => ?_) (fun c => ?_)
      · walk_at "st"
        refine Pm.w_ixL hS (atI_int (by omega) (by omega)) ?_
        walk_at "st"
        exact ⟨_, rfl, rfl⟩
      · walk_at "st"
        exact ⟨_, rfl, rfl⟩
    · walk_at "st"
      exact ⟨_, rfl, rfl⟩
  rintro σ H' ⟨g, rfl, rfl⟩
  walk_at "st"
  refine Pm.w_newL (fun p hp => ?_)
  walk_at "st"
  rw [Int.toNat_natCast]
  refine Pm.w_forR (fun i σ H2 => ∃ (g : Int) (row : List Int) (x4 x5 x6 : Option V), σ = [some (.ref a), some (.int m), some (.int g), some (.ref p), x4, x5, x6] ∧
    row.length = i ∧ (∀ x ∈ row, 0 ≤ x ∧ x < 1000000) ∧ H2 = upd H' p (.lst (row.map V.int))) ?_ ?_ ?_
  · exact ⟨g, [], none, none, none, rfl, rfl, fun x hx => absurd hx (List.not_mem_nil), rfl⟩
  · rintro i σ H2 hi ⟨g, row, x4, x5, x6, rfl, hrow, hb, rfl⟩
    have hS2 : SqL K (upd H' p (.lst (row.map V.int))) a (ns.map V.int) := (same_new hp _).seq hS
    have hz : (row.map V.int).length < sizeLine := by rw [List.length_map]; exact size_lt (by omega)
    have fin : ∀ x : Int, upd (upd H' p (.lst (row.map V.int))) p (.lst (row.map V.int ++ [.int x])) = upd H' p (.lst ((row ++ [x]).map V.int)) := fun x => by rw [upd_upd, List.map_append] <;> rfl
    walk_at "st"
    refine Pm.w_ite (fun c => ?_) (fun c => ?_)
    · walk_at "st"
      refine ⟨.inl ⟨rfl, _, SqL.of upd_same⟩, ?_⟩
      walk_at "st"
      refine Pm.w_append upd_same hz ?_
      walk_at "st"
      refine ⟨_, row ++ [g % 1000000], _, _, _, rfl, by rw [List.length_append, hrow] <;> rfl, flow_more hb (by omega) (by omega), fin _⟩
    · walk_at "st"
      refine Pm.w_cut (fun σ' H3 => ∃ cell : Int, σ' = [some (.ref a), some (.int m), some (.int g), some (.ref p), some (.int (0 + (i : Nat))), some (.int cell), x6] ∧ H3 = upd H' p (.lst (row.map V.int))) ?_ ?_
      · walk_at "st"
        refine Pm.w_len (.inl hS2) ?_
        walk_at "st"
        refine Pm.w_ite (fun c => ?_) (fun c => ?_)
        · rw [hl] at c
          walk_at "st"
          refine Pm.w_len (.inl hS2) ?_
          rw [hl]
          walk_at "st"
          refine Pm.w_ixL hS2 (atI_int (Int.emod_nonneg _ (by omega)) (Int.emod_lt_of_pos _ (by omega))) ?_
          walk_at "st"
          exact ⟨_, rfl, rfl⟩
        · walk_at "st"
          exact ⟨_, rfl, rfl⟩
      · rintro σ H3 ⟨cell, rfl, rfl⟩
        walk_at "st"
        refine Pm.w_len (.inl hS2) ?_
        walk_at "st"
        refine ⟨.inl ⟨rfl, _, SqL.of upd_same⟩, ?_⟩
        walk_at "st"
        refine Pm.w_append upd_same hz ?_
        walk_at "st"
        refine ⟨_, row ++ [_], _, _, _, rfl, by rw [List.length_append, hrow] <;> rfl, flow_more hb (Int.emod_nonneg _ (by decide)) (Int.emod_lt_of_pos _ (by decide)), fin _⟩
  · rintro σ H2 ⟨g, row, x4, x5, x6, rfl, hrow, hb, rfl⟩
    walk_at "st"
    exact q row _ p hrow hb (same_new hp _) hp upd_same
end
section
variable {P : Program} {w : World} {K : PySem.W.Frag} {mg : Str → Option Value} {base : Heap}
def spWhole : Sp := fun vs H Q _ => ∃ i : Int, vs = [.int i] ∧ Q (.bl true) H
theorem ok_law_whole (T : Tx K mg) : FnOk P w K mg base CX0 1 T.a_law_whole T.fd_law_whole ["_law_found"] spWhole := by
  refine T.F_law_whole.ok sc_law_whole (fun vs H Q E h => ?_) (fun cdv A outer s H vs Q E hr h => ?_)
  · obtain ⟨i, rfl, _⟩ := h
    rfl
  obtain ⟨i, rfl, q⟩ := h
  refine ⟨_, (pss_one (ps_ret ((pe_and (pe_callB (call_isK (K := K)) (by rfl) T.m_isinstance (by decide +kernel) (pa_cons (pv 0) (pa_cons (pe_bltn (v := .ty "int") (by rfl) T.m_int (by decide +kernel) rfl) pa_nil))) (pe_one (pe_not (pe_callB (call_isK (K := K)) (by rfl) T.m_isinstance (by decide +kernel) (pa_cons (pv 0) (pa_cons (pe_bltn (v := .ty "bool") (by rfl) T.m_bool (by decide +kernel) rfl) pa_nil))))))))), ?_⟩
  walk_at "st"
  refine Pm.w_isiInt (b := true) (by decide +kernel) ?_
  walk_at "st"
  refine Pm.w_isiInt (b := false) (by decide +kernel) ?_
  walk_at "st"
  exact q
end
section
variable {P : Program} {w : World} {K : PySem.W.Frag} {mg : Str → Option Value} {base : Heap}
def spMeasure : Sp := fun vs H Q _ => ∃ a b : Int, vs = [.int a, .int b] ∧ Q (.int ((Int.gcd a b : Nat) : Int)) H
theorem ok_measure (T : Tx K mg) : FnOk P w K mg base CX0 1 T.a_measure T.fd_measure ["one", "other"] spMeasure := by
  refine T.F_measure.ok sc_measure (fun vs H Q E h => ?_) (fun cdv A outer s H vs Q E hr h => ?_)
  · obtain ⟨a, b, rfl, _⟩ := h
    rfl
  obtain ⟨a, b, rfl, q⟩ := h
  refine ⟨_, (pss_cons (ps_set (i := 0) sc_measure.nd rfl (.inl rfl) (pe_callB c_abs (by rfl) T.m_abs (by decide +kernel) (pa_cons (pv 0) pa_nil)))
      (pss_cons (ps_set (i := 1) sc_measure.nd rfl (.inl rfl) (pe_callB c_abs (by rfl) T.m_abs (by decide +kernel) (pa_cons (pv 1) pa_nil)))
      (pss_cons (ps_while PassesOwn.never (pt_cmpR op_gt (pv 1) (pe_int) (nomark _)) (pss_one (ps_par (i := 0) (j := 1) (by rfl) sc_measure.nd rfl rfl (by decide) rfl rfl (pa_cons (pv 1) (pa_cons (pe_op op_mod (pv 0) (pv 1)) pa_nil)) (by rfl))))
      (pss_one (ps_ret (pv 0)))))), ?_⟩
  walk_at "st"
  refine Pm.w_while (fun m σ H' => ∃ x y : Nat, σ = [some (.int x), some (.int y)] ∧ m = y ∧ Nat.gcd x y = Int.gcd a b ∧ H' = H) _ ⟨(if a < 0 then -a else a).natAbs, (if b < 0 then -b else b).natAbs, ?_, rfl, gcd_abs a b, rfl⟩ ?_
  · have e : ∀ c : Int, (if c < 0 then -c else c) = (((if c < 0 then -c else c).natAbs : Nat) : Int) := fun c => by split <;> omega
    show [some (V.int (if a < 0 then -a else a)), some (V.int (if b < 0 then -b else b))] = _
    rw [← e a, ← e b]
  · rintro m σ H' ⟨x, y, rfl, rfl, hg, rfl⟩
    walk_at "st"
    refine Pm.w_wh (fun c => ?_) (fun c => ?_)
    · walk_at "st"
      exact ⟨_, Nat.mod_lt x (by omega), m, x % m, rfl, rfl, by rw [gcd_turn x m (by omega)]; exact hg, rfl⟩
    · have e : m = 0 := by omega
      subst e
      rw [Nat.gcd_zero_right] at hg
      rw [hg]
      walk_at "st"
      exact q
def spLowest (C : Addr) : Sp := fun vs H Q E => ∃ (a b : Int) (n : Nat), vs = [.int a, .int b] ∧ b.natAbs < 2 ^ n ∧ n ≤ 9000 ∧ (b = 0 → E (.ref C) none H) ∧ (b ≠ 0 → FrNew H (Rat.divInt a b) Q)
theorem ok_lowest (T : Tx K mg) : FnOk P w K mg base (L2.CX P w) 2 T.a_lowest T.fd_lowest ["top", "bottom"] (spLowest T.c_NoFraction) := by
  refine T.F_lowest.okX sc_lowest (fun vs H Q E h => ?_) (fun cdv A outer s H vs Q E hr h => ?_)
  · obtain ⟨a, b, n, rfl, _⟩ := h
    rfl
  obtain ⟨a, b, n, rfl, hn, hn9, hE, q⟩ := h
  refine ⟨_, (pss_cons (ps_if (pt_cmpR op_eq (pv 1) (pe_int) (nomark _)) (pss_one (ps_raise rfl (takes_of rfl rfl rfl rfl) (pmk_own PySem.F.excBase_ValueError T.x_NoFraction T.g_NoFraction T.k_NoFraction (raises_own T.b_NoFraction T.t_NoFraction) rfl))) pss_nil)
      (C8.pss_cut (ps_if (pt_cmpR op_lt (pv 1) (pe_int) (nomark _)) (pss_cons (ps_set (i := 0) sc_lowest.nd rfl (.inl rfl) (pe_un un_neg (pv 0)))
      (pss_one (ps_set (i := 1) sc_lowest.nd rfl (.inl rfl) (pe_un un_neg (pv 1))))) pss_nil)
      (pss_cons (ps_set (i := 2) sc_lowest.nd rfl (.inl rfl) (pe_call (ok_measure T) (hr.mono (by decide)) (by rfl) T.g_measure T.F_measure.kp T.b_measure .nil pass0 (pa_cons (pv 0) (pa_cons (pv 1) pa_nil))))
      (pss_one (ps_ret (pe_tup (pa_cons (pe_op op_fdivW (pv 0) (pv 2)) (pa_cons (pe_op op_fdivW (pv 1) (pv 2)) pa_nil)))))))), ?_⟩
  walk_at "st"
  refine Pm.w_ite (fun c => ?_) (fun c => ?_)
  · exact hE c
  · walk_at "st"
    refine Pm.w_cut (fun σ' H' => ∃ a' b' : Int, σ' = [some (.int a'), some (.int b'), none] ∧ H' = H ∧ 0 < b' ∧ b'.natAbs < 2 ^ n ∧ Rat.divInt a' b' = Rat.divInt a b) ?_ ?_
    · walk_at "st"
      refine Pm.w_ite (fun d => ?_) (fun d => ?_)
      · walk_at "st"
        exact ⟨-a, -b, rfl, rfl, by omega, by omega, Rat.neg_divInt_neg a b⟩
      · walk_at "st"
        exact ⟨a, b, rfl, rfl, by omega, hn, rfl⟩
    · rintro σ H' ⟨a', b', rfl, rfl, hb, hn, e⟩
      have g0 : 0 < ((Int.gcd a' b' : Nat) : Int) := gcd_pos (by omega)
      have g1 := gcd_le_right (a := a') hb
      have n0 : 0 < n := by
        rcases Nat.eq_zero_or_pos n with z | z
        · subst z
          exact absurd hn (by omega)
        · exact z
      have hd : ∀ i : Int, CDivW i ((Int.gcd a' b' : Nat) : Int) := fun i => wide_div g0 (Nat.lt_of_le_of_lt (by omega) hn) n0 hn9
      walk_at "st"
      refine ⟨a', b', rfl, ?_⟩
      walk_at "st"
      refine Pm.w_i (hd _) ?_
      walk_at "st"
      refine Pm.w_i (hd _) ?_
      walk_at "st"
      refine Pm.w_newT (fun t ht => ?_)
      have z := div_pos_num (a := a') hb
      rw [z.1, z.2, e]
      exact q c t _ (same_new ht _) ht upd_same
end
section
variable {P : Program} {w : World} {K : PySem.W.Frag} {mg : Str → Option Value} {base : Heap}
def spTimes (K : PySem.W.Frag) : Sp := fun vs H Q _ => ∃ (t u : Addr) (x y : Rat) (n m : Nat), vs = [.ref t, .ref u] ∧ SqT K H t [.int x.num, .int x.den] ∧ SqT K H u [.int y.num, .int y.den] ∧ rb x n ∧ rb y m ∧ n + m ≤ 9000 ∧ FrNew H (x * y) Q
theorem ok_times (T : Tx K mg) : FnOk P w K mg base CX0 3 T.a_times T.fd_times ["one", "other"] (spTimes K) := by
  refine T.F_times.ok sc_times (fun vs H Q E h => ?_) (fun cdv A outer s H vs Q E hr h => ?_)
  · obtain ⟨t, u, x, y, n, m, rfl, _⟩ := h
    rfl
  obtain ⟨t, u, x, y, n, m, rfl, ht, hu, bx, byy, hnm, q⟩ := h
  refine ⟨_, (pss_one (ps_ret (pe_call (ok_lowest T) (hr.mono (by decide)) (by rfl) T.g_lowest T.F_lowest.kp T.b_lowest .nil passL (pa_cons (pe_op op_mulW (pe_ix (ix_tupK (K := K)) (pv 0) (pe_int) (fun _ _ => rfl)) (pe_ix (ix_tupK (K := K)) (pv 1) (pe_int) (fun _ _ => rfl))) (pa_cons (pe_op op_mulW (pe_ix (ix_tupK (K := K)) (pv 0) (pe_int) (fun _ _ => rfl)) (pe_ix (ix_tupK (K := K)) (pv 1) (pe_int) (fun _ _ => rfl))) pa_nil))))), ?_⟩
  have n0 := rb_pos bx
  have m0 := rb_pos byy
  walk_at "st"
  refine Pm.w_ixT ht (atI2 _ _).1 ?_
  walk_at "st"
  refine Pm.w_ixT hu (atI2 _ _).1 ?_
  walk_at "st"
  refine Pm.w_i (wide_mul bx.1 byy.1 n0 m0 (by omega)) ?_
  walk_at "st"
  refine Pm.w_ixT ht (atI2 _ _).2 ?_
  walk_at "st"
  refine Pm.w_ixT hu (atI2 _ _).2 ?_
  walk_at "st"
  refine Pm.w_i (wide_mul (rb_den bx) (rb_den byy) n0 m0 (by omega)) ?_
  walk_at "st"
  refine ⟨_, _, n + m, rfl, wide_lt (rb_den bx) (rb_den byy), hnm, fun z => absurd z (den_mul x y), fun _ => ?_⟩
  rw [times_is]
  exact q
end
section
variable {P : Program} {w : World} {K : PySem.W.Frag} {mg : Str → Option Value} {base : Heap}
def spOver (K : PySem.W.Frag) (C : Addr) : Sp := fun vs H Q E => ∃ (t u : Addr) (x y : Rat) (n m : Nat), vs = [.ref t, .ref u] ∧ SqT K H t [.int x.num, .int x.den] ∧ SqT K H u [.int y.num, .int y.den] ∧ rb x n ∧ rb y m ∧ n + m ≤ 9000 ∧
  (y = 0 → E (.ref C) none H) ∧ (y ≠ 0 → FrNew H (x / y) Q)
theorem ok_over (T : Tx K mg) : FnOk P w K mg base (L2.CX P w) 3 T.a_over T.fd_over ["one", "other"] (spOver K T.c_NoFraction) := by
  refine T.F_over.okX sc_over (fun vs H Q E h => ?_) (fun cdv A outer s H vs Q E hr h => ?_)
  · obtain ⟨t, u, x, y, n, m, rfl, _⟩ := h
    rfl
  obtain ⟨t, u, x, y, n, m, rfl, ht, hu, bx, byy, hnm, hE, q⟩ := h
  refine ⟨_, (pss_cons (ps_if (pt_cmpR op_eq (pe_ix (ix_tupK (K := K)) (pv 1) (pe_int) (fun _ _ => rfl)) (pe_int) (nomark _)) (pss_one (ps_raise rfl (takes_of rfl rfl rfl rfl) (pmk_own PySem.F.excBase_ValueError T.x_NoFraction T.g_NoFraction T.k_NoFraction (raises_own T.b_NoFraction T.t_NoFraction) rfl))) pss_nil)
      (pss_one (ps_ret (pe_call (ok_lowest T) (hr.mono (by decide)) (by rfl) T.g_lowest T.F_lowest.kp T.b_lowest .nil (passes_call (takes_of rfl rfl rfl rfl) (fun _ _ _ _ h => h)) (pa_cons (pe_op op_mulW (pe_ix (ix_tupK (K := K)) (pv 0) (pe_int) (fun _ _ => rfl)) (pe_ix (ix_tupK (K := K)) (pv 1) (pe_int) (fun _ _ => rfl))) (pa_cons (pe_op op_mulW (pe_ix (ix_tupK (K := K)) (pv 0) (pe_int) (fun _ _ => rfl)) (pe_ix (ix_tupK (K := K)) (pv 1) (pe_int) (fun _ _ => rfl))) pa_nil)))))), ?_⟩
  have n0 := rb_pos bx
  have m0 := rb_pos byy
  walk_at "st"
  refine Pm.w_ixT hu (atI2 _ _).1 ?_
  walk_at "st"
  refine Pm.w_ite (fun e => ?_) (fun e => ?_)
  · exact hE (Rat.num_eq_zero.mp e)
  have e2 : y ≠ 0 := fun z => e (Rat.num_eq_zero.mpr z)
  walk_at "st"
  refine Pm.w_ixT ht (atI2 _ _).1 ?_
  walk_at "st"
  refine Pm.w_ixT hu (atI2 _ _).2 ?_
  walk_at "st"
  refine Pm.w_i (wide_mul bx.1 (rb_den byy) n0 m0 (by omega)) ?_
  walk_at "st"
  refine Pm.w_ixT ht (atI2 _ _).2 ?_
  walk_at "st"
  refine Pm.w_ixT hu (atI2 _ _).1 ?_
  walk_at "st"
  refine Pm.w_i (wide_mul (rb_den bx) byy.1 n0 m0 (by omega)) ?_
  walk_at "st"
  refine ⟨_, _, n + m, rfl, wide_lt (rb_den bx) byy.1, hnm, fun z => absurd z (Int.mul_ne_zero (den_ne x) e), fun _ => ?_⟩
  rw [over_is]
  exact q e2
end
section
variable {P : Program} {w : World} {K : PySem.W.Frag} {mg : Str → Option Value} {base : Heap}
def spPlus (K : PySem.W.Frag) : Sp := fun vs H Q _ => ∃ (t u : Addr) (x y : Rat) (n m : Nat), vs = [.ref t, .ref u] ∧ SqT K H t [.int x.num, .int x.den] ∧ SqT K H u [.int y.num, .int y.den] ∧ rb x n ∧ rb y m ∧ n + m ≤ 9000 ∧ FrNew H (x + y) Q
theorem ok_plus (T : Tx K mg) : FnOk P w K mg base CX0 3 T.a_plus T.fd_plus ["one", "other"] (spPlus K) := by
  refine T.F_plus.ok sc_plus (fun vs H Q E h => ?_) (fun cdv A outer s H vs Q E hr h => ?_)
  · obtain ⟨t, u, x, y, n, m, rfl, _⟩ := h
    rfl
  obtain ⟨t, u, x, y, n, m, rfl, ht, hu, bx, byy, hnm, q⟩ := h
  refine ⟨_, (pss_one (ps_ret (pe_call (ok_lowest T) (hr.mono (by decide)) (by rfl) T.g_lowest T.F_lowest.kp T.b_lowest .nil passL (pa_cons (pe_op op_add (pe_op op_mulW (pe_ix (ix_tupK (K := K)) (pv 0) (pe_int) (fun _ _ => rfl)) (pe_ix (ix_tupK (K := K)) (pv 1) (pe_int) (fun _ _ => rfl))) (pe_op op_mulW (pe_ix (ix_tupK (K := K)) (pv 1) (pe_int) (fun _ _ => rfl)) (pe_ix (ix_tupK (K := K)) (pv 0) (pe_int) (fun _ _ => rfl)))) (pa_cons (pe_op op_mulW (pe_ix (ix_tupK (K := K)) (pv 0) (pe_int) (fun _ _ => rfl)) (pe_ix (ix_tupK (K := K)) (pv 1) (pe_int) (fun _ _ => rfl))) pa_nil))))), ?_⟩
  have n0 := rb_pos bx
  have m0 := rb_pos byy
  walk_at "st"
  refine Pm.w_ixT ht (atI2 _ _).1 ?_
  walk_at "st"
  refine Pm.w_ixT hu (atI2 _ _).2 ?_
  walk_at "st"
  refine Pm.w_i (wide_mul bx.1 (rb_den byy) n0 m0 (by omega)) ?_
  walk_at "st"
  refine Pm.w_ixT hu (atI2 _ _).1 ?_
  walk_at "st"
  refine Pm.w_ixT ht (atI2 _ _).2 ?_
  walk_at "st"
  refine Pm.w_i (wide_mul byy.1 (rb_den bx) m0 n0 (by omega)) ?_
  walk_at "st"
  refine Pm.w_ixT ht (atI2 _ _).2 ?_
  walk_at "st"
  refine Pm.w_ixT hu (atI2 _ _).2 ?_
  walk_at "st"
  refine Pm.w_i (wide_mul (rb_den bx) (rb_den byy) n0 m0 (by omega)) ?_
  walk_at "st"
  refine ⟨_, _, n + m, rfl, wide_lt (rb_den bx) (rb_den byy), hnm, fun z => absurd z (den_mul x y), fun _ => ?_⟩
  rw [plus_is]
  exact q
end
section
variable {P : Program} {w : World} {K : PySem.W.Frag} {mg : Str → Option Value} {base : Heap}
def spLow : Sp := fun vs H Q _ => ∃ (a b : Int) (n : Nat), vs = [.int a, .int b] ∧ b ≠ 0 ∧ b.natAbs < 2 ^ n ∧ n ≤ 9000 ∧ FrNew H (Rat.divInt a b) Q
theorem ok_law_low (T : Tx K mg) : FnOk P w K mg base CX0 1 T.a_law_low T.fd_law_low ["_law_top", "_law_bottom"] spLow := by
  refine T.F_law_low.ok sc_law_low (fun vs H Q E h => ?_) (fun cdv A outer s H vs Q E hr h => ?_)
  · obtain ⟨a, b, n, rfl, _⟩ := h
    rfl
  obtain ⟨a, b, n, rfl, hb, hn, hn9, q⟩ := h
  refine ⟨_, (pss_cons (ps_set (i := 2) sc_law_low.nd rfl (.inl rfl) (pe_callB c_abs (by rfl) T.m_abs (by decide +kernel) (pa_cons (pv 0) pa_nil)))
      (pss_cons (ps_set (i := 3) sc_law_low.nd rfl (.inl rfl) (pe_callB c_abs (by rfl) T.m_abs (by decide +kernel) (pa_cons (pv 1) pa_nil)))
      (pss_cons (ps_while PassesOwn.never (pt_cmpR op_gt (pv 3) (pe_int) (nomark _)) (pss_one (ps_par (i := 2) (j := 3) (by rfl) sc_law_low.nd rfl rfl (by decide) rfl rfl (pa_cons (pv 3) (pa_cons (pe_op op_mod (pv 2) (pv 3)) pa_nil)) (by rfl))))
      (C8.pss_cut (ps_if (pt_cmpR op_lt (pv 1) (pe_int) (nomark _)) (pss_cons (ps_set (i := 0) sc_law_low.nd rfl (.inl rfl) (pe_un un_neg (pv 0)))
      (pss_one (ps_set (i := 1) sc_law_low.nd rfl (.inl rfl) (pe_un un_neg (pv 1))))) pss_nil)
      (pss_one (ps_ret (pe_tup (pa_cons (pe_op op_fdivW (pv 0) (pv 2)) (pa_cons (pe_op op_fdivW (pv 1) (pv 2)) pa_nil))))))))), ?_⟩
  walk_at "st"
  refine Pm.w_while (fun m σ H' => ∃ x y : Nat, σ = [some (.int a), some (.int b), some (.int x), some (.int y)] ∧ m = y ∧ Nat.gcd x y = Int.gcd a b ∧ H' = H) _ ⟨(if a < 0 then -a else a).natAbs, (if b < 0 then -b else b).natAbs, ?_, rfl, gcd_abs a b, rfl⟩ ?_
  · have e : ∀ c : Int, (if c < 0 then -c else c) = (((if c < 0 then -c else c).natAbs : Nat) : Int) := fun c => by split <;> omega
    show [some (V.int a), some (V.int b), some (V.int (if a < 0 then -a else a)), some (V.int (if b < 0 then -b else b))] = _
    rw [← e a, ← e b]
  · rintro m σ H' ⟨x, y, rfl, rfl, hg, rfl⟩
    walk_at "st"
    refine Pm.w_wh (fun c => ?_) (fun c => ?_)
    · walk_at "st"
      exact ⟨_, Nat.mod_lt x (by omega), m, x % m, rfl, rfl, by rw [gcd_turn x m (by omega)]; exact hg, rfl⟩
    · have e : m = 0 := by omega
      subst e
      rw [Nat.gcd_zero_right] at hg
      subst hg
      refine Pm.w_cut (fun σ' H2 => ∃ a' b' : Int, σ' = [some (.int a'), some (.int b'), some (.int ((Int.gcd a b : Nat) : Int)), some (.int ((0 : Nat) : Int))] ∧ H2 = H' ∧ Int.gcd a' b' = Int.gcd a b ∧ 0 < b' ∧ b'.natAbs < 2 ^ n ∧ Rat.divInt a' b' = Rat.divInt a b) ?_ ?_
      · walk_at "st"
        refine Pm.w_ite (fun d => ?_) (fun d => ?_)
        · walk_at "st"
          exact ⟨-a, -b, rfl, rfl, by rw [Int.gcd_neg, Int.neg_gcd], by omega, by omega, Rat.neg_divInt_neg a b⟩
        · walk_at "st"
          exact ⟨a, b, rfl, rfl, rfl, by omega, hn, rfl⟩
      · rintro σ H2 ⟨a', b', rfl, rfl, eg, hb', hn, e⟩
        rw [← eg]
        have g0 : 0 < ((Int.gcd a' b' : Nat) : Int) := gcd_pos (by omega)
        have g1 := gcd_le_right (a := a') hb'
        have n0 : 0 < n := by
          rcases Nat.eq_zero_or_pos n with z | z
          · subst z
            exact absurd hn (by omega)
          · exact z
        have hd : ∀ i : Int, CDivW i ((Int.gcd a' b' : Nat) : Int) := fun i => wide_div g0 (Nat.lt_of_le_of_lt (by omega) hn) n0 hn9
        walk_at "st"
        refine Pm.w_i (hd _) ?_
        walk_at "st"
        refine Pm.w_i (hd _) ?_
        walk_at "st"
        refine Pm.w_newT (fun t ht => ?_)
        have z := div_pos_num (a := a') hb'
        rw [z.1, z.2, e]
        exact q t _ (same_new ht _) ht upd_same
end
section
variable {P : Program} {w : World} {K : PySem.W.Frag} {mg : Str → Option Value} {base : Heap}
def spLAdd (K : PySem.W.Frag) : Sp := fun vs H Q _ => ∃ (t u : Addr) (x y : Rat) (n m : Nat), vs = [.ref t, .ref u] ∧ FrV K H (.ref t) (rp x) ∧ FrV K H (.ref u) (rp y) ∧ rb x n ∧ rb y m ∧ n + m ≤ 9000 ∧ FrNew H (x + y) Q
theorem ok_law_add (T : Tx K mg) : FnOk P w K mg base CX0 2 T.a_law_add T.fd_law_add ["_law_one", "_law_other"] (spLAdd K) := by
  refine T.F_law_add.ok sc_law_add (fun vs H Q E h => ?_) (fun cdv A outer s H vs Q E hr h => ?_)
  · obtain ⟨t, u, x, y, n, m, rfl, _⟩ := h
    rfl
  obtain ⟨t, u, x, y, n, m, rfl, ht, hu, bx, byy, hnm, q⟩ := h
  refine ⟨_, (pss_one (ps_ret (pe_call (ok_law_low T) (hr.mono (by decide)) (by rfl) T.g_law_low T.F_law_low.kp T.b_law_low .nil pass0 (pa_cons (pe_op op_add (pe_op op_mulW (pe_ix (ix_tupK (K := K)) (pv 0) (pe_int) (fun _ _ => rfl)) (pe_ix (ix_tupK (K := K)) (pv 1) (pe_int) (fun _ _ => rfl))) (pe_op op_mulW (pe_ix (ix_tupK (K := K)) (pv 1) (pe_int) (fun _ _ => rfl)) (pe_ix (ix_tupK (K := K)) (pv 0) (pe_int) (fun _ _ => rfl)))) (pa_cons (pe_op op_mulW (pe_ix (ix_tupK (K := K)) (pv 0) (pe_int) (fun _ _ => rfl)) (pe_ix (ix_tupK (K := K)) (pv 1) (pe_int) (fun _ _ => rfl))) pa_nil))))), ?_⟩
  have n0 := rb_pos bx
  have m0 := rb_pos byy
  walk_at "st"
  refine Pm.w_ixT ht.rat (atI2 _ _).1 ?_
  walk_at "st"
  refine Pm.w_ixT hu.rat (atI2 _ _).2 ?_
  walk_at "st"
  refine Pm.w_i (wide_mul bx.1 (rb_den byy) n0 m0 (by omega)) ?_
  walk_at "st"
  refine Pm.w_ixT hu.rat (atI2 _ _).1 ?_
  walk_at "st"
  refine Pm.w_ixT ht.rat (atI2 _ _).2 ?_
  walk_at "st"
  refine Pm.w_i (wide_mul byy.1 (rb_den bx) m0 n0 (by omega)) ?_
  walk_at "st"
  refine Pm.w_ixT ht.rat (atI2 _ _).2 ?_
  walk_at "st"
  refine Pm.w_ixT hu.rat (atI2 _ _).2 ?_
  walk_at "st"
  refine Pm.w_i (wide_mul (rb_den bx) (rb_den byy) n0 m0 (by omega)) ?_
  walk_at "st"
  refine ⟨_, _, n + m, rfl, den_mul x y, wide_lt (rb_den bx) (rb_den byy), hnm, ?_⟩
  rw [plus_is]
  exact q
def spLMul (K : PySem.W.Frag) : Sp := fun vs H Q _ => ∃ (t u : Addr) (x y : Rat) (n m : Nat), vs = [.ref t, .ref u] ∧ FrV K H (.ref t) (rp x) ∧ FrV K H (.ref u) (rp y) ∧ rb x n ∧ rb y m ∧ n + m ≤ 9000 ∧ FrNew H (x * y) Q
theorem ok_law_mul (T : Tx K mg) : FnOk P w K mg base CX0 2 T.a_law_mul T.fd_law_mul ["_law_one", "_law_other"] (spLMul K) := by
  refine T.F_law_mul.ok sc_law_mul (fun vs H Q E h => ?_) (fun cdv A outer s H vs Q E hr h => ?_)
  · obtain ⟨t, u, x, y, n, m, rfl, _⟩ := h
    rfl
  obtain ⟨t, u, x, y, n, m, rfl, ht, hu, bx, byy, hnm, q⟩ := h
  refine ⟨_, (pss_one (ps_ret (pe_call (ok_law_low T) (hr.mono (by decide)) (by rfl) T.g_law_low T.F_law_low.kp T.b_law_low .nil pass0 (pa_cons (pe_op op_mulW (pe_ix (ix_tupK (K := K)) (pv 0) (pe_int) (fun _ _ => rfl)) (pe_ix (ix_tupK (K := K)) (pv 1) (pe_int) (fun _ _ => rfl))) (pa_cons (pe_op op_mulW (pe_ix (ix_tupK (K := K)) (pv 0) (pe_int) (fun _ _ => rfl)) (pe_ix (ix_tupK (K := K)) (pv 1) (pe_int) (fun _ _ => rfl))) pa_nil))))), ?_⟩
  have n0 := rb_pos bx
  have m0 := rb_pos byy
  walk_at "st"
  refine Pm.w_ixT ht.rat (atI2 _ _).1 ?_
  walk_at "st"
  refine Pm.w_ixT hu.rat (atI2 _ _).1 ?_
  walk_at "st"
  refine Pm.w_i (wide_mul bx.1 byy.1 n0 m0 (by omega)) ?_
  walk_at "st"
  refine Pm.w_ixT ht.rat (atI2 _ _).2 ?_
  walk_at "st"
  refine Pm.w_ixT hu.rat (atI2 _ _).2 ?_
  walk_at "st"
  refine Pm.w_i (wide_mul (rb_den bx) (rb_den byy) n0 m0 (by omega)) ?_
  walk_at "st"
  refine ⟨_, _, n + m, rfl, den_mul x y, wide_lt (rb_den bx) (rb_den byy), hnm, ?_⟩
  rw [times_is]
  exact q
def spLDiv (K : PySem.W.Frag) : Sp := fun vs H Q _ => ∃ (t u : Addr) (x y : Rat) (n m : Nat), vs = [.ref t, .ref u] ∧ FrV K H (.ref t) (rp x) ∧ FrV K H (.ref u) (rp y) ∧ rb x n ∧ rb y m ∧ n + m ≤ 9000 ∧ y ≠ 0 ∧ FrNew H (x / y) Q
theorem ok_law_div (T : Tx K mg) : FnOk P w K mg base CX0 2 T.a_law_div T.fd_law_div ["_law_one", "_law_other"] (spLDiv K) := by
  refine T.F_law_div.ok sc_law_div (fun vs H Q E h => ?_) (fun cdv A outer s H vs Q E hr h => ?_)
  · obtain ⟨t, u, x, y, n, m, rfl, _⟩ := h
    rfl
  obtain ⟨t, u, x, y, n, m, rfl, ht, hu, bx, byy, hnm, y0, q⟩ := h
  refine ⟨_, (pss_one (ps_ret (pe_call (ok_law_low T) (hr.mono (by decide)) (by rfl) T.g_law_low T.F_law_low.kp T.b_law_low .nil pass0 (pa_cons (pe_op op_mulW (pe_ix (ix_tupK (K := K)) (pv 0) (pe_int) (fun _ _ => rfl)) (pe_ix (ix_tupK (K := K)) (pv 1) (pe_int) (fun _ _ => rfl))) (pa_cons (pe_op op_mulW (pe_ix (ix_tupK (K := K)) (pv 0) (pe_int) (fun _ _ => rfl)) (pe_ix (ix_tupK (K := K)) (pv 1) (pe_int) (fun _ _ => rfl))) pa_nil))))), ?_⟩
  have n0 := rb_pos bx
  have m0 := rb_pos byy
  walk_at "st"
  refine Pm.w_ixT ht.rat (atI2 _ _).1 ?_
  walk_at "st"
  refine Pm.w_ixT hu.rat (atI2 _ _).2 ?_
  walk_at "st"
  refine Pm.w_i (wide_mul bx.1 (rb_den byy) n0 m0 (by omega)) ?_
  walk_at "st"
  refine Pm.w_ixT ht.rat (atI2 _ _).2 ?_
  walk_at "st"
  refine Pm.w_ixT hu.rat (atI2 _ _).1 ?_
  walk_at "st"
  refine Pm.w_i (wide_mul (rb_den bx) byy.1 n0 m0 (by omega)) ?_
  walk_at "st"
  refine ⟨_, _, n + m, rfl, Int.mul_ne_zero (den_ne x) (fun z => y0 (Rat.num_eq_zero.mp z)), wide_lt (rb_den bx) byy.1, hnm, ?_⟩
  rw [over_is]
  exact q
end
section
variable {P : Program} {w : World} {K : PySem.W.Frag} {mg : Str → Option Value} {base : Heap}
/-- lengths for letters: above nought and not too long -/
def GoodL (G : IP → Rat) (ks : List IP) (m : Nat) : Prop := ∀ k ∈ ks, G k ≠ 0 ∧ rb (G k) m
def spRowWorth (K : PySem.W.Frag) (C : Addr) : Sp := fun vs H Q E => ∃ (x : V) (d : Addr) (r : LP) (ks : List IP) (G : IP → Rat) (B m : Nat), vs = [x, .ref d] ∧ NdV H (encL r) x ∧ LD K H d ks (fun k => rp (G k)) ∧ (∀ q ∈ r, ∃ p, q.1 = encM p) ∧ mass r ≤ B ∧ B ≤ 1000 ∧ GoodL G ks m ∧ 1 + B * m ≤ 8000 ∧
  (¬ (∀ q ∈ r, decM q.1 ∈ ks) → ∀ H', Same H H' → E (.ref C) none H') ∧ ((∀ q ∈ r, decM q.1 ∈ ks) → ∀ (t : Addr) (H' : Hp), Same H H' → FrV K H' (.ref t) (rp (rowF G r 1)) → Q (.ref t) H')
theorem ok_row_worth (T : Tx K mg) : FnOk P w K mg base (L2.CX P w) 4 T.a_row_worth T.fd_row_worth (["row", "lengths"]) (spRowWorth K T.c_NoLetter) := by
  refine T.F_row_worth.okX sc_row_worth (fun vs H Q E h => ?_) (fun cdv A outer s H vs Q E hr h => ?_)
  · obtain ⟨x, d, r, ks, G, B, m, rfl, _⟩ := h
    rfl
  obtain ⟨x, d, r, ks, G, B, m, rfl, hx, hD, hm, hB, hB1, hG, hBm, hE, q⟩ := h
  obtain ⟨a, xs, rfl, ha, hxs⟩ := row_ex hx
  have lx := hxs.length
  refine ⟨_, (pss_cons (ps_set (i := 2) sc_row_worth.nd rfl (.inl rfl) (pe_tup (pa_cons (pe_int) (pa_cons (pe_int) pa_nil))))
      (pss_cons (ps_for (passes_of rfl) rfl (k_it (K := K) (pi_tup (pv 0))) (k_gt (K := K) (pg_tup (by rfl) (pgs_cons (pg_name (i := 3) sc_row_worth.nd rfl (.inl rfl)) (pgs_cons (pg_name (i := 4) sc_row_worth.nd rfl (.inl rfl)) pgs_nil)))) (pss_cons (ps_if (pt_cmp (pc_dnotin (hu_of hr) (pv 3) (pv 1))) (pss_one (ps_raise rfl (takes_of rfl rfl rfl rfl) (pmk_own PySem.F.excBase_ValueError T.x_NoLetter T.g_NoLetter T.k_NoLetter (raises_own T.b_NoLetter T.t_NoLetter) rfl))) pss_nil)
      (pss_one (ps_for (passes_of rfl) rfl (pi_range1 (by rfl) T.m_range (pa_cons (pe_callB c_abs (by rfl) T.m_abs (by decide +kernel) (pa_cons (pv 4) pa_nil)) pa_nil)) (pg_name (i := 5) sc_row_worth.nd rfl (.inl rfl)) (pss_one (ps_if (pt_cmpR op_gt (pv 4) (pe_int) (nomark _)) (pss_one (ps_set (i := 2) sc_row_worth.nd rfl (.inl rfl) (pe_call (ok_times T) (hr.mono (by decide)) (by rfl) T.g_times T.F_times.kp T.b_times .nil pass0 (pa_cons (pv 2) (pa_cons (pe_dget (hu_of hr) (pv 1) (pv 3) (fun _ _ => rfl)) pa_nil))))) (pss_one (ps_set (i := 2) sc_row_worth.nd rfl (.inl rfl) (pe_call (ok_over T) (hr.mono (by decide)) (by rfl) T.g_over T.F_over.kp T.b_over .nil (passes_call (takes_of rfl rfl rfl rfl) (fun _ _ _ _ h => h)) (pa_cons (pv 2) (pa_cons (pe_dget (hu_of hr) (pv 1) (pv 3) (fun _ _ => rfl)) pa_nil)))))))))))
      (pss_one (ps_ret (pv 2))))), ?_⟩
  walk_at "st"
  refine Pm.w_newT (fun t0 h0 => ?_)
  have s1 := same_new h0 (.tup [.int 1, .int 1])
  have f1 : FrV K (upd H t0 (.tup [.int 1, .int 1])) (.ref t0) (rp 1) := ⟨t0, rfl, .inl upd_same⟩
  generalize upd H t0 (.tup [.int 1, .int 1]) = H1 at s1 f1 ⊢
  walk_at "st"
  refine Pm.w_rdT (SqT.of (s1 _ _ ha)) ?_
  refine Pm.w_forT (xs := xs) (fun i σ H' => ∃ (u : Addr) (x3 x4 x5 : Option V), σ = [some (.ref a), some (.ref d), some (.ref u), x3, x4, x5] ∧ Same H H' ∧ FrV K H' (.ref u) (rp (rowF G (r.take i) 1)) ∧ ∀ q ∈ r.take i, decM q.1 ∈ ks) ⟨t0, _, _, _, rfl, s1, f1, fun q hq => by rw [List.take_zero] at hq; cases hq⟩ (fun i σ H' _ ⟨_, _, _, _, _, h, _⟩ => SqT.of (h _ _ ha)) ?_ ?_
  · rintro i v σ H2 hi ⟨u, x3, x4, x5, rfl, s2, f2, hin⟩
    obtain ⟨q0, hq, hv⟩ := hxs.get hi
    have mq := List.mem_of_getElem? hq
    obtain ⟨t, x0, rfl, ht, hx0⟩ := NdP.ex (ndp_mono _ _ _ _ (keeps s2) hv)
    obtain ⟨p, ep⟩ := hm q0 mq
    rw [ep] at hx0
    obtain ⟨b, rfl, hb⟩ := mark_ex hx0
    have dm : decM q0.1 = p := by rw [ep]; rfl
    have hD2 := hD.same s2
    walk_at "st"
    refine Pm.w_gtup (SqT.of ht) rfl ?_
    walk_at "st"
    refine w_ldNotIn hD2 ⟨b, rfl, hb⟩ ?_
    by_cases c : p ∈ ks
    · rw [decide_eq_true c]
      have mg0 := mass_get hq
      obtain ⟨g0, g1⟩ := hG p c
      have br : rb (rowF G (r.take i) 1) (1 + mass (r.take i) * m) := rowF_rb (fun q hq => hG _ (hin q hq)) ⟨by decide, by decide⟩
      have bmul : mass (r.take i) * m + q0.2.natAbs * m ≤ B * m := by rw [← Nat.add_mul]; exact Nat.mul_le_mul_right _ (by omega)
      walk_at "st"
      rw [show (if q0.2 < 0 then -q0.2 else q0.2).toNat = q0.2.natAbs by omega]
      refine Pm.w_forR (fun j σ H' => ∃ (u : Addr) (x5 : Option V), σ = [some (.ref a), some (.ref d), some (.ref u), some (.ref b), some (.int q0.2), x5] ∧ Same H2 H' ∧ FrV K H' (.ref u) (rp (itN (G p) q0.2 j (rowF G (r.take i) 1)))) ⟨u, _, rfl, Same.refl _, f2⟩ ?_ ?_
      · rintro j σ H3 hj ⟨u3, x5, rfl, s3, f3⟩
        have hD3 := hD2.same s3
        have hb3 : Pr H3 (.ref b) p := ⟨b, rfl, s3 _ _ hb⟩
        have bj := itN_rb q0.2 g0 g1 br j
        have jm : j * m + m ≤ q0.2.natAbs * m := by rw [← Nat.succ_mul]; exact Nat.mul_le_mul_right _ hj
        walk_at "st"
        refine Pm.w_ite (fun e => ?_) (fun e => ?_)
        · walk_at "st"
          refine w_ldGet hD3 hb3 c (fun t4 h4 => ?_)
          walk_at "st"
          refine ⟨u3, t4, _, _, _, _, rfl, f3.tup, h4.tup, bj, g1, by omega, fun t5 H5 s5 n5 h5 => ?_⟩
          refine ⟨t5, _, rfl, s3.trans s5, ⟨t5, rfl, .inl ?_⟩⟩
          unfold itN
          rw [if_pos e]
          exact h5
        · walk_at "st"
          refine w_ldGet hD3 hb3 c (fun t4 h4 => ?_)
          walk_at "st"
          refine ⟨u3, t4, _, _, _, _, rfl, f3.tup, h4.tup, bj, g1, by omega, fun z => absurd z g0, fun _ t5 H5 s5 n5 h5 => ?_⟩
          refine ⟨t5, _, rfl, s3.trans s5, ⟨t5, rfl, .inl ?_⟩⟩
          unfold itN
          rw [if_neg e]
          exact h5
      · rintro σ H3 ⟨u3, x5, rfl, s3, f3⟩
        refine ⟨u3, _, _, _, rfl, s2.trans s3, ?_, fun q1 h1 => ?_⟩
        · rw [take_snoc hq, rowF_snoc, dm]
          exact f3
        · rw [take_snoc hq] at h1
          rcases List.mem_append.mp h1 with h | h
          · exact hin q1 h
          · rw [List.mem_singleton.mp h, dm]
            exact c
    · rw [decide_eq_false c]
      walk_at "st"
      exact hE (fun z => c (by rw [← dm]; exact z q0 mq)) _ s2
  · rintro σ H2 ⟨u, x3, x4, x5, rfl, s2, f2, hin⟩
    rw [lx, List.take_length] at f2 hin
    walk_at "st"
    exact q hin u H2 s2 f2
def spWorth (K : PySem.W.Frag) (C : Addr) : Sp := fun vs H Q E => ∃ (l d : Addr) (s : LP) (ks : List IP) (G : IP → Rat) (B m : Nat), vs = [.ref l, .ref d] ∧ SLs K H l s ∧ LD K H d ks (fun k => rp (G k)) ∧ (∀ q ∈ s, ∃ r, q.1 = encL r ∧ (∀ q ∈ r, ∃ p, q.1 = encM p) ∧ mass r ≤ B) ∧ (∀ q ∈ s, q.2.natAbs < 1000) ∧ B ≤ 1000 ∧ GoodL G ks m ∧ s.length * (20 + B * m) ≤ 4000 ∧ 1 + B * m ≤ 4000 ∧
  (¬ (∀ q ∈ s, ∀ p ∈ decL q.1, decM p.1 ∈ ks) → ∀ H', Same H H' → E (.ref C) none H') ∧ ((∀ q ∈ s, ∀ p ∈ decL q.1, decM p.1 ∈ ks) → ∀ (t : Addr) (H' : Hp), Same H H' → FrV K H' (.ref t) (rp (sumF G s)) → rb (sumF G s) (2 + s.length * (20 + B * m)) → Q (.ref t) H')
theorem ok_worth (T : Tx K mg) : FnOk P w K mg base (L2.CX P w) 5 T.a_worth T.fd_worth (["one", "lengths"]) (spWorth K T.c_NoLetter) := by
  refine T.F_worth.okX sc_worth (fun vs H Q E h => ?_) (fun cdv A outer s H vs Q E hr h => ?_)
  · obtain ⟨l, d, s, ks, G, B, m, rfl, _⟩ := h
    rfl
  obtain ⟨l, d, sm, ks, G, B, m, rfl, ⟨xs, hl, hxs⟩, hD, hrw, hct, hB, hG, hsz, hBm, hE, q⟩ := h
  have lx := hxs.length
  have f0 : ∀ H', FrV K H' (.ref T.c_NOUGHT) (rp 0) := fun H' => ⟨_, rfl, .inr T.v_NOUGHT⟩
  refine ⟨_, (pss_cons (ps_set (i := 2) sc_worth.nd rfl (.inl rfl) (pe_glob (by rfl) T.g_NOUGHT T.r_NOUGHT))
      (pss_cons (ps_for (passes_of rfl) rfl (k_il (K := K) (pi_list (pv 0))) (k_gt (K := K) (pg_tup (by rfl) (pgs_cons (pg_name (i := 3) sc_worth.nd rfl (.inl rfl)) (pgs_cons (pg_name (i := 4) sc_worth.nd rfl (.inl rfl)) pgs_nil)))) (pss_one (ps_set (i := 2) sc_worth.nd rfl (.inl rfl) (pe_call (ok_plus T) (hr.mono (by decide)) (by rfl) T.g_plus T.F_plus.kp T.b_plus .nil pass0 (pa_cons (pv 2) (pa_cons (pe_call (ok_times T) (hr.mono (by decide)) (by rfl) T.g_times T.F_times.kp T.b_times .nil pass0 (pa_cons (pe_call (ok_lowest T) (hr.mono (by decide)) (by rfl) T.g_lowest T.F_lowest.kp T.b_lowest .nil (passes_call (takes_of rfl rfl rfl rfl) (fun _ _ _ _ h => h)) (pa_cons (pv 4) (pa_cons (pe_int) pa_nil))) (pa_cons (pe_call (ok_row_worth T) (hr.mono (by decide)) (by rfl) T.g_row_worth T.F_row_worth.kp T.b_row_worth .nil (passes_call (takes_of rfl rfl rfl rfl) (fun _ _ _ _ h => h)) (pa_cons (pv 3) (pa_cons (pv 1) pa_nil))) pa_nil))) pa_nil))))))
      (pss_one (ps_ret (pv 2))))), ?_⟩
  walk_at "st"
  refine Pm.w_rdL (SqL.of hl) ?_
  refine Pm.w_forL (xs := xs) (fun i σ H' => ∃ (u : Addr) (x3 x4 : Option V), σ = [some (.ref l), some (.ref d), some (.ref u), x3, x4] ∧ Same H H' ∧ FrV K H' (.ref u) (rp (sumF G (sm.take i))) ∧ rb (sumF G (sm.take i)) (2 + i * (20 + B * m)) ∧ ∀ q ∈ sm.take i, ∀ p ∈ decL q.1, decM p.1 ∈ ks) ⟨_, _, _, rfl, Same.refl _, f0 _, by rw [List.take_zero]; exact rb.mono (n := 1) (show rb (0 : Rat) 1 from ⟨by decide, by decide⟩) (by omega), fun q hq => by rw [List.take_zero] at hq; cases hq⟩ (fun i σ H' _ ⟨_, _, _, _, h, _⟩ => SqL.of (h _ _ hl)) ?_ ?_
  · rintro i v σ H2 hi ⟨u, x3, x4, rfl, s2, f2, b2, hin⟩
    obtain ⟨q0, hq, hv⟩ := hxs.get hi
    have mq := List.mem_of_getElem? hq
    have ilt : i < xs.length := (List.getElem?_eq_some_iff.mp hi).1
    have il : i * (20 + B * m) + (20 + B * m) ≤ sm.length * (20 + B * m) := by rw [← Nat.succ_mul]; exact Nat.mul_le_mul_right _ (by omega)
    obtain ⟨t, x0, rfl, ht, hx0⟩ := NdP.ex (ndp_mono _ _ _ _ (keeps s2) hv)
    obtain ⟨r, er, hm, hb⟩ := hrw q0 mq
    have hc := hct q0 mq
    walk_at "st"
    refine Pm.w_gtup (SqT.of ht) rfl ?_
    walk_at "st"
    refine ⟨q0.2, 1, 10, rfl, by decide, by decide, fun z => absurd z (by decide), fun _ t3 H3 s3 n3 h3 => ?_⟩
    rw [int_rat] at h3
    have s13 := s2.trans s3
    walk_at "st"
    rw [er] at hx0
    refine ⟨x0, d, r, ks, G, B, m, rfl, NdV.keep (keeps s3) _ _ hx0, hD.same s13, hm, hb, hB, hG, by omega, fun hno H4 s4 => hE (fun z => hno (fun p hp => z q0 mq p (by rw [er, dec_enc]; exact hp))) _ (s13.trans s4), fun hyes t4 H4 s4 f4 => ?_⟩
    have b4 : rb (rowF G r 1) (1 + B * m) := (rowF_rb (n := 1) (v := 1) (fun q hq => hG _ (hyes q hq)) ⟨by decide, by decide⟩).mono (by have := Nat.mul_le_mul_right m hb; omega)
    have b3 : rb ((q0.2 : Rat)) 10 := ⟨by rw [Rat.num_intCast]; exact Nat.lt_of_lt_of_le hc (by decide), by rw [Rat.den_intCast]; decide⟩
    walk_at "st"
    refine ⟨t3, t4, _, _, _, _, rfl, SqT.of (s4 _ _ h3), f4.tup, b3, b4, by omega, fun t5 H5 s5 n5 h5 => ?_⟩
    walk_at "st"
    have s35 := s3.trans (s4.trans s5)
    refine ⟨u, t5, _, _, _, _, rfl, (f2.keep (keeps s35)).tup, SqT.of h5, b2, rb_mul b3 b4, by omega, fun t6 H6 s6 n6 h6 => ?_⟩
    have e6 : sumF G (sm.take (i + 1)) = sumF G (sm.take i) + (q0.2 : Rat) * rowF G r 1 := by rw [take_snoc hq, sumF_snoc, er, dec_enc]
    refine ⟨t6, _, _, rfl, s2.trans (s35.trans s6), ⟨t6, rfl, .inl (by rw [e6]; exact h6)⟩, by rw [e6]; exact (rb_add b2 (rb_mul b3 b4)).mono (by rw [Nat.add_mul]; omega), fun q1 h1 => ?_⟩
    rw [take_snoc hq] at h1
    rcases List.mem_append.mp h1 with h | h
    · exact hin q1 h
    · rw [List.mem_singleton.mp h, er, dec_enc]
      exact hyes
  · rintro σ H2 ⟨u, x3, x4, rfl, s2, f2, b2, hin⟩
    rw [lx, List.take_length] at f2 hin b2
    walk_at "st"
    exact q hin u H2 s2 f2 b2
end
section
variable {P : Program} {w : World} {K : PySem.W.Frag} {mg : Str → Option Value} {base : Heap}
/-- a dict gathers a list: what has been put in so far -/
structure Gath (ks : List ND) (L : ND → Int) (l : LP) : Prop where
  mem : ∀ d, d ∈ ks ↔ d ∈ l.map (·.1)
  val : ∀ d ∈ ks, L d = tot l d
theorem gath_nil (L : ND → Int) : Gath [] L [] := ⟨fun _ => Iff.rfl, fun d h => absurd h List.not_mem_nil⟩
theorem Gath.snoc {ks : List ND} {L : ND → Int} {l : LP} (h : Gath ks L l) (q : ND × Int) {n : Int} (e : n = tot l q.1 + q.2) : Gath (putd ks q.1) (updL L q.1 n) (l ++ [q]) := ⟨fun d => by
  rw [mem_putd, h.mem, List.map_append, List.mem_append, List.map_cons, List.map_nil, List.mem_singleton], fun d hd => by
  rw [tot_snoc]
  by_cases c : d = q.1
  · rw [c, updL_same, if_pos rfl, e]
  · rw [updL_ne c, if_neg (fun z => c z.symm), Int.add_zero]
    rcases mem_putd.mp hd with m | m
    · exact h.val d m
    · exact absurd m c⟩
theorem Gath.get {ks : List ND} {L : ND → Int} {l : LP} (h : Gath ks L l) (d : ND) : (if d ∈ ks then L d else 0) = tot l d := by
  by_cases c : d ∈ ks
  · rw [if_pos c, h.val d c]
  · rw [if_neg c, tot_none (fun z => c ((h.mem d).mpr z))]
end
local macro_rules | `(tactic| walk_at "s1") => `(tactic| with_reducible refine Pm.w_nkeys ?_)
local macro_rules | `(tactic| walk_at "s1") => `(tactic| with_reducible refine Pm.w_ng2 ?_)
local macro_rules | `(tactic| walk_at "s1") => `(tactic| with_reducible refine Pm.w_nget ?_)
local macro_rules | `(tactic| walk_at "s1") => `(tactic| with_reducible refine Pm.w_nput ?_)
section
variable {P : Program} {w : World} {K : PySem.W.Frag} {mg : Str → Option Value} {base : Heap}
def spLSettled (K : PySem.W.Frag) : Sp := fun vs H Q _ => ∃ (a : Addr) (s : LP) (n : Nat), vs = [.ref a] ∧ SLs K H a s ∧ (∀ q ∈ s, ∃ r, q.1 = encL r ∧ RowC n r) ∧ s.length < 1000000 ∧ SLNew H (canon s) Q
theorem ok_law_settled (T : Tx K mg) : FnOk P w K mg base CX0 1 T.a_law_settled T.fd_law_settled (["_law_terms"]) (spLSettled K) := by
  refine T.F_law_settled.ok sc_law_settled (fun vs H Q E h => ?_) (fun cdv A outer s H vs Q E hr h => ?_)
  · obtain ⟨a, s, n, rfl, _⟩ := h
    rfl
  obtain ⟨a, s, n, rfl, ⟨xs, ha, hxs⟩, cs, hz, q⟩ := h
  have ha := SqL.of (K := K) ha
  have lx := hxs.length
  refine ⟨_, (pss_cons (ps_set (i := 1) sc_law_settled.nd rfl (.inr rfl) (n_dnew (P := P) (w := w)))
      (pss_cons (ps_for PassesOwn.never rfl (k_il (K := K) (pi_list (pv 0))) (k_gt (K := K) (pg_tup (by rfl) (pgs_cons (pg_name (i := 2) sc_law_settled.nd rfl (.inl rfl)) (pgs_cons (pg_name (i := 3) sc_law_settled.nd rfl (.inl rfl)) pgs_nil)))) (pss_one (n_put (P := P) (w := w) hr.u40 (pv 1) (pv 2) (pe_op op_add (n_get2 (P := P) (w := w) hr.u40 (pv 1) (pv 2) (pe_int) ⟨rfl, rfl, rfl, rfl⟩) (pv 3)) rfl)))
      (pss_one (ps_ret (pe_lc (own := [("_law_row", 2)]) (g := gName 2) rfl sc_law_settled.nd (k_il (K := K) (pi_list (pe_callB (n_sort (P := P) (w := w) rfl hr.u40) (by rfl) T.m_sorted (by decide +kernel) (pa_cons (n_keys (P := P) (w := w) (pv 1)) pa_nil)))) (blkOk_by (N := N_law_settled) (sc := defScope s_law_settled) (by decide +kernel)) (fun _ _ _ _ _ => (pg_name (i := 2) sc_law_settled.nd rfl (.inl rfl))) (fun _ _ _ _ _ => (pts_one (pt_cmpR op_ne (n_get (P := P) (w := w) hr.u40 (pv 1) (pv 2) (fun _ _ => rfl)) (pe_int) (nomark _)))) (fun _ _ _ _ _ => (pe_tup (pa_cons (pv 2) (pa_cons (n_get (P := P) (w := w) hr.u40 (pv 1) (pv 2) (fun _ _ => rfl)) pa_nil))))))))), ?_⟩
  walk_at "st"
  refine Pm.w_ndnew (fun c hc hD => ?_)
  have s1 := same_new hc (ndO P w c [])
  generalize upd H c (ndO P w c []) = H1 at s1 hD ⊢
  walk_at "st"
  refine Pm.w_rdL (s1.seq ha) ?_
  refine Pm.w_forL (xs := xs) (fun i σ H' => ∃ x y ks L, σ = [some (.ref a), some (.ref c), x, y] ∧ Same H H' ∧ DI P w H' c ks L ∧ Gath ks L (s.take i) ∧ ks.length ≤ i) ⟨_, _, [], _, rfl, s1, hD, by rw [List.take_zero]; exact gath_nil _, Nat.le_refl _⟩ (fun i σ H' _ ⟨_, _, _, _, _, h, _⟩ => h.seq ha) ?_ ?_
  · rintro i v σ H2 hi ⟨x, y, ks, L, rfl, s2, hD2, hg, hl⟩
    obtain ⟨q0, hq, hv⟩ := hxs.get hi
    have mq := List.mem_of_getElem? hq
    have ilt : i < xs.length := (List.getElem?_eq_some_iff.mp hi).1
    obtain ⟨t, x0, rfl, ht, hx⟩ := NdP.ex (ndp_mono _ _ _ _ (keeps s2) hv)
    have kd : KeyD q0.1 := by
      obtain ⟨r, e, hr'⟩ := cs q0 mq
      rw [e]
      exact hr'.keyD
    walk_at "st"
    refine Pm.w_gtup (SqT.of ht) rfl ?_
    walk_at "st"
    refine Pm.w_ng2a hD2 ?_
    walk_at "st"
    refine Pm.w_ng2b hD2 kd hx ?_
    rw [hg.get]
    walk_at "st"
    refine Pm.w_nput1 hD2 kd hx (by omega) (fun zs hD3 k3 => ?_)
    refine ⟨_, _, _, _, rfl, same_but hc s2, hD3, ?_, by have := putd_len ks q0.1; omega⟩
    rw [take_snoc hq]
    exact hg.snoc q0 rfl
  · rintro σ H2 ⟨x, y, ks, L, rfl, s2, hD2, hg, hl⟩
    rw [lx, List.take_length] at hg
    have rows : ∀ d ∈ ks, ∃ r', d = encL r' ∧ RowC n r' := fun d hd => by
      obtain ⟨q0, hq0, rfl⟩ := List.mem_map.mp ((hg.mem d).mp hd)
      exact cs q0 hq0
    walk_at "st"
    refine Pm.w_nkeys1 hD2 (fun kv hkv => ?_)
    have s3 := same_new hkv (keysO kv c)
    have f3 : (upd H2 kv (keysO kv c)) kv = some (keysO kv c) := upd_same
    generalize upd H2 kv (keysO kv c) = H3 at s3 f3 ⊢
    walk_at "st"
    refine Pm.w_nsort f3 (hD2.same s3) (srt_rows rows) (fun ys g hg2 hys => ?_)
    have s4 := same_new hg2 (.lst ys)
    have f4 : (upd H3 g (.lst ys)) g = some (.lst ys) := upd_same
    have hys4 := hys.mono fun v d r => ndv_mono _ _ _ _ (keeps s4) r
    generalize upd H3 g (.lst ys) = H4 at s4 f4 hys4 ⊢
    have s34 := s3.trans s4
    have hl2 := (ND.sort_perm ks).length_eq
    refine Pm.w_rdL (SqL.of f4) ?_
    refine Pm.w_lcLf (R := NdP) ndp_mono (S := fun H v d => NdV H d v) ndv_mono (SqL.of f4) hys4 (fun d => (d, L d)) (fun d => decide (L d ≠ 0)) (by omega) (fun D x d H5 Nx hD5 hm hs s5 put skip => ?_) (fun D H5 ws hD5 s5 hd5 hax => ?_)
    · have s15 := s34.trans s5
      have md : d ∈ ks := mem_sort.mp hm
      have kd : KeyD d := by
        obtain ⟨r, rfl, hr'⟩ := rows d md
        exact hr'.keyD
      walk_at "st"
      refine Pm.w_nget1 (hD2.same s15) kd hs md ?_
      walk_at "st"
      refine Pm.w_iteN (fun nz => ?_) (fun z => ?_)
      · walk_at "st"
        refine Pm.w_nget1 (hD2.same s15) kd hs md ?_
        walk_at "st"
        refine Pm.w_newT (fun t ht => ?_)
        have s6 := same_new ht (.tup [x, .int (L d)])
        exact put _ _ (decide_eq_true nz) s6 (NdP.of upd_same (ndv_mono _ _ _ _ (keeps s6) hs))
      · exact skip _ (decide_eq_false (fun nz => nz z)) (Same.refl _)
    · rw [canon_of hD2.nd hg.mem hg.val] at hax
      exact q D H5 ws (s2.trans (s34.trans s5)) ((s2.trans s34).free hD5) hd5 hax
def spLRowTimes : Sp := fun vs H Q _ => ∃ (x y : V) (r s : LP), vs = [x, y] ∧ NdV H (encL r) x ∧ NdV H (encL s) y ∧ (∀ q ∈ r ++ s, ∃ p, q.1 = encM p) ∧ r.length + s.length ≤ 1000 ∧ ∀ (t : Addr) (H' : Hp), Same H H' → NdV H' (encL (canon (r ++ s))) (.ref t) → Q (.ref t) H'
theorem ok_law_row_times (T : Tx K mg) : FnOk P w K mg base CX0 1 T.a_law_row_times T.fd_law_row_times (["_law_one", "_law_other"]) spLRowTimes := by
  refine T.F_law_row_times.ok sc_law_row_times (fun vs H Q E h => ?_) (fun cdv A outer s H vs Q E hr h => ?_)
  · obtain ⟨x, y, r, s, rfl, _⟩ := h
    rfl
  obtain ⟨x, y, r, s, rfl, hx, hy, hm, hz, q⟩ := h
  obtain ⟨a, xs, rfl, ha, hxs⟩ := row_ex hx
  obtain ⟨b, ys, rfl, hb, hys⟩ := row_ex hy
  have lx := hxs.length
  have ly := hys.length
  refine ⟨_, (pss_cons (ps_set (i := 2) sc_law_row_times.nd rfl (.inr rfl) (n_dnew (P := P) (w := w)))
      (pss_cons (ps_for PassesOwn.never rfl (k_it (K := K) (pi_tup (pe_op (op_catAK (K := K)) (pv 0) (pv 1)))) (k_gt (K := K) (pg_tup (by rfl) (pgs_cons (pg_name (i := 3) sc_law_row_times.nd rfl (.inl rfl)) (pgs_cons (pg_name (i := 4) sc_law_row_times.nd rfl (.inl rfl)) pgs_nil)))) (pss_one (n_put (P := P) (w := w) hr.u40 (pv 2) (pv 3) (pe_op op_add (n_get2 (P := P) (w := w) hr.u40 (pv 2) (pv 3) (pe_int) ⟨rfl, rfl, rfl, rfl⟩) (pv 4)) rfl)))
      (pss_one (ps_ret (pe_callTy (c_tupOf (K := K)) (by rfl) T.m_tuple (by decide +kernel) (pa_cons (pe_lc (own := [("_law_mark", 3)]) (g := gName 3) rfl sc_law_row_times.nd (k_il (K := K) (pi_list (pe_callB (n_sort (P := P) (w := w) rfl hr.u40) (by rfl) T.m_sorted (by decide +kernel) (pa_cons (n_keys (P := P) (w := w) (pv 2)) pa_nil)))) (blkOk_by (N := N_law_row_times) (sc := defScope s_law_row_times) (by decide +kernel)) (fun _ _ _ _ _ => (pg_name (i := 3) sc_law_row_times.nd rfl (.inl rfl))) (fun _ _ _ _ _ => (pts_one (pt_cmpR op_ne (n_get (P := P) (w := w) hr.u40 (pv 2) (pv 3) (fun _ _ => rfl)) (pe_int) (nomark _)))) (fun _ _ _ _ _ => (pe_tup (pa_cons (pv 3) (pa_cons (n_get (P := P) (w := w) hr.u40 (pv 2) (pv 3) (fun _ _ => rfl)) pa_nil))))) pa_nil)))))), ?_⟩
  walk_at "st"
  refine Pm.w_ndnew (fun c hc hD => ?_)
  have s1 := same_new hc (ndO P w c [])
  generalize upd H c (ndO P w c []) = H1 at s1 hD ⊢
  walk_at "st"
  refine Pm.w_catA (s1 _ _ ha) (s1 _ _ hb) (size_ok (by omega)) (fun t H2 s2 ht => ?_)
  have hz2 := (all2_keep (keeps (s1.trans s2)) hxs).append (all2_keep (keeps (s1.trans s2)) hys)
  have lz := hz2.length
  rw [List.length_append] at lz
  have hD2 := hD.same s2
  have s12 := s1.trans s2
  clear hD
  walk_at "st"
  refine Pm.w_rdT (SqT.of ht) ?_
  refine Pm.w_forT (xs := xs ++ ys) (fun i σ H' => ∃ x y ks L, σ = [some (.ref a), some (.ref b), some (.ref c), x, y] ∧ Same H H' ∧ H' t = some (.tup (xs ++ ys)) ∧ All2 (NdP H') (xs ++ ys) (r ++ s) ∧ DI P w H' c ks L ∧ Gath ks L ((r ++ s).take i) ∧ ks.length ≤ i) ⟨_, _, [], _, rfl, s12, ht, hz2, hD2, by rw [List.take_zero]; exact gath_nil _, Nat.le_refl _⟩ (fun i σ H' _ ⟨_, _, _, _, _, _, h, _⟩ => SqT.of h) ?_ ?_
  · rintro i v σ H3 hi ⟨x, y, ks, L, rfl, s3, ht3, hz3, hD3, hg, hl⟩
    obtain ⟨q0, hq, hv⟩ := hz3.get hi
    have mq := List.mem_of_getElem? hq
    have ilt : i < (xs ++ ys).length := (List.getElem?_eq_some_iff.mp hi).1
    rw [List.length_append] at ilt
    obtain ⟨u, x0, rfl, hu, hx0⟩ := NdP.ex hv
    obtain ⟨pm, em⟩ := hm q0 mq
    have kd : KeyD q0.1 := by rw [em]; exact keyD_M pm
    walk_at "st"
    refine Pm.w_gtup (SqT.of hu) rfl ?_
    walk_at "st"
    refine Pm.w_ng2a hD3 ?_
    walk_at "st"
    refine Pm.w_ng2b hD3 kd hx0 ?_
    rw [hg.get]
    walk_at "st"
    refine Pm.w_nput1 hD3 kd hx0 (by omega) (fun zs hD4 k4 => ?_)
    refine ⟨_, _, _, _, rfl, same_but hc s3, k4 _ _ ht3, all2_keep k4 hz3, hD4, ?_, by have := putd_len ks q0.1; omega⟩
    rw [take_snoc hq]
    exact hg.snoc q0 rfl
  · rintro σ H3 ⟨x, y, ks, L, rfl, s3, ht3, hz3, hD3, hg, hl⟩
    rw [show (xs ++ ys).length = (r ++ s).length by rw [List.length_append, List.length_append]; omega, List.take_length] at hg
    rw [List.length_append] at hl
    have rows : ∀ d ∈ ks, ∃ p, d = encM p := fun d hd => by
      obtain ⟨q0, hq0, rfl⟩ := List.mem_map.mp ((hg.mem d).mp hd)
      exact hm q0 hq0
    walk_at "st"
    refine Pm.w_nkeys1 hD3 (fun kv hkv => ?_)
    have s4 := same_new hkv (keysO kv c)
    have f4 : (upd H3 kv (keysO kv c)) kv = some (keysO kv c) := upd_same
    generalize upd H3 kv (keysO kv c) = H4 at s4 f4 ⊢
    walk_at "st"
    refine Pm.w_nsort f4 (hD3.same s4) (srt_marks rows) (fun zs g hg2 hzs => ?_)
    have s5 := same_new hg2 (.lst zs)
    have f5 : (upd H4 g (.lst zs)) g = some (.lst zs) := upd_same
    have hzs5 := hzs.mono fun v d r => ndv_mono _ _ _ _ (keeps s5) r
    generalize upd H4 g (.lst zs) = H5 at s5 f5 hzs5 ⊢
    have s45 := s4.trans s5
    have hl2 := (ND.sort_perm ks).length_eq
    refine Pm.w_rdL (SqL.of f5) ?_
    refine Pm.w_lcLf (R := NdP) ndp_mono (S := fun H v d => NdV H d v) ndv_mono (SqL.of f5) hzs5 (fun d => (d, L d)) (fun d => decide (L d ≠ 0)) (by omega) (fun D x d H6 Nx hD6 hm6 hs s6 put skip => ?_) (fun D H6 ws hD6 s6 hd6 hax => ?_)
    · have s16 := s45.trans s6
      have md : d ∈ ks := mem_sort.mp hm6
      have kd : KeyD d := by
        obtain ⟨p, rfl⟩ := rows d md
        exact keyD_M p
      walk_at "st"
      refine Pm.w_nget1 (hD3.same s16) kd hs md ?_
      walk_at "st"
      refine Pm.w_iteN (fun nz => ?_) (fun z => ?_)
      · walk_at "st"
        refine Pm.w_nget1 (hD3.same s16) kd hs md ?_
        walk_at "st"
        refine Pm.w_newT (fun t ht => ?_)
        have s7 := same_new ht (.tup [x, .int (L d)])
        exact put _ _ (decide_eq_true nz) s7 (NdP.of upd_same (ndv_mono _ _ _ _ (keeps s7) hs))
      · exact skip _ (decide_eq_false (fun nz => nz z)) (Same.refl _)
    · rw [canon_of hD3.nd hg.mem hg.val] at hax
      walk_at "st"
      refine Pm.w_tupOf (SqL.of hd6) (fun t9 ht9 => ?_)
      have s9 := same_new ht9 (.tup ws)
      exact q t9 _ (s3.trans (s45.trans (s6.trans s9))) (row_of_tup upd_same (all2_keep (keeps s9) hax))
end
local macro_rules | `(tactic| walk_at "s1") => `(tactic| with_reducible refine Pm.w_nkeys ?_)
local macro_rules | `(tactic| walk_at "s1") => `(tactic| with_reducible refine Pm.w_ng2 ?_)
local macro_rules | `(tactic| walk_at "s1") => `(tactic| with_reducible refine Pm.w_nget ?_)
local macro_rules | `(tactic| walk_at "s1") => `(tactic| with_reducible refine Pm.w_nput ?_)
section
variable {P : Program} {w : World} {K : PySem.W.Frag} {mg : Str → Option Value} {base : Heap}
/-- a row's marks and length alone -/
structure RowM (n : Nat) (r : LP) : Prop where
  len : r.length ≤ n
  mrk : ∀ q ∈ r, ∃ p, q.1 = encM p
theorem rt_rowM {n m : Nat} {r s : LP} (hr : RowM n r) (hs : RowM m s) : rt (encL r) (encL s) = encL (canon (r ++ s)) ∧ RowC (n + m) (canon (r ++ s)) := by
  unfold rt
  rw [dec_enc, dec_enc]
  exact ⟨rfl, canon_row (fun q hq => (List.mem_append.mp hq).elim (hr.mrk q) (hs.mrk q)) (by rw [List.length_append]; exact Nat.add_le_add hr.len hs.len)⟩
structure SumM (n : Nat) (s : LP) : Prop where
  row : ∀ q ∈ s, ∃ r, q.1 = encL r ∧ RowM n r
theorem prod_rowM {n m : Nat} {a b : LP} (ha : SumM n a) (hb : SumM m b) : ∀ q ∈ prod a b, ∃ r, q.1 = encL r ∧ RowC (n + m) r := fun q hq => by
  obtain ⟨x, hx, h⟩ := List.mem_flatMap.mp hq
  obtain ⟨y, hy, rfl⟩ := List.mem_map.mp h
  obtain ⟨r, er, hr⟩ := ha.row x hx
  obtain ⟨s, es, hs⟩ := hb.row y hy
  have := rt_rowM hr hs
  refine ⟨canon (r ++ s), ?_, this.2⟩
  show rt x.1 y.1 = _
  rw [er, es]
  exact this.1
def spLTimes (K : PySem.W.Frag) : Sp := fun vs H Q _ => ∃ (a b : Addr) (s r : LP) (n m : Nat), vs = [.ref a, .ref b] ∧ SLs K H a s ∧ SLs K H b r ∧ SumM n s ∧ SumM m r ∧ n + m ≤ 1000 ∧ s.length * r.length < 1000000 ∧ (∀ q ∈ s, q.2.natAbs < 2 ^ 62) ∧ SLNew H (canon (prod s r)) Q
theorem prod_snoc (l : LP) (p : ND × Int) (b : LP) : prod (l ++ [p]) b = prod l b ++ b.map fun q => (rt p.1 q.1, p.2 * q.2) := by
  unfold prod
  rw [List.flatMap_append, List.flatMap_cons, List.flatMap_nil, List.append_nil]
theorem ok_law_times (T : Tx K mg) : FnOk P w K mg base CX0 2 T.a_law_times T.fd_law_times (["_law_one", "_law_other"]) (spLTimes K) := by
  refine T.F_law_times.ok sc_law_times (fun vs H Q E h => ?_) (fun cdv A outer s H vs Q E hr h => ?_)
  · obtain ⟨a, b, s, r, n, m, rfl, _⟩ := h
    rfl
  obtain ⟨a, b, s, r, n, m, rfl, ⟨xs, ha, hxs⟩, ⟨ys, hb, hys⟩, cs, cr, hnm, hz, hb62, q⟩ := h
  have lx := hxs.length
  have ly := hys.length
  refine ⟨_, (pss_cons (ps_set (i := 2) sc_law_times.nd rfl (.inl rfl) (pe_lst pa_nil))
      (pss_cons (ps_for PassesOwn.never rfl (k_il (K := K) (pi_list (pv 0))) (k_gt (K := K) (pg_tup (by rfl) (pgs_cons (pg_name (i := 3) sc_law_times.nd rfl (.inl rfl)) (pgs_cons (pg_name (i := 4) sc_law_times.nd rfl (.inl rfl)) pgs_nil)))) (pss_one (ps_for PassesOwn.never rfl (k_il (K := K) (pi_list (pv 1))) (k_gt (K := K) (pg_tup (by rfl) (pgs_cons (pg_name (i := 5) sc_law_times.nd rfl (.inl rfl)) (pgs_cons (pg_name (i := 6) sc_law_times.nd rfl (.inl rfl)) pgs_nil)))) (pss_one (ps_expr (k_bm (K := K) (pe_bm PySem.F.plainAttrs_list PySem.F.slot_list_append PySem.F.type_list_append mt_append (pv 2) (pa_cons (pe_tup (pa_cons (pe_call (ok_law_row_times T) (hr.mono (by decide)) (by rfl) T.g_law_row_times T.F_law_row_times.kp T.b_law_row_times .nil pass0 (pa_cons (pv 3) (pa_cons (pv 5) pa_nil))) (pa_cons (pe_op op_mul (pv 4) (pv 6)) pa_nil))) pa_nil))))))))
      (pss_one (ps_ret (pe_call (ok_law_settled T) (hr.mono (by decide)) (by rfl) T.g_law_settled T.F_law_settled.kp T.b_law_settled .nil pass0 (pa_cons (pv 2) pa_nil)))))), ?_⟩
  walk_at "st"
  refine Pm.w_newL (fun l hl => ?_)
  have s1 := same_new hl (.lst [])
  have f1 : (upd H l (.lst [])) l = some (.lst []) := upd_same
  generalize upd H l (.lst []) = H1 at s1 f1 ⊢
  walk_at "st"
  refine Pm.w_rdL (SqL.of (s1 _ _ ha)) ?_
  refine Pm.w_forL (xs := xs) (fun i σ H' => ∃ x3 x4 x5 x6 zs, σ = [some (.ref a), some (.ref b), some (.ref l), x3, x4, x5, x6] ∧ Same H H' ∧ H' l = some (.lst zs) ∧ All2 (NdP H') zs (prod (s.take i) r)) ⟨_, _, _, _, [], rfl, s1, f1, by rw [List.take_zero]; trivial⟩ (fun i σ H' _ ⟨_, _, _, _, _, _, h, _⟩ => SqL.of (h _ _ ha)) ?_ ?_
  · rintro i v σ H2 hi ⟨x3, x4, x5, x6, zs, rfl, s2, f2, hzs⟩
    obtain ⟨q0, hq, hv⟩ := hxs.get hi
    have mq := List.mem_of_getElem? hq
    have ilt : i < xs.length := (List.getElem?_eq_some_iff.mp hi).1
    obtain ⟨t, x0, rfl, ht, hx0⟩ := NdP.ex (ndp_mono _ _ _ _ (keeps s2) hv)
    obtain ⟨ra, era, cra⟩ := cs.row q0 mq
    have b62 := hb62 q0 mq
    have lra := cra.len
    have hil : i * r.length + r.length ≤ s.length * r.length := by rw [← Nat.succ_mul]; exact Nat.mul_le_mul_right _ (by omega)
    walk_at "st"
    refine Pm.w_gtup (SqT.of ht) rfl ?_
    walk_at "st"
    refine Pm.w_rdL (SqL.of (s2 _ _ hb)) ?_
    refine Pm.w_forL (xs := ys) (fun j σ H' => ∃ x5 x6 zs, σ = [some (.ref a), some (.ref b), some (.ref l), some x0, some (.int q0.2), x5, x6] ∧ Same H H' ∧ H' l = some (.lst zs) ∧ All2 (NdP H') zs (prod (s.take i) r ++ (r.take j).map fun q => (rt q0.1 q.1, q0.2 * q.2)) ∧ NdV H' q0.1 x0) ⟨_, _, zs, rfl, s2, f2, by rw [List.take_zero, List.map_nil, List.append_nil]; exact hzs, hx0⟩ (fun i σ H' _ ⟨_, _, _, _, h, _⟩ => SqL.of (h _ _ hb)) ?_ ?_
    · rintro j v2 σ H3 hj ⟨x5, x6, zs, rfl, s3, f3, hzs, hx3⟩
      obtain ⟨q1, hq1, hv1⟩ := hys.get hj
      have mq1 := List.mem_of_getElem? hq1
      have jlt : j < ys.length := (List.getElem?_eq_some_iff.mp hj).1
      obtain ⟨t1, x1, rfl, ht1, hx1⟩ := NdP.ex (ndp_mono _ _ _ _ (keeps s3) hv1)
      obtain ⟨rb, erb, crb⟩ := cr.row q1 mq1
      have lrb := crb.len
      have lz := hzs.length
      rw [List.length_append, prod_len, List.length_map, List.length_take, List.length_take] at lz
      rw [Nat.min_eq_left (show i ≤ s.length by omega), Nat.min_eq_left (show j ≤ r.length by omega)] at lz
      walk_at "st"
      refine Pm.w_gtup (SqT.of ht1) rfl ?_
      walk_at "st"
      refine ⟨.inl ⟨rfl, _, SqL.of f3⟩, ?_⟩
      walk_at "st"
      refine ⟨x0, x1, ra, rb, rfl, by rw [← era]; exact hx3, by rw [← erb]; exact hx1, fun q hq => (List.mem_append.mp hq).elim (cra.mrk q) (crb.mrk q), by omega, fun t4 H4 s4 ht4 => ?_⟩
      have rtr := rt_rowM cra crb
      rw [← rtr.1, ← era, ← erb] at ht4
      have f4 := s4 _ _ f3
      have hx4 := NdV.keep (keeps s4) _ _ hx3
      have hz4 := all2_keep (keeps s4) hzs
      walk_at "st"
      refine Pm.w_newT (fun t5 h5 => ?_)
      have s5 := same_new h5 (.tup [.ref t4, .int (q0.2 * q1.2)])
      have hp5 := NdP.of (q := (rt q0.1 q1.1, q0.2 * q1.2)) (H := upd H4 t5 (.tup [.ref t4, .int (q0.2 * q1.2)])) upd_same (NdV.keep (keeps s5) _ _ ht4)
      have f5 := s5 _ _ f4
      have hz5 := all2_keep (keeps s5) hz4
      have hx5 := NdV.keep (keeps s5) _ _ hx4
      generalize upd H4 t5 (.tup [.ref t4, .int (q0.2 * q1.2)]) = H5 at s5 hp5 f5 hz5 hx5 ⊢
      walk_at "st"
      refine Pm.w_append f5 (size_lt (by omega)) ?_
      have k6 := keeps_lst (ys := zs ++ [.ref t5]) f5
      refine ⟨_, _, _, rfl, same_but hl (s3.trans (s4.trans s5)), upd_same, ?_, NdV.keep k6 _ _ hx5⟩
      rw [take_snoc hq1, List.map_append, List.map_cons, List.map_nil, ← List.append_assoc]
      exact (all2_keep k6 hz5).snoc (ndp_mono _ _ _ _ k6 hp5)
    · rintro σ H3 ⟨x5, x6, zs, rfl, s3, f3, hzs, hx3⟩
      rw [ly, List.take_length] at hzs
      refine ⟨_, _, _, _, zs, rfl, s3, f3, ?_⟩
      rw [take_snoc hq, prod_snoc]
      exact hzs
  · rintro σ H2 ⟨x3, x4, x5, x6, zs, rfl, s2, f2, hzs⟩
    rw [lx, List.take_length] at hzs
    walk_at "st"
    refine ⟨l, prod s r, n + m, rfl, ⟨zs, f2, hzs⟩, prod_rowM cs cr, by rw [prod_len]; exact hz, fun p H4 ws s4 np hp hws => q p H4 ws (s2.trans s4) (s2.free np) hp hws⟩
end
local macro_rules | `(tactic| walk_at "s1") => `(tactic| with_reducible refine Pm.w_nkeys ?_)
local macro_rules | `(tactic| walk_at "s1") => `(tactic| with_reducible refine Pm.w_ng2 ?_)
local macro_rules | `(tactic| walk_at "s1") => `(tactic| with_reducible refine Pm.w_nget ?_)
local macro_rules | `(tactic| walk_at "s1") => `(tactic| with_reducible refine Pm.w_nput ?_)
section
variable {P : Program} {w : World} {K : PySem.W.Frag} {mg : Str → Option Value} {base : Heap}
theorem mass_le {b : Nat} : ∀ {l : LP}, (∀ q ∈ l, q.2.natAbs ≤ b) → mass l ≤ b * l.length
  | [], _ => Nat.le_refl _
  | q :: l, h => by
    have h1 := h q List.mem_cons_self
    have h2 := mass_le (l := l) fun p hp => h p (List.mem_cons_of_mem _ hp)
    show ((q :: l).map fun q => q.2.natAbs).sum ≤ _
    rw [List.map_cons, List.sum_cons, List.length_cons, Nat.mul_add, Nat.mul_one]
    have h2 : (l.map fun q => q.2.natAbs).sum ≤ b * l.length := h2
    omega
theorem canon_bound {b : Nat} {l : LP} (h : ∀ q ∈ l, q.2.natAbs ≤ b) : ∀ q ∈ canon l, q.2.natAbs ≤ b * l.length := fun q hq => by
  rw [(canon_mem hq).2.1]
  exact Nat.le_trans (tot_mass l q.1) (mass_le h)
def spLDraw (K : PySem.W.Frag) : Sp := fun vs H Q _ => ∃ (r : Addr) (row : List Int) (T M : Nat), vs = [.ref r, .int T, .int M] ∧ SqL K H r (row.map V.int) ∧ T * M ≤ row.length ∧ T ≤ row.length ∧ M ≤ 20 ∧ T ≤ 100 ∧ ∀ s, SumC M s → s.length ≤ T → (∀ q ∈ s, q.2.natAbs ≤ 4 * T ∧ RowW (3 * M) q.1) → SLNew H s Q
theorem ok_law_draw_sum (T : Tx K mg) : FnOk P w K mg base CX0 2 T.a_law_draw_sum T.fd_law_draw_sum (["_law_row", "_law_terms", "_law_marks"]) (spLDraw K) := by
  refine T.F_law_draw_sum.ok sc_law_draw_sum (fun vs H Q E h => ?_) (fun cdv A outer s H vs Q E hr h => ?_)
  · obtain ⟨r, row, T, M, rfl, _⟩ := h
    rfl
  obtain ⟨r, row, N, M, rfl, hR, hNM, hN, hM, hT, q⟩ := h
  refine ⟨_, (pss_cons (ps_set (i := 3) sc_law_draw_sum.nd rfl (.inl rfl) (pe_lst pa_nil))
      (pss_cons (ps_for PassesOwn.never rfl (pi_range1 (by rfl) T.m_range (pa_cons (pv 1) pa_nil)) (pg_name (i := 4) sc_law_draw_sum.nd rfl (.inl rfl)) (pss_cons (ps_set (i := 5) sc_law_draw_sum.nd rfl (.inl rfl) (pe_tup pa_nil))
      (pss_cons (ps_for PassesOwn.never rfl (pi_range1 (by rfl) T.m_range (pa_cons (pv 2) pa_nil)) (pg_name (i := 6) sc_law_draw_sum.nd rfl (.inl rfl)) (pss_cons (ps_set (i := 7) sc_law_draw_sum.nd rfl (.inl rfl) (pe_ix (ix_listK (K := K)) (pv 0) (pe_op op_add (pe_op op_mul (pv 4) (pv 2)) (pv 6)) (fun _ _ => rfl)))
      (pss_cons (ps_set (i := 8) sc_law_draw_sum.nd rfl (.inl rfl) (pe_op op_add (pe_op op_mod (pv 7) (pe_int)) (pe_op op_mul (pe_int) (pe_callTy c_int1 (by rfl) T.m_int (by decide +kernel) (pa_cons (pe_cmpR op_eq (pe_op op_mod (pe_op op_fdiv (pv 7) (pe_int)) (pe_int)) (pe_int) (nomark _)) pa_nil)))))
      (pss_cons (ps_set (i := 9) sc_law_draw_sum.nd rfl (.inl rfl) (pe_op op_add (pe_op op_add (pe_op op_add (pv 8) (pe_int)) (pe_op op_mod (pe_op op_fdiv (pv 7) (pe_int)) (pe_int))) (pe_op op_mul (pe_int) (pe_callTy c_int1 (by rfl) T.m_int (by decide +kernel) (pa_cons (pe_cmpR op_eq (pe_op op_mod (pe_op op_fdiv (pv 7) (pe_int)) (pe_int)) (pe_int) (nomark _)) pa_nil)))))
      (pss_one (ps_set (i := 5) sc_law_draw_sum.nd rfl (.inl rfl) (pe_call (ok_law_row_times T) (hr.mono (by decide)) (by rfl) T.g_law_row_times T.F_law_row_times.kp T.b_law_row_times .nil pass0 (pa_cons (pv 5) (pa_cons (pe_tup (pa_cons (pe_tup (pa_cons (pe_tup (pa_cons (pv 8) (pa_cons (pv 9) pa_nil))) (pa_cons (pe_op op_sub (pe_op op_mod (pe_op op_fdiv (pv 7) (pe_int)) (pe_int)) (pe_int)) pa_nil))) pa_nil)) pa_nil)))))))))
      (pss_one (ps_expr (k_bm (K := K) (pe_bm PySem.F.plainAttrs_list PySem.F.slot_list_append PySem.F.type_list_append mt_append (pv 3) (pa_cons (pe_tup (pa_cons (pv 5) (pa_cons (pe_op op_sub (pe_op op_mod (pe_op op_fdiv (pe_ix (ix_listK (K := K)) (pv 0) (pv 4) (fun _ _ => rfl)) (pe_int)) (pe_int)) (pe_int)) pa_nil))) pa_nil))))))))
      (pss_one (ps_ret (pe_call (ok_law_settled T) (hr.mono (by decide)) (by rfl) T.g_law_settled T.F_law_settled.kp T.b_law_settled .nil pass0 (pa_cons (pv 3) pa_nil)))))), ?_⟩
  walk_at "st"
  refine Pm.w_newL (fun l hl => ?_)
  have s1 := same_new hl (.lst [])
  have f1 : (upd H l (.lst [])) l = some (.lst []) := upd_same
  generalize upd H l (.lst []) = H1 at s1 f1 ⊢
  walk_at "st"
  rw [Int.toNat_natCast]
  refine Pm.w_forR (fun k σ H' => ∃ (x4 x5 x6 x7 x8 x9 : Option V) (xs : List V) (m : LP), σ = [some (.ref r), some (.int N), some (.int M), some (.ref l), x4, x5, x6, x7, x8, x9] ∧ Same H H' ∧ H' l = some (.lst xs) ∧ All2 (NdP H') xs m ∧ m.length = k ∧ (∀ q ∈ m, (∃ r, q.1 = encL r ∧ RowC M r) ∧ q.2.natAbs ≤ 4 ∧ RowW (3 * M) q.1)) ⟨_, _, _, _, _, _, [], [], rfl, s1, f1, trivial, rfl, fun q h => absurd h List.not_mem_nil⟩ ?_ ?_
  · rintro k σ H2 hk ⟨x4, x5, x6, x7, x8, x9, xs, m, rfl, s2, f2, hxs, hm, hmq⟩
    have kM : k * M + M ≤ N * M := by rw [← Nat.succ_mul]; exact Nat.mul_le_mul_right _ hk
    walk_at "st"
    refine Pm.w_newT (fun t ht => ?_)
    have s3 := same_new ht (.tup [])
    have hp : NdV (upd H2 t (.tup [])) (encL (canon [])) (.ref t) := row_of_tup (l := canon []) upd_same (by
      have : canon [] = [] := List.length_eq_zero_iff.mp (Nat.le_zero.mp (canon_len []))
      rw [this]
      trivial)
    have cl0 : RowC 0 (canon []) := canon_row (fun q h => absurd h List.not_mem_nil) (Nat.le_refl _)
    have cw0 : RowW (3 * 0) (encL (canon [])) := canon_roww (fun q h => absurd h List.not_mem_nil) (Nat.le_refl _)
    generalize canon [] = r0 at hp cl0 cw0
    walk_at "st"
    rw [Int.toNat_natCast]
    refine Pm.w_forR (fun i σ H' => ∃ (u : Addr) (x6 x7 x8 x9 : Option V) (rr : LP), σ = [some (.ref r), some (.int N), some (.int M), some (.ref l), some (.int (0 + (k : Int))), some (.ref u), x6, x7, x8, x9] ∧ Same H2 H' ∧ NdV H' (encL rr) (.ref u) ∧ RowC i rr ∧ RowW (3 * i) (encL rr)) ⟨t, _, _, _, _, r0, rfl, s3, hp, cl0, cw0⟩ ?_ ?_
    · rintro i σ H3 hi ⟨u, x6, x7, x8, x9, rr, rfl, s4, hu, cr, cw⟩
      have rl := cr.len
      have hR3 := (s2.trans s4).seq hR
      walk_at "st"
      refine Pm.w_ixL hR3 (i := (0 + (k : Int)) * M + (0 + (i : Int))) (v := .int (row.getD (k * M + i) 0)) ?_ ?_
      · have := atI_int (ns := row) (i := ((k * M + i : Nat) : Int)) (by omega) (by omega)
        rw [Int.toNat_natCast] at this
        rw [show (0 + (k : Int)) * M + (0 + (i : Int)) = ((k * M + i : Nat) : Int) by rw [Int.zero_add, Int.zero_add, Int.natCast_add, Int.natCast_mul]]
        exact this
      generalize row.getD (k * M + i) 0 = one
      walk_at "st"
      have va1 : 0 ≤ (one % 4 + 9 * if decide (one / 97 % 5 = 1) = true then 1 else 0) ∧ (one % 4 + 9 * if decide (one / 97 % 5 = 1) = true then 1 else 0) ≤ 13 := by split <;> omega
      have vb1 : 0 ≤ (1 + one / 4 % 3 + 20 * if decide (one / 97 % 5 = 2) = true then 1 else 0) ∧ (1 + one / 4 % 3 + 20 * if decide (one / 97 % 5 = 2) = true then 1 else 0) ≤ 23 := by split <;> omega
      have vab : 0 ≤ ((one % 4 + 9 * if decide (one / 97 % 5 = 1) = true then 1 else 0) + 1 + one / 4 % 3 + 20 * if decide (one / 97 % 5 = 2) = true then 1 else 0) ∧ ((one % 4 + 9 * if decide (one / 97 % 5 = 1) = true then 1 else 0) + 1 + one / 4 % 3 + 20 * if decide (one / 97 % 5 = 2) = true then 1 else 0) ≤ 36 := by omega
      generalize (one % 4 + 9 * if decide (one / 97 % 5 = 1) = true then 1 else 0) = va at va1 vab ⊢
      generalize (va + 1 + one / 4 % 3 + 20 * if decide (one / 97 % 5 = 2) = true then 1 else 0) = vb at vab ⊢
      refine Pm.w_newT (fun t1 h1 => ?_)
      have s5 := same_new h1 (.tup [.int va, .int vb])
      walk_at "st"
      have pw1 : (one / 12 % 7 - 3).natAbs ≤ 3 := by omega
      generalize one / 12 % 7 - 3 = pw at pw1 ⊢
      refine Pm.w_newT (fun t2 h2 => ?_)
      have s6 := same_new h2 (.tup [.ref t1, .int pw])
      walk_at "st"
      refine Pm.w_newT (fun t3 h3 => ?_)
      have s7 := same_new h3 (.tup [.ref t2])
      have s57 := s5.trans (s6.trans s7)
      have m1 := mark_of (p := (va, vb)) (H := upd (upd (upd H3 t1 (.tup [.int va, .int vb])) t2 (.tup [.ref t1, .int pw])) t3 (.tup [.ref t2])) ⟨t1, rfl, (s6.trans s7) _ _ upd_same⟩
      have m2 := NdP.of (q := (encM (va, vb), pw)) (s7 _ _ upd_same) m1
      have m3 : NdV _ (encL [(encM (va, vb), pw)]) (.ref t3) := row_of_tup (xs := [.ref t2]) upd_same ⟨m2, trivial⟩
      walk_at "st"
      refine ⟨.ref u, .ref t3, rr, [(encM (va, vb), pw)], rfl, NdV.keep (keeps s57) _ _ hu, m3, fun q hq => ?_, by rw [List.length_singleton]; omega, fun t4 H4 s8 ht4 => ?_⟩
      · rcases List.mem_append.mp hq with h | h
        · exact cr.mrk q h
        · exact ⟨(va, vb), by rw [List.mem_singleton.mp h]⟩
      exact ⟨t4, _, _, _, _, _, rfl, s4.trans (s57.trans s8), ht4, canon_row (fun q hq => (List.mem_append.mp hq).elim (cr.mrk q) fun h => ⟨(va, vb), by rw [List.mem_singleton.mp h]⟩) (by rw [List.length_append, List.length_singleton]; omega), canon_roww (fun q hq => (List.mem_append.mp hq).elim (cw.of.1 q) fun h => ⟨(va, vb), by rw [List.mem_singleton.mp h], va1, vab⟩) (by rw [mass_append, mass_cons, mass_nil]; have := cw.of.2; show _ + (pw.natAbs + 0) ≤ _; omega)⟩
    · rintro σ H3 ⟨u, x6, x7, x8, x9, rr, rfl, s4, hu, cr, cw⟩
      walk_at "st"
      refine ⟨.inl ⟨rfl, _, SqL.of (s4 _ _ f2)⟩, ?_⟩
      have hR3 := (s2.trans s4).seq hR
      have hx3 := all2_keep (keeps s4) hxs
      have lx := hx3.length
      walk_at "st"
      refine Pm.w_ixL hR3 (atI_int (by omega) (by omega)) ?_
      walk_at "st"
      have bc : (row.getD (0 + (k : Int)).toNat 0 / 90 % 9 - 4).natAbs ≤ 4 := by omega
      generalize row.getD (0 + (k : Int)).toNat 0 / 90 % 9 - 4 = cc at bc ⊢
      refine Pm.w_newT (fun t5 h5 => ?_)
      have s5 := same_new h5 (.tup [.ref u, .int cc])
      walk_at "st"
      refine Pm.w_append ((s4.trans s5) _ _ f2) (size_lt (by omega)) ?_
      have k6 := keeps_lst (ys := xs ++ [.ref t5]) ((s4.trans s5) _ _ f2)
      refine ⟨_, _, _, _, _, _, _, m ++ [(encL rr, cc)], rfl, same_but hl (s2.trans (s4.trans s5)), upd_same, ?_, by rw [List.length_append, List.length_singleton, hm], fun q hq => ?_⟩
      · refine (all2_keep k6 (all2_keep (keeps s5) hx3)).snoc (NdP.of (q := (encL rr, cc)) (k6 _ _ upd_same) (NdV.keep k6 _ _ (NdV.keep (keeps s5) _ _ hu)))
      · rcases List.mem_append.mp hq with h | h
        · exact hmq q h
        · rw [List.mem_singleton.mp h]
          exact ⟨⟨rr, rfl, cr⟩, bc, cw⟩
  · rintro σ H2 ⟨x4, x5, x6, x7, x8, x9, xs, m, rfl, s2, f2, hxs, hm, hmq⟩
    walk_at "st"
    refine ⟨l, m, M, rfl, ⟨xs, f2, hxs⟩, fun q hq => (hmq q hq).1, by omega, fun p H3 ys s3 np hp hys => ?_⟩
    refine q (canon m) (canon_sum fun q hq => (hmq q hq).1) (by have := canon_len m; omega) (fun q0 hq0 => ?_) p H3 ys (s2.trans s3) (s2.free np) hp hys
    have := canon_bound (fun q hq => (hmq q hq).2.1) q0 hq0
    rw [hm] at this
    exact ⟨this, canon_rowws (fun q hq => (hmq q hq).2.2) q0 hq0⟩
end
section
variable {P : Program} {w : World} {K : PySem.W.Frag} {mg : Str → Option Value} {base : Heap}
def spSize : Sp := fun vs H Q _ => ∃ x : Int, vs = [.int x] ∧ 0 ≤ x ∧ ∀ r : Rat, szd r 1024 128 → FrNew H r Q
theorem szd_div {a b : Int} {N M : Nat} (ha : 1 ≤ a ∧ a ≤ N) (hb : 1 ≤ b ∧ b ≤ M) : szd (Rat.divInt a b) N M := by
  have e := div_pos_num (a := a) (b := b) (by omega)
  have g : (0 : Int) < ((Int.gcd a b : Nat) : Int) := gcd_pos (by omega)
  have n1 : (Rat.divInt a b).num ≤ a := by
    rw [← e.1]
    exact Int.ediv_le_self _ (by omega)
  have d1 : ((Rat.divInt a b).den : Int) ≤ b := by
    rw [← e.2]
    exact Int.ediv_le_self _ (by omega)
  have p : 0 < Rat.divInt a b := by
    rw [Rat.divInt_eq_div]
    refine rat_div_pos ?_ ?_
    · exact Rat.intCast_pos.mpr (by omega)
    · exact Rat.intCast_pos.mpr (by omega)
  have := pos_num p
  exact ⟨p, by omega, by omega⟩
theorem ok_law_size (T : Tx K mg) : FnOk P w K mg base CX0 2 T.a_law_size T.fd_law_size ["_law_one"] spSize := by
  refine T.F_law_size.ok sc_law_size (fun vs H Q E h => ?_) (fun cdv A outer s H vs Q E hr h => ?_)
  · obtain ⟨x, rfl, _⟩ := h
    rfl
  obtain ⟨x, rfl, x0, q⟩ := h
  refine ⟨_, (pss_cons (ps_if (pt_cmpR op_eq (pe_op op_mod (pv 0) (pe_int)) (pe_int) (nomark _)) (pss_one (ps_ret (pe_call (ok_law_low T) (hr.mono (by decide)) (by rfl) T.g_law_low T.F_law_low.kp T.b_law_low .nil pass0 (pa_cons (pe_op op_add (pe_int) (pe_op op_mod (pe_op op_fdiv (pv 0) (pe_int)) (pe_int))) (pa_cons (pe_op op_add (pe_int) (pe_op op_mod (pe_op op_fdiv (pv 0) (pe_int)) (pe_int))) pa_nil))))) pss_nil)
      (pss_one (ps_ret (pe_call (ok_law_low T) (hr.mono (by decide)) (by rfl) T.g_law_low T.F_law_low.kp T.b_law_low .nil pass0 (pa_cons (pe_op op_add (pe_int) (pe_op op_mod (pv 0) (pe_int))) (pa_cons (pe_op op_add (pe_int) (pe_op op_mod (pe_op op_fdiv (pv 0) (pe_int)) (pe_int))) pa_nil)))))), ?_⟩
  walk_at "st"
  refine Pm.w_ite (fun e => ?_) (fun e => ?_)
  · walk_at "st"
    refine ⟨_, _, 8, rfl, by omega, by omega, by decide, q _ (szd_div ?_ ?_)⟩
    · constructor <;> omega
    · constructor <;> omega
  · walk_at "st"
    refine ⟨_, _, 8, rfl, by omega, by omega, by decide, q _ (szd_div ?_ ?_)⟩
    · constructor <;> omega
    · constructor <;> omega
end
section
variable {P : Program} {w : World} {K : PySem.W.Frag} {mg : Str → Option Value} {base : Heap}
def spPart (K : PySem.W.Frag) : Sp := fun vs H Q _ => ∃ (t : Addr) (r : Rat) (n : Nat), vs = [.ref t] ∧ SqT K H t [.int r.num, .int r.den] ∧ r.den < 2 ^ n ∧ n ≤ 9000 ∧ ∀ H', Same H H' → Q (.bl true) H'
theorem ok_law_part (T : Tx K mg) : FnOk P w K mg base CX0 2 T.a_law_part T.fd_law_part ["_law_found"] (spPart K) := by
  refine T.F_law_part.ok sc_law_part (fun vs H Q E h => ?_) (fun cdv A outer s H vs Q E hr h => ?_)
  · obtain ⟨t, r, n, rfl, _⟩ := h
    rfl
  obtain ⟨t, r, n, rfl, ht, hn, hn9, q⟩ := h
  refine ⟨_, (pss_cons (ps_if (PW.pt (pw_or (pt_not (pt_val (pe_callB (call_isK (K := K)) (by rfl) T.m_isinstance (by decide +kernel) (pa_cons (pv 0) (pa_cons (pe_bltn (v := .ty "tuple") (by rfl) T.m_tuple (by decide +kernel) rfl) pa_nil))))) (pw_or1 (pt_cmpR op_ne (pe_callB (c_len (K := K)) (by rfl) T.m_len PySem.boot_len (pa_cons (pv 0) pa_nil)) (pe_int) (nomark _))))) (pss_one (ps_ret (pe_bl))) pss_nil)
      (pss_cons (ps_if (PW.pt (pw_or (pt_not (pt_val (pe_call (ok_law_whole T) (hr.mono (by decide)) (by rfl) T.g_law_whole T.F_law_whole.kp T.b_law_whole .nil pass0 (pa_cons (pe_ix (ix_tupK (K := K)) (pv 0) (pe_int) (fun _ _ => rfl)) pa_nil)))) (pw_or (pt_not (pt_val (pe_call (ok_law_whole T) (hr.mono (by decide)) (by rfl) T.g_law_whole T.F_law_whole.kp T.b_law_whole .nil pass0 (pa_cons (pe_ix (ix_tupK (K := K)) (pv 0) (pe_int) (fun _ _ => rfl)) pa_nil)))) (pw_or1 (pt_cmpR op_le (pe_ix (ix_tupK (K := K)) (pv 0) (pe_int) (fun _ _ => rfl)) (pe_int) (nomark _)))))) (pss_one (ps_ret (pe_bl))) pss_nil)
      (pss_one (ps_ret (pe_cmpR (op_eqDK (K := K) hr.units) (pe_call (ok_law_low T) (hr.mono (by decide)) (by rfl) T.g_law_low T.F_law_low.kp T.b_law_low .nil pass0 (pa_cons (pe_ix (ix_tupK (K := K)) (pv 0) (pe_int) (fun _ _ => rfl)) (pa_cons (pe_ix (ix_tupK (K := K)) (pv 0) (pe_int) (fun _ _ => rfl)) pa_nil))) (pv 0) (nomark _)))))), ?_⟩
  have rd := r.den_nz
  walk_at "st"
  refine Pm.w_isiTup ht (b := true) (by decide +kernel) ?_
  walk_at "st"
  refine Pm.w_lenT ht ?_
  walk_at "st"
  refine Pm.w_iteN (fun z => absurd rfl z) (fun _ => ?_)
  walk_at "st"
  refine Pm.w_ixT ht (atI2 _ _).1 ?_
  walk_at "st"
  refine ⟨_, rfl, ?_⟩
  walk_at "st"
  refine Pm.w_ixT ht (atI2 _ _).2 ?_
  walk_at "st"
  refine ⟨_, rfl, ?_⟩
  walk_at "st"
  refine Pm.w_ixT ht (atI2 _ _).2 ?_
  walk_at "st"
  refine Pm.w_ite (fun z => absurd z (by omega)) (fun _ => ?_)
  walk_at "st"
  refine Pm.w_ixT ht (atI2 _ _).1 ?_
  walk_at "st"
  refine Pm.w_ixT ht (atI2 _ _).2 ?_
  walk_at "st"
  refine ⟨_, _, n, rfl, den_ne r, by omega, hn9, fun u H' s1 nu hu => ?_⟩
  walk_at "st"
  refine Pm.w_eqPair (SqT.of hu) (Same.tup s1 ht) ?_
  rw [divInt_self', decide_eq_true ⟨rfl, rfl⟩]
  exact q H' s1
end
section
def rNeNil (K : PySem.W.Frag) : R2 := fun x y H Q => ∃ (a b : Addr) (xs : List V), x = .ref a ∧ y = .ref b ∧ SqL K H a xs ∧ SqL K H b [] ∧ Q (.bl (!xs.isEmpty)) H
theorem op_neNil {X : Cx} {K : PySem.W.Frag} (hu : X.A.units + 65 < cLine) (e : X.K = K := by rfl) : OpR X (compareOp .NotEq) (rNeNil K) := by
  subst e
  intro pins s σ H x y v u Q I rx ry h
  obtain ⟨a, b, xs, rfl, rfl, ha, hb, q⟩ := h
  cases rx
  cases ry
  obtain ⟨ia, ra, ⟨oa, na, la1, la2, _, la3⟩, _⟩ := I.list ha
  obtain ⟨ib, rb, ⟨ob, nb, lb1, lb2, _, lb3⟩, _⟩ := I.list hb
  have la : s.heap.IsList a ia.toArray := ⟨oa, la1, la2, na, la3⟩
  have lb : s.heap.IsList b ib.toArray := ⟨ob, lb1, lb2, nb, lb3⟩
  cases rb
  cases xs with
  | nil =>
    cases ra
    exact SeqAt.RcNeAt.lists la lb rfl (by omega) (e := fun _ => true) (fun j h1 _ => absurd h1 (by simp)) _ _ _ _ ⟨.bl false, H, I, rfl, q⟩
  | cons x0 xs =>
    cases ra
    exact SeqAt.RcNeAt.lists_lengths la lb (by simp) (by omega) _ _ _ _ ⟨.bl true, H, I, rfl, q⟩
end
section
variable {P : Program} {w : World} {K : PySem.W.Frag} {mg : Str → Option Value} {base : Heap}
theorem w_ldPop {K : PySem.W.Frag} {H : Hp} {d b : Addr} {ks : List IP} {L : IP → IP} {k : IP} {Q : VK} (h : LD K H d ks L) (hb : Pr H (.ref b) k) (m : k ∈ ks) (q : ∀ v es, FrV K H v (L k) → LD K (upd H d (.dT es)) d (ks.filter fun j => decide (j ≠ k)) L → Q v (upd H d (.dT es))) : rPop1T (.ref d) [.ref b] H Q := by
  obtain ⟨n, es, h1, h2⟩ := h
  obtain ⟨v, e, hv⟩ := (ens_val h2 k).2 m
  exact ⟨d, es, kk k, b, v, rfl, rfl, h1, hb.kkey, e, q v _ hv ⟨n.sublist List.filter_sublist, _, upd_same, ens_keep (keeps_dT h1) (ens_drop h2)⟩⟩
theorem rp_int (n : Int) : rp (n : Rat) = (n, 1) := by
  unfold rp
  rw [Rat.num_intCast, Rat.den_intCast]
  rfl
def spLWorth (K : PySem.W.Frag) : Sp := fun vs H Q _ => ∃ (l d : Addr) (s : LP) (ks : List IP) (G : IP → Rat) (B m : Nat), vs = [.ref l, .ref d] ∧ SLs K H l s ∧ LD K H d ks (fun k => rp (G k)) ∧ (∀ q ∈ s, ∃ r, q.1 = encL r ∧ (∀ q ∈ r, ∃ p, q.1 = encM p) ∧ mass r ≤ B) ∧ (∀ q ∈ s, q.2.natAbs < 1000) ∧ B ≤ 1000 ∧ GoodL G ks m ∧ s.length * (20 + B * m) ≤ 4000 ∧ 1 + B * m ≤ 4000 ∧ (∀ q ∈ s, ∀ p ∈ decL q.1, decM p.1 ∈ ks) ∧
  ∀ (t : Addr) (H' : Hp), Same H H' → FrV K H' (.ref t) (rp (sumF G s)) → Q (.ref t) H'
theorem ok_law_worth (T : Tx K mg) : FnOk P w K mg base CX0 3 T.a_law_worth T.fd_law_worth (["_law_one", "_law_lengths"]) (spLWorth K) := by
  refine T.F_law_worth.ok sc_law_worth (fun vs H Q E h => ?_) (fun cdv A outer s H vs Q E hr h => ?_)
  · obtain ⟨l, d, s, ks, G, B, m, rfl, _⟩ := h
    rfl
  obtain ⟨l, d, sm, ks, G, B, m, rfl, ⟨xs, hl, hxs⟩, hD, hrw, hct, hB, hG, hsz, hBm, hyes, q⟩ := h
  have lx := hxs.length
  refine ⟨_, (pss_cons (ps_set (i := 2) sc_law_worth.nd rfl (.inl rfl) (pe_tup (pa_cons (pe_int) (pa_cons (pe_int) pa_nil))))
      (pss_cons (ps_for PassesOwn.never rfl (k_il (K := K) (pi_list (pv 0))) (k_gt (K := K) (pg_tup (by rfl) (pgs_cons (pg_name (i := 3) sc_law_worth.nd rfl (.inl rfl)) (pgs_cons (pg_name (i := 4) sc_law_worth.nd rfl (.inl rfl)) pgs_nil)))) (pss_cons (ps_set (i := 5) sc_law_worth.nd rfl (.inl rfl) (pe_tup (pa_cons (pv 4) (pa_cons (pe_int) pa_nil))))
      (pss_cons (ps_for PassesOwn.never rfl (k_it (K := K) (pi_tup (pv 3))) (k_gt (K := K) (pg_tup (by rfl) (pgs_cons (pg_name (i := 6) sc_law_worth.nd rfl (.inl rfl)) (pgs_cons (pg_name (i := 7) sc_law_worth.nd rfl (.inl rfl)) pgs_nil)))) (pss_one (ps_for PassesOwn.never rfl (pi_range1 (by rfl) T.m_range (pa_cons (pe_callB c_abs (by rfl) T.m_abs (by decide +kernel) (pa_cons (pv 7) pa_nil)) pa_nil)) (pg_name (i := 8) sc_law_worth.nd rfl (.inl rfl)) (pss_one (ps_if (pt_cmpR op_gt (pv 7) (pe_int) (nomark _)) (pss_one (ps_set (i := 5) sc_law_worth.nd rfl (.inl rfl) (pe_call (ok_law_mul T) (hr.mono (by decide)) (by rfl) T.g_law_mul T.F_law_mul.kp T.b_law_mul .nil pass0 (pa_cons (pv 5) (pa_cons (pe_dget (hu_of hr) (pv 1) (pv 6) (fun _ _ => rfl)) pa_nil))))) (pss_one (ps_set (i := 5) sc_law_worth.nd rfl (.inl rfl) (pe_call (ok_law_div T) (hr.mono (by decide)) (by rfl) T.g_law_div T.F_law_div.kp T.b_law_div .nil pass0 (pa_cons (pv 5) (pa_cons (pe_dget (hu_of hr) (pv 1) (pv 6) (fun _ _ => rfl)) pa_nil))))))))))
      (pss_one (ps_set (i := 2) sc_law_worth.nd rfl (.inl rfl) (pe_call (ok_law_add T) (hr.mono (by decide)) (by rfl) T.g_law_add T.F_law_add.kp T.b_law_add .nil pass0 (pa_cons (pv 2) (pa_cons (pv 5) pa_nil))))))))
      (pss_one (ps_ret (pv 2))))), ?_⟩
  walk_at "st"
  refine Pm.w_newT (fun t0 h0 => ?_)
  have s1 := same_new h0 (.tup [.int 0, .int 1])
  have f1 : FrV K (upd H t0 (.tup [.int 0, .int 1])) (.ref t0) (rp 0) := ⟨t0, rfl, .inl upd_same⟩
  generalize upd H t0 (.tup [.int 0, .int 1]) = H1 at s1 f1 ⊢
  walk_at "st"
  refine Pm.w_rdL (SqL.of (s1 _ _ hl)) ?_
  refine Pm.w_forL (xs := xs) (fun i σ H' => ∃ (u : Addr) (x3 x4 x5 x6 x7 x8 : Option V), σ = [some (.ref l), some (.ref d), some (.ref u), x3, x4, x5, x6, x7, x8] ∧ Same H H' ∧ FrV K H' (.ref u) (rp (sumF G (sm.take i))) ∧ rb (sumF G (sm.take i)) (2 + i * (20 + B * m))) ⟨_, _, _, _, _, _, _, rfl, s1, f1, by rw [List.take_zero]; exact rb.mono (n := 1) (show rb (0 : Rat) 1 from ⟨by decide, by decide⟩) (by omega)⟩ (fun i σ H' _ ⟨_, _, _, _, _, _, _, _, h, _⟩ => SqL.of (h _ _ hl)) ?_ ?_
  · rintro i v σ H2 hi ⟨u, x3, x4, x5, x6, x7, x8, rfl, s2, f2, b2⟩
    obtain ⟨q0, hq, hv⟩ := hxs.get hi
    have mq := List.mem_of_getElem? hq
    have ilt : i < xs.length := (List.getElem?_eq_some_iff.mp hi).1
    have il : i * (20 + B * m) + (20 + B * m) ≤ sm.length * (20 + B * m) := by rw [← Nat.succ_mul]; exact Nat.mul_le_mul_right _ (by omega)
    obtain ⟨t, x0, rfl, ht, hx0⟩ := NdP.ex (ndp_mono _ _ _ _ (keeps s2) hv)
    obtain ⟨r, er, hm, hb⟩ := hrw q0 mq
    have hc := hct q0 mq
    have yes := hyes q0 mq
    rw [er] at hx0
    rw [er, dec_enc] at yes
    obtain ⟨a, ys, rfl, ha, hys⟩ := row_ex hx0
    have ly := hys.length
    have b3 : rb ((q0.2 : Rat)) 10 := ⟨by rw [Rat.num_intCast]; exact Nat.lt_of_lt_of_le hc (by decide), by rw [Rat.den_intCast]; decide⟩
    walk_at "st"
    refine Pm.w_gtup (SqT.of ht) rfl ?_
    walk_at "st"
    refine Pm.w_newT (fun t3 h3 => ?_)
    have s3 := same_new h3 (.tup [.int q0.2, .int 1])
    have f3 : FrV K (upd H2 t3 (.tup [.int q0.2, .int 1])) (.ref t3) (rp (rowF G (r.take 0) (q0.2 : Rat))) := ⟨t3, rfl, .inl (by rw [List.take_zero]; show _ = some (HO.tup [.int (rp (q0.2 : Rat)).1, .int (rp (q0.2 : Rat)).2]); rw [rp_int]; exact upd_same)⟩
    generalize upd H2 t3 (.tup [.int q0.2, .int 1]) = H3 at s3 f3 ⊢
    walk_at "st"
    refine Pm.w_rdT (SqT.of (s3 _ _ ha)) ?_
    refine Pm.w_forT (xs := ys) (fun i σ H' => ∃ (v : Addr) (x6 x7 x8 : Option V), σ = [some (.ref l), some (.ref d), some (.ref u), some (.ref a), some (.int q0.2), some (.ref v), x6, x7, x8] ∧ Same H2 H' ∧ FrV K H' (.ref v) (rp (rowF G (r.take i) (q0.2 : Rat)))) ⟨t3, _, _, _, rfl, s3, f3⟩ (fun i σ H' _ ⟨_, _, _, _, _, h, _⟩ => SqT.of (h _ _ ha)) ?_ ?_
    · rintro j v σ H4 hj ⟨v4, x6, x7, x8, rfl, s4, f4⟩
      obtain ⟨q1, hq1, hv1⟩ := hys.get hj
      have mq1 := List.mem_of_getElem? hq1
      obtain ⟨t5, x0, rfl, ht5, hx5⟩ := NdP.ex (ndp_mono _ _ _ _ (keeps s4) hv1)
      obtain ⟨p, ep⟩ := hm q1 mq1
      rw [ep] at hx5
      obtain ⟨b, rfl, hb5⟩ := mark_ex hx5
      have dm : decM q1.1 = p := by rw [ep]; rfl
      have c : p ∈ ks := by rw [← dm]; exact yes q1 mq1
      have hD4 := hD.same (s2.trans s4)
      have mg0 := mass_get hq1
      obtain ⟨g0, g1⟩ := hG p c
      have br : rb (rowF G (r.take j) (q0.2 : Rat)) (10 + mass (r.take j) * m) := rowF_rb (fun q hq => hG _ (yes q (List.mem_of_mem_take hq))) b3
      have bmul : mass (r.take j) * m + q1.2.natAbs * m ≤ B * m := by rw [← Nat.add_mul]; exact Nat.mul_le_mul_right _ (by omega)
      walk_at "st"
      refine Pm.w_gtup (SqT.of ht5) rfl ?_
      walk_at "st"
      rw [show (if q1.2 < 0 then -q1.2 else q1.2).toNat = q1.2.natAbs by omega]
      refine Pm.w_forR (fun k σ H' => ∃ (v : Addr) (x8 : Option V), σ = [some (.ref l), some (.ref d), some (.ref u), some (.ref a), some (.int q0.2), some (.ref v), some (.ref b), some (.int q1.2), x8] ∧ Same H4 H' ∧ FrV K H' (.ref v) (rp (itN (G p) q1.2 k (rowF G (r.take j) (q0.2 : Rat))))) ⟨v4, _, rfl, Same.refl _, f4⟩ ?_ ?_
      · rintro k σ H5 hk ⟨v5, x8, rfl, s5, f5⟩
        have hD5 := hD4.same s5
        have hb6 : Pr H5 (.ref b) p := ⟨b, rfl, s5 _ _ hb5⟩
        have bj := itN_rb q1.2 g0 g1 br k
        have jm : k * m + m ≤ q1.2.natAbs * m := by rw [← Nat.succ_mul]; exact Nat.mul_le_mul_right _ hk
        walk_at "st"
        refine Pm.w_ite (fun e => ?_) (fun e => ?_)
        · walk_at "st"
          refine w_ldGet hD5 hb6 c (fun t4 h4 => ?_)
          walk_at "st"
          refine ⟨v5, t4, _, _, _, _, rfl, f5, h4, bj, g1, by omega, fun t5 H5 s6 n5 h5 => ?_⟩
          refine ⟨t5, _, rfl, s5.trans s6, ⟨t5, rfl, .inl ?_⟩⟩
          unfold itN
          rw [if_pos e]
          exact h5
        · walk_at "st"
          refine w_ldGet hD5 hb6 c (fun t4 h4 => ?_)
          walk_at "st"
          refine ⟨v5, t4, _, _, _, _, rfl, f5, h4, bj, g1, by omega, g0, fun t5 H5 s6 n5 h5 => ?_⟩
          refine ⟨t5, _, rfl, s5.trans s6, ⟨t5, rfl, .inl ?_⟩⟩
          unfold itN
          rw [if_neg e]
          exact h5
      · rintro σ H5 ⟨v5, x8, rfl, s5, f5⟩
        refine ⟨v5, _, _, _, rfl, s4.trans s5, ?_⟩
        rw [take_snoc hq1, rowF_snoc, dm]
        exact f5
    · rintro σ H4 ⟨v4, x6, x7, x8, rfl, s4, f4⟩
      rw [ly, List.take_length, rowF_lin] at f4
      have b4 : rb (rowF G r 1) (1 + B * m) := (rowF_rb (n := 1) (v := 1) (fun q hq => hG _ (yes q hq)) ⟨by decide, by decide⟩).mono (by have := Nat.mul_le_mul_right m hb; omega)
      walk_at "st"
      refine ⟨u, v4, _, _, _, _, rfl, f2.keep (keeps s4), f4, b2, rb_mul b3 b4, by omega, fun t6 H6 s6 n6 h6 => ?_⟩
      have e6 : sumF G (sm.take (i + 1)) = sumF G (sm.take i) + (q0.2 : Rat) * rowF G r 1 := by rw [take_snoc hq, sumF_snoc, er, dec_enc]
      exact ⟨t6, _, _, _, _, _, _, rfl, s2.trans (s4.trans s6), ⟨t6, rfl, .inl (by rw [e6]; exact h6)⟩, by rw [e6]; exact (rb_add b2 (rb_mul b3 b4)).mono (by rw [Nat.add_mul]; omega)⟩
  · rintro σ H2 ⟨u, x3, x4, x5, x6, x7, x8, rfl, s2, f2, b2⟩
    rw [lx, List.take_length] at f2
    walk_at "st"
    exact q u H2 s2 f2
end
section
variable {P : Program} {w : World} {K : PySem.W.Frag} {mg : Str → Option Value} {base : Heap}
theorem szd_rb6 {r : Rat} (h : szd r 1024 128) : rb r 11 := by
  obtain ⟨_, h1, h2⟩ := h
  exact ⟨by omega, by omega⟩
/-- the marks of a sum, one behind the other -/
def marksOf (s : LP) : List IP := s.flatMap fun q => (decL q.1).map fun p => decM p.1
theorem marksOf_snoc (s : LP) (q : ND × Int) : marksOf (s ++ [q]) = marksOf s ++ (decL q.1).map fun p => decM p.1 := by
  unfold marksOf
  rw [List.flatMap_append, List.flatMap_cons, List.flatMap_nil, List.append_nil]
theorem mem_marks {s : LP} {k : IP} : k ∈ marksOf s ↔ ∃ q ∈ s, ∃ p ∈ decL q.1, decM p.1 = k := by
  unfold marksOf
  rw [List.mem_flatMap]
  constructor
  · rintro ⟨q, hq, h⟩
    obtain ⟨p, hp, e⟩ := List.mem_map.mp h
    exact ⟨q, hq, p, hp, e⟩
  · rintro ⟨q, hq, p, hp, e⟩
    exact ⟨q, hq, List.mem_map.mpr ⟨p, hp, e⟩⟩
theorem marks_len {n : Nat} : ∀ {s : LP}, (∀ q ∈ s, (decL q.1).length ≤ n) → (marksOf s).length ≤ s.length * n
  | [], _ => Nat.zero_le _
  | q :: s, h => by
    have h1 := h q List.mem_cons_self
    have h2 := marks_len (s := s) fun p hp => h p (List.mem_cons_of_mem _ hp)
    show ((q :: s).flatMap _).length ≤ _
    rw [List.flatMap_cons, List.length_append, List.length_map, List.length_cons, Nat.add_mul, Nat.one_mul]
    have h2 : (s.flatMap fun q => (decL q.1).map fun p => decM p.1).length ≤ s.length * n := h2
    omega
theorem prs_snoc {H : Hp} {vs : List V} {ps : List IP} {v : V} {p : IP} (h : Prs H vs ps) (hv : Pr H v p) : Prs H (vs ++ [v]) (ps ++ [p]) := All2.snoc h hv
def spLaw (K : PySem.W.Frag) : Sp := fun vs H Q _ => ∃ (a : Addr) (ns : List Int), vs = [.ref a] ∧ SqL K H a (ns.map V.int) ∧ ns.length ≤ 63 ∧ ∀ H', Q (.bl true) H'
theorem ok_law (T : Tx K mg) : FnOk P w K mg base CX0 6 T.a_law T.fd_law ["_law_script"] (spLaw K) := by
  refine T.F_law.ok sc_law (fun vs H Q E h => ?_) (fun cdv A outer s H vs Q E hr h => ?_)
  · obtain ⟨a, ns, rfl, _⟩ := h
    rfl
  obtain ⟨sc, ns, rfl, hS, hl, q⟩ := h
  refine ⟨_, (pss_cons (ps_set (i := 1) sc_law.nd rfl (.inl rfl) (pe_call (ok_law_flow T) (hr.mono (by decide)) (by rfl) T.g_law_flow T.F_law_flow.kp T.b_law_flow .nil pass0 (pa_cons (pv 0) (pa_cons (pe_int) pa_nil))))
      (pss_cons (ps_set (i := 2) sc_law.nd rfl (.inl rfl) (pe_call (ok_law_draw_sum T) (hr.mono (by decide)) (by rfl) T.g_law_draw_sum T.F_law_draw_sum.kp T.b_law_draw_sum .nil pass0 (pa_cons (pe_slice (sl_listK (K := K)) (pv 1) (po_some (pe_int)) po_none) (pa_cons (pe_op op_mod (pe_ix (ix_listK (K := K)) (pv 1) (pe_int) (fun _ _ => rfl)) (pe_int)) (pa_cons (pe_int) pa_nil)))))
      (C8.pss_cut (ps_if (pt_cmpR op_eq (pe_op op_mod (pe_op op_fdiv (pe_ix (ix_listK (K := K)) (pv 1) (pe_int) (fun _ _ => rfl)) (pe_int)) (pe_int)) (pe_int) (nomark _)) (pss_cons (ps_set (i := 2) sc_law.nd rfl (.inl rfl) (pe_lst (pa_cons (pe_tup (pa_cons (pe_tup (pa_cons (pe_tup (pa_cons (pe_tup (pa_cons (pe_int) (pa_cons (pe_int) pa_nil))) (pa_cons (pe_op op_sub (pe_int) (pe_op op_mod (pe_ix (ix_listK (K := K)) (pv 1) (pe_int) (fun _ _ => rfl)) (pe_int))) pa_nil))) pa_nil)) (pa_cons (pe_op op_sub (pe_int) (pe_op op_mod (pe_ix (ix_listK (K := K)) (pv 1) (pe_int) (fun _ _ => rfl)) (pe_int))) pa_nil))) pa_nil)))
      (pss_one (ps_set (i := 2) sc_law.nd rfl (.inl rfl) (pe_call (ok_law_settled T) (hr.mono (by decide)) (by rfl) T.g_law_settled T.F_law_settled.kp T.b_law_settled .nil pass0 (pa_cons (pe_call (ok_law_times T) (hr.mono (by decide)) (by rfl) T.g_law_times T.F_law_times.kp T.b_law_times .nil pass0 (pa_cons (pv 2) (pa_cons (pe_lst (pa_cons (pe_tup (pa_cons (pe_tup pa_nil) (pa_cons (pe_int) pa_nil))) pa_nil)) pa_nil))) pa_nil))))) pss_nil)
      (pss_cons (ps_set (i := 3) sc_law.nd rfl (.inl rfl) (pe_dispT1 hr.u2 (pe_tup (pa_cons (pe_int) (pa_cons (pe_int) pa_nil))) (pe_tup (pa_cons (pe_int) (pa_cons (pe_int) pa_nil)))))
      (pss_cons (ps_set (i := 4) sc_law.nd rfl (.inl rfl) (pe_lst pa_nil))
      (pss_cons (ps_for PassesOwn.never rfl (k_il (K := K) (pi_list (pv 2))) (k_gt (K := K) (pg_tup (by rfl) (pgs_cons (pg_name (i := 5) sc_law.nd rfl (.inl rfl)) (pgs_cons (pg_name (i := 6) sc_law.nd rfl (.inl rfl)) pgs_nil)))) (pss_one (ps_for PassesOwn.never rfl (k_it (K := K) (pi_tup (pv 5))) (k_gt (K := K) (pg_tup (by rfl) (pgs_cons (pg_name (i := 7) sc_law.nd rfl (.inl rfl)) (pgs_cons (pg_name (i := 8) sc_law.nd rfl (.inl rfl)) pgs_nil)))) (pss_cons (ps_expr (k_bm (K := K) (pe_bm PySem.F.plainAttrs_list PySem.F.slot_list_append PySem.F.type_list_append mt_append (pv 4) (pa_cons (pv 7) pa_nil))))
      (pss_one (ps_dput (hu_of hr) (pv 3) (pv 7) (pe_call (ok_law_size T) (hr.mono (by decide)) (by rfl) T.g_law_size T.F_law_size.kp T.b_law_size .nil pass0 (pa_cons (pe_ix (ix_listK (K := K)) (pv 1) (pe_op op_add (pe_int) (pe_op op_mod (pe_callB (c_len (K := K)) (by rfl) T.m_len PySem.boot_len (pa_cons (pv 4) pa_nil)) (pe_int))) (fun _ _ => rfl)) pa_nil)) rfl))))))
      (pss_cons (ps_set (i := 9) sc_law.nd rfl (.inl rfl) ((pe_and (pe_cmpR op_eq (pe_op op_mod (pe_ix (ix_listK (K := K)) (pv 1) (pe_int) (fun _ _ => rfl)) (pe_int)) (pe_int) (nomark _)) (pe_one (pe_cmpR (op_neNil (K := K) hr.u65) (pv 4) (pe_lst pa_nil) (nomark _))))))
      (C8.pss_cut (ps_if (pt_val (pv 9)) (pss_one (ps_expr (k_bm (K := K) (pe_bm PySem.F.plainAttrs_dict PySem.F.slot_dict_pop PySem.F.type_dict_pop (mt_pop1T hr.u2) (pv 3) (pa_cons (pe_ix (ix_listK (K := K)) (pv 4) (pe_op op_mod (pe_ix (ix_listK (K := K)) (pv 1) (pe_int) (fun _ _ => rfl)) (pe_callB (c_len (K := K)) (by rfl) T.m_len PySem.boot_len (pa_cons (pv 4) pa_nil))) (fun _ _ => rfl)) pa_nil))))) pss_nil)
      (pss_cons (ps_set (i := 10) sc_law.nd rfl (.inl rfl) (pe_callTy (call_dictM hr.u2) (by rfl) T.m_dict (by decide +kernel) (pa_cons (pv 3) pa_nil)))
      (pss_cons (ps_set (i := 11) sc_law.nd rfl (.inl rfl) (pe_callTy (c_listOf (K := K)) (by rfl) T.m_list (by decide +kernel) (pa_cons (pv 2) pa_nil)))
      (pss_cons (ps_try_as (i := 13) rfl rfl sc_law.nd rfl rfl ⟨rfl, by decide, .inl T.g_MeadError⟩ takes0 (fun W pn xe tk _ => (pss_one (ps_set (i := 12) sc_law.nd rfl (.inl rfl) (by exact (pe_callS (ok_worth T) (hr.mono (by decide)) (by rfl) T.g_worth T.F_worth.kp T.b_worth (fun q => passAt tk q) (by exact (pa_cons (pv 11) (pa_cons (pv 10) pa_nil)))))))) (fun a oe cls d pn hz hf => (pss_one (ps_ret ((pe_and (pv 9) (pe_one (pe_callB (c_isX (K := K) hz hf) (by rfl) T.m_isinstance (by decide +kernel) (pa_cons (pv 13) (pa_cons (pe_glob (v := .ref T.c_NoLetter) (by rfl) T.g_NoLetter rfl) pa_nil))))))))))
      (pss_cons (ps_if (PW.pt (pw_or (pt_val (pv 9)) (pw_or (pt_cmpR (op_neT (K := K) hr.u65) (pv 10) (pv 3) (nomark _)) (pw_or1 (pt_cmpR (op_neDK (K := K) hr.units) (pv 11) (pv 2) (nomark _)))))) (pss_one (ps_ret (pe_bl))) pss_nil)
      (pss_one (ps_ret ((pe_and (pe_call (ok_law_part T) (hr.mono (by decide)) (by rfl) T.g_law_part T.F_law_part.kp T.b_law_part .nil pass0 (pa_cons (pv 12) pa_nil)) (pe_one (pe_cmpR (op_eqDK (K := K) hr.units) (pv 12) (pe_call (ok_law_worth T) (hr.mono (by decide)) (by rfl) T.g_law_worth T.F_law_worth.kp T.b_law_worth .nil pass0 (pa_cons (pv 2) (pa_cons (pv 3) pa_nil))) (nomark _))))))))))))))))))), ?_⟩
  walk_at "st"
  refine ⟨sc, ns, 34, rfl, hS, by decide, fun row H1 r hrow hb s1 nr hr1 => ?_⟩
  have hR : SqL K H1 r (row.map V.int) := SqL.of hr1
  have bd : ∀ i : Nat, i < 34 → 0 ≤ row.getD i 0 ∧ row.getD i 0 < 1000000 := fun i hi => by
    have := hb (row.getD i 0) (by rw [List.getD_eq_getElem?_getD, List.getElem?_eq_getElem (by omega)]; exact List.getElem_mem _)
    exact this
  walk_at "st"
  refine Pm.w_slL hR (fun p1 hp1 => ?_)
  rw [cut_drop (by decide) (by rw [List.length_map, hrow]; decide), ← List.map_drop]
  have s2 := same_new hp1 (.lst ((row.drop (4 : Int).toNat).map V.int))
  walk_at "st"
  refine Pm.w_ixL (s2.seq hR) (atI_int (by omega) (by omega)) ?_
  walk_at "st"
  have b0 := bd 0 (by decide)
  have b1 := bd 1 (by decide)
  have b2 := bd 2 (by decide)
  refine ⟨p1, row.drop (4 : Int).toNat, (row.getD 1 0 % 6).toNat, 3, ?_, SqL.of upd_same, by rw [List.length_drop, hrow]; show _ ≤ 30; omega, by rw [List.length_drop, hrow]; show _ ≤ 30; omega, by decide, by omega, fun s0 cs0 ls0 bs0 p2 H2 xs s3 np2 hp2 hxs => ?_⟩
  · rw [Int.toNat_of_nonneg (by omega)]
    rfl
  have s23 := s2.trans s3
  have hR2 := s23.seq hR
  have st0 : SLs K H2 p2 s0 := ⟨xs, hp2, hxs⟩
  walk_at "st"
  refine Pm.w_cut (fun σ' H' => ∃ (p : Addr) (s : LP), σ' = [some (.ref sc), some (.ref r), some (.ref p), none, none, none, none, none, none, none, none, none, none, none] ∧ Same H2 H' ∧ SLs K H' p s ∧ SumC 3 s ∧ s.length ≤ 5 ∧ ∀ q ∈ s, q.2.natAbs ≤ 20 ∧ RowW 40 q.1) ?_ ?_
  · walk_at "st"
    refine Pm.w_ixL hR2 (atI_int (by omega) (by omega)) ?_
    walk_at "st"
    refine Pm.w_ite (fun e => ?_) (fun e => ?_)
    · walk_at "st"
      refine Pm.w_newT (fun t1 h1 => ?_)
      have q1 := same_new h1 (.tup [.int 2, .int 3])
      walk_at "st"
      refine Pm.w_ixL (q1.seq hR2) (atI_int (by omega) (by omega)) ?_
      walk_at "st"
      have pw1 : (20 - row.getD (2 : Int).toNat 0 % 61).natAbs ≤ 40 := by omega
      generalize 20 - row.getD (2 : Int).toNat 0 % 61 = pw at pw1 ⊢
      refine Pm.w_newT (fun t2 h2 => ?_)
      have q2 := same_new h2 (.tup [.ref t1, .int pw])
      walk_at "st"
      refine Pm.w_newT (fun t3 h3 => ?_)
      have q3 := same_new h3 (.tup [.ref t2])
      walk_at "st"
      refine Pm.w_ixL ((q1.trans (q2.trans q3)).seq hR2) (atI_int (by omega) (by omega)) ?_
      walk_at "st"
      have cn1 : (3 - row.getD (1 : Int).toNat 0 % 3).natAbs ≤ 3 := by omega
      generalize 3 - row.getD (1 : Int).toNat 0 % 3 = cn at cn1 ⊢
      refine Pm.w_newT (fun t4 h4 => ?_)
      have q4 := same_new h4 (.tup [.ref t3, .int cn])
      walk_at "st"
      refine Pm.w_newL (fun t5 h5 => ?_)
      have q5 := same_new h5 (.lst [.ref t4])
      have m1 : NdV _ (encM (2, 3)) (.ref t1) := mark_of (H := upd (upd (upd (upd (upd H2 t1 (.tup [.int 2, .int 3])) t2 (.tup [.ref t1, .int pw])) t3 (.tup [.ref t2])) t4 (.tup [.ref t3, .int cn])) t5 (.lst [.ref t4])) ⟨t1, rfl, (q2.trans (q3.trans (q4.trans q5))) _ _ upd_same⟩
      have m2 := NdP.of (q := (encM (2, 3), pw)) ((q3.trans (q4.trans q5)) _ _ upd_same) m1
      have m3 : NdV _ (encL [(encM (2, 3), pw)]) (.ref t3) := row_of_tup (xs := [.ref t2]) ((q4.trans q5) _ _ upd_same) ⟨m2, trivial⟩
      have due : SLs K (upd (upd (upd (upd (upd H2 t1 (.tup [.int 2, .int 3])) t2 (.tup [.ref t1, .int pw])) t3 (.tup [.ref t2])) t4 (.tup [.ref t3, .int cn])) t5 (.lst [.ref t4])) t5 [(encL [(encM (2, 3), pw)], cn)] := ⟨[.ref t4], upd_same, NdP.of (q := (encL [(encM (2, 3), pw)], cn)) (q5 _ _ upd_same) m3, trivial⟩
      have q15 := q1.trans (q2.trans (q3.trans (q4.trans q5)))
      generalize upd (upd (upd (upd (upd H2 t1 (.tup [.int 2, .int 3])) t2 (.tup [.ref t1, .int pw])) t3 (.tup [.ref t2])) t4 (.tup [.ref t3, .int cn])) t5 (.lst [.ref t4]) = HX at due q15 ⊢
      walk_at "st"
      refine Pm.w_newT (fun t6 h6 => ?_)
      have q6 := same_new h6 (.tup [])
      walk_at "st"
      refine Pm.w_newT (fun t7 h7 => ?_)
      have q7 := same_new h7 (.tup [.ref t6, .int 1])
      walk_at "st"
      refine Pm.w_newL (fun t8 h8 => ?_)
      have q8 := same_new h8 (.lst [.ref t7])
      have m6 : NdV _ (encL []) (.ref t6) := row_of_tup (H := upd (upd (upd HX t6 (.tup [])) t7 (.tup [.ref t6, .int 1])) t8 (.lst [.ref t7])) (xs := []) ((q7.trans q8) _ _ upd_same) trivial
      have one : SLs K (upd (upd (upd HX t6 (.tup [])) t7 (.tup [.ref t6, .int 1])) t8 (.lst [.ref t7])) t8 [(encL [], 1)] := ⟨[.ref t7], upd_same, NdP.of (q := (encL [], 1)) (q8 _ _ upd_same) m6, trivial⟩
      have q68 := q6.trans (q7.trans q8)
      have due8 := due.same q68
      generalize upd (upd (upd HX t6 (.tup [])) t7 (.tup [.ref t6, .int 1])) t8 (.lst [.ref t7]) = HY at one q68 due8 ⊢
      have cs1 : SumM 1 [(encL [(encM (2, 3), pw)], cn)] := ⟨fun q hq => by
        rw [List.mem_singleton.mp hq]
        exact ⟨_, rfl, Nat.le_refl _, fun q hq => by rw [List.mem_singleton.mp hq]; exact ⟨_, rfl⟩⟩⟩
      have cs2 : SumM 0 [(encL [], 1)] := ⟨fun q hq => by
        rw [List.mem_singleton.mp hq]
        exact ⟨_, rfl, Nat.le_refl _, fun q hq => absurd hq List.not_mem_nil⟩⟩
      have pr := prod_rowM cs1 cs2
      have wr : ∀ q ∈ prod [(encL [(encM (2, 3), pw)], cn)] [(encL [], 1)], RowW 40 q.1 := fun q hq => by
        obtain ⟨x, hx, h⟩ := List.mem_flatMap.mp hq
        obtain ⟨y, hy, rfl⟩ := List.mem_map.mp h
        rw [List.mem_singleton.mp hx, List.mem_singleton.mp hy]
        exact rt_roww (B := 40) (C := 0) ⟨_, rfl, fun q hq => by rw [List.mem_singleton.mp hq]; exact ⟨_, rfl, by decide, by decide⟩, by rw [mass_cons, mass_nil]; exact pw1⟩ roww_nil
      have br : ∀ q ∈ prod [(encL [(encM (2, 3), pw)], cn)] [(encL [], 1)], q.2.natAbs ≤ 3 := fun q hq => by
        obtain ⟨x, hx, h⟩ := List.mem_flatMap.mp hq
        obtain ⟨y, hy, rfl⟩ := List.mem_map.mp h
        rw [List.mem_singleton.mp hx, List.mem_singleton.mp hy]
        show (cn * 1).natAbs ≤ 3
        rw [Int.mul_one]
        exact cn1
      have pl := prod_len [(encL [(encM (2, 3), pw)], cn)] [(encL [], 1)]
      walk_at "st"
      refine ⟨t5, t8, _, _, 1, 0, rfl, due8, one, cs1, cs2, by decide, Nat.lt_of_le_of_lt (Nat.le_refl 1) (by decide), fun q hq => by rw [List.mem_singleton.mp hq]; show cn.natAbs < _; exact Nat.lt_of_le_of_lt cn1 (by decide), fun p9 H9 zs s9 np9 hp9 hzs => ?_⟩
      generalize prod [(encL [(encM (2, 3), pw)], cn)] [(encL [], 1)] = pp at pr wr br pl hzs
      have pl1 : pp.length = 1 := pl
      have cl := canon_len pp
      have cl2 := canon_len (canon pp)
      walk_at "st"
      refine ⟨p9, canon pp, 1, rfl, ⟨zs, hp9, hzs⟩, (canon_sum pr).row, by omega, fun p10 H10 ws s10 np10 hp10 hws => ?_⟩
      refine ⟨p10, canon (canon pp), rfl, q15.trans (q68.trans (s9.trans s10)), ⟨ws, hp10, hws⟩, (canon_sum (canon_sum pr).row).mono (by decide), by omega, fun q hq => ⟨?_, canon_rowws (canon_rowws wr) q hq⟩⟩
      have b2 := canon_bound (canon_bound br) q hq
      have : 3 * pp.length * (canon pp).length ≤ 3 * pp.length * 1 := Nat.mul_le_mul_left _ (by omega)
      omega
    · walk_at "st"
      exact ⟨p2, s0, rfl, Same.refl _, st0, cs0, by omega, fun q hq => ⟨by have := (bs0 q hq).1; omega, (bs0 q hq).2.mono (by decide)⟩⟩
  clear st0 hp2 hxs cs0 ls0 bs0 s2 s3
  rintro σ3 H3 ⟨p3, sm, rfl, s3, st, cs, ls, hw⟩
  have hR3 := s3.seq hR2
  walk_at "st"
  refine w_dispT1 (fun d hd => ?_)
  have q1 := same_new hd (.dT [])
  have f1 : (upd H3 d (.dT [])) d = some (.dT []) := upd_same
  walk_at "st"
  refine Pm.w_newT (fun t1 h1 => ?_)
  have q2 := same_new h1 (.tup [.int 7, .int 9])
  have f2 := q2 _ _ f1
  have g2 : Pr (upd (upd H3 d (.dT [])) t1 (.tup [.int 7, .int 9])) (.ref t1) (7, 9) := ⟨t1, rfl, upd_same⟩
  walk_at "st"
  refine Pm.w_newT (fun t2 h2 => ?_)
  have q3 := same_new h2 (.tup [.int 2, .int 3])
  have f3 := q3 _ _ f2
  have g3 : FrV K (upd (upd (upd H3 d (.dT [])) t1 (.tup [.int 7, .int 9])) t2 (.tup [.int 2, .int 3])) (.ref t2) (2, 3) := ⟨t2, rfl, .inl upd_same⟩
  have g4 := g2.keep (keeps q3)
  have q13 := q1.trans (q2.trans q3)
  generalize upd (upd (upd H3 d (.dT [])) t1 (.tup [.int 7, .int 9])) t2 (.tup [.int 2, .int 3]) = H4 at q13 f3 g3 g4 ⊢
  walk_at "st"
  refine w_ld1 f3 g4 g3 (fun es hL5 k5 => ?_)
  have s5 : Same H3 (upd H4 d (.dT es)) := same_but hd q13
  generalize upd H4 d (.dT es) = H5 at hL5 k5 s5 ⊢
  walk_at "st"
  refine Pm.w_newL (fun ml hml => ?_)
  have q6 := same_new hml (.lst [])
  have f6 : (upd H5 ml (.lst [])) ml = some (.lst []) := upd_same
  have hL6 := hL5.same q6
  have s6 := s5.trans q6
  have dml : d ≠ ml := by
    obtain ⟨_, es, h1, _⟩ := hL5
    exact ne_of_none h1 hml
  generalize upd H5 ml (.lst []) = H6 at q6 f6 hL6 s6 ⊢
  obtain ⟨xs, hp3, hxs⟩ := id st
  have lx := hxs.length
  have dec : ∀ q ∈ sm, ∃ r, q.1 = encL r ∧ (∀ q ∈ r, ∃ p, q.1 = encM p ∧ midP p) ∧ mass r ≤ 40 ∧ r.length ≤ 3 := fun q hq => by
    obtain ⟨r, e, h1, h2⟩ := (hw q hq).2
    obtain ⟨r', e', h3⟩ := cs.row q hq
    rw [e] at e'
    rw [← encL_inj e'] at h3
    exact ⟨r, e, h1, h2, h3.len⟩
  have ml3 : ∀ q ∈ sm, (decL q.1).length ≤ 3 := fun q hq => by
    obtain ⟨r, e, _, _, h⟩ := dec q hq
    rw [e, dec_enc]
    exact h
  have mlen : (marksOf sm).length ≤ 15 := by have := marks_len ml3; omega
  have mpre : ∀ i, (marksOf (sm.take i)).length ≤ (marksOf sm).length := fun i => by
    conv => rhs; rw [← List.take_append_drop i sm]
    unfold marksOf
    rw [List.flatMap_append, List.length_append]
    omega
  walk_at "st"
  refine Pm.w_rdL (SqL.of (s6 _ _ hp3)) ?_
  refine Pm.w_forL (xs := xs) (fun i σ H' => ∃ (x5 x6 x7 x8 : Option V) (ks : List IP) (R : IP → Rat) (ms : List V), σ = [some (.ref sc), some (.ref r), some (.ref p3), some (.ref d), some (.ref ml), x5, x6, x7, x8, none, none, none, none, none] ∧ Same H3 H' ∧ LD K H' d ks (fun k => rp (R k)) ∧ H' ml = some (.lst ms) ∧ Prs H' ms (marksOf (sm.take i)) ∧ GoodL R ks 11 ∧ (∀ k ∈ ks, midP k) ∧ (∀ k ∈ marksOf (sm.take i), k ∈ ks) ∧ ks.length ≤ 1 + (marksOf (sm.take i)).length) ⟨_, _, _, _, [(7, 9)], fun _ => (2 / 3 : Rat), [], rfl, s6, hL6.congr (fun k _ => (by decide +kernel : rp (2 / 3 : Rat) = (2, 3))), f6, by rw [List.take_zero]; trivial, fun k _ => ⟨(by decide +kernel : (2 / 3 : Rat) ≠ 0), (by decide +kernel : (2 / 3 : Rat).num.natAbs < 2 ^ 11), (by decide +kernel : (2 / 3 : Rat).den < 2 ^ 11)⟩, fun k hk => by rw [List.mem_singleton.mp hk]; exact ⟨⟨by decide, by decide⟩, by decide, by decide⟩, fun k hk => absurd hk List.not_mem_nil, Nat.le_add_right _ _⟩ (fun i σ H' _ ⟨_, _, _, _, _, _, _, _, h, _⟩ => SqL.of (h _ _ hp3)) ?_ ?_
  · rintro i v σ H7 hi ⟨x5, x6, x7, x8, ks, R, ms, rfl, s7, hL7, hm7, hp7, hG, hmid, hin, hkl⟩
    obtain ⟨q0, hq, hv⟩ := hxs.get hi
    have mq := List.mem_of_getElem? hq
    obtain ⟨t, x0, rfl, ht, hx0⟩ := NdP.ex (ndp_mono _ _ _ _ (keeps s7) hv)
    obtain ⟨rr, er, hmk, _, hl3⟩ := dec q0 mq
    rw [er] at hx0
    obtain ⟨a, ys, rfl, ha, hys⟩ := row_ex hx0
    have ly := hys.length
    have esn : marksOf (sm.take (i + 1)) = marksOf (sm.take i) ++ rr.map fun p => decM p.1 := by rw [take_snoc hq, marksOf_snoc, er, dec_enc]
    have mle := mpre (i + 1)
    rw [esn, List.length_append, List.length_map] at mle
    walk_at "st"
    refine Pm.w_gtup (SqT.of ht) rfl ?_
    walk_at "st"
    refine Pm.w_rdT (SqT.of ha) ?_
    refine Pm.w_forT (xs := ys) (fun j σ H' => ∃ (x7 x8 : Option V) (ks : List IP) (R : IP → Rat) (ms : List V), σ = [some (.ref sc), some (.ref r), some (.ref p3), some (.ref d), some (.ref ml), some (.ref a), some (.int q0.2), x7, x8, none, none, none, none, none] ∧ Same H3 H' ∧ Keeps H7 H' ∧ LD K H' d ks (fun k => rp (R k)) ∧ H' ml = some (.lst ms) ∧ Prs H' ms (marksOf (sm.take i) ++ (rr.take j).map fun p => decM p.1) ∧ GoodL R ks 11 ∧ (∀ k ∈ ks, midP k) ∧ (∀ k ∈ marksOf (sm.take i) ++ (rr.take j).map fun p => decM p.1, k ∈ ks) ∧ ks.length ≤ 1 + (marksOf (sm.take i)).length + j) ⟨_, _, ks, R, ms, rfl, s7, fun _ _ h => h, hL7, hm7, by rw [List.take_zero, List.map_nil, List.append_nil]; exact hp7, hG, hmid, fun k hk => by rw [List.take_zero, List.map_nil, List.append_nil] at hk; exact hin k hk, by omega⟩ (fun j σ H' _ ⟨_, _, _, _, _, _, _, h, _⟩ => SqT.of (h _ _ ha)) ?_ ?_
    · rintro j v σ H8 hj ⟨x7, x8, ks, R, ms, rfl, s8, k8, hL8, hm8, hp8, hG, hmid, hin, hkl⟩
      obtain ⟨q1, hq1, hv1⟩ := hys.get hj
      have jlt : j < ys.length := (List.getElem?_eq_some_iff.mp hj).1
      have mq1 := List.mem_of_getElem? hq1
      obtain ⟨t1, x1, rfl, ht1, hx1⟩ := NdP.ex (ndp_mono _ _ _ _ k8 hv1)
      obtain ⟨p, ep, hpm⟩ := hmk q1 mq1
      rw [ep] at hx1
      obtain ⟨b, rfl, hb5⟩ := mark_ex hx1
      have dm : decM q1.1 = p := by rw [ep]; rfl
      have lms := hp8.length
      rw [List.length_append, List.length_map, List.length_take, Nat.min_eq_left (by omega)] at lms
      walk_at "st"
      refine Pm.w_gtup (SqT.of ht1) rfl ?_
      walk_at "st"
      refine ⟨.inl ⟨rfl, _, SqL.of hm8⟩, ?_⟩
      walk_at "st"
      refine Pm.w_append hm8 (size_lt (by omega)) ?_
      have k9 := keeps_lst (ys := ms ++ [.ref b]) hm8
      have hm9 : (upd H8 ml (.lst (ms ++ [.ref b]))) ml = some (.lst (ms ++ [.ref b])) := upd_same
      have hL9 : LD K (upd H8 ml (.lst (ms ++ [.ref b]))) d ks (fun k => rp (R k)) := hL8.keep (o := .dT []) k9 (upd_ne dml)
      have hp9 : Prs (upd H8 ml (.lst (ms ++ [.ref b]))) (ms ++ [.ref b]) ((marksOf (sm.take i) ++ (rr.take j).map fun p => decM p.1) ++ [p]) := prs_snoc (prs_keep k9 hp8) ⟨b, rfl, k9 _ _ hb5⟩
      have hb9 : Pr (upd H8 ml (.lst (ms ++ [.ref b]))) (.ref b) p := ⟨b, rfl, k9 _ _ hb5⟩
      have s9 : Same H3 (upd H8 ml (.lst (ms ++ [.ref b]))) := fun c o e => by
        have : c ≠ ml := fun z => by rw [z] at e; have := s5 _ _ e; rw [hml] at this; cases this
        rw [upd_ne this]
        exact s8 _ _ e
      have k79 : Keeps H7 (upd H8 ml (.lst (ms ++ [.ref b]))) := fun t xs e => k9 _ _ (k8 _ _ e)
      generalize upd H8 ml (.lst (ms ++ [.ref b])) = H9 at hm9 hL9 hp9 hb9 s9 k79 ⊢
      walk_at "st"
      refine Pm.w_lenL (SqL.of hm9) ?_
      rw [List.length_append, List.length_singleton]
      walk_at "st"
      refine Pm.w_ixL ((s3.trans s9).seq hR2) (atI_int (by omega) (by omega)) ?_
      walk_at "st"
      have rn := bd ((20 + ((ms.length + 1 : Nat) : Int) % 14).toNat) (by omega)
      refine ⟨_, rfl, rn.1, fun rho hsz t5 H10 s10 n10 h10 => ?_⟩
      walk_at "st"
      refine w_ldPut (k := p) (p := rp rho) (hL9.same s10) (hb9.keep (keeps s10)) (frv_new h10) (by omega) (fun es hL11 k11 => ?_)
      have hm11 : (upd H10 d (.dT es)) ml = some (.lst (ms ++ [.ref b])) := by rw [upd_ne dml.symm]; exact s10 _ _ hm9
      have s11 : Same H3 (upd H10 d (.dT es)) := same_but hd (s9.trans s10)
      refine ⟨_, _, putk ks p, fun k => if k = p then rho else R k, _, rfl, s11, fun t xs e => k11 _ _ (keeps s10 _ _ (k79 _ _ e)), hL11.congr (fun k hk => ?_), hm11, ?_, fun k hk => ?_, fun k hk => ?_, fun k hk => ?_, ?_⟩
      · by_cases e : k = p
        · simp only [e, if_true, updF_same]
        · simp only [if_neg e, updF_ne e]
      · rw [take_snoc hq1, List.map_append, List.map_cons, List.map_nil, dm, ← List.append_assoc]
        exact prs_keep k11 (prs_keep (keeps s10) hp9)
      · by_cases e : k = p
        · simp only [e, if_true]; exact ⟨fun z => by have := hsz.1; rw [z] at this; exact absurd this (by decide), szd_rb6 hsz⟩
        · simp only [if_neg e]; exact hG k ((mem_putk.mp hk).resolve_right e)
      · rcases mem_putk.mp hk with h | h
        · exact hmid k h
        · rw [h]; exact hpm
      · rw [take_snoc hq1, List.map_append, List.map_cons, List.map_nil, dm, ← List.append_assoc] at hk
        rcases List.mem_append.mp hk with h | h
        · exact mem_putk.mpr (.inl (hin k h))
        · exact mem_putk.mpr (.inr (List.mem_singleton.mp h))
      · have := putk_len ks p; omega
    · rintro σ H8 ⟨x7, x8, ks, R, ms, rfl, s8, k8, hL8, hm8, hp8, hG, hmid, hin, hkl⟩
      rw [ly, List.take_length] at hp8 hin
      rw [← esn] at hp8 hin
      exact ⟨_, _, _, _, ks, R, ms, rfl, s8, hL8, hm8, hp8, hG, hmid, hin, by rw [esn, List.length_append, List.length_map]; omega⟩
  · rintro σ H7 ⟨x5, x6, x7, x8, ks, R, ms, rfl, s7, hL7, hm7, hp7, hG, hmid, hin, hkl⟩
    rw [lx, List.take_length] at hp7 hin hkl
    walk_at "st"
    have rows : ∀ q ∈ sm, ∃ r, q.1 = encL r ∧ (∀ q ∈ r, ∃ p, q.1 = encM p) ∧ mass r ≤ 40 := fun q hq => by
      obtain ⟨r, e, h1, h2, _⟩ := dec q hq
      exact ⟨r, e, fun q hq => (h1 q hq).imp fun _ z => z.1, h2⟩
    have cnts : ∀ q ∈ sm, q.2.natAbs < 1000 := fun q hq => by have := (hw q hq).1; omega
    have hin2 : ∀ q ∈ sm, ∀ p ∈ decL q.1, decM p.1 ∈ ks := fun q hq p hp => hin _ (mem_marks.mpr ⟨q, hq, p, hp, rfl⟩)
    have szw : sm.length * (20 + 40 * 11) ≤ 4000 := by omega
    have hR7 := (s3.trans s7).seq hR2
    have bmod : 0 < ms.length → 0 ≤ row.getD 2 0 % (ms.length : Int) ∧ row.getD 2 0 % (ms.length : Int) < ms.length := fun h => ⟨Int.emod_nonneg _ (by omega), Int.emod_lt_of_pos _ (by omega)⟩
    have lms := hp7.length
    refine Pm.w_ixL hR7 (atI_int (by omega) (by omega)) ?_
    walk_at "st"
    by_cases c : row.getD (0 : Int).toNat 0 % 3 = 1
    · rw [decide_eq_true c]
      walk_at "st"
      refine Pm.w_newL (fun nl hnl => ?_)
      have sx := same_new hnl (.lst [])
      refine ⟨ml, nl, ms, rfl, rfl, SqL.of (sx _ _ hm7), SqL.of upd_same, ?_⟩
      have hLx := hL7.same sx
      have hmx := sx _ _ hm7
      have hpx := prs_keep (keeps sx) hp7
      have s7x := s7.trans sx
      generalize upd H7 nl (.lst []) = Hx at hLx hmx hpx s7x ⊢
      cases hms : ms with
      | nil =>
        have en : (!([] : List V).isEmpty) = false := rfl
        rw [en]
        walk_at "st"
        refine Pm.w_cut (fun σ' H' => σ' = [some (.ref sc), some (.ref r), some (.ref p3), some (.ref d), some (.ref ml), x5, x6, x7, x8, some (.bl false), none, none, none, none] ∧ H' = Hx) ?_ ?_
        · walk_at "st"
          exact ⟨rfl, rfl⟩
        rintro σ8 H8 ⟨rfl, rfl⟩
        walk_at "st"
        refine w_ldDictM hLx hmid (fun hd2 es2 hnd hLh => ?_)
        have s9 := same_new hnd (.dT es2)
        have hL9 := hLx.same s9
        generalize upd H8 hd2 (.dT es2) = H9 at s9 hLh hL9 ⊢
        walk_at "st"
        refine Pm.w_listOf (SqL.of ((s7x.trans s9) _ _ hp3)) (fun tl htl => ?_)
        have s10 := same_new htl (.lst xs)
        have stl : SLs K (upd H9 tl (.lst xs)) tl sm := ⟨xs, upd_same, all2_keep (keeps (s7x.trans (s9.trans s10))) hxs⟩
        walk_at "st"
        refine ⟨tl, hd2, sm, _, R, 40, 11, rfl, stl, hLh.same s10, rows, cnts, by decide, hG, szw, by decide, fun hno => absurd hin2 hno, fun _ t H11 s11 f11 b11 => ?_⟩
        have s3_11 := s7x.trans (s9.trans (s10.trans s11))
        walk_at "st"
        refine w_ldNe (hLh.same (s10.trans s11)) (hL9.same (s10.trans s11)) (fun _ => Iff.rfl) ?_
        rw [decide_eq_true (fun k _ => rfl)]
        walk_at "st"
        refine w_neSum (stl.same s11) (st.same s3_11) cs cs ?_
        rw [decide_eq_true rfl]
        walk_at "st"
        refine ⟨t, _, _, rfl, f11.rat, b11.2, by omega, fun H12 s12 => ?_⟩
        walk_at "st"
        refine ⟨p3, d, sm, ks, R, 40, 11, rfl, st.same (s3_11.trans s12), hL9.same (s10.trans (s11.trans s12)), rows, cnts, by decide, hG, szw, by decide, hin2, fun t2 H13 s13 f13 => ?_⟩
        refine w_eqFr (f11.keep (keeps (s12.trans s13))) f13 ?_
        rw [decide_eq_true rfl]
        exact q _
      | cons m0 ms0 =>
        have en : (!(m0 :: ms0).isEmpty) = true := rfl
        rw [en]
        have ms1 : 0 < ms.length := by rw [hms]; exact Nat.succ_pos _
        have bm := bmod ms1
        walk_at "st"
        refine Pm.w_cut (fun σ' H' => ∃ k es, σ' = [some (.ref sc), some (.ref r), some (.ref p3), some (.ref d), some (.ref ml), x5, x6, x7, x8, some (.bl true), none, none, none, none] ∧ k ∈ marksOf sm ∧ Same H3 H' ∧ H' = upd Hx d (.dT es) ∧ LD K H' d (ks.filter fun j => decide (j ≠ k)) (fun k => rp (R k))) ?_ ?_
        · walk_at "st"
          obtain ⟨_, es0, hd0, _⟩ := id hLx
          refine ⟨.inr (.inr (.inl ⟨rfl, .inr ⟨_, hd0⟩⟩)), ?_⟩
          walk_at "st"
          refine Pm.w_ixL ((s3.trans s7x).seq hR2) (atI_int (by omega) (by omega)) ?_
          walk_at "st"
          refine Pm.w_lenL (SqL.of hmx) ?_
          walk_at "st"
          have ej : row.getD (2 : Int).toNat 0 % (ms.length : Int) = ((row.getD 2 0 % (ms.length : Int)).toNat : Int) := (Int.toNat_of_nonneg bm.1).symm
          rw [ej]
          have jm : (row.getD 2 0 % (ms.length : Int)).toNat < ms.length := by omega
          generalize (row.getD 2 0 % (ms.length : Int)).toNat = j at jm
          obtain ⟨k, hk, v, hv, hkv⟩ := hpx.get (List.getElem?_eq_getElem jm)
          refine Pm.w_ixL (SqL.of hmx) (v := .ref v) (atI_nat (by rw [List.getElem?_eq_getElem jm, hv])) ?_
          walk_at "st"
          refine w_ldPop hLx ⟨v, rfl, hkv⟩ (hin _ (List.mem_of_getElem? hk)) (fun v2 es f2 hL2 => ?_)
          exact ⟨k, es, rfl, List.mem_of_getElem? hk, same_but hd s7x, rfl, hL2⟩
        rintro σ8 H8 ⟨k, es, rfl, hk, s8, _, hL8⟩
        walk_at "st"
        refine w_ldDictM hL8 (fun k hk => hmid k (List.mem_filter.mp hk).1) (fun hd2 es2 hnd hLh => ?_)
        have s9 := same_new hnd (.dT es2)
        generalize upd H8 hd2 (.dT es2) = H9 at s9 hLh ⊢
        walk_at "st"
        refine Pm.w_listOf (SqL.of ((s8.trans s9) _ _ hp3)) (fun tl htl => ?_)
        have s10 := same_new htl (.lst xs)
        walk_at "st"
        refine ⟨tl, hd2, sm, _, R, 40, 11, rfl, ⟨xs, upd_same, all2_keep (keeps (s8.trans (s9.trans s10))) hxs⟩, hLh.same s10, rows, cnts, by decide, fun k hk => hG k (List.mem_filter.mp hk).1, szw, by decide, fun _ H11 s11 => ?_, fun hyes => ?_⟩
        · refine ⟨true, T.exm_NoLetter_MeadError, fun _ x hx => ?_, fun z => Bool.noConfusion z⟩
          walk_at "st"
          refine Pm.w_isX T.exc_NoLetter (fun u r => r) T.kit_NoLetter_NoLetter ?_
          exact q _
        · exfalso
          obtain ⟨q0, hq0, p0, hp0, e0⟩ := mem_marks.mp hk
          have := (List.mem_filter.mp (hyes q0 hq0 p0 hp0)).2
          rw [e0] at this
          exact absurd rfl (of_decide_eq_true this)
    · rw [decide_eq_false c]
      walk_at "st"
      have hLx := hL7
      have s7x := s7
      refine Pm.w_cut (fun σ' H' => σ' = [some (.ref sc), some (.ref r), some (.ref p3), some (.ref d), some (.ref ml), x5, x6, x7, x8, some (.bl false), none, none, none, none] ∧ H' = H7) ?_ ?_
      · walk_at "st"
        exact ⟨rfl, rfl⟩
      rintro σ8 H8 ⟨rfl, rfl⟩
      walk_at "st"
      refine w_ldDictM hLx hmid (fun hd2 es2 hnd hLh => ?_)
      have s9 := same_new hnd (.dT es2)
      have hL9 := hLx.same s9
      generalize upd H8 hd2 (.dT es2) = H9 at s9 hLh hL9 ⊢
      walk_at "st"
      refine Pm.w_listOf (SqL.of ((s7x.trans s9) _ _ hp3)) (fun tl htl => ?_)
      have s10 := same_new htl (.lst xs)
      have stl : SLs K (upd H9 tl (.lst xs)) tl sm := ⟨xs, upd_same, all2_keep (keeps (s7x.trans (s9.trans s10))) hxs⟩
      walk_at "st"
      refine ⟨tl, hd2, sm, _, R, 40, 11, rfl, stl, hLh.same s10, rows, cnts, by decide, hG, szw, by decide, fun hno => absurd hin2 hno, fun _ t H11 s11 f11 b11 => ?_⟩
      have s3_11 := s7x.trans (s9.trans (s10.trans s11))
      walk_at "st"
      refine w_ldNe (hLh.same (s10.trans s11)) (hL9.same (s10.trans s11)) (fun _ => Iff.rfl) ?_
      rw [decide_eq_true (fun k _ => rfl)]
      walk_at "st"
      refine w_neSum (stl.same s11) (st.same s3_11) cs cs ?_
      rw [decide_eq_true rfl]
      walk_at "st"
      refine ⟨t, _, _, rfl, f11.rat, b11.2, by omega, fun H12 s12 => ?_⟩
      walk_at "st"
      refine ⟨p3, d, sm, ks, R, 40, 11, rfl, st.same (s3_11.trans s12), hL9.same (s10.trans (s11.trans s12)), rows, cnts, by decide, hG, szw, by decide, hin2, fun t2 H13 s13 f13 => ?_⟩
      refine w_eqFr (f11.keep (keeps (s12.trans s13))) f13 ?_
      rw [decide_eq_true rfl]
      exact q _
end
def D_measure : He.FnD := ⟨("measure", none), "measure", "measure", defArgs s_measure, defBody s_measure, defScope s_measure⟩
def D_lowest : He.FnD := ⟨("lowest", none), "lowest", "lowest", defArgs s_lowest, defBody s_lowest, defScope s_lowest⟩
def D_plus : He.FnD := ⟨("plus", none), "plus", "plus", defArgs s_plus, defBody s_plus, defScope s_plus⟩
def D_times : He.FnD := ⟨("times", none), "times", "times", defArgs s_times, defBody s_times, defScope s_times⟩
def D_over : He.FnD := ⟨("over", none), "over", "over", defArgs s_over, defBody s_over, defScope s_over⟩
def D_row_worth : He.FnD := ⟨("row_worth", none), "row_worth", "row_worth", defArgs s_row_worth, defBody s_row_worth, defScope s_row_worth⟩
def D_worth : He.FnD := ⟨("worth", none), "worth", "worth", defArgs s_worth, defBody s_worth, defScope s_worth⟩
def D_law_flow : He.FnD := ⟨("_law_flow", none), "_law_flow", "_law_flow", defArgs s_law_flow, defBody s_law_flow, defScope s_law_flow⟩
def D_law_whole : He.FnD := ⟨("_law_whole", none), "_law_whole", "_law_whole", defArgs s_law_whole, defBody s_law_whole, defScope s_law_whole⟩
def D_law_low : He.FnD := ⟨("_law_low", none), "_law_low", "_law_low", defArgs s_law_low, defBody s_law_low, defScope s_law_low⟩
def D_law_add : He.FnD := ⟨("_law_add", none), "_law_add", "_law_add", defArgs s_law_add, defBody s_law_add, defScope s_law_add⟩
def D_law_mul : He.FnD := ⟨("_law_mul", none), "_law_mul", "_law_mul", defArgs s_law_mul, defBody s_law_mul, defScope s_law_mul⟩
def D_law_div : He.FnD := ⟨("_law_div", none), "_law_div", "_law_div", defArgs s_law_div, defBody s_law_div, defScope s_law_div⟩
def D_law_part : He.FnD := ⟨("_law_part", none), "_law_part", "_law_part", defArgs s_law_part, defBody s_law_part, defScope s_law_part⟩
def D_law_size : He.FnD := ⟨("_law_size", none), "_law_size", "_law_size", defArgs s_law_size, defBody s_law_size, defScope s_law_size⟩
def D_law_row_times : He.FnD := ⟨("_law_row_times", none), "_law_row_times", "_law_row_times", defArgs s_law_row_times, defBody s_law_row_times, defScope s_law_row_times⟩
def D_law_settled : He.FnD := ⟨("_law_settled", none), "_law_settled", "_law_settled", defArgs s_law_settled, defBody s_law_settled, defScope s_law_settled⟩
def D_law_times : He.FnD := ⟨("_law_times", none), "_law_times", "_law_times", defArgs s_law_times, defBody s_law_times, defScope s_law_times⟩
def D_law_draw_sum : He.FnD := ⟨("_law_draw_sum", none), "_law_draw_sum", "_law_draw_sum", defArgs s_law_draw_sum, defBody s_law_draw_sum, defScope s_law_draw_sum⟩
def D_law_worth : He.FnD := ⟨("_law_worth", none), "_law_worth", "_law_worth", defArgs s_law_worth, defBody s_law_worth, defScope s_law_worth⟩
def D_law : He.FnD := ⟨("law", none), "law", "law", defArgs s_law, defBody s_law, defScope s_law⟩
def hfn : List He.FnD := [D_measure, D_lowest, D_plus, D_times, D_over, D_row_worth, D_worth, D_law_flow, D_law_whole, D_law_low, D_law_add, D_law_mul, D_law_div, D_law_part, D_law_size, D_law_row_times, D_law_settled, D_law_times, D_law_draw_sum, D_law_worth, D_law]
def hfa0 : List He.Fa := [.glo "NoFraction",
  .exc "NoFraction",
  .glo "NoLetter",
  .exc "NoLetter",
  .glo "MeadError",
  .exc "MeadError",
  .keep "measure",
  .glo "measure",
  .keep "lowest",
  .glo "lowest",
  .keep "plus",
  .glo "plus",
  .keep "times",
  .glo "times",
  .keep "over",
  .glo "over",
  .keep "row_worth",
  .glo "row_worth",
  .keep "worth",
  .glo "worth",
  .keep "_law_flow",
  .glo "_law_flow",
  .keep "_law_whole",
  .glo "_law_whole",
  .keep "_law_low",
  .glo "_law_low",
  .keep "_law_add",
  .glo "_law_add",
  .keep "_law_mul",
  .glo "_law_mul",
  .keep "_law_div",
  .glo "_law_div",
  .keep "_law_part",
  .glo "_law_part",
  .keep "_law_size",
  .glo "_law_size",
  .keep "_law_row_times",
  .glo "_law_row_times",
  .keep "_law_settled",
  .glo "_law_settled",
  .keep "_law_times",
  .glo "_law_times",
  .keep "_law_draw_sum",
  .glo "_law_draw_sum",
  .keep "_law_worth",
  .glo "_law_worth",
  .keep "law",
  .glo "law",
  .free "abs",
  .free "range",
  .free "len",
  .free "isinstance",
  .free "int",
  .free "bool",
  .free "tuple",
  .free "sorted",
  .free "dict",
  .free "list",
  .glo "NOUGHT"]
def hfa : List He.Fa := hfa0
def hex0 (K : PySem.W.Frag) : List Bool := [PySem.W.isClsIn K (He.ga K "NoFraction"),
  decide (PySem.W.subIn K (.ref (He.ga K "NoFraction")) (.ref (He.ga K "NoFraction")) = some true),
  PySem.W.isClsIn K (He.ga K "NoLetter"),
  decide (PySem.W.subIn K (.ref (He.ga K "NoLetter")) (.ref (He.ga K "NoLetter")) = some true),
  PySem.W.isClsIn K (He.ga K "MeadError"),
  decide (PySem.W.subIn K (.ref (He.ga K "MeadError")) (.ref (He.ga K "MeadError")) = some true),
  He.tupB K "NOUGHT" [.int (0), .int (1)],
  decide (PySem.W.findIn K (.ref (He.ga K "NoLetter")) "__getattribute__" = some (some (.builtin "BaseException.__getattribute__"))),
  decide (PySem.W.findIn K (.ref (He.ga K "NoLetter")) "__getattr__" = some none),
  decide (PySem.W.hasDictIn K (He.ga K "NoLetter") = true),
  decide (PySem.W.findIn K (.ref (He.ga K "NoLetter")) "__class__" = some (some (.builtin "object.__class__"))),
  decide (PySem.W.specialIn K (.builtin "object.__class__") "__get__" = some (some (.builtin "getset_descriptor.__get__"))),
  decide (PySem.W.takesIn K (.builtin "object.__class__") = some true),
  decide (PySem.W.mroIn K (He.ga K "NoLetter") (.type "object") = some true),
  decide (PySem.W.kitOne K (.ref (He.ga K "NoLetter")) (.ref (He.ga K "MeadError")) = some true),
  decide (PySem.W.exmOne K (.ref (He.ga K "NoLetter")) (.ref (He.ga K "MeadError")) = some true),
  decide (PySem.W.kitOne K (.ref (He.ga K "NoLetter")) (.ref (He.ga K "NoLetter")) = some true),
  decide (PySem.W.exmOne K (.ref (He.ga K "NoLetter")) (.ref (He.ga K "NoLetter")) = some true)]
def hex (K : PySem.W.Frag) : List Bool := hex0 K
def loose0 : List Str := [("MeadError" : Str), ("NoFraction" : Str), ("NoLetter" : Str), ("NOUGHT" : Str), ("measure" : Str), ("lowest" : Str), ("plus" : Str), ("times" : Str), ("over" : Str), ("row_worth" : Str), ("worth" : Str), ("_law_flow" : Str), ("_law_whole" : Str), ("_law_low" : Str), ("_law_add" : Str), ("_law_mul" : Str), ("_law_div" : Str), ("_law_part" : Str), ("_law_size" : Str), ("_law_row_times" : Str), ("_law_settled" : Str), ("_law_times" : Str), ("_law_draw_sum" : Str), ("_law_worth" : Str)]
def looseA : List Str := loose0
abbrev hRow : PySem.W.OpenRow := PySem.W.OpenLaw.row PySem.Challenge.rw_postmead_k06_letters_worth
abbrev hHook : PySem.W.Hook := hookP 1200 hfa hfn hex
noncomputable abbrev hOb (s : PySem.W.SharedT) : He.Al := obT 1200 hfa hfn hex s
theorem hRunA (w : World) (os : OsState) : (endR hRow 40000 w os).map (fun s => (HandSHeadRun.looksF hRow.prog (PySem.W.boot_heap w.params) s.abs, HandSHeadRun.seenQ (PySem.W.view hRow.prog [28]) looseA (importedModules hRow.prog.main.body) (fun s => PySem.W.xlAt (PySem.W.view hRow.prog [28]) [] s && PySem.W.recOk hRow.toRowW.records s) s.abs)) = some (true, PySem.W.openGood (PySem.W.view hRow.prog [28]) looseA) := by kernel_rfl
theorem hRunD (w : World) : Look hRow 40000 1200 w (fun K => (hfn.map fun d => He.fnObs K d.at_, hfn.all fun d => (He.Fa.code d.at_ d.qual).ok K)) (hfn.map He.FnD.val, true) := by
  intro os
  kernel_rfl
theorem hRunF0 (w : World) : Look hRow 40000 1200 w (fun K => hfa0.all fun f => f.ok K) true := by
  intro os
  kernel_rfl
theorem hRunX0 (w : World) : Look hRow 40000 1200 w (fun K => (hex0 K).all id) true := by
  intro os
  kernel_rfl
theorem hRun (w : World) : HandSHeadRun.RunEq hRow (PySem.W.view hRow.prog [28]) hHook hOb 40000 looseA w := by
  refine run_of (hRunA w) fun os s e => obsP_of (congrArg Prod.fst ((hRunD w).at_ e)) (congrArg Prod.snd ((hRunD w).at_ e)) ?_ ?_
  · simp only [hfa, List.all_append, (hRunF0 w).at_ e, Bool.and_self]
  · simp only [hex, List.all_append, (hRunX0 w).at_ e, Bool.and_self]
theorem qe_NoFraction {K : PySem.W.Frag} {h : Heap} {mg : Str → Option Value} (X : K.In h) (G : h.Ns mainGlobals mg) (c : SaysP hfa hfn hex K) : Nonempty { e : ExAt K mg "NoFraction" // e.c = (He.ga K "NoFraction") } := ⟨⟨{ c := _, g := He.glo_ok X G (c.e.fact 0 (f := .glo "NoFraction") rfl), x := (He.exc_ok (c.e.fact 1 (f := .exc "NoFraction") rfl)).1, k := (He.exc_ok (c.e.fact 1 (f := .exc "NoFraction") rfl)).2.1, b := (He.exc_ok (c.e.fact 1 (f := .exc "NoFraction") rfl)).2.2.1, t := (He.exc_ok (c.e.fact 1 (f := .exc "NoFraction") rfl)).2.2.2, i := (c.b 0 (b := PySem.W.isClsIn K (He.ga K "NoFraction")) rfl), z := (c.d 1 (p := PySem.W.subIn K (.ref (He.ga K "NoFraction")) (.ref (He.ga K "NoFraction")) = some true) rfl) }, rfl⟩⟩
theorem qe_NoLetter {K : PySem.W.Frag} {h : Heap} {mg : Str → Option Value} (X : K.In h) (G : h.Ns mainGlobals mg) (c : SaysP hfa hfn hex K) : Nonempty { e : ExAt K mg "NoLetter" // e.c = (He.ga K "NoLetter") } := ⟨⟨{ c := _, g := He.glo_ok X G (c.e.fact 2 (f := .glo "NoLetter") rfl), x := (He.exc_ok (c.e.fact 3 (f := .exc "NoLetter") rfl)).1, k := (He.exc_ok (c.e.fact 3 (f := .exc "NoLetter") rfl)).2.1, b := (He.exc_ok (c.e.fact 3 (f := .exc "NoLetter") rfl)).2.2.1, t := (He.exc_ok (c.e.fact 3 (f := .exc "NoLetter") rfl)).2.2.2, i := (c.b 2 (b := PySem.W.isClsIn K (He.ga K "NoLetter")) rfl), z := (c.d 3 (p := PySem.W.subIn K (.ref (He.ga K "NoLetter")) (.ref (He.ga K "NoLetter")) = some true) rfl) }, rfl⟩⟩
theorem qe_MeadError {K : PySem.W.Frag} {h : Heap} {mg : Str → Option Value} (X : K.In h) (G : h.Ns mainGlobals mg) (c : SaysP hfa hfn hex K) : Nonempty { e : ExAt K mg "MeadError" // e.c = (He.ga K "MeadError") } := ⟨⟨{ c := _, g := He.glo_ok X G (c.e.fact 4 (f := .glo "MeadError") rfl), x := (He.exc_ok (c.e.fact 5 (f := .exc "MeadError") rfl)).1, k := (He.exc_ok (c.e.fact 5 (f := .exc "MeadError") rfl)).2.1, b := (He.exc_ok (c.e.fact 5 (f := .exc "MeadError") rfl)).2.2.1, t := (He.exc_ok (c.e.fact 5 (f := .exc "MeadError") rfl)).2.2.2, i := (c.b 4 (b := PySem.W.isClsIn K (He.ga K "MeadError")) rfl), z := (c.d 5 (p := PySem.W.subIn K (.ref (He.ga K "MeadError")) (.ref (He.ga K "MeadError")) = some true) rfl) }, rfl⟩⟩
theorem qd_measure {K : PySem.W.Frag} {h : Heap} {mg : Str → Option Value} (X : K.In h) (G : h.Ns mainGlobals mg) (c : SaysP hfa hfn hex K) : Nonempty (DefAt K mg "measure" "measure" s_measure ["one", "other"]) := by
  obtain ⟨oc, od, osl, kV, dc, pm, an, cd, ct, l, cc⟩ := c.def_ 0 (D := D_measure) rfl
  have F := fun_mk (st := s_measure) l cc (c.e.fact 6 (f := .keep "measure") rfl)
  exact ⟨{ a := _, fd := _, F := F, g := He.glo_ok X G (c.e.fact 7 (f := .glo "measure") rfl), b := F.binds (ps := ["one", "other"]) fun _ _ _ _ _ _ us hl => match us, hl with | [_, _], _ => rfl }⟩
theorem qd_lowest {K : PySem.W.Frag} {h : Heap} {mg : Str → Option Value} (X : K.In h) (G : h.Ns mainGlobals mg) (c : SaysP hfa hfn hex K) : Nonempty (DefAt K mg "lowest" "lowest" s_lowest ["top", "bottom"]) := by
  obtain ⟨oc, od, osl, kV, dc, pm, an, cd, ct, l, cc⟩ := c.def_ 1 (D := D_lowest) rfl
  have F := fun_mk (st := s_lowest) l cc (c.e.fact 8 (f := .keep "lowest") rfl)
  exact ⟨{ a := _, fd := _, F := F, g := He.glo_ok X G (c.e.fact 9 (f := .glo "lowest") rfl), b := F.binds (ps := ["top", "bottom"]) fun _ _ _ _ _ _ us hl => match us, hl with | [_, _], _ => rfl }⟩
theorem qd_plus {K : PySem.W.Frag} {h : Heap} {mg : Str → Option Value} (X : K.In h) (G : h.Ns mainGlobals mg) (c : SaysP hfa hfn hex K) : Nonempty (DefAt K mg "plus" "plus" s_plus ["one", "other"]) := by
  obtain ⟨oc, od, osl, kV, dc, pm, an, cd, ct, l, cc⟩ := c.def_ 2 (D := D_plus) rfl
  have F := fun_mk (st := s_plus) l cc (c.e.fact 10 (f := .keep "plus") rfl)
  exact ⟨{ a := _, fd := _, F := F, g := He.glo_ok X G (c.e.fact 11 (f := .glo "plus") rfl), b := F.binds (ps := ["one", "other"]) fun _ _ _ _ _ _ us hl => match us, hl with | [_, _], _ => rfl }⟩
theorem qd_times {K : PySem.W.Frag} {h : Heap} {mg : Str → Option Value} (X : K.In h) (G : h.Ns mainGlobals mg) (c : SaysP hfa hfn hex K) : Nonempty (DefAt K mg "times" "times" s_times ["one", "other"]) := by
  obtain ⟨oc, od, osl, kV, dc, pm, an, cd, ct, l, cc⟩ := c.def_ 3 (D := D_times) rfl
  have F := fun_mk (st := s_times) l cc (c.e.fact 12 (f := .keep "times") rfl)
  exact ⟨{ a := _, fd := _, F := F, g := He.glo_ok X G (c.e.fact 13 (f := .glo "times") rfl), b := F.binds (ps := ["one", "other"]) fun _ _ _ _ _ _ us hl => match us, hl with | [_, _], _ => rfl }⟩
theorem qd_over {K : PySem.W.Frag} {h : Heap} {mg : Str → Option Value} (X : K.In h) (G : h.Ns mainGlobals mg) (c : SaysP hfa hfn hex K) : Nonempty (DefAt K mg "over" "over" s_over ["one", "other"]) := by
  obtain ⟨oc, od, osl, kV, dc, pm, an, cd, ct, l, cc⟩ := c.def_ 4 (D := D_over) rfl
  have F := fun_mk (st := s_over) l cc (c.e.fact 14 (f := .keep "over") rfl)
  exact ⟨{ a := _, fd := _, F := F, g := He.glo_ok X G (c.e.fact 15 (f := .glo "over") rfl), b := F.binds (ps := ["one", "other"]) fun _ _ _ _ _ _ us hl => match us, hl with | [_, _], _ => rfl }⟩
theorem qd_row_worth {K : PySem.W.Frag} {h : Heap} {mg : Str → Option Value} (X : K.In h) (G : h.Ns mainGlobals mg) (c : SaysP hfa hfn hex K) : Nonempty (DefAt K mg "row_worth" "row_worth" s_row_worth ["row", "lengths"]) := by
  obtain ⟨oc, od, osl, kV, dc, pm, an, cd, ct, l, cc⟩ := c.def_ 5 (D := D_row_worth) rfl
  have F := fun_mk (st := s_row_worth) l cc (c.e.fact 16 (f := .keep "row_worth") rfl)
  exact ⟨{ a := _, fd := _, F := F, g := He.glo_ok X G (c.e.fact 17 (f := .glo "row_worth") rfl), b := F.binds (ps := ["row", "lengths"]) fun _ _ _ _ _ _ us hl => match us, hl with | [_, _], _ => rfl }⟩
theorem qd_worth {K : PySem.W.Frag} {h : Heap} {mg : Str → Option Value} (X : K.In h) (G : h.Ns mainGlobals mg) (c : SaysP hfa hfn hex K) : Nonempty (DefAt K mg "worth" "worth" s_worth ["one", "lengths"]) := by
  obtain ⟨oc, od, osl, kV, dc, pm, an, cd, ct, l, cc⟩ := c.def_ 6 (D := D_worth) rfl
  have F := fun_mk (st := s_worth) l cc (c.e.fact 18 (f := .keep "worth") rfl)
  exact ⟨{ a := _, fd := _, F := F, g := He.glo_ok X G (c.e.fact 19 (f := .glo "worth") rfl), b := F.binds (ps := ["one", "lengths"]) fun _ _ _ _ _ _ us hl => match us, hl with | [_, _], _ => rfl }⟩
theorem qd_law_flow {K : PySem.W.Frag} {h : Heap} {mg : Str → Option Value} (X : K.In h) (G : h.Ns mainGlobals mg) (c : SaysP hfa hfn hex K) : Nonempty (DefAt K mg "_law_flow" "_law_flow" s_law_flow ["_law_script", "_law_many"]) := by
  obtain ⟨oc, od, osl, kV, dc, pm, an, cd, ct, l, cc⟩ := c.def_ 7 (D := D_law_flow) rfl
  have F := fun_mk (st := s_law_flow) l cc (c.e.fact 20 (f := .keep "_law_flow") rfl)
  exact ⟨{ a := _, fd := _, F := F, g := He.glo_ok X G (c.e.fact 21 (f := .glo "_law_flow") rfl), b := F.binds (ps := ["_law_script", "_law_many"]) fun _ _ _ _ _ _ us hl => match us, hl with | [_, _], _ => rfl }⟩
theorem qd_law_whole {K : PySem.W.Frag} {h : Heap} {mg : Str → Option Value} (X : K.In h) (G : h.Ns mainGlobals mg) (c : SaysP hfa hfn hex K) : Nonempty (DefAt K mg "_law_whole" "_law_whole" s_law_whole ["_law_found"]) := by
  obtain ⟨oc, od, osl, kV, dc, pm, an, cd, ct, l, cc⟩ := c.def_ 8 (D := D_law_whole) rfl
  have F := fun_mk (st := s_law_whole) l cc (c.e.fact 22 (f := .keep "_law_whole") rfl)
  exact ⟨{ a := _, fd := _, F := F, g := He.glo_ok X G (c.e.fact 23 (f := .glo "_law_whole") rfl), b := F.binds (ps := ["_law_found"]) fun _ _ _ _ _ _ us hl => match us, hl with | [_], _ => rfl }⟩
theorem qd_law_low {K : PySem.W.Frag} {h : Heap} {mg : Str → Option Value} (X : K.In h) (G : h.Ns mainGlobals mg) (c : SaysP hfa hfn hex K) : Nonempty (DefAt K mg "_law_low" "_law_low" s_law_low ["_law_top", "_law_bottom"]) := by
  obtain ⟨oc, od, osl, kV, dc, pm, an, cd, ct, l, cc⟩ := c.def_ 9 (D := D_law_low) rfl
  have F := fun_mk (st := s_law_low) l cc (c.e.fact 24 (f := .keep "_law_low") rfl)
  exact ⟨{ a := _, fd := _, F := F, g := He.glo_ok X G (c.e.fact 25 (f := .glo "_law_low") rfl), b := F.binds (ps := ["_law_top", "_law_bottom"]) fun _ _ _ _ _ _ us hl => match us, hl with | [_, _], _ => rfl }⟩
theorem qd_law_add {K : PySem.W.Frag} {h : Heap} {mg : Str → Option Value} (X : K.In h) (G : h.Ns mainGlobals mg) (c : SaysP hfa hfn hex K) : Nonempty (DefAt K mg "_law_add" "_law_add" s_law_add ["_law_one", "_law_other"]) := by
  obtain ⟨oc, od, osl, kV, dc, pm, an, cd, ct, l, cc⟩ := c.def_ 10 (D := D_law_add) rfl
  have F := fun_mk (st := s_law_add) l cc (c.e.fact 26 (f := .keep "_law_add") rfl)
  exact ⟨{ a := _, fd := _, F := F, g := He.glo_ok X G (c.e.fact 27 (f := .glo "_law_add") rfl), b := F.binds (ps := ["_law_one", "_law_other"]) fun _ _ _ _ _ _ us hl => match us, hl with | [_, _], _ => rfl }⟩
theorem qd_law_mul {K : PySem.W.Frag} {h : Heap} {mg : Str → Option Value} (X : K.In h) (G : h.Ns mainGlobals mg) (c : SaysP hfa hfn hex K) : Nonempty (DefAt K mg "_law_mul" "_law_mul" s_law_mul ["_law_one", "_law_other"]) := by
  obtain ⟨oc, od, osl, kV, dc, pm, an, cd, ct, l, cc⟩ := c.def_ 11 (D := D_law_mul) rfl
  have F := fun_mk (st := s_law_mul) l cc (c.e.fact 28 (f := .keep "_law_mul") rfl)
  exact ⟨{ a := _, fd := _, F := F, g := He.glo_ok X G (c.e.fact 29 (f := .glo "_law_mul") rfl), b := F.binds (ps := ["_law_one", "_law_other"]) fun _ _ _ _ _ _ us hl => match us, hl with | [_, _], _ => rfl }⟩
theorem qd_law_div {K : PySem.W.Frag} {h : Heap} {mg : Str → Option Value} (X : K.In h) (G : h.Ns mainGlobals mg) (c : SaysP hfa hfn hex K) : Nonempty (DefAt K mg "_law_div" "_law_div" s_law_div ["_law_one", "_law_other"]) := by
  obtain ⟨oc, od, osl, kV, dc, pm, an, cd, ct, l, cc⟩ := c.def_ 12 (D := D_law_div) rfl
  have F := fun_mk (st := s_law_div) l cc (c.e.fact 30 (f := .keep "_law_div") rfl)
  exact ⟨{ a := _, fd := _, F := F, g := He.glo_ok X G (c.e.fact 31 (f := .glo "_law_div") rfl), b := F.binds (ps := ["_law_one", "_law_other"]) fun _ _ _ _ _ _ us hl => match us, hl with | [_, _], _ => rfl }⟩
theorem qd_law_part {K : PySem.W.Frag} {h : Heap} {mg : Str → Option Value} (X : K.In h) (G : h.Ns mainGlobals mg) (c : SaysP hfa hfn hex K) : Nonempty (DefAt K mg "_law_part" "_law_part" s_law_part ["_law_found"]) := by
  obtain ⟨oc, od, osl, kV, dc, pm, an, cd, ct, l, cc⟩ := c.def_ 13 (D := D_law_part) rfl
  have F := fun_mk (st := s_law_part) l cc (c.e.fact 32 (f := .keep "_law_part") rfl)
  exact ⟨{ a := _, fd := _, F := F, g := He.glo_ok X G (c.e.fact 33 (f := .glo "_law_part") rfl), b := F.binds (ps := ["_law_found"]) fun _ _ _ _ _ _ us hl => match us, hl with | [_], _ => rfl }⟩
theorem qd_law_size {K : PySem.W.Frag} {h : Heap} {mg : Str → Option Value} (X : K.In h) (G : h.Ns mainGlobals mg) (c : SaysP hfa hfn hex K) : Nonempty (DefAt K mg "_law_size" "_law_size" s_law_size ["_law_one"]) := by
  obtain ⟨oc, od, osl, kV, dc, pm, an, cd, ct, l, cc⟩ := c.def_ 14 (D := D_law_size) rfl
  have F := fun_mk (st := s_law_size) l cc (c.e.fact 34 (f := .keep "_law_size") rfl)
  exact ⟨{ a := _, fd := _, F := F, g := He.glo_ok X G (c.e.fact 35 (f := .glo "_law_size") rfl), b := F.binds (ps := ["_law_one"]) fun _ _ _ _ _ _ us hl => match us, hl with | [_], _ => rfl }⟩
theorem qd_law_row_times {K : PySem.W.Frag} {h : Heap} {mg : Str → Option Value} (X : K.In h) (G : h.Ns mainGlobals mg) (c : SaysP hfa hfn hex K) : Nonempty (DefAt K mg "_law_row_times" "_law_row_times" s_law_row_times ["_law_one", "_law_other"]) := by
  obtain ⟨oc, od, osl, kV, dc, pm, an, cd, ct, l, cc⟩ := c.def_ 15 (D := D_law_row_times) rfl
  have F := fun_mk (st := s_law_row_times) l cc (c.e.fact 36 (f := .keep "_law_row_times") rfl)
  exact ⟨{ a := _, fd := _, F := F, g := He.glo_ok X G (c.e.fact 37 (f := .glo "_law_row_times") rfl), b := F.binds (ps := ["_law_one", "_law_other"]) fun _ _ _ _ _ _ us hl => match us, hl with | [_, _], _ => rfl }⟩
theorem qd_law_settled {K : PySem.W.Frag} {h : Heap} {mg : Str → Option Value} (X : K.In h) (G : h.Ns mainGlobals mg) (c : SaysP hfa hfn hex K) : Nonempty (DefAt K mg "_law_settled" "_law_settled" s_law_settled ["_law_terms"]) := by
  obtain ⟨oc, od, osl, kV, dc, pm, an, cd, ct, l, cc⟩ := c.def_ 16 (D := D_law_settled) rfl
  have F := fun_mk (st := s_law_settled) l cc (c.e.fact 38 (f := .keep "_law_settled") rfl)
  exact ⟨{ a := _, fd := _, F := F, g := He.glo_ok X G (c.e.fact 39 (f := .glo "_law_settled") rfl), b := F.binds (ps := ["_law_terms"]) fun _ _ _ _ _ _ us hl => match us, hl with | [_], _ => rfl }⟩
theorem qd_law_times {K : PySem.W.Frag} {h : Heap} {mg : Str → Option Value} (X : K.In h) (G : h.Ns mainGlobals mg) (c : SaysP hfa hfn hex K) : Nonempty (DefAt K mg "_law_times" "_law_times" s_law_times ["_law_one", "_law_other"]) := by
  obtain ⟨oc, od, osl, kV, dc, pm, an, cd, ct, l, cc⟩ := c.def_ 17 (D := D_law_times) rfl
  have F := fun_mk (st := s_law_times) l cc (c.e.fact 40 (f := .keep "_law_times") rfl)
  exact ⟨{ a := _, fd := _, F := F, g := He.glo_ok X G (c.e.fact 41 (f := .glo "_law_times") rfl), b := F.binds (ps := ["_law_one", "_law_other"]) fun _ _ _ _ _ _ us hl => match us, hl with | [_, _], _ => rfl }⟩
theorem qd_law_draw_sum {K : PySem.W.Frag} {h : Heap} {mg : Str → Option Value} (X : K.In h) (G : h.Ns mainGlobals mg) (c : SaysP hfa hfn hex K) : Nonempty (DefAt K mg "_law_draw_sum" "_law_draw_sum" s_law_draw_sum ["_law_row", "_law_terms", "_law_marks"]) := by
  obtain ⟨oc, od, osl, kV, dc, pm, an, cd, ct, l, cc⟩ := c.def_ 18 (D := D_law_draw_sum) rfl
  have F := fun_mk (st := s_law_draw_sum) l cc (c.e.fact 42 (f := .keep "_law_draw_sum") rfl)
  exact ⟨{ a := _, fd := _, F := F, g := He.glo_ok X G (c.e.fact 43 (f := .glo "_law_draw_sum") rfl), b := F.binds (ps := ["_law_row", "_law_terms", "_law_marks"]) fun _ _ _ _ _ _ us hl => match us, hl with | [_, _, _], _ => rfl }⟩
theorem qd_law_worth {K : PySem.W.Frag} {h : Heap} {mg : Str → Option Value} (X : K.In h) (G : h.Ns mainGlobals mg) (c : SaysP hfa hfn hex K) : Nonempty (DefAt K mg "_law_worth" "_law_worth" s_law_worth ["_law_one", "_law_lengths"]) := by
  obtain ⟨oc, od, osl, kV, dc, pm, an, cd, ct, l, cc⟩ := c.def_ 19 (D := D_law_worth) rfl
  have F := fun_mk (st := s_law_worth) l cc (c.e.fact 44 (f := .keep "_law_worth") rfl)
  exact ⟨{ a := _, fd := _, F := F, g := He.glo_ok X G (c.e.fact 45 (f := .glo "_law_worth") rfl), b := F.binds (ps := ["_law_one", "_law_lengths"]) fun _ _ _ _ _ _ us hl => match us, hl with | [_, _], _ => rfl }⟩
theorem qd_law {K : PySem.W.Frag} {h : Heap} {mg : Str → Option Value} (X : K.In h) (G : h.Ns mainGlobals mg) (c : SaysP hfa hfn hex K) : Nonempty (DefAt K mg "law" "law" s_law ["_law_script"]) := by
  obtain ⟨oc, od, osl, kV, dc, pm, an, cd, ct, l, cc⟩ := c.def_ 20 (D := D_law) rfl
  have F := fun_mk (st := s_law) l cc (c.e.fact 46 (f := .keep "law") rfl)
  exact ⟨{ a := _, fd := _, F := F, g := He.glo_ok X G (c.e.fact 47 (f := .glo "law") rfl), b := F.binds (ps := ["_law_script"]) fun _ _ _ _ _ _ us hl => match us, hl with | [_], _ => rfl }⟩
theorem tx_of {K : PySem.W.Frag} {h : Heap} {mg : Str → Option Value} (X : K.In h) (G : h.Ns mainGlobals mg) (c : SaysP hfa hfn hex K) : Nonempty (Tx K mg) := by
  obtain ⟨⟨e_NoFraction, ee_NoFraction⟩⟩ := qe_NoFraction X G c
  obtain ⟨⟨e_NoLetter, ee_NoLetter⟩⟩ := qe_NoLetter X G c
  obtain ⟨⟨e_MeadError, ee_MeadError⟩⟩ := qe_MeadError X G c
  exact ⟨{
    d_measure := Classical.choice (qd_measure X G c),
    d_lowest := Classical.choice (qd_lowest X G c),
    d_plus := Classical.choice (qd_plus X G c),
    d_times := Classical.choice (qd_times X G c),
    d_over := Classical.choice (qd_over X G c),
    d_row_worth := Classical.choice (qd_row_worth X G c),
    d_worth := Classical.choice (qd_worth X G c),
    d_law_flow := Classical.choice (qd_law_flow X G c),
    d_law_whole := Classical.choice (qd_law_whole X G c),
    d_law_low := Classical.choice (qd_law_low X G c),
    d_law_add := Classical.choice (qd_law_add X G c),
    d_law_mul := Classical.choice (qd_law_mul X G c),
    d_law_div := Classical.choice (qd_law_div X G c),
    d_law_part := Classical.choice (qd_law_part X G c),
    d_law_size := Classical.choice (qd_law_size X G c),
    d_law_row_times := Classical.choice (qd_law_row_times X G c),
    d_law_settled := Classical.choice (qd_law_settled X G c),
    d_law_times := Classical.choice (qd_law_times X G c),
    d_law_draw_sum := Classical.choice (qd_law_draw_sum X G c),
    d_law_worth := Classical.choice (qd_law_worth X G c),
    d_law := Classical.choice (qd_law X G c),
    m_abs := He.free_ok X G (c.e.fact 48 (f := .free "abs") rfl),
    m_range := He.free_ok X G (c.e.fact 49 (f := .free "range") rfl),
    m_len := He.free_ok X G (c.e.fact 50 (f := .free "len") rfl),
    m_isinstance := He.free_ok X G (c.e.fact 51 (f := .free "isinstance") rfl),
    m_int := He.free_ok X G (c.e.fact 52 (f := .free "int") rfl),
    m_bool := He.free_ok X G (c.e.fact 53 (f := .free "bool") rfl),
    m_tuple := He.free_ok X G (c.e.fact 54 (f := .free "tuple") rfl),
    m_sorted := He.free_ok X G (c.e.fact 55 (f := .free "sorted") rfl),
    m_dict := He.free_ok X G (c.e.fact 56 (f := .free "dict") rfl),
    m_list := He.free_ok X G (c.e.fact 57 (f := .free "list") rfl),
    e_NoFraction := e_NoFraction,
    e_NoLetter := e_NoLetter,
    e_MeadError := e_MeadError,
    c_NOUGHT := He.ga K "NOUGHT", g_NOUGHT := He.glo_ok X G (c.e.fact 58 (f := .glo "NOUGHT") rfl), r_NOUGHT := rfl, v_NOUGHT := fun H => He.tupB_ok (x := "NOUGHT") (vs := [.int (0), .int (1)]) (c.b 6 (b := He.tupB K "NOUGHT" [.int (0), .int (1)]) rfl) H,
    ex1_NoLetter := by rw [ee_NoLetter]; exact (c.d 7 (p := PySem.W.findIn K (.ref (He.ga K "NoLetter")) "__getattribute__" = some (some (.builtin "BaseException.__getattribute__"))) rfl),
    ex2_NoLetter := by rw [ee_NoLetter]; exact (c.d 8 (p := PySem.W.findIn K (.ref (He.ga K "NoLetter")) "__getattr__" = some none) rfl),
    ex3_NoLetter := by rw [ee_NoLetter]; exact (c.d 9 (p := PySem.W.hasDictIn K (He.ga K "NoLetter") = true) rfl),
    ex4_NoLetter := by rw [ee_NoLetter]; exact (c.d 10 (p := PySem.W.findIn K (.ref (He.ga K "NoLetter")) "__class__" = some (some (.builtin "object.__class__"))) rfl),
    ex5_NoLetter := by exact (c.d 11 (p := PySem.W.specialIn K (.builtin "object.__class__") "__get__" = some (some (.builtin "getset_descriptor.__get__"))) rfl),
    ex6_NoLetter := by exact (c.d 12 (p := PySem.W.takesIn K (.builtin "object.__class__") = some true) rfl),
    ex7_NoLetter := by rw [ee_NoLetter]; exact (c.d 13 (p := PySem.W.mroIn K (He.ga K "NoLetter") (.type "object") = some true) rfl),
    kit_NoLetter_MeadError := by rw [ee_NoLetter]; rw [ee_MeadError]; exact (c.d 14 (p := PySem.W.kitOne K (.ref (He.ga K "NoLetter")) (.ref (He.ga K "MeadError")) = some true) rfl),
    exm_NoLetter_MeadError := by rw [ee_NoLetter]; rw [ee_MeadError]; exact (c.d 15 (p := PySem.W.exmOne K (.ref (He.ga K "NoLetter")) (.ref (He.ga K "MeadError")) = some true) rfl),
    kit_NoLetter_NoLetter := by rw [ee_NoLetter]; exact (c.d 16 (p := PySem.W.kitOne K (.ref (He.ga K "NoLetter")) (.ref (He.ga K "NoLetter")) = some true) rfl),
    exm_NoLetter_NoLetter := by rw [ee_NoLetter]; exact (c.d 17 (p := PySem.W.exmOne K (.ref (He.ga K "NoLetter")) (.ref (He.ga K "NoLetter")) = some true) rfl) }⟩
theorem all_mk {l : PySem.W.OpenLaw} {w : World} {K : PySem.W.Frag} {mg : Str → Option Value} {fa : Addr} (hfa : mg "law" = some (.ref fa)) (T : Tx K mg) :
    ∃ fd : FuncData, (∀ (s : Shared) (v : Value), BindsTo s fd ⟨[v], []⟩ [("_law_script", v)]) ∧ ∀ b : Heap, K.In b → b.Ns mainGlobals mg → FnOk l.prog w K mg b CX0 6 fa fd ["_law_script"] (spLaw K) := by
  have e := hfa.symm.trans T.g_law
  cases e
  refine ⟨T.fd_law, fun s v => ?_, fun b _ _ => ok_law (base := b) T⟩
  obtain ⟨oc, od, kV, doc, pm, an, cdv, ct, osl, e, lk, hcd⟩ := T.F_law.ex
  rw [e]
  exact .of_eq rfl
end Pm
open PySem PySem.W PySem.Calls PyProof.Rows
set_option maxHeartbeats 0 in
theorem PySem.Challenge.cw_postmead_k06_letters_worth_holds : PySem.Challenge.rw_postmead_k06_letters_worth.Holds := by
  w_on; o_law
  refine HandSHeadRun.head_any (r := PySem.W.OpenLaw.row PySem.Challenge.rw_postmead_k06_letters_worth) (q := PySem.W.view (PySem.W.OpenLaw.row PySem.Challenge.rw_postmead_k06_letters_worth).prog [28]) (H := Pm.hHook) (ob := Pm.hOb) (M := 40000) (loose := Pm.looseA) (d := HandSHeadRun.topDef (PySem.W.OpenLaw.row PySem.Challenge.rw_postmead_k06_letters_worth).prog 28) (kwd := []) Pm.obT_eq
    (by kernel_rfl) (fun s => by kernel_rfl) Pm.hRun (by kernel_rfl) (by kernel_rfl) (by kernel_rfl) (by rfl) (by first | assumption | decide +kernel) (by decide +kernel) ⟨rfl, rfl, rfl, rfl, rfl, by decide +kernel⟩ ?hw ?hc
  case hw => w_witness2
  case hc =>
    refine L2.walk_ofE (l := PySem.Challenge.rw_postmead_k06_letters_worth) (n := 63) (k := 6) (x := "_law_script") (CX := L2.CX0) rfl (by decide) (by kernel_rfl) ⟨rfl, by decide, by decide⟩ ?F (fun _ _ _ _ z => z)
    intro w mg fa h Y G hmg0
    obtain ⟨K, KX, c⟩ := Y
    have hmg : mg ("law" : PySem.Str) = some (.ref fa) := by
      have e : (HandSHeadRun.topDef (PySem.W.OpenLaw.row PySem.Challenge.rw_postmead_k06_letters_worth).prog 28).name = ("law" : PySem.Str) := by kernel_rfl
      rw [← e]
      exact hmg0
    obtain ⟨T⟩ := Pm.tx_of KX G c
    obtain ⟨fd, hb, hF⟩ := Pm.all_mk (l := PySem.Challenge.rw_postmead_k06_letters_worth) (w := w) hmg T
    exact ⟨K, fd, Pm.spLaw K, KX, hb, fun H a ns hl _ hS => ⟨a, ns, rfl, hS, hl, fun _ => rfl⟩, hF⟩
#print axioms PySem.Challenge.cw_postmead_k06_letters_worth_holds
