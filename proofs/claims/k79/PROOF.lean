import PyProof.Rows.All
import Wide.All
import OpenK.AllK
import Wide.FinOn
import HandS.Base
import HandS.Call
import HandS.List
import HandS.Ends
import HandS.Words
import HandS.Wide
import HandS.WordsList
import HandS.Comp
import HandS.Exc
import HandS.ExcOwn
import HandS.TryOnly
import HandS.WordsExc
import HandS.ExcInit
import HandS.ExcField
import HandS.ClsMeth
import HandS.Codes
import HandS.NoneIn
import HandS.IsInst
import HandS.SortInts
import HandS.Style
import HandS.Star
import HandS.FStr
import HandS.Iter
import HandS.Dict
import HandS.Walk
import HandS.Strs
import HandS.SetBool
import HandS.SetIn
import HandS.TryMany
import HandS.More
import HandS.DictComp
import HandS.Deep
import KE.KOpsOwn
import HandS.Small
import HandS.TupAny
import HandS.SetFor
import KE.SortData
import HandS.Zip
import KE.KDictZip
import PyProof.ListRange
import PySem.Challenge.RW_everyprime_k79_patterns_that_occur
set_option Elab.async false
set_option linter.all false
set_option maxRecDepth 100000
set_option maxHeartbeats 4000000
namespace My
section
open PySem PySem.W PyProof.Rows
set_option maxHeartbeats 0
open_top hd_top for PySem.Challenge.rw_everyprime_k79_patterns_that_occur
end
end My
namespace L2
open PySem PySem.Spec PyProof.Rows
/-- one step of a reading, found by its head -/
class Stp (G : Prop) (N : outParam Prop) : Prop where
  mp : N → G
/-! ### forgetting what was made on the way -/
/-- no dict with tuple keys is tracked -/
def noT : HO -> Bool
  | .dT _ => false
  | .frz _ u => noT u
  | _ => true
def NoT (H : Hp) : Prop := ∀ a o, H a = some o → noT o = true
theorem NoT.upd {H : Hp} {p : Addr} {o : HO} (n : NoT H) (h : noT o = true) : NoT (upd H p o) := fun a u e => by
  by_cases hb : a = p
  · subst hb
    rw [upd_same] at e
    cases e
    exact h
  · rw [upd_ne hb] at e
    exact n a u e
/-- an expression whose making leaves things behind that nobody asks of -/
def tPure (t : TE) : TE := fun σ H Q => NoT H ∧ t σ H fun v H' => Same H H' ∧ Q v H
def tPureT (t : TT) : TT := fun σ H Q => NoT H ∧ t σ H fun b H' => Same H H' ∧ Q b H
end L2
namespace L2
open PySem PySem.Spec PyProof.Rows
/-! ### operators in the forms that are used here -/
def CMulB (i j : Int) : Prop := CMul i j ∨ CMulW i j
theorem CMulB.ok {i j : Int} (h : CMulB i j) : IntMulOk i j := by
  rcases h with h | h
  · exact h.ok
  · exact h.ok
def CDivB (_ j : Int) : Prop := 0 < j ∧ j < 2 ^ 250
section
variable {X : Cx}
theorem op_mulB : OpR X (binaryOp .Mult) (rI CMulB fun i j => .int (i * j)) := opI fun _ _ _ _ _ _ _ hc q => mul_int q hc.ok
theorem op_fdivB : OpR X (binaryOp .FloorDiv) (rI CDivB fun i j => .int (i / j)) := fun pins s σ H x y v u Q I rx ry ⟨i, j, e1, e2, hc, q⟩ =>
  op_fdivW pins s σ H x y v u Q I rx ry ⟨i, j, e1, e2, wide_div (b := 250) hc.1 (by
    have h1 := hc.1
    have h2 := hc.2
    have h3 : j = (j.natAbs : Int) := by omega
    have h4 : (j.natAbs : Int) < ((2 ^ 250 : Nat) : Int) := by
      rw [← h3, Int.natCast_pow]
      exact h2
    exact Int.ofNat_lt.mp h4) (by decide) (by decide), q⟩
end
/-! ### the readings, one lemma each -/
section
variable {σ : St} {H : Hp} {Q : VK} {R : Bool → Hp → Prop} {RA : List V → Hp → Prop} {K : PySem.W.Frag} {v x y z : V} {i j : Int} {ta tb tc te : TE} {tt uu : TT} {t t1 t2 u : TS} {tr : TA} {r : R2}
variable {nx : St → Hp → Prop} {rt : VK} {bk ct : St → Hp → Prop}
theorem rd_var {n : Nat} (h : σ[n]? = some (some v)) (q : Q v H) : tVar n σ H Q := ⟨v, h, q⟩
theorem rd_c (q : Q v H) : tC v σ H Q := q
instance st_c  : Stp (tC v σ H Q) (Q v H) := ⟨fun h => rd_c h⟩
theorem rd_op (h : ta σ H fun x H1 => tb σ H1 fun y H2 => r x y H2 Q) : tOp r ta tb σ H Q := h
instance st_op  : Stp (tOp r ta tb σ H Q) (ta σ H fun x H1 => tb σ H1 fun y H2 => r x y H2 Q) := ⟨fun h => rd_op h⟩
theorem rd_un {ru : V → Hp → VK → Prop} (h : ta σ H fun x H1 => ru x H1 Q) : tUn ru ta σ H Q := h
instance st_un {ru : V → Hp → VK → Prop} : Stp (tUn ru ta σ H Q) (ta σ H fun x H1 => ru x H1 Q) := ⟨fun h => rd_un h⟩
theorem rd_I {C : Int → Int → Prop} {g : Int → Int → V} (hc : C i j) (q : Q (g i j) H) : rI C g (.int i) (.int j) H Q := ⟨i, j, rfl, rfl, hc, q⟩
theorem rd_I0 {g : Int → Int → V} (q : Q (g i j) H) : rI0 g (.int i) (.int j) H Q := ⟨i, j, rfl, rfl, q⟩
instance st_I0 {g : Int → Int → V} : Stp (rI0 g (.int i) (.int j) H Q) (Q (g i j) H) := ⟨fun h => rd_I0 h⟩
theorem rd_U {g : Int → V} (q : Q (g i) H) : rU g (.int i) H Q := ⟨i, rfl, q⟩
instance st_U {g : Int → V} : Stp (rU g (.int i) H Q) (Q (g i) H) := ⟨fun h => rd_U h⟩
theorem rd_eqI (q : Q (.bl (decide (i = j))) H) : rEq (.int i) (.int j) H Q := ⟨rfl, by
  have e : decide (V.int i = V.int j) = decide (i = j) := decide_eq_decide.mpr ⟨fun z => V.int.inj z, fun z => by rw [z]⟩
  rw [e]
  exact q⟩
instance st_eqI  : Stp (rEq (.int i) (.int j) H Q) (Q (.bl (decide (i = j))) H) := ⟨fun h => rd_eqI h⟩
theorem rd_neI (q : Q (.bl (!decide (i = j))) H) : rNe (.int i) (.int j) H Q := ⟨rfl, by
  have e : decide (V.int i = V.int j) = decide (i = j) := decide_eq_decide.mpr ⟨fun z => V.int.inj z, fun z => by rw [z]⟩
  rw [e]
  exact q⟩
instance st_neI  : Stp (rNe (.int i) (.int j) H Q) (Q (.bl (!decide (i = j))) H) := ⟨fun h => rd_neI h⟩
theorem rd_eqS {i j : Str} (q : Q (.bl (decide (i = j))) H) : rEq (.str i) (.str j) H Q := ⟨rfl, by
  have e : decide (V.str i = V.str j) = decide (i = j) := decide_eq_decide.mpr ⟨fun z => V.str.inj z, fun z => by rw [z]⟩
  rw [e]
  exact q⟩
instance st_eqS {i j : Str} : Stp (rEq (.str i) (.str j) H Q) (Q (.bl (decide (i = j))) H) := ⟨fun h => rd_eqS h⟩
theorem rd_neS {i j : Str} (q : Q (.bl (!decide (i = j))) H) : rNe (.str i) (.str j) H Q := ⟨rfl, by
  have e : decide (V.str i = V.str j) = decide (i = j) := decide_eq_decide.mpr ⟨fun z => V.str.inj z, fun z => by rw [z]⟩
  rw [e]
  exact q⟩
instance st_neS {i j : Str} : Stp (rNe (.str i) (.str j) H Q) (Q (.bl (!decide (i = j))) H) := ⟨fun h => rd_neS h⟩
theorem rd_eqB {i j : Bool} (q : Q (.bl (decide (i = j))) H) : rEq (.bl i) (.bl j) H Q := ⟨rfl, by
  have e : decide (V.bl i = V.bl j) = decide (i = j) := decide_eq_decide.mpr ⟨fun z => V.bl.inj z, fun z => by rw [z]⟩
  rw [e]
  exact q⟩
instance st_eqB {i j : Bool} : Stp (rEq (.bl i) (.bl j) H Q) (Q (.bl (decide (i = j))) H) := ⟨fun h => rd_eqB h⟩
theorem rd_neB {i j : Bool} (q : Q (.bl (!decide (i = j))) H) : rNe (.bl i) (.bl j) H Q := ⟨rfl, by
  have e : decide (V.bl i = V.bl j) = decide (i = j) := decide_eq_decide.mpr ⟨fun z => V.bl.inj z, fun z => by rw [z]⟩
  rw [e]
  exact q⟩
instance st_neB {i j : Bool} : Stp (rNe (.bl i) (.bl j) H Q) (Q (.bl (!decide (i = j))) H) := ⟨fun h => rd_neB h⟩
theorem rd_test (h : te σ H fun x H' => ∃ k, x = .bl k ∧ R k H') : tTest te σ H R := h
instance st_test  : Stp (tTest te σ H R) (te σ H fun x H' => ∃ k, x = .bl k ∧ R k H') := ⟨fun h => rd_test h⟩
theorem rd_B (h : te σ H fun x H' => ∃ k, x = .bl k ∧ R k H') : tB te σ H R := h
instance st_B  : Stp (tB te σ H R) (te σ H fun x H' => ∃ k, x = .bl k ∧ R k H') := ⟨fun h => rd_B h⟩
theorem rd_k {b : Bool} {P : Bool → Prop} (q : P b) : ∃ k, V.bl b = .bl k ∧ P k := ⟨b, rfl, q⟩
instance st_k {b : Bool} {P : Bool → Prop} : Stp (∃ k, V.bl b = .bl k ∧ P k) (P b) := ⟨fun h => rd_k h⟩
theorem rd_and (h : tt σ H fun c H1 => if c = true then uu σ H1 R else R false H1) : tAnd tt uu σ H R := h
instance st_and  : Stp (tAnd tt uu σ H R) (tt σ H fun c H1 => if c = true then uu σ H1 R else R false H1) := ⟨fun h => rd_and h⟩
theorem rd_or (h : tt σ H fun c H1 => if c = true then R true H1 else uu σ H1 R) : tOr tt uu σ H R := h
instance st_or  : Stp (tOr tt uu σ H R) (tt σ H fun c H1 => if c = true then R true H1 else uu σ H1 R) := ⟨fun h => rd_or h⟩
theorem rd_not (h : tt σ H fun c H1 => R (!c) H1) : tNot tt σ H R := h
instance st_not  : Stp (tNot tt σ H R) (tt σ H fun c H1 => R (!c) H1) := ⟨fun h => rd_not h⟩
theorem rd_andV (h : ta σ H fun x H1 => ∃ c, x = .bl c ∧ if c = true then tb σ H1 Q else Q (.bl false) H1) : tAndV ta tb σ H Q := h
instance st_andV  : Stp (tAndV ta tb σ H Q) (ta σ H fun x H1 => ∃ c, x = .bl c ∧ if c = true then tb σ H1 Q else Q (.bl false) H1) := ⟨fun h => rd_andV h⟩
theorem rd_orV (h : ta σ H fun x H1 => ∃ c, x = .bl c ∧ if c = true then Q (.bl true) H1 else tb σ H1 Q) : tOrV ta tb σ H Q := h
instance st_orV  : Stp (tOrV ta tb σ H Q) (ta σ H fun x H1 => ∃ c, x = .bl c ∧ if c = true then Q (.bl true) H1 else tb σ H1 Q) := ⟨fun h => rd_orV h⟩
theorem rd_notV (h : ta σ H fun x H1 => ∃ c, x = .bl c ∧ Q (.bl (!c)) H1) : tNotV ta σ H Q := h
instance st_notV  : Stp (tNotV ta σ H Q) (ta σ H fun x H1 => ∃ c, x = .bl c ∧ Q (.bl (!c)) H1) := ⟨fun h => rd_notV h⟩
theorem rd_ifx (h : tt σ H fun c H1 => if c = true then ta σ H1 Q else tb σ H1 Q) : tIf tt ta tb σ H Q := h
instance st_ifx  : Stp (tIf tt ta tb σ H Q) (tt σ H fun c H1 => if c = true then ta σ H1 Q else tb σ H1 Q) := ⟨fun h => rd_ifx h⟩
theorem rd_chain {r' : R2} (h : ta σ H fun x H1 => tb σ H1 fun y H2 => r x y H2 fun z H3 => ∃ k, z = .bl k ∧ (if k = true then tc σ H3 fun w' H4 => r' y w' H4 Q else Q (.bl false) H3)) : tChain r r' ta tb tc σ H Q := h
instance st_chain {r' : R2} : Stp (tChain r r' ta tb tc σ H Q) (ta σ H fun x H1 => tb σ H1 fun y H2 => r x y H2 fun z H3 => ∃ k, z = .bl k ∧ (if k = true then tc σ H3 fun w' H4 => r' y w' H4 Q else Q (.bl false) H3)) := ⟨fun h => rd_chain h⟩
theorem rd_nil (q : RA [] H) : tNil σ H RA := q
instance st_nil  : Stp (tNil σ H RA) (RA [] H) := ⟨fun h => rd_nil h⟩
theorem rd_cons (h : ta σ H fun x H1 => tr σ H1 fun xs H2 => RA (x :: xs) H2) : tCons ta tr σ H RA := h
instance st_cons  : Stp (tCons ta tr σ H RA) (ta σ H fun x H1 => tr σ H1 fun xs H2 => RA (x :: xs) H2) := ⟨fun h => rd_cons h⟩
theorem rd_tup (h : tr σ H fun xs H1 => xs.length ≤ sizeLine ∧ ∀ p, H1 p = none → Q (.ref p) (upd H1 p (.tup xs))) : tTup tr σ H Q := h
instance st_tup  : Stp (tTup tr σ H Q) (tr σ H fun xs H1 => xs.length ≤ sizeLine ∧ ∀ p, H1 p = none → Q (.ref p) (upd H1 p (.tup xs))) := ⟨fun h => rd_tup h⟩
theorem rd_lst (h : tr σ H fun xs H1 => xs.length ≤ sizeLine ∧ ∀ p, H1 p = none → Q (.ref p) (upd H1 p (.lst xs))) : tLst tr σ H Q := h
instance st_lst  : Stp (tLst tr σ H Q) (tr σ H fun xs H1 => xs.length ≤ sizeLine ∧ ∀ p, H1 p = none → Q (.ref p) (upd H1 p (.lst xs))) := ⟨fun h => rd_lst h⟩
theorem rd_pure (n : NoT H) (h : te σ H fun v H' => Same H H' ∧ Q v H) : tPure te σ H Q := ⟨n, h⟩
theorem rd_pureT (n : NoT H) (h : tt σ H fun v H' => Same H H' ∧ R v H) : tPureT tt σ H R := ⟨n, h⟩
theorem rd_call {sp : Sp} {E : XK} (h : tr σ H fun vs H1 => sp vs H1 Q E) : tCall sp [] E tr σ H Q := by
  show tr σ H fun vs H1 => sp (vs ++ []) H1 Q E
  simp only [List.append_nil]
  exact h
instance st_call {sp : Sp} {E : XK} : Stp (tCall sp [] E tr σ H Q) (tr σ H fun vs H1 => sp vs H1 Q E) := ⟨fun h => rd_call h⟩
theorem rd_cb {rr : List V → Hp → VK → Prop} (h : tr σ H fun vs H1 => rr vs H1 Q) : tCB rr tr σ H Q := h
instance st_cb {rr : List V → Hp → VK → Prop} : Stp (tCB rr tr σ H Q) (tr σ H fun vs H1 => rr vs H1 Q) := ⟨fun h => rd_cb h⟩
/-! statements -/
theorem rd_seq (h : t ⟨u ⟨nx, rt, bk, ct⟩, rt, bk, ct⟩ σ H) : tSeq t u ⟨nx, rt, bk, ct⟩ σ H := h
instance st_seq  : Stp (tSeq t u ⟨nx, rt, bk, ct⟩ σ H) (t ⟨u ⟨nx, rt, bk, ct⟩, rt, bk, ct⟩ σ H) := ⟨fun h => rd_seq h⟩
theorem rd_next (q : nx σ H) : tNext ⟨nx, rt, bk, ct⟩ σ H := q
instance st_next  : Stp (tNext ⟨nx, rt, bk, ct⟩ σ H) (nx σ H) := ⟨fun h => rd_next h⟩
theorem rd_break (q : bk σ H) : tBreak ⟨nx, rt, bk, ct⟩ σ H := q
instance st_break  : Stp (tBreak ⟨nx, rt, bk, ct⟩ σ H) (bk σ H) := ⟨fun h => rd_break h⟩
theorem rd_cont (q : ct σ H) : tCont ⟨nx, rt, bk, ct⟩ σ H := q
instance st_cont  : Stp (tCont ⟨nx, rt, bk, ct⟩ σ H) (ct σ H) := ⟨fun h => rd_cont h⟩
theorem rd_ret (h : te σ H rt) : tRet te ⟨nx, rt, bk, ct⟩ σ H := h
instance st_ret  : Stp (tRet te ⟨nx, rt, bk, ct⟩ σ H) (te σ H rt) := ⟨fun h => rd_ret h⟩
theorem rd_retN (h : rt .non H) : tRetN ⟨nx, rt, bk, ct⟩ σ H := h
instance st_retN  : Stp (tRetN ⟨nx, rt, bk, ct⟩ σ H) (rt .non H) := ⟨fun h => rd_retN h⟩
theorem rd_drop (h : te σ H fun _ H1 => nx σ H1) : tDrop te ⟨nx, rt, bk, ct⟩ σ H := h
instance st_drop  : Stp (tDrop te ⟨nx, rt, bk, ct⟩ σ H) (te σ H fun _ H1 => nx σ H1) := ⟨fun h => rd_drop h⟩
theorem rd_asg {g : TG} (h : te σ H fun x H1 => g x σ H1 nx) : tAsg te g ⟨nx, rt, bk, ct⟩ σ H := h
instance st_asg {g : TG} : Stp (tAsg te g ⟨nx, rt, bk, ct⟩ σ H) (te σ H fun x H1 => g x σ H1 nx) := ⟨fun h => rd_asg h⟩
theorem rd_gname {n : Nat} {N : St → Hp → Prop} (q : N (σ.set n (some v)) H) : gName n v σ H N := q
instance st_gname {n : Nat} {N : St → Hp → Prop} : Stp (gName n v σ H N) (N (σ.set n (some v)) H) := ⟨fun h => rd_gname h⟩
theorem rd_ifS (h : tt σ H fun b H1 => if b = true then t1 ⟨nx, rt, bk, ct⟩ σ H1 else t2 ⟨nx, rt, bk, ct⟩ σ H1) : tIfS tt t1 t2 ⟨nx, rt, bk, ct⟩ σ H := h
instance st_ifS  : Stp (tIfS tt t1 t2 ⟨nx, rt, bk, ct⟩ σ H) (tt σ H fun b H1 => if b = true then t1 ⟨nx, rt, bk, ct⟩ σ H1 else t2 ⟨nx, rt, bk, ct⟩ σ H1) := ⟨fun h => rd_ifS h⟩
theorem rd_par {m n : Nat} (h : tr σ H fun vs H1 => ∃ v w, vs = [v, w] ∧ nx ((σ.set m (some v)).set n (some w)) H1) : tPar m n tr ⟨nx, rt, bk, ct⟩ σ H := h
instance st_par {m n : Nat} : Stp (tPar m n tr ⟨nx, rt, bk, ct⟩ σ H) (tr σ H fun vs H1 => ∃ v w, vs = [v, w] ∧ nx ((σ.set m (some v)).set n (some w)) H1) := ⟨fun h => rd_par h⟩
theorem rd_par2 {v w : V} {P : V → V → Prop} (q : P v w) : ∃ v' w', [v, w] = [v', w'] ∧ P v' w' := ⟨v, w, rfl, q⟩
instance st_par2 {v w : V} {P : V → V → Prop} : Stp (∃ v' w', [v, w] = [v', w'] ∧ P v' w') (P v w) := ⟨fun h => rd_par2 h⟩
theorem rd_augG {n : Nat} {x : V} {te : TE} {ti : TIp} (h : σ[n]? = some (some x)) (q : te σ H fun y H1 => ti x y H1 fun z H2 => nx (σ.set n (some z)) H2) : tAug n te ti ⟨nx, rt, bk, ct⟩ σ H := ⟨x, h, q⟩
theorem rd_ipI {f : Int → Int → Int} {i j : Int} {R : VK} (q : R (.int (f i j)) H) : ipI f (.int i) (.int j) H R := ⟨i, j, rfl, rfl, q⟩
instance st_ipI {f : Int → Int → Int} {i j : Int} {R : VK} : Stp (ipI f (.int i) (.int j) H R) (R (.int (f i j)) H) := ⟨fun h => rd_ipI h⟩
theorem rd_augC {n : Nat} {f : Int → Int → Int} (h : σ[n]? = some (some (.int i))) (q : nx (σ.set n (some (.int (f i j)))) H) : tAug n (tC (.int j)) (ipI f) ⟨nx, rt, bk, ct⟩ σ H := ⟨.int i, h, i, j, rfl, rfl, q⟩
/-! ifs -/
theorem rd_ite {p A B : Prop} [Decidable p] (h1 : p → A) (h2 : ¬ p → B) : if decide p = true then A else B := by
  by_cases h : p
  · rw [if_pos (decide_eq_true h)]
    exact h1 h
  · rw [if_neg (by rw [decide_eq_false h]; decide)]
    exact h2 h
theorem rd_iteN {p A B : Prop} [Decidable p] (h1 : ¬ p → A) (h2 : p → B) : if (!decide p) = true then A else B := by
  by_cases h : p
  · rw [if_neg (by rw [decide_eq_true h]; decide)]
    exact h2 h
  · rw [if_pos (by rw [decide_eq_false h]; decide)]
    exact h1 h
theorem rd_iteb {b : Bool} {A B : Prop} (h1 : b = true → A) (h2 : b = false → B) : if b = true then A else B := by
  cases b with
  | true => exact h1 rfl
  | false => exact h2 rfl
theorem rd_iteNT {A B : Prop} (h : B) : if (!true) = true then A else B := h
instance st_iteNT {A B : Prop} : Stp (if (!true) = true then A else B) (B) := ⟨fun h => rd_iteNT h⟩
theorem rd_iteNF {A B : Prop} (h : A) : if (!false) = true then A else B := h
instance st_iteNF {A B : Prop} : Stp (if (!false) = true then A else B) (A) := ⟨fun h => rd_iteNF h⟩
theorem rd_iteT {A B : Prop} (h : A) : if true = true then A else B := iteT h
instance st_iteT {A B : Prop} : Stp (if true = true then A else B) (A) := ⟨fun h => rd_iteT h⟩
theorem rd_iteF {A B : Prop} (h : B) : if false = true then A else B := iteF h
instance st_iteF {A B : Prop} : Stp (if false = true then A else B) (B) := ⟨fun h => rd_iteF h⟩
/-! while, for -/
def lBody (W : Nat → St → Hp → Prop) (m : Nat) (tb : TS) (nx : St → Hp → Prop) (rt : VK) : St → Hp → Prop := fun σ H =>
  ∃ N : St → Hp → Prop, (∀ σ' H', N σ' H' → ∃ m', m' < m ∧ W m' σ' H') ∧ tb ⟨N, rt, nx, N⟩ σ H
theorem rd_lBody {W : Nat → St → Hp → Prop} {m : Nat} (h : t ⟨fun σ' H' => ∃ m', m' < m ∧ W m' σ' H', rt, nx, fun σ' H' => ∃ m', m' < m ∧ W m' σ' H'⟩ σ H) : lBody W m t nx rt σ H := ⟨_, fun _ _ q => q, h⟩
instance st_lBody {W : Nat → St → Hp → Prop} {m : Nat} : Stp (lBody W m t nx rt σ H) (t ⟨fun σ' H' => ∃ m', m' < m ∧ W m' σ' H', rt, nx, fun σ' H' => ∃ m', m' < m ∧ W m' σ' H'⟩ σ H) := ⟨fun h => rd_lBody h⟩
theorem rd_while (W : Nat → St → Hp → Prop) (m0 : Nat) (h0 : W m0 σ H) (turn : ∀ m σ H, W m σ H → tt σ H fun b H1 => if b = true then lBody W m t nx rt σ H1 else nx σ H1) : tWhile tt t ⟨nx, rt, bk, ct⟩ σ H :=
  ⟨W, ⟨m0, h0⟩, fun m σ H w => turn m σ H w⟩
def fBody (J : It) (g : TG) (tb : TS) (nx : St → Hp → Prop) (rt : VK) : St → Hp → Prop := fun σ H => ∃ W : Nat → Nat → St → Hp → Prop, (∃ m, W 0 m σ H) ∧ ∀ i m σ H, W i m σ H →
  (J.stop i H ∧ nx σ H) ∨ (J.go i H ∧ ∃ N : St → Hp → Prop, (∀ σ' H', N σ' H' → ∃ m', m' < m ∧ W (i + 1) m' σ' H') ∧ ∀ x H', J.yld i H x H' → g x σ H' fun σ2 H2 => tb ⟨N, rt, nx, N⟩ σ2 H2)
theorem rd_for {wi : TI} {g : TG} (h : wi σ H fun J H1 => fBody J g t nx rt σ H1) : tFor wi g t ⟨nx, rt, bk, ct⟩ σ H := h
instance st_for {wi : TI} {g : TG} : Stp (tFor wi g t ⟨nx, rt, bk, ct⟩ σ H) (wi σ H fun J H1 => fBody J g t nx rt σ H1) := ⟨fun h => rd_for h⟩
theorem rd_forR {lo : Int} {n : Nat} {g : TG} (Pv : Nat → St → Hp → Prop) (h0 : Pv 0 σ H)
    (hs : ∀ i σ H, i < n → Pv i σ H → g (.int (lo + i)) σ H fun σ2 H2 => t ⟨Pv (i + 1), rt, nx, Pv (i + 1)⟩ σ2 H2) (hd : ∀ σ H, Pv n σ H → nx σ H) : fBody (Itr lo n) g t nx rt σ H :=
  for_range (D := ⟨nx, rt, fun _ _ => False, fun _ _ => False⟩) Pv h0 hs hd
theorem rd_forL {a : Addr} {xs : List V} {g : TG} (Pv : Nat → St → Hp → Prop) (h0 : Pv 0 σ H) (hl : ∀ i σ H, i ≤ xs.length → Pv i σ H → SqL K H a xs)
    (hs : ∀ i x σ H, xs[i]? = some x → Pv i σ H → g x σ H fun σ2 H2 => t ⟨Pv (i + 1), rt, nx, Pv (i + 1)⟩ σ2 H2) (hd : ∀ σ H, Pv xs.length σ H → nx σ H) : fBody (Itl K a) g t nx rt σ H :=
  for_list (D := ⟨nx, rt, fun _ _ => False, fun _ _ => False⟩) Pv h0 hl hs hd
theorem rd_forT {a : Addr} {xs : List V} {g : TG} (Pv : Nat → St → Hp → Prop) (h0 : Pv 0 σ H) (hl : ∀ i σ H, i ≤ xs.length → Pv i σ H → SqT K H a xs)
    (hs : ∀ i x σ H, xs[i]? = some x → Pv i σ H → g x σ H fun σ2 H2 => t ⟨Pv (i + 1), rt, nx, Pv (i + 1)⟩ σ2 H2) (hd : ∀ σ H, Pv xs.length σ H → nx σ H) : fBody (Itt K a) g t nx rt σ H :=
  for_tup (D := ⟨nx, rt, fun _ _ => False, fun _ _ => False⟩) Pv h0 hl hs hd
theorem rd_ixL {p : Addr} {xs : List V} (h : SqL K H p xs) (ha : atI xs i = some v) (q : Q v H) : rIxL K (.ref p) (.int i) H Q := ⟨p, xs, i, v, rfl, rfl, h, ha, q⟩
theorem rd_ixT {p : Addr} {xs : List V} (h : SqT K H p xs) (ha : atI xs i = some v) (q : Q v H) : rIxT K (.ref p) (.int i) H Q := ⟨p, xs, i, v, rfl, rfl, h, ha, q⟩
end
theorem same_new {H : Hp} {p : Addr} {o : HO} (h : H p = none) : Same H (upd H p o) := fun b x e => by
  rw [upd_ne (ne_of_none e h)]
  exact e
end L2
namespace L2
open PySem PySem.Spec PyProof.Rows
section
variable {σ : St} {H : Hp} {Q : VK} {K : PySem.W.Frag} {v : V} {N : St → Hp → Prop} {S : Hp → Prop}
theorem rd_gsub {to ti : TE} {t : TSet} (h : to σ H fun o H1 => ti σ H1 fun i H2 => t o i v H2 fun H3 => N σ H3) : gSub to ti t v σ H N := h
instance st_gsub {to ti : TE} {t : TSet} : Stp (gSub to ti t v σ H N) (to σ H fun o H1 => ti σ H1 fun i H2 => t o i v H2 fun H3 => N σ H3) := ⟨fun h => rd_gsub h⟩
theorem rd_setL {p : Addr} {xs : List V} {k : Int} {j : Nat} (h : H p = some (.lst xs)) (hj : ixN xs.length k = some j) (q : S (upd H p (.lst (xs.set j v)))) : rSetL (.ref p) (.int k) v H S := ⟨p, xs, k, j, rfl, rfl, h, hj, q⟩
end
end L2
namespace L2
open PySem PySem.Spec PyProof.Rows
section
variable {σ : St} {H : Hp} {Q : VK} {K : PySem.W.Frag} {v x y : V} {N : St → Hp → Prop} {S : Hp → Prop} {p : Addr} {o : HO}
theorem rd_new {n : Nat} {F : Addr → Prop} (h : n ≤ sizeLine) (q : ∀ p, H p = none → F p) : n ≤ sizeLine ∧ ∀ p, H p = none → F p := ⟨h, q⟩
theorem rd_back {P : Prop} (hp : H p = none) (q : P) : Same H (upd H p o) ∧ P := ⟨same_new hp, q⟩
theorem rd_backR {P : Prop} (q : P) : Same H H ∧ P := ⟨Same.refl H, q⟩
instance st_backR {P : Prop} : Stp (Same H H ∧ P) (P) := ⟨fun h => rd_backR h⟩
theorem inV2 {i a b : Int} : inV (.int i) [.int a, .int b] = decide (i = a ∨ i = b) := by
  simp only [inV, eqV, List.any_cons, List.any_nil, Bool.or_false]
  by_cases h1 : i = a
  · subst h1
    simp
  · by_cases h2 : i = b
    · subst h2
      simp
    · have e1 : (a == i) = false := by simpa using Ne.symm h1
      have e2 : (b == i) = false := by simpa using Ne.symm h2
      rw [e1, e2]
      simp [h1, h2]
theorem rd_in2 {i a b : Int} (q : Q (.bl (decide (i = a ∨ i = b))) (upd H p (.tup [.int a, .int b]))) : rIn K false (.int i) (.ref p) (upd H p (.tup [.int a, .int b])) Q :=
  ⟨p, _, rfl, .inr (SqT.of upd_same), rfl, rfl, by
    show Q (.bl (inV (.int i) [.int a, .int b])) _
    rw [inV2]
    exact q⟩
instance st_in2 {i a b : Int} : Stp (rIn K false (.int i) (.ref p) (upd H p (.tup [.int a, .int b])) Q) (Q (.bl (decide (i = a ∨ i = b))) (upd H p (.tup [.int a, .int b]))) := ⟨fun h => rd_in2 h⟩
theorem rd_gtup {a : Addr} {xs : List V} {n : Nat} {t : TGs} (h : SqT K H a xs) (hn : xs.length = n) (q : t xs σ H N) : gTup K n t (.ref a) σ H N := ⟨a, xs, rfl, h, hn, q⟩
theorem rd_gcons {t : TG} {u : TGs} {xs : List V} (q : t x σ H fun σ' H' => u xs σ' H' N) : gCons t u (x :: xs) σ H N := ⟨x, xs, rfl, q⟩
instance st_gcons {t : TG} {u : TGs} {xs : List V} : Stp (gCons t u (x :: xs) σ H N) (t x σ H fun σ' H' => u xs σ' H' N) := ⟨fun h => rd_gcons h⟩
theorem rd_gnil (q : N σ H) : gNil [] σ H N := ⟨rfl, q⟩
instance st_gnil  : Stp (gNil [] σ H N) (N σ H) := ⟨fun h => rd_gnil h⟩
theorem rd_bm {T : String} {r : V → List V → Hp → VK → Prop} {to : TE} {t : TA} (h : to σ H fun x H1 => tyV K T x H1 ∧ t σ H1 fun xs H2 => r x xs H2 Q) : tBM K T r to t σ H Q := h
instance st_bm {T : String} {r : V → List V → Hp → VK → Prop} {to : TE} {t : TA} : Stp (tBM K T r to t σ H Q) (to σ H fun x H1 => tyV K T x H1 ∧ t σ H1 fun xs H2 => r x xs H2 Q) := ⟨fun h => rd_bm h⟩
theorem rd_bm0 {T : String} {r : V → List V → Hp → VK → Prop} {to : TE} (h : to σ H fun x H1 => tyV K T x H1 ∧ r x [] H1 Q) : tBM0 K T r to σ H Q := h
instance st_bm0 {T : String} {r : V → List V → Hp → VK → Prop} {to : TE} : Stp (tBM0 K T r to σ H Q) (to σ H fun x H1 => tyV K T x H1 ∧ r x [] H1 Q) := ⟨fun h => rd_bm0 h⟩
theorem rd_tyL {xs : List V} {P : Prop} (h : H p = some (.lst xs)) (q : P) : tyV K "list" (.ref p) H ∧ P := ⟨.inl ⟨rfl, _, SqL.of h⟩, q⟩
theorem rd_append {xs : List V} (h : H p = some (.lst xs)) (hl : xs.length < sizeLine) (q : Q .non (upd H p (.lst (xs ++ [y])))) : rAppend (.ref p) [y] H Q := ⟨p, xs, y, rfl, rfl, h, hl, q⟩
theorem same_upd2 {H' : Hp} {o1 : HO} (h : Same H H') (hp : H p = none) : Same H (upd H' p o1) := fun b x e => by
  rw [upd_ne (ne_of_none e hp)]
  exact h b x e
theorem upd_keep {q : Addr} {u : HO} (h : H p = some o) (hq : H q = none) : upd H q u p = some o := (upd_ne (ne_of_none h hq)).trans h
end
end L2
namespace L2
open PySem PySem.Spec PyProof.Rows
theorem rd_cut {σ : St} {H : Hp} {t u : TS} {nx : St → Hp → Prop} {rt : VK} {bk ct : St → Hp → Prop} (Mid : St → Hp → Prop) (h : t ⟨Mid, rt, bk, ct⟩ σ H) (q : ∀ σ' H', Mid σ' H' → u ⟨nx, rt, bk, ct⟩ σ' H') : C8.tCut t u ⟨nx, rt, bk, ct⟩ σ H := ⟨Mid, h, q⟩
/-! ### built-ins, by name -/
def rLenQ (K : PySem.W.Frag) : List V → Hp → VK → Prop := fun xs H Q => ∃ p ys, xs = [.ref p] ∧ (SqL K H p ys ∨ SqT K H p ys) ∧ Q (.int ys.length) H
def rAbs : List V → Hp → VK → Prop := fun xs H Q => ∃ i, xs = [.int i] ∧ Q (.int (if i < 0 then -i else i)) H
def rMax2 : List V → Hp → VK → Prop := fun xs H Q => ∃ i j, xs = [.int i, .int j] ∧ Q (.int (if j > i then j else i)) H
def rMin2 : List V → Hp → VK → Prop := fun xs H Q => ∃ i j, xs = [.int i, .int j] ∧ Q (.int (if j < i then j else i)) H
def rInt1 : List V → Hp → VK → Prop := fun xs H Q => (∃ i, xs = [.int i] ∧ Q (.int i) H) ∨ ∃ k, xs = [.bl k] ∧ Q (.int (if k then 1 else 0)) H
def rListOf (K : PySem.W.Frag) : List V → Hp → VK → Prop := fun xs H Q => ∃ p ys, xs = [.ref p] ∧ (SqL K H p ys ∨ SqT K H p ys) ∧ ∀ l, H l = none → Q (.ref l) (upd H l (.lst ys))
section
variable {X : Cx}
theorem c_len : CallR X (.builtin "len") (rLenQ X.K) := call_len_seq
theorem c_abs : CallR X (.builtin "abs") rAbs := call_abs
theorem c_int1 : CallR X (.type "int") rInt1 := call_int1
end
section
variable {H : Hp} {Q : VK} {K : PySem.W.Frag} {i j : Int} {p : Addr} {ys : List V}
theorem rd_abs (q : Q (.int (if i < 0 then -i else i)) H) : rAbs [.int i] H Q := ⟨i, rfl, q⟩
instance st_abs  : Stp (rAbs [.int i] H Q) (Q (.int (if i < 0 then -i else i)) H) := ⟨fun h => rd_abs h⟩
theorem rd_max2 (q : Q (.int (if j > i then j else i)) H) : rMax2 [.int i, .int j] H Q := ⟨i, j, rfl, q⟩
instance st_max2  : Stp (rMax2 [.int i, .int j] H Q) (Q (.int (if j > i then j else i)) H) := ⟨fun h => rd_max2 h⟩
theorem rd_min2 (q : Q (.int (if j < i then j else i)) H) : rMin2 [.int i, .int j] H Q := ⟨i, j, rfl, q⟩
instance st_min2  : Stp (rMin2 [.int i, .int j] H Q) (Q (.int (if j < i then j else i)) H) := ⟨fun h => rd_min2 h⟩
theorem rd_int (q : Q (.int i) H) : rInt1 [.int i] H Q := .inl ⟨i, rfl, q⟩
instance st_int  : Stp (rInt1 [.int i] H Q) (Q (.int i) H) := ⟨fun h => rd_int h⟩
theorem rd_intB {b : Bool} (q : Q (.int (if b then 1 else 0)) H) : rInt1 [.bl b] H Q := .inr ⟨b, rfl, q⟩
instance st_intB {b : Bool} : Stp (rInt1 [.bl b] H Q) (Q (.int (if b then 1 else 0)) H) := ⟨fun h => rd_intB h⟩
theorem rd_lenL (h : SqL K H p ys) (q : Q (.int ys.length) H) : rLenQ K [.ref p] H Q := ⟨p, ys, rfl, .inl h, q⟩
theorem rd_lenT (h : SqT K H p ys) (q : Q (.int ys.length) H) : rLenQ K [.ref p] H Q := ⟨p, ys, rfl, .inr h, q⟩
theorem rd_listOfL (h : SqL K H p ys) (q : ∀ l, H l = none → Q (.ref l) (upd H l (.lst ys))) : rListOf K [.ref p] H Q := ⟨p, ys, rfl, .inl h, q⟩
end
end L2
namespace L2
open PySem PySem.Spec PyProof.Rows
/-- a power with a written exponent -/
def rPowN (e : Nat) : R2 := fun x y H Q => ∃ i, x = .int i ∧ y = .int (e : Int) ∧ e ≤ 1000000 ∧ i.natAbs < 2 ^ 64 ∧ Q (.int (i ^ e)) H
theorem op_powN {X : Cx} (e : Nat) : OpR X (binaryOp .Pow) (rPowN e) := fun pins s σ H x y v u Q I rx ry ⟨i, e1, e2, h1, h2, q⟩ =>
  op_pow pins s σ H x y v u Q I rx ry ⟨i, (e : Int), e1, e2, ⟨Int.natCast_nonneg _, by omega, h2⟩, q⟩
theorem rd_powN {e : Nat} {i z : Int} {H : Hp} {Q : VK} (hz : z = (e : Int)) (h1 : e ≤ 1000000) (h2 : i.natAbs < 2 ^ 64) (q : Q (.int (i ^ e)) H) : rPowN e (.int i) (.int z) H Q := ⟨i, rfl, by rw [hz], h1, h2, q⟩
end L2
namespace L2
open PySem PySem.Spec PyProof.Rows
/-! ### a def of the text, and what it keeps -/
structure DefAt (K : PySem.W.Frag) (mg : Str → Option Value) (x : Str) (st : Stmt) (ps : List Str) : Prop where
  ex : ∃ (f : Addr) (fd : FuncData), Fun K x x st f fd ∧ mg x = some (.ref f) ∧ Binds K fd ps []
structure Def (P : Program) (w : World) (K : PySem.W.Frag) (mg : Str → Option Value) (base : Heap) (k : Nat) (x : Str) (ps : List Str) (sp : Sp) : Prop where
  ex : ∃ (f : Addr) (fd : FuncData), FnOk P w K mg base (L2.CX P w) k f fd ps sp ∧ mg x = some (.ref f) ∧ PySem.W.keepIn K (.ref f) = true ∧ Binds K fd ps []
section
variable {P : Program} {w : World} {K : PySem.W.Frag} {mg : Str → Option Value} {base : Heap}
theorem DefAt.ok {x : Str} {st : Stmt} {N ps : List Str} {k : Nat} {sp : Sp} (D : DefAt K mg x st ps) (S : FnScope N ps (defScope st)) (len : ∀ vs H Q E, sp vs H Q E → vs.length = ps.length)
    (hbody : ∀ (f : Addr) (cdv : Value) (A : Around) (outer : List Env) (s : Shared) (H : Hp) (vs : List V) (Q : VK) (E : XK), Room k (A.deeper (envOfC x (defScope st) s.heap.objs.size f cdv)) → sp vs H Q E →
      ∃ t, PSs (cxOf (L2.CX P w) P w K mg base N x (defScope st) f cdv A outer s H E) (defBody st) t ∧ t ⟨fun _ H' => Q .non H', Q, fun _ _ => False, fun _ _ => False⟩ (start N vs) H) : Def P w K mg base (k + 1) x ps sp := by
  obtain ⟨f, fd, F, g, b⟩ := D.ex
  exact ⟨f, fd, F.okX S len fun cdv A outer s H vs Q E hr h => hbody f cdv A outer s H vs Q E hr h, g, F.kp, b⟩
theorem Def.imp {k : Nat} {x : Str} {ps : List Str} {sp sp' : Sp} (D : Def P w K mg base k x ps sp) (h : ∀ vs H Q E, sp' vs H Q E → sp vs H Q E) : Def P w K mg base k x ps sp' := by
  obtain ⟨f, fd, F, g, kp, b⟩ := D.ex
  exact ⟨f, fd, F.imp h, g, kp, b⟩
theorem Def.mono {j k : Nat} {x : Str} {ps : List Str} {sp : Sp} (D : Def P w K mg base j x ps sp) (h : j ≤ k) : Def P w K mg base k x ps sp := by
  obtain ⟨f, fd, F, g, kp, b⟩ := D.ex
  exact ⟨f, fd, F.mono h, g, kp, b⟩
end
section
variable {X : Cx}
theorem pe_d {k : Nat} {x : Str} {ps : List Str} {sp : Sp} {E : XK} {p pos : Pos} {e : Expr} {es : List Expr} {t : TA} (D : Def X.prog X.w X.K X.mg X.base k x ps sp) (hr : Room k X.A) (hx : Passes (L2.CX X.prog X.w) X E) (ha : PA X (e :: es) t) (hg : Gl X x := by rfl)
    (hd : (x == ("__debug__" : Str)) = false := by decide) (he : starEach (e :: es) X.env = (false, eval e X.env) :: starEach es X.env := by rfl) (hpl : (backTo pos (starEach es X.env)).any (·.1) = false := by rfl) :
    PE X (.Call (.Name x p) (e :: es) [] pos) (tCall sp [] E t) := by
  obtain ⟨f, fd, F, g, kp, b⟩ := D.ex
  exact pe_call F hr hg g kp b .nil hx ha hd he hpl
theorem rd_callS {sp : Sp} {W : WX} {tr : TA} {σ : St} {H : Hp} {Q : VK} (h : tr σ H fun vs H1 => sp vs H1 Q (WE W σ)) : tCallS sp (WE W) tr σ H Q := h
instance st_callS {sp : Sp} {W : WX} {tr : TA} {σ : St} {H : Hp} {Q : VK} : Stp (tCallS sp (WE W) tr σ H Q) (tr σ H fun vs H1 => sp vs H1 Q (WE W σ)) := ⟨fun h => rd_callS h⟩
end
/-! ### the program's own errors -/
/-- __init__ of an error with fields: the values ws become fl ws -/
def spErr (C : Addr) (n : Nat) (fl : List V → List (Str × V)) : Sp := fun vs H Q _ => ∃ (a : Addr) (ws : List V), vs = .ref a :: ws ∧ ws.length = n ∧ H a = some (exo a C none) ∧
  ∀ dx, H dx = none → dx ≠ a → Q .non (upd (upd H dx (exd dx (fl ws))) a (exo a C (some dx)))
/-- a class of the program's errors: raised by its name, with n values, the fields fl -/
structure ErrC (P : Program) (w : World) (K : PySem.W.Frag) (mg : Str → Option Value) (base : Heap) (x : Str) (n : Nat) (fl : List V → List (Str × V)) (C : Addr) : Prop where
  g : mg x = some (.ref C)
  T : OexC K C
  X : XfC K C
  self : PySem.W.exmOne K (.ref C) (.ref C) = some true
  ini : ∃ (fI : Addr) (fd : FuncData) (ps : List Str), PySem.W.findIn K (.ref C) "__init__" = some (some (.ref fI)) ∧ PySem.W.typeIn K (.ref fI) = some (.type "function") ∧ FnOk P w K mg base (L2.CX P w) 1 fI fd ps (spErr C n fl) ∧ Binds K fd ps []
/-- what the raising asks -/
theorem rd_mk {C : Addr} {n : Nat} {fl : List V → List (Str × V)} {ta : TA} {σ : St} {H : Hp} {Q : XK} (h : ta σ H fun vs H1 => vs.length ≤ 1000 ∧ ∀ a, H1 a = none → spErr C n fl (.ref a :: (vs ++ [])) (upd H1 a (exo a C none))
  (fun v H2 => v = .non ∧ ∃ (d : Addr) (fs : List (Str × V)), H2 a = some (exo a C (some d)) ∧ H2 d = some (exd d fs) ∧ H1 d = none ∧ Q (.ref C) (some d) (upd (del H2 a) d (.xd fs))) (fun _ _ _ => False)) : tMkO C (spErr C n fl) [] ta σ H Q := h
instance st_mk {C : Addr} {n : Nat} {fl : List V → List (Str × V)} {ta : TA} {σ : St} {H : Hp} {Q : XK} : Stp (tMkO C (spErr C n fl) [] ta σ H Q) (ta σ H fun vs H1 => vs.length ≤ 1000 ∧ ∀ a, H1 a = none → spErr C n fl (.ref a :: (vs ++ [])) (upd H1 a (exo a C none))
  (fun v H2 => v = .non ∧ ∃ (d : Addr) (fs : List (Str × V)), H2 a = some (exo a C (some d)) ∧ H2 d = some (exd d fs) ∧ H1 d = none ∧ Q (.ref C) (some d) (upd (del H2 a) d (.xd fs))) (fun _ _ _ => False)) := ⟨fun h => rd_mk h⟩
theorem rd_mk1 {C : Addr} {n : Nat} {fl : List V → List (Str × V)} {vs : List V} {H1 : Hp} {Q : XK} (hl : vs.length = n) (hn : n ≤ 1000) (h : ∀ d, H1 d = none → Q (.ref C) (some d) (upd H1 d (.xd (fl vs)))) :
    vs.length ≤ 1000 ∧ ∀ a, H1 a = none → spErr C n fl (.ref a :: (vs ++ [])) (upd H1 a (exo a C none))
      (fun v H2 => v = .non ∧ ∃ (d : Addr) (fs : List (Str × V)), H2 a = some (exo a C (some d)) ∧ H2 d = some (exd d fs) ∧ H1 d = none ∧ Q (.ref C) (some d) (upd (del H2 a) d (.xd fs))) (fun _ _ _ => False) := by
  refine ⟨by omega, fun a na => ⟨a, vs, by rw [List.append_nil], hl, upd_same, fun dx nd ne => ⟨rfl, dx, fl vs, upd_same, ?_, ?_, ?_⟩⟩⟩
  · rw [upd_ne ne, upd_same]
  · rw [upd_ne ne] at nd
    exact nd
  · have nd' : H1 dx = none := by
      rw [upd_ne ne] at nd
      exact nd
    have z := h dx nd'
    have eq : upd (del (upd (upd (upd H1 a (exo a C none)) dx (exd dx (fl vs))) a (exo a C (some dx))) a) dx (.xd (fl vs)) = upd H1 dx (.xd (fl vs)) := by
      funext b
      by_cases hb : b = dx
      · rw [hb, upd_same, upd_same]
      · rw [upd_ne hb, upd_ne hb]
        by_cases ha : b = a
        · rw [ha, del_same, na]
        · rw [del_ne ha, upd_ne ha, upd_ne hb, upd_ne ha]
    rw [eq]
    exact z
end L2
namespace L2
open PySem PySem.Spec PyProof.Rows
/-- what the top has written of an error's class -/
structure ErrRaw (K : PySem.W.Frag) (mg : Str → Option Value) (x : Str) (C : Addr) (sI : Stmt) (qual : Str) (ps : List Str) : Prop where
  g : mg x = some (.ref C)
  T : OexC K C
  X : XfC K C
  self : PySem.W.exmOne K (.ref C) (.ref C) = some true
  ini : ∃ (fI : Addr) (fd : FuncData), PySem.W.findIn K (.ref C) "__init__" = some (some (.ref fI)) ∧ PySem.W.typeIn K (.ref fI) = some (.type "function") ∧ Fun K "__init__" qual sI fI fd ∧ Binds K fd ps []
theorem ErrC.of {P : Program} {w : World} {K : PySem.W.Frag} {mg : Str → Option Value} {base : Heap} {x : Str} {C : Addr} {sI : Stmt} {qual : Str} {ps : List Str} {n : Nat} {fl : List V → List (Str × V)} (R : ErrRaw K mg x C sI qual ps)
    (h : ∀ (fI : Addr) (fd : FuncData), Fun K "__init__" qual sI fI fd → FnOk P w K mg base (L2.CX P w) 1 fI fd ps (spErr C n fl)) : ErrC P w K mg base x n fl C := by
  obtain ⟨fI, fd, i, t, F, b⟩ := R.ini
  exact ⟨R.g, R.T, R.X, R.self, fI, fd, ps, i, t, h fI fd F, b⟩
theorem NoT.only {H : Hp} (h : Only H) : NoT H := fun a o e => by
  rcases h a with z | ⟨u, xs, z⟩
  · rw [z] at e
    cases e
  · rw [z] at e
    cases e
    rfl
/-- law's: a list of at most 63 ints is handed in, True comes out -/
def spLaw (K : PySem.W.Frag) : Sp := fun vs H Q _ => ∃ (a : Addr) (ns : List Int), vs = [.ref a] ∧ SqL K H a (ns.map V.int) ∧ ns.length ≤ 63 ∧ NoT H ∧ ∀ H', Q (.bl true) H'
end L2
namespace L2
open PySem PySem.Spec PyProof.Rows
/-! ### what is walked, by name -/
def rRng1 (S : It → Hp → Prop) (vs : List V) (H : Hp) : Prop := ∃ j : Int, vs = [.int j] ∧ -(2 ^ 62) ≤ j ∧ j < 2 ^ 62 ∧ S (Itr 0 j.toNat) H
def rRng2 (S : It → Hp → Prop) (vs : List V) (H : Hp) : Prop := ∃ i j : Int, vs = [.int i, .int j] ∧ (-(2 ^ 62) ≤ i ∧ i < 2 ^ 62 ∧ -(2 ^ 62) ≤ j ∧ j < 2 ^ 62) ∧ S (Itr i (j - i).toNat) H
def rItL (K : PySem.W.Frag) (S : It → Hp → Prop) (x : V) (H : Hp) : Prop := ∃ a, x = .ref a ∧ (∃ xs, SqL K H a xs) ∧ S (Itl K a) H
def rItT (K : PySem.W.Frag) (S : It → Hp → Prop) (x : V) (H : Hp) : Prop := ∃ a, x = .ref a ∧ (∃ xs, SqT K H a xs) ∧ S (Itt K a) H
section
variable {σ : St} {H : Hp} {Q : VK} {K : PySem.W.Frag} {v x y : V} {ta te : TE} {tt : TT} {tr : TA} {S : It → Hp → Prop}
theorem rd_iR1 (h : tr σ H (rRng1 S)) : iRng1 tr σ H S := h
instance st_iR1  : Stp (iRng1 tr σ H S) (tr σ H (rRng1 S)) := ⟨fun h => rd_iR1 h⟩
theorem rd_iR2 (h : tr σ H (rRng2 S)) : iRng2 tr σ H S := h
instance st_iR2  : Stp (iRng2 tr σ H S) (tr σ H (rRng2 S)) := ⟨fun h => rd_iR2 h⟩
theorem rd_r1 {n : Int} (h1 : -(2 ^ 62) ≤ n) (h2 : n < 2 ^ 62) (q : S (Itr 0 n.toNat) H) : rRng1 S [.int n] H := ⟨n, rfl, h1, h2, q⟩
theorem rd_r2 {m n : Int} (h1 : -(2 ^ 62) ≤ m ∧ m < 2 ^ 62 ∧ -(2 ^ 62) ≤ n ∧ n < 2 ^ 62) (q : S (Itr m (n - m).toNat) H) : rRng2 S [.int m, .int n] H := ⟨m, n, rfl, h1, q⟩
theorem rd_iL (h : ta σ H (rItL K S)) : iList K ta σ H S := h
instance st_iL  : Stp (iList K ta σ H S) (ta σ H (rItL K S)) := ⟨fun h => rd_iL h⟩
theorem rd_iT (h : ta σ H (rItT K S)) : iTup K ta σ H S := h
instance st_iT  : Stp (iTup K ta σ H S) (ta σ H (rItT K S)) := ⟨fun h => rd_iT h⟩
theorem rd_iL1 {a : Addr} {xs : List V} (h : SqL K H a xs) (q : S (Itl K a) H) : rItL K S (.ref a) H := ⟨a, rfl, ⟨xs, h⟩, q⟩
theorem rd_iT1 {a : Addr} {xs : List V} (h : SqT K H a xs) (q : S (Itt K a) H) : rItT K S (.ref a) H := ⟨a, rfl, ⟨xs, h⟩, q⟩
/-! ### list comprehensions -/
def lcB (J : It) (g : TG) (tt : TT) (te : TE) (vs : List Nat) (σ : St) (Q : VK) (H1 : Hp) : Prop := ∀ D, H1 D = none → ∃ W : Nat → Nat → Hp → Prop, (∃ m, W 0 m (upd H1 D (.lst []))) ∧ ∀ i m H, W i m H →
  (J.stop i H ∧ Q (.ref D) H) ∨ (J.go i H ∧ ∃ Nx : Hp → Prop, (∀ H', Nx H' → ∃ m', m' < m ∧ W (i + 1) m' H') ∧ ∀ x H', J.yld i H x H' → g x (wipe σ vs) H' fun σ2 H2 => wipe σ2 vs = wipe σ vs ∧ tt σ2 H2 fun b H3 =>
    if b = true then te σ2 H3 fun y H4 => ∃ acc, H4 D = some (.lst acc) ∧ acc.length < sizeLine ∧ Nx (upd H4 D (.lst (acc ++ [y]))) else Nx H3)
theorem rd_lc {wi : TI} {g : TG} {vs : List Nat} (h : wi σ H fun J H1 => lcB J g tt te vs σ Q H1) : tLc wi g tt te vs σ H Q := h
instance st_lc {wi : TI} {g : TG} {vs : List Nat} : Stp (tLc wi g tt te vs σ H Q) (wi σ H fun J H1 => lcB J g tt te vs σ Q H1) := ⟨fun h => rd_lc h⟩
theorem rd_yes {R : Bool → Hp → Prop} (q : R true H) : tYes σ H R := q
instance st_yes {R : Bool → Hp → Prop} : Stp (tYes σ H R) (R true H) := ⟨fun h => rd_yes h⟩
/-- the item that was made goes onto the list; or none does -/
def LcPut (H : Hp) (D : Addr) (l0 l1 : List V) (y : V) (H4 : Hp) : Prop := ∃ acc, H4 D = some (.lst acc) ∧ acc.length < sizeLine ∧ upd H4 D (.lst (acc ++ [y])) = upd H D (.lst l1)
def LcSkip (H : Hp) (D : Addr) (l1 : List V) (H3 : Hp) : Prop := H3 = upd H D (.lst l1)
/-! ### deep equality -/
theorem rd_eqD {d e : PyData} (h1 : Dp K H x d) (h2 : Dp K H y e) (s1 : SeqAt.shaped d = true) (s2 : SeqAt.shaped e = true) (q : Q (.bl (PyData.eqv d e)) H) : rEqD K x y H Q := ⟨d, e, h1, h2, s1, s2, q⟩
theorem rd_neD {d e : PyData} (h1 : Dp K H x d) (h2 : Dp K H y e) (s1 : SeqAt.shaped d = true) (s2 : SeqAt.shaped e = true) (q : Q (.bl (!PyData.eqv d e)) H) : rNeD K x y H Q := ⟨d, e, h1, h2, s1, s2, q⟩
end
section
variable {K : PySem.W.Frag} {H : Hp}
theorem dpAll_ints : ∀ ns : List Int, DpAll K H (ns.map V.int) (ns.map PyData.int)
  | [] => .nil
  | n :: r => .cons (.int n) (dpAll_ints r)
theorem dpAll_bls : ∀ ns : List Bool, DpAll K H (ns.map V.bl) (ns.map PyData.bool)
  | [] => .nil
  | n :: r => .cons (.bl n) (dpAll_bls r)
theorem dp_ints {a : Addr} {ns : List Int} (h : SqL K H a (ns.map V.int)) : Dp K H (.ref a) (.list (ns.map PyData.int)) := .lst h (dpAll_ints ns)
end
theorem eqv_ints : ∀ ns ms : List Int, PyData.eqvAll (ns.map PyData.int) (ms.map PyData.int) = decide (ns = ms)
  | [], [] => rfl
  | [], _ :: _ => rfl
  | _ :: _, [] => rfl
  | n :: r, m :: s => by
    rw [List.map_cons, List.map_cons, PyData.eqvAll, eqv_ints r s]
    by_cases h : n = m
    · subst h
      simp [PyData.eqv]
    · have : (n == m) = false := by simpa using h
      simp [PyData.eqv, this, h]
/-! ### a clause of a try -/
section
variable {σ : St} {H : Hp} {K : PySem.W.Frag} {nx : St → Hp → Prop} {rt : VK} {bk ct : St → Hp → Prop} {Q : VK} {te : TE}
def XfB (a : Addr) (cls : Value) (d : Option Addr) (C : Addr) (f : Str) (x : V) (H1 : Hp) (Q : VK) : Prop := x = .ref a ∧ cls = .ref C ∧ ∃ (dd : Addr) (fs : List (Str × V)) (v : V), d = some dd ∧ H1 dd = some (.xd fs) ∧ fs.lookup f = some v ∧ Q v H1
theorem rd_xf {a C : Addr} {cls : Value} {d : Option Addr} {f : Str} (h : te σ H fun x H1 => XfB a cls d C f x H1 Q) : tXf a cls d C f te σ H Q := h
instance st_xf {a C : Addr} {cls : Value} {d : Option Addr} {f : Str} : Stp (tXf a cls d C f te σ H Q) (te σ H fun x H1 => XfB a cls d C f x H1 Q) := ⟨fun h => rd_xf h⟩
theorem rd_xfb {a C dd : Addr} {f : Str} {fs : List (Str × V)} {v : V} (h : H dd = some (.xd fs)) (hl : fs.lookup f = some v) (q : Q v H) : XfB a (.ref C) (some dd) C f (.ref a) H Q := ⟨rfl, rfl, dd, fs, v, rfl, h, hl, q⟩
end
end L2
namespace L2
open PySem PySem.Spec PyProof.Rows
section
variable {σ : St} {H : Hp} {Q : VK} {K : PySem.W.Frag} {N : St → Hp → Prop}
theorem rd_isiII {i : Int} (q : Q (.bl true) H) : rIsi K [.int i, .ty "int"] H Q := ⟨_, _, _, _, true, rfl, .ty _, .base (.int i), kit_ty (by decide +kernel), q⟩
instance st_isiII {i : Int} : Stp (rIsi K [.int i, .ty "int"] H Q) (Q (.bl true) H) := ⟨fun h => rd_isiII h⟩
theorem rd_isiIB {i : Int} (q : Q (.bl false) H) : rIsi K [.int i, .ty "bool"] H Q := ⟨_, _, _, _, false, rfl, .ty _, .base (.int i), kit_ty (by decide +kernel), q⟩
instance st_isiIB {i : Int} : Stp (rIsi K [.int i, .ty "bool"] H Q) (Q (.bl false) H) := ⟨fun h => rd_isiIB h⟩
theorem rd_isiBB {b : Bool} (q : Q (.bl true) H) : rIsi K [.bl b, .ty "bool"] H Q := ⟨_, _, _, _, true, rfl, .ty _, .base (.bl b), kit_ty (by decide +kernel), q⟩
instance st_isiBB {b : Bool} : Stp (rIsi K [.bl b, .ty "bool"] H Q) (Q (.bl true) H) := ⟨fun h => rd_isiBB h⟩
theorem rd_unl {a : Addr} {xs : List V} {n : Nat} {t : TGs} (h : SqL K H a xs) (hn : xs.length = n) (q : t xs σ H N) : gUnl K n t (.ref a) σ H N := ⟨a, xs, rfl, h, hn, q⟩
theorem rd_slL {a : Addr} {xs : List V} {lo hi : Option Int} (h : SqL K H a xs) (q : ∀ p, H p = none → Q (.ref p) (upd H p (.lst (cutV xs lo hi)))) : rSlL K (.ref a) lo hi H Q := ⟨a, xs, rfl, h, q⟩
theorem rd_sl {r : V → Option Int → Option Int → Hp → VK → Prop} {te : TE} {tl th : TO} (h : te σ H fun x H1 => tl σ H1 fun l H2 => th σ H2 fun u H3 => r x l u H3 Q) : tSl r te tl th σ H Q := h
instance st_sl {r : V → Option Int → Option Int → Hp → VK → Prop} {te : TE} {tl th : TO} : Stp (tSl r te tl th σ H Q) (te σ H fun x H1 => tl σ H1 fun l H2 => th σ H2 fun u H3 => r x l u H3 Q) := ⟨fun h => rd_sl h⟩
theorem rd_noPart {R : Option Int → Hp → Prop} (q : R none H) : tNoPart σ H R := q
instance st_noPart {R : Option Int → Hp → Prop} : Stp (tNoPart σ H R) (R none H) := ⟨fun h => rd_noPart h⟩
def rPart (R : Option Int → Hp → Prop) (x : V) (H : Hp) : Prop := ∃ i, x = .int i ∧ R (some i) H
theorem rd_part {te : TE} {R : Option Int → Hp → Prop} (h : te σ H (rPart R)) : tPart te σ H R := h
instance st_part {te : TE} {R : Option Int → Hp → Prop} : Stp (tPart te σ H R) (te σ H (rPart R)) := ⟨fun h => rd_part h⟩
theorem rd_part1 {i : Int} {R : Option Int → Hp → Prop} (q : R (some i) H) : rPart R (.int i) H := ⟨i, rfl, q⟩
instance st_part1 {i : Int} {R : Option Int → Hp → Prop} : Stp (rPart R (.int i) H) (R (some i) H) := ⟨fun h => rd_part1 h⟩
theorem rd_cat {l b : Addr} {xs zs : List V} (h1 : H l = some (.lst xs)) (h2 : H b = some (.lst zs)) (h3 : xs.length + zs.length ≤ sizeLine) (q : ∀ p, H p = none → Q (.ref p) (upd H p (.lst (xs ++ zs)))) : rCat (.ref l) (.ref b) H Q := ⟨l, b, xs, zs, rfl, rfl, h1, h2, h3, q⟩
end
end L2
namespace L2
theorem lt_pow_of {i : Int} {k : Nat} (h1 : -(2 ^ k) < i) (h2 : i < 2 ^ k) : i.natAbs < 2 ^ k := by
  have e : ((2 ^ k : Nat) : Int) = 2 ^ k := by rw [Int.natCast_pow]; rfl
  omega
theorem CMulB.wide {i j : Int} (h1 : -(2 ^ 250) < i ∧ i < 2 ^ 250) (h2 : -(2 ^ 250) < j ∧ j < 2 ^ 250) : CMulB i j :=
  .inr (wide_mul (lt_pow_of h1.1 h1.2) (lt_pow_of h2.1 h2.2) (by decide) (by decide) (by decide))
end L2
namespace L2
open PySem PySem.Spec PyProof.Rows
section
variable {H : Hp} {Q : VK} {K : PySem.W.Frag} {p : Addr}
theorem rd_in2L {i a b : Int} (q : Q (.bl (decide (i = a ∨ i = b))) (upd H p (.lst [.int a, .int b]))) : rIn K false (.int i) (.ref p) (upd H p (.lst [.int a, .int b])) Q :=
  ⟨p, _, rfl, .inl (SqL.of upd_same), rfl, rfl, by
    show Q (.bl (inV (.int i) [.int a, .int b])) _
    rw [inV2]
    exact q⟩
instance st_in2L {i a b : Int} : Stp (rIn K false (.int i) (.ref p) (upd H p (.lst [.int a, .int b])) Q) (Q (.bl (decide (i = a ∨ i = b))) (upd H p (.lst [.int a, .int b]))) := ⟨fun h => rd_in2L h⟩
theorem rd_nin2L {i a b : Int} (q : Q (.bl (!decide (i = a ∨ i = b))) (upd H p (.lst [.int a, .int b]))) : rIn K true (.int i) (.ref p) (upd H p (.lst [.int a, .int b])) Q :=
  ⟨p, _, rfl, .inl (SqL.of upd_same), rfl, rfl, by
    show Q (.bl (!inV (.int i) [.int a, .int b])) _
    rw [inV2]
    exact q⟩
instance st_nin2L {i a b : Int} : Stp (rIn K true (.int i) (.ref p) (upd H p (.lst [.int a, .int b])) Q) (Q (.bl (!decide (i = a ∨ i = b))) (upd H p (.lst [.int a, .int b]))) := ⟨fun h => rd_nin2L h⟩
theorem rd_nin2 {i a b : Int} (q : Q (.bl (!decide (i = a ∨ i = b))) (upd H p (.tup [.int a, .int b]))) : rIn K true (.int i) (.ref p) (upd H p (.tup [.int a, .int b])) Q :=
  ⟨p, _, rfl, .inr (SqT.of upd_same), rfl, rfl, by
    show Q (.bl (!inV (.int i) [.int a, .int b])) _
    rw [inV2]
    exact q⟩
instance st_nin2 {i a b : Int} : Stp (rIn K true (.int i) (.ref p) (upd H p (.tup [.int a, .int b])) Q) (Q (.bl (!decide (i = a ∨ i = b))) (upd H p (.tup [.int a, .int b]))) := ⟨fun h => rd_nin2 h⟩
theorem beq_str {a s : Str} : (a == s) = decide (s = a) := by
  rw [Bool.beq_eq_decide_eq]
  exact decide_eq_decide.mpr eq_comm
theorem inVs4 {s a b c d : Str} : inV (.str s) [.str a, .str b, .str c, .str d] = decide (s = a ∨ s = b ∨ s = c ∨ s = d) := by
  simp only [inV, eqV, List.any_cons, List.any_nil, Bool.or_false, Bool.decide_or, beq_str]
theorem rd_ninS4 {s a b c d : Str} (q : Q (.bl (!decide (s = a ∨ s = b ∨ s = c ∨ s = d))) (upd H p (.lst [.str a, .str b, .str c, .str d]))) : rIn K true (.str s) (.ref p) (upd H p (.lst [.str a, .str b, .str c, .str d])) Q :=
  ⟨p, _, rfl, .inl (SqL.of upd_same), rfl, rfl, by
    show Q (.bl (!inV (.str s) [.str a, .str b, .str c, .str d])) _
    rw [inVs4]
    exact q⟩
instance st_ninS4 {s a b c d : Str} : Stp (rIn K true (.str s) (.ref p) (upd H p (.lst [.str a, .str b, .str c, .str d])) Q) (Q (.bl (!decide (s = a ∨ s = b ∨ s = c ∨ s = d))) (upd H p (.lst [.str a, .str b, .str c, .str d]))) := ⟨fun h => rd_ninS4 h⟩
end
end L2
namespace L2
open PySem PySem.Spec PyProof.Rows
theorem lay_all : ∀ {ds : List PyData}, (∀ d ∈ ds, d.canLay0 = true ∧ d.depth ≤ 60) → PyData.canLayAll0 ds = true ∧ PyData.depthAll ds ≤ 60
  | [], _ => ⟨rfl, Nat.zero_le _⟩
  | d :: ds, h => by
    obtain ⟨a, b⟩ := lay_all (ds := ds) fun e he => h e (List.mem_cons_of_mem _ he)
    obtain ⟨c, e⟩ := h d (List.mem_cons_self ..)
    simp only [PyData.canLayAll0, PyData.depthAll]
    exact ⟨by rw [c, a]; rfl, Nat.max_le.mpr ⟨e, b⟩⟩
theorem shaped_list {ds : List PyData} (h : ∀ d ∈ ds, d.canLay0 = true ∧ d.depth ≤ 60) : SeqAt.shaped (.list ds) = true := by
  obtain ⟨a, b⟩ := lay_all h
  unfold SeqAt.shaped
  have : (PyData.list ds).canLay0 = true := a
  rw [this, Bool.true_and, decide_eq_true_eq]
  show PyData.depthAll ds + 1 ≤ 64
  omega
theorem shaped_ints (ns : List Int) : SeqAt.shaped (.list (ns.map PyData.int)) = true := shaped_list fun d hd => by
  obtain ⟨n, _, rfl⟩ := List.mem_map.mp hd
  exact ⟨rfl, by simp [PyData.depth]⟩
section
variable {H : Hp} {Q : VK} {K : PySem.W.Frag} {a b p : Addr}
/-- two lists of whole numbers -/
theorem rd_eqInts {ns ms : List Int} (h1 : SqL K H a (ns.map V.int)) (h2 : SqL K H b (ms.map V.int)) (q : Q (.bl (decide (ns = ms))) H) : rEqD K (.ref a) (.ref b) H Q :=
  ⟨_, _, dp_ints h1, dp_ints h2, shaped_ints _, shaped_ints _, by rw [PyData.eqv, eqv_ints]; exact q⟩
theorem rd_neInts {ns ms : List Int} (h1 : SqL K H a (ns.map V.int)) (h2 : SqL K H b (ms.map V.int)) (q : Q (.bl (!decide (ns = ms))) H) : rNeD K (.ref a) (.ref b) H Q :=
  ⟨_, _, dp_ints h1, dp_ints h2, shaped_ints _, shaped_ints _, by rw [PyData.eqv, eqv_ints]; exact q⟩
theorem rd_isiL {xs : List V} (h : H a = some (.lst xs)) (q : Q (.bl true) H) : rIsi K [.ref a, .ty "list"] H Q := ⟨_, _, _, _, true, rfl, .ty _, .base (.lst h), kit_ty (by decide +kernel), q⟩
theorem rd_isiT {xs : List V} (h : H a = some (.tup xs)) (q : Q (.bl true) H) : rIsi K [.ref a, .ty "tuple"] H Q := ⟨_, _, _, _, true, rfl, .ty _, .base (.tup h), kit_ty (by decide +kernel), q⟩
end
end L2
namespace L2
open PySem PySem.Spec PyProof.Rows
theorem Same.lst {K : PySem.W.Frag} {H0 H : Hp} {a : Addr} {xs : List V} (e : Same H0 H) (h : H0 a = some (.lst xs)) : SqL K H a xs := SqL.of (e _ _ h)
end L2
namespace L2
theorem rd_neF {p A B : Prop} [Decidable p] (h : p) (q : B) : if (!decide p) = true then A else B := by
  rw [decide_eq_true h]
  exact q
theorem rd_eqT {p A B : Prop} [Decidable p] (h : p) (q : A) : if decide p = true then A else B := by
  rw [decide_eq_true h]
  exact q
end L2
namespace L2
open PySem PySem.Spec PyProof.Rows
theorem inV_ints {x : Int} : ∀ {ns : List Int}, inV (.int x) (ns.map V.int) = decide (x ∈ ns)
  | [] => by simp [inV]
  | n :: ns => by
    have := inV_ints (x := x) (ns := ns)
    unfold inV at *
    rw [List.map_cons, List.any_cons, this, eqV, Bool.beq_eq_decide_eq, ← Bool.decide_or]
    refine decide_eq_decide.mpr ?_
    rw [List.mem_cons]
    exact or_congr eq_comm Iff.rfl
theorem flat_ints : ∀ {ns : List Int}, (ns.map V.int).all flatV = true
  | [] => rfl
  | _ :: ns => by
    rw [List.map_cons, List.all_cons, flat_ints (ns := ns)]
    rfl
section
variable {σ : St} {H : Hp} {Q : VK} {K : PySem.W.Frag} {p : Addr} {te : TE} {tt : TC}
theorem rd_ninIs {x : Int} {ns : List Int} (h : SqL K H p (ns.map V.int)) (q : Q (.bl (!decide (x ∈ ns))) H) : rIn K true (.int x) (.ref p) H Q :=
  ⟨p, _, rfl, .inl h, rfl, flat_ints, by rw [inV_ints]; exact q⟩
end
end L2
namespace L2
open PySem PySem.Spec PyProof.Rows
section
variable {σ : St} {H : Hp} {Q : VK} {K : PySem.W.Frag} {te : TE} {tt : TT}
/-- a list comprehension over a range whose items come from what stands in the heap -/
theorem rd_lcRG {lo : Int} {n : Nat} {g : TG} {vs : List Nat} (J : Addr → Nat → List V → Hp → Prop) (h0 : ∀ D, H D = none → J D 0 [] (upd H D (.lst [])))
    (hs : ∀ D i ys H', H D = none → i < n → H' D = some (.lst ys) → J D i ys H' → g (.int (lo + i)) (wipe σ vs) H' fun σ2 H2 => wipe σ2 vs = wipe σ vs ∧ tt σ2 H2 fun b H3 => if b = true then te σ2 H3 (fun y H4 => ∃ acc, H4 D = some (.lst acc) ∧ acc.length < sizeLine ∧ ∃ ys, (upd H4 D (.lst (acc ++ [y]))) D = some (.lst ys) ∧ J D (i + 1) ys (upd H4 D (.lst (acc ++ [y])))) else ∃ ys, H3 D = some (.lst ys) ∧ J D (i + 1) ys H3)
    (q : ∀ D ys H', H D = none → H' D = some (.lst ys) → J D n ys H' → Q (.ref D) H') : lcB (Itr lo n) g tt te vs σ Q H := by
  intro D hD
  refine ⟨fun i m H' => m = n - i ∧ i ≤ n ∧ ∃ ys, H' D = some (.lst ys) ∧ J D i ys H', ⟨n, by simp, Nat.zero_le _, _, upd_same, h0 D hD⟩, ?_⟩
  rintro i m H' ⟨rfl, hi, ys, hy, hj⟩
  by_cases hlt : i < n
  · refine .inr ⟨hlt, fun H' => ∃ ys, H' D = some (.lst ys) ∧ J D (i + 1) ys H', fun H' p' => ⟨n - (i + 1), by omega, rfl, hlt, p'⟩, fun x H' y => ?_⟩
    obtain ⟨e, y⟩ := y
    subst e y
    exact hs D i ys _ hD hlt hy hj
  · have e : i = n := by omega
    subst e
    exact .inl ⟨Nat.le_refl _, q D ys H' hD hy hj⟩
end
end L2
namespace L2
open PySem PySem.Spec PyProof.Rows
/-! ### classes of the text: fields, methods, making, ==, calls -/
structure MethAt (K : PySem.W.Frag) (C : Addr) (m qual : Str) (st : Stmt) (ps : List Str) : Prop where
  ex : ∃ (f : Addr) (fd : FuncData), Fun K m qual st f fd ∧ Meth K C m f ∧ Binds K fd ps []
structure MDef (P : Program) (w : World) (K : PySem.W.Frag) (mg : Str → Option Value) (base : Heap) (k : Nat) (C : Addr) (m : Str) (ps : List Str) (sp : Sp) : Prop where
  ex : ∃ (f : Addr) (fd : FuncData), FnOk P w K mg base (L2.CX P w) k f fd ps sp ∧ Meth K C m f ∧ Binds K fd ps []
structure MkAt (K : PySem.W.Frag) (mg : Str → Option Value) (x : Str) (C : Addr) (qual : Str) (st : Stmt) (ps : List Str) : Prop where
  ex : ∃ (f : Addr) (fd : FuncData), Fun K "__init__" qual st f fd ∧ Mk K C f ∧ Binds K fd ps []
  g : mg x = some (.ref C)
structure MkDef (P : Program) (w : World) (K : PySem.W.Frag) (mg : Str → Option Value) (base : Heap) (k : Nat) (x : Str) (C : Addr) (ps : List Str) (sp : Sp) : Prop where
  ex : ∃ (f : Addr) (fd : FuncData), FnOk P w K mg base (L2.CX P w) k f fd ps sp ∧ Mk K C f ∧ Binds K fd ps []
  g : mg x = some (.ref C)
section
variable {P : Program} {w : World} {K : PySem.W.Frag} {mg : Str → Option Value} {base : Heap}
theorem MethAt.ok {C : Addr} {m qual : Str} {st : Stmt} {N ps : List Str} {k : Nat} {sp : Sp} (D : MethAt K C m qual st ps) (S : FnScope N ps (defScope st)) (len : ∀ vs H Q E, sp vs H Q E → vs.length = ps.length)
    (hbody : ∀ (f : Addr) (cdv : Value) (A : Around) (outer : List Env) (s : Shared) (H : Hp) (vs : List V) (Q : VK) (E : XK), Room k (A.deeper (envOfC qual (defScope st) s.heap.objs.size f cdv)) → sp vs H Q E →
      ∃ t, PSs (cxOf (L2.CX P w) P w K mg base N qual (defScope st) f cdv A outer s H E) (defBody st) t ∧ t ⟨fun _ H' => Q .non H', Q, fun _ _ => False, fun _ _ => False⟩ (start N vs) H) : MDef P w K mg base (k + 1) C m ps sp := by
  obtain ⟨f, fd, F, g, b⟩ := D.ex
  exact ⟨f, fd, F.okX S len fun cdv A outer s H vs Q E hr h => hbody f cdv A outer s H vs Q E hr h, g, b⟩
theorem MkAt.ok {x : Str} {C : Addr} {qual : Str} {st : Stmt} {N ps : List Str} {k : Nat} {sp : Sp} (D : MkAt K mg x C qual st ps) (S : FnScope N ps (defScope st)) (len : ∀ vs H Q E, sp vs H Q E → vs.length = ps.length)
    (hbody : ∀ (f : Addr) (cdv : Value) (A : Around) (outer : List Env) (s : Shared) (H : Hp) (vs : List V) (Q : VK) (E : XK), Room k (A.deeper (envOfC qual (defScope st) s.heap.objs.size f cdv)) → sp vs H Q E →
      ∃ t, PSs (cxOf (L2.CX P w) P w K mg base N qual (defScope st) f cdv A outer s H E) (defBody st) t ∧ t ⟨fun _ H' => Q .non H', Q, fun _ _ => False, fun _ _ => False⟩ (start N vs) H) : MkDef P w K mg base (k + 1) x C ps sp := by
  obtain ⟨f, fd, F, g, b⟩ := D.ex
  exact ⟨⟨f, fd, F.okX S len fun cdv A outer s H vs Q E hr h => hbody f cdv A outer s H vs Q E hr h, g, b⟩, D.g⟩
theorem MDef.imp {k : Nat} {C : Addr} {m : Str} {ps : List Str} {sp sp' : Sp} (D : MDef P w K mg base k C m ps sp) (h : ∀ vs H Q E, sp' vs H Q E → sp vs H Q E) : MDef P w K mg base k C m ps sp' := by
  obtain ⟨f, fd, F, g, b⟩ := D.ex
  exact ⟨f, fd, F.imp h, g, b⟩
theorem MDef.mono {j k : Nat} {C : Addr} {m : Str} {ps : List Str} {sp : Sp} (D : MDef P w K mg base j C m ps sp) (h : j ≤ k) : MDef P w K mg base k C m ps sp := by
  obtain ⟨f, fd, F, g, b⟩ := D.ex
  exact ⟨f, fd, F.mono h, g, b⟩
end
def tFldC (C : Addr) (ta : TE) (f : Str) : TE := fun σ H Q => ta σ H fun x H1 => ∃ a dx fs v, x = .ref a ∧ H1 a = some (.ins C dx fs) ∧ fs.lookup f = some v ∧ Q v H1
def sFldC (C : Addr) (ta tv : TE) (f : Str) : TS := fun D σ H => tv σ H fun y H1 => ta σ H1 fun x H2 => ∃ a dx fs, x = .ref a ∧ H2 a = some (.ins C dx fs) ∧ fs.length < 1000 ∧ D.nx σ (upd H2 a (.ins C dx (putF f y fs)))
def tCallC (C : Addr) (sp : Sp) (E : XK) (tf : TE) (t : TA) : TE := fun σ H Q => tf σ H fun y H1 => ∃ a, y = V.ref a ∧ t σ H1 fun vs H2 => (∃ dx fs, H2 a = some (.ins C dx fs)) ∧ sp (V.ref a :: vs) H2 Q E
section
variable {σ : St} {H : Hp} {Q : VK} {C p : Addr} {ta tv : TE} {t : TA} {f m : Str} {v : V} {nx : St → Hp → Prop} {rt : VK} {bk ct : St → Hp → Prop} {sp : Sp} {E : XK}
theorem rd_fldC (h : ta σ H fun x H1 => ∃ a dx fs v, x = .ref a ∧ H1 a = some (.ins C dx fs) ∧ fs.lookup f = some v ∧ Q v H1) : tFldC C ta f σ H Q := h
instance st_fldC  : Stp (tFldC C ta f σ H Q) (ta σ H fun x H1 => ∃ a dx fs v, x = .ref a ∧ H1 a = some (.ins C dx fs) ∧ fs.lookup f = some v ∧ Q v H1) := ⟨fun h => rd_fldC h⟩
theorem rd_fld1 {dx : Addr} {fs : List (Str × V)} {S : V → Prop} (h : H p = some (.ins C dx fs)) (l : fs.lookup f = some v) (q : S v) : ∃ a dx fs v, V.ref p = .ref a ∧ H a = some (.ins C dx fs) ∧ fs.lookup f = some v ∧ S v := ⟨p, dx, fs, v, rfl, h, l, q⟩
theorem rd_sfldC (h : tv σ H fun y H1 => ta σ H1 fun x H2 => ∃ a dx fs, x = .ref a ∧ H2 a = some (.ins C dx fs) ∧ fs.length < 1000 ∧ nx σ (upd H2 a (.ins C dx (putF f y fs)))) : sFldC C ta tv f ⟨nx, rt, bk, ct⟩ σ H := h
instance st_sfldC  : Stp (sFldC C ta tv f ⟨nx, rt, bk, ct⟩ σ H) (tv σ H fun y H1 => ta σ H1 fun x H2 => ∃ a dx fs, x = .ref a ∧ H2 a = some (.ins C dx fs) ∧ fs.length < 1000 ∧ nx σ (upd H2 a (.ins C dx (putF f y fs)))) := ⟨fun h => rd_sfldC h⟩
theorem rd_sfld1 {dx : Addr} {fs : List (Str × V)} {S : Addr → Addr → List (Str × V) → Prop} (h : H p = some (.ins C dx fs)) (l : fs.length < 1000) (q : S p dx fs) : ∃ a dx fs, V.ref p = .ref a ∧ H a = some (.ins C dx fs) ∧ fs.length < 1000 ∧ S a dx fs := ⟨p, dx, fs, rfl, h, l, q⟩
theorem rd_meth (h : ta σ H fun x H1 => ∃ a dx fs, x = .ref a ∧ H1 a = some (.ins C dx fs) ∧ fs.lookup m = none ∧ t σ H1 fun vs H2 => sp (x :: vs) H2 Q E) : tMeth C m sp [] E ta t σ H Q := by
  show ta σ H fun x H1 => ∃ a dx fs, x = .ref a ∧ H1 a = some (.ins C dx fs) ∧ fs.lookup m = none ∧ t σ H1 fun vs H2 => sp (x :: (vs ++ [])) H2 Q E
  simp only [List.append_nil]
  exact h
instance st_meth  : Stp (tMeth C m sp [] E ta t σ H Q) (ta σ H fun x H1 => ∃ a dx fs, x = .ref a ∧ H1 a = some (.ins C dx fs) ∧ fs.lookup m = none ∧ t σ H1 fun vs H2 => sp (x :: vs) H2 Q E) := ⟨fun h => rd_meth h⟩
theorem rd_meth1 {dx : Addr} {fs : List (Str × V)} {S : Prop} (h : H p = some (.ins C dx fs)) (l : fs.lookup m = none) (q : S) : ∃ a dx fs, V.ref p = .ref a ∧ H a = some (.ins C dx fs) ∧ fs.lookup m = none ∧ S := ⟨p, dx, fs, rfl, h, l, q⟩
theorem rd_make (h : t σ H fun vs H1 => ∀ x dx, H1 x = none → H1 dx = none → dx ≠ x → sp (.ref x :: vs) (upd (upd H1 dx (.own x)) x (.ins C dx [])) (fun v H2 => v = .non ∧ Q (.ref x) H2) E) : tMake C sp [] E t σ H Q := by
  show t σ H fun vs H1 => ∀ x dx, H1 x = none → H1 dx = none → dx ≠ x → sp (.ref x :: (vs ++ [])) (upd (upd H1 dx (.own x)) x (.ins C dx [])) (fun v H2 => v = .non ∧ Q (.ref x) H2) E
  simp only [List.append_nil]
  exact h
instance st_make  : Stp (tMake C sp [] E t σ H Q) (t σ H fun vs H1 => ∀ x dx, H1 x = none → H1 dx = none → dx ≠ x → sp (.ref x :: vs) (upd (upd H1 dx (.own x)) x (.ins C dx [])) (fun v H2 => v = .non ∧ Q (.ref x) H2) E) := ⟨fun h => rd_make h⟩
theorem rd_callC (h : ta σ H fun y H1 => ∃ a, y = V.ref a ∧ t σ H1 fun vs H2 => (∃ dx fs, H2 a = some (.ins C dx fs)) ∧ sp (V.ref a :: vs) H2 Q E) : tCallC C sp E ta t σ H Q := h
instance st_callC : Stp (tCallC C sp E ta t σ H Q) (ta σ H fun y H1 => ∃ a, y = V.ref a ∧ t σ H1 fun vs H2 => (∃ dx fs, H2 a = some (.ins C dx fs)) ∧ sp (V.ref a :: vs) H2 Q E) := ⟨fun h => rd_callC h⟩
theorem rd_callO1 {S : Addr → Prop} (q : S p) : ∃ a, V.ref p = V.ref a ∧ S a := ⟨p, rfl, q⟩
instance st_callO1 {S : Addr → Prop} : Stp (∃ a, V.ref p = V.ref a ∧ S a) (S p) := ⟨fun q => rd_callO1 q⟩
theorem rd_callO2 {dx : Addr} {fs : List (Str × V)} {S : Prop} (h : H p = some (.ins C dx fs)) (q : S) : (∃ dx fs, H p = some (.ins C dx fs)) ∧ S := ⟨⟨dx, fs, h⟩, q⟩
theorem rd_isB {a b : Bool} (q : Q (.bl (decide (a = b))) H) : rIsB (.bl a) (.bl b) H Q := ⟨a, b, rfl, rfl, q⟩
instance st_isB {a b : Bool} : Stp (rIsB (.bl a) (.bl b) H Q) (Q (.bl (decide (a = b))) H) := ⟨fun h => rd_isB h⟩
theorem rd_notB {a b : Bool} (q : Q (.bl (!decide (a = b))) H) : rNotB (.bl a) (.bl b) H Q := ⟨a, b, rfl, rfl, q⟩
instance st_notB {a b : Bool} : Stp (rNotB (.bl a) (.bl b) H Q) (Q (.bl (!decide (a = b))) H) := ⟨fun h => rd_notB h⟩
theorem rd_isNone {x : V} (q : Q (.bl (decide (x = .non))) H) : (V.non = V.non) ∧ Q (.bl (decide (x = .non))) H := ⟨rfl, q⟩
instance st_isNone {x : V} : Stp ((V.non = V.non) ∧ Q (.bl (decide (x = .non))) H) (Q (.bl (decide (x = .non))) H) := ⟨fun h => rd_isNone h⟩
end
end L2
namespace L2
open PySem PySem.Spec PyProof.Rows
/-! ### data without bools: what == tells is equality -/
mutual
def okD : PyData → Nat → Bool
  | .none, _ => true
  | .int _, _ => true
  | .str s, _ => PyData.strOk s
  | .list xs, n => decide (0 < n) && okDs xs (n - 1)
  | .tuple xs, n => decide (0 < n) && okDs xs (n - 1)
  | .bool _, _ => false
  | .dict _, _ => false
def okDs : List PyData → Nat → Bool
  | [], _ => true
  | x :: xs, n => okD x n && okDs xs n
end
mutual
theorem okD_lay : ∀ (d : PyData) (n : Nat), okD d n = true → d.canLay0 = true ∧ d.depth ≤ n
  | .none, _, _ => ⟨rfl, by simp [PyData.depth]⟩
  | .int _, _, _ => ⟨rfl, by simp [PyData.depth]⟩
  | .str s, _, h => ⟨by simpa [okD, PyData.canLay0] using h, by simp [PyData.depth]⟩
  | .list xs, n, h => by
    simp only [okD, Bool.and_eq_true, decide_eq_true_eq] at h
    obtain ⟨a, b⟩ := okDs_lay xs (n - 1) h.2
    refine ⟨by rw [PyData.canLay0]; exact a, ?_⟩
    simp only [PyData.depth]
    omega
  | .tuple xs, n, h => by
    simp only [okD, Bool.and_eq_true, decide_eq_true_eq] at h
    obtain ⟨a, b⟩ := okDs_lay xs (n - 1) h.2
    refine ⟨by rw [PyData.canLay0]; exact a, ?_⟩
    simp only [PyData.depth]
    omega
  | .bool _, _, h => by simp [okD] at h
  | .dict _, _, h => by simp [okD] at h
theorem okDs_lay : ∀ (ds : List PyData) (n : Nat), okDs ds n = true → PyData.canLayAll0 ds = true ∧ PyData.depthAll ds ≤ n
  | [], _, _ => ⟨rfl, Nat.zero_le _⟩
  | d :: ds, n, h => by
    simp only [okDs, Bool.and_eq_true] at h
    obtain ⟨a, b⟩ := okD_lay d n h.1
    obtain ⟨c, e⟩ := okDs_lay ds n h.2
    simp only [PyData.canLayAll0, PyData.depthAll]
    exact ⟨by rw [a, c]; rfl, Nat.max_le.mpr ⟨b, e⟩⟩
end
theorem okD_shaped {d : PyData} (h : okD d 60 = true) : SeqAt.shaped d = true := by
  obtain ⟨a, b⟩ := okD_lay d 60 h
  unfold SeqAt.shaped
  rw [a, Bool.true_and, decide_eq_true_eq]
  omega
mutual
theorem okD_eqv : ∀ (d e : PyData) (n m : Nat), okD d n = true → okD e m = true → (PyData.eqv d e = true ↔ d = e)
  | .none, e, _, _, _, h => by cases e <;> simp [PyData.eqv, okD] at h ⊢
  | .int i, e, _, _, _, h => by cases e <;> simp [PyData.eqv, okD] at h ⊢
  | .str s, e, _, _, _, h => by cases e <;> simp [PyData.eqv, okD] at h ⊢
  | .list xs, e, n, m, h1, h => by
    cases e with
    | list ys =>
      simp only [okD, Bool.and_eq_true, decide_eq_true_eq] at h1 h
      rw [PyData.eqv, okDs_eqv xs ys _ _ h1.2 h.2]
      simp
    | _ => simp [PyData.eqv, okD] at h ⊢
  | .tuple xs, e, n, m, h1, h => by
    cases e with
    | tuple ys =>
      simp only [okD, Bool.and_eq_true, decide_eq_true_eq] at h1 h
      rw [PyData.eqv, okDs_eqv xs ys _ _ h1.2 h.2]
      simp
    | _ => simp [PyData.eqv, okD] at h ⊢
  | .bool _, _, _, _, h1, _ => by simp [okD] at h1
  | .dict _, _, _, _, h1, _ => by simp [okD] at h1
theorem okDs_eqv : ∀ (ds es : List PyData) (n m : Nat), okDs ds n = true → okDs es m = true → (PyData.eqvAll ds es = true ↔ ds = es)
  | [], es, _, _, _, _ => by cases es <;> simp [PyData.eqvAll]
  | d :: ds, es, n, m, h1, h2 => by
    cases es with
    | nil => simp [PyData.eqvAll]
    | cons e es =>
      simp only [okDs, Bool.and_eq_true] at h1 h2
      rw [PyData.eqvAll, Bool.and_eq_true, okD_eqv d e n m h1.1 h2.1, okDs_eqv ds es n m h1.2 h2.2]
      simp
end
theorem okD_dec {d e : PyData} [Decidable (d = e)] (h1 : okD d 60 = true) (h2 : okD e 60 = true) : PyData.eqv d e = decide (d = e) := by
  rw [Bool.eq_iff_iff, okD_eqv d e 60 60 h1 h2, decide_eq_true_iff]
theorem okDs_map {α : Type} {f : α → PyData} {n : Nat} : ∀ {l : List α}, (∀ x ∈ l, okD (f x) n = true) → okDs (l.map f) n = true
  | [], _ => rfl
  | x :: l, h => by
    rw [List.map_cons, okDs, h x (List.mem_cons_self ..), okDs_map fun y hy => h y (List.mem_cons_of_mem _ hy)]
    rfl
open Classical in
noncomputable instance decD (d e : PyData) : Decidable (d = e) := Classical.propDecidable _
section
variable {K : PySem.W.Frag} {H H' : Hp} {Q : VK} {x y : V} {d e : PyData}
theorem rd_neP {p : Prop} [Decidable p] (h1 : Dp K H x d) (h2 : Dp K H y e) (o1 : okD d 60 = true) (o2 : okD e 60 = true) (hp : d = e ↔ p) (q : Q (.bl (!decide p)) H) : rNeD K x y H Q :=
  ⟨d, e, h1, h2, okD_shaped o1, okD_shaped o2, by rw [okD_dec o1 o2, decide_eq_decide.mpr hp]; exact q⟩
theorem Same.seqT {K : PySem.W.Frag} {H H' : Hp} {a : Addr} {xs : List V} (e : Same H H') (h : SqT K H a xs) : SqT K H' a xs := by
  rcases h with (h | ⟨o, h⟩) | h
  · exact .inl (.inl (e _ _ h))
  · exact .inl (.inr ⟨o, e _ _ h⟩)
  · exact .inr h
mutual
theorem Dp.same (s : Same H H') : ∀ {v : V} {d : PyData}, Dp K H v d → Dp K H' v d
  | _, _, .non => .non
  | _, _, .bl b => .bl b
  | _, _, .int i => .int i
  | _, _, .str x => .str x
  | _, _, .lst h a => .lst (s.seq h) (DpAll.same s a)
  | _, _, .tup h a => .tup (Same.seqT s h) (DpAll.same s a)
theorem DpAll.same (s : Same H H') : ∀ {vs : List V} {ds : List PyData}, DpAll K H vs ds → DpAll K H' vs ds
  | _, _, .nil => .nil
  | _, _, .cons h a => .cons (Dp.same s h) (DpAll.same s a)
end
theorem DpAll.len : ∀ {vs : List V} {ds : List PyData}, DpAll K H vs ds → vs.length = ds.length
  | _, _, .nil => rfl
  | _, _, .cons _ a => by rw [List.length_cons, List.length_cons, DpAll.len a]
theorem DpAll.at : ∀ {vs : List V} {ds : List PyData} {i : Nat} {v : V}, DpAll K H vs ds → vs[i]? = some v → ∃ d, ds[i]? = some d ∧ Dp K H v d
  | _, _, i, _, .nil, e => by cases e
  | _, _, 0, _, .cons (d := d) h _, e => ⟨d, rfl, by cases e; exact h⟩
  | _, _, i + 1, _, .cons _ a, e => DpAll.at (i := i) a e
theorem DpAll.snoc : ∀ {vs : List V} {ds : List PyData} {v : V} {d : PyData}, DpAll K H vs ds → Dp K H v d → DpAll K H (vs ++ [v]) (ds ++ [d])
  | _, _, _, _, .nil, h => .cons h .nil
  | _, _, _, _, .cons a r, h => .cons a (DpAll.snoc r h)
theorem Dp.int_inv {n : Int} (h : Dp K H x (.int n)) : x = .int n := by
  cases h
  rfl
theorem DpAll.ints : ∀ {ns : List Int} {vs : List V}, DpAll K H vs (ns.map PyData.int) → vs = ns.map V.int
  | [], _, .nil => rfl
  | n :: ns, _, .cons h a => by rw [Dp.int_inv h, DpAll.ints a]; rfl
theorem DpAll.nil_inv {vs : List V} (h : DpAll K H vs []) : vs = [] := by
  cases h
  rfl
theorem DpAll.cons_inv {vs : List V} {ds : List PyData} (h : DpAll K H vs (d :: ds)) : ∃ v vs', vs = v :: vs' ∧ Dp K H v d ∧ DpAll K H vs' ds := by
  cases h with
  | cons a b => exact ⟨_, _, rfl, a, b⟩
end
/-! ### loops that leave the heap -/
section
variable {σ : St} {H : Hp} {K : PySem.W.Frag} {t : TS} {nx : St → Hp → Prop} {rt : VK}
theorem rd_forLs {a : Addr} {xs : List V} {g : TG} (Pv : Nat → St → Prop) (hl : SqL K H a xs) (h0 : Pv 0 σ)
    (hs : ∀ i x σ, xs[i]? = some x → Pv i σ → g x σ H fun σ2 H2 => t ⟨fun σ' H' => H = H' ∧ Pv (i + 1) σ', rt, nx, fun σ' H' => H = H' ∧ Pv (i + 1) σ'⟩ σ2 H2) (hd : ∀ σ, Pv xs.length σ → nx σ H) : fBody (Itl K a) g t nx rt σ H :=
  rd_forL (fun i σ' H' => H = H' ∧ Pv i σ') ⟨rfl, h0⟩ (fun i σ' H' _ p => by obtain ⟨rfl, _⟩ := p; exact hl) (fun i x σ' H' hi p => by obtain ⟨rfl, p⟩ := p; exact hs i x σ' hi p) fun σ' H' p => by obtain ⟨rfl, p⟩ := p; exact hd σ' p
end
section
theorem rd_eqF {p A B : Prop} [Decidable p] (h : ¬ p) (q : B) : if decide p = true then A else B := by
  rw [decide_eq_false h]
  exact q
theorem rd_neT {p A B : Prop} [Decidable p] (h : ¬ p) (q : A) : if (!decide p) = true then A else B := by
  rw [decide_eq_false h]
  exact q
end
instance st_non {P : Prop} : Stp (V.non = V.non ∧ P) P := ⟨fun h => ⟨rfl, h⟩⟩
theorem non_int {k : Int} : ¬ V.int k = V.non := fun z => V.noConfusion z
theorem non_ref {k : Addr} : ¬ V.ref k = V.non := fun z => V.noConfusion z
theorem upd_at {H : Hp} {p q : Addr} {o u : HO} (h : H p = some o) (n : H p = some o → p ≠ q) : upd H q u p = some o := (upd_ne (n h)).trans h
end L2
namespace L2
open PySem PySem.Spec PyProof.Rows
/-! ### sizes of whole numbers, by bits -/
structure Bd (n : Nat) (x : Int) : Prop where
  h : x.natAbs < 2 ^ n
theorem Bd.mono {n m : Nat} {x : Int} (h : Bd n x) (hm : n ≤ m) : Bd m x := ⟨Nat.lt_of_lt_of_le h.h (Nat.pow_le_pow_right (by decide) hm)⟩
theorem Bd.mul {n m : Nat} {x y : Int} (h : Bd n x) (k : Bd m y) : Bd (n + m) (x * y) := ⟨wide_lt h.h k.h⟩
theorem Bd.neg {n : Nat} {x : Int} (h : Bd n x) : Bd n (-x) := ⟨by
  rw [Int.natAbs_neg]
  exact h.h⟩
theorem Bd.add {n m : Nat} {x y : Int} (h : Bd n x) (k : Bd m y) : Bd (max n m + 1) (x + y) := ⟨by
  have a := (Bd.mono h (Nat.le_max_left n m)).h
  have b := (Bd.mono k (Nat.le_max_right n m)).h
  have := Int.natAbs_add_le x y
  rw [Nat.pow_succ]
  omega⟩
theorem Bd.sub {n m : Nat} {x y : Int} (h : Bd n x) (k : Bd m y) : Bd (max n m + 1) (x - y) := by
  rw [Int.sub_eq_add_neg]
  exact Bd.add h k.neg
theorem Bd.lt {n : Nat} {x : Int} (h : Bd n x) : -(2 ^ n) < x ∧ x < 2 ^ n := by
  have e : ((2 ^ n : Nat) : Int) = 2 ^ n := by rw [Int.natCast_pow]; rfl
  have := h.h
  omega
theorem Bd.of {n : Nat} {x : Int} (h : -(2 ^ n) < x) (k : x < 2 ^ n) : Bd n x := ⟨by
  have e : ((2 ^ n : Nat) : Int) = 2 ^ n := by rw [Int.natCast_pow]; rfl
  omega⟩
theorem Bd.le {n : Nat} {x y : Int} (h : Bd n y) (h1 : x.natAbs ≤ y.natAbs) : Bd n x := ⟨Nat.lt_of_le_of_lt h1 h.h⟩
theorem Bd.lit {x : Int} {n : Nat} (h : x.natAbs < 2 ^ 64) (hn : 64 ≤ n) : Bd n x := Bd.mono ⟨h⟩ hn
theorem Bd.mulN {n : Nat} {x y : Int} (h : Bd (n / 2) x) (k : Bd (n / 2) y) : Bd n (x * y) := (h.mul k).mono (by omega)
theorem Bd.addN {n : Nat} {x y : Int} (h : Bd (n - 1) x) (k : Bd (n - 1) y) (hn : 0 < n) : Bd n (x + y) := (h.add k).mono (by omega)
theorem Bd.subN {n : Nat} {x y : Int} (h : Bd (n - 1) x) (k : Bd (n - 1) y) (hn : 0 < n) : Bd n (x - y) := (h.sub k).mono (by omega)
theorem CMulB.bd {x y : Int} (h : Bd 9000 x) (k : Bd 9000 y) : CMulB x y := .inr (wide_mul h.h k.h (by decide) (by decide) (by decide))
end L2
namespace L2
open PySem PySem.Spec PyProof.Rows
/-! ### texts of whole numbers, str(o) of an own __str__ -/
def txI (i : Int) : Str := Str.ofString (toString i)
theorem txI_len {i : Int} {n : Nat} (h : Bd n i) (hn : n ≤ 1000) : (txI i).length ≤ 1001 ∧ i.natAbs.log2 < 1000 := by
  have l : i.natAbs.log2 < 1000 := PySem.Flt.log2_lt_of (by decide) (h.mono hn).h
  have e := int_text_length_le (k := 1000) (by decide) l
  unfold txI
  rw [PySem.ofString_length]
  exact ⟨e, l⟩
def rStrI : List V → Hp → VK → Prop := fun xs H Q => ∃ i, xs = [.int i] ∧ i.natAbs.log2 < 1920 ∧ Q (.str (txI i)) H
section
variable {σ : St} {H : Hp} {Q : VK} {te : TE} {ts : List TE} {acc : Str} {R : Str → Hp → Prop}
def rFmt (Q : VK) : V → Hp → Prop := fun x H1 => (∃ y : Str, x = .str y ∧ y.length ≤ sizeLine ∧ Q (.str y) H1) ∨ ∃ i : Int, x = .int i ∧ i.natAbs.log2 < 1920 ∧ Q (.str (toString i)) H1
instance st_fmt : Stp (tFmt te σ H Q) (te σ H (rFmt Q)) := ⟨fun h => h⟩
theorem rd_fmtI {i : Int} (h : i.natAbs.log2 < 1920) (q : Q (.str (txI i)) H) : rFmt Q (.int i) H := .inr ⟨i, rfl, h, q⟩
instance st_jsN : Stp (tJs [] acc σ H R) (R acc H) := ⟨fun h => h⟩
def rJs (ts : List TE) (acc : Str) (σ : St) (R : Str → Hp → Prop) : V → Hp → Prop := fun x H1 => ∃ y : Str, x = .str y ∧ (acc ++ y).length ≤ sizeLine ∧ tJs ts (acc ++ y) σ H1 R
instance st_jsC : Stp (tJs (te :: ts) acc σ H R) (te σ H (rJs ts acc σ R)) := ⟨fun h => h⟩
theorem rd_strI {i : Int} (h : i.natAbs.log2 < 1920) (q : Q (.str (txI i)) H) : rStrI [.int i] H Q := ⟨i, rfl, h, q⟩
end
end L2
namespace L2
open PySem PySem.Spec PyProof.Rows
/-! ### walks of other kinds -/
section
variable {σ : St} {H : Hp} {K : PySem.W.Frag} {t : TS} {nx : St → Hp → Prop} {rt : VK} {Q : VK} {tr : TA} {te : TE} {tt : TT} {S : It → Hp → Prop} {J : It} {n : Nat} {G : Hp → Prop} {Y : Nat → Hp → V → Hp → Prop}
def rIRev (K : PySem.W.Frag) (S : It → Hp → Prop) (vs : List V) (H : Hp) : Prop := ∃ (a : Addr) (xs : List V), vs = [.ref a] ∧ SqL K H a xs ∧ S (Itv K a xs.length) H
instance st_iRev : Stp (iRev K tr σ H S) (tr σ H (rIRev K S)) := ⟨fun h => h⟩
theorem rd_iRev1 {a : Addr} {xs : List V} (h : SqL K H a xs) (q : S (Itv K a xs.length) H) : rIRev K S [.ref a] H := ⟨a, xs, rfl, h, q⟩
end
def rRevV (K : PySem.W.Frag) (Q : VK) : V → Hp → Prop := fun x H1 => ∃ a xs, x = .ref a ∧ SqL K H1 a xs ∧ ∀ p, H1 p = none → Q (.ref p) (upd H1 p (.lst xs.reverse))
instance st_revL {K : PySem.W.Frag} {te : TE} {σ : St} {H : Hp} {Q : VK} : Stp (tRevL K te σ H Q) (te σ H (rRevV K Q)) := ⟨fun h => h⟩
theorem rd_revV {K : PySem.W.Frag} {H : Hp} {Q : VK} {a : Addr} {xs : List V} (h : SqL K H a xs) (q : ∀ p, H p = none → Q (.ref p) (upd H p (.lst xs.reverse))) : rRevV K Q (.ref a) H := ⟨a, xs, rfl, h, q⟩
theorem same_upd3 {H H' : Hp} {p : Addr} {o : HO} (h : Same H H') (hp : H' p = none) : Same H (upd H' p o) := same_upd2 h (h.free hp)
section
variable {H : Hp} {Q : VK} {i : Int}
theorem rd_eqNN (q : Q (.bl true) H) : rEq .non .non H Q := ⟨rfl, by simpa using q⟩
instance st_eqNN : Stp (rEq .non .non H Q) (Q (.bl true) H) := ⟨fun h => rd_eqNN h⟩
theorem rd_neNN (q : Q (.bl false) H) : rNe .non .non H Q := ⟨rfl, by simpa using q⟩
instance st_neNN : Stp (rNe .non .non H Q) (Q (.bl false) H) := ⟨fun h => rd_neNN h⟩
theorem rd_eqNI (q : Q (.bl false) H) : rEq .non (.int i) H Q := ⟨rfl, by simpa using q⟩
instance st_eqNI : Stp (rEq .non (.int i) H Q) (Q (.bl false) H) := ⟨fun h => rd_eqNI h⟩
theorem rd_neNI (q : Q (.bl true) H) : rNe .non (.int i) H Q := ⟨rfl, by simpa using q⟩
instance st_neNI : Stp (rNe .non (.int i) H Q) (Q (.bl true) H) := ⟨fun h => rd_neNI h⟩
theorem rd_eqIN (q : Q (.bl false) H) : rEq (.int i) .non H Q := ⟨rfl, by simpa using q⟩
instance st_eqIN : Stp (rEq (.int i) .non H Q) (Q (.bl false) H) := ⟨fun h => rd_eqIN h⟩
theorem rd_neIN (q : Q (.bl true) H) : rNe (.int i) .non H Q := ⟨rfl, by simpa using q⟩
instance st_neIN : Stp (rNe (.int i) .non H Q) (Q (.bl true) H) := ⟨fun h => rd_neIN h⟩
end
end L2
namespace L2
open PySem PySem.Spec PyProof.Rows
/-! ### sets of ints -/
section
variable {X : Cx}
def setNo : Int → Bool := fun _ => false
/-- two ints in braces -/
def tSet2 (w : World) (t1 t2 : TE) : TE := fun σ H Q => ∀ D, H D = none → t1 σ (upd H D (SetO w D setNo 0)) fun x H1 => t2 σ H1 fun y H2 => ∃ i j : Int, x = .int i ∧ y = .int j ∧ H2 D = some (SetO w D setNo 0) ∧
  Q (.ref D) (upd H2 D (SetO w D (fun k => decide (k = i ∨ k = j)) (if i = j then 1 else 2)))
instance st_set2 {w : World} {t1 t2 : TE} {σ : St} {H : Hp} {Q : VK} : Stp (tSet2 w t1 t2 σ H Q) (∀ D, H D = none → t1 σ (upd H D (SetO w D setNo 0)) fun x H1 => t2 σ H1 fun y H2 => ∃ i j : Int, x = .int i ∧ y = .int j ∧ H2 D = some (SetO w D setNo 0) ∧
  Q (.ref D) (upd H2 D (SetO w D (fun k => decide (k = i ∨ k = j)) (if i = j then 1 else 2)))) := ⟨fun h => h⟩
instance st_par3 {i j l : Nat} {ta : TA} {σ : St} {H : Hp} {nx : St → Hp → Prop} {rt : VK} {bk ct : St → Hp → Prop} : Stp (tPar3 i j l ta ⟨nx, rt, bk, ct⟩ σ H) (ta σ H fun vs H1 => ∃ u v w, vs = [u, v, w] ∧ nx (((σ.set i (some u)).set j (some v)).set l (some w)) H1) := ⟨fun h => h⟩
instance st_par3e {u v w : V} {nx : V → V → V → Prop} : Stp (∃ u' v' w', [u, v, w] = [u', v', w'] ∧ nx u' v' w') (nx u v w) := ⟨fun h => ⟨u, v, w, rfl, h⟩⟩
end
end L2
namespace L2
open PySem PySem.Spec PyProof.Rows
section
variable {X : Cx}
/-- a set of whol, made by a comprehension: D the new set, Z what each turn keeps -/
def tScI (w : World) (wi : TI) (g : TG) (tt : TT) (te : TE) (vs : List Nat) : TE := fun σ H Q => wi σ H fun J H1 => ∀ D, H1 D = none → ∃ Z : Nat → Nat → Hp → Prop, (∃ m, Z 0 m (upd H1 D (SetO w D setNo 0))) ∧ ∀ i m G, Z i m G →
  (J.stop i G ∧ Q (.ref D) G) ∨ (J.go i G ∧ ∃ Y : Hp → Prop, (∀ G', Y G' → ∃ l, l < m ∧ Z (i + 1) l G') ∧ ∀ x G', J.yld i G x G' → g x (wipe σ vs) G' fun σ2 G2 => wipe σ2 vs = wipe σ vs ∧ tt σ2 G2 fun b G3 =>
    if b = true then te σ2 G3 fun y G4 => ∃ (c : Int) (S : Int → Bool) (n : Nat), y = .int c ∧ G4 D = some (SetO w D S n) ∧ n + 1 < scanBound ∧ Y (upd G4 D (SetO w D (fun j => S j || decide (j = c)) (if S c = true then n else n + 1))) else Y G3)
end
/-! ### sorted of a set of whol, of any size -/
theorem sortSet_go {P : Program} {w : World} {A : Around} {E : Value → Shared → Prop} {s : Shared} {a : Addr} {S : Int → Bool} {n : Nat} {Q : Value → Shared → Prop} (R : SetR w s.heap a S n) (calm : A.handled = none)
    (go : ∀ s' p (out : List Value) (c : Nat) (ns : List Int), (∀ b o, s.heap.get? b = some o → s'.heap.get? b = some o) → s'.gens = s.gens → s'.os = s.os → s.heap.objs.size ≤ p →
      s'.heap.get? p = some (seqObj "list" out.toArray c) → IntsAre out ns → ns.Pairwise (· < ·) → (∀ k, k ∈ ns ↔ S k = true) → ns.length = n → n < scanBound → Q (.ref p) s') :
    wpAny (model P w) A (call (.builtin "sorted") [.ref a]) Q E s := by
  obtain ⟨ob, cs, cn, tb, atOb, exOb, dOb, good, dis, mem, few, fit, num, ris, led⟩ := R
  refine Calls.call_function_entry kind_sorted plain_sorted entry_sorted (args_sorted1 _) ?_
  unfold Builtin.«sorted»
  refine wpAny_bind (m := checkCount "sorted" 1 1 _) (wpAny_pure ?_)
  refine wpAny_bind (collect_set (A := A.in1) calm ⟨ob, atOb, exOb.1, dOb⟩ fit few ris led fun t vs keep size gens os pm => ?_)
  have lvs : vs.length = n := by rw [pm.length_eq, List.length_map, Array.length_toList, num]
  have small : vs.length ≤ sizeLine := by
    rw [lvs, sizeLine_eq]
    have b1 : cs.size < 4096 := few
    omega
  have whol : IntsAre vs (vs.map Builtin.Re.reRawOf) := ints_of vs fun v hv => by
    obtain ⟨e, he, rfl⟩ := List.mem_map.mp (pm.mem_iff.mp hv)
    obtain ⟨k, tk, h1, _⟩ := good e he
    exact ⟨k, tk, h1⟩
  have keys : (vs.map Builtin.Re.reRawOf).Perm (cs.toList.map keyOf) := by
    have z := pm.map Builtin.Re.reRawOf
    rwa [List.map_map] at z
  refine wpAny_bind (wpAny_newList ?_ small)
  have atL : (t.heap.push (seqObj "list" vs.toArray 0)).get? t.heap.objs.size = some (seqObj "list" vs.toArray 0) := Heap.get?_push_size _ rfl
  refine wpAny_bind (wpAny_holding (wpAny_call_entry slot_list_sort ⟨_, atL, rfl⟩ entry_list_sort (SrtO.list_sort_ord SrtO.swo_int atL small (fun h2 => SrtO.ints_sortable whol h2) fun out h1 h2 => ⟨_, rfl, ?_⟩) (args_list_sort _)))
  obtain ⟨k1, k2, k3⟩ := SrtO.ints_out whol h1 h2
  obtain ⟨c, atS⟩ := sortedHeap_at (vs := vs) (out := out.toArray) atL
  have pn : (out.map SrtO.iv).Perm (cs.toList.map keyOf) := k2.trans keys
  refine wpAny_pure ⟨_, rfl, go _ t.heap.objs.size out c (out.map SrtO.iv) (fun b u e => ?_) gens os size atS k1 (lt_of_le_nodup _ k3 (pn.nodup_iff.mpr dis)) (fun k => by rw [pn.mem_iff, ← mem k]) ?_ (by rw [← num]; exact few)⟩
  · have z := keep b u e
    have lt := Heap.lt_size z
    show (sortedHeap (t.heap.push (seqObj "list" vs.toArray 0)) t.heap.objs.size vs out.toArray).get? b = some u
    rw [sortedHeap_old (Nat.ne_of_lt lt) (by rw [size_push']; exact Nat.lt_succ_of_lt lt)]
    exact Heap.get?_push_of_some _ z
  · rw [pn.length_eq, List.length_map, Array.length_toList, num]
def rSortSetN (w : World) : List V → Hp → VK → Prop := fun vs H Q => ∃ (a : Addr) (S : Int → Bool) (n : Nat), vs = [V.ref a] ∧ H a = some (SetO w a S n) ∧
  ∀ (ns : List Int) (p : Addr), ns.Pairwise (· < ·) → (∀ k : Int, k ∈ ns ↔ S k = true) → ns.length = n → H p = none → Q (.ref p) (upd H p (.lst (ns.map V.int)))
theorem cr_sortSetN {X : Cx} (calm : X.calm = true) : CallR X (.builtin "sorted") (rSortSetN X.w) := by
  intro pins s σ H vs us Q I r ⟨a, S, n, ev, at_, q⟩
  subst ev
  have R := setO_get I at_
  rw [Vals.ref1 r]
  refine sortSet_go R (I.ok.hd calm) fun s' p out c ns k g o hp hg hi hs hm hl few => ?_
  have fits : (ns.map V.int).length ≤ sizeLine := by
    rw [List.length_map, hl, sizeLine_eq]
    have b1 : n < 4096 := few
    omega
  have J : Inv X pins σ (upd H p (.lst (ns.map V.int))) { s with heap := s'.heap, gens := s'.gens, drawn := s'.drawn, toks := s'.toks } :=
    I.call (ch := []) (Un.laid k hp (I.hok.fresh hp)) (I.hok.laid k hp ⟨fits, out, c, vals_of_ints hi, hg⟩) (by rw [g]; exact I.bare) (fun _ z => nomatch z)
  have e : s' = { s with heap := s'.heap, gens := s'.gens, drawn := s'.drawn, toks := s'.toks } := by
    cases s'
    cases s
    cases o
    rfl
  rw [e]
  exact ⟨.ref p, _, J, rfl, q ns p hs hm hl (I.hok.fresh hp)⟩
/-! ### readings -/
section
variable {w : World} {σ : St} {H : Hp} {Q : VK} {K : PySem.W.Frag} {te : TE} {tt : TT}
def inS (l : List Int) : Int → Bool := fun k => decide (k ∈ l)
theorem inS_nil : inS [] = setNo := by
  funext k
  simp [inS, setNo]
theorem inS_snoc {l : List Int} {c : Int} : (fun j => inS l j || decide (j = c)) = inS (l ++ [c]) := by
  funext k
  simp [inS]
def scB (w : World) (J : It) (g : TG) (tt : TT) (te : TE) (vs : List Nat) (σ : St) (Q : VK) (H1 : Hp) : Prop := ∀ D, H1 D = none → ∃ Z : Nat → Nat → Hp → Prop, (∃ m, Z 0 m (upd H1 D (SetO w D setNo 0))) ∧ ∀ i m G, Z i m G →
  (J.stop i G ∧ Q (.ref D) G) ∨ (J.go i G ∧ ∃ Y : Hp → Prop, (∀ G', Y G' → ∃ l, l < m ∧ Z (i + 1) l G') ∧ ∀ x G', J.yld i G x G' → g x (wipe σ vs) G' fun σ2 G2 => wipe σ2 vs = wipe σ vs ∧ tt σ2 G2 fun b G3 =>
    if b = true then te σ2 G3 fun y G4 => ∃ (c : Int) (S : Int → Bool) (n : Nat), y = .int c ∧ G4 D = some (SetO w D S n) ∧ n + 1 < scanBound ∧ Y (upd G4 D (SetO w D (fun j => S j || decide (j = c)) (if S c = true then n else n + 1))) else Y G3)
instance st_scI {wi : TI} {g : TG} {vs : List Nat} : Stp (tScI w wi g tt te vs σ H Q) (wi σ H fun J H1 => scB w J g tt te vs σ Q H1) := ⟨fun h => h⟩
/-- sorted of a set that tells l -/
theorem rd_sortSetN {D : Addr} {l : List Int} {n : Nat} (hD : H D = some (SetO w D (inS l) n)) (q : ∀ (ns : List Int) (p : Addr), ns.Pairwise (· < ·) → (∀ k, k ∈ ns ↔ k ∈ l) → H p = none → Q (.ref p) (upd H p (.lst (ns.map V.int)))) : rSortSetN w [.ref D] H Q :=
  ⟨D, _, n, rfl, hD, fun ns p h1 h2 _ hp => q ns p h1 (fun k => by rw [h2 k]; simp [inS]) hp⟩
end
end L2
namespace L2
open PySem PySem.Spec PyProof.Rows
/-! ### a set of ints by a comprehension of two clauses -/
section
variable {X : Cx}
/-- the inner clause's own loop, from which Y is reached -/
def sc2_inner (w : World) (D : Addr) (g1 : TG) (tt1 : TT) (te : TE) (vs1 : List Nat) (σ2 : St) (Y : Hp → Prop) (J1 : It) (G4 : Hp) : Prop := ∃ Z1 : Nat → Nat → Hp → Prop, (∃ m, Z1 0 m G4) ∧ ∀ j k G, Z1 j k G →
  (J1.stop j G ∧ Y G) ∨ (J1.go j G ∧ ∃ Y1 : Hp → Prop, (∀ G', Y1 G' → ∃ l, l < k ∧ Z1 (j + 1) l G') ∧ ∀ x G', J1.yld j G x G' → g1 x (wipe σ2 vs1) G' fun σ3 G5 => wipe σ3 vs1 = wipe σ2 vs1 ∧ tt1 σ3 G5 fun b G6 =>
    if b = true then te σ3 G6 fun y G7 => ∃ (c : Int) (S : Int → Bool) (n : Nat), y = .int c ∧ G7 D = some (SetO w D S n) ∧ n + 1 < scanBound ∧ Y1 (upd G7 D (SetO w D (fun j => S j || decide (j = c)) (if S c = true then n else n + 1))) else Y1 G6)
def tScI2 (w : World) (wi : TI) (g : TG) (tt : TT) (wi1 : TI) (g1 : TG) (tt1 : TT) (te : TE) (vs vs1 : List Nat) : TE := fun σ H Q => wi σ H fun J H1 => ∀ D, H1 D = none → ∃ Z : Nat → Nat → Hp → Prop, (∃ m, Z 0 m (upd H1 D (SetO w D setNo 0))) ∧ ∀ i m G, Z i m G →
  (J.stop i G ∧ Q (.ref D) G) ∨ (J.go i G ∧ ∃ Y : Hp → Prop, (∀ G', Y G' → ∃ l, l < m ∧ Z (i + 1) l G') ∧ ∀ x G', J.yld i G x G' → g x (wipe σ vs) G' fun σ2 G2 => wipe σ2 vs = wipe σ vs ∧ tt σ2 G2 fun b G3 =>
    if b = true then wi1 σ2 G3 (sc2_inner w D g1 tt1 te vs1 σ2 Y) else Y G3)
end
end L2
/-! ### a set of ints as what was put in, in order -/
namespace L2
open PySem PySem.Spec PyProof.Rows
def insL (l : List Int) (c : Int) : List Int := if c ∈ l then l else l ++ [c]
def ofL (xs : List Int) : List Int := xs.foldl insL []
theorem ofL_snoc {xs : List Int} {c : Int} : ofL (xs ++ [c]) = insL (ofL xs) c := by
  unfold ofL
  rw [List.foldl_append]
  rfl
section
variable {w : World} {σ : St} {H : Hp} {Q : VK} {K : PySem.W.Frag} {te : TE} {tt : TT}
/-- the heap with the set of what stands in xs at D -/
def SetL (w : World) (H : Hp) (D : Addr) (xs : List Int) : Hp := upd H D (SetO w D (inS (ofL xs)) (ofL xs).length)
theorem SetL.at {D : Addr} {xs : List Int} : SetL w H D xs D = some (SetO w D (inS (ofL xs)) (ofL xs).length) := upd_same
theorem SetL.same {D : Addr} {xs : List Int} (h : H D = none) : Same H (SetL w H D xs) := same_new h
theorem SetL.nt {D : Addr} {xs : List Int} (h : NoT H) : NoT (SetL w H D xs) := NoT.upd h rfl
theorem SetL.nil {D : Addr} : upd H D (SetO w D setNo 0) = SetL w H D [] := by rw [← inS_nil]; rfl
theorem SetL.put {D : Addr} {xs : List Int} {c : Int} : upd (SetL w H D xs) D (SetO w D (fun j => inS (ofL xs) j || decide (j = c)) (if inS (ofL xs) c = true then (ofL xs).length else (ofL xs).length + 1)) = SetL w H D (xs ++ [c]) := by
  unfold SetL
  rw [upd_upd, ofL_snoc, inS_snoc]
  by_cases h : c ∈ ofL xs
  · have e1 : inS (ofL xs) c = true := decide_eq_true h
    have e2 : inS (ofL xs ++ [c]) = inS (ofL xs) := by
      funext k
      refine decide_eq_decide.mpr ?_
      rw [List.mem_append, List.mem_singleton]
      exact ⟨fun z => z.elim id fun e => e ▸ h, .inl⟩
    rw [if_pos e1, e2, show insL (ofL xs) c = ofL xs from if_pos h]
  · have e1 : ¬ inS (ofL xs) c = true := fun z => h (of_decide_eq_true z)
    rw [if_neg e1, show insL (ofL xs) c = ofL xs ++ [c] from if_neg h, List.length_append]
    rfl
/-- two clauses -/
def sc2B (w : World) (J : It) (g : TG) (tt : TT) (wi1 : TI) (g1 : TG) (tt1 : TT) (te : TE) (vs vs1 : List Nat) (σ : St) (Q : VK) (H1 : Hp) : Prop := ∀ D, H1 D = none → ∃ Z : Nat → Nat → Hp → Prop, (∃ m, Z 0 m (upd H1 D (SetO w D setNo 0))) ∧ ∀ i m G, Z i m G →
  (J.stop i G ∧ Q (.ref D) G) ∨ (J.go i G ∧ ∃ Y : Hp → Prop, (∀ G', Y G' → ∃ l, l < m ∧ Z (i + 1) l G') ∧ ∀ x G', J.yld i G x G' → g x (wipe σ vs) G' fun σ2 G2 => wipe σ2 vs = wipe σ vs ∧ tt σ2 G2 fun b G3 =>
    if b = true then wi1 σ2 G3 (sc2_inner w D g1 tt1 te vs1 σ2 Y) else Y G3)
instance st_scI2 {wi wi1 : TI} {g g1 : TG} {tt1 : TT} {vs vs1 : List Nat} : Stp (tScI2 w wi g tt wi1 g1 tt1 te vs vs1 σ H Q) (wi σ H fun J H1 => sc2B w J g tt wi1 g1 tt1 te vs vs1 σ Q H1) := ⟨fun h => h⟩
end
end L2
namespace L2
open PySem PySem.Spec PyProof.Rows
/-! ### list comprehensions over a list of ints -/
section
variable {σ : St} {H : Hp} {Q : VK} {K : PySem.W.Frag} {te : TE} {tt : TT}
def resI (p : Int → Bool) (f : Int → V) (ns : List Int) : List V := (ns.filter p).map f
theorem resI_len {p : Int → Bool} {f : Int → V} {ns : List Int} : (resI p f ns).length ≤ ns.length := by
  unfold resI
  rw [List.length_map]
  exact List.length_filter_le _ _
theorem put_I {D : Addr} {p : Int → Bool} {f : Int → V} {l : List Int} {x : Int} {y : V} (hi : l.length < 1000000) (hp : p x = true) (hy : y = f x) : LcPut H D (resI p f l) (resI p f (l ++ [x])) y (upd H D (.lst (resI p f l))) := by
  refine ⟨_, upd_same, Nat.lt_of_le_of_lt resI_len (Nat.lt_trans hi (by decide)), ?_⟩
  rw [upd_upd]
  unfold resI
  rw [List.filter_append, List.map_append, hy]
  simp [hp]
theorem rd_lcI {a : Addr} {ns : List Int} {g : TG} {vs : List Nat} (p : Int → Bool) (f : Int → V) (hS : SqL K H a (ns.map V.int))
    (hs : ∀ D l x r, H D = none → ns = l ++ x :: r → g (.int x) (wipe σ vs) (upd H D (.lst (resI p f l))) fun σ2 H2 => wipe σ2 vs = wipe σ vs ∧ tt σ2 H2 fun b H3 => if b = true then te σ2 H3 (LcPut H D (resI p f l) (resI p f (l ++ [x]))) else LcSkip H D (resI p f (l ++ [x])) H3)
    (q : ∀ D, H D = none → Q (.ref D) (upd H D (.lst ((ns.filter p).map f)))) : lcB (Itl K a) g tt te vs σ Q H := by
  intro D hD
  refine ⟨fun i m H' => m = ns.length - i ∧ i ≤ ns.length ∧ H' = upd H D (.lst (resI p f (ns.take i))), ⟨ns.length, by simp, Nat.zero_le _, rfl⟩, ?_⟩
  rintro i m H' ⟨rfl, hi, rfl⟩
  have hS' : SqL K (upd H D (.lst (resI p f (ns.take i)))) a (ns.map V.int) := (same_new hD).seq hS
  by_cases hlt : i < ns.length
  · have hx : (ns.map V.int)[i]? = some (.int ns[i]) := by simp [hlt]
    have er : ns.take (i + 1) = ns.take i ++ [ns[i]] := by rw [List.take_add_one, List.getElem?_eq_getElem hlt]; rfl
    refine .inr ⟨⟨_, _, hS', hx⟩, fun H' => H' = upd H D (.lst (resI p f (ns.take (i + 1)))), fun H' p' => ⟨ns.length - (i + 1), by omega, rfl, hlt, p'⟩, fun x H' y => ?_⟩
    obtain ⟨e, y⟩ := y
    subst e
    have ex : x = .int ns[i] := Option.some.inj ((y _ hS').symm.trans hx)
    subst ex
    have z := hs D (ns.take i) ns[i] (ns.drop (i + 1)) hD (by rw [List.getElem_cons_drop, List.take_append_drop])
    rw [← er] at z
    exact z
  · have e : i = ns.length := by omega
    subst e
    rw [List.take_length]
    exact .inl ⟨⟨_, (same_new hD).seq hS, by rw [List.length_map]; exact Nat.le_refl _⟩, q D hD⟩
end
end L2
namespace L2
open PySem PySem.Spec PyProof.Rows
/-! ### making and methods within a try -/
section
variable {X : Cx} {k : Nat} {f C : Addr} {fd : FuncData} {ps : List PySem.Str} {sp : Sp} {x m : PySem.Str} {p pos apos : Pos} {e o : Expr} {es : List Expr} {ta : TE} {t : TA} {W : WX}
def tMakeT (C : Addr) (sp : Sp) (E : St → XK) (t : TA) : TE := fun σ H Q => t σ H fun vs H1 => ∀ x dx, H1 x = none → H1 dx = none → dx ≠ x → sp (.ref x :: vs) (upd (upd H1 dx (.own x)) x (.ins C dx [])) (fun v H2 => v = .non ∧ Q (.ref x) H2) (E σ)
instance st_makeS {σ : St} {H : Hp} {Q : VK} {E : St → XK} : Stp (tMakeT C sp E t σ H Q) (t σ H fun vs H1 => ∀ x dx, H1 x = none → H1 dx = none → dx ≠ x → sp (.ref x :: vs) (upd (upd H1 dx (.own x)) x (.ins C dx [])) (fun v H2 => v = .non ∧ Q (.ref x) H2) (E σ)) := ⟨fun h => h⟩
/-- o.m(e, ..) within a try -/
def tMethT (C : Addr) (m : PySem.Str) (sp : Sp) (E : St → XK) (ta : TE) (t : TA) : TE := fun σ H Q => ta σ H fun x H1 => ∃ a dx fs, x = .ref a ∧ H1 a = some (.ins C dx fs) ∧ fs.lookup m = none ∧ t σ H1 fun vs H2 => sp (x :: vs) H2 Q (E σ)
instance st_methT {σ : St} {H : Hp} {Q : VK} {E : St → XK} : Stp (tMethT C m sp E ta t σ H Q) (ta σ H fun x H1 => ∃ a dx fs, x = .ref a ∧ H1 a = some (.ins C dx fs) ∧ fs.lookup m = none ∧ t σ H1 fun vs H2 => sp (x :: vs) H2 Q (E σ)) := ⟨fun h => h⟩
end
end L2
namespace L2
open PySem PySem.Spec PyProof.Rows
section
variable {H : Hp} {Q : VK} {K : PySem.W.Frag} {a : Addr}
theorem rd_sortedI {ns : List Int} (h : SqL K H a (ns.map V.int)) (q : ∀ (ms : List Int) (p : Addr), ms.Perm ns → ms.Pairwise (· ≤ ·) → H p = none → Q (.ref p) (upd H p (.lst (ms.map V.int)))) : rSortedI K [.ref a] H Q := ⟨a, ns, rfl, h, q⟩
end
end L2
namespace L2
open PySem PySem.Spec PyProof.Rows
/-! ### dicts with ints as keys -/
section
variable {σ : St} {H : Hp} {Q : VK} {K : PySem.W.Frag} {v x y : V} {td ty tv : TE} {a : Addr} {i : Int} {kvs : List (Key × V)} {nx : St → Hp → Prop} {rt : VK} {bk ct : St → Hp → Prop}
instance st_dnewK : Stp (tDNewK σ H Q) (∀ p, H p = none → Q (.ref p) (upd H p (.dK []))) := ⟨fun h => h⟩
def rDGetV (Q : VK) : V → V → Hp → Prop := fun x y H => ∃ a v, x = .ref a ∧ DGet H a y (some v) ∧ Q v H
def rDInV (Q : VK) : V → V → Hp → Prop := fun x y H => ∃ a o, x = .ref a ∧ DGet H a y o ∧ Q (.bl o.isSome) H
def rDNinV (Q : VK) : V → V → Hp → Prop := fun x y H => ∃ a o, x = .ref a ∧ DGet H a y o ∧ Q (.bl (!o.isSome)) H
def rDPutV (S : Hp → Prop) : V → V → V → Hp → Prop := fun x y v H => ∃ a H4, x = .ref a ∧ DPut H a y v H4 ∧ S H4
instance st_dget : Stp (tDGet td ty σ H Q) (td σ H fun x H1 => ty σ H1 fun y H2 => rDGetV Q x y H2) := ⟨fun h => h⟩
instance st_din : Stp (tDIn ty td σ H Q) (ty σ H fun y H1 => td σ H1 fun x H2 => rDInV Q x y H2) := ⟨fun h => h⟩
instance st_dnotin : Stp (tDNotIn ty td σ H Q) (ty σ H fun y H1 => td σ H1 fun x H2 => rDNinV Q x y H2) := ⟨fun h => h⟩
instance st_dput : Stp (sDPut td ty tv ⟨nx, rt, bk, ct⟩ σ H) (tv σ H fun v H1 => td σ H1 fun x H2 => ty σ H2 fun y H3 => rDPutV (nx σ) x y v H3) := ⟨fun h => h⟩
theorem rd_din1 {b : Bool} (h : H a = some (.dK kvs)) (hb : (valV kvs (.inl i)).isSome = b) (q : Q (.bl b) H) : rDInV Q (.ref a) (.int i) H := ⟨a, _, rfl, DGet.k (k := .inl i) h, by rw [hb]; exact q⟩
theorem rd_dnotin1 {b : Bool} (h : H a = some (.dK kvs)) (hb : (valV kvs (.inl i)).isSome = b) (q : Q (.bl (!b)) H) : rDNinV Q (.ref a) (.int i) H := ⟨a, _, rfl, DGet.k (k := .inl i) h, by rw [hb]; exact q⟩
/-! dicts of flags: {k: True for ..}; ks the keys, in order -/
def dFl (ks : List Int) : List (Key × V) := ks.map fun k => (.inl k, .bl true)
abbrev DFl (ks : List Int) : HO := .dK (dFl ks)
theorem dFl_val {i : Int} : ∀ {ks : List Int}, (valV (dFl ks) (.inl i)).isSome = decide (i ∈ ks)
  | [] => by simp [dFl, valV]
  | k :: ks => by
    have ih := dFl_val (i := i) (ks := ks)
    by_cases e : k = i
    · subst e
      have : valV (dFl (k :: ks)) (.inl k) = some (.bl true) := valV_pos (p := ((Sum.inl k : Key), V.bl true)) (r := dFl ks) (k := Sum.inl k) rfl
      rw [this]
      simp
    · have : valV (dFl (k :: ks)) (.inl i) = valV (dFl ks) (.inl i) := valV_neg (p := ((Sum.inl k : Key), V.bl true)) (r := dFl ks) (k := Sum.inl i) fun z => e (Sum.inl.inj z)
      rw [this, ih]
      refine decide_eq_decide.mpr ?_
      rw [List.mem_cons]
      exact ⟨.inr, fun z => z.elim (fun z => absurd z.symm e) id⟩
theorem dFl_keys {ks : List Int} : ((dFl ks).map fun kv => kV kv.1) = ks.map V.int := by
  unfold dFl
  rw [List.map_map]
  rfl
theorem rd_dinF {ks : List Int} (h : H a = some (DFl ks)) (q : Q (.bl (decide (i ∈ ks))) H) : rDInV Q (.ref a) (.int i) H := rd_din1 h dFl_val q
theorem rd_dnotinF {ks : List Int} (h : H a = some (DFl ks)) (q : Q (.bl (!decide (i ∈ ks))) H) : rDNinV Q (.ref a) (.int i) H := rd_dnotin1 h dFl_val q
def rListDo : List V → Hp → VK → Prop := fun xs H Q => ∃ (a : Addr) (kvs : List (Key × V)), xs = [.ref a] ∧ Rd H a (.dK kvs) ∧ ∀ p, H p = none → Q (.ref p) (upd H p (.lst (kvs.map fun kv => kV kv.1)))
theorem rd_listF {ks : List Int} (h : H a = some (DFl ks)) (q : ∀ p, H p = none → Q (.ref p) (upd H p (.lst (ks.map V.int)))) : rListDo [.ref a] H Q := ⟨a, dFl ks, rfl, .inl h, by rw [dFl_keys]; exact q⟩
end
end L2
namespace L2
open PySem PySem.Spec PyProof.Rows
theorem room65 {k : Nat} {A : Around} (r : Room k A) : A.units + 65 < cLine := by
  have := r.un
  omega
end L2
namespace L2
open PySem PySem.Spec PyProof.Rows
/-! ### two roads for one expression -/
/-! ### operators of own classes -/
/-- an own instance's truth -/
def rTruO (C : Addr) (sp : Sp) (E : XK) (R : Bool → Hp → Prop) (x : V) (H : Hp) : Prop := ∃ a dx fs, x = .ref a ∧ H a = some (.ins C dx fs) ∧ sp [.ref a] H (fun v H' => ∃ b, v = .bl b ∧ R b H') E
section
variable {X : Cx} {k : Nat} {C : Addr} {ps : List PySem.Str} {sp : Sp} {E : XK} {m : PySem.Str}
variable {a : Expr} {ta : TE} {pos : Pos}
/-- an instance as a test -/
def tTruO (C : Addr) (sp : Sp) (E : XK) (ta : TE) : TT := fun σ H R => ta σ H (rTruO C sp E R)
/-- not of an instance, as a value -/
def tNotO (C : Addr) (sp : Sp) (E : XK) (ta : TE) : TE := fun σ H Q => ta σ H (rTruO C sp E fun b H' => Q (.bl (!b)) H')
end
section
variable {σ : St} {H : Hp} {Q : VK} {R : Bool → Hp → Prop} {C a b dx dy : Addr} {fs gs : List (PySem.Str × V)} {sp : Sp} {E : XK} {x : V} {ta te : TE} {t u : TE}
instance st_tTruO : Stp (tTruO C sp E ta σ H R) (ta σ H (rTruO C sp E R)) := ⟨fun h => h⟩
instance st_tNotO : Stp (tNotO C sp E ta σ H Q) (ta σ H (rTruO C sp E fun b H' => Q (.bl (!b)) H')) := ⟨fun h => h⟩
end
/-! ### bool(o) -/
/-! ### classmethods -/
structure CMAt (K : PySem.W.Frag) (C : Addr) (m qual : PySem.Str) (st : Stmt) : Prop where
  ex : ∃ (mc : Value) (p g : Addr) (fd : FuncData), ClX.CRead K C mc ∧ ClX.CMet K C mc m p g ∧ Fun K m qual st g fd
structure CMDef (P : Program) (w : World) (K : PySem.W.Frag) (mg : PySem.Str → Option Value) (base : Heap) (k : Nat) (C : Addr) (m : PySem.Str) (sp : Sp) : Prop where
  ex : ∃ (mc : Value) (p g : Addr), ClX.CRead K C mc ∧ ClX.CMet K C mc m p g ∧ FnR P w K mg base (L2.CX P w) k g sp
section
variable {P : Program} {w : World} {K : PySem.W.Frag} {mg : PySem.Str → Option Value} {base : Heap}
theorem CMDef.imp {k : Nat} {C : Addr} {m : PySem.Str} {sp sp' : Sp} (D : CMDef P w K mg base k C m sp) (h : ∀ vs H Q E, sp' vs H Q E → sp vs H Q E) : CMDef P w K mg base k C m sp' := by
  obtain ⟨mc, p, g, a, b, F⟩ := D.ex
  exact ⟨mc, p, g, a, b, F.imp h⟩
/-- a classmethod with plain parameters -/
theorem CMAt.ok {C : Addr} {m qual : PySem.Str} {st : Stmt} {N ps : List PySem.Str} {k : Nat} {sp : Sp} (D : CMAt K C m qual st) (S : FnScope N ps (defScope st)) (len : ∀ vs H Q E, sp vs H Q E → vs.length = ps.length)
    (binds : ∀ (f : Addr) (fd : FuncData), Fun K m qual st f fd → Binds K fd ps [])
    (hbody : ∀ (f : Addr) (cdv : Value) (A : Around) (outer : List Env) (s : Shared) (H : Hp) (vs : List V) (Q : VK) (E : XK), Room k (A.deeper (envOfC qual (defScope st) s.heap.objs.size f cdv)) → sp vs H Q E →
      ∃ t, PSs (cxOf (L2.CX P w) P w K mg base N qual (defScope st) f cdv A outer s H E) (defBody st) t ∧ t ⟨fun _ H' => Q .non H', Q, fun _ _ => False, fun _ _ => False⟩ (start N vs) H) : CMDef P w K mg base (k + 1) C m sp := by
  obtain ⟨mc, p, g, fd, a, b, F⟩ := D.ex
  refine ⟨mc, p, g, a, b, FnR.imp (FnOk.raw (F.okX S len fun cdv A outer s H vs Q E hr h => hbody g cdv A outer s H vs Q E hr h) (binds g fd F) .nil) fun vs H Q E h => ?_⟩
  rw [List.append_nil]
  exact h
/-- a classmethod with a star parameter behind the plain ones -/
theorem CMAt.okStar {C : Addr} {m qual pv : PySem.Str} {st : Stmt} {N ps : List PySem.Str} {k : Nat} {sp : Sp} (D : CMAt K C m qual st) (S : FnScope N (ps ++ [pv]) (defScope st))
    (binds : ∀ (kV doc pm cdv ct : Value) (an : Option Addr) (us rest : List Value), us.length = ps.length → bindArgs (PySem.W.fnOf m qual (defArgs st) (defBody st) (defScope st) .none kV doc pm an cdv ct) ⟨us ++ rest, []⟩ = (newTuple rest >>= fun t => pure (ps.zip us ++ [(pv, t)])))
    (hbody : ∀ (f : Addr) (cdv : Value) (A : Around) (outer : List Env) (s : Shared) (H : Hp) (vs : List V) (Q : VK) (E : XK), Room k (A.deeper (envOfC qual (defScope st) s.heap.objs.size f cdv)) → sp vs H Q E →
      ∃ t, PSs (cxOf (L2.CX P w) P w K mg base N qual (defScope st) f cdv A outer s H E) (defBody st) t ∧ t ⟨fun _ H' => Q .non H', Q, fun _ _ => False, fun _ _ => False⟩ (start N vs) H) :
    CMDef P w K mg base (k + 1) C m (fun vs H Q E => ∃ ws rest, vs = ws ++ rest ∧ ws.length = ps.length ∧ rest.length ≤ sizeLine ∧ ∀ p, H p = none → sp (ws ++ [V.ref p]) (upd H p (.tup rest)) Q E) := by
  obtain ⟨mc, p, g, fd, a, b, F⟩ := D.ex
  obtain ⟨c0, d0, kV, doc, pm, an, cdv, ct, sl, rfl, lk, hcd⟩ := F.ex
  exact ⟨mc, p, g, a, b, StX.fn_star lk hcd S StX.cxUp (binds kV doc pm cdv ct an) fun A outer s H vs Q E hr h => hbody g cdv A outer s H vs Q E hr h⟩
end
section
variable {X : Cx} {k : Nat} {C : Addr} {m : PySem.Str} {sp : Sp} {E : XK} {o e : Expr} {es : List Expr} {ta : TE} {t : TA} {pos apos : Pos}
instance st_cm {σ : St} {H : Hp} {Q : VK} : Stp (ClX.tCMeth C sp E ta t σ H Q) (ta σ H fun x H1 => x = .ref C ∧ t σ H1 fun vs H2 => sp (.ref C :: vs) H2 Q E) := ⟨fun h => h⟩
instance st_cm1 {P : Prop} : Stp (V.ref C = V.ref C ∧ P) P := ⟨fun h => ⟨rfl, h⟩⟩
/-- cls(..), the class in a name -/
def tMakeL (C : Addr) (sp : Sp) (E : XK) (tf : TE) (t : TA) : TE := fun σ H Q => tf σ H fun y H1 => y = .ref C ∧ t σ H1 fun vs H2 => ∀ x dx, H2 x = none → H2 dx = none → dx ≠ x → sp (.ref x :: vs) (upd (upd H2 dx (.own x)) x (.ins C dx [])) (fun v H3 => v = .non ∧ Q (.ref x) H3) E
instance st_makeL {σ : St} {H : Hp} {Q : VK} {tf : TE} : Stp (tMakeL C sp E tf t σ H Q) (tf σ H fun y H1 => y = .ref C ∧ t σ H1 fun vs H2 => ∀ x dx, H2 x = none → H2 dx = none → dx ≠ x → sp (.ref x :: vs) (upd (upd H2 dx (.own x)) x (.ins C dx [])) (fun v H3 => v = .non ∧ Q (.ref x) H3) E) := ⟨fun h => h⟩
end
end L2
namespace L2
open PySem PySem.Spec PyProof.Rows
/-! ### bool(t), a tuple -/
end L2
namespace L2
open PySem PySem.Spec PyProof.Rows
/-! ### a def under a second name -/
structure DefAtA (K : PySem.W.Frag) (mg : PySem.Str → Option Value) (y x : PySem.Str) (st : Stmt) (ps : List PySem.Str) : Prop where
  ex : ∃ (f : Addr) (fd : FuncData), Fun K x x st f fd ∧ mg y = some (.ref f) ∧ Binds K fd ps []
theorem DefAtA.ok {P : Program} {w : World} {K : PySem.W.Frag} {mg : PySem.Str → Option Value} {base : Heap} {y x : PySem.Str} {st : Stmt} {N ps : List PySem.Str} {k : Nat} {sp : Sp} (D : DefAtA K mg y x st ps) (S : FnScope N ps (defScope st)) (len : ∀ vs H Q E, sp vs H Q E → vs.length = ps.length)
    (body : ∀ (f : Addr) (cdv : Value) (A : Around) (outer : List Env) (s : Shared) (H : Hp) (vs : List V) (Q : VK) (E : XK), Room k (A.deeper (envOfC x (defScope st) s.heap.objs.size f cdv)) → sp vs H Q E →
      ∃ t, PSs (cxOf (L2.CX P w) P w K mg base N x (defScope st) f cdv A outer s H E) (defBody st) t ∧ t ⟨fun _ H' => Q .non H', Q, fun _ _ => False, fun _ _ => False⟩ (start N vs) H) : Def P w K mg base (k + 1) y ps sp := by
  obtain ⟨f, fd, F, g, b⟩ := D.ex
  exact ⟨f, fd, F.okX S len fun cdv A outer s H vs Q E hr h => body f cdv A outer s H vs Q E hr h, g, F.kp, b⟩
/-! ### {k: v for ..} given to a name -/
/-- {x: True for x in xs}, xs a list or tuple of ints -/
def dcB (J : It) (g : TG) (tt : TT) (tk tv : TE) (vs : List Nat) (σ : St) (Q : VK) (H1 : Hp) : Prop := ∀ D, H1 D = none → ∃ W : Nat → Nat → Hp → Prop, (∃ m, W 0 m (upd H1 D (.dK []))) ∧ ∀ i m H, W i m H →
  (J.stop i H ∧ Q (.ref D) H) ∨ (J.go i H ∧ ∃ Nx : Hp → Prop, (∀ H', Nx H' → ∃ m', m' < m ∧ W (i + 1) m' H') ∧ ∀ x H', J.yld i H x H' → g x (wipe σ vs) H' fun σ2 H2 => wipe σ2 vs = wipe σ vs ∧ tt σ2 H2 fun b H3 =>
    if b = true then tk σ2 H3 fun y H4 => tv σ2 H4 fun z H5 => ∃ kvs k, y = kV k ∧ H5 D = some (.dK kvs) ∧ kvs.length < sizeLine ∧ Nx (upd H5 D (.dK (putK kvs k z))) else Nx H3)
section
variable {σ : St} {H : Hp} {Q : VK} {K : PySem.W.Frag} {tk tv : TE} {tt : TT}
instance st_dc {wi : TI} {g : TG} {vs : List Nat} : Stp (tDc wi g tt tk tv vs σ H Q) (wi σ H fun J H1 => dcB J g tt tk tv vs σ Q H1) := ⟨fun h => h⟩
end
end L2
namespace L2
open PySem PySem.Spec PyProof.Rows
end L2
namespace PySem.W
open PySem PySem.Spec PySem.Calls PyProof.Rows
end PySem.W
namespace L2
open PySem PySem.Spec PyProof.Rows
end L2
namespace L2
open PySem PySem.Spec PyProof.Rows
end L2
namespace L2
open PySem PySem.Spec PyProof.Rows
/-! ### set(xs), a list of ints -/
section
variable {P : Program} {w : World} {A : Around} {E : Value → Shared → Prop} {s : Shared}
/-- a set as it begins -/
abbrev setAtFirst (w : World) : Obj := { cls := .type "set", dict := none, data := .set #[] 0 (.fresh 0 0 (!w.params.followText "set-order")) }
theorem setOf_list {src : Addr} {its : Array Value} (ks : List Int) {Q : Value → Shared → Prop} (calm : A.handled = none) (isL : s.heap.IsList src its) (whole : IntsAre its.toList ks) (few : ks.length + 1 < scanBound)
    (go : ∀ (h' : Heap) (tk c : Nat), SetR w h' s.heap.objs.size (fun j => decide (j ∈ ks)) c → c ≤ ks.length → (∀ b o, s.heap.get? b = some o → h'.get? b = some o) → Q (.ref s.heap.objs.size) { s with heap := h', toks := tk }) :
    wpAny (model P w) A (call (.type "set") [.ref src]) Q E s := by
  have sizes : its.size = ks.length := by rw [← IntsAre.length whole, Array.length_toList]
  have k1 := F.called_set.made
  have k2 := F.called_set.sub
  have k3 := F.called_set.notType
  have k4 := F.called_set.canCreate
  obtain ⟨mro0, mro1, k5⟩ := F.called_set.mro
  refine wpAny_call ?_
  refine codeAny_of_tree ?_
  show wpAny _ _ (callAny (.type "set") _) _ _ s
  refine wpAny_pure ⟨Code.quiet_builtin _ (by decide +kernel), ?_⟩
  refine codeAny_builtin F.entry_type_call ?_
  rw [Around.under_plain (weight_type_call_type "set" [.ref src] []) rfl]
  have k6 := F.typeCall_set_1 (.ref src)
  repeat (any_goals (first | assumption | wp_step | fail))
  refine codeAny_mono (code_set_led1 (.ref src) (E := E) (Q₁ := fun u t => u = .ref s.heap.objs.size ∧ t = { s with heap := s.heap.push (setAtFirst w) }) ⟨rfl, rfl⟩) fun res t made => ?_
  cases res with
  | error x => exact made
  | ok flow =>
    cases flow with
    | ret u =>
      obtain ⟨rfl, rfl⟩ := made
      have atS : (s.heap.push (setAtFirst w)).get? s.heap.objs.size = some (setAtFirst w) := Heap.get?_push_size _ rfl
      have tyS : Shared.TypeIs { s with heap := s.heap.push (setAtFirst w) } (.ref s.heap.objs.size) "set" := ⟨_, atS, rfl⟩
      have k7 := F.called_set.init.lookup
      have k8 := F.called_set.init.bind (.ref s.heap.objs.size)
      repeat (any_goals (first | assumption | wp_step | fail))
      refine codeAny_mono (codeAny_call_builtin (R := wants (fun r t2 => r = .none ∧ ∃ h' tk c, t2 = { s with heap := h', toks := tk } ∧ SetR w h' s.heap.objs.size (fun j => decide (j ∈ ks)) c ∧ c ≤ ks.length ∧
          (∀ b o, s.heap.get? b = some o → h'.get? b = some o)) E) F.called_set.init.plain F.entry_set_init (check_set_init_1 tyS ?_)) fun res2 t2 done => ?_
      · obtain ⟨⟨cls0, dct0, dat0, slt0⟩, atO, isC, ep, isD⟩ := isL
        dsimp only at isC isD
        subst isC isD
        have atO1 : (s.heap.push (setAtFirst w)).get? src = some { cls := .type "list", dict := dct0, data := .seq its ep, slots := slt0 } := Heap.get?_push_of_some _ atO
        have n1 := F.sub_list_set
        have n2 := F.sub_list_frozenset
        have n3 : (Value.type "list" == Value.type "dict") = false := by decide
        have isL1 : (s.heap.push (setAtFirst w)).IsList src its := ⟨_, atO1, rfl, ep, rfl⟩
        unfold Builtin.«set.__init__» noKeywords Builtin.Frozenset.updateFrom
        generalize hit : pyIter = iterOf
        wp_walk
        subst hit
        refine wpAny_pyIter_list isL1 ?_
        refine wpAny_bind (wpAny_runValue ?_)
        have small : src < s.heap.objs.size := Heap.lt_size atO
        have grow : (s.heap.push (setAtFirst w)).objs.size = s.heap.objs.size + 1 := Heap.size_push ..
        have calm3 : A.in1.in1.in1.handled = none := by simp [calm]
        have apart : src ≠ (s.heap.push (setAtFirst w)).objs.size := by
          rw [grow]
          exact Nat.ne_of_lt (Nat.lt_succ_of_lt small)
        have away : s.heap.objs.size ∉ [(s.heap.push (setAtFirst w)).objs.size, src] := by
          rw [grow, List.mem_cons, List.mem_singleton]
          exact not_or.mpr ⟨Nat.ne_of_lt (Nat.lt_succ_self _), Nat.ne_of_gt small⟩
        have each : ∀ (i : Nat) (v : Value), its[i]? = some v → ∃ k t, ks[i]? = some k ∧ v = .int k t := fun i v hv => by
          have hi : i < ks.length := by
            rw [← sizes]
            exact (Array.getElem?_eq_some_iff.mp hv).1
          obtain ⟨t, e⟩ := PyProof.Rows.IntsAre.int_at whole i v (by rw [Array.getElem?_toList]; exact hv)
          refine ⟨ks[i], t, List.getElem?_eq_getElem hi, ?_⟩
          rw [e, List.getD_eq_getElem?_getD, List.getElem?_eq_getElem hi] <;> rfl
        refine set_update_ints ((Walks.list calm3 _ src apart its).toS) s.heap.objs.size away ks sizes few each (its.size - 0) 0 _ (by omega) (Nat.zero_le _)
          ⟨⟨_, Heap.get?_push_size _ rfl, rfl, rfl⟩, (isL1.push _)⟩ ?first ?last
        case first =>
          refine ⟨0, Nat.le_refl 0, setR_new_at ?_⟩
          exact Heap.get?_push_of_some _ atS
        case last =>
          intro t3 c3 mv le3 R3
          obtain ⟨h3, g3, d3, k3, o3⟩ := t3
          obtain rfl : g3 = s.gens := mv.gens
          obtain rfl : d3 = s.drawn := mv.drawn
          obtain rfl : o3 = s.os := mv.os
          show wpAny _ _ _ _ _ _
          refine wpAny_pure ?_
          show wpAny _ _ (ret Value.none) _ _ _
          refine wpAny_pure ⟨rfl, h3, k3, c3, rfl, R3, by rw [← sizes]; exact le3, fun b o e => ?_⟩
          have lt := Heap.lt_size e
          refine mv.heap b o ?_ (Heap.get?_push_of_some _ (Heap.get?_push_of_some _ e))
          rw [List.mem_cons, List.mem_singleton, grow]
          exact not_or.mpr ⟨Nat.ne_of_lt lt, Nat.ne_of_lt (Nat.lt_succ_of_lt lt)⟩
      · cases res2 with
        | error x => exact done
        | ok flow2 =>
          cases flow2 with
          | ret r =>
            obtain ⟨rfl, h', tk, c, rfl, R3, le3, keep⟩ := done
            repeat (any_goals (first | assumption | wp_step | fail))
            exact go _ _ _ R3 le3 keep
          | _ => exact done.elim
    | _ => exact made.elim
end
/-- set(xs), a list or a tuple of ints -/
def rSetOf (K : PySem.W.Frag) (w : World) : List V → Hp → VK → Prop := fun vs H Q => ∃ (a : Addr) (ns : List Int), vs = [.ref a] ∧ (SqL K H a (ns.map V.int) ∨ SqT K H a (ns.map V.int)) ∧ ns.length < 4095 ∧ ∀ D n, H D = none → Q (.ref D) (upd H D (SetO w D (inS ns) n))
theorem cr_setOf {X : Cx} (calm : X.calm = true) : CallR X (.type "set") (rSetOf X.K X.w) := by
  intro pins s σ H vs us Q I r ⟨a, ns, ev, at_, few, q⟩
  subst ev
  rw [Vals.ref1 r]
  have fin : ∀ (h' : Heap) (tk c : Nat), SetR X.w h' s.heap.objs.size (fun j => decide (j ∈ ns)) c → c ≤ ns.length → (∀ b o, s.heap.get? b = some o → h'.get? b = some o) → EP X pins σ Q (.ref s.heap.objs.size) { s with heap := h', toks := tk } := fun h' tk c R _ keep => by
    have free : H s.heap.objs.size = none := I.hok.fresh (Nat.le_refl _)
    exact ⟨.ref s.heap.objs.size, _, I.laid (t' := tk) keep (Nat.le_refl _) (setO_new R), rfl, q _ c free⟩
  rcases at_ with h | h
  · obtain ⟨its, rv, p, hz⟩ := I.list h
    exact setOf_list ns (I.ok.hd calm) p.isList rv.ints (Nat.succ_lt_succ few) fin
  · obtain ⟨its, rv, p, hz⟩ := I.tuple h
    exact call_set_tupI ns (I.ok.hd calm) (show s.heap.IsTuple a its.toArray from p) (ints_of_vals rv) (Nat.succ_lt_succ few) fin
theorem rd_setOfL {K : PySem.W.Frag} {w : World} {a : Addr} {ns : List Int} {H : Hp} {Q : VK} (h : SqL K H a (ns.map V.int)) (few : ns.length < 4095) (q : ∀ D n, H D = none → Q (.ref D) (upd H D (SetO w D (inS ns) n))) : rSetOf K w [.ref a] H Q := ⟨a, ns, rfl, .inl h, few, q⟩
end L2
namespace L2
open PySem PySem.Spec PyProof.Rows
/-! ### a view of the heap: what is kept of an earlier one, what is ours to change, what stands besides, what no list decides -/
def rigid : HO → Bool
  | .ins _ _ _ => true
  | .tup _ => true
  | _ => false
/-- all that is no list, dict or the like still stands -/
def Keeps (G G' : Hp) : Prop := ∀ b o, rigid o = true → G b = some o → G' b = some o
theorem Keeps.refl (G : Hp) : Keeps G G := fun _ _ _ h => h
theorem Keeps.trans {G G' G'' : Hp} (a : Keeps G G') (b : Keeps G' G'') : Keeps G G'' := fun c o r h => b c o r (a c o r h)
theorem Keeps.of {G G' : Hp} (s : Same G G') : Keeps G G' := fun b o _ h => s b o h
theorem Keeps.put {G : Hp} {x : Addr} {o u : HO} (h : G x = some o) (r : rigid o = false) : Keeps G (upd G x u) := fun b v rv hb => by
  by_cases e : b = x
  · subst e
    rw [h] at hb
    cases hb
    rw [r] at rv
    cases rv
  · rw [upd_ne e]
    exact hb
def Rig (P : Hp → Prop) (G : Hp) : Prop := ∀ G', Keeps G G' → P G'
structure Hv (X : Addr → Prop) (H : Hp) (M L : List (Addr × HO)) (Z : List (Hp → Prop)) (G : Hp) : Prop where
  old : ∀ b o, ¬ X b → H b = some o → G b = some o
  nt : NoT G
  m : ∀ q ∈ M, G q.1 = some q.2 ∧ (X q.1 ∨ H q.1 = none) ∧ rigid q.2 = false
  l : ∀ q ∈ L, G q.1 = some q.2
  nd : M.Pairwise fun q r => q.1 ≠ r.1
  ml : ∀ q ∈ M, ∀ r ∈ L, q.1 ≠ r.1
  z : ∀ P ∈ Z, Rig P G
def noX : Addr → Prop := fun _ => False
/-- nothing but x has changed -/
def But (x : Addr) (H H' : Hp) : Prop := ∀ b o, b ≠ x → H b = some o → H' b = some o
theorem But.of {x : Addr} {H H' : Hp} (h : Same H H') : But x H H' := fun b o _ e => h b o e
theorem But.new {x p : Addr} {H G : Hp} {o : HO} (h : But x H G) (hp : G p = none) : But x H (upd G p o) := fun b o1 n e => upd_keep (h b o1 n e) hp
theorem But.put {x : Addr} {H G : Hp} {o : HO} (h : But x H G) : But x H (upd G x o) := fun b o1 n e => by
  rw [upd_ne n]
  exact h b o1 n e
theorem But.refl {x : Addr} {H : Hp} : But x H H := fun _ _ _ e => e
theorem But.trans {x : Addr} {H G L : Hp} (a : But x H G) (b : But x G L) : But x H L := fun c o n e => b c o n (a c o n e)
theorem But.same {x : Addr} {H G L : Hp} (a : But x H G) (b : Same G L) : But x H L := fun c o n e => b c o (a c o n e)
/-- what stood ahead of x still stands -/
theorem But.old {x : Addr} {H0 H G : Hp} (a : But x H G) (s : Same H0 H) (f : H0 x = none) : Same H0 G := fun c o e => a c o (fun z => by
  rw [z, f] at e
  cases e) (s c o e)
theorem But.fresh {x D : Addr} {H G : Hp} {o : HO} (h : But x H G) (f : H D = none) : But x H (upd G D o) := fun b o1 n e => by
  rw [upd_ne (ne_of_none e f)]
  exact h b o1 n e
section
variable {X : Addr → Prop} {H G G' : Hp} {M L : List (Addr × HO)} {Z : List (Hp → Prop)} {a b D p x y : Addr} {o u v : HO} {P : Hp → Prop} {xs : List V}
theorem Hv.start (nt : NoT H) : Hv noX H [] [] [] H := ⟨fun _ _ _ h => h, nt, fun _ h => absurd h List.not_mem_nil, fun _ h => absurd h List.not_mem_nil, List.Pairwise.nil, fun _ h => absurd h List.not_mem_nil, fun _ h => absurd h List.not_mem_nil⟩
theorem Hv.same (B : Hv noX H M L Z G) : Same H G := fun b o h => B.old b o id h
theorem Hv.mAt (B : Hv X H M L Z G) (h : (a, o) ∈ M) : G a = some o := (B.m _ h).1
theorem Hv.lAt (B : Hv X H M L Z G) (h : (a, o) ∈ L) : G a = some o := B.l _ h
theorem Hv.oAt (B : Hv noX H M L Z G) (h : H a = some o) : G a = some o := B.old a o id h
theorem Hv.oAtX (B : Hv (· = p) H M L Z G) (h : H a = some o) (n : a ≠ p) : G a = some o := B.old a o n h
theorem Hv.fr (B : Hv noX H M L Z G) (h : (a, o) ∈ M) : H a = none := (B.m _ h).2.1.elim False.elim id
theorem Hv.free (B : Hv noX H M L Z G) (h : G D = none) : H D = none := B.same.free h
theorem Hv.away (B : Hv X H M L Z G) (h : G D = none) : ∀ q ∈ M, q.1 ≠ D := fun q hq e => by
  have := (B.m q hq).1
  rw [e, h] at this
  cases this
theorem Hv.next (B : Hv X H M L Z G) (s : Same G G') (n : NoT G') : Hv X H M L Z G' := ⟨fun b o h e => s b o (B.old b o h e), n, fun q hq => ⟨s _ _ (B.m q hq).1, (B.m q hq).2⟩, fun q hq => s _ _ (B.l q hq), B.nd, B.ml, fun P hP G2 k => B.z P hP G2 ((Keeps.of s).trans k)⟩
theorem Hv.newG (B : Hv X H M L Z G) (h : G D = none) (f : X D ∨ H D = none) (r : rigid o = false) (hn : noT o = true) : Hv X H ((D, o) :: M) L Z (upd G D o) := by
  have C := B.next (same_new (o := o) h) (NoT.upd B.nt hn)
  refine ⟨C.old, C.nt, fun q hq => ?_, C.l, List.pairwise_cons.mpr ⟨fun q hq => (B.away h q hq).symm, C.nd⟩, fun q hq q2 h2 => ?_, C.z⟩
  · rcases List.mem_cons.mp hq with e | hq
    · subst e
      exact ⟨upd_same, f, r⟩
    · exact C.m q hq
  · rcases List.mem_cons.mp hq with e | hq
    · subst e
      exact fun e => by
        have := B.l q2 h2
        rw [← e, h] at this
        cases this
    · exact C.ml q hq q2 h2
/-- a new thing, ours -/
theorem Hv.new (B : Hv noX H M L Z G) (h : G D = none) (r : rigid o = false := by rfl) (hn : noT o = true := by rfl) : Hv noX H ((D, o) :: M) L Z (upd G D o) := B.newG h (.inr (B.free h)) r hn
/-- a new thing that stays as it is -/
theorem Hv.newL (B : Hv X H M L Z G) (h : G D = none) (hn : noT o = true := by rfl) : Hv X H M ((D, o) :: L) Z (upd G D o) := by
  have C := B.next (same_new (o := o) h) (NoT.upd B.nt hn)
  refine ⟨C.old, C.nt, C.m, fun q hq => ?_, C.nd, fun q hq q2 h2 => ?_, C.z⟩
  · rcases List.mem_cons.mp hq with e | hq
    · subst e
      exact upd_same
    · exact C.l q hq
  · rcases List.mem_cons.mp h2 with e | h2
    · subst e
      exact B.away h q hq
    · exact C.ml q hq q2 h2
/-- what stands besides -/
theorem Hv.add (B : Hv X H M L Z G) (h : G a = some o) (n : ∀ q ∈ M, q.1 ≠ a) : Hv X H M ((a, o) :: L) Z G := ⟨B.old, B.nt, B.m, fun q hq => (List.mem_cons.mp hq).elim (fun e => by rw [e]; exact h) (B.l q), B.nd, fun q hq q2 h2 => (List.mem_cons.mp h2).elim (fun e => by rw [e]; exact n q hq) (B.ml q hq q2), B.z⟩
/-- what a call has made: at D, free ahead of it -/
theorem Hv.got (B : Hv X H M L Z G) (s : Same G G') (n : NoT G') (f : G D = none) (h : G' D = some o) : Hv X H M ((D, o) :: L) Z G' := (B.next s n).add h (B.away f)
/-- ours has changed -/
theorem Hv.but (B : Hv X H ((p, o) :: M) L Z G) (b : But p G G') (n : NoT G') (h : G' p = some u) (r : rigid u = false := by rfl) : Hv X H ((p, u) :: M) L Z G' := by
  obtain ⟨h1, h2, h3⟩ := B.m _ List.mem_cons_self
  obtain ⟨n1, n2⟩ := List.pairwise_cons.mp B.nd
  refine ⟨fun c w hc e => ?_, n, fun q hq => ?_, fun q hq => b _ _ (fun e => B.ml _ List.mem_cons_self q hq e.symm) (B.l q hq), List.pairwise_cons.mpr ⟨fun q hq => n1 q hq, n2⟩, fun q hq q2 k2 => ?_, fun P hP G2 k => B.z P hP G2 (Keeps.trans (fun c w rw hc => ?_) k)⟩
  · by_cases e2 : c = p
    · subst e2
      exact (h2.elim hc fun z => by rw [z] at e; cases e).elim
    · exact b c w e2 (B.old c w hc e)
  · rcases List.mem_cons.mp hq with e | hq
    · subst e
      exact ⟨h, h2, r⟩
    · obtain ⟨k1, k2⟩ := B.m q (List.mem_cons_of_mem _ hq)
      exact ⟨b _ _ (fun e => n1 q hq e.symm) k1, k2⟩
  · rcases List.mem_cons.mp hq with e | hq
    · subst e
      exact B.ml _ List.mem_cons_self q2 k2
    · exact B.ml _ (List.mem_cons_of_mem _ hq) q2 k2
  · refine b c w (fun e => ?_) hc
    subst e
    have : some o = some w := h1.symm.trans hc
    cases this
    have h3' : rigid o = false := h3
    rw [h3'] at rw
    cases rw
theorem Hv.put (B : Hv X H ((x, o) :: M) L Z G) (r : rigid u = false := by rfl) (hn : noT u = true := by rfl) : Hv X H ((x, u) :: M) L Z (upd G x u) := B.but (fun b w n e => by rw [upd_ne n]; exact e) (NoT.upd B.nt hn) upd_same r
theorem Hv.perm {M' : List (Addr × HO)} (B : Hv X H M L Z G) (h : ∀ q ∈ M', q ∈ M) (n : M'.Pairwise fun q r => q.1 ≠ r.1) : Hv X H M' L Z G := ⟨B.old, B.nt, fun q hq => B.m q (h q hq), B.l, n, fun q hq => B.ml q (h q hq), B.z⟩
theorem Hv.drop {q : Addr × HO} (B : Hv X H (q :: M) L Z G) : Hv X H M L Z G := B.perm (fun k hk => List.mem_cons_of_mem _ hk) (List.pairwise_cons.mp B.nd).2
theorem sub_nil {α : Type _} {L : List α} : ∀ q ∈ ([] : List α), q ∈ L := fun _ h => absurd h List.not_mem_nil
theorem sub_cons {α : Type _} {a : α} {L L' : List α} (h : a ∈ L) (k : ∀ q ∈ L', q ∈ L) : ∀ q ∈ a :: L', q ∈ L := fun q hq => (List.mem_cons.mp hq).elim (fun e => by rw [e]; exact h) (k q)
theorem Hv.sub {L' : List (Addr × HO)} {Z' : List (Hp → Prop)} (B : Hv X H M L Z G) (h : ∀ q ∈ L', q ∈ L) (k : ∀ q ∈ Z', q ∈ Z) : Hv X H M L' Z' G := ⟨B.old, B.nt, B.m, fun q hq => B.l q (h q hq), B.nd, fun q hq r hr => B.ml q hq r (h r hr), fun P hP => B.z P (k P hP)⟩
/-- the heap by a letter -/
@[elab_as_elim] theorem Hv.gen {motive : Hp → Prop} (B : Hv X H M L Z G) (k : ∀ G', Hv X H M L Z G' → motive G') : motive G := k G B
end
/-- tuple(xs) -/
abbrev rTupOf (K : PySem.W.Frag) : List V → Hp → VK → Prop := fun xs H Q => ∃ p ys, xs = [.ref p] ∧ ((SqL K H p ys ∧ ∀ l, H l = none → Q (.ref l) (upd H l (.tup ys))) ∨ (SqT K H p ys ∧ Q (.ref p) H))
section
variable {K : PySem.W.Frag} {H : Hp} {p : Addr} {ys : List V} {Q : VK}
theorem rd_tupL (h : SqL K H p ys) (q : ∀ l, H l = none → Q (.ref l) (upd H l (.tup ys))) : rTupOf K [.ref p] H Q := ⟨p, ys, rfl, .inl ⟨h, q⟩⟩
theorem rd_tupT (h : SqT K H p ys) (q : Q (.ref p) H) : rTupOf K [.ref p] H Q := ⟨p, ys, rfl, .inr ⟨h, q⟩⟩
end
end L2
namespace L2
open PySem PySem.Spec PyProof.Rows
/-! ### comprehensions over a tuple of ints -/
section
variable {σ : St} {H : Hp} {Q : VK} {K : PySem.W.Frag} {te : TE} {tt : TT}
theorem rd_extend {l b : Addr} {xs zs : List V} (h : H l = some (.lst xs)) (k : H b = some (.lst zs)) (z : xs.length + zs.length ≤ sizeLine) (q : Q .non (upd H l (.lst (xs ++ zs)))) : rExtend (.ref l) [.ref b] H Q := ⟨l, b, xs, zs, rfl, rfl, h, k, z, q⟩
instance st_m1 {r : V → List V → Hp → VK → Prop} {ta tb : TE} : Stp (tM1 r ta tb σ H Q) (ta σ H fun x H1 => (∃ a, x = .str a) ∧ tb σ H1 fun y H2 => r x [y] H2 Q) := ⟨fun h => h⟩
/-! ### ranges with a step -/
def rRng3 (S : It → Hp → Prop) : List V → Hp → Prop := fun vs H1 => ∃ (i j c : Int) (n : Nat), vs = [.int i, .int j, .int c] ∧ RgC i j c n ∧ S (Itc i c n) H1
instance st_iRng3 {ta : TA} {S : It → Hp → Prop} : Stp (iRng3 ta σ H S) (ta σ H (rRng3 S)) := ⟨fun h => h⟩
theorem rd_r3 {S : It → Hp → Prop} {i j c : Int} {n : Nat} (h : RgC i j c n) (q : S (Itc i c n) H) : rRng3 S [.int i, .int j, .int c] H := ⟨i, j, c, n, rfl, h, q⟩
end
end L2
namespace L2
open PySem PySem.Spec PyProof.Rows
section
variable {K : PySem.W.Frag} {σ : St} {H : Hp} {Q : VK} {tt : TT} {te : TE}
/-- a comprehension over a list; each turn makes new things, of which something is known -/
theorem rd_lcPH {a : Addr} {xs : List V} {g : TG} {vs : List Nat} (P : Addr → Nat → List V → Hp → Prop) (hS : SqL K H a xs) (nt : NoT H) (h0 : ∀ D, H D = none → P D 0 [] (upd H D (.lst [])))
    (hs : ∀ D i ys x H', xs[i]? = some x → Same H H' → NoT H' → H D = none → H' D = some (.lst ys) → P D i ys H' → g x (wipe σ vs) H' fun σ2 H2 => wipe σ2 vs = wipe σ vs ∧ tt σ2 H2 fun b H3 =>
      if b = true then te σ2 H3 (fun y H4 => ∃ acc, H4 D = some (.lst acc) ∧ acc.length < sizeLine ∧ ∃ ys, upd H4 D (.lst (acc ++ [y])) D = some (.lst ys) ∧ Same H (upd H4 D (.lst (acc ++ [y]))) ∧ NoT (upd H4 D (.lst (acc ++ [y]))) ∧ P D (i + 1) ys (upd H4 D (.lst (acc ++ [y]))))
      else ∃ ys, H3 D = some (.lst ys) ∧ Same H H3 ∧ NoT H3 ∧ P D (i + 1) ys H3)
    (q : ∀ D ys H', H D = none → H' D = some (.lst ys) → Same H H' → NoT H' → P D xs.length ys H' → Q (.ref D) H') : lcB (Itl K a) g tt te vs σ Q H := by
  intro D hD
  refine lc_it (walk_list (K := K) (a := a) (xs := xs)) (fun i H' => ∃ ys, H' D = some (.lst ys) ∧ Same H H' ∧ NoT H' ∧ P D i ys H') ⟨[], upd_same, same_new hD, NoT.upd nt rfl, h0 D hD⟩ (fun i H' _ ⟨ys, _, s, _⟩ => s.seq hS) ?_ (fun H' ⟨ys, h1, s, n, p⟩ => q D ys H' hD h1 s n p)
  rintro i x H' H'' hi ⟨ys, h1, s, n, p⟩ ⟨rfl, hx⟩
  exact hs D i ys x _ hx s n hD h1 p
theorem put_PH {P : List V → Hp → Prop} {D : Addr} {H H4 : Hp} {acc : List V} {y : V} (h : H4 D = some (.lst acc)) (hl : acc.length < sizeLine) (sm : Same H H4) (hD : H D = none) (n : NoT H4) (p : P (acc ++ [y]) (upd H4 D (.lst (acc ++ [y])))) :
    ∃ acc, H4 D = some (.lst acc) ∧ acc.length < sizeLine ∧ ∃ ys, upd H4 D (.lst (acc ++ [y])) D = some (.lst ys) ∧ Same H (upd H4 D (.lst (acc ++ [y]))) ∧ NoT (upd H4 D (.lst (acc ++ [y]))) ∧ P ys (upd H4 D (.lst (acc ++ [y]))) :=
  ⟨acc, h, hl, _, upd_same, same_upd2 sm hD, NoT.upd n rfl, p⟩
end
end L2
/-! ### defs with a star parameter -/
namespace L2
open PySem PySem.Spec PyProof.Rows
/-- what the top has of a def that binds its arguments in its own way -/
structure DefAtR (K : PySem.W.Frag) (mg : PySem.Str → Option Value) (x : PySem.Str) (st : Stmt) : Prop where
  ex : ∃ (f : Addr) (fd : FuncData), Fun K x x st f fd ∧ mg x = some (.ref f)
/-- a def by its positional promise -/
structure DefR (P : Program) (w : World) (K : PySem.W.Frag) (mg : PySem.Str → Option Value) (base : Heap) (k : Nat) (x : PySem.Str) (sp : Sp) : Prop where
  ex : ∃ f : Addr, FnR P w K mg base (L2.CX P w) k f sp ∧ mg x = some (.ref f) ∧ PySem.W.keepIn K (.ref f) = true
section
variable {P : Program} {w : World} {K : PySem.W.Frag} {mg : PySem.Str → Option Value} {base : Heap}
theorem DefR.imp {k : Nat} {x : PySem.Str} {sp sp' : Sp} (D : DefR P w K mg base k x sp) (h : ∀ vs H Q E, sp' vs H Q E → sp vs H Q E) : DefR P w K mg base k x sp' := by
  obtain ⟨f, F, a, b⟩ := D.ex
  exact ⟨f, F.imp h, a, b⟩
/-- a star parameter behind the plain ones -/
theorem DefAtR.okStar {x pv : PySem.Str} {st : Stmt} {N ps : List PySem.Str} {k : Nat} {sp : Sp} (D : DefAtR K mg x st) (S : FnScope N (ps ++ [pv]) (defScope st))
    (binds : ∀ (kV doc pm cdv ct : Value) (an : Option Addr) (us rest : List Value), us.length = ps.length → bindArgs (PySem.W.fnOf x x (defArgs st) (defBody st) (defScope st) .none kV doc pm an cdv ct) ⟨us ++ rest, []⟩ = (newTuple rest >>= fun t => pure (ps.zip us ++ [(pv, t)])))
    (hbody : ∀ (f : Addr) (cdv : Value) (A : Around) (outer : List Env) (s : Shared) (H : Hp) (vs : List V) (Q : VK) (E : XK), Room k (A.deeper (envOfC x (defScope st) s.heap.objs.size f cdv)) → sp vs H Q E →
      ∃ t, PSs (cxOf (L2.CX P w) P w K mg base N x (defScope st) f cdv A outer s H E) (defBody st) t ∧ t ⟨fun _ H' => Q .non H', Q, fun _ _ => False, fun _ _ => False⟩ (start N vs) H) :
    DefR P w K mg base (k + 1) x (fun vs H Q E => ∃ ws rest, vs = ws ++ rest ∧ ws.length = ps.length ∧ rest.length ≤ sizeLine ∧ ∀ p, H p = none → sp (ws ++ [V.ref p]) (upd H p (.tup rest)) Q E) := by
  obtain ⟨f, fd, F, g⟩ := D.ex
  have kp := F.kp
  obtain ⟨c0, d0, kV, doc, pm, an, cdv, ct, sl, rfl, lk, hcd⟩ := F.ex
  exact ⟨f, StX.fn_star lk hcd S StX.cxUp (binds kV doc pm cdv ct an) fun A outer s H vs Q E hr h => hbody f cdv A outer s H vs Q E hr h, g, kp⟩
end
section
variable {X : Cx}
theorem pe_dR {k : Nat} {x : PySem.Str} {sp : Sp} {E : XK} {p pos : Pos} {e : Expr} {es : List Expr} {t : TA} (D : DefR X.prog X.w X.K X.mg X.base k x sp) (hr : Room k X.A) (hx : Passes (L2.CX X.prog X.w) X E) (ha : PA X (e :: es) t) (hg : Gl X x := by rfl)
    (hd : (x == ("__debug__" : PySem.Str)) = false := by decide) (he : starEach (e :: es) X.env = (false, eval e X.env) :: starEach es X.env := by rfl) (hpl : (backTo pos (starEach es X.env)).any (·.1) = false := by rfl) :
    PE X (.Call (.Name x p) (e :: es) [] pos) (tCall sp [] E t) := by
  obtain ⟨f, F, g, kp⟩ := D.ex
  refine ⟨fun pins s σ H Q I h => ?_⟩
  refine wpAny_Call_Name_kw (ld_glob I hg g ?_ hd)
  refine PySem.W.callWith_K (h₀ := X.base) I.ok.mod.kin kp (thn (ha.run pos pins s σ H _ I h) fun us s1 ⟨vs, H1, I1, rv, promise⟩ => ⟨I1.kIn, ?_⟩) he hpl
  replace promise : sp (vs ++ []) H1 Q E := promise
  rw [List.append_nil] at promise
  exact wpAny_call (run_fnR F hr hx I1 rv promise)
end
/-! ### comprehensions with two fors -/
/-- the inner for -/
def lc2I (J1 : It) (g1 : TG) (tt1 : TT) (te : TE) (vs1 : List Nat) (D : Addr) (Nx : Hp → Prop) (σ2 : St) (H4 : Hp) : Prop := ∃ W1 : Nat → Nat → Hp → Prop, (∃ m, W1 0 m H4) ∧ ∀ j k H, W1 j k H →
      (J1.stop j H ∧ Nx H) ∨ (J1.go j H ∧ ∃ Nx1 : Hp → Prop, (∀ H', Nx1 H' → ∃ k', k' < k ∧ W1 (j + 1) k' H') ∧ ∀ x H', J1.yld j H x H' → g1 x (wipe σ2 vs1) H' fun σ3 H5 => wipe σ3 vs1 = wipe σ2 vs1 ∧ tt1 σ3 H5 fun b H6 =>
        if b = true then te σ3 H6 fun y H7 => ∃ acc, H7 D = some (.lst acc) ∧ acc.length < sizeLine ∧ Nx1 (upd H7 D (.lst (acc ++ [y]))) else Nx1 H6)
def lc2B (J : It) (g : TG) (tt : TT) (wi1 : TI) (g1 : TG) (tt1 : TT) (te : TE) (vs vs1 : List Nat) (σ : St) (Q : VK) (H1 : Hp) : Prop := ∀ D, H1 D = none → ∃ W : Nat → Nat → Hp → Prop, (∃ m, W 0 m (upd H1 D (.lst []))) ∧ ∀ i m H, W i m H →
  (J.stop i H ∧ Q (.ref D) H) ∨ (J.go i H ∧ ∃ Nx : Hp → Prop, (∀ H', Nx H' → ∃ m', m' < m ∧ W (i + 1) m' H') ∧ ∀ x H', J.yld i H x H' → g x (wipe σ vs) H' fun σ2 H2 => wipe σ2 vs = wipe σ vs ∧ tt σ2 H2 fun b H3 =>
    if b = true then wi1 σ2 H3 fun J1 H4 => lc2I J1 g1 tt1 te vs1 D Nx σ2 H4 else Nx H3)
instance st_lc2 {wi : TI} {g : TG} {tt : TT} {wi1 : TI} {g1 : TG} {tt1 : TT} {te : TE} {vs vs1 : List Nat} {σ : St} {H : Hp} {Q : VK} : Stp (tLc2 wi g tt wi1 g1 tt1 te vs vs1 σ H Q) (wi σ H fun J H1 => lc2B J g tt wi1 g1 tt1 te vs vs1 σ Q H1) := ⟨fun h => h⟩
section
variable {K : PySem.W.Frag} {σ : St} {H : Hp} {Q : VK} {tt tt1 : TT} {te : TE} {g g1 : TG} {wi1 : TI} {vs vs1 : List Nat}
theorem rd_lc2I {D t : Addr} {us : List V} {Nx : Hp → Prop} {σ2 : St} {H4 : Hp} (I : Nat → Hp → Prop) (h0 : I 0 H4) (hT : ∀ j H5, I j H5 → SqT K H5 t us)
    (hs : ∀ j u H5, us[j]? = some u → I j H5 → g1 u (wipe σ2 vs1) H5 fun σ3 H6 => wipe σ3 vs1 = wipe σ2 vs1 ∧ tt1 σ3 H6 fun b H7 => if b = true then te σ3 H7 (fun y H8 => ∃ acc, H8 D = some (.lst acc) ∧ acc.length < sizeLine ∧ I (j + 1) (upd H8 D (.lst (acc ++ [y])))) else I (j + 1) H7)
    (q : ∀ H5, I us.length H5 → Nx H5) : lc2I (Itt K t) g1 tt1 te vs1 D Nx σ2 H4 := by
  refine ⟨fun j k H' => k = us.length - j ∧ j ≤ us.length ∧ I j H', ⟨_, rfl, Nat.zero_le _, h0⟩, ?_⟩
  rintro j k H' ⟨rfl, hj, hI⟩
  have hS := hT j H' hI
  by_cases hlt : j < us.length
  · have hx : us[j]? = some us[j] := by simp [hlt]
    refine .inr ⟨⟨_, _, hS, hx⟩, fun H' => I (j + 1) H', fun H' p' => ⟨us.length - (j + 1), by omega, rfl, hlt, p'⟩, fun x H'' y => ?_⟩
    obtain ⟨e, y⟩ := y
    subst e
    have ex : x = us[j] := Option.some.inj ((y _ hS).symm.trans hx)
    subst ex
    exact hs j _ _ hx hI
  · have e : j = us.length := by omega
    subst e
    exact .inl ⟨⟨_, hS, Nat.le_refl _⟩, q _ hI⟩
theorem rd_lc2L {a : Addr} {xs : List V} (P : Addr → Nat → List V → Hp → Prop) (hS : SqL K H a xs) (nt : NoT H) (h0 : ∀ D, H D = none → P D 0 [] (upd H D (.lst [])))
    (hs : ∀ D i ys x H', xs[i]? = some x → Same H H' → NoT H' → H D = none → H' D = some (.lst ys) → P D i ys H' → g x (wipe σ vs) H' fun σ2 H2 => wipe σ2 vs = wipe σ vs ∧ tt σ2 H2 fun b H3 =>
      if b = true then wi1 σ2 H3 fun J1 H4 => lc2I J1 g1 tt1 te vs1 D (fun H5 => ∃ ys, H5 D = some (.lst ys) ∧ Same H H5 ∧ NoT H5 ∧ P D (i + 1) ys H5) σ2 H4 else ∃ ys, H3 D = some (.lst ys) ∧ Same H H3 ∧ NoT H3 ∧ P D (i + 1) ys H3)
    (q : ∀ D ys H', H D = none → H' D = some (.lst ys) → Same H H' → NoT H' → P D xs.length ys H' → Q (.ref D) H') : lc2B (Itl K a) g tt wi1 g1 tt1 te vs vs1 σ Q H := by
  intro D hD
  refine ⟨fun i m H' => m = xs.length - i ∧ i ≤ xs.length ∧ ∃ ys, H' D = some (.lst ys) ∧ Same H H' ∧ NoT H' ∧ P D i ys H', ⟨_, rfl, Nat.zero_le _, [], upd_same, same_new hD, NoT.upd nt rfl, h0 D hD⟩, ?_⟩
  rintro i m H' ⟨rfl, hi, ys, h1, s, n, p⟩
  have hS' : SqL K H' a xs := s.seq hS
  by_cases hlt : i < xs.length
  · have hx : xs[i]? = some xs[i] := by simp [hlt]
    refine .inr ⟨⟨_, _, hS', hx⟩, fun H5 => ∃ ys, H5 D = some (.lst ys) ∧ Same H H5 ∧ NoT H5 ∧ P D (i + 1) ys H5, fun H5 p' => ⟨xs.length - (i + 1), by omega, rfl, hlt, p'⟩, fun x H'' y => ?_⟩
    obtain ⟨e, y⟩ := y
    subst e
    have ex : x = xs[i] := Option.some.inj ((y _ hS').symm.trans hx)
    subst ex
    exact hs D i ys _ _ hx s n hD h1 p
  · have e : i = xs.length := by omega
    subst e
    exact .inl ⟨⟨_, hS', Nat.le_refl _⟩, q D ys _ hD h1 s n p⟩
end
end L2
/-! ### sorted(xs) of lists of ints -/
namespace L2
open PySem PySem.Spec PyProof.Rows
def encZ (b : List Int) : PyData := .list (b.map PyData.int)
/-- addresses and the lists of ints that lie there -/
def EachZ (H : Hp) : List Addr → List (List Int) → Prop
  | [], [] => True
  | a :: as, r :: rs => H a = some (.lst (r.map V.int)) ∧ EachZ H as rs
  | _, _ => False
def sortZ (bs : List (List Int)) : List (List Int) := bs.mergeSort (PySem.W.dataLe false encZ)
def rSortedZ (K : PySem.W.Frag) : List V → Hp → VK → Prop := fun vs H Q => ∃ (a : Addr) (as : List Addr) (bs : List (List Int)), vs = [.ref a] ∧ SqL K H a (as.map V.ref) ∧ EachZ H as bs ∧ (∀ b ∈ bs, b.length ≤ 100) ∧ ∀ (as' : List Addr) p, EachZ H as' (sortZ bs) → (∀ b ∈ as', b ∈ as) → H p = none → Q (.ref p) (upd H p (.lst (as'.map V.ref)))
theorem dpAllI {K : PySem.W.Frag} {H : Hp} : ∀ ns : List Int, DpAll K H (ns.map V.int) (ns.map PyData.int)
  | [] => .nil
  | n :: ns => .cons (.int n) (dpAllI ns)
section
variable {X : Cx}
theorem eachZ_vals {pins : List (Addr × Obj)} {s : Shared} {σ : St} {H : Hp} (I : Inv X pins σ H s) : ∀ {as : List Addr} {bs : List (List Int)}, EachZ H as bs → PySem.W.EachIs (fun v b => ∃ a, v = Value.ref a ∧ a ∈ as ∧ H a = some (.lst (b.map V.int))) (as.map Value.ref) bs ∧ PySem.W.EachIs (fun v b => ∃ ws, Reads s.heap v (encZ b) ws) (as.map Value.ref) bs
  | [], [], _ => ⟨.nil, .nil⟩
  | a :: as, b :: bs, h => by
    obtain ⟨e1, e2⟩ := eachZ_vals I (as := as) (bs := bs) h.2
    refine ⟨.cons ⟨a, rfl, List.mem_cons_self, h.1⟩ (PySem.W.EachIs.mono (fun v b ⟨x, e, m, k⟩ => ⟨x, e, List.mem_cons_of_mem _ m, k⟩) e1), .cons ?_ e2⟩
    exact Dp.reads I (encZ b) (.ref a) (.ref a) (.lst (SqL.of h.1) (dpAllI b)) rfl
  | [], _ :: _, h => h.elim
  | _ :: _, [], h => h.elim
theorem vals_refs : ∀ {as : List Addr} {us : List Value}, Vals (as.map V.ref) us → us = as.map Value.ref
  | [], _, h => by cases h; rfl
  | a :: as, _, h => by
    cases h with
    | cons r t =>
      rename_i u us
      have e : u = Value.ref a := r
      rw [vals_refs t, e]
      rfl
theorem refs_valsZ : ∀ as : List Addr, Vals (as.map V.ref) (as.map Value.ref)
  | [] => .nil
  | _ :: as => .cons rfl (refs_valsZ as)
theorem eachZ_out {H : Hp} {as : List Addr} : ∀ {out : List Value} {bs : List (List Int)}, PySem.W.EachIs (fun v b => ∃ a, v = Value.ref a ∧ a ∈ as ∧ H a = some (.lst (b.map V.int))) out bs → ∃ as', out = as'.map Value.ref ∧ EachZ H as' bs ∧ ∀ b ∈ as', b ∈ as
  | _, _, .nil => ⟨[], rfl, trivial, fun _ h => absurd h List.not_mem_nil⟩
  | _, _, .cons ⟨a, e, m, k⟩ t => by
    obtain ⟨as', e2, z, n⟩ := eachZ_out t
    exact ⟨a :: as', by rw [e, e2]; rfl, ⟨k, z⟩, fun b hb => (List.mem_cons.mp hb).elim (fun q => q ▸ m) (n b)⟩
theorem encZ_depth (b : List Int) : (encZ b).depth ≤ 2 := by
  have go : ∀ ns : List Int, PyData.depthAll (ns.map PyData.int) ≤ 1 := fun ns => by
    induction ns with
    | nil => simp [PyData.depthAll]
    | cons n ns ih => simp only [List.map_cons, PyData.depthAll, PyData.depth]; omega
  have := go b
  simp only [encZ, PyData.depth]
  omega
theorem alikeZ (bs : List (List Int)) : PySem.W.AllAlike (bs.map encZ) := PySem.W.AllAlike.of fun b c => by
  have := PySem.W.alike_ints b c
  simpa [encZ, PySem.W.alike] using this
theorem cr_sortedZ (hu : X.A.units + 65 < cLine) : CallR X (.builtin "sorted") (rSortedZ X.K) := by
  intro pins s σ H vs us Q I r h
  obtain ⟨a, as, bs, rfl, hs, hz, hb, q⟩ := h
  obtain ⟨its, rv, hl, hzz⟩ := I.list hs
  obtain ⟨u, rfl, ru⟩ := vals1 r
  obtain rfl : u = Value.ref a := ru
  have ei := vals_refs rv
  subst ei
  obtain ⟨e1, e2⟩ := eachZ_vals I hz
  have ln := e1.length
  refine PySem.W.sorted_data (R := fun v b => ∃ x, v = Value.ref x ∧ x ∈ as ∧ H x = some (.lst (b.map V.int))) (enc := encZ) (bs := bs) hl.isList e1 e2 (alikeZ bs) (.inr fun d hd => ?_) (by rw [← ln, List.length_map, ← List.length_map (f := V.ref)]; exact hzz) (fun b _ => by have := encZ_depth b; omega) fun out ol eo => ?_
  · obtain ⟨b, _, rfl⟩ := List.mem_map.mp hd
    exact ⟨(fun z => by cases z), fun xs z => by cases z⟩
  · obtain ⟨as', eo', z, mm⟩ := eachZ_out eo
    subst eo'
    obtain ⟨ep, he'⟩ := PyProof.Rows.sortedAll_at s.heap (as.map Value.ref) (as'.map Value.ref).toArray
    refine ⟨.ref _, upd H (s.heap.objs.size + 1) (.lst (as'.map V.ref)), I.laid (t' := s.toks) (fun _ _ => PyProof.Rows.sortedAll_old) (Nat.le_succ _) ⟨?_, as'.map Value.ref, ep, refs_valsZ as', he'⟩, rfl, q as' _ z mm (I.hok.fresh (Nat.le_succ _))⟩
    rw [List.length_map, ← List.length_map (f := Value.ref), ol, ← ln, List.length_map, ← List.length_map (f := V.ref)]
    exact hzz
end
theorem rd_sortZ {K : PySem.W.Frag} {H : Hp} {Q : VK} {a : Addr} {as : List Addr} {bs : List (List Int)} (h : SqL K H a (as.map V.ref)) (z : EachZ H as bs) (l : ∀ b ∈ bs, b.length ≤ 100) (q : ∀ (as' : List Addr) p, EachZ H as' (sortZ bs) → (∀ b ∈ as', b ∈ as) → H p = none → Q (.ref p) (upd H p (.lst (as'.map V.ref)))) : rSortedZ K [.ref a] H Q := ⟨a, as, bs, rfl, h, z, l, q⟩
theorem sortZ_le : (PySem.W.dataLe false encZ) = fun p q : List Int => decide (p ≤ q) := PySem.W.dataLe_rows (β := List Int) id
theorem sortZ_of {bs T : List (List Int)} (p : bs.Perm T) (s : T.Pairwise (· ≤ ·)) : sortZ bs = T := by
  have tr : ∀ a b c : List Int, decide (a ≤ b) = true → decide (b ≤ c) = true → decide (a ≤ c) = true := fun a b c h k => decide_eq_true (List.le_trans (of_decide_eq_true h) (of_decide_eq_true k))
  have to : ∀ a b : List Int, (decide (a ≤ b) || decide (b ≤ a)) = true := fun a b => by
    rcases List.le_total a b with h | h <;> simp [h]
  have q : (sortZ bs).Pairwise (· ≤ ·) := by
    unfold sortZ
    rw [sortZ_le]
    exact (List.pairwise_mergeSort tr to bs).imp fun h => of_decide_eq_true h
  have pm : (sortZ bs).Perm T := (List.mergeSort_perm bs _).trans p
  exact List.Perm.eq_of_pairwise (fun a b _ _ h k => List.le_antisymm h k) q s pm
end L2
/-! ### list(zip(xs, ys)) of two lists -/
namespace PySem.F
theorem zip_no_len : typeLookup (.type "zip") "__len__" = pure none := PySem.am_miss_of_fast (by decide +kernel)
theorem zip_no_hint : typeLookup (.type "zip") "__length_hint__" = pure none := PySem.am_miss_of_fast (by decide +kernel)
end PySem.F
namespace L2
open PySem PySem.Spec PyProof.Rows
/-- pairs in tuples -/
def PairsL (H : Hp) : List Addr → List (V × V) → Prop
  | [], [] => True
  | t :: ts, q :: qs => H t = some (.tup [q.1, q.2]) ∧ PairsL H ts qs
  | _, _ => False
theorem PairsL.but {S : Addr} {H G : Hp} (b : ∀ c o, c ≠ S → H c = some o → G c = some o) : ∀ {ts : List Addr} {qs : List (V × V)}, PairsL H ts qs → (∀ t ∈ ts, t ≠ S) → PairsL G ts qs
  | [], [], _, _ => trivial
  | t :: _, _ :: _, h, n => ⟨b _ _ (n t List.mem_cons_self) h.1, PairsL.but b h.2 fun x hx => n x (List.mem_cons_of_mem _ hx)⟩
theorem PairsL.snoc {H : Hp} : ∀ {ts : List Addr} {qs : List (V × V)} {t : Addr} {q : V × V}, PairsL H ts qs → H t = some (.tup [q.1, q.2]) → PairsL H (ts ++ [t]) (qs ++ [q])
  | [], [], _, _, _, k => ⟨k, trivial⟩
  | _ :: _, _ :: _, _, _, h, k => ⟨h.1, PairsL.snoc h.2 k⟩
/-- the zip's own objects, the lists' place i -/
def ZipSt (h : Heap) (z TI TO i1 i2 a b S : Addr) (i : Nat) : Prop := IsPair h TI (.ref i1) (.ref i2) ∧ h.IsListIter i1 a i ∧ h.IsListIter i2 b i ∧ (∃ o, h.get? TO = some o) ∧
  ((IsZip h z TI TO .none ∧ ∃ u v, IsPair h TO u v) ∨ ∃ T f oT, IsZipHeld h z TI TO T f ∧ h.get? T = some oT ∧ T ≠ z ∧ T ≠ i1 ∧ T ≠ i2 ∧ T ≠ S)
theorem ZipSt.keep {h h' : Heap} {z TI TO i1 i2 a b S : Addr} {i : Nat} (st : ZipSt h z TI TO i1 i2 a b S i) (nz : S ∉ [z, TI, TO, i1, i2]) (k : ∀ c o, c ≠ S → h.get? c = some o → h'.get? c = some o) : ZipSt h' z TI TO i1 i2 a b S i := by
  simp only [List.mem_cons, List.not_mem_nil, or_false, not_or] at nz
  obtain ⟨n1, n2, n3, n4, n5⟩ := nz
  obtain ⟨hTI, h1, h2, ⟨oo, eo⟩, hz⟩ := st
  refine ⟨k _ _ (Ne.symm n2) hTI, h1.at fun o e => k _ o (Ne.symm n4) e, h2.at fun o e => k _ o (Ne.symm n5) e, ⟨oo, k _ _ (Ne.symm n3) eo⟩, ?_⟩
  rcases hz with ⟨hz, u, v, hTO⟩ | ⟨T, f, oT, hz, hT, r1, r2, r3, r4⟩
  · exact .inl ⟨k _ _ (Ne.symm n1) hz, u, v, k _ _ (Ne.symm n3) hTO⟩
  · exact .inr ⟨T, f, oT, k _ _ (Ne.symm n1) hz, k _ _ r4 hT, r1, r2, r3, r4⟩
section
variable {X : Cx}
theorem zip_loop {pins : List (Addr × Obj)} {σ : St} {z TI TO i1 i2 a b S : Addr} (D : ZipApart z TI TO i1 i2 a b) (nz : S ∉ [z, TI, TO, i1, i2]) {xs ys : List V} {n : Nat} (hn : n = min xs.length ys.length) (nl : n ≤ 100000) {A : Around} (hh : A.in1.handled = none) {R : Result → Shared → Prop} {res : Value} :
    ∀ (k i : Nat) (s : Shared) (H : Hp) (Ts : List Addr), n - i = k → i ≤ n → Inv X pins σ H s → (∀ G, (∀ c o, c ≠ S → H c = some o → G c = some o) → SqL X.K G a xs ∧ SqL X.K G b ys) → H S = some (.lst (Ts.map V.ref)) → (∀ t ∈ Ts, t ≠ S) → PairsL H Ts ((xs.zip ys).take i) →
      ZipSt s.heap z TI TO i1 i2 a b S i → (∀ c ∈ [z, TI, TO, i1, i2], FpOk X pins H c) →
      (∀ (s' : Shared) (H' : Hp) (Ts' : List Addr), Inv X pins σ H' s' → (∀ c o, c ≠ S → H c = some o → H' c = some o) → (NoT H → NoT H') → H' S = some (.lst (Ts'.map V.ref)) → PairsL H' Ts' (xs.zip ys) → (∀ t ∈ Ts', t ≠ S) → (∀ t ∈ Ts', t ∈ Ts ∨ H t = none) → R (.ok (.ret res)) s') →
      codeAny (model X.prog X.w) A (.builtin "list.extend.loop" ⟨[.ref S, .ref z, res], []⟩) R s := by
  intro k
  induction k with
  | zero =>
    intro i s H Ts hk hi I hq hS nS pr st fp hR
    have hin : i = n := by omega
    subst hin
    obtain ⟨hqx, hqy⟩ := hq H fun _ _ _ e => e
    obtain ⟨its, rv, p, _⟩ := I.list hqx
    obtain ⟨its2, rv2, p2, _⟩ := I.list hqy
    have l1 := rv.length
    have l2 := rv2.length
    have he : its.toArray[i]? = none ∨ its2.toArray[i]? = none := by
      rcases Nat.le_total xs.length ys.length with q | q
      · exact .inl (by simp; omega)
      · exact .inr (by simp; omega)
    have ez : (xs.zip ys).take i = xs.zip ys := List.take_of_length_le (by rw [List.length_zip]; omega)
    rw [ez] at pr
    refine codeAny_builtin F.entry_extend_loop ?_
    rw [Around.under_plainId F.plain_extend_loop _]
    show wpAny _ A.in1 (pyNext (.ref z) >>= _) _ _ s
    obtain ⟨hTI, h1, h2, oTO, hz⟩ := st
    have fin : ∀ h', (∀ c o, c ∉ [z, TI, TO, i1, i2] → s.heap.get? c = some o → h'.get? c = some o) → R (.ok (.ret res)) { s with heap := h' } := fun h' kk =>
      hR _ H Ts (I.turnedL (t' := s.toks) (ch := [z, TI, TO, i1, i2]) kk fp) (fun _ _ _ e => e) id hS pr nS fun t ht => .inl ht
    rcases hz with ⟨hz, u, v, hTO⟩ | ⟨T, f, oT, hz, hT, r1, r2, r3, r4⟩
    · refine wpAny_bind (wpAny_pyNext_zip_end hh D hz hTI hTO h1 h2 p.isList p2.isList he fun h' kk => wpAny_pure (fin h' fun c o hb q => ?_))
      exact kk c o (fun q' => hb (by simp [q'])) (fun q' => hb (by simp [q'])) (fun q' => hb (by simp [q'])) (fun q' => hb (by simp [q'])) q
    · refine wpAny_bind (wpAny_pyNext_zip_end_held hh D hz hT hTI h1 h2 p.isList p2.isList he fun h' kk => wpAny_pure (fin h' fun c o hb q => ?_))
      exact kk c o (fun q' => hb (by simp [q'])) (fun q' => hb (by simp [q'])) (fun q' => hb (by simp [q'])) q
  | succ k ih =>
    intro i s H Ts hk hi I hq hS nS pr st fp hR
    have hlt : i < n := by omega
    obtain ⟨hqx, hqy⟩ := hq H fun _ _ _ e => e
    obtain ⟨its, rv, p, _⟩ := I.list hqx
    obtain ⟨its2, rv2, p2, _⟩ := I.list hqy
    have ix : i < xs.length := by omega
    have iy : i < ys.length := by omega
    have hx : xs[i]? = some xs[i] := List.getElem?_eq_getElem ix
    have hy : ys[i]? = some ys[i] := List.getElem?_eq_getElem iy
    generalize xs[i] = x at hx
    generalize ys[i] = y at hy
    obtain ⟨u, hu, ru⟩ := rv.get hx
    obtain ⟨u2, hu2, ru2⟩ := rv2.get hy
    refine codeAny_builtin F.entry_extend_loop ?_
    rw [Around.under_plainId F.plain_extend_loop _]
    show wpAny _ A.in1 (pyNext (.ref z) >>= _) _ _ s
    obtain ⟨hTI, h1, h2, oTO, hz⟩ := st
    have ez : (xs.zip ys).take (i + 1) = (xs.zip ys).take i ++ [(x, y)] := by
      rw [List.take_add_one, List.getElem?_zip_eq_some (z := (x, y)).mpr ⟨hx, hy⟩]
      rfl
    have lTs : Ts.length = i := by
      have go : ∀ {ts : List Addr} {qs : List (V × V)}, PairsL H ts qs → ts.length = qs.length := fun {ts} => by
        induction ts with
        | nil => intro qs h; cases qs with | nil => rfl | cons q qs => exact h.elim
        | cons t ts ih => intro qs h; cases qs with | nil => exact h.elim | cons q qs => simp [ih h.2]
      have := go pr
      rw [List.length_take, List.length_zip] at this
      omega
    -- the turn itself
    have turn : ∀ (h' : Heap) (T : Addr), T = s.heap.objs.size → ZipSt h' z TI TO i1 i2 a b S (i + 1) → IsPair h' T u u2 → (∀ c o, c ∉ [z, TI, TO, i1, i2] → s.heap.get? c = some o → h'.get? c = some o) →
        wpAny (model X.prog X.w) A.in1 (updateSeq S (·.push (.ref T)) >>= fun _ => (again (.builtin "list.extend.loop" ⟨[.ref S, .ref z, res], []⟩))) (fun fin s' => match fin with | .done f => R (.ok f) s' | .again c' => c'.quiet = true ∧ codeAny (model X.prog X.w) A c' R s') (fun e s' => R (.error e) s') { s with heap := h' } := by
      intro h' T eT st' hT kk
      have new : ObjOk X.prog X.w (upd H T (.tup [x, y])) h' T (.tup [x, y]) := ⟨by show 2 ≤ sizeLine; decide, [u, u2], .cons ru (.cons ru2 .nil), ⟨_, hT, rfl, _, rfl⟩⟩
      have I1 : Inv X pins σ (upd H T (.tup [x, y])) { s with heap := h' } := I.turnedNew (t' := s.toks) (ch := [z, TI, TO, i1, i2]) kk fp (by rw [eT]; exact Nat.le_refl _) new
      have fT : H T = none := I.hok.fresh (by rw [eT]; exact Nat.le_refl _)
      have TS : T ≠ S := fun e => by rw [e, hS] at fT; cases fT
      have hS1 : upd H T (.tup [x, y]) S = some (.lst (Ts.map V.ref)) := by rw [upd_ne (Ne.symm TS)]; exact hS
      obtain ⟨zz, it3, n3, r3, l3, e3⟩ := I1.lstM hS1
      rw [List.length_map, lTs] at l3
      have big : 100001 ≤ sizeLine := by decide
      have fits : it3.toArray.size + 1 ≤ sizeLine := by rw [List.size_toArray]; omega
      refine wpAny_bind (wpAny_updateSeq e3 rfl ?_ (Nat.le_of_succ_le fits) (by show (it3.toArray.push _).size ≤ _; rw [Array.size_push]; exact Nat.le_succ_of_le fits))
      have I2 : Inv X pins σ (upd (upd H T (.tup [x, y])) S (.lst ((Ts ++ [T]).map V.ref))) { s with heap := h'.update S (Obj.mapSeq (·.push (.ref T))) } := I1.lset (t' := s.toks) (its' := it3 ++ [.ref T]) hS1 e3 (by simp) (by rw [List.map_append]; exact r3.append (.cons rfl .nil)) (by rw [List.length_map, List.length_append, lTs, List.length_singleton]; omega)
      have kp : ∀ c o, c ≠ S → H c = some o → upd (upd H T (.tup [x, y])) S (.lst ((Ts ++ [T]).map V.ref)) c = some o := fun c o hc e => by
        rw [upd_ne hc, upd_ne (fun q => by rw [q, fT] at e; cases e)]
        exact e
      have nS2 : ∀ t ∈ Ts ++ [T], t ≠ S := fun t ht => by
        rcases List.mem_append.mp ht with q | q
        · exact nS t q
        · rw [List.mem_singleton.mp q]; exact TS
      refine wpAny_pure ⟨plainId_quiet F.plain_extend_loop _, ih (i + 1) _ _ (Ts ++ [T]) (by omega) (by omega) I2 (fun G g => hq G fun c o hc e => g c o hc (kp c o hc e)) upd_same nS2 ?_ (st'.keep nz fun c o hc e => (Heap.get?_update_other _ _ (Ne.symm hc)).trans e) (fun c hc => ?_) fun s' H' Ts' I' g1 g2 g3 g4 g5 g6 => ?_⟩
      · rw [ez]
        refine PairsL.snoc (pr.but kp nS) ?_
        rw [upd_ne TS]
        exact upd_same
      · obtain ⟨f1, f2⟩ := fp c hc
        refine ⟨?_, f2⟩
        have cS : c ≠ S := fun e => nz (e ▸ hc)
        have cT : c ≠ T := fun e => by
          have ex : ∃ o, s.heap.get? c = some o := by
            simp only [List.mem_cons, List.not_mem_nil, or_false] at hc
            have iz : ∃ o, s.heap.get? z = some o := by rcases hz with ⟨q, _⟩ | ⟨_, _, _, q, _⟩ <;> exact ⟨_, q⟩
            rcases hc with q | q | q | q | q
            · rw [q]; exact iz
            · rw [q]; exact ⟨_, hTI⟩
            · rw [q]; exact oTO
            · rw [q]; obtain ⟨_, e1, _⟩ := h1; exact ⟨_, e1⟩
            · rw [q]; obtain ⟨_, e2, _⟩ := h2; exact ⟨_, e2⟩
          obtain ⟨o, ho⟩ := ex
          have := Heap.lt_size ho
          rw [e, eT] at this
          exact Nat.lt_irrefl _ this
        rw [upd_ne cS, upd_ne cT]
        exact f1
      · refine hR s' H' Ts' I' (fun c o hc e => g1 c o hc (kp c o hc e)) (fun nt => g2 (NoT.upd (NoT.upd nt rfl) rfl)) g3 g4 g5 fun t ht => ?_
        rcases g6 t ht with q | q
        · rcases List.mem_append.mp q with q | q
          · exact .inl q
          · rw [List.mem_singleton.mp q]; exact .inr fT
        · refine .inr ?_
          cases e : H t with
          | none => rfl
          | some o =>
            by_cases c : t = S
            · rw [c, upd_same] at q; cases q
            · rw [kp t o c e] at q; cases q
    have ex := hu
    rcases hz with ⟨hz, u0, v0, hTO⟩ | ⟨T, f, oT, hz, hT, r1, r2, r3, r4⟩
    · have lt : ∀ {c o}, s.heap.get? c = some o → s.heap.objs.size ≠ c := fun e => Nat.ne_of_gt (Heap.lt_size e)
      refine wpAny_bind (wpAny_pyNext_zip_item D hz hTI hTO h1 h2 p.isList p2.isList (x := u) (y := u2) (by simpa using hu) (by simpa using hu2) fun h' a1 a2 a3 a4 a5 a6 kk => ?_)
      refine turn h' _ rfl ⟨kk _ _ D.TIz D.TITO D.TIi1 D.TIi2 hTI, a3, a4, ⟨_, a2⟩, .inr ⟨s.heap.objs.size, false, _, a1, a5, lt hz, let ⟨_, e, _⟩ := h1; lt e, let ⟨_, e, _⟩ := h2; lt e, ?_⟩⟩ a5 fun c o hc e => kk c o (fun q => hc (by simp [q])) (fun q => hc (by simp [q])) (fun q => hc (by simp [q])) (fun q => hc (by simp [q])) e
      exact fun e => by
        have := I.hok.fresh (Nat.le_refl s.heap.objs.size)
        rw [e, hS] at this
        cases this
    · refine wpAny_bind (wpAny_pyNext_zip_item_held D hz hT hTI h1 h2 p.isList p2.isList (x := u) (y := u2) (by simpa using hu) (by simpa using hu2) fun h' a1 a3 a4 a5 a6 kk => ?_)
      exact turn h' _ rfl ⟨kk _ _ D.TIz D.TIi1 D.TIi2 hTI, a3, a4, ⟨_, kk _ _ D.TOz D.TOi1 D.TOi2 oTO.choose_spec⟩, .inr ⟨T, true, oT, a1, kk _ _ r1 r2 r3 hT, r1, r2, r3, r4⟩⟩ a5 fun c o hc e => kk c o (fun q => hc (by simp [q])) (fun q => hc (by simp [q])) (fun q => hc (by simp [q])) e
/-- list(zip(a, b)) -/
def rListZip (K : PySem.W.Frag) : List V → Hp → VK → Prop := fun vs H1 Q => ∃ a b xs ys, vs = [.ref a, .ref b] ∧ SqL K H1 a xs ∧ SqL K H1 b ys ∧ xs.length ≤ 100000 ∧
  ∀ (S : Addr) (Ts : List Addr) (H' : Hp), Same H1 H' → (NoT H1 → NoT H') → H1 S = none → H' S = some (.lst (Ts.map V.ref)) → PairsL H' Ts (xs.zip ys) → (∀ t ∈ Ts, t ≠ S ∧ H1 t = none) → Q (.ref S) H'
def tListZip (K : PySem.W.Frag) (ta : TA) : TE := fun σ H Q => ta σ H fun vs H1 => rListZip K vs H1 Q
instance st_listZip {K : PySem.W.Frag} {ta : TA} {σ : St} {H : Hp} {Q : VK} : Stp (tListZip K ta σ H Q) (ta σ H fun vs H1 => rListZip K vs H1 Q) := ⟨fun h => h⟩
theorem rd_listZip {K : PySem.W.Frag} {H : Hp} {Q : VK} {a b : Addr} {xs ys : List V} (h1 : SqL K H a xs) (h2 : SqL K H b ys) (l : xs.length ≤ 100000) (q : ∀ (S : Addr) (Ts : List Addr) (H' : Hp), Same H H' → (NoT H → NoT H') → H S = none → H' S = some (.lst (Ts.map V.ref)) → PairsL H' Ts (xs.zip ys) → (∀ t ∈ Ts, t ≠ S ∧ H t = none) → Q (.ref S) H') : rListZip K [.ref a, .ref b] H Q := ⟨a, b, xs, ys, rfl, h1, h2, l, q⟩
theorem PairsL.at {H : Hp} : ∀ {ts : List Addr} {qs : List (V × V)} {i : Nat} {v : V}, PairsL H ts qs → (ts.map V.ref)[i]? = some v → ∃ t q, v = .ref t ∧ ts[i]? = some t ∧ qs[i]? = some q ∧ H t = some (.tup [q.1, q.2])
  | [], [], i, v, _, h => by simp at h
  | t :: _, q :: _, 0, v, k, h => ⟨t, q, by simpa using h.symm, rfl, rfl, k.1⟩
  | _ :: _, _ :: _, i + 1, v, k, h => PairsL.at (i := i) k.2 (by simpa using h)
theorem PairsL.mono {H G : Hp} (s : Same H G) : ∀ {ts : List Addr} {qs : List (V × V)}, PairsL H ts qs → PairsL G ts qs
  | [], [], _ => trivial
  | _ :: _, _ :: _, h => ⟨s _ _ h.1, PairsL.mono s h.2⟩
theorem PairsL.len {H : Hp} : ∀ {ts : List Addr} {qs : List (V × V)}, PairsL H ts qs → ts.length = qs.length
  | [], [], _ => rfl
  | _ :: _, _ :: _, h => by simp [PairsL.len h.2]
theorem pe_listZip {e e2 : Expr} {ta : TA} {p p2 pos pos2 : Pos} (hc : X.calm = true) (hgL : Gl X "list") (hmL : X.mg "list" = none) (hg : Gl X "zip") (hm : X.mg "zip" = none) (ha : PA X [e, e2] ta)
    (hs : starEach [e, e2] X.env = (false, eval e X.env) :: starEach [e2] X.env := by rfl) (hpl : (backTo pos2 (starEach [e2] X.env)).any (·.1) = false := by rfl)
    (na : starEach [.Call (.Name "zip" p2) [e, e2] [] pos2] X.env = (false, eval (.Call (.Name "zip" p2) [e, e2] [] pos2) X.env) :: starEach [] X.env := by rfl) :
    PE X (.Call (.Name "list" p) [.Call (.Name "zip" p2) [e, e2] [] pos2] [] pos) (tListZip X.K ta) := by
  refine ⟨fun pins s σ H Q I h => ?_⟩
  refine Call_ (ld_blt I hgL hmL boot_list (PyProof.Rows.callWith_type1 (args_cons ?_ na) na))
  refine Call_ (ld_blt I hg hm PyProof.Rows.boot_zip (PyProof.Rows.callWith_type1 (thn (ha.run pos2 pins s σ H _ I h) fun us s1 ⟨vs, H1, I1, r1, q1⟩ => ?_) hs hpl))
  obtain ⟨a, b, xs, ys, ex, hqx, hqy, lx, q⟩ := q1
  subst ex
  cases r1 with
  | cons r rr =>
  cases rr with
  | cons r' rr =>
  cases rr
  cases r
  cases r'
  obtain ⟨its, rv, p1, _⟩ := I1.list hqx
  obtain ⟨its2, rv2, p2', _⟩ := I1.list hqy
  have la : a < s1.heap.objs.size := p1.lt
  have lb : b < s1.heap.objs.size := p2'.lt
  refine call_zip_2 p1.isList p2'.isList fun h' hz hTI hTO h1 h2 hsz hk => args_nil ?_
  have hhd : X.A.handled = none := I1.ok.hd hc
  generalize ez : s1.heap.objs.size + 4 = z at *
  refine callType_codes (Q₁ := fun obj s₁ => obj = .ref h'.objs.size ∧ s₁ = { s1 with heap := h'.push { cls := .type "list", data := .seq #[] } }) F.called_list (F.typeCall_list_1 _) F.entry_list_init
    (code_list_new _ ⟨rfl, rfl⟩) fun obj s₁ h₁ => ?_
  obtain ⟨rfl, rfl⟩ := h₁
  have hS : (h'.push { cls := .type "list", data := .seq #[] }).get? h'.objs.size = some { cls := .type "list", data := .seq #[] } := Heap.get?_push_size _ rfl
  refine ⟨⟨_, hS, rfl⟩, F.args_list_init_2 _ _, ?_⟩
  have hzs : z < h'.objs.size := by omega
  have nz : h'.objs.size ∉ [z, s1.heap.objs.size + 2, s1.heap.objs.size + 3, s1.heap.objs.size, s1.heap.objs.size + 1] := by
    simp only [List.mem_cons, List.not_mem_nil, or_false, not_or]
    omega
  have hSz : h'.objs.size ≠ z := by omega
  show wpAny _ _ (do let old ← Builtin.List.listItems (.ref h'.objs.size); Builtin.List.listUpdate (.ref h'.objs.size) (fun _ => #[]); letGo old.toList.reverse; Builtin.List.listExtendWith (.ref h'.objs.size) (.ref z) .none) _ _ _
  refine wpAny_bind ?_
  unfold Builtin.List.listItems
  refine wpAny_bind (wpAny_seqItems hS rfl (wpAny_pure ?_))
  show wpAny _ _ (updateSeq h'.objs.size (fun _ => #[]) >>= fun _ => letGo (#[] : Array Value).toList.reverse >>= fun _ => Builtin.List.listExtendWith (.ref h'.objs.size) (.ref z) .none) _ _ _
  refine wpAny_bind (wpAny_updateSeq hS rfl ?_)
  have hS₂ := Heap.get?_update_self (Obj.mapSeq (fun _ => (#[] : Array Value))) hS rfl
  have oth : ∀ b o, b ≠ h'.objs.size → h'.get? b = some o → ((h'.push { cls := .type "list", data := .seq #[] }).update h'.objs.size (Obj.mapSeq (fun _ => (#[] : Array Value)))).get? b = some o :=
    fun b o hb e => (Heap.get?_update_other _ _ (Ne.symm hb)).trans (Heap.get?_push_of_some _ e)
  refine wpAny_bind (wpAny_letGo ?_)
  have tyz : ∀ {h2 : Heap}, (∀ b o, b ≠ h'.objs.size → h'.get? b = some o → h2.get? b = some o) → (Shared.TypeIs { s1 with heap := h2 } (.ref z) "zip") := fun kk => ⟨_, kk _ _ (Ne.symm hSz) hz, rfl⟩
  unfold Builtin.List.listExtendWith
  refine wpAny_bind (wpAny_typeOf (T := "zip") (tyz oth) ?_)
  have e1 : Builtin.List.listSameRef (.ref h'.objs.size) (.ref z) = false := by simp [Builtin.List.listSameRef, hSz]
  have e2 : (Value.type "zip" == Value.type "list") = false := by decide
  have e3 : (Value.type "zip" == Value.type "tuple") = false := by decide
  simp only [e1, e2, e3, Bool.or_false, Bool.false_eq_true, if_false]
  refine wpAny_bind (wpAny_pyIter_zip (oth _ _ (Ne.symm hSz) hz) ?_)
  refine wpAny_bind (wpAny_holding ?_)
  unfold Builtin.List.listLengthHint
  refine wpAny_bind (wpAny_specialOf (tyz oth) F.zip_no_len ?_)
  show wpAny _ _ (specialOf (Value.ref z) (Str.ofString "__length_hint__") >>= _) _ _ _
  refine wpAny_bind (wpAny_specialOf (tyz oth) F.zip_no_hint ?_)
  refine wpAny_pure ?_
  show wpAny _ _ (rule "list.extend.makes-room" >>= fun _ => Builtin.List.listTouch (.ref h'.objs.size) >>= fun _ =>
    again (.builtin "list.extend.loop" ⟨[.ref h'.objs.size, .ref z, .none], []⟩)) _ _ _
  refine wpAny_bind (wpAny_rule ?_)
  refine wpAny_bind ?_
  show wpAny _ _ (updateSeq h'.objs.size (·.push .none) >>= fun _ => updateSeq h'.objs.size (·.pop)) _ _ _
  refine wpAny_bind (wpAny_updateSeq hS₂ rfl ?_)
  have hS₃ := Heap.get?_update_self (Obj.mapSeq (·.push Value.none)) hS₂ rfl
  refine wpAny_updateSeq (hz := by seq_fits) hS₃ rfl ?_
  have hS₄ := Heap.get?_update_self (Obj.mapSeq (·.pop)) hS₃ rfl
  have oth4 : ∀ b o, b ≠ h'.objs.size → h'.get? b = some o → ((((h'.push { cls := .type "list", data := .seq #[] }).update h'.objs.size (Obj.mapSeq (fun _ => (#[] : Array Value)))).update h'.objs.size (Obj.mapSeq (·.push Value.none))).update h'.objs.size (Obj.mapSeq (·.pop))).get? b = some o :=
    fun b o hb e => (Heap.get?_update_other _ _ (Ne.symm hb)).trans ((Heap.get?_update_other _ _ (Ne.symm hb)).trans (oth b o hb e))
  have oth5 : ∀ b o, h'.get? b = some o → ((((h'.push { cls := .type "list", data := .seq #[] }).update h'.objs.size (Obj.mapSeq (fun _ => (#[] : Array Value)))).update h'.objs.size (Obj.mapSeq (·.push Value.none))).update h'.objs.size (Obj.mapSeq (·.pop))).get? b = some o :=
    fun b o e => oth4 b o (Nat.ne_of_lt (Heap.lt_size e)) e
  have I2 : Inv X pins σ H1 { s1 with heap := h' } := I1.kept (t' := s1.toks) hk
  have I3 := I2.laid (t' := s1.toks) (a := h'.objs.size) (o := .lst (([] : List Addr).map V.ref)) oth5 (Nat.le_refl _) ⟨Nat.zero_le _, [], _, .nil, hS₄⟩
  have fS : H1 h'.objs.size = none := I2.hok.fresh (Nat.le_refl _)
  refine wpAny_pure ⟨plainId_quiet F.plain_extend_loop _, zip_loop (X := X) (pins := pins) (σ := σ) (xs := xs) (ys := ys) (A := X.A.in1) (S := h'.objs.size) (by rw [← ez]; exact PySem.W.ktu_apart s1.heap.objs.size a b la lb) nz rfl (Nat.le_trans (Nat.min_le_left ..) lx) hhd _ 0 _ _ [] rfl (Nat.zero_le _) I3 (fun G g => ?_) upd_same (fun t h => absurd h List.not_mem_nil) trivial
    ⟨oth5 _ _ hTI, h1.at fun o e => oth5 _ _ e, h2.at fun o e => oth5 _ _ e, ⟨_, oth5 _ _ hTO⟩, .inl ⟨oth5 _ _ hz, _, _, oth5 _ _ hTO⟩⟩ (fun c hc => ?_) fun s' H' Ts' I' g1 g2 g3 g4 g5 g6 => ?_⟩
  · have sm : Same H1 G := fun c o e => g c o (fun q => by rw [q, fS] at e; cases e) (by rw [upd_ne (fun q => by rw [q, fS] at e; cases e)]; exact e)
    exact ⟨sm.seq hqx, sm.seq hqy⟩
  · have lc : s1.heap.objs.size ≤ c ∧ c ≠ h'.objs.size := by
      have hc' : c = z ∨ c = s1.heap.objs.size + 2 ∨ c = s1.heap.objs.size + 3 ∨ c = s1.heap.objs.size ∨ c = s1.heap.objs.size + 1 := by simpa using hc
      refine ⟨?_, fun e => nz (e ▸ hc)⟩
      rcases hc' with e | e | e | e | e <;> rw [e]
      · exact ez ▸ Nat.le_add_right _ _
      · exact Nat.le_add_right _ _
      · exact Nat.le_add_right _ _
      · exact Nat.le_refl _
      · exact Nat.le_add_right _ _
    obtain ⟨f1, f2⟩ := I1.fpOk lc.1 (I1.hok.fresh lc.1)
    exact ⟨by rw [upd_ne lc.2]; exact f1, f2⟩
  · have sm : Same H1 H' := fun c o e => g1 c o (fun q => by rw [q, fS] at e; cases e) (by rw [upd_ne (fun q => by rw [q, fS] at e; cases e)]; exact e)
    refine ⟨rfl, .ref h'.objs.size, H', I', rfl, q _ Ts' H' sm (fun nt => g2 (NoT.upd nt rfl)) fS g3 g4 fun t ht => ⟨g5 t ht, ?_⟩⟩
    rcases g6 t ht with w | w
    · exact absurd w List.not_mem_nil
    · rw [upd_ne (g5 t ht)] at w
      exact w
end
end L2
namespace My
open PySem PySem.Spec PyProof.Rows L2
/-! one step of a reading, by its head -/
local macro_rules | `(tactic| wtm_at "r") => `(tactic| first
  | (with_reducible refine rd_var rfl ?_)
  | (with_reducible refine Stp.mp ?_)
  | (with_reducible first
    | refine rd_I ?_ ?_
    | refine rd_augC rfl ?_
    | refine rd_augG rfl ?_
    | refine rd_r1 ?_ ?_ ?_
    | refine rd_r2 ?_ ?_
    | refine rd_pure ?_ ?_
    | refine rd_pureT ?_ ?_
    | refine rd_back (by assumption) ?_
    | fail)
  | fail)
/-! branch -/
local macro_rules | `(tactic| wtm_at "i") => `(tactic| (with_reducible first
  | refine rd_ite (fun _ => ?_) (fun _ => ?_)
  | refine rd_iteN (fun _ => ?_) (fun _ => ?_)
  | refine rd_iteb (fun _ => ?_) (fun _ => ?_)))
/-! the view of the heap (PreS): membership -/
local macro_rules | `(tactic| wtm_at "mem") => `(tactic| first
  | (with_reducible exact List.mem_cons_self)
  | ((with_reducible refine List.mem_cons_of_mem _ ?_); wtm_at "mem")
  | fail)
local macro_rules | `(tactic| wtm_at "vsub") => `(tactic| first
  | (with_reducible exact sub_nil)
  | ((with_reducible refine sub_cons ?h1 ?h2); (case h1 => wtm_at "mem"); (case h2 => wtm_at "vsub"))
  | fail)
/-! where something stands in the heap; two places differ -/
local macro_rules | `(tactic| wtm_at "ne") => `(tactic| with_reducible first
  | assumption
  | exact Ne.symm (by assumption)
  | exact ne_of_none (by assumption) (by assumption)
  | exact Ne.symm (ne_of_none (by assumption) (by assumption))
  | fail)
local macro_rules | `(tactic| wtm_at "h") => `(tactic| first
  | with_reducible assumption
  | with_reducible exact upd_same
  | ((with_reducible rw [upd_upd]); wtm_at "h")
  | ((with_reducible refine upd_at ?h1 ?h2); (case h1 => wtm_at "h"); (case h2 => intro hh; first | with_reducible exact ne_of_none hh (by assumption) | wtm_at "ne" | fail))
  | (with_reducible exact Hv.mAt (by assumption) (by wtm_at "mem"))
  | (with_reducible exact Hv.lAt (by assumption) (by wtm_at "mem"))
  | (with_reducible exact Hv.oAt (by assumption) (by assumption))
  | (with_reducible exact Hv.oAtX (by assumption) (by assumption) (by wtm_at "ne"))
  | fail)
/-! what was tracked stands -/
local macro_rules | `(tactic| wtm_at "sm") => `(tactic| first
  | with_reducible assumption
  | (with_reducible exact Same.refl _)
  | ((with_reducible refine same_upd3 ?_ (by with_reducible assumption)); wtm_at "sm")
  | ((with_reducible refine same_upd2 ?_ (by with_reducible assumption)); wtm_at "sm")
  | (refine same_upd2 ?_ (by first | with_reducible assumption | (refine Same.free ?_ (by with_reducible assumption); wtm_at "sm") | fail); wtm_at "sm")
  | (refine Same.trans ?_ (by with_reducible assumption); wtm_at "sm")
  | (refine Same.trans (by with_reducible assumption) ?_; wtm_at "sm")
  | (with_reducible exact Hv.same (by assumption))
  | fail)
local macro_rules | `(tactic| wtm_at "q") => `(tactic| first
  | with_reducible assumption
  | ((with_reducible refine SqL.of ?h1); (case h1 => wtm_at "h"))
  | ((with_reducible refine SqT.of ?h1); (case h1 => wtm_at "h"))
  | ((with_reducible refine Same.seq ?_ (by assumption)); wtm_at "sm")
  | ((with_reducible refine Same.seqT ?_ (by assumption)); wtm_at "sm")
  | ((with_reducible refine Same.lst ?_ (by assumption)); wtm_at "sm")
  | assumption
  | fail)
/-! data, read off the heap -/
local macro_rules | `(tactic| wtm_at "dp") => `(tactic| first
  | with_reducible assumption
  | exact Dp.int _
  | exact Dp.bl _
  | exact Dp.str _
  | exact Dp.non
  | exact DpAll.nil
  | (with_reducible exact dpAll_ints _)
  | (with_reducible exact dpAll_bls _)
  | ((with_reducible refine DpAll.cons (d := ?d) (ds := ?ds) ?h1 ?h2); (case h1 => wtm_at "dp"); (case h2 => wtm_at "dp"))
  | ((with_reducible refine Dp.lst (xs := ?xs) (ds := ?ds) ?h1 ?h2); (case h1 => wtm_at "q"); (case h2 => wtm_at "dp"))
  | ((with_reducible refine Dp.tup (xs := ?xs) (ds := ?ds) ?h1 ?h2); (case h1 => wtm_at "q"); (case h2 => wtm_at "dp"))
  | ((with_reducible refine Dp.same ?_ (by assumption)); wtm_at "sm")
  | fail)
/-! no dict with tuple keys -/
local macro_rules | `(tactic| wtm_at "nt") => `(tactic| first
  | with_reducible assumption
  | ((with_reducible refine NoT.upd ?_ rfl); wtm_at "nt")
  | (with_reducible exact Hv.nt (by assumption))
  | fail)
/-! what is asked on the side -/
local macro_rules | `(tactic| wtm_at "s") => `(tactic| first
  | ((with_reducible show NoT _); wtm_at "nt")
  | ((with_reducible show (_ : Int) < _); omega)
  | ((with_reducible show CMulB _ _); assumption)
  | ((with_reducible show CMulB _ _); exact Or.inl (Or.inl ⟨by omega, by omega⟩))
  | ((with_reducible show CMulB _ _); exact Or.inl (Or.inr ⟨by omega, by omega⟩))
  | ((with_reducible show CMulB _ _); exact CMulB.wide ⟨by omega, by omega⟩ ⟨by omega, by omega⟩)
  | ((with_reducible show CDivB _ _); exact ⟨by omega, by omega⟩)
  | ((with_reducible refine rd_powN ?h1 ?h2 ?h3 ?_); (case h1 => rfl); (case h2 => decide); (case h3 => first | decide | omega))
  | ((with_reducible refine rd_setL (xs := ?xs) (j := ?j) ?h1 ?h2 ?_); (case h1 => wtm_at "h"); (case h2 => rfl))
  | ((with_reducible refine rd_ixL (xs := ?xs) (v := ?v) ?h1 ?h2 ?_); (case h1 => wtm_at "q"); (case h2 => rfl))
  | ((with_reducible refine rd_ixT (xs := ?xs) (v := ?v) ?h1 ?h2 ?_); (case h1 => wtm_at "q"); (case h2 => rfl))
  | ((with_reducible show -2 ^ 62 ≤ (_ : Int)); omega)
  | ((with_reducible show (_ : Int) ≤ _); omega)
  | ((with_reducible show (_ : Int) ≤ _ ∧ _); exact ⟨by omega, by omega, by omega, by omega⟩)
  | ((with_reducible refine rd_iL1 (xs := ?xs) ?h1 ?_); (case h1 => wtm_at "q"))
  | ((with_reducible refine rd_iT1 (xs := ?xs) ?h1 ?_); (case h1 => wtm_at "q"))
  | ((with_reducible refine rd_eqD (d := ?d) (e := ?e) ?h1 ?h2 ?h3 ?h4 ?_); (case h1 => wtm_at "dp"); (case h2 => wtm_at "dp"); (case h3 => rfl); (case h4 => rfl))
  | ((with_reducible refine rd_neD (d := ?d) (e := ?e) ?h1 ?h2 ?h3 ?h4 ?_); (case h1 => wtm_at "dp"); (case h2 => wtm_at "dp"); (case h3 => rfl); (case h4 => rfl))
  | ((with_reducible refine rd_xfb (fs := ?fs) (v := ?v) ?h1 ?h2 ?_); (case h1 => wtm_at "h"); (case h2 => rfl))
  | ((with_reducible refine rd_append (xs := ?xs) ?h1 ?h2 ?_); (case h1 => wtm_at "h"); (case h2 => first | assumption | exact Nat.le_of_ble_eq_true rfl | (refine Nat.lt_of_le_of_lt (m := 1000000) ?_ (by decide); omega)))
  | ((with_reducible refine rd_lenL (ys := ?ys) ?h1 ?_); (case h1 => wtm_at "q"))
  | ((with_reducible refine rd_lenT (ys := ?ys) ?h1 ?_); (case h1 => wtm_at "q"))
  | ((with_reducible refine rd_new ?h1 ?_); (case h1 => exact Nat.le_of_ble_eq_true rfl); intro p hp)
  | ((with_reducible refine rd_tyL (xs := ?xs) ?h1 ?_); (case h1 => wtm_at "h"))
  | ((with_reducible refine rd_gtup (xs := ?xs) ?h1 ?h2 ?_); (case h1 => wtm_at "q"); (case h2 => rfl))
  | ((with_reducible refine rd_unl (xs := ?xs) ?h1 ?h2 ?_); (case h1 => wtm_at "q"); (case h2 => rfl))
  | ((with_reducible refine rd_slL (xs := ?xs) ?h1 ?_); (case h1 => wtm_at "q"); intro p hp)
  | ((with_reducible refine rd_cat (xs := ?xs) (zs := ?zs) ?h1 ?h2 ?h3 ?_); (case h1 => wtm_at "h"); (case h2 => wtm_at "h"); (case h3 => first | assumption | exact Nat.le_of_ble_eq_true rfl); intro p hp)
  | ((with_reducible refine rd_isiL (xs := ?xs) ?h1 ?_); (case h1 => wtm_at "h"))
  | ((with_reducible refine rd_isiT (xs := ?xs) ?h1 ?_); (case h1 => wtm_at "h"))
  | ((with_reducible refine rd_mk1 ?h1 ?h2 ?_); (case h1 => rfl); (case h2 => decide)))
local macro_rules | `(tactic| wtm_at "s") => `(tactic| first
  | ((with_reducible refine rd_neF ?h1 ?_); (case h1 => first | with_reducible rfl | assumption | fail))
  | ((with_reducible refine rd_eqT ?h1 ?_); (case h1 => first | with_reducible rfl | assumption | fail))
  | ((with_reducible refine rd_neT ?h1 ?_); (case h1 => first | assumption | exact non_int | exact non_ref | exact Bool.false_ne_true | exact Bool.false_ne_true.symm | fail))
  | ((with_reducible refine rd_eqF ?h1 ?_); (case h1 => first | assumption | exact non_int | exact non_ref | exact Bool.false_ne_true | exact Bool.false_ne_true.symm | fail))
  | fail)
local macro_rules | `(tactic| wtm_at "bd") => `(tactic| first
  | with_reducible assumption
  | exact Bd.mono (by with_reducible assumption) (by decide)
  | exact Bd.lit (by decide) (by decide)
  | ((with_reducible refine Bd.mulN ?_ ?_) <;> wtm_at "bd")
  | ((with_reducible refine Bd.addN ?h1 ?h2 ?h3); (case h1 => wtm_at "bd"); (case h2 => wtm_at "bd"); (case h3 => decide))
  | ((with_reducible refine Bd.subN ?h1 ?h2 ?h3); (case h1 => wtm_at "bd"); (case h2 => wtm_at "bd"); (case h3 => decide))
  | ((with_reducible refine Bd.neg ?h1); (case h1 => wtm_at "bd"))
  | fail)
local macro_rules | `(tactic| wtm_at "s") => `(tactic| first
  | ((with_reducible refine rd_fld1 (dx := ?dx) (fs := ?fs) (v := ?v) ?h1 ?h2 ?_); (case h1 => wtm_at "h"); (case h2 => rfl))
  | ((with_reducible refine rd_meth1 (dx := ?dx) (fs := ?fs) ?h1 ?h2 ?_); (case h1 => wtm_at "h"); (case h2 => rfl))
  | ((with_reducible refine rd_sfld1 (dx := ?dx) (fs := ?fs) ?h1 ?h2 ?_); (case h1 => wtm_at "h"); (case h2 => exact Nat.le_of_ble_eq_true rfl))
  | ((with_reducible refine rd_fmtI ?h1 ?_); (case h1 => exact Nat.lt_trans (txI_len (n := 1000) (by wtm_at "bd") (Nat.le_refl _)).2 (by decide)))
  | ((with_reducible refine rd_strI ?h1 ?_); (case h1 => exact Nat.lt_trans (txI_len (n := 1000) (by wtm_at "bd") (Nat.le_refl _)).2 (by decide)))
  | ((with_reducible refine rd_eqInts (ns := ?ns) (ms := ?ms) ?h1 ?h2 ?_); (case h1 => wtm_at "q"); (case h2 => wtm_at "q"))
  | ((with_reducible refine rd_neInts (ns := ?ns) (ms := ?ms) ?h1 ?h2 ?_); (case h1 => wtm_at "q"); (case h2 => wtm_at "q"))
  | ((with_reducible refine rd_listOfL (ys := ?ys) ?h1 ?_); (case h1 => wtm_at "q"); intro l hl)
  | ((with_reducible refine rd_revV (xs := ?xs) ?h1 ?_); (case h1 => wtm_at "q"); intro p hp)
  | ((with_reducible refine rd_iRev1 (xs := ?xs) ?h1 ?_); (case h1 => wtm_at "q"))
  | ((with_reducible refine rd_callO2 (dx := ?dx) (fs := ?fs) ?h1 ?_); (case h1 => wtm_at "h"))
  | ((with_reducible show CMulB _ _); refine CMulB.bd ?_ ?_ <;> wtm_at "bd")
  | fail)
local macro_rules | `(tactic| wtm_at "s") => `(tactic| first
  | ((with_reducible refine rd_dinF (ks := ?ks) ?h1 ?_); (case h1 => wtm_at "h"))
  | ((with_reducible refine rd_dnotinF (ks := ?ks) ?h1 ?_); (case h1 => wtm_at "h"))
  | ((with_reducible refine rd_listF (ks := ?ks) ?h1 ?_); (case h1 => wtm_at "h"); intro l hl)
  | ((with_reducible refine rd_sortedI (ns := ?ns) ?h1 ?_); (case h1 => wtm_at "q"))
  | fail)
local macro_rules | `(tactic| wtm_at "tp") => `(tactic| first
  | ((with_reducible refine rd_tupL (ys := ?ys) ?h1 ?_); (case h1 => wtm_at "q"); intro l hl)
  | ((with_reducible refine rd_tupT (ys := ?ys) ?h1 ?_); (case h1 => wtm_at "q"))
  | fail)
/-! a test that omega answers -/
local macro_rules | `(tactic| wtm_at "o") => `(tactic| first
  | ((with_reducible refine rd_neF ?h1 ?_); (case h1 => omega))
  | ((with_reducible refine rd_eqT ?h1 ?_); (case h1 => omega))
  | ((with_reducible refine rd_neT ?h1 ?_); (case h1 => omega))
  | ((with_reducible refine rd_eqF ?h1 ?_); (case h1 => omega))
  | fail)
/-! steps while there is one way -/
local macro_rules | `(tactic| wtm_at "rs") => `(tactic| repeat' (first | wtm_at "r" | wtm_at "s" | fail))
/-! all ways -/
local macro_rules | `(tactic| wtm_at "ra") => `(tactic| repeat' (first | wtm_at "r" | wtm_at "s" | wtm_at "i" | fail))
local macro_rules | `(tactic| wtm_at "ro") => `(tactic| repeat' (first | wtm_at "r" | wtm_at "s" | wtm_at "o" | fail))
local macro_rules | `(tactic| wtm_at "rao") => `(tactic| repeat' (first | wtm_at "r" | wtm_at "s" | wtm_at "o" | wtm_at "i" | fail))
/-! ## mathematics -/
/-! part m_prime -/
namespace QR
def Pm (p : Int) : Prop := 2 ≤ p ∧ ∀ d : Int, 2 ≤ d → d < p → ¬ d ∣ p
theorem split_le {n d e : Int} (h2 : 2 ≤ d) (hdn : d < n) (he : n = d * e) : (d * d ≤ n ∨ e * e ≤ n) ∧ 2 ≤ e := by
  have e0 : 2 ≤ e := by
    rcases Int.lt_or_le e 2 with z | z
    · exfalso
      have : d * e ≤ d * 1 := Int.mul_le_mul_of_nonneg_left (by omega) (by omega)
      omega
    · exact z
  refine ⟨?_, e0⟩
  rcases Int.le_total d e with z | z
  · left
    have : d * d ≤ d * e := Int.mul_le_mul_of_nonneg_left z (by omega)
    omega
  · right
    have : e * e ≤ d * e := Int.mul_le_mul_of_nonneg_right z (by omega)
    omega
theorem pm_of_trial {n k : Int} (h2 : 2 ≤ n) (hk0 : 0 ≤ k) (hk : n < k * k) (h : ∀ d : Int, 2 ≤ d → d < k → ¬ d ∣ n) : Pm n := by
  refine ⟨h2, fun d hd hn hdv => ?_⟩
  obtain ⟨e, he⟩ := hdv
  have lt : ∀ x : Int, 0 ≤ x → x * x ≤ n → x < k := fun x hx hxx => by
    rcases Int.lt_or_le x k with z | z
    · exact z
    · exfalso
      have a : k * k ≤ x * k := Int.mul_le_mul_of_nonneg_right z hk0
      have b : x * k ≤ x * x := Int.mul_le_mul_of_nonneg_left z hx
      omega
  obtain ⟨a, b⟩ := split_le hd hn he
  rcases a with a | a
  · exact h d hd (lt d (by omega) a) ⟨e, he⟩
  · exact h e b (lt e (by omega) a) ⟨d, by rw [he, Int.mul_comm]⟩
theorem pm_of_odd_trial {n k : Int} (h3 : 3 ≤ n) (ho : n % 2 = 1) (hk0 : 0 ≤ k) (hk : n < k * k) (h : ∀ d : Int, 3 ≤ d → d % 2 = 1 → d < k → ¬ d ∣ n) : Pm n := by
  refine pm_of_trial (by omega) hk0 hk fun d hd hdk hdv => ?_
  have : d % 2 = 1 := by
    obtain ⟨e, he⟩ := hdv
    rcases Int.emod_two_eq d with z | z
    · exfalso
      rw [he, Int.mul_emod, z, Int.zero_mul] at ho
      simp at ho
    · exact z
  exact h d (by omega) this hdk hdv
theorem not_pm {n k : Int} (h2 : 2 ≤ k) (hk : k * k ≤ n) (hd : n % k = 0) : ¬ Pm n := fun hp => by
  have : k < k * k := by
    have : k * 2 ≤ k * k := Int.mul_le_mul_of_nonneg_left h2 (by omega)
    omega
  exact hp.2 k h2 (by omega) (Int.dvd_of_emod_eq_zero hd)
theorem no_dvd_step2 {n k : Int} (hk : k % 2 = 1) (h : ∀ d : Int, 3 ≤ d → d % 2 = 1 → d < k → ¬ d ∣ n) (hd : n % k ≠ 0) : ∀ d : Int, 3 ≤ d → d % 2 = 1 → d < k + 2 → ¬ d ∣ n := fun d h2 ho hk z => by
  by_cases e : d = k
  · rw [e] at z
    exact hd (Int.emod_eq_zero_of_dvd z)
  · exact h d h2 ho (by omega) z
theorem sq_bound {k n : Int} (h0 : 0 ≤ k) (hk : k * k ≤ n) (hn : n < 2 ^ 120) : k < 2 ^ 60 := by
  rcases Int.lt_or_le k (2 ^ 60) with z | z
  · exact z
  · exfalso
    have a : (2 : Int) ^ 60 * 2 ^ 60 ≤ k * 2 ^ 60 := Int.mul_le_mul_of_nonneg_right z (by decide)
    have b : k * 2 ^ 60 ≤ k * k := Int.mul_le_mul_of_nonneg_left z h0
    have c : (2 : Int) ^ 60 * 2 ^ 60 = 2 ^ 120 := by decide
    omega
theorem le_sq {k : Int} (h : 1 ≤ k) : k ≤ k * k := by
  have : k * 1 ≤ k * k := Int.mul_le_mul_of_nonneg_left h (by omega)
  omega
/-- an odd prime -/
def OP (n : Int) : Prop := Pm n ∧ n % 2 = 1
theorem OP.three {n : Int} (h : OP n) : 3 ≤ n := by
  have := h.1.1
  have := h.2
  omega
theorem pm_two : Pm 2 := ⟨by omega, fun d h1 h2 => by omega⟩
theorem pm_odd {n : Int} (h : Pm n) (h3 : 3 ≤ n) : n % 2 = 1 := by
  rcases Int.emod_two_eq n with z | z
  · exact absurd (Int.dvd_of_emod_eq_zero z) (h.2 2 (by omega) (by omega))
  · exact z
/-- a prime, by looking at all divisors up to a side -/
theorem op_by {n : Nat} (k : Nat) (h3 : 3 ≤ n) (ho : n % 2 = 1) (hk : n < k * k) (h : (List.range k).all (fun d => d < 2 || n % d != 0) = true) : OP n := by
  refine ⟨pm_of_trial (k := k) (by omega) (by omega) (by exact_mod_cast hk) fun d h2 hd hv => ?_, by omega⟩
  have := List.all_eq_true.mp h d.toNat (List.mem_range.mpr (by omega))
  have hz : n % d.toNat = 0 := by
    have e := Int.emod_eq_zero_of_dvd hv
    rw [show d = ((d.toNat : Nat) : Int) by omega, ← Int.natCast_emod] at e
    exact_mod_cast e
  have h2' : ¬ d.toNat < 2 := by omega
  simp [hz, h2'] at this
open Classical in
noncomputable instance decPm (n : Int) : Decidable (Pm n) := Classical.propDecidable _
noncomputable instance decOP (n : Int) : Decidable (OP n) := instDecidableAnd
end QR
/-! part m_rows -/
/-- the list that a list of tuples holds -/
def RowsAt (H : Hp) : List Addr → List (List V) → Prop
  | [], [] => True
  | t :: ts, l :: ls => H t = some (.tup l) ∧ RowsAt H ts ls
  | _, _ => False
theorem RowsAt.mono {H H' : Hp} (s : Same H H') : ∀ {ts : List Addr} {ls : List (List V)}, RowsAt H ts ls → RowsAt H' ts ls
  | [], [], _ => trivial
  | _ :: _, _ :: _, h => ⟨s _ _ h.1, RowsAt.mono s h.2⟩
  | [], _ :: _, h => h.elim
  | _ :: _, [], h => h.elim
theorem RowsAt.len {H : Hp} : ∀ {ts : List Addr} {ls : List (List V)}, RowsAt H ts ls → ts.length = ls.length
  | [], [], _ => rfl
  | _ :: _, _ :: _, h => by rw [List.length_cons, List.length_cons, RowsAt.len h.2]
  | [], _ :: _, h => h.elim
  | _ :: _, [], h => h.elim
theorem RowsAt.snoc {H : Hp} {t : Addr} {l : List V} (ht : H t = some (.tup l)) : ∀ {ts : List Addr} {ls : List (List V)}, RowsAt H ts ls → RowsAt H (ts ++ [t]) (ls ++ [l])
  | [], [], _ => ⟨ht, trivial⟩
  | _ :: _, _ :: _, h => ⟨h.1, RowsAt.snoc ht h.2⟩
  | [], _ :: _, h => h.elim
  | _ :: _, [], h => h.elim
theorem RowsAt.other {H : Hp} {p : Addr} {xs : List V} {o : HO} (hp : H p = some (.lst xs)) : ∀ {ts : List Addr} {ls : List (List V)}, RowsAt H ts ls → RowsAt (upd H p o) ts ls
  | [], [], _ => trivial
  | t :: _, _ :: _, h => ⟨by
      rw [upd_ne (ne_of h.1 hp (by intro z; cases z))]
      exact h.1, RowsAt.other hp h.2⟩
  | [], _ :: _, h => h.elim
  | _ :: _, [], h => h.elim
theorem RowsAt.at {H : Hp} : ∀ {ts : List Addr} {ls : List (List V)} {i : Nat} {v : V}, RowsAt H ts ls → (ts.map V.ref)[i]? = some v → ∃ (t : Addr) (l : List V), v = .ref t ∧ H t = some (.tup l) ∧ ls[i]? = some l
  | t :: ts, l :: ls, 0, v, h, e => ⟨t, l, (Option.some.inj e).symm, h.1, rfl⟩
  | t :: ts, l :: ls, i + 1, v, h, e => RowsAt.at h.2 (i := i) e
  | [], _, _, _, _, e => by cases e
  | _ :: _, [], _, _, h, _ => h.elim
/-! part m_factors -/
def prodF : List (Int × Nat) → Int
  | [] => 1
  | x :: l => x.1 ^ x.2 * prodF l
def rowF (x : Int × Nat) : List V := [.int x.1, .int x.2]
/-- the primes of a number with their exponents -/
structure FacOk (n : Int) (fs : List (Int × Nat)) : Prop where
  prod : prodF fs = n
  prime : ∀ x, x ∈ fs → QR.Pm x.1 ∧ 1 ≤ x.2
  asc : fs.Pairwise fun a b => a.1 < b.1
theorem prodF_snoc (x : Int × Nat) : ∀ fs : List (Int × Nat), prodF (fs ++ [x]) = prodF fs * x.1 ^ x.2
  | [] => by simp [prodF]
  | y :: l => by
    simp only [List.cons_append, prodF]
    rw [prodF_snoc x l, Int.mul_assoc]
theorem prodF_big : ∀ fs : List (Int × Nat), (∀ x, x ∈ fs → QR.Pm x.1 ∧ 1 ≤ x.2) → (2 : Int) ^ fs.length ≤ prodF fs
  | [], _ => by simp [prodF]
  | x :: l, h => by
    have hx := h x (List.mem_cons_self ..)
    have ih := prodF_big l fun y hy => h y (List.mem_cons_of_mem _ hy)
    have h2 := hx.1.1
    obtain ⟨e, he⟩ : ∃ e, x.2 = e + 1 := ⟨x.2 - 1, by omega⟩
    have p1 : (1 : Int) ≤ x.1 ^ e := Int.pow_pos (by omega)
    have p0 : (0 : Int) < 2 ^ l.length := Int.pow_pos (by decide)
    simp only [prodF, List.length_cons]
    rw [he, Int.pow_succ, Int.pow_succ, Int.mul_comm (2 ^ l.length) 2]
    have p2 : 2 ≤ x.1 ^ e * x.1 := by
      have : 1 * x.1 ≤ x.1 ^ e * x.1 := Int.mul_le_mul_of_nonneg_right p1 (by omega)
      omega
    have a1 : 2 * 2 ^ l.length ≤ (x.1 ^ e * x.1) * 2 ^ l.length := Int.mul_le_mul_of_nonneg_right p2 (by omega)
    have a2 : (x.1 ^ e * x.1) * 2 ^ l.length ≤ (x.1 ^ e * x.1) * prodF l := Int.mul_le_mul_of_nonneg_left ih (by omega)
    omega
/-- while the factors are found: fs so far, n left, d next -/
structure FacInv (n0 n d : Int) (fs : List (Int × Nat)) : Prop where
  pos : 1 ≤ n
  two : 2 ≤ d
  prod : prodF fs * n = n0
  prime : ∀ x, x ∈ fs → QR.Pm x.1 ∧ 1 ≤ x.2 ∧ x.1 < d
  asc : fs.Pairwise fun a b => a.1 < b.1
  none : ∀ e : Int, 2 ≤ e → e < d → ¬ e ∣ n
theorem FacInv.len {n0 n d : Int} {fs : List (Int × Nat)} (h : FacInv n0 n d fs) (hn : n0 < 2 ^ 100) : fs.length < 100 := by
  have a := prodF_big fs fun x hx => ⟨(h.prime x hx).1, (h.prime x hx).2.1⟩
  have p0 : (0 : Int) < 2 ^ fs.length := Int.pow_pos (by decide)
  have b : prodF fs * 1 ≤ prodF fs * n := Int.mul_le_mul_of_nonneg_left h.pos (by omega)
  rw [h.prod] at b
  rcases Nat.lt_or_ge fs.length 100 with z | z
  · exact z
  · exfalso
    have : (2 : Int) ^ 100 ≤ 2 ^ fs.length := by
      have := Nat.pow_le_pow_right (show 0 < 2 by decide) z
      exact_mod_cast this
    omega
theorem FacInv.start {n : Int} (h : 1 ≤ n) : FacInv n n 2 [] :=
  ⟨h, by omega, by simp [prodF], fun _ h => absurd h List.not_mem_nil, List.Pairwise.nil, fun e h1 h2 => by omega⟩
/-- one divisor: n = m * d ^ e with no d left in m -/
theorem FacInv.next0 {n0 n d : Int} {fs : List (Int × Nat)} (h : FacInv n0 n d fs) (hd : ¬ d ∣ n) : FacInv n0 n (d + 1) fs :=
  ⟨h.pos, by have := h.two; omega, h.prod, fun x hx => ⟨(h.prime x hx).1, (h.prime x hx).2.1, by have := (h.prime x hx).2.2; omega⟩, h.asc, fun e h1 h2 z => by
    by_cases he : e = d
    · rw [he] at z
      exact hd z
    · exact h.none e h1 (by omega) z⟩
theorem FacInv.next {n0 n d m : Int} {e : Nat} {fs : List (Int × Nat)} (h : FacInv n0 n d fs) (he : 0 < e) (hm : m * d ^ e = n) (hm0 : 1 ≤ m) (hd : ¬ d ∣ m) : FacInv n0 m (d + 1) (fs ++ [(d, e)]) := by
  have h2 := h.two
  have dn : d ∣ n := by
    obtain ⟨k, rfl⟩ : ∃ k, e = k + 1 := ⟨e - 1, by omega⟩
    exact ⟨m * d ^ k, by rw [← hm, Int.pow_succ]; grind⟩
  have mn : m ∣ n := ⟨d ^ e, hm.symm⟩
  refine ⟨hm0, by omega, ?_, ?_, ?_, ?_⟩
  · rw [prodF_snoc, ← h.prod, ← hm]
    grind
  · intro x hx
    rcases List.mem_append.mp hx with hx | hx
    · exact ⟨(h.prime x hx).1, (h.prime x hx).2.1, by have := (h.prime x hx).2.2; omega⟩
    · rw [List.mem_singleton.mp hx]
      refine ⟨⟨h2, fun c c1 c2 c3 => h.none c c1 c2 (Int.dvd_trans c3 dn)⟩, he, ?_⟩
      show d < d + 1
      omega
  · rw [List.pairwise_append]
    refine ⟨h.asc, List.pairwise_singleton .., fun a ha b hb => ?_⟩
    rw [List.mem_singleton.mp hb]
    exact (h.prime a ha).2.2
  · intro c c1 c2 c3
    by_cases hc : c = d
    · rw [hc] at c3
      exact hd c3
    · exact h.none c c1 (by omega) (Int.dvd_trans c3 mn)
theorem FacInv.done1 {n0 d : Int} {fs : List (Int × Nat)} (h : FacInv n0 1 d fs) : FacOk n0 fs :=
  ⟨by have := h.prod; omega, fun x hx => ⟨(h.prime x hx).1, (h.prime x hx).2.1⟩, h.asc⟩
theorem FacInv.done {n0 n d : Int} {fs : List (Int × Nat)} (h : FacInv n0 n d fs) (hn : 1 < n) (hd : n < d * d) : FacOk n0 (fs ++ [(n, 1)]) := by
  have hp : QR.Pm n := QR.pm_of_trial (by omega) (by have := h.two; omega) hd h.none
  refine ⟨by rw [prodF_snoc, Int.pow_one]; exact h.prod, ?_, ?_⟩
  · intro x hx
    rcases List.mem_append.mp hx with hx | hx
    · exact ⟨(h.prime x hx).1, (h.prime x hx).2.1⟩
    · rw [List.mem_singleton.mp hx]
      exact ⟨hp, Nat.le_refl 1⟩
  · rw [List.pairwise_append]
    refine ⟨h.asc, List.pairwise_singleton .., fun a ha b hb => ?_⟩
    rw [List.mem_singleton.mp hb]
    have := (h.prime a ha).2.2
    show a.1 < n
    rcases Int.lt_or_le n d with z | z
    · exact absurd (Int.dvd_refl n) (h.none n (by omega) z)
    · omega
/-! part m_signs -/
def facT (m : Nat) : Int := if m % 8 = 3 ∨ m % 8 = 5 then -1 else 1
def facR (n m : Nat) : Int := if n % 4 = 3 ∧ m % 4 = 3 then -1 else 1
/-- the sign, by the program's own steps -/
def jac (n m : Nat) : Int :=
  if _h : n = 0 then (if m = 1 then 1 else 0)
  else if n % 2 = 0 then facT m * jac (n / 2) m
  else facR n m * jac (m % n) n
termination_by n
decreasing_by
  · omega
  · exact Nat.mod_lt _ (by omega)
theorem jac_zero (m : Nat) : jac 0 m = if m = 1 then 1 else 0 := by
  rw [jac]
  simp
theorem jac_two {n m : Nat} (h0 : n ≠ 0) (h : n % 2 = 0) : jac n m = facT m * jac (n / 2) m := by
  rw [jac, dif_neg h0, if_pos h]
theorem jac_turn {n m : Nat} (h : n % 2 = 1) : jac n m = facR n m * jac (m % n) n := by
  rw [jac, dif_neg (by omega), if_neg (by omega)]
def sgn (n m : Int) : Int := jac (n % m).toNat m.toNat
/-! part m_qr -/
namespace QR
def Pr : Nat → (Nat → Int) → Int
  | 0, _ => 1
  | n + 1, f => Pr n f * f n
theorem P_mul : ∀ (n : Nat) (f g : Nat → Int), Pr n (fun i => f i * g i) = Pr n f * Pr n g
  | 0, _, _ => rfl
  | n + 1, f, g => by
    simp only [Pr, P_mul n]
    grind
theorem P_congr : ∀ (n : Nat) {f g : Nat → Int}, (∀ i, i < n → f i = g i) → Pr n f = Pr n g
  | 0, _, _, _ => rfl
  | n + 1, f, g, h => by
    simp only [Pr]
    rw [P_congr n fun i hi => h i (by omega), h n (by omega)]
theorem P_one : ∀ n : Nat, Pr n (fun _ => 1) = 1
  | 0 => rfl
  | n + 1 => by
    simp only [Pr, P_one n]
    rfl
theorem P_neg : ∀ n : Nat, Pr n (fun _ => -1) = if n % 2 = 0 then 1 else -1
  | 0 => rfl
  | n + 1 => by
    simp only [Pr, P_neg n]
    split <;> split <;> omega
theorem P_swap (k : Nat) (f : Nat → Nat → Int) : ∀ h : Nat, Pr h (fun x => Pr k (fun y => f x y)) = Pr k (fun y => Pr h (fun x => f x y))
  | 0 => by simp only [Pr, P_one]
  | h + 1 => by
    simp only [Pr]
    rw [P_swap k f h, ← P_mul]
theorem P_zero : ∀ (n : Nat) (f : Nat → Int) (i : Nat), i < n → f i = 0 → Pr n f = 0
  | 0, _, _, h, _ => by omega
  | n + 1, f, i, h, e => by
    simp only [Pr]
    by_cases hi : i = n
    · rw [← hi, e, Int.mul_zero]
    · rw [P_zero n f i (by omega) e, Int.zero_mul]
theorem P_pm : ∀ (n : Nat) (f : Nat → Int), (∀ i, i < n → f i = 1 ∨ f i = -1) → Pr n f = 1 ∨ Pr n f = -1
  | 0, _, _ => .inl rfl
  | n + 1, f, h => by
    simp only [Pr]
    rcases P_pm n f (fun i hi => h i (by omega)) with a | a <;> rcases h n (by omega) with b | b <;> rw [a, b] <;> decide
def pl : List Int → Int
  | [] => 1
  | x :: l => x * pl l
theorem pl_append : ∀ l k : List Int, pl (l ++ k) = pl l * pl k
  | [], k => by simp [pl]
  | x :: l, k => by
    simp only [List.cons_append, pl, pl_append l k, Int.mul_assoc]
theorem pl_perm {l k : List Int} (h : l.Perm k) : pl l = pl k := by
  induction h with
  | nil => rfl
  | cons x _ ih => simp only [pl, ih]
  | swap x y l => simp only [pl]; grind
  | trans _ _ a b => exact a.trans b
theorem P_pl : ∀ (n : Nat) (f : Nat → Int), Pr n f = pl ((List.range n).map f)
  | 0, _ => rfl
  | n + 1, f => by
    rw [List.range_succ, List.map_append, pl_append, ← P_pl n f]
    simp [Pr, pl]
theorem perm_of : ∀ (l k : List Nat), l.Nodup → (∀ x, x ∈ l → x ∈ k) → k.length ≤ l.length → l.Perm k
  | [], k, _, _, h => by
    have : k = [] := List.eq_nil_of_length_eq_zero (by simpa using h)
    rw [this]
  | x :: l, k, hn, hs, hl => by
    have hx : x ∈ k := hs x (List.mem_cons_self ..)
    have hp := List.perm_cons_erase hx
    have hn' := List.nodup_cons.mp hn
    have hlen : (k.erase x).length + 1 = k.length := by
      rw [List.length_erase_of_mem hx]
      have := List.length_pos_of_mem hx
      omega
    refine List.Perm.trans (List.Perm.cons x (perm_of l (k.erase x) hn'.2 (fun y hy => ?_) ?_)) hp.symm
    · refine (List.mem_erase_of_ne ?_).mpr (hs y (List.mem_cons_of_mem _ hy))
      rintro rfl
      exact hn'.1 hy
    · simp only [List.length_cons] at hl
      omega
theorem nodup_map {f : Nat → Nat} : ∀ l : List Nat, l.Nodup → (∀ x, x ∈ l → ∀ y, y ∈ l → f x = f y → x = y) → (l.map f).Nodup
  | [], _, _ => List.nodup_nil
  | x :: l, hn, hi => by
    have hn' := List.nodup_cons.mp hn
    rw [List.map_cons, List.nodup_cons]
    refine ⟨fun hm => ?_, nodup_map l hn'.2 fun a ha b hb => hi a (List.mem_cons_of_mem _ ha) b (List.mem_cons_of_mem _ hb)⟩
    obtain ⟨y, hy, e⟩ := List.mem_map.mp hm
    have := hi y (List.mem_cons_of_mem _ hy) x (List.mem_cons_self ..) e
    rw [this] at hy
    exact hn'.1 hy
theorem perm_range {n : Nat} {π : Nat → Nat} (h1 : ∀ i, i < n → π i < n) (h2 : ∀ i, i < n → ∀ j, j < n → π i = π j → i = j) : ((List.range n).map π).Perm (List.range n) := by
  refine perm_of _ _ (nodup_map _ List.nodup_range fun x hx y hy => h2 x (List.mem_range.mp hx) y (List.mem_range.mp hy)) (fun x hx => ?_) (by simp)
  obtain ⟨i, hi, rfl⟩ := List.mem_map.mp hx
  exact List.mem_range.mpr (h1 i (List.mem_range.mp hi))
theorem P_perm {n : Nat} {π : Nat → Nat} (f : Nat → Int) (h1 : ∀ i, i < n → π i < n) (h2 : ∀ i, i < n → ∀ j, j < n → π i = π j → i = j) : Pr n (fun i => f (π i)) = Pr n f := by
  rw [P_pl, P_pl]
  have := pl_perm ((perm_range h1 h2).map f)
  rw [List.map_map] at this
  exact this
theorem P_flip (n : Nat) (f : Nat → Int) : Pr n (fun i => f (n - 1 - i)) = Pr n f :=
  P_perm (π := fun i => n - 1 - i) f (fun i hi => by show n - 1 - i < n; omega) (fun i hi j hj h => by
    have h : n - 1 - i = n - 1 - j := h
    omega)
/-- one mark in a row -/
theorem P_mark (c : Nat) (p : Prop) [Decidable p] : ∀ k : Nat, Pr k (fun y => if y = c ∧ p then -1 else 1) = if c < k ∧ p then -1 else 1
  | 0 => by simp [Pr]
  | k + 1 => by
    simp only [Pr]
    rw [P_mark c p k]
    by_cases hp : p
    · simp only [hp, and_true]
      by_cases h1 : c < k
      · rw [if_pos h1, if_neg (by omega), if_pos (by omega)]
        rfl
      · by_cases h2 : k = c
        · rw [if_neg h1, if_pos h2, if_pos (by omega)]
          rfl
        · rw [if_neg h1, if_neg h2, if_neg (by omega)]
          rfl
    · simp [hp]
/-- the sign of the absolutely least rest, to the modulus 2 h + 1 -/
def sg (h : Nat) (a : Int) : Int :=
  if a % (2 * h + 1) = 0 then 0 else if a % (2 * h + 1) ≤ h then 1 else -1
theorem rem_lo (h : Nat) (a : Int) : 0 ≤ a % (2 * h + 1) := Int.emod_nonneg a (by omega)
theorem rem_hi (h : Nat) (a : Int) : a % (2 * h + 1) ≤ 2 * h := by
  have := Int.emod_lt_of_pos a (show (0 : Int) < 2 * h + 1 by omega)
  omega
theorem dvd_rem (h : Nat) (a : Int) : (2 * (h : Int) + 1) ∣ a - a % (2 * h + 1) := ⟨a / (2 * h + 1), by
  have := Int.mul_ediv_add_emod a (2 * (h : Int) + 1)
  omega⟩
theorem sgv {h : Nat} {a r : Int} (hd : (2 * (h : Int) + 1) ∣ a - r) (h0 : 0 ≤ r) (h1 : r ≤ 2 * h) : sg h a = if r = 0 then 0 else if r ≤ h then 1 else -1 := by
  have e : a % (2 * h + 1) = r := by
    have := Int.emod_eq_emod_iff_emod_sub_eq_zero.mpr (Int.emod_eq_zero_of_dvd hd)
    rw [this, Int.emod_eq_of_lt h0 (by omega)]
  unfold sg
  rw [e]
theorem sg_congr {h : Nat} {a b : Int} (hd : (2 * (h : Int) + 1) ∣ a - b) : sg h a = sg h b := by
  unfold sg
  rw [Int.emod_eq_emod_iff_emod_sub_eq_zero.mpr (Int.emod_eq_zero_of_dvd hd)]
theorem sg_neg (h : Nat) (a : Int) : sg h (-a) = -sg h a := by
  have h0 := rem_lo h a
  have h1 := rem_hi h a
  obtain ⟨k, hk⟩ := dvd_rem h a
  rw [sgv (a := a) (dvd_rem h a) h0 h1]
  by_cases hz : a % (2 * h + 1) = 0
  · rw [sgv (r := 0) ⟨-k, by grind⟩ (by omega) (by omega), if_pos rfl, if_pos hz]
    rfl
  · rw [sgv (r := 2 * h + 1 - a % (2 * h + 1)) ⟨-k - 1, by grind⟩ (by omega) (by omega), if_neg (by omega), if_neg hz]
    split <;> split <;> omega
theorem sg_smul {h : Nat} {s : Int} (hs : s = 1 ∨ s = -1) (a : Int) : sg h (s * a) = s * sg h a := by
  rcases hs with rfl | rfl
  · rw [Int.one_mul, Int.one_mul]
  · rw [Int.neg_mul, Int.one_mul, sg_neg, Int.neg_mul, Int.one_mul]
theorem sg_pm {h : Nat} {a : Int} (ha : a % (2 * h + 1) ≠ 0) : sg h a = 1 ∨ sg h a = -1 := by
  unfold sg
  rw [if_neg ha]
  split
  · exact .inl rfl
  · exact .inr rfl
/-- the absolutely least rest, less one -/
def al (h : Nat) (a : Int) : Nat := if a % (2 * h + 1) ≤ h then (a % (2 * h + 1) - 1).toNat else (2 * h - a % (2 * h + 1)).toNat
theorem al_lt {h : Nat} {a : Int} (ha : a % (2 * h + 1) ≠ 0) : al h a < h := by
  have h0 := rem_lo h a
  have h1 := rem_hi h a
  unfold al
  split <;> omega
theorem al_dvd {h : Nat} {a : Int} (ha : a % (2 * h + 1) ≠ 0) : (2 * (h : Int) + 1) ∣ a - sg h a * (al h a + 1) := by
  have h0 := rem_lo h a
  have h1 := rem_hi h a
  obtain ⟨k, hk⟩ := dvd_rem h a
  unfold sg al
  rw [if_neg ha]
  by_cases hr : a % (2 * h + 1) ≤ h
  · rw [if_pos hr, if_pos hr, show (((a % (2 * h + 1) - 1).toNat : Int)) = a % (2 * h + 1) - 1 by omega]
    exact ⟨k, by omega⟩
  · rw [if_neg hr, if_neg hr, show (((2 * h - a % (2 * h + 1)).toNat : Int)) = 2 * h - a % (2 * h + 1) by omega]
    exact ⟨k + 1, by grind⟩
theorem small_dvd {m x : Int} (hd : m ∣ x) (h1 : -m < x) (h2 : x < m) : x = 0 := by
  rcases Int.lt_trichotomy x 0 with h | h | h
  · have := Int.le_of_dvd (show 0 < -x by omega) (Int.dvd_neg.mpr hd)
    omega
  · exact h
  · have := Int.le_of_dvd h hd
    omega
theorem cop_dvd {b m : Int} (hc : Int.gcd b m = 1) {x : Int} (hd : m ∣ b * x) : m ∣ x := by
  have h1 : m.natAbs ∣ b.natAbs * x.natAbs := by
    rw [← Int.natAbs_mul]
    exact Int.natAbs_dvd_natAbs.mpr hd
  have h2 : m.natAbs.Coprime b.natAbs := by
    unfold Nat.Coprime
    rw [Nat.gcd_comm]
    exact hc
  exact Int.natAbs_dvd_natAbs.mp (h2.dvd_of_dvd_mul_left h1)
def G (a : Int) (h : Nat) : Int := Pr h (fun i => sg h (a * ((i : Int) + 1)))
theorem cop_ne {b : Int} {h : Nat} (hc : Int.gcd b (2 * h + 1) = 1) {i : Nat} (hi : i < h) : (b * ((i : Int) + 1)) % (2 * h + 1) ≠ 0 := by
  intro z
  have := small_dvd (cop_dvd hc (Int.dvd_of_emod_eq_zero z)) (by omega) (by omega)
  omega
theorem G_congr {h : Nat} {a b : Int} (hd : (2 * (h : Int) + 1) ∣ a - b) : G a h = G b h := by
  refine P_congr h fun i hi => sg_congr ?_
  rw [← Int.sub_mul]
  exact Int.dvd_mul_of_dvd_left hd
theorem G_pm {h : Nat} {a : Int} (hc : Int.gcd a (2 * h + 1) = 1) : G a h = 1 ∨ G a h = -1 :=
  P_pm h _ fun i hi => sg_pm (cop_ne hc hi)
theorem G_zero {h : Nat} {a : Int} (hc : Int.gcd a (2 * h + 1) ≠ 1) : G a h = 0 := by
  obtain ⟨k, hk⟩ := Int.gcd_dvd_right a (2 * (h : Int) + 1)
  obtain ⟨l, hl⟩ := Int.gcd_dvd_left a (2 * (h : Int) + 1)
  generalize hg : Int.gcd a (2 * h + 1) = g at *
  have g0 : g ≠ 0 := by
    rintro rfl
    simp at hk
    omega
  have g2 : g ≠ 2 := by
    rintro rfl
    simp at hk
    omega
  have k0 : 0 < k := by
    rcases Int.lt_trichotomy k 0 with z | z | z
    · have := Int.mul_neg_of_pos_of_neg (show (0 : Int) < g by omega) z
      omega
    · rw [z] at hk
      omega
    · exact z
  have k1 : 3 * k ≤ g * k := Int.mul_le_mul_of_nonneg_right (by omega) (by omega)
  refine P_zero h _ (k - 1).toNat (by omega) ?_
  have e : (((k - 1).toNat : Int)) + 1 = k := by omega
  rw [e]
  unfold sg
  rw [if_pos]
  refine Int.emod_eq_zero_of_dvd ⟨l, ?_⟩
  rw [hk]
  conv => lhs; rw [hl]
  grind
theorem G_mul (a b : Int) (h : Nat) : G (a * b) h = G a h * G b h := by
  by_cases hc : Int.gcd b (2 * h + 1) = 1
  · have hp : Pr h (fun i => sg h (a * ((al h (b * ((i : Int) + 1)) : Int) + 1))) = Pr h (fun i => sg h (a * ((i : Int) + 1))) := by
      refine P_perm (π := fun i => al h (b * ((i : Int) + 1))) (fun i => sg h (a * ((i : Int) + 1))) (fun i hi => al_lt (cop_ne hc hi)) (fun i hi j hj e => ?_)
      have e : al h (b * ((i : Int) + 1)) = al h (b * ((j : Int) + 1)) := e
      obtain ⟨u, hu⟩ := al_dvd (cop_ne hc hi)
      obtain ⟨v, hv⟩ := al_dvd (cop_ne hc hj)
      rw [e] at hu
      rcases sg_pm (cop_ne hc hi) with s | s <;> rcases sg_pm (cop_ne hc hj) with t | t <;> rw [s] at hu <;> rw [t] at hv
      · have := small_dvd (cop_dvd (x := (i : Int) - j) hc ⟨u - v, by grind⟩) (by omega) (by omega)
        omega
      · have := small_dvd (cop_dvd (x := (i : Int) + j + 2) hc ⟨u + v, by grind⟩) (by omega) (by omega)
        omega
      · have := small_dvd (cop_dvd (x := (i : Int) + j + 2) hc ⟨u + v, by grind⟩) (by omega) (by omega)
        omega
      · have := small_dvd (cop_dvd (x := (i : Int) - j) hc ⟨u - v, by grind⟩) (by omega) (by omega)
        omega
    have e : G (a * b) h = Pr h (fun i => sg h (a * ((al h (b * ((i : Int) + 1)) : Int) + 1)) * sg h (b * ((i : Int) + 1))) := by
      refine P_congr h fun i hi => ?_
      rw [Int.mul_comm _ (sg h (b * ((i : Int) + 1))), ← sg_smul (sg_pm (cop_ne hc hi))]
      refine sg_congr ?_
      obtain ⟨u, hu⟩ := al_dvd (cop_ne hc hi)
      exact ⟨a * u, by grind⟩
    rw [e, P_mul, hp]
    rfl
  · rw [G_zero hc, Int.mul_zero, G_zero]
    intro z
    apply hc
    have h1 : Int.gcd b (2 * h + 1) ∣ Int.gcd (a * b) (2 * h + 1) := Int.dvd_gcd (Int.dvd_mul_of_dvd_right (Int.gcd_dvd_left ..)) (Int.gcd_dvd_right ..)
    rw [z] at h1
    exact Nat.dvd_one.mp h1
def tq (h k x y : Nat) : Int := (2 * k + 1) * ((x : Int) + 1) - (2 * h + 1) * ((y : Int) + 1)
def eqq (h k x y : Nat) : Int := if tq h k x y < 0 ∧ -(h : Int) ≤ tq h k x y then -1 else 1
theorem tq_comm (h k x y : Nat) : tq k h y x = -tq h k x y := by
  unfold tq
  omega
theorem q_in {h k x : Nat} (hx : x < h) (hr : (h : Int) < ((2 * k + 1) * ((x : Int) + 1)) % (2 * h + 1)) : ((2 * k + 1) * ((x : Int) + 1)) / (2 * h + 1) < k := by
  have e := Int.mul_ediv_add_emod ((2 * (k : Int) + 1) * ((x : Int) + 1)) (2 * (h : Int) + 1)
  generalize ((2 * (k : Int) + 1) * ((x : Int) + 1)) / (2 * (h : Int) + 1) = q at *
  have h1 : (2 * (k : Int) + 1) * ((x : Int) + 1) ≤ (2 * (k : Int) + 1) * h := Int.mul_le_mul_of_nonneg_left (by omega) (by omega)
  have h2 : (2 * (h : Int) + 1) * (q + 1) < (2 * (h : Int) + 1) * (k + 1) := by grind
  have := Int.lt_of_mul_lt_mul_left h2 (by omega)
  omega
theorem inner {h k x : Nat} (hc : Int.gcd (2 * k + 1) (2 * h + 1) = 1) (hx : x < h) : Pr k (fun y => eqq h k x y) = sg h ((2 * k + 1) * ((x : Int) + 1)) := by
  have hne := cop_ne hc hx
  have h0 := rem_lo h ((2 * k + 1) * ((x : Int) + 1))
  have h1 := rem_hi h ((2 * k + 1) * ((x : Int) + 1))
  have e := Int.mul_ediv_add_emod ((2 * (k : Int) + 1) * ((x : Int) + 1)) (2 * (h : Int) + 1)
  have q0 : 0 ≤ ((2 * (k : Int) + 1) * ((x : Int) + 1)) / (2 * (h : Int) + 1) := Int.ediv_nonneg (Int.mul_nonneg (by omega) (by omega)) (by omega)
  have qi := @q_in h k x hx
  unfold sg
  rw [if_neg hne]
  have hm : ∀ y, y < k → eqq h k x y = if y = (((2 * (k : Int) + 1) * ((x : Int) + 1)) / (2 * (h : Int) + 1)).toNat ∧ ¬ ((2 * (k : Int) + 1) * ((x : Int) + 1)) % (2 * h + 1) ≤ h then -1 else 1 := by
    intro y hy
    unfold eqq tq
    generalize ((2 * (k : Int) + 1) * ((x : Int) + 1)) / (2 * (h : Int) + 1) = q at *
    generalize ((2 * (k : Int) + 1) * ((x : Int) + 1)) % (2 * (h : Int) + 1) = r at *
    rw [← e]
    have hz : (2 * (h : Int) + 1) * q + r - (2 * (h : Int) + 1) * ((y : Int) + 1) = (2 * (h : Int) + 1) * (q - y - 1) + r := by grind
    rw [hz]
    congr 1
    refine propext ⟨fun ⟨a, b⟩ => ?_, fun ⟨a, b⟩ => ?_⟩
    · rcases Int.lt_trichotomy (q - y) 0 with z | z | z
      · have : (2 * (h : Int) + 1) * (q - y - 1) ≤ (2 * (h : Int) + 1) * (-2) := Int.mul_le_mul_of_nonneg_left (by omega) (by omega)
        omega
      · have z : q - y - 1 = -1 := by omega
        rw [z] at a b
        omega
      · have : 0 ≤ (2 * (h : Int) + 1) * (q - y - 1) := Int.mul_nonneg (by omega) (by omega)
        omega
    · have z : q - y - 1 = -1 := by omega
      rw [z]
      omega
  rw [P_congr k hm, P_mark]
  by_cases hr : ((2 * (k : Int) + 1) * ((x : Int) + 1)) % (2 * h + 1) ≤ h
  · rw [if_neg (fun z => z.2 hr), if_pos hr]
  · rw [if_pos ⟨by have := qi (by omega); omega, hr⟩, if_neg hr]
theorem tq_ne {h k x y : Nat} (hc : Int.gcd (2 * k + 1) (2 * h + 1) = 1) (hx : x < h) : tq h k x y ≠ 0 := by
  intro z
  apply cop_ne hc hx
  unfold tq at z
  exact Int.emod_eq_zero_of_dvd ⟨(y : Int) + 1, by omega⟩
theorem PP_pm (h k : Nat) (f : Nat → Nat → Int) (hf : ∀ x y, f x y = 1 ∨ f x y = -1) : Pr h (fun x => Pr k (fun y => f x y)) = 1 ∨ Pr h (fun x => Pr k (fun y => f x y)) = -1 :=
  P_pm h _ fun x _ => P_pm k _ fun y _ => hf x y
theorem PP_flip (h k : Nat) (f : Nat → Nat → Int) : Pr h (fun x => Pr k (fun y => f (h - 1 - x) (k - 1 - y))) = Pr h (fun x => Pr k (fun y => f x y)) := by
  rw [P_congr h fun x _ => P_flip k (fun y => f (h - 1 - x) y)]
  exact P_flip h (fun x => Pr k (fun y => f x y))
def bq (h k x y : Nat) : Int := if tq h k x y < -(h : Int) then -1 else 1
def cq (h k x y : Nat) : Int := if (k : Int) < tq h k x y then -1 else 1
theorem bc (h k : Nat) : Pr h (fun x => Pr k (fun y => bq h k x y)) = Pr h (fun x => Pr k (fun y => cq h k x y)) := by
  rw [← PP_flip h k (fun x y => cq h k x y)]
  refine P_congr h fun x hx => P_congr k fun y hy => ?_
  unfold bq cq
  have e : tq h k (h - 1 - x) (k - 1 - y) = k - h - tq h k x y := by
    unfold tq
    rw [show (((h - 1 - x : Nat) : Int)) = h - 1 - x by omega, show (((k - 1 - y : Nat) : Int)) = k - 1 - y by omega]
    grind
  rw [e]
  split <;> split <;> omega
theorem recip0 {h k : Nat} (hc : Int.gcd (2 * k + 1) (2 * h + 1) = 1) : G (2 * k + 1) h * G (2 * h + 1) k = if h % 2 = 1 ∧ k % 2 = 1 then -1 else 1 := by
  have e1 : G (2 * k + 1) h = Pr h (fun x => Pr k (fun y => eqq h k x y)) := P_congr h fun x hx => (inner hc hx).symm
  have e2 : G (2 * h + 1) k = Pr h (fun x => Pr k (fun y => eqq k h y x)) := by
    rw [P_swap]
    exact P_congr k fun y hy => (inner (by rw [Int.gcd_comm]; exact hc) hy).symm
  have e3 : Pr h (fun x => Pr k (fun y => eqq h k x y * eqq k h y x * (bq h k x y * cq h k x y))) = Pr h (fun _ => Pr k (fun _ => -1)) := by
    refine P_congr h fun x hx => P_congr k fun y hy => ?_
    have := tq_ne (y := y) hc hx
    unfold eqq bq cq
    rw [tq_comm h k x y]
    generalize tq h k x y = t at *
    split <;> split <;> split <;> split <;> omega
  have e4 : Pr h (fun x => Pr k (fun y => eqq h k x y * eqq k h y x * (bq h k x y * cq h k x y))) = Pr h (fun x => Pr k (fun y => eqq h k x y)) * Pr h (fun x => Pr k (fun y => eqq k h y x)) * (Pr h (fun x => Pr k (fun y => bq h k x y)) * Pr h (fun x => Pr k (fun y => cq h k x y))) := by
    simp only [P_mul]
  rw [bc, ← e1, ← e2, e3] at e4
  have hb : Pr h (fun x => Pr k (fun y => cq h k x y)) * Pr h (fun x => Pr k (fun y => cq h k x y)) = 1 := by
    rcases PP_pm h k (fun x y => cq h k x y) (fun x y => by unfold cq; split <;> omega) with z | z <;> rw [z] <;> rfl
  rw [hb, Int.mul_one] at e4
  rw [← e4]
  simp only [P_neg]
  split
  · rw [P_one, if_neg (by omega)]
  · rw [P_neg]
    split <;> split <;> omega
def RR (h k : Nat) : Int := if h % 2 = 1 ∧ k % 2 = 1 then -1 else 1
theorem recip (h k : Nat) : G (2 * k + 1) h = RR h k * G (2 * h + 1) k := by
  by_cases hc : Int.gcd (2 * k + 1) (2 * h + 1) = 1
  · have e := recip0 hc
    have h1 : Int.gcd (2 * h + 1) (2 * k + 1) = 1 := by rw [Int.gcd_comm]; exact hc
    unfold RR
    rw [← e, Int.mul_assoc]
    rcases G_pm h1 with z | z <;> rw [z] <;> simp
  · rw [G_zero hc, G_zero (a := 2 * h + 1) (h := k) (by rw [Int.gcd_comm]; exact hc), Int.mul_zero]
theorem P_cut (c : Nat) : ∀ n : Nat, Pr n (fun i => if i < c then 1 else -1) = if (n - c) % 2 = 0 then 1 else -1
  | 0 => by simp [Pr]
  | n + 1 => by
    simp only [Pr]
    rw [P_cut c n]
    split <;> split <;> split <;> omega
theorem G_two (h : Nat) : G 2 h = if (2 * h + 1) % 8 = 3 ∨ (2 * h + 1) % 8 = 5 then -1 else 1 := by
  have e : G 2 h = Pr h (fun i => if i < h / 2 then 1 else -1) := by
    refine P_congr h fun i hi => ?_
    rw [sgv (r := 2 * ((i : Int) + 1)) ⟨0, by omega⟩ (by omega) (by omega), if_neg (by omega)]
    split <;> split <;> omega
  rw [e, P_cut]
  split <;> split <;> omega
theorem G_at0 (h : Nat) : G 0 h = if h = 0 then 1 else 0 := by
  by_cases hh : h = 0
  · rw [if_pos hh, hh]
    rfl
  · rw [if_neg hh]
    refine P_zero h _ 0 (by omega) ?_
    rw [Int.zero_mul]
    rfl
theorem G_eq_zero {a : Int} {h : Nat} : G a h = 0 ↔ Int.gcd a (2 * h + 1) ≠ 1 := by
  constructor
  · intro z hc
    rcases G_pm hc with e | e <;> rw [e] at z <;> cases z
  · exact G_zero
end QR
section
open QR
theorem jac_G : ∀ (n h : Nat), jac n (2 * h + 1) = G n h := by
  intro n
  induction n using Nat.strongRecOn with
  | ind n ih =>
    intro h
    by_cases h0 : n = 0
    · subst h0
      rw [jac_zero, show ((0 : Nat) : Int) = 0 from rfl, G_at0]
      split <;> split <;> omega
    · by_cases h2 : n % 2 = 0
      · rw [jac_two h0 h2, ih (n / 2) (by omega) h, show (n : Int) = 2 * ((n / 2 : Nat) : Int) by omega, G_mul, G_two]
        rfl
      · obtain ⟨k, rfl⟩ : ∃ k, n = 2 * k + 1 := ⟨n / 2, by omega⟩
        rw [jac_turn (by omega), ih ((2 * h + 1) % (2 * k + 1)) (Nat.mod_lt _ (by omega)) k]
        have e : G (((2 * k + 1 : Nat) : Int)) h = RR h k * G (2 * h + 1) k := by
          rw [← recip]
          rfl
        rw [e]
        have e2 : G (((2 * h + 1) % (2 * k + 1) : Nat) : Int) k = G (2 * h + 1) k := by
          refine G_congr ⟨-((2 * (h : Int) + 1) / (2 * k + 1)), ?_⟩
          have := Int.mul_ediv_add_emod (2 * (h : Int) + 1) (2 * k + 1)
          rw [Int.natCast_emod, show ((2 * h + 1 : Nat) : Int) = 2 * (h : Int) + 1 by omega, show ((2 * k + 1 : Nat) : Int) = 2 * (k : Int) + 1 by omega, Int.mul_neg]
          omega
        rw [e2]
        congr 1
        unfold facR RR
        split <;> split <;> omega
theorem sgn_G (n : Int) (h : Nat) : sgn n (2 * h + 1) = G n h := by
  unfold sgn
  rw [show (2 * (h : Int) + 1).toNat = 2 * h + 1 by omega, jac_G]
  have h0 := rem_lo h n
  rw [Int.toNat_of_nonneg h0]
  obtain ⟨u, hu⟩ := dvd_rem h n
  exact G_congr ⟨-u, by rw [Int.mul_neg, ← hu]; omega⟩
theorem odd_half {m : Int} (h1 : 1 ≤ m) (h2 : m % 2 = 1) : ∃ h : Nat, m = 2 * h + 1 := ⟨(m / 2).toNat, by omega⟩
end
section
open QR
variable {m : Int} (h1 : 1 ≤ m) (h2 : m % 2 = 1)
include h1 h2
theorem sgn_mul (a b : Int) : sgn (a * b) m = sgn a m * sgn b m := by
  obtain ⟨h, rfl⟩ := odd_half h1 h2
  rw [sgn_G, sgn_G, sgn_G, G_mul]
theorem sgn_zero {a : Int} : sgn a m = 0 ↔ Int.gcd a m ≠ 1 := by
  obtain ⟨h, rfl⟩ := odd_half h1 h2
  rw [sgn_G, G_eq_zero]
theorem sgn_pm {a : Int} (hc : Int.gcd a m = 1) : sgn a m = 1 ∨ sgn a m = -1 := by
  obtain ⟨h, rfl⟩ := odd_half h1 h2
  rw [sgn_G]
  exact G_pm hc
theorem sgn_sq (a : Int) : sgn a m * sgn a m = if Int.gcd a m = 1 then 1 else 0 := by
  by_cases hc : Int.gcd a m = 1
  · rw [if_pos hc]
    rcases sgn_pm h1 h2 hc with e | e <;> rw [e] <;> rfl
  · rw [if_neg hc, (sgn_zero h1 h2).mpr hc]
    rfl
end
/-! part m_euler -/
namespace QR
theorem al_inj {b : Int} {h : Nat} (hc : Int.gcd b (2 * h + 1) = 1) : ∀ i, i < h → ∀ j, j < h → al h (b * ((i : Int) + 1)) = al h (b * ((j : Int) + 1)) → i = j := by
  intro i hi j hj e
  obtain ⟨u, hu⟩ := al_dvd (cop_ne hc hi)
  obtain ⟨v, hv⟩ := al_dvd (cop_ne hc hj)
  rw [e] at hu
  rcases sg_pm (cop_ne hc hi) with s | s <;> rcases sg_pm (cop_ne hc hj) with t | t <;> rw [s] at hu <;> rw [t] at hv
  · have := small_dvd (cop_dvd (x := (i : Int) - j) hc ⟨u - v, by grind⟩) (by omega) (by omega)
    omega
  · have := small_dvd (cop_dvd (x := (i : Int) + j + 2) hc ⟨u + v, by grind⟩) (by omega) (by omega)
    omega
  · have := small_dvd (cop_dvd (x := (i : Int) + j + 2) hc ⟨u + v, by grind⟩) (by omega) (by omega)
    omega
  · have := small_dvd (cop_dvd (x := (i : Int) - j) hc ⟨u - v, by grind⟩) (by omega) (by omega)
    omega
theorem Pm.cop {p : Int} (hp : Pm p) {x : Int} (hx : ¬ p ∣ x) : Int.gcd x p = 1 := by
  have hd := Int.gcd_dvd_right x p
  have hl := Int.gcd_dvd_left x p
  have h2 := hp.1
  have hle := Int.le_of_dvd (by omega) hd
  generalize hg : Int.gcd x p = g at *
  by_cases h1 : (g : Int) = p
  · rw [h1] at hl
    exact absurd hl hx
  · by_cases h0 : g = 0
    · rw [h0] at hd
      have := Int.zero_dvd.mp hd
      omega
    · have := hp.2 g
      by_cases hz : g = 1
      · exact hz
      · exact absurd hd (this (by omega) (by omega))
theorem Pm.dvd_mul {p : Int} (hp : Pm p) {x y : Int} (h : p ∣ x * y) : p ∣ x ∨ p ∣ y := by
  by_cases hx : p ∣ x
  · exact .inl hx
  · exact .inr (cop_dvd (hp.cop hx) h)
theorem Pr_dvd {m : Int} : ∀ (n : Nat) (f g : Nat → Int), (∀ i, i < n → m ∣ f i - g i) → m ∣ Pr n f - Pr n g
  | 0, _, _, _ => ⟨0, by simp [Pr]⟩
  | n + 1, f, g, h => by
    obtain ⟨u, hu⟩ := Pr_dvd n f g fun i hi => h i (by omega)
    obtain ⟨v, hv⟩ := h n (by omega)
    exact ⟨u * f n + Pr n g * v, by simp only [Pr]; grind⟩
theorem Pr_cancel {m : Int} : ∀ (n : Nat) (f : Nat → Int) (x : Int), (∀ i, i < n → Int.gcd (f i) m = 1) → m ∣ Pr n f * x → m ∣ x
  | 0, _, x, _, h => by simpa [Pr] using h
  | n + 1, f, x, hc, h => by
    simp only [Pr] at h
    rw [Int.mul_assoc] at h
    exact cop_dvd (hc n (by omega)) (Pr_cancel n f _ (fun i hi => hc i (by omega)) h)
theorem Pr_const (a : Int) (f : Nat → Int) : ∀ n : Nat, Pr n (fun i => a * f i) = a ^ n * Pr n f
  | 0 => by simp [Pr]
  | n + 1 => by
    simp only [Pr]
    rw [Pr_const a f n, Int.pow_succ]
    grind
theorem gauss {h : Nat} (hp : Pm (2 * h + 1)) {a : Int} (ha : ¬ (2 * (h : Int) + 1) ∣ a) : (2 * (h : Int) + 1) ∣ a ^ h - G a h := by
  have hc := hp.cop ha
  have h1 : (2 * (h : Int) + 1) ∣ Pr h (fun i => a * ((i : Int) + 1)) - Pr h (fun i => sg h (a * ((i : Int) + 1)) * ((al h (a * ((i : Int) + 1)) : Int) + 1)) :=
    Pr_dvd h _ _ fun i hi => al_dvd (cop_ne hc hi)
  have h2 : Pr h (fun i => (al h (a * ((i : Int) + 1)) : Int) + 1) = Pr h (fun i => (i : Int) + 1) :=
    P_perm (π := fun i => al h (a * ((i : Int) + 1))) (fun i => (i : Int) + 1) (fun i hi => al_lt (cop_ne hc hi)) (al_inj hc)
  rw [Pr_const, P_mul, h2] at h1
  refine Pr_cancel h (fun i => (i : Int) + 1) _ (fun i hi => hp.cop fun z => ?_) ?_
  · have := Int.le_of_dvd (by omega) z
    omega
  · obtain ⟨u, hu⟩ := h1
    exact ⟨u, by unfold G; grind⟩
section
variable {h : Nat} (hp : Pm (2 * h + 1))
include hp
theorem uniq {a x y z : Int} (hx : ¬ (2 * (h : Int) + 1) ∣ x) (h1 : (2 * (h : Int) + 1) ∣ x * y - a) (h2 : (2 * (h : Int) + 1) ∣ x * z - a) (hy : 0 < y ∧ y ≤ 2 * h) (hz : 0 < z ∧ z ≤ 2 * h) : y = z := by
  obtain ⟨u, hu⟩ := h1
  obtain ⟨v, hv⟩ := h2
  have := small_dvd (cop_dvd (x := y - z) (hp.cop hx) ⟨u - v, by grind⟩) (by omega) (by omega)
  omega
end
end QR
/-! part m_core -/
def sfL : List (Int × Nat) → Int
  | [] => 1
  | x :: l => (if x.2 % 2 = 1 then x.1 else 1) * sfL l
def sdL : List (Int × Nat) → Int
  | [] => 1
  | x :: l => x.1 ^ (x.2 / 2) * sdL l
theorem sf_sd : ∀ fs : List (Int × Nat), sfL fs * (sdL fs * sdL fs) = prodF fs
  | [] => rfl
  | x :: l => by
    have ih := sf_sd l
    simp only [sfL, sdL, prodF]
    rw [← ih]
    by_cases h : x.2 % 2 = 1
    · rw [if_pos h]
      have e : x.1 ^ x.2 = x.1 * (x.1 ^ (x.2 / 2) * x.1 ^ (x.2 / 2)) := by
        conv => lhs; rw [show x.2 = x.2 / 2 + x.2 / 2 + 1 by omega]
        rw [Int.pow_succ, Int.pow_add, Int.mul_comm]
      rw [e]
      grind
    · rw [if_neg h]
      have e : x.1 ^ x.2 = x.1 ^ (x.2 / 2) * x.1 ^ (x.2 / 2) := by
        conv => lhs; rw [show x.2 = x.2 / 2 + x.2 / 2 by omega]
        rw [Int.pow_add]
      rw [e]
      grind
theorem sdL_pos : ∀ {fs : List (Int × Nat)}, (∀ x, x ∈ fs → QR.Pm x.1 ∧ 1 ≤ x.2) → 1 ≤ sdL fs
  | [], _ => Int.le_refl _
  | x :: l, h => by
    have ih := sdL_pos fun y hy => h y (List.mem_cons_of_mem _ hy)
    have := (h x (List.mem_cons_self ..)).1.1
    simp only [sdL]
    exact Int.mul_pos (Int.pow_pos (by omega)) (by omega)
theorem prime_eq {p q : Int} (hp : QR.Pm p) (hq : QR.Pm q) (h : q ∣ p) : q = p := by
  have := Int.le_of_dvd (by have := hp.1; omega) h
  rcases Int.lt_or_le q p with z | z
  · exact absurd h (hp.2 q hq.1 z)
  · omega
theorem mem_of_dvd {q : Int} (hq : QR.Pm q) : ∀ {fs : List (Int × Nat)}, (∀ x, x ∈ fs → QR.Pm x.1 ∧ 1 ≤ x.2) → q ∣ sfL fs → ∃ x, x ∈ fs ∧ x.1 = q
  | [], _, h => by
    have : q ≤ 1 := Int.le_of_dvd (by decide) h
    have := hq.1
    omega
  | x :: l, hp, h => by
    simp only [sfL] at h
    rcases hq.dvd_mul h with z | z
    · split at z
      · exact ⟨x, List.mem_cons_self .., (prime_eq (hp x (List.mem_cons_self ..)).1 hq z).symm⟩
      · have := Int.le_of_dvd (by decide) z
        have := hq.1
        omega
    · obtain ⟨y, hy, e⟩ := mem_of_dvd hq (fun y hy => hp y (List.mem_cons_of_mem _ hy)) z
      exact ⟨y, List.mem_cons_of_mem _ hy, e⟩
theorem no_sq {q : Int} (hq : QR.Pm q) : ∀ {fs : List (Int × Nat)}, (∀ x, x ∈ fs → QR.Pm x.1 ∧ 1 ≤ x.2) → (fs.Pairwise fun a b => a.1 < b.1) → ¬ q * q ∣ sfL fs
  | [], _, _, h => by
    have : q ≤ 1 := Int.le_of_dvd (by decide) (Int.dvd_trans (Int.dvd_mul_right q q) h)
    have := hq.1
    omega
  | x :: l, hp, ha, h => by
    have hx := (hp x (List.mem_cons_self ..)).1
    have hl := fun y hy => hp y (List.mem_cons_of_mem _ hy)
    have ha' := List.pairwise_cons.mp ha
    simp only [sfL] at h
    by_cases ho : x.2 % 2 = 1
    · rw [if_pos ho] at h
      by_cases hqx : q = x.1
      · obtain ⟨c, hc⟩ := h
        have : q ∣ sfL l := ⟨c, by
          rw [hqx, Int.mul_assoc] at hc
          rw [hqx]
          exact Int.eq_of_mul_eq_mul_left (by have := hx.1; omega) hc⟩
        obtain ⟨y, hy, e⟩ := mem_of_dvd hq hl this
        have := ha'.1 y hy
        omega
      · have nd : ¬ q ∣ x.1 := fun z => hqx (prime_eq hx hq z)
        obtain ⟨c, hc⟩ := h
        have h1 : q ∣ sfL l := by
          rcases hq.dvd_mul (y := sfL l) (x := x.1) ⟨q * c, by rw [hc, Int.mul_assoc]⟩ with z | z
          · exact absurd z nd
          · exact z
        obtain ⟨d, hd⟩ := h1
        have h2 : q ∣ x.1 * d := ⟨c, by
          rw [hd] at hc
          refine Int.eq_of_mul_eq_mul_left (a := q) (by have := hq.1; omega) ?_
          grind⟩
        rcases hq.dvd_mul h2 with z | z
        · exact nd z
        · obtain ⟨g, hg⟩ := z
          exact no_sq hq hl ha'.2 ⟨g, by rw [hd, hg, Int.mul_assoc]⟩
    · rw [if_neg ho, Int.one_mul] at h
      exact no_sq hq hl ha'.2 h
theorem prime_in : ∀ (n : Nat) (k : Int), 2 ≤ k → k ≤ n → ∃ q, QR.Pm q ∧ q ∣ k
  | 0, k, h1, h2 => by omega
  | n + 1, k, h1, h2 => by
    by_cases hp : QR.Pm k
    · exact ⟨k, hp, Int.dvd_refl k⟩
    · have : ∃ d : Int, 2 ≤ d ∧ d < k ∧ d ∣ k := Classical.byContradiction fun hn => hp ⟨h1, fun d a b c => hn ⟨d, a, b, c⟩⟩
      obtain ⟨d, a, b, c⟩ := this
      obtain ⟨q, hq, hd⟩ := prime_in n d a (by omega)
      exact ⟨q, hq, Int.dvd_trans hd c⟩
/-- a number without square divisors, times a square -/
structure CoreOk (n s r : Int) : Prop where
  prod : s * r * r = n
  pos : 1 ≤ r
  free : ∀ k : Int, 2 ≤ k → ¬ k * k ∣ s
theorem core_ok {n : Int} {fs : List (Int × Nat)} (h : FacOk (if n < 0 then -n else n) fs) : CoreOk n ((if n < 0 then -1 else 1) * sfL fs) (sdL fs) := by
  have hs := sf_sd fs
  rw [h.prod] at hs
  refine ⟨?_, sdL_pos h.prime, fun k hk hd => ?_⟩
  · split at hs <;> split <;> grind
  · obtain ⟨q, hq, hqk⟩ := prime_in k.toNat k hk (by omega)
    have h1 : q * q ∣ sfL fs := by
      have h2 : k * k ∣ sfL fs := by
        split at hd
        · rw [Int.neg_mul, Int.one_mul] at hd
          exact Int.dvd_neg.mp hd
        · rw [Int.one_mul] at hd
          exact hd
      exact Int.dvd_trans (Int.mul_dvd_mul hqk hqk) h2
    exact no_sq hq h.prime h.asc h1
theorem pow_le_prod : ∀ {fs : List (Int × Nat)}, (∀ x, x ∈ fs → QR.Pm x.1 ∧ 1 ≤ x.2) → ∀ x, x ∈ fs → x.1 ^ x.2 ≤ prodF fs
  | [], _, _, hx => absurd hx List.not_mem_nil
  | y :: l, h, x, hx => by
    have hy := (h y (List.mem_cons_self ..))
    have hl := fun z hz => h z (List.mem_cons_of_mem _ hz)
    have b := prodF_big l hl
    have p0 : (0 : Int) < 2 ^ l.length := Int.pow_pos (by decide)
    have p1 : (1 : Int) ≤ y.1 ^ y.2 := Int.pow_pos (by have := hy.1.1; omega)
    simp only [prodF]
    rcases List.mem_cons.mp hx with e | e
    · rw [e]
      have : y.1 ^ y.2 * 1 ≤ y.1 ^ y.2 * prodF l := Int.mul_le_mul_of_nonneg_left (by omega) (by omega)
      omega
    · have ih := pow_le_prod hl x e
      have : 1 * prodF l ≤ y.1 ^ y.2 * prodF l := Int.mul_le_mul_of_nonneg_right p1 (by omega)
      omega
theorem fac_small {n : Int} {fs : List (Int × Nat)} (h : FacOk n fs) (hn : n < 2 ^ 60) {x : Int × Nat} (hx : x ∈ fs) : 2 ≤ x.1 ∧ x.1 < 2 ^ 60 ∧ 1 ≤ x.2 ∧ x.2 < 60 := by
  have a := pow_le_prod h.prime x hx
  rw [h.prod] at a
  obtain ⟨p, e⟩ := h.prime x hx
  have p1 := p.1
  refine ⟨p1, ?_, e, ?_⟩
  · obtain ⟨k, hk⟩ : ∃ k, x.2 = k + 1 := ⟨x.2 - 1, by omega⟩
    rw [hk, Int.pow_succ] at a
    have q : (1 : Int) ≤ x.1 ^ k := Int.pow_pos (by omega)
    have : 1 * x.1 ≤ x.1 ^ k * x.1 := Int.mul_le_mul_of_nonneg_right q (by omega)
    omega
  · rcases Nat.lt_or_ge x.2 60 with z | z
    · exact z
    · exfalso
      have b1 : (2 : Int) ^ 60 ≤ 2 ^ x.2 := by
        have := Nat.pow_le_pow_right (show 0 < 2 by decide) z
        exact_mod_cast this
      have b2 : (2 : Int) ^ x.2 ≤ x.1 ^ x.2 := by
        have := Nat.pow_le_pow_left (show 2 ≤ x.1.toNat by omega) x.2
        have e : ((x.1.toNat : Nat) : Int) = x.1 := by omega
        rw [← e]
        exact_mod_cast this
      omega
theorem core_uniq {s r s2 r2 : Int} (hr : 1 ≤ r) (hr2 : 1 ≤ r2) (hf : ∀ k : Int, 2 ≤ k → ¬ k * k ∣ s) (hf2 : ∀ k : Int, 2 ≤ k → ¬ k * k ∣ s2) (e : s * r * r = s2 * r2 * r2) : s = s2 ∧ r = r2 := by
  obtain ⟨a, ha⟩ := Int.gcd_dvd_left r r2
  obtain ⟨b, hb⟩ := Int.gcd_dvd_right r r2
  have g0 : 0 < Int.gcd r r2 := Int.gcd_pos_of_ne_zero_left _ (by omega)
  have hc : Int.gcd a b = 1 := by
    have h1 : Int.gcd ((Int.gcd r r2 : Nat) * a) ((Int.gcd r r2 : Nat) * b) = Int.gcd r r2 := by rw [← ha, ← hb]
    rw [Int.gcd_mul_left] at h1
    have h2 : (((Int.gcd r r2 : Nat)) : Int).natAbs = Int.gcd r r2 := by omega
    rw [h2] at h1
    exact Nat.eq_of_mul_eq_mul_left g0 (by rw [h1, Nat.mul_one])
  generalize hg : (Int.gcd r r2 : Nat) = g at *
  have gp : (0 : Int) < g := by omega
  have a1 : 1 ≤ a := by
    rcases Int.lt_or_le 0 a with z | z
    · exact z
    · have : (g : Int) * a ≤ g * 0 := Int.mul_le_mul_of_nonneg_left z (by omega)
      omega
  have b1 : 1 ≤ b := by
    rcases Int.lt_or_le 0 b with z | z
    · exact z
    · have : (g : Int) * b ≤ g * 0 := Int.mul_le_mul_of_nonneg_left z (by omega)
      omega
  have e2 : s * (a * a) = s2 * (b * b) := by
    refine Int.eq_of_mul_eq_mul_left (a := (g : Int) * g) (by have := Int.mul_pos gp gp; omega) ?_
    rw [ha, hb] at e
    grind
  have hcb : Int.gcd b a = 1 := by rw [Int.gcd_comm]; exact hc
  have da : a * a ∣ s2 := by
    have h1 : a ∣ b * (b * s2) := ⟨s * a, by grind⟩
    obtain ⟨c, hc1⟩ := QR.cop_dvd hcb (QR.cop_dvd hcb h1)
    have h2 : a ∣ b * (b * c) := ⟨s, by
      refine Int.eq_of_mul_eq_mul_left (a := a) (by omega) ?_
      grind⟩
    obtain ⟨d, hd⟩ := QR.cop_dvd hcb (QR.cop_dvd hcb h2)
    exact ⟨d, by rw [hc1, hd, Int.mul_assoc]⟩
  have db : b * b ∣ s := by
    have h1 : b ∣ a * (a * s) := ⟨s2 * b, by grind⟩
    obtain ⟨c, hc1⟩ := QR.cop_dvd hc (QR.cop_dvd hc h1)
    have h2 : b ∣ a * (a * c) := ⟨s2, by
      refine Int.eq_of_mul_eq_mul_left (a := b) (by omega) ?_
      grind⟩
    obtain ⟨d, hd⟩ := QR.cop_dvd hc (QR.cop_dvd hc h2)
    exact ⟨d, by rw [hc1, hd, Int.mul_assoc]⟩
  have ea : a = 1 := by
    rcases Int.lt_or_le a 2 with z | z
    · omega
    · exact absurd da (hf2 a z)
  have eb : b = 1 := by
    rcases Int.lt_or_le b 2 with z | z
    · omega
    · exact absurd db (hf b z)
  subst ea eb
  refine ⟨by omega, by rw [ha, hb]⟩
theorem CoreOk.uniq {n s r s2 r2 : Int} (h : CoreOk n s r) (h2 : CoreOk n s2 r2) : s = s2 ∧ r = r2 := core_uniq h.pos h2.pos h.free h2.free (h.prod.trans h2.prod.symm)
theorem CoreOk.bound {n s r B : Int} (h : CoreOk n s r) (h0 : n ≠ 0) (h1 : -B ≤ n) (h2 : n ≤ B) : s ≠ 0 ∧ -B ≤ s ∧ s ≤ B ∧ r ≤ B := by
  have hp := h.prod
  have hr := h.pos
  have hr2 : 1 ≤ r * r := Int.mul_pos (by omega) (by omega)
  have hr3 : r ≤ r * r := by
    have : r * 1 ≤ r * r := Int.mul_le_mul_of_nonneg_left hr (by omega)
    omega
  rw [Int.mul_assoc] at hp
  rcases Int.lt_trichotomy s 0 with z | z | z
  · have a : 1 * (r * r) ≤ -s * (r * r) := Int.mul_le_mul_of_nonneg_right (by omega) (by omega)
    have b : -s * 1 ≤ -s * (r * r) := Int.mul_le_mul_of_nonneg_left hr2 (by omega)
    simp only [Int.neg_mul] at a b
    omega
  · rw [z, Int.zero_mul] at hp
    omega
  · have a : 1 * (r * r) ≤ s * (r * r) := Int.mul_le_mul_of_nonneg_right (by omega) (by omega)
    have b : s * 1 ≤ s * (r * r) := Int.mul_le_mul_of_nonneg_left hr2 (by omega)
    omega
theorem CoreOk.self {n s r : Int} (h : CoreOk n s r) : CoreOk s s 1 := ⟨by omega, by decide, h.free⟩
/-! part m_sq -/
theorem sgn_away {p n : Int} (hp : QR.OP p) (hn : ¬ n % p = 0) : sgn n p = 1 ∨ sgn n p = -1 :=
  sgn_pm (by have := hp.three; omega) hp.2 (hp.1.cop fun z => hn (Int.emod_eq_zero_of_dvd z))
theorem sgn_at0 {p n : Int} (hp : QR.OP p) (hn : n % p = 0) : sgn n p = 0 :=
  (sgn_zero (by have := hp.three; omega) hp.2).mpr fun z => by
    have := hp.three
    have hd := Int.dvd_of_emod_eq_zero hn
    have h1 : p ∣ ((Int.gcd n p : Nat) : Int) := Int.dvd_coe_gcd hd (Int.dvd_refl p)
    rw [z] at h1
    have := Int.le_of_dvd (by decide) h1
    omega
/-! part m_cop -/
namespace QR
theorem exists_pm : ∀ (n : Nat), 2 ≤ n → ∃ p : Int, Pm p ∧ p ∣ (n : Int) := by
  intro n
  induction n using Nat.strongRecOn with
  | _ n ih =>
    intro h2
    by_cases hp : Pm (n : Int)
    · exact ⟨n, hp, Int.dvd_refl _⟩
    · have : ∃ d : Int, 2 ≤ d ∧ d < n ∧ d ∣ (n : Int) := Classical.byContradiction fun h => hp ⟨by omega, fun d a b c => h ⟨d, a, b, c⟩⟩
      obtain ⟨d, a, b, c⟩ := this
      obtain ⟨p, q1, q2⟩ := ih d.toNat (by omega) (by omega)
      rw [show ((d.toNat : Nat) : Int) = d by omega] at q2
      exact ⟨p, q1, Int.dvd_trans q2 c⟩
theorem dvd_gcd {d x m : Int} (h : d ∣ x) (k : d ∣ m) : d ∣ ((Int.gcd x m : Nat) : Int) := Int.dvd_coe_gcd h k
/-- coprime: no prime divides both -/
theorem cop_iff {x m : Int} : Int.gcd x m = 1 ↔ ∀ p : Int, Pm p → p ∣ x → ¬ p ∣ m := by
  constructor
  · intro h p hp a b
    have := dvd_gcd a b
    rw [h] at this
    have := Int.le_of_dvd (by decide) this
    have := hp.1
    omega
  · intro h
    rcases Nat.lt_or_ge (Int.gcd x m) 2 with z | z
    · rcases Nat.lt_or_ge 0 (Int.gcd x m) with y | y
      · omega
      · exfalso
        have e : Int.gcd x m = 0 := by omega
        obtain ⟨e1, e2⟩ := Int.gcd_eq_zero_iff.mp e
        subst e1 e2
        exact h 2 pm_two (Int.dvd_zero 2) (Int.dvd_zero 2)
    · obtain ⟨p, hp, hd⟩ := exists_pm _ z
      exact absurd (Int.dvd_trans hd (Int.gcd_dvd_right ..)) (h p hp (Int.dvd_trans hd (Int.gcd_dvd_left ..)))
theorem cop_dvd_right {x m n : Int} (h : Int.gcd x m = 1) (d : n ∣ m) : Int.gcd x n = 1 := cop_iff.mpr fun p hp a b => cop_iff.mp h p hp a (Int.dvd_trans b d)
theorem cop_congr {x y m : Int} (h : m ∣ x - y) : Int.gcd x m = 1 ↔ Int.gcd y m = 1 := by
  have key : ∀ x y : Int, m ∣ x - y → Int.gcd x m = 1 → Int.gcd y m = 1 := fun x y h hx => cop_iff.mpr fun p hp a b => cop_iff.mp hx p hp (by
    have := Int.dvd_add (Int.dvd_trans b h) a
    rwa [Int.sub_add_cancel] at this) b
  refine ⟨key x y h, key y x ?_⟩
  obtain ⟨k, hk⟩ := h
  exact ⟨-k, by rw [Int.mul_neg, ← hk]; omega⟩
theorem dvd_sub_emod (x m : Int) : m ∣ x - x % m := ⟨x / m, by have := Int.mul_ediv_add_emod x m; omega⟩
theorem cop_emod {x m : Int} : Int.gcd (x % m) m = 1 ↔ Int.gcd x m = 1 := (cop_congr (dvd_sub_emod x m)).symm
theorem cop_mul {x m n : Int} (h : Int.gcd x m = 1) (k : Int.gcd x n = 1) : Int.gcd x (m * n) = 1 := cop_iff.mpr fun p hp a b => (Pm.dvd_mul hp b).elim (cop_iff.mp h p hp a) (cop_iff.mp k p hp a)
theorem emod_eq_of_dvd {x y m : Int} (h : m ∣ x - y) : x % m = y % m := Int.emod_eq_emod_iff_emod_sub_eq_zero.mpr (Int.emod_eq_zero_of_dvd h)
theorem dvd_of_emod_eq {x y m : Int} (h : x % m = y % m) : m ∣ x - y := Int.dvd_of_emod_eq_zero (Int.emod_eq_emod_iff_emod_sub_eq_zero.mp h)
theorem pm_cop {p m : Int} (hp : Pm p) : Int.gcd p m = 1 ↔ ¬ p ∣ m := by
  constructor
  · intro h d
    exact cop_iff.mp h p hp (Int.dvd_refl p) d
  · intro h
    refine cop_iff.mpr fun q hq a b => ?_
    have q2 := hq.1
    have hle := Int.le_of_dvd (by have := hp.1; omega) a
    rcases Int.lt_or_eq_of_le hle with z | z
    · exact hp.2 q q2 z a
    · exact h (z ▸ b)
end QR
/-- the ints from 0 on below m coprime to it -/
def uL (m : Int) : List Int := ((List.range m.toNat).map (fun i : Nat => (i : Int))).filter (fun r => decide (Int.gcd r m = 1))
theorem mem_uL {m k : Int} : k ∈ uL m ↔ 0 ≤ k ∧ k < m ∧ Int.gcd k m = 1 := by
  unfold uL
  rw [List.mem_filter, decide_eq_true_iff, List.mem_map]
  constructor
  · rintro ⟨⟨i, hi, rfl⟩, h⟩
    rw [List.mem_range] at hi
    exact ⟨by omega, by omega, h⟩
  · rintro ⟨a, b, h⟩
    exact ⟨⟨k.toNat, List.mem_range.mpr (by omega), by omega⟩, h⟩
/-! part m_period -/
/-! part m_germ -/
/-- rests modulo m tell no less modulo s -/
def Lv (m : Int) (R : List Int) (s : Int) : Prop := ∀ x y : Int, Int.gcd x m = 1 → Int.gcd y m = 1 → s ∣ x - y → (x % m ∈ R ↔ y % m ∈ R)
/-- the same told by a smaller modulus -/
structure Sub (m : Int) (R : List Int) (m' : Int) (R' : List Int) : Prop where
  dvd : m' ∣ m
  same : ∀ x : Int, Int.gcd x m = 1 → (x % m' ∈ R' ↔ x % m ∈ R)
theorem Sub.refl (m : Int) (R : List Int) : Sub m R m R := ⟨Int.dvd_refl m, fun _ _ => Iff.rfl⟩
theorem Sub.trans {m m1 m2 : Int} {R R1 R2 : List Int} (a : Sub m R m1 R1) (b : Sub m1 R1 m2 R2) : Sub m R m2 R2 := ⟨Int.dvd_trans b.dvd a.dvd, fun x h => (b.same x (QR.cop_dvd_right h a.dvd)).trans (a.same x h)⟩
structure Desc (m : Int) (R S : List Int) : Prop where
  pos : 1 ≤ m
  rests : ∀ r ∈ R, 0 ≤ r ∧ r < m ∧ Int.gcd r m = 1
  singles : ∀ p ∈ S, QR.OP p
def toldP (m : Int) (R : List Int) (p : Int) : Prop := ¬ p ∣ m ∧ p % m ∈ R
instance (m : Int) (R : List Int) (p : Int) : Decidable (toldP m R p) := inferInstanceAs (Decidable (¬ p ∣ m ∧ p % m ∈ R))
def memP (m : Int) (R S : List Int) (p : Int) : Prop := ¬ (toldP m R p ↔ p ∈ S)
instance (m : Int) (R S : List Int) (p : Int) : Decidable (memP m R S p) := inferInstanceAs (Decidable (¬ (toldP m R p ↔ p ∈ S)))
/-- what shortening shows -/
structure Short (m : Int) (R : List Int) (s : Int) (L : List Int) : Prop where
  inc : L.Pairwise (· < ·)
  mem : ∀ k ∈ L, k ∈ uL s
  same : ∀ x : Int, Int.gcd x m = 1 → (x % s ∈ L ↔ x % m ∈ R)
def liftsL (r s q : Int) : List Int := (List.range q.toNat).map fun k : Nat => r + (0 + (k : Int)) * s
def lftL (m r s q : Int) : List Int := (liftsL r s q).filter fun l => decide (Int.gcd l m = 1)
section
variable {m s q r : Int} {R : List Int}
theorem mem_lifts {l : Int} : l ∈ liftsL r s q ↔ ∃ k : Int, 0 ≤ k ∧ k < q ∧ l = r + k * s := by
  unfold liftsL
  rw [List.mem_map]
  constructor
  · rintro ⟨k, hk, rfl⟩
    rw [List.mem_range] at hk
    exact ⟨k, by omega, by omega, by rw [Int.zero_add]⟩
  · rintro ⟨k, a, b, rfl⟩
    exact ⟨k.toNat, List.mem_range.mpr (by omega), by rw [Int.zero_add, show ((k.toNat : Nat) : Int) = k by omega]⟩
theorem lift_bound {k : Int} (hs : 0 < s) (hm : m = s * q) (r0 : 0 ≤ r) (r1 : r < s) (k0 : 0 ≤ k) (k1 : k < q) : 0 ≤ r + k * s ∧ r + k * s < m := by
  have a : 0 ≤ k * s := Int.mul_nonneg k0 (by omega)
  have b : k * s ≤ (q - 1) * s := Int.mul_le_mul_of_nonneg_right (by omega) (by omega)
  have c : (q - 1) * s = s * q - s := by grind
  omega
theorem lift_mod {k : Int} (r0 : 0 ≤ r) (r1 : r < s) : (r + k * s) % s = r := by
  rw [Int.add_mul_emod_self_right, Int.emod_eq_of_lt r0 r1]
/-- a coprime lift there is -/
theorem lft_ne (hq : QR.Pm q) (hs : 0 < s) (hm : m = s * q) (hr : r ∈ uL s) : lftL m r s q ≠ [] := by
  obtain ⟨r0, r1, rc⟩ := mem_uL.mp hr
  have q2 := hq.1
  have c0 : ∀ k : Int, Int.gcd (r + k * s) s = 1 := fun k => (QR.cop_congr (y := r) ⟨k, by rw [Int.mul_comm]; omega⟩).mpr rc
  have : ∃ k : Int, 0 ≤ k ∧ k < q ∧ Int.gcd (r + k * s) m = 1 := by
    by_cases a : q ∣ r
    · refine ⟨1, by omega, by omega, ?_⟩
      rw [hm]
      refine QR.cop_mul (c0 1) (QR.cop_iff.mpr fun p hp b c => ?_)
      have pq : p = q := by
        rcases Int.lt_or_eq_of_le (Int.le_of_dvd (by omega) c) with z | z
        · exact absurd c (hq.2 p hp.1 z)
        · exact z
      subst pq
      have d : p ∣ s := by
        have := Int.dvd_sub b a
        rwa [Int.one_mul, Int.add_comm, Int.add_sub_cancel] at this
      exact QR.cop_iff.mp rc p hp a d
    · refine ⟨0, by omega, by omega, ?_⟩
      rw [hm, Int.zero_mul, Int.add_zero]
      refine QR.cop_mul rc (QR.cop_iff.mpr fun p hp b c => ?_)
      have pq : p = q := by
        rcases Int.lt_or_eq_of_le (Int.le_of_dvd (by omega) c) with z | z
        · exact absurd c (hq.2 p hp.1 z)
        · exact z
      exact a (pq ▸ b)
  obtain ⟨k, k0, k1, kc⟩ := this
  intro e
  have : r + k * s ∈ lftL m r s q := List.mem_filter.mpr ⟨mem_lifts.mpr ⟨k, k0, k1, rfl⟩, decide_eq_true kc⟩
  rw [e] at this
  cases this
theorem lft_prop (hs : 0 < s) (hm : m = s * q) (hr : r ∈ uL s) {l : Int} (hl : l ∈ lftL m r s q) : Int.gcd l m = 1 ∧ l % m = l ∧ l % s = r := by
  obtain ⟨r0, r1, rc⟩ := mem_uL.mp hr
  obtain ⟨a, b⟩ := List.mem_filter.mp hl
  obtain ⟨k, k0, k1, rfl⟩ := mem_lifts.mp a
  obtain ⟨b0, b1⟩ := lift_bound hs hm r0 r1 k0 k1
  exact ⟨of_decide_eq_true b, Int.emod_eq_of_lt b0 b1, lift_mod r0 r1⟩
theorem unit_of (h : s ∣ m) {x : Int} (hs : 0 < s) (hx : Int.gcd x m = 1) : x % s ∈ uL s := mem_uL.mpr ⟨Int.emod_nonneg x (by omega), Int.emod_lt_of_pos x hs, QR.cop_emod.mpr (QR.cop_dvd_right hx h)⟩
/-- kept so far: of the units in us -/
structure Kept (m : Int) (R : List Int) (s : Int) (us L : List Int) : Prop where
  inc : L.Pairwise (· < ·)
  mem : ∀ k ∈ L, k ∈ us
  same : ∀ x : Int, Int.gcd x m = 1 → x % s ∈ us → (x % s ∈ L ↔ x % m ∈ R)
theorem Kept.nil : Kept m R s [] [] := ⟨List.Pairwise.nil, fun _ h => absurd h List.not_mem_nil, fun _ _ h => absurd h List.not_mem_nil⟩
theorem Kept.put {us L : List Int} (h : Kept m R s us L) (hlt : ∀ k ∈ us, k < r) (hall : ∀ x : Int, Int.gcd x m = 1 → x % s = r → x % m ∈ R) : Kept m R s (us ++ [r]) (L ++ [r]) := by
  refine ⟨List.pairwise_append.mpr ⟨h.inc, List.pairwise_singleton .., fun a ha b hb => by rw [List.mem_singleton.mp hb]; exact hlt a (h.mem a ha)⟩, fun k hk => ?_, fun x hx hu => ?_⟩
  · rcases List.mem_append.mp hk with hk | hk
    · exact List.mem_append_left _ (h.mem k hk)
    · exact List.mem_append_right _ hk
  · rcases List.mem_append.mp hu with hu | hu
    · rw [List.mem_append, ← h.same x hx hu, List.mem_singleton]
      refine ⟨fun z => z.elim id fun e => ?_, .inl⟩
      have := hlt _ hu
      omega
    · have e := List.mem_singleton.mp hu
      exact ⟨fun _ => hall x hx e, fun _ => List.mem_append_right _ hu⟩
theorem Kept.done {L : List Int} (h : Kept m R s (uL s) L) (hd : s ∣ m) (hs : 0 < s) : Short m R s L := ⟨h.inc, h.mem, fun x hx => h.same x hx (unit_of hd hs hx)⟩
theorem Short.lv {L : List Int} (h : Short m R s L) : Lv m R s := fun x y hx hy d => by
  rw [← h.same x hx, ← h.same y hy, QR.emod_eq_of_dvd d]
theorem Short.sub {L : List Int} (h : Short m R s L) (hd : s ∣ m) : Sub m R s L := ⟨hd, h.same⟩
/-- what stays told no less by a divisor stays so ahead of a shortening -/
theorem Lv.up {m' s' : Int} {R' : List Int} (h : Sub m R m' R') (l : Lv m' R' s') (hd : s' ∣ s) : Lv m R s := fun x y hx hy d => by
  rw [← h.same x hx, ← h.same y hy]
  exact l x y (QR.cop_dvd_right hx h.dvd) (QR.cop_dvd_right hy h.dvd) (Int.dvd_trans hd d)
end
/-- a single prime changes sides -/
def togL (S : List Int) (p : Int) : List Int := if p ∈ S then S.filter (fun o => !decide (o = p)) else S ++ [p]
theorem mem_tog {S : List Int} {p k : Int} : k ∈ togL S p ↔ if k = p then p ∉ S else k ∈ S := by
  unfold togL
  by_cases h : p ∈ S
  · rw [if_pos h]
    by_cases e : k = p
    · subst e
      simp [h]
    · simp [e]
  · rw [if_neg h]
    by_cases e : k = p
    · subst e
      simp [h]
    · simp [e]
theorem tog_nodup {S : List Int} {p : Int} (h : S.Nodup) : (togL S p).Nodup := by
  unfold togL
  split
  · exact h.filter _
  · rename_i hp
    refine List.nodup_append.mpr ⟨h, by simp, fun a ha b hb e => hp ?_⟩
    rw [List.mem_singleton] at hb
    rw [← hb, ← e]
    exact ha
theorem tog_len {S : List Int} {p : Int} : (togL S p).length ≤ S.length + 1 := by
  unfold togL
  split
  · exact Nat.le_succ_of_le (List.length_filter_le _ _)
  · simp
/-- the singles behind a shortening by q -/
def nextS (m : Int) (L S : List Int) (q : Int) : List Int := if q ≠ 2 ∧ toldP m L q then togL S q else S
/-- an odd prime, or coprime to the modulus -/
def PrOk (m p : Int) : Prop := QR.OP p ∨ (2 ≤ p ∧ Int.gcd p m = 1)
theorem PrOk.two {m p : Int} (h : PrOk m p) : 2 ≤ p := h.elim (fun h => h.1.1) (·.1)
theorem PrOk.cop {m p : Int} (h : PrOk m p) (d : ¬ p ∣ m) : Int.gcd p m = 1 := h.elim (fun h => (QR.pm_cop h.1).mpr d) (·.2)
theorem PrOk.dvd {m m' p : Int} (h : PrOk m p) (d : m' ∣ m) : PrOk m' p := h.imp_right fun h => ⟨h.1, QR.cop_dvd_right h.2 d⟩
theorem PrOk.ndvd {m p : Int} (h2 : 2 ≤ p) (h : Int.gcd p m = 1) : ¬ p ∣ m := fun d => by
  have e := QR.dvd_gcd (Int.dvd_refl p) d
  rw [h] at e
  have := Int.le_of_dvd (by decide) e
  omega
theorem memP_next {m q : Int} {R L S : List Int} (hq : QR.Pm q) (hs : 1 ≤ m / q) (hd : q ∣ m) (h : Short m R (m / q) L) {p : Int} (hp : PrOk m p) : memP (m / q) L (nextS (m / q) L S q) p ↔ memP m R S p := by
  have hm : m = m / q * q := (Int.ediv_mul_cancel hd).symm
  unfold memP nextS
  by_cases e : p = q
  · subst e
    have op : QR.OP p := hp.elim id fun z => absurd hd (PrOk.ndvd z.1 z.2)
    have p2 : p ≠ 2 := fun z => by have := op.2; omega
    have t0 : ¬ toldP m R p := fun z => z.1 hd
    by_cases t : toldP (m / p) L p
    · rw [if_pos ⟨p2, t⟩, mem_tog, if_pos rfl]
      simp [t, t0]
    · rw [if_neg fun z => t z.2]
      simp [t, t0]
  · have td : p ∣ m ↔ p ∣ m / q := by
      constructor
      · intro z
        rcases hp with hp | hp
        · rw [hm] at z
          rcases QR.Pm.dvd_mul hp.1 z with z | z
          · exact z
          · exfalso
            have p2 := hp.1.1
            rcases Int.lt_or_eq_of_le (Int.le_of_dvd (by have := hq.1; omega) z) with y | y
            · exact hq.2 p p2 y z
            · exact e y
        · exact absurd z (PrOk.ndvd hp.1 hp.2)
      · intro z
        rw [hm]
        exact Int.dvd_mul_of_dvd_left z
    have t : toldP (m / q) L p ↔ toldP m R p := by
      unfold toldP
      rw [td]
      by_cases z : p ∣ m / q
      · simp [z]
      · have := h.same p (hp.cop fun y => z (td.mp y))
        simp [z, this]
    rw [t]
    have s : p ∈ (if q ≠ 2 ∧ toldP (m / q) L q then togL S q else S) ↔ p ∈ S := by
      split
      · rw [mem_tog, if_neg e]
      · exact Iff.rfl
    rw [s]
/-! part m_facs -/
theorem pow_dvd {p q : Int} (hp : QR.Pm p) (hq : QR.Pm q) : ∀ e : Nat, p ∣ q ^ e → p = q
  | 0, h => by
    rw [Int.pow_zero] at h
    have := Int.le_of_dvd (by decide) h
    have := hp.1
    omega
  | e + 1, h => by
    rw [Int.pow_succ] at h
    rcases QR.Pm.dvd_mul hp h with h | h
    · exact pow_dvd hp hq e h
    · rcases Int.lt_or_eq_of_le (Int.le_of_dvd (by have := hq.1; omega) h) with z | z
      · exact absurd h (hq.2 p hp.1 z)
      · exact z
theorem prodF_dvd {p : Int} (hp : QR.Pm p) : ∀ {fs : List (Int × Nat)}, (∀ x, x ∈ fs → QR.Pm x.1 ∧ 1 ≤ x.2) → (p ∣ prodF fs ↔ ∃ x ∈ fs, x.1 = p)
  | [], _ => by
    constructor
    · intro h
      have := Int.le_of_dvd (by simp [prodF]) h
      have := hp.1
      simp [prodF] at *
      omega
    · rintro ⟨x, h, _⟩
      cases h
  | y :: fs, h => by
    have ih := prodF_dvd hp (fs := fs) fun x hx => h x (List.mem_cons_of_mem _ hx)
    obtain ⟨y1, y2⟩ := h y List.mem_cons_self
    constructor
    · intro d
      rcases QR.Pm.dvd_mul hp (show p ∣ y.1 ^ y.2 * prodF fs from d) with d | d
      · exact ⟨y, List.mem_cons_self, (pow_dvd hp y1 _ d).symm⟩
      · obtain ⟨x, hx, e⟩ := ih.mp d
        exact ⟨x, List.mem_cons_of_mem _ hx, e⟩
    · rintro ⟨x, hx, e⟩
      show p ∣ y.1 ^ y.2 * prodF fs
      rcases List.mem_cons.mp hx with rfl | hx
      · refine Int.dvd_mul_of_dvd_left ?_
        rw [e]
        obtain ⟨k, hk⟩ : ∃ k, x.2 = k + 1 := ⟨x.2 - 1, by omega⟩
        rw [hk, Int.pow_succ]
        exact Int.dvd_mul_left _ _
      · exact Int.dvd_mul_of_dvd_right (ih.mpr ⟨x, hx, e⟩)
theorem FacOk.mem {n p : Int} {fs : List (Int × Nat)} (h : FacOk n fs) : (∃ x ∈ fs, x.1 = p) ↔ QR.Pm p ∧ p ∣ n := by
  constructor
  · rintro ⟨x, hx, rfl⟩
    have hp := (h.prime x hx).1
    exact ⟨hp, by rw [← h.prod]; exact (prodF_dvd hp h.prime).mpr ⟨x, hx, rfl⟩⟩
  · rintro ⟨hp, d⟩
    rw [← h.prod] at d
    exact (prodF_dvd hp h.prime).mp d
theorem FacOk.len {n : Int} {fs : List (Int × Nat)} (h : FacOk n fs) (hn : n < 2 ^ 99) : fs.length < 100 := by
  have := prodF_big fs h.prime
  rw [h.prod] at this
  rcases Nat.lt_or_ge fs.length 100 with z | z
  · exact z
  · exfalso
    have a : (2 : Nat) ^ 100 ≤ 2 ^ fs.length := Nat.pow_le_pow_right (by decide) z
    have b : ((2 ^ fs.length : Nat) : Int) = 2 ^ fs.length := by rw [Int.natCast_pow]; rfl
    have c : (2 : Int) ^ 99 < ((2 ^ 100 : Nat) : Int) := by decide
    omega
/-! part m_least -/
structure LeastOk (m : Int) (R S : List Int) (m' : Int) (R' S' : List Int) : Prop where
  desc : Desc m' R' S'
  sub : Sub m R m' R'
  rn : R'.Nodup
  sn : S'.Nodup
  mem : ∀ p, PrOk m p → (memP m' R' S' p ↔ memP m R S p)
  len : m' * 2 ^ S'.length ≤ m * 2 ^ S.length
  src : ∀ p ∈ S', p ∈ S ∨ p ∣ m
/-- no divisor of the modulus by one of its primes tells as much -/
def LowAt (m : Int) (R : List Int) (q : Int) : Prop := q ∣ m → ¬ Lv m R (m / q)
theorem LeastOk.refl {m : Int} {R S : List Int} (h : Desc m R S) (rn : R.Nodup) (sn : S.Nodup) : LeastOk m R S m R S := ⟨h, Sub.refl m R, rn, sn, fun _ _ => Iff.rfl, Int.le_refl _, fun _ h => .inl h⟩
section
variable {m m' q : Int} {R S R' S' L : List Int}
theorem div_pos_of {m q : Int} (hm : 1 ≤ m) (hq : 2 ≤ q) (hd : q ∣ m) : 1 ≤ m / q ∧ m / q + 1 ≤ m := by
  have e := Int.ediv_mul_cancel hd
  have a : 1 ≤ m / q := by
    rcases Int.lt_or_le 0 (m / q) with z | z
    · exact z
    · have := Int.mul_le_mul_of_nonneg_right z (show 0 ≤ q by omega)
      omega
  refine ⟨a, ?_⟩
  have := Int.mul_le_mul_of_nonneg_left hq (show 0 ≤ m / q by omega)
  omega
theorem pow2_mono {a b : Nat} (h : a ≤ b) : (2 : Int) ^ a ≤ 2 ^ b := by
  have := Nat.pow_le_pow_right (show 0 < 2 by decide) h
  exact_mod_cast this
theorem LeastOk.next (h : LeastOk m R S m' R' S') (hq : QR.Pm q) (hd : q ∣ m') (k : Short m' R' (m' / q) L) : LeastOk m R S (m' / q) L (nextS (m' / q) L S' q) := by
  have q2 := hq.1
  obtain ⟨s1, s2⟩ := div_pos_of h.desc.pos q2 hd
  refine ⟨⟨s1, fun r hr => ?_, fun p hp => ?_⟩, h.sub.trans (k.sub ⟨q, (Int.ediv_mul_cancel hd).symm⟩), k.inc.imp fun h => by omega, ?_, fun p hp => (memP_next hq s1 hd k (hp.dvd h.sub.dvd)).trans (h.mem p hp), ?_, fun p hp => ?_⟩
  · exact mem_uL.mp (k.mem r hr)
  · unfold nextS at hp
    split at hp
    · rename_i z
      rw [mem_tog] at hp
      by_cases e : p = q
      · exact ⟨e ▸ hq, QR.pm_odd (e ▸ hq) (by omega)⟩
      · rw [if_neg e] at hp
        exact h.desc.singles p hp
    · exact h.desc.singles p hp
  · unfold nextS
    split
    · exact tog_nodup h.sn
    · exact h.sn
  · refine Int.le_trans ?_ h.len
    have a : (2 : Int) ^ (nextS (m' / q) L S' q).length ≤ 2 ^ S'.length * 2 := by
      rw [← Int.pow_succ]
      refine pow2_mono ?_
      unfold nextS
      split
      · exact tog_len
      · omega
    refine Int.le_trans (Int.mul_le_mul_of_nonneg_left a (by omega)) ?_
    rw [Int.mul_comm (2 ^ S'.length), ← Int.mul_assoc]
    refine Int.mul_le_mul_of_nonneg_right ?_ (Int.pow_nonneg (by decide))
    have := Int.mul_le_mul_of_nonneg_left q2 (show 0 ≤ m' / q by omega)
    rw [Int.ediv_mul_cancel hd] at this
    exact this
  · unfold nextS at hp
    split at hp
    · rw [mem_tog] at hp
      by_cases e : p = q
      · exact .inr (e ▸ Int.dvd_trans hd h.sub.dvd)
      · rw [if_neg e] at hp
        exact h.src p hp
    · exact h.src p hp
theorem LeastOk.few (h : LeastOk m R S m' R' S') (hm : m ≤ 4000) : S'.length ≤ S.length + 11 := by
  rcases Nat.lt_or_ge (S.length + 11) S'.length with z | z
  · exfalso
    have a := h.len
    have b : (2 : Int) ^ S.length * 2 ^ 12 ≤ 2 ^ S'.length := by
      rw [← Int.pow_add]
      exact pow2_mono (by omega)
    have c : m * 2 ^ S.length ≤ 4000 * 2 ^ S.length := Int.mul_le_mul_of_nonneg_right hm (Int.pow_nonneg (by decide))
    have d := Int.mul_le_mul_of_nonneg_right h.desc.pos (show (0 : Int) ≤ 2 ^ S'.length from Int.pow_nonneg (by decide))
    have p0 : (0 : Int) < 2 ^ S.length := Int.pow_pos (by decide)
    omega
  · exact z
theorem LowAt.next {q0 : Int} (l : LowAt m' R' q0) (hq : QR.Pm q) (hq0 : QR.Pm q0) (p1 : 1 ≤ m') (hd : q ∣ m') (k : Short m' R' (m' / q) L) : LowAt (m' / q) L q0 := by
  intro d z
  have e := (Int.ediv_mul_cancel hd)
  have d' : q0 ∣ m' := by rw [← e]; exact Int.dvd_mul_of_dvd_left d
  have q2 := hq0.1
  have e2 := Int.ediv_mul_cancel d
  have e3 : m' = m' / q / q0 * q * q0 := by rw [Int.mul_assoc, Int.mul_comm q q0, ← Int.mul_assoc, e2, e]
  exact l d' (Lv.up (k.sub ⟨q, e.symm⟩) z ⟨q, Int.ediv_eq_of_eq_mul_left (by omega) e3⟩)
end
/-- a least description, in order -/
structure IsLeast (m : Int) (R S : List Int) : Prop where
  desc : Desc m R S
  ri : R.Pairwise (· < ·)
  si : S.Pairwise (· < ·)
  low : ∀ q, QR.Pm q → LowAt m R q
/-- what making a set gives -/
structure Made (m : Int) (R S : List Int) (m' : Int) (R' S' : List Int) : Prop where
  least : IsLeast m' R' S'
  sub : Sub m R m' R'
  mem : ∀ p, PrOk m p → (memP m' R' S' p ↔ memP m R S p)
  few : S'.length ≤ S.length + 11
  src : ∀ p ∈ S', p ∈ S ∨ p ∣ m
def SameL (a b : List Int) : Prop := ∀ k, k ∈ a ↔ k ∈ b
theorem Lv.congr {m : Int} {R R' : List Int} {s : Int} (h : SameL R R') : Lv m R s ↔ Lv m R' s := by
  unfold Lv
  exact ⟨fun l x y a b c => by rw [← h, ← h]; exact l x y a b c, fun l x y a b c => by rw [h, h]; exact l x y a b c⟩
theorem toldP_congr {m p : Int} {R R' : List Int} (h : SameL R R') : toldP m R p ↔ toldP m R' p := by
  unfold toldP
  rw [h]
theorem memP_congr {m p : Int} {R R' S S' : List Int} (h : SameL R R') (k : SameL S S') : memP m R S p ↔ memP m R' S' p := by
  unfold memP
  rw [toldP_congr h, k]
theorem LeastOk.made {m : Int} {R S R0 S0 : List Int} {m' : Int} {R1 S1 R' S' : List Int} (h : LeastOk m R0 S0 m' R1 S1) (low : ∀ q, QR.Pm q → LowAt m' R1 q) (hm : m ≤ 4000) (e1 : SameL R0 R) (e2 : SameL S0 S) (l0 : S0.length ≤ S.length) (e3 : SameL R' R1) (e4 : SameL S' S1) (l1 : S'.length ≤ S1.length) (r : R'.Pairwise (· < ·)) (s : S'.Pairwise (· < ·)) : Made m R S m' R' S' := by
  refine ⟨⟨⟨h.desc.pos, fun x hx => h.desc.rests x ((e3 x).mp hx), fun x hx => h.desc.singles x ((e4 x).mp hx)⟩, r, s, fun q hq d z => low q hq d ((Lv.congr e3).mp z)⟩, ⟨h.sub.dvd, fun x hx => ?_⟩, fun p hp => ?_, ?_, fun p hp => ?_⟩
  · rw [e3, h.sub.same x hx, e1]
  · rw [memP_congr e3 e4, h.mem p hp, memP_congr e1 e2]
  · have := h.few hm
    omega
  · exact (h.src p ((e4 p).mp hp)).imp_left (e2 p).mp
/-- a unit of a divisor comes from a unit -/
theorem unit_lift : ∀ (n : Nat) {m s r : Int}, 0 < s → m = s * n → 0 < n → r ∈ uL s → ∃ x, Int.gcd x m = 1 ∧ x % s = r := by
  intro n
  induction n using Nat.strongRecOn with
  | _ n ih =>
    intro m s r hs hm hn hr
    rcases Nat.lt_or_ge n 2 with h | h
    · obtain ⟨r0, r1, rc⟩ := mem_uL.mp hr
      have : n = 1 := by omega
      subst this
      refine ⟨r, ?_, Int.emod_eq_of_lt r0 r1⟩
      rw [hm, show s * ((1 : Nat) : Int) = s by simp]
      exact rc
    · obtain ⟨q, hq, hd⟩ := QR.exists_pm n h
      have q2 := hq.1
      obtain ⟨l, hl⟩ := List.exists_mem_of_ne_nil _ (lft_ne (m := s * q) hq hs rfl hr)
      obtain ⟨c, e1, e2⟩ := lft_prop hs rfl hr hl
      obtain ⟨k, hk⟩ := hd
      have sq : 0 < s * q := Int.mul_pos hs (by omega)
      have k0 : 0 < k := by
        rcases Int.lt_or_le 0 k with z | z
        · exact z
        · have := Int.mul_le_mul_of_nonneg_left z (show 0 ≤ q by omega)
          omega
      have hu : l ∈ uL (s * q) := mem_uL.mpr ⟨by rw [← e1]; exact Int.emod_nonneg _ (by omega), by rw [← e1]; exact Int.emod_lt_of_pos _ sq, c⟩
      have kn : k.toNat < n := by
        have := Int.mul_le_mul_of_nonneg_right q2 (show 0 ≤ k by omega)
        omega
      obtain ⟨x, x1, x2⟩ := ih k.toNat kn sq (show m = s * q * ((k.toNat : Nat) : Int) by rw [hm, hk, show ((k.toNat : Nat) : Int) = k by omega, Int.mul_assoc, Int.mul_comm q k]) (by omega) hu
      refine ⟨x, x1, ?_⟩
      have : x % (s * q) % s = x % s := Int.emod_emod_of_dvd x ⟨q, rfl⟩
      rw [← this, x2, e2]
theorem Sub.lift {m m' : Int} {R R' : List Int} (h : Sub m R m' R') (m1 : 1 ≤ m) (m2 : 1 ≤ m') {r : Int} (hr : r ∈ uL m') : ∃ x, Int.gcd x m = 1 ∧ x % m' = r := by
  obtain ⟨k, hk⟩ := h.dvd
  have k0 : 0 < k := by
    rcases Int.lt_or_le 0 k with z | z
    · exact z
    · have := Int.mul_le_mul_of_nonneg_left z (show 0 ≤ m' by omega)
      omega
  exact unit_lift k.toNat (by omega) (by rw [hk, show ((k.toNat : Nat) : Int) = k by omega]) (by omega) hr
/-! part m_can -/
theorem bez : ∀ (b a : Nat), ∃ u v : Int, (a : Int) * u + b * v = (Nat.gcd a b : Nat) := by
  intro b
  induction b using Nat.strongRecOn with
  | _ b ih =>
    intro a
    rcases Nat.eq_zero_or_pos b with h | h
    · subst h
      exact ⟨1, 0, by simp⟩
    · obtain ⟨u, v, e⟩ := ih (a % b) (Nat.mod_lt _ h) b
      refine ⟨v, u - (a / b : Nat) * v, ?_⟩
      have g : Nat.gcd a b = Nat.gcd b (a % b) := by rw [Nat.gcd_comm a b, Nat.gcd_rec b a, Nat.gcd_comm]
      rw [g, ← e]
      have d : (a : Int) = b * (a / b : Nat) + (a % b : Nat) := by
        have := Nat.div_add_mod a b
        omega
      generalize ((a / b : Nat) : Int) = q at *
      generalize ((a % b : Nat) : Int) = r at *
      rw [d]
      grind
theorem crt {s t x y : Int} (hs : 0 ≤ s) (ht : 0 ≤ t) (h : ((Int.gcd s t : Nat) : Int) ∣ x - y) : ∃ z, s ∣ z - x ∧ t ∣ z - y := by
  obtain ⟨u, v, e⟩ := bez t.toNat s.toNat
  obtain ⟨k, hk⟩ := h
  have g : Nat.gcd s.toNat t.toNat = Int.gcd s t := by
    rw [Int.gcd]
    congr 1 <;> omega
  rw [g, show ((s.toNat : Nat) : Int) = s by omega, show ((t.toNat : Nat) : Int) = t by omega] at e
  rw [← e] at hk
  exact ⟨x - s * u * k, ⟨-(u * k), by grind⟩, ⟨v * k, by grind⟩⟩
theorem lift_of_dvd {m L z : Int} (m1 : 1 ≤ m) (L0 : 0 ≤ L) (d : L ∣ m) (h : Int.gcd z L = 1) : ∃ w, Int.gcd w m = 1 ∧ L ∣ w - z := by
  obtain ⟨k, hk⟩ := d
  have L1 : 0 < L := by
    rcases Int.lt_or_eq_of_le L0 with c | c
    · exact c
    · rw [← c, Int.zero_mul] at hk
      omega
  have k0 : 0 < k := by
    rcases Int.lt_or_le 0 k with c | c
    · exact c
    · have := Int.mul_le_mul_of_nonneg_left c (show 0 ≤ L by omega)
      omega
  obtain ⟨w, w1, w2⟩ := unit_lift k.toNat (m := m) (r := z % L) L1 (by rw [hk, show ((k.toNat : Nat) : Int) = k by omega]) (by omega) (mem_uL.mpr ⟨Int.emod_nonneg _ (by omega), Int.emod_lt_of_pos _ L1, QR.cop_emod.mpr h⟩)
  exact ⟨w, w1, QR.dvd_of_emod_eq w2⟩
section
variable {m s t : Int} {R : List Int}
/-- a unit of the whole with given rests, where they agree -/
theorem meet {x y : Int} (m1 : 1 ≤ m) (s1 : 1 ≤ s) (t1 : 1 ≤ t) (hs : s ∣ m) (ht : t ∣ m) (hx : Int.gcd x m = 1) (hy : Int.gcd y m = 1) (d : ((Int.gcd s t : Nat) : Int) ∣ x - y) : ∃ z, Int.gcd z m = 1 ∧ s ∣ z - x ∧ t ∣ z - y := by
  obtain ⟨z, zx, zy⟩ := crt (by omega) (by omega) d
  have hL : ((Int.lcm s t : Nat) : Int) ∣ m := Int.coe_lcm_dvd hs ht
  have sL : s ∣ ((Int.lcm s t : Nat) : Int) := Int.dvd_lcm_left ..
  have tL : t ∣ ((Int.lcm s t : Nat) : Int) := Int.dvd_lcm_right ..
  have Lst : ((Int.lcm s t : Nat) : Int) ∣ s * t := Int.coe_lcm_dvd (Int.dvd_mul_right ..) (Int.dvd_mul_left ..)
  have lcm0 : (0 : Int) ≤ ((Int.lcm s t : Nat) : Int) := by omega
  generalize ((Int.lcm s t : Nat) : Int) = L at *
  have cz : Int.gcd z L = 1 := QR.cop_iff.mpr fun p hp a b => by
    rcases QR.Pm.dvd_mul hp (Int.dvd_trans b Lst) with c | c
    · refine QR.cop_iff.mp hx p hp ?_ (Int.dvd_trans c hs)
      have := Int.dvd_sub a (Int.dvd_trans c zx)
      rwa [show z - (z - x) = x by omega] at this
    · refine QR.cop_iff.mp hy p hp ?_ (Int.dvd_trans c ht)
      have := Int.dvd_sub a (Int.dvd_trans c zy)
      rwa [show z - (z - y) = y by omega] at this
  obtain ⟨w, w1, w2⟩ := lift_of_dvd m1 lcm0 hL cz
  refine ⟨w, w1, ?_, ?_⟩
  · have := Int.dvd_add (Int.dvd_trans sL w2) zx
    rwa [show w - z + (z - x) = w - x by omega] at this
  · have := Int.dvd_add (Int.dvd_trans tL w2) zy
    rwa [show w - z + (z - y) = w - y by omega] at this
/-- what two divisors tell, their common divisor tells -/
theorem Lv.gcd (m1 : 1 ≤ m) (s1 : 1 ≤ s) (t1 : 1 ≤ t) (hs : s ∣ m) (ht : t ∣ m) (a : Lv m R s) (b : Lv m R t) : Lv m R ((Int.gcd s t : Nat) : Int) := by
  intro x y hx hy d
  obtain ⟨w, w1, w2, w3⟩ := meet m1 s1 t1 hs ht hx hy d
  exact (a w x w1 hx w2).symm.trans (b w y w1 hy w3)
theorem Lv.mono (h : Lv m R s) (d : s ∣ t) : Lv m R t := fun x y hx hy e => h x y hx hy (Int.dvd_trans d e)
/-- told ahead of a shortening, told behind it -/
theorem Lv.down {m' : Int} {R' : List Int} (h : Sub m R m' R') (m1 : 1 ≤ m) (p1 : 1 ≤ m') (l : Lv m R s) (d : s ∣ m') : Lv m' R' s := fun x y hx hy e => by
  obtain ⟨u, u1, u2⟩ := lift_of_dvd m1 (by omega) h.dvd hx
  obtain ⟨v, v1, v2⟩ := lift_of_dvd m1 (by omega) h.dvd hy
  have := l u v u1 v1 (by
    have a := Int.dvd_sub (Int.dvd_add (Int.dvd_trans d u2) e) (Int.dvd_trans d v2)
    rwa [show u - x + (x - y) - (v - y) = u - v by omega] at a)
  rw [← h.same u u1, ← h.same v v1, QR.emod_eq_of_dvd u2, QR.emod_eq_of_dvd v2] at this
  exact this
/-- a least modulus divides each that tells as much -/
theorem low_dvd {m' : Int} {R' : List Int} (h : Sub m R m' R') (m1 : 1 ≤ m) (p1 : 1 ≤ m') (low : ∀ q, QR.Pm q → LowAt m' R' q) (t1 : 1 ≤ t) (ht : t ∣ m) (l : Lv m R t) : m' ∣ t := by
  have lm : Lv m R m' := fun x y hx hy e => by rw [← h.same x hx, ← h.same y hy, QR.emod_eq_of_dvd e]
  have lg := Lv.gcd m1 p1 t1 h.dvd ht lm l
  have gd : ((Int.gcd m' t : Nat) : Int) ∣ m' := Int.gcd_dvd_left ..
  have gt : ((Int.gcd m' t : Nat) : Int) ∣ t := Int.gcd_dvd_right ..
  have g0 : 0 ≤ ((Int.gcd m' t : Nat) : Int) := by omega
  generalize ((Int.gcd m' t : Nat) : Int) = g at *
  obtain ⟨k, hk⟩ := gd
  have k1 : 1 ≤ k := by
    rcases Int.lt_or_le 0 k with c | c
    · omega
    · have := Int.mul_le_mul_of_nonneg_left c g0
      omega
  rcases Int.lt_or_le k 2 with c | c
  · have : k = 1 := by omega
    rw [this, Int.mul_one] at hk
    exact hk ▸ gt
  · exfalso
    obtain ⟨q, hq, qd⟩ := QR.exists_pm k.toNat (by omega)
    rw [show ((k.toNat : Nat) : Int) = k by omega] at qd
    obtain ⟨j, hj⟩ := qd
    have q2 := hq.1
    have e : m' = g * j * q := by rw [hk, hj, Int.mul_assoc, Int.mul_comm q j]
    have md : q ∣ m' := ⟨g * j, by rw [e, Int.mul_comm]⟩
    have mq : m' / q = g * j := Int.ediv_eq_of_eq_mul_left (by omega) e
    refine low q hq md (Lv.down h m1 p1 (Lv.mono lg ⟨j, mq⟩) ⟨q, ?_⟩)
    rw [mq]
    exact e
end
theorem inc_same : ∀ {a b : List Int}, a.Pairwise (· < ·) → b.Pairwise (· < ·) → (∀ k, k ∈ a ↔ k ∈ b) → a = b
  | [], [], _, _, _ => rfl
  | [], y :: b, _, _, h => absurd ((h y).mpr List.mem_cons_self) List.not_mem_nil
  | x :: a, [], _, _, h => absurd ((h x).mp List.mem_cons_self) List.not_mem_nil
  | x :: a, y :: b, ha, hb, h => by
    obtain ⟨a1, a2⟩ := List.pairwise_cons.mp ha
    obtain ⟨b1, b2⟩ := List.pairwise_cons.mp hb
    have e : x = y := by
      rcases List.mem_cons.mp ((h x).mp List.mem_cons_self) with e | m1
      · exact e
      · rcases List.mem_cons.mp ((h y).mpr List.mem_cons_self) with e | m2
        · exact e.symm
        · have := b1 x m1
          have := a1 y m2
          omega
    subst e
    rw [inc_same a2 b2 fun k => ?_]
    constructor
    · intro hk
      rcases List.mem_cons.mp ((h k).mp (List.mem_cons_of_mem _ hk)) with e | z
      · have := a1 k hk
        omega
      · exact z
    · intro hk
      rcases List.mem_cons.mp ((h k).mpr (List.mem_cons_of_mem _ hk)) with e | z
      · have := b1 k hk
        omega
      · exact z
/-- two least descriptions with the same germ and members are one -/
theorem least_unique {M m1 m2 : Int} {R1 R2 S1 S2 : List Int} (M1 : 1 ≤ M) (d1 : m1 ∣ M) (d2 : m2 ∣ M) (l1 : IsLeast m1 R1 S1) (l2 : IsLeast m2 R2 S2) (g : ∀ x, Int.gcd x M = 1 → (x % m1 ∈ R1 ↔ x % m2 ∈ R2)) (mem : ∀ p, QR.OP p → (memP m1 R1 S1 p ↔ memP m2 R2 S2 p)) : m1 = m2 ∧ R1 = R2 ∧ S1 = S2 := by
  have p1 := l1.desc.pos
  have p2 := l2.desc.pos
  have s1 : Sub M ((uL M).filter fun u => decide (u % m1 ∈ R1)) m1 R1 := ⟨d1, fun x hx => by
    rw [List.mem_filter, decide_eq_true_iff, Int.emod_emod_of_dvd x d1]
    exact ⟨fun h => ⟨unit_of (Int.dvd_refl M) (by omega) hx, h⟩, fun h => h.2⟩⟩
  have s2 : Sub M ((uL M).filter fun u => decide (u % m1 ∈ R1)) m2 R2 := ⟨d2, fun x hx => by
    rw [← g x hx, s1.same x hx]⟩
  have lv : ∀ {m' : Int} {R' : List Int}, Sub M ((uL M).filter fun u => decide (u % m1 ∈ R1)) m' R' → Lv M ((uL M).filter fun u => decide (u % m1 ∈ R1)) m' := fun h x y hx hy e => by rw [← h.same x hx, ← h.same y hy, QR.emod_eq_of_dvd e]
  have e : m1 = m2 := Int.le_antisymm (Int.le_of_dvd (by omega) (low_dvd s1 M1 p1 l1.low p2 d2 (lv s2))) (Int.le_of_dvd (by omega) (low_dvd s2 M1 p2 l2.low p1 d1 (lv s1)))
  subst e
  have eR : R1 = R2 := inc_same l1.ri l2.ri fun r => by
    constructor
    · intro hr
      obtain ⟨x, x1, x2⟩ := s1.lift M1 p1 (mem_uL.mpr (l1.desc.rests r hr))
      have := (g x x1).mp (by rw [x2]; exact hr)
      rwa [x2] at this
    · intro hr
      obtain ⟨x, x1, x2⟩ := s1.lift M1 p1 (mem_uL.mpr (l2.desc.rests r hr))
      have := (g x x1).mpr (by rw [x2]; exact hr)
      rwa [x2] at this
  subst eR
  refine ⟨rfl, rfl, inc_same l1.si l2.si fun p => ?_⟩
  by_cases hp : QR.OP p
  · have := mem p hp
    unfold memP at this
    by_cases t : toldP m1 R1 p <;> by_cases a : p ∈ S1 <;> by_cases b : p ∈ S2 <;> simp [t, a, b] at this ⊢
  · exact ⟨fun h => absurd (l1.desc.singles p h) hp, fun h => absurd (l2.desc.singles p h) hp⟩
/-! part m_pool -/
/-- a pool of draws, at most j of them made -/
def PoolAt (H : Hp) (p : Addr) (j : Int) : Prop := ∃ c k b, H p = some (.lst [.int c, .int k, .bl b]) ∧ 0 ≤ k ∧ k ≤ j
theorem PoolAt.new {H : Hp} {p : Addr} {n : Int} {b : Bool} : PoolAt (upd H p (.lst [.int n, .int 0, .bl b])) p 0 := ⟨_, _, _, upd_same, by omega, by omega⟩
/-! part m_but -/
/-! part m_k41 -/
theorem mem_none {p : Int} : ¬ memP 1 [] [] p := by simp [memP, toldP]
def RowsOk (ys : List V) (n : Nat) : Prop := ∃ ns : List Int, ys = ns.map V.int ∧ (∀ p ∈ ns, QR.OP p) ∧ ns.length ≤ n
theorem RowsOk.nil : RowsOk [] 0 := ⟨[], rfl, fun p h => absurd h List.not_mem_nil, Nat.le_refl _⟩
theorem RowsOk.put {ys : List V} {n : Nat} {p : Int} (h : RowsOk ys n) (hp : QR.OP p) : RowsOk (ys ++ [.int p]) (n + 1) := by
  obtain ⟨ns, rfl, h1, h2⟩ := h
  refine ⟨ns ++ [p], by rw [List.map_append]; rfl, fun q hq => ?_, by rw [List.length_append, List.length_singleton]; omega⟩
  rcases List.mem_append.mp hq with hq | hq
  · exact h1 q hq
  · rw [List.mem_singleton.mp hq]
    exact hp
/-! part m_join -/
/-- a set by what it holds: its modulus divides M, its rests go by g, its primes by P -/
structure Fits (M : Int) (g P : Int → Bool) (m : Int) (R S : List Int) : Prop where
  least : IsLeast m R S
  dvd : m ∣ M
  germ : ∀ x, Int.gcd x M = 1 → decide (x % m ∈ R) = g x
  mem : ∀ p, QR.OP p → decide (memP m R S p) = P p
theorem dec_iff {a b : Prop} [Decidable a] [Decidable b] : decide a = decide b ↔ (a ↔ b) := decide_eq_decide
theorem Fits.eq {M : Int} {g P g' P' : Int → Bool} {m m' : Int} {R S R' S' : List Int} (M1 : 1 ≤ M) (a : Fits M g P m R S) (b : Fits M g' P' m' R' S') (hg : ∀ x, g x = g' x) (hP : ∀ p, P p = P' p) : m = m' ∧ R = R' ∧ S = S' :=
  least_unique M1 a.dvd b.dvd a.least b.least (fun x hx => dec_iff.mp ((a.germ x hx).trans ((hg x).trans (b.germ x hx).symm))) fun p hp => dec_iff.mp ((a.mem p hp).trans ((hP p).trans (b.mem p hp).symm))
/-- two sets joined by a rule -/
structure Comb (J : Bool → Bool → Bool) (m1 : Int) (R1 S1 : List Int) (m2 : Int) (R2 S2 : List Int) (m' : Int) (R' S' : List Int) : Prop where
  least : IsLeast m' R' S'
  dvd : m' ∣ ((Int.lcm m1 m2 : Nat) : Int)
  germ : ∀ x, Int.gcd x ((Int.lcm m1 m2 : Nat) : Int) = 1 → decide (x % m' ∈ R') = J (decide (x % m1 ∈ R1)) (decide (x % m2 ∈ R2))
  mem : ∀ p, QR.OP p → decide (memP m' R' S' p) = J (decide (memP m1 R1 S1 p)) (decide (memP m2 R2 S2 p))
  few : S'.length ≤ S1.length + S2.length + 111
  src : ∀ p ∈ S', p ∈ S1 ∨ p ∈ S2 ∨ p ∣ ((Int.lcm m1 m2 : Nat) : Int)
theorem Comb.fits {J : Bool → Bool → Bool} {M : Int} {g1 P1 g2 P2 : Int → Bool} {m1 m2 m' : Int} {R1 S1 R2 S2 R' S' : List Int} (c : Comb J m1 R1 S1 m2 R2 S2 m' R' S') (a : Fits M g1 P1 m1 R1 S1) (b : Fits M g2 P2 m2 R2 S2) : Fits M (fun x => J (g1 x) (g2 x)) (fun p => J (P1 p) (P2 p)) m' R' S' := by
  have d : ((Int.lcm m1 m2 : Nat) : Int) ∣ M := Int.coe_lcm_dvd a.dvd b.dvd
  exact ⟨c.least, Int.dvd_trans c.dvd d, fun x hx => by rw [c.germ x (QR.cop_dvd_right hx d), a.germ x hx, b.germ x hx], fun p hp => by rw [c.mem p hp, a.mem p hp, b.mem p hp]⟩
/-- the others -/
structure Inv (m : Int) (R S : List Int) (m' : Int) (R' S' : List Int) : Prop where
  least : IsLeast m' R' S'
  dvd : m' ∣ m
  germ : ∀ x, Int.gcd x m = 1 → decide (x % m' ∈ R') = !decide (x % m ∈ R)
  mem : ∀ p, QR.OP p → decide (memP m' R' S' p) = !decide (memP m R S p)
  few : S'.length ≤ S.length + 111
  src : ∀ p ∈ S', p ∈ S ∨ p ∣ m
theorem Inv.fits {M : Int} {g P : Int → Bool} {m m' : Int} {R S R' S' : List Int} (c : Inv m R S m' R' S') (a : Fits M g P m R S) : Fits M (fun x => !g x) (fun p => !P p) m' R' S' :=
  ⟨c.least, Int.dvd_trans c.dvd a.dvd, fun x hx => by rw [c.germ x (QR.cop_dvd_right hx a.dvd), a.germ x hx], fun p hp => by rw [c.mem p hp, a.mem p hp]⟩
theorem Made.fits {M m m' : Int} {R S R' S' : List Int} (h : Made m R S m' R' S') (d : m ∣ M) : Fits M (fun x => decide (x % m ∈ R)) (fun p => decide (memP m R S p)) m' R' S' :=
  ⟨h.least, Int.dvd_trans h.sub.dvd d, fun x hx => dec_iff.mpr (h.sub.same x (QR.cop_dvd_right hx d)), fun p hp => dec_iff.mpr (h.mem p (.inl hp))⟩
theorem IsLeast.fits {M m : Int} {R S : List Int} (h : IsLeast m R S) (d : m ∣ M) : Fits M (fun x => decide (x % m ∈ R)) (fun p => decide (memP m R S p)) m R S := ⟨h, d, fun _ _ => rfl, fun _ _ => rfl⟩
/-- a set as a least description of fair size -/
structure SetOk (m : Int) (R S : List Int) : Prop where
  least : IsLeast m R S
  le : m ≤ 4000
  few : S.length ≤ 1000
  small : ∀ p ∈ S, p < 2 ^ 120
/-- Fits, of a fair size -/
structure Pf (M : Int) (n : Nat) (g P : Int → Bool) (m : Int) (R S : List Int) : Prop where
  fits : Fits M g P m R S
  few : S.length ≤ n
  small : ∀ p ∈ S, p < 2 ^ 120
section
variable {M m1 m2 m' m : Int} {n n1 n2 : Nat} {g P g1 P1 g2 P2 : Int → Bool} {R S R1 S1 R2 S2 R' S' : List Int}
theorem Pf.ok (h : Pf M n g P m R S) (M1 : 1 ≤ M) (M4 : M ≤ 4000) (hn : n ≤ 1000) : SetOk m R S :=
  ⟨h.fits.least, Int.le_trans (Int.le_of_dvd (by omega) h.fits.dvd) M4, Nat.le_trans h.few hn, h.small⟩
theorem Pf.imp {g' P' : Int → Bool} (h : Pf M n g P m R S) (hg : ∀ x, Int.gcd x M = 1 → g x = g' x) (hP : ∀ p, QR.OP p → P p = P' p) : Pf M n g' P' m R S := ⟨⟨h.fits.least, h.fits.dvd, fun x hx => (h.fits.germ x hx).trans (hg x hx), fun p hp => (h.fits.mem p hp).trans (hP p hp)⟩, h.few, h.small⟩
theorem Pf.eq (M1 : 1 ≤ M) (a : Pf M n1 g1 P1 m1 R1 S1) (b : Pf M n2 g2 P2 m2 R2 S2) (hg : ∀ x, g1 x = g2 x) (hP : ∀ p, P1 p = P2 p) : decide (m1 = m2 ∧ R1 = R2 ∧ S1 = S2) = true := decide_eq_true (a.fits.eq M1 b.fits hg hP)
theorem least_nil : IsLeast 1 [] [] := ⟨⟨by decide, fun r h => absurd h List.not_mem_nil, fun p h => absurd h List.not_mem_nil⟩, List.Pairwise.nil, List.Pairwise.nil, fun q hq d => by
  have := Int.le_of_dvd (by decide) d
  have := hq.1
  omega⟩
/-- nothing is in it: no rests, no singles -/
theorem Pf.nil (M1 : 1 ≤ M) (a : Pf M n g P m R S) (hg : ∀ x, g x = false) (hP : ∀ p, P p = false) : R = [] ∧ S = [] := by
  have b : Fits M (fun _ => false) (fun _ => false) 1 [] [] := ⟨least_nil, Int.one_dvd _, fun x _ => by simp, fun p _ => decide_eq_false mem_none⟩
  exact (a.fits.eq M1 b hg hP).2
end
/-! part m_k42 -/
def pLst : List Int := [3, 5, 7, 11, 13, 17, 19, 23, 29, 31, 37, 41, 43, 47, 53, 59]
/-- the least description, as this law finds it -/
structure LowRow (m : Int) (R S : List Int) (d : Int) (L T : List Int) : Prop where
  dvd : d ∣ m
  pos : 1 ≤ d
  first : ∀ e, 1 ≤ e → e < d → e ∣ m → ¬ Lv m R e
  short : Short m R d L
  odd : ∀ p, p ∈ T ↔ p ∈ pLst ∧ ¬ (memP m R S p ↔ toldP d L p)
  inc : T.Pairwise (· < ·)
/-- the same set by a multiple of the modulus -/
structure WideRow (m : Int) (R S : List Int) (f : Int) (L T : List Int) : Prop where
  rests : L = (uL (m * f)).filter fun u => decide (u % m ∈ R)
  odd : ∀ p, p ∈ T ↔ p ∈ pLst ∧ ¬ (memP m R S p ↔ toldP (m * f) L p)
  inc : T.Pairwise (· < ·)
  len : T.length ≤ 16
theorem op3 {p : Int} (hp : QR.OP p) : 3 ≤ p := by
  have := hp.1.1
  have := hp.2
  omega
theorem pLst_all {p : Int} (hp : QR.OP p) (h : p ≤ 60) : p ∈ pLst := by
  have h3 := op3 hp
  have key : ∀ n : Nat, n < 61 → 3 ≤ n → (n : Int) ∈ pLst ∨ n % 2 = 0 ∨ ∃ q, q < n ∧ 2 ≤ q ∧ n % q = 0 := by decide
  obtain ⟨n, rfl⟩ : ∃ n : Nat, p = n := ⟨p.toNat, by omega⟩
  rcases key n (by omega) (by omega) with z | z | ⟨q, q1, q2, q3⟩
  · exact z
  · have := hp.2
    omega
  · exact absurd (Int.ofNat_dvd.mpr (Nat.dvd_of_mod_eq_zero q3)) (hp.1.2 (q : Int) (by omega) (by omega))
theorem pLst_op : ∀ p ∈ pLst, QR.OP p := by
  have q : ∀ p ∈ pLst, p = ((p.toNat : Nat) : Int) ∧ 3 ≤ p.toNat ∧ p.toNat % 2 = 1 ∧ ((List.range 9).any fun k => p.toNat < k * k && (List.range k).all fun d => d < 2 || p.toNat % d != 0) = true := by decide +kernel
  intro p hp
  obtain ⟨e, a, b, c⟩ := q p hp
  obtain ⟨k, _, hk⟩ := List.any_eq_true.mp c
  rw [Bool.and_eq_true] at hk
  rw [e]
  exact QR.op_by k a b (of_decide_eq_true hk.1) hk.2
section
variable {m m' d f r : Int} {R S R' S' L T R2 S2 : List Int}
theorem Sub.rests (a : Sub m R m' R') (b : Sub m R m' L) (m1 : 1 ≤ m) (p1 : 1 ≤ m') (ha : R'.Pairwise (· < ·)) (hb : L.Pairwise (· < ·)) (u : ∀ r ∈ R', r ∈ uL m') (v : ∀ r ∈ L, r ∈ uL m') : R' = L := inc_same ha hb fun r => by
  constructor
  · intro hr
    obtain ⟨x, x1, x2⟩ := a.lift m1 p1 (u r hr)
    have := (b.same x x1).mpr ((a.same x x1).mp (by rw [x2]; exact hr))
    rwa [x2] at this
  · intro hr
    obtain ⟨x, x1, x2⟩ := a.lift m1 p1 (v r hr)
    have := (a.same x x1).mpr ((b.same x x1).mp (by rw [x2]; exact hr))
    rwa [x2] at this
theorem Sub.lv (h : Sub m R m' R') : Lv m R m' := fun x y hx hy e => by rw [← h.same x hx, ← h.same y hy, QR.emod_eq_of_dvd e]
theorem Made.low (h : Made m R S m' R' S') (l : LowRow m R S d L T) (m1 : 1 ≤ m) (m6 : m ≤ 60) (hS : ∀ p ∈ S, p ∈ pLst) : m' = d ∧ R' = L ∧ S' = T := by
  have p1 := h.least.desc.pos
  have e : m' = d := by
    have a := Int.le_of_dvd (by have := l.pos; omega) (low_dvd h.sub m1 p1 h.least.low l.pos l.dvd l.short.lv)
    rcases Int.lt_or_eq_of_le a with z | z
    · exact absurd h.sub.lv (l.first m' p1 z h.sub.dvd)
    · exact z
  subst e
  have eR : R' = L := Sub.rests h.sub (l.short.sub l.dvd) m1 p1 h.least.ri l.short.inc (fun r hr => mem_uL.mpr (h.least.desc.rests r hr)) l.short.mem
  subst eR
  refine ⟨rfl, rfl, inc_same h.least.si l.inc fun p => ?_⟩
  rw [l.odd]
  constructor
  · intro hp
    have op := h.least.desc.singles p hp
    refine ⟨(h.src p hp).elim (hS p) fun z => pLst_all op (by have := Int.le_of_dvd (by omega) z; omega), ?_⟩
    rw [← h.mem p (.inl op)]
    simp [memP, hp]
  · rintro ⟨hp, z⟩
    rw [← h.mem p (.inl (pLst_op p hp))] at z
    unfold memP at z
    by_cases t : toldP m' R' p <;> by_cases s : p ∈ S' <;> simp [t, s] at z ⊢
theorem memP_wide (w : WideRow m R S f L T) (m1 : 1 ≤ m) (f1 : 1 ≤ f) (m6 : m ≤ 60) (f6 : f ≤ 12) (hS : ∀ p ∈ S, p ∈ pLst) {p : Int} (hp : QR.OP p) : memP (m * f) L T p ↔ memP m R S p := by
  by_cases c : p ∈ pLst
  · have := w.odd p
    unfold memP at this ⊢
    by_cases t : toldP (m * f) L p <;> by_cases s : p ∈ T <;> by_cases u : toldP m R p <;> by_cases v : p ∈ S <;> simp [t, s, u, v, c] at this ⊢
  · have h60 : 60 < p := by
      rcases Int.lt_or_le 60 p with z | z
      · exact z
      · exact absurd (pLst_all hp z) c
    have nT : p ∉ T := fun z => c ((w.odd p).mp z).1
    have nS : p ∉ S := fun z => c (hS p z)
    have nm : ¬ p ∣ m := fun z => by have := Int.le_of_dvd (by omega) z; omega
    have nf : ¬ p ∣ f := fun z => by have := Int.le_of_dvd (by omega) z; omega
    have nmf : ¬ p ∣ m * f := fun z => (QR.Pm.dvd_mul hp.1 z).elim nm nf
    have mf : 1 ≤ m * f := Int.mul_pos (show 0 < m by omega) (show 0 < f by omega)
    have cu : p % (m * f) ∈ uL (m * f) := unit_of (Int.dvd_refl _) (by omega) ((QR.pm_cop hp.1).mpr nmf)
    have eT : toldP (m * f) L p ↔ toldP m R p := by
      unfold toldP
      rw [w.rests, List.mem_filter, decide_eq_true_iff, Int.emod_emod_of_dvd p ⟨f, rfl⟩]
      simp [nm, nmf, cu]
    unfold memP
    rw [eT]
    simp [nT, nS]
theorem WideRow.made {m2 : Int} (w : WideRow m R S f L T) (h : Made m R S m' R' S') (k : Made (m * f) L T m2 R2 S2) (m1 : 1 ≤ m) (f1 : 1 ≤ f) (m6 : m ≤ 60) (f6 : f ≤ 12) (hS : ∀ p ∈ S, p ∈ pLst) : m' = m2 ∧ R' = R2 ∧ S' = S2 := by
  have mf : 1 ≤ m * f := Int.mul_pos (show 0 < m by omega) (show 0 < f by omega)
  refine least_unique mf (Int.dvd_trans h.sub.dvd ⟨f, rfl⟩) k.sub.dvd h.least k.least (fun x hx => ?_) fun p hp => ?_
  · rw [h.sub.same x (QR.cop_dvd_right hx ⟨f, rfl⟩), k.sub.same x hx, w.rests, List.mem_filter, decide_eq_true_iff, Int.emod_emod_of_dvd x ⟨f, rfl⟩]
    exact ⟨fun z => ⟨unit_of (Int.dvd_refl _) (by omega) hx, z⟩, fun z => z.2⟩
  · rw [h.mem p (.inl hp), k.mem p (.inl hp), memP_wide w m1 f1 m6 f6 hS hp]
/-- the same rests and singles, the same set -/
theorem Made.same {m2 : Int} {R0 S0 : List Int} (h : Made m R S m' R' S') (k : Made m R2 S2 m2 R0 S0) (m1 : 1 ≤ m) (e1 : SameL R R2) (e2 : SameL S S2) : m' = m2 ∧ R' = R0 ∧ S' = S0 :=
  least_unique m1 h.sub.dvd k.sub.dvd h.least k.least (fun x hx => by rw [h.sub.same x hx, k.sub.same x hx, e1]) fun p hp => by
    rw [h.mem p (.inl hp), k.mem p (.inl hp), memP_congr e1 e2]
end
/-! part m_chi -/
/-! part m_chi2 -/
theorem sgn_one1 {m : Int} (m1 : 1 ≤ m) (m2 : m % 2 = 1) : sgn 1 m = 1 := by
  have e := sgn_mul m1 m2 1 1
  rcases sgn_pm m1 m2 (a := 1) (by simp) with h | h
  · exact h
  · rw [Int.one_mul, h] at e
    omega
/-! part m_chi3 -/
/-! part m_k76 -/
theorem exists_core0 : ∀ (k : Nat) (n : Int), n.natAbs ≤ k → n ≠ 0 → ∃ s r, CoreOk n s r := by
  intro k
  induction k with
  | zero => intro n h h0; omega
  | succ k ih =>
    intro n h h0
    by_cases c : ∃ j : Int, 2 ≤ j ∧ j * j ∣ n
    · obtain ⟨j, j2, m, rfl⟩ := c
      have m0 : m ≠ 0 := fun z => h0 (by rw [z, Int.mul_zero])
      have : 2 * 2 ≤ j * j := Int.mul_le_mul j2 j2 (by decide) (by omega)
      have e : ((j * j * m).natAbs : Int) = j * j * (m.natAbs : Int) := by
        rw [Int.natAbs_mul, Int.natCast_mul, show (((j * j).natAbs : Nat) : Int) = j * j by omega]
      have : 4 * (m.natAbs : Int) ≤ j * j * (m.natAbs : Int) := Int.mul_le_mul_of_nonneg_right (by omega) (by omega)
      obtain ⟨s, r, c⟩ := ih m (by omega) m0
      exact ⟨s, r * j, by rw [← c.prod]; grind, Int.mul_pos (by have := c.pos; omega) (by omega), c.free⟩
    · exact ⟨n, 1, by omega, by decide, fun j j2 z => c ⟨j, j2, z⟩⟩
theorem exists_core {n : Int} (h : n ≠ 0) : ∃ s r, CoreOk n s r := exists_core0 _ n (Nat.le_refl _) h
/-! part m_bar -/
/-! choices of places, products of what is chosen, patterns that are barred -/
/-- the product of what a mask takes -/
def mp : List Bool → List Int → Int
  | true :: m, x :: xs => x * mp m xs
  | false :: m, _ :: xs => mp m xs
  | _, _ => 1
theorem mp_snoc : ∀ {m : List Bool} {xs : List Int} {b : Bool} {x : Int}, m.length = xs.length → mp (m ++ [b]) (xs ++ [x]) = mp m xs * (if b then x else 1)
  | [], [], b, x, _ => by cases b <;> simp [mp]
  | a :: m, y :: xs, b, x, h => by
    have ih := mp_snoc (m := m) (xs := xs) (b := b) (x := x) (by simpa using h)
    cases a <;> simp only [List.cons_append, mp, ih, Int.mul_assoc]
/-- either of two masks, not both -/
def mx : List Bool → List Bool → List Bool
  | a :: m, b :: t => (a != b) :: mx m t
  | _, _ => []
theorem mx_len : ∀ {m t : List Bool} {k : Nat}, m.length = k → t.length = k → (mx m t).length = k
  | [], [], _, h, _ => h
  | _ :: m, _ :: t, k + 1, h, g => by
    have := mx_len (m := m) (t := t) (k := k) (by simpa using h) (by simpa using g)
    simp [mx, this]
theorem mp_ne : ∀ {m : List Bool} {xs : List Int}, (∀ x ∈ xs, x ≠ 0) → mp m xs ≠ 0
  | true :: m, x :: xs, h => Int.mul_ne_zero (h x List.mem_cons_self) (mp_ne fun y hy => h y (List.mem_cons_of_mem _ hy))
  | false :: m, x :: xs, h => mp_ne (m := m) fun y hy => h y (List.mem_cons_of_mem _ hy)
  | [], [], _ => by simp [mp]
  | [], _ :: _, _ => by simp [mp]
  | true :: _, [], _ => by simp [mp]
  | false :: _, [], _ => by simp [mp]
theorem mp_mx : ∀ {m t : List Bool} {xs : List Int}, m.length = xs.length → t.length = xs.length → (∀ x ∈ xs, x ≠ 0) → ∃ r : Int, r ≠ 0 ∧ mp m xs * mp t xs = mp (mx m t) xs * (r * r)
  | [], [], [], _, _, _ => ⟨1, by decide, by simp [mp, mx]⟩
  | [], _ :: _, xs, h, g, _ => by rw [← h] at g; cases g
  | _ :: _, [], xs, h, g, _ => by rw [← g] at h; cases h
  | a :: m, b :: t, x :: xs, h, g, z => by
    obtain ⟨r, r0, e⟩ := mp_mx (m := m) (t := t) (xs := xs) (by simpa using h) (by simpa using g) fun y hy => z y (List.mem_cons_of_mem _ hy)
    have x0 := z x List.mem_cons_self
    cases a <;> cases b
    · exact ⟨r, r0, by simpa [mp, mx] using e⟩
    · refine ⟨r, r0, ?_⟩
      simp only [mp, mx]
      show mp m xs * (x * mp t xs) = x * mp (mx m t) xs * (r * r)
      grind
    · refine ⟨r, r0, ?_⟩
      simp only [mp, mx]
      show x * mp m xs * mp t xs = x * mp (mx m t) xs * (r * r)
      grind
    · refine ⟨x * r, Int.mul_ne_zero x0 r0, ?_⟩
      simp only [mp, mx]
      show x * mp m xs * (x * mp t xs) = mp (mx m t) xs * (x * r * (x * r))
      grind
/-- one or minus one everywhere -/
def Pm1 (σ : List Int) : Prop := ∀ s ∈ σ, s = 1 ∨ s = -1
theorem pm_mul {a b : Int} (h : a = 1 ∨ a = -1) (k : b = 1 ∨ b = -1) : a * b = 1 ∨ a * b = -1 := by rcases h with e | e <;> rcases k with f | f <;> rw [e, f] <;> decide
theorem mp_pm : ∀ {m : List Bool} {σ : List Int}, Pm1 σ → mp m σ = 1 ∨ mp m σ = -1
  | true :: m, x :: xs, h => pm_mul (h x List.mem_cons_self) (mp_pm fun y hy => h y (List.mem_cons_of_mem _ hy))
  | false :: m, x :: xs, h => mp_pm (m := m) fun y hy => h y (List.mem_cons_of_mem _ hy)
  | [], [], _ => .inl rfl
  | [], _ :: _, _ => .inl rfl
  | true :: _, [], _ => .inl rfl
  | false :: _, [], _ => .inl rfl
theorem pm_sq {a : Int} (h : a = 1 ∨ a = -1) : a * a = 1 := by rcases h with e | e <;> rw [e] <;> decide
theorem mp_mx1 : ∀ {m t : List Bool} {σ : List Int}, m.length = σ.length → t.length = σ.length → Pm1 σ → mp (mx m t) σ = mp m σ * mp t σ
  | [], [], [], _, _, _ => by simp [mp, mx]
  | [], _ :: _, xs, h, g, _ => by rw [← h] at g; cases g
  | _ :: _, [], xs, h, g, _ => by rw [← g] at h; cases h
  | a :: m, b :: t, x :: xs, h, g, z => by
    have ih := mp_mx1 (m := m) (t := t) (σ := xs) (by simpa using h) (by simpa using g) fun y hy => z y (List.mem_cons_of_mem _ hy)
    have xx := pm_sq (z x List.mem_cons_self)
    cases a <;> cases b
    · show mp (mx m t) xs = mp m xs * mp t xs
      exact ih
    · show x * mp (mx m t) xs = mp m xs * (x * mp t xs)
      rw [ih]; grind
    · show x * mp (mx m t) xs = x * mp m xs * mp t xs
      rw [ih]; grind
    · show mp (mx m t) xs = x * mp m xs * (x * mp t xs)
      rw [ih]
      have : x * mp m xs * (x * mp t xs) = (x * x) * (mp m xs * mp t xs) := by grind
      rw [this, xx, Int.one_mul]
theorem mp_zip : ∀ {m : List Bool} {a b : List Int}, m.length = a.length → m.length = b.length → mp m (List.zipWith (· * ·) a b) = mp m a * mp m b
  | [], [], [], _, _ => by simp [mp]
  | c :: m, x :: a, y :: b, h, g => by
    have ih := mp_zip (m := m) (a := a) (b := b) (by simpa using h) (by simpa using g)
    cases c <;> simp only [List.zipWith, mp, ih]
    grind
/-- a square -/
def IsSqr (n : Int) : Prop := ∃ r : Int, n = r * r
/-- a choice whose product is a square and whose signs have the product -1 -/
def Bar (ns σ : List Int) : Prop := ∃ m : List Bool, m.length = ns.length ∧ mp m σ = -1 ∧ IsSqr (mp m ns)
/-- a square times a product of the others -/
def Dep (ns : List Int) (n : Int) : Prop := ∃ t : List Bool, t.length = ns.length ∧ IsSqr (n * mp t ns)
theorem sqr_mul {a b : Int} (h : IsSqr a) (k : IsSqr b) : IsSqr (a * b) := by
  obtain ⟨r, rfl⟩ := h
  obtain ⟨s, rfl⟩ := k
  exact ⟨r * s, by grind⟩
/-- a square divided by a square -/
theorem sqr_div {a r : Int} (h0 : r ≠ 0) (h : IsSqr (a * (r * r))) : IsSqr a := by
  obtain ⟨s, hs⟩ := h
  have d : r * r ∣ s * s := ⟨a, by rw [← hs, Int.mul_comm]⟩
  have d2 : r.natAbs * r.natAbs ∣ s.natAbs * s.natAbs := by
    rw [← Int.natAbs_mul, ← Int.natAbs_mul]
    exact Int.natAbs_dvd_natAbs.mpr d
  have d3 : r.natAbs ∣ s.natAbs := by
    have := Nat.pow_dvd_pow_iff (a := r.natAbs) (b := s.natAbs) (n := 2) (by decide)
    rw [Nat.pow_two, Nat.pow_two] at this
    exact this.mp d2
  obtain ⟨t, ht⟩ := Int.natAbs_dvd_natAbs.mp d3
  refine ⟨t, ?_⟩
  have : a * (r * r) = t * t * (r * r) := by rw [hs, ht]; grind
  exact Int.eq_of_mul_eq_mul_right (Int.mul_ne_zero h0 h0) this
theorem sqr_cross {a b : Int} (h : IsSqr (a * b)) (hb : b ≠ 0) {c : Int} (k : IsSqr (b * c)) : IsSqr (a * c) := by
  refine sqr_div hb ?_
  have := sqr_mul h k
  rw [show a * c * (b * b) = a * b * (b * c) by grind]
  exact this
theorem bar_no {ns σ : List Int} {n s : Int} (h : ns.length = σ.length) (k : Bar ns σ) : Bar (ns ++ [n]) (σ ++ [s]) := by
  obtain ⟨m, l, a, b⟩ := k
  refine ⟨m ++ [false], by simp [l], ?_, ?_⟩
  · rw [mp_snoc (l.trans h), a]
    rfl
  · rw [mp_snoc l]
    simpa using b
theorem bar_indep {ns σ : List Int} {n s : Int} (h : ns.length = σ.length) (nd : ¬ Dep ns n) : Bar (ns ++ [n]) (σ ++ [s]) ↔ Bar ns σ := by
  constructor
  · rintro ⟨m, l, a, b⟩
    have ml : m.length = ns.length + 1 := by rw [l]; simp
    obtain ⟨m0, c, rfl⟩ : ∃ m0 c, m = m0 ++ [c] := by
      have hm : m ≠ [] := by intro z; rw [z] at ml; cases ml
      exact ⟨m.dropLast, m.getLast hm, (List.dropLast_concat_getLast hm).symm⟩
    have l0 : m0.length = ns.length := by simpa using ml
    rw [mp_snoc (l0.trans h)] at a
    rw [mp_snoc l0] at b
    cases c with
    | false => exact ⟨m0, l0, by simpa using a, by simpa using b⟩
    | true => exact absurd ⟨m0, l0, by rw [Int.mul_comm]; simpa using b⟩ nd
  · exact bar_no h
theorem bar_dep {ns σ : List Int} {n s : Int} {t : List Bool} (h : ns.length = σ.length) (z : ∀ x ∈ ns, x ≠ 0) (n0 : n ≠ 0) (p : Pm1 σ) (hs : s = 1 ∨ s = -1) (tl : t.length = ns.length) (d : IsSqr (n * mp t ns)) (nb : ¬ Bar ns σ) : Bar (ns ++ [n]) (σ ++ [s]) ↔ s ≠ mp t σ := by
  have pt := mp_pm (m := t) p
  constructor
  · rintro ⟨m, l, a, b⟩ e
    have ml : m.length = ns.length + 1 := by rw [l]; simp
    obtain ⟨m0, c, rfl⟩ : ∃ m0 c, m = m0 ++ [c] := by
      have hm : m ≠ [] := by intro z; rw [z] at ml; cases ml
      exact ⟨m.dropLast, m.getLast hm, (List.dropLast_concat_getLast hm).symm⟩
    have l0 : m0.length = ns.length := by simpa using ml
    rw [mp_snoc (l0.trans h)] at a
    rw [mp_snoc l0] at b
    cases c with
    | false => exact nb ⟨m0, l0, by simpa using a, by simpa using b⟩
    | true =>
      simp only [if_true] at a b
      refine nb ⟨mx m0 t, mx_len l0 tl, ?_, ?_⟩
      · rw [mp_mx1 (l0.trans h) (tl.trans h) p, ← e]
        exact a
      · obtain ⟨r, r0, er⟩ := mp_mx l0 tl z
        refine sqr_div r0 ?_
        rw [← er]
        exact sqr_cross b n0 d
  · intro e
    refine ⟨t ++ [true], by simp [tl], ?_, ?_⟩
    · rw [mp_snoc (tl.trans h)]
      simp only [if_true]
      rcases pt with y | y <;> rcases hs with w | w <;> first | exact absurd (w.trans y.symm) e | (rw [y, w]; decide)
    · rw [mp_snoc tl, Int.mul_comm]
      simpa using d
/-- all rows of signs, in order -/
def rowsP : Nat → List (List Int)
  | 0 => [[]]
  | k + 1 => (rowsP k).flatMap fun r => [r ++ [-1], r ++ [1]]
theorem rowsP_ok : ∀ {k : Nat} {r : List Int}, r ∈ rowsP k ↔ r.length = k ∧ Pm1 r
  | 0, r => by
    simp only [rowsP, List.mem_singleton]
    exact ⟨fun e => by rw [e]; exact ⟨rfl, fun _ h => absurd h List.not_mem_nil⟩, fun h => List.eq_nil_of_length_eq_zero h.1⟩
  | k + 1, r => by
    simp only [rowsP, List.mem_flatMap, List.mem_cons, List.not_mem_nil, or_false]
    constructor
    · rintro ⟨q, hq, e⟩
      obtain ⟨ql, qp⟩ := rowsP_ok.mp hq
      rcases e with e | e <;> subst e <;> refine ⟨by simp [ql], fun s hs => ?_⟩ <;> (rcases List.mem_append.mp hs with h | h; · exact qp s h) <;> rw [List.mem_singleton.mp h] <;> decide
    · rintro ⟨l, p⟩
      have hr : r ≠ [] := by intro z; rw [z] at l; cases l
      refine ⟨r.dropLast, rowsP_ok.mpr ⟨by simp [l], fun s hs => p s (List.dropLast_subset r hs)⟩, ?_⟩
      have e := List.dropLast_concat_getLast hr
      rcases p _ (List.getLast_mem hr) with h | h <;> rw [h] at e
      · exact .inr e.symm
      · exact .inl e.symm
open Classical in
/-- how many rows are not barred -/
noncomputable def freeN (ns : List Int) : Nat := ((rowsP ns.length).filter fun r => decide (¬ Bar ns r)).length
open Classical in
theorem flat_count {ns ns' : List Int} {c : Nat} : ∀ (L : List (List Int)), (∀ r ∈ L, ((([r ++ [-1], r ++ [1]] : List (List Int)).filter fun q => decide (¬ Bar ns' q)).length = if Bar ns r then 0 else c)) → ((L.flatMap fun r => [r ++ [-1], r ++ [1]]).filter fun q => decide (¬ Bar ns' q)).length = c * (L.filter fun r => decide (¬ Bar ns r)).length
  | [], _ => by simp
  | r :: L, h => by
    have ih := flat_count L fun q hq => h q (List.mem_cons_of_mem _ hq)
    have h1 := h r List.mem_cons_self
    rw [List.flatMap_cons, List.filter_append, List.length_append, ih, h1, List.filter_cons]
    by_cases b : Bar ns r
    · simp [b]
    · simp only [b, if_false, not_false_eq_true, decide_true, if_true, List.length_cons]
      rw [Nat.mul_succ, Nat.add_comm]
theorem freeN_indep {ns : List Int} {n : Int} (nd : ¬ Dep ns n) : freeN (ns ++ [n]) = 2 * freeN ns := by
  unfold freeN
  rw [List.length_append, List.length_singleton]
  refine flat_count _ fun r hr => ?_
  obtain ⟨l, p⟩ := rowsP_ok.mp hr
  by_cases b : Bar ns r
  · simp [bar_indep l.symm nd, b]
  · simp [bar_indep l.symm nd, b]
theorem freeN_dep {ns : List Int} {n : Int} (z : ∀ x ∈ ns, x ≠ 0) (n0 : n ≠ 0) (d : Dep ns n) : freeN (ns ++ [n]) = freeN ns := by
  unfold freeN
  rw [List.length_append, List.length_singleton, show (rowsP (ns.length + 1)) = (rowsP ns.length).flatMap fun r => [r ++ [-1], r ++ [1]] from rfl]
  rw [← Nat.one_mul ((rowsP ns.length).filter _).length]
  obtain ⟨t, tl, sq⟩ := d
  refine flat_count _ fun r hr => ?_
  obtain ⟨l, p⟩ := rowsP_ok.mp hr
  by_cases b : Bar ns r
  · have b1 : Bar (ns ++ [n]) (r ++ [-1]) := bar_no l.symm b
    have b2 : Bar (ns ++ [n]) (r ++ [1]) := bar_no l.symm b
    simp [b1, b2, b]
  · have h1 := bar_dep (s := -1) l.symm z n0 p (.inr rfl) tl sq b
    have h2 := bar_dep (s := 1) l.symm z n0 p (.inl rfl) tl sq b
    rcases mp_pm (m := t) p with y | y <;> rw [y] at h1 h2
    · have c1 : Bar (ns ++ [n]) (r ++ [-1]) := h1.mpr (by decide)
      have c2 : ¬ Bar (ns ++ [n]) (r ++ [1]) := fun z => absurd rfl (h2.mp z)
      simp [b, c1, c2]
    · have c1 : Bar (ns ++ [n]) (r ++ [1]) := h2.mpr (by decide)
      have c2 : ¬ Bar (ns ++ [n]) (r ++ [-1]) := fun z => absurd rfl (h1.mp z)
      simp [b, c1, c2]
/-- no square divides it -/
def Fr (s : Int) : Prop := s ≠ 0 ∧ ∀ k : Int, 2 ≤ k → ¬ k * k ∣ s
theorem fr_eq {a b : Int} (ha : Fr a) (hb : Fr b) (h : IsSqr (a * b)) : a = b := by
  obtain ⟨r, hr⟩ := h
  have b0 : b.natAbs ≠ 0 := by have := hb.1; omega
  have r0 : r ≠ 0 := by
    intro z
    rw [z] at hr
    exact Int.mul_ne_zero ha.1 hb.1 (by simpa using hr)
  have bb : ((b.natAbs : Nat) : Int) * ((b.natAbs : Nat) : Int) = b * b := by
    rw [← Int.natCast_mul]; exact Int.natAbs_mul_self
  have rr : ((r.natAbs : Nat) : Int) * ((r.natAbs : Nat) : Int) = r * r := by
    rw [← Int.natCast_mul]; exact Int.natAbs_mul_self
  have c1 : CoreOk (a * b * b) a (b.natAbs : Int) := ⟨by rw [Int.mul_assoc, bb, Int.mul_assoc], by omega, ha.2⟩
  have c2 : CoreOk (a * b * b) b (r.natAbs : Int) := ⟨by rw [Int.mul_assoc, rr, hr, Int.mul_comm], by omega, hb.2⟩
  exact (c1.uniq c2).1
theorem CoreOk.fr {n s r : Int} (h : CoreOk n s r) (h0 : n ≠ 0) : Fr s := ⟨fun z => h0 (by rw [← h.prod, z]; simp), h.free⟩
theorem CoreOk.sqr {n s r : Int} (h : CoreOk n s r) : IsSqr (n * s) := ⟨s * r, by rw [← h.prod]; grind⟩
theorem CoreOk.sqr' {n s r : Int} (h : CoreOk n s r) : IsSqr (s * n) := by rw [Int.mul_comm]; exact h.sqr
theorem CoreOk.one {n s r : Int} (h : CoreOk n s r) (h0 : n ≠ 0) : s = 1 ↔ IsSqr n := by
  constructor
  · intro e
    exact ⟨r, by rw [← h.prod, e]; grind⟩
  · intro k
    refine fr_eq (h.fr h0) ⟨by decide, fun j j2 hd => ?_⟩ ?_
    · have := Int.le_of_dvd (by decide) hd
      have := Int.mul_le_mul j2 j2 (by decide) (by omega)
      omega
    · rw [Int.mul_one]
      refine sqr_div (r := n) h0 ?_
      rw [show s * (n * n) = s * n * n by grind]
      exact sqr_mul h.sqr' k
/-- the list that is doubled where a number is no square times a product of earlier ones -/
structure SpanOk (ns sp : List Int) : Prop where
  fr : ∀ x ∈ sp, Fr x ∧ ∃ t : List Bool, t.length = ns.length ∧ IsSqr (x * mp t ns)
  all : ∀ t : List Bool, t.length = ns.length → ∃ x ∈ sp, IsSqr (x * mp t ns)
  len : sp.length = freeN ns
theorem Fr.one : Fr 1 := ⟨by decide, fun j j2 hd => by
  have := Int.le_of_dvd (by decide) hd
  have := Int.mul_le_mul j2 j2 (by decide) (by omega)
  omega⟩
theorem SpanOk.nil : SpanOk [] [1] := ⟨fun x hx => by rw [List.mem_singleton.mp hx]; exact ⟨Fr.one, [], rfl, 1, by simp [mp]⟩, fun t ht => ⟨1, List.mem_singleton_self _, 1, by
  have : t = [] := List.eq_nil_of_length_eq_zero ht
  subst this
  simp [mp]⟩, by
  have nb : ¬ Bar [] [] := fun ⟨m, l, a, _⟩ => by
    have : m = [] := List.eq_nil_of_length_eq_zero l
    subst this
    simp [mp] at a
  simp [freeN, rowsP, nb]⟩
theorem SpanOk.dep {ns sp : List Int} {n s r : Int} (h : SpanOk ns sp) (z : ∀ x ∈ ns, x ≠ 0) (n0 : n ≠ 0) (c : CoreOk n s r) : s ∈ sp ↔ Dep ns n := by
  constructor
  · intro hs
    obtain ⟨_, t, tl, sq⟩ := h.fr s hs
    exact ⟨t, tl, sqr_cross c.sqr (c.fr n0).1 sq⟩
  · rintro ⟨t, tl, sq⟩
    obtain ⟨x, hx, sx⟩ := h.all t tl
    have e : x = s := by
      refine fr_eq (h.fr x hx).1 (c.fr n0) ?_
      refine sqr_cross (b := n) ?_ n0 c.sqr
      refine sqr_cross (b := mp t ns) sx (mp_ne z) ?_
      rw [Int.mul_comm]
      exact sq
    rw [← e]
    exact hx
theorem mp_all {ns : List Int} {n : Int} {t : List Bool} (tl : t.length = (ns ++ [n]).length) : ∃ t0 b, t = t0 ++ [b] ∧ t0.length = ns.length ∧ mp t (ns ++ [n]) = mp t0 ns * (if b then n else 1) := by
  have hm : t ≠ [] := by intro z; rw [z] at tl; simp at tl
  have e := List.dropLast_concat_getLast hm
  have l0 : t.dropLast.length = ns.length := by simp [tl]
  refine ⟨t.dropLast, t.getLast hm, e.symm, l0, ?_⟩
  rw [← mp_snoc l0, e]
theorem SpanOk.stay {ns sp : List Int} {n : Int} (h : SpanOk ns sp) (z : ∀ x ∈ ns, x ≠ 0) (n0 : n ≠ 0) (d : Dep ns n) : SpanOk (ns ++ [n]) sp := by
  refine ⟨fun x hx => ?_, fun t tl => ?_, by rw [freeN_dep z n0 d]; exact h.len⟩
  · obtain ⟨f, t, tl, sq⟩ := h.fr x hx
    refine ⟨f, t ++ [false], by simp [tl], ?_⟩
    rw [mp_snoc tl]
    simpa using sq
  · obtain ⟨t0, b, rfl, l0, e⟩ := mp_all tl
    rw [e]
    cases b with
    | false => simpa using h.all t0 l0
    | true =>
      obtain ⟨t1, l1, sq⟩ := d
      obtain ⟨x, hx, sx⟩ := h.all (mx t0 t1) (mx_len l0 l1)
      refine ⟨x, hx, ?_⟩
      obtain ⟨r, r0, er⟩ := mp_mx l0 l1 z
      simp only [if_true]
      -- x ~ mx ~ t0 * t1 ~ t0 * n
      have a1 : IsSqr (x * (mp t0 ns * mp t1 ns)) := by
        rw [er, ← Int.mul_assoc]
        exact sqr_mul sx ⟨r, rfl⟩
      have m1 := mp_ne (m := t1) z
      refine sqr_div (r := mp t1 ns) m1 ?_
      rw [show x * (mp t0 ns * n) * (mp t1 ns * mp t1 ns) = x * (mp t0 ns * mp t1 ns) * (n * mp t1 ns) by grind]
      exact sqr_mul a1 sq
theorem SpanOk.grow {ns sp : List Int} {n : Int} {f : Int → Int} (h : SpanOk ns sp) (z : ∀ x ∈ ns, x ≠ 0) (n0 : n ≠ 0) (d : ¬ Dep ns n) (hf : ∀ x ∈ sp, ∃ r, CoreOk (n * x) (f x) r) : SpanOk (ns ++ [n]) (sp ++ sp.map f) := by
  refine ⟨fun y hy => ?_, fun t tl => ?_, by rw [List.length_append, List.length_map, freeN_indep d, h.len]; omega⟩
  · rcases List.mem_append.mp hy with hx | hx
    · obtain ⟨f, t, tl, sq⟩ := h.fr y hx
      refine ⟨f, t ++ [false], by simp [tl], ?_⟩
      rw [mp_snoc tl]
      simpa using sq
    · obtain ⟨x, hx2, rfl⟩ := List.mem_map.mp hx
      obtain ⟨fx, t, tl, sq⟩ := h.fr x hx2
      obtain ⟨r, c⟩ := hf x hx2
      have nx : n * x ≠ 0 := Int.mul_ne_zero n0 fx.1
      refine ⟨c.fr nx, t ++ [true], by simp [tl], ?_⟩
      rw [mp_snoc tl]
      simp only [if_true]
      refine sqr_cross c.sqr' nx ?_
      rw [show n * x * (mp t ns * n) = x * mp t ns * (n * n) by grind]
      exact sqr_mul sq ⟨n, rfl⟩
  · obtain ⟨t0, b, rfl, l0, e⟩ := mp_all tl
    rw [e]
    obtain ⟨x, hx, sx⟩ := h.all t0 l0
    cases b with
    | false => exact ⟨x, List.mem_append_left _ hx, by simpa using sx⟩
    | true =>
      obtain ⟨r, c⟩ := hf x hx
      have nx : n * x ≠ 0 := Int.mul_ne_zero n0 (h.fr x hx).1.1
      refine ⟨f x, List.mem_append_right _ (List.mem_map.mpr ⟨x, hx, rfl⟩), ?_⟩
      simp only [if_true]
      refine sqr_cross c.sqr' nx ?_
      rw [show n * x * (mp t0 ns * n) = x * mp t0 ns * (n * n) by grind]
      exact sqr_mul sx ⟨n, rfl⟩
theorem Bar.zip {ns a b : List Int} (la : a.length = ns.length) (lb : b.length = ns.length) (pa : Pm1 a) (pb : Pm1 b) (ha : ¬ Bar ns a) (hb : ¬ Bar ns b) : ¬ Bar ns (List.zipWith (· * ·) a b) := by
  rintro ⟨m, l, e, sq⟩
  rw [mp_zip (l.trans la.symm) (l.trans lb.symm)] at e
  have h1 : mp m a = 1 := (mp_pm pa).resolve_right fun z => ha ⟨m, l, z, sq⟩
  have h2 : mp m b = 1 := (mp_pm pb).resolve_right fun z => hb ⟨m, l, z, sq⟩
  rw [h1, h2] at e
  cases e
/-! part m_places -/
/-! ascending lists of places -/
def Asc (k : Nat) (P : List Nat) : Prop := P.Pairwise (· < ·) ∧ ∀ i ∈ P, i < k
/-- where the next place begins -/
def nextN (r : List Nat) : Nat := match r.getLast? with
  | none => 0
  | some x => x + 1
def stepN (m : Nat) (r : List Nat) : List (List Nat) := (List.range (m - nextN r)).map fun a => r ++ [nextN r + a]
def chL (m : Nat) : Nat → List (List Nat)
  | 0 => [[]]
  | l + 1 => (chL m l).flatMap (stepN m)
theorem asc_snoc {m : Nat} {r : List Nat} {x : Nat} : Asc m (r ++ [x]) ↔ Asc m r ∧ nextN r ≤ x ∧ x < m := by
  unfold Asc nextN
  rw [List.pairwise_append]
  constructor
  · rintro ⟨⟨a, _, c⟩, d⟩
    refine ⟨⟨a, fun i hi => d i (List.mem_append_left _ hi)⟩, ?_, d x (by simp)⟩
    cases h : r.getLast? with
    | none => exact Nat.zero_le _
    | some y => exact c y (List.mem_of_getLast? h) x (by simp)
  · rintro ⟨⟨a, b⟩, c, d⟩
    refine ⟨⟨a, List.pairwise_singleton .., fun y hy z hz => ?_⟩, fun i hi => ?_⟩
    · rw [List.mem_singleton.mp hz]
      cases h : r.getLast? with
      | none =>
        rw [List.getLast?_eq_none_iff.mp h] at hy
        cases hy
      | some w =>
        rw [h] at c
        replace c : w + 1 ≤ x := c
        have hr : r ≠ [] := by intro z; rw [z] at hy; cases hy
        have e : r.getLast hr = w := by
          rw [List.getLast?_eq_some_getLast hr] at h
          exact Option.some.inj h
        have dl := List.dropLast_concat_getLast hr
        rw [← dl] at hy a
        rcases List.mem_append.mp hy with h1 | h1
        · have := (List.pairwise_append.mp a).2.2 y h1 (r.getLast hr) (by simp)
          rw [e] at this
          omega
        · rw [List.mem_singleton.mp h1, e]
          omega
    · rcases List.mem_append.mp hi with h | h
      · exact b i h
      · rw [List.mem_singleton.mp h]
        exact d
theorem mem_stepN {m : Nat} {r P : List Nat} : P ∈ stepN m r ↔ ∃ x, P = r ++ [x] ∧ nextN r ≤ x ∧ x < m := by
  unfold stepN
  rw [List.mem_map]
  constructor
  · rintro ⟨a, ha, rfl⟩
    have := List.mem_range.mp ha
    exact ⟨_, rfl, by omega, by omega⟩
  · rintro ⟨x, rfl, a, b⟩
    exact ⟨x - nextN r, List.mem_range.mpr (by omega), by rw [show nextN r + (x - nextN r) = x by omega]⟩
theorem snoc_of {α : Type} {l : List α} (h : l ≠ []) : ∃ r x, l = r ++ [x] := ⟨l.dropLast, l.getLast h, (List.dropLast_concat_getLast h).symm⟩
theorem mem_chL {m : Nat} : ∀ {l : Nat} {P : List Nat}, P ∈ chL m l ↔ Asc m P ∧ P.length = l
  | 0, P => by
    rw [chL, List.mem_singleton]
    exact ⟨fun e => by rw [e]; exact ⟨⟨List.Pairwise.nil, fun _ h => absurd h List.not_mem_nil⟩, rfl⟩, fun h => List.eq_nil_of_length_eq_zero h.2⟩
  | l + 1, P => by
    rw [chL, List.mem_flatMap]
    constructor
    · rintro ⟨r, hr, hP⟩
      obtain ⟨a, b⟩ := mem_chL.mp hr
      obtain ⟨x, rfl, c, d⟩ := mem_stepN.mp hP
      exact ⟨asc_snoc.mpr ⟨a, c, d⟩, by simp [b]⟩
    · rintro ⟨a, b⟩
      obtain ⟨r, x, rfl⟩ := snoc_of (l := P) (by intro z; rw [z] at b; cases b)
      obtain ⟨c, d, e⟩ := asc_snoc.mp a
      exact ⟨r, mem_chL.mpr ⟨c, by simpa using b⟩, mem_stepN.mpr ⟨x, rfl, d, e⟩⟩
/-- the product of what stands at some places -/
def prodN (P : List Nat) (xs : List Int) : Int := (P.map fun i => xs.getD i 1).foldl (· * ·) 1
theorem prodN_snoc {P : List Nat} {x : Nat} {xs : List Int} : prodN (P ++ [x]) xs = prodN P xs * xs.getD x 1 := by
  unfold prodN
  rw [List.map_append, List.foldl_append]
  rfl
theorem prodN_low {k : Nat} {P : List Nat} {xs : List Int} {x : Int} (h : ∀ i ∈ P, i < k) (l : xs.length = k) : prodN P (xs ++ [x]) = prodN P xs := by
  unfold prodN
  congr 1
  refine List.map_congr_left fun i hi => ?_
  have := h i hi
  rw [List.getD_eq_getElem?_getD, List.getD_eq_getElem?_getD, List.getElem?_append_left (by omega)]
theorem len_snoc {k : Nat} {xs : List Int} (h : xs.length = k + 1) : ∃ ys x, xs = ys ++ [x] ∧ ys.length = k := by
  obtain ⟨ys, x, rfl⟩ := snoc_of (l := xs) (by intro z; rw [z] at h; cases h)
  exact ⟨ys, x, rfl, by simpa using h⟩
theorem mask_places : ∀ (k : Nat) (m : List Bool), m.length = k → ∃ P, Asc k P ∧ ∀ xs : List Int, xs.length = k → prodN P xs = mp m xs
  | 0, m, h => by
    have : m = [] := List.eq_nil_of_length_eq_zero h
    subst this
    exact ⟨[], ⟨List.Pairwise.nil, fun _ h => absurd h List.not_mem_nil⟩, fun xs _ => by simp [prodN, mp]⟩
  | k + 1, m, h => by
    obtain ⟨m0, b, rfl⟩ := snoc_of (l := m) (by intro z; rw [z] at h; cases h)
    have l0 : m0.length = k := by simpa using h
    obtain ⟨P, a, e⟩ := mask_places k m0 l0
    cases b with
    | false =>
      refine ⟨P, ⟨a.1, fun i hi => Nat.lt_succ_of_lt (a.2 i hi)⟩, fun xs hx => ?_⟩
      obtain ⟨ys, x, rfl, ly⟩ := len_snoc hx
      rw [prodN_low a.2 ly, e ys ly, mp_snoc (l0.trans ly.symm)]
      simp
    | true =>
      refine ⟨P ++ [k], ?_, fun xs hx => ?_⟩
      · refine asc_snoc.mpr ⟨⟨a.1, fun i hi => Nat.lt_succ_of_lt (a.2 i hi)⟩, ?_, Nat.lt_succ_self _⟩
        unfold nextN
        cases hl : P.getLast? with
        | none => exact Nat.zero_le _
        | some y => exact a.2 y (List.mem_of_getLast? hl)
      · obtain ⟨ys, x, rfl, ly⟩ := len_snoc hx
        rw [prodN_snoc, prodN_low a.2 ly, e ys ly, mp_snoc (l0.trans ly.symm)]
        rw [List.getD_eq_getElem?_getD, List.getElem?_append_right (by omega), ly]
        simp
theorem places_mask : ∀ (k : Nat) (P : List Nat), Asc k P → ∃ m : List Bool, m.length = k ∧ ∀ xs : List Int, xs.length = k → mp m xs = prodN P xs
  | 0, P, h => by
    have : P = [] := List.eq_nil_iff_forall_not_mem.mpr fun i hi => absurd (h.2 i hi) (Nat.not_lt_zero _)
    subst this
    exact ⟨[], rfl, fun xs hx => by
      have : xs = [] := List.eq_nil_of_length_eq_zero hx
      subst this
      simp [prodN, mp]⟩
  | k + 1, P, h => by
    by_cases hk : k ∈ P
    · obtain ⟨Q, x, rfl⟩ := snoc_of (l := P) (by intro z; rw [z] at hk; cases hk)
      obtain ⟨a, b, c⟩ := asc_snoc.mp h
      have e : x = k := by
        rcases List.mem_append.mp hk with y | y
        · have := (List.pairwise_append.mp h.1).2.2 k y x (by simp)
          omega
        · exact (List.mem_singleton.mp y).symm
      subst e
      have aQ : Asc x Q := ⟨a.1, fun i hi => (List.pairwise_append.mp h.1).2.2 i hi x (by simp)⟩
      obtain ⟨m, l, e⟩ := places_mask x Q aQ
      refine ⟨m ++ [true], by simp [l], fun xs hx => ?_⟩
      obtain ⟨ys, y, rfl, ly⟩ := len_snoc hx
      rw [prodN_snoc, prodN_low aQ.2 ly, ← e ys ly, mp_snoc (l.trans ly.symm)]
      rw [List.getD_eq_getElem?_getD, List.getElem?_append_right (by omega), ly]
      simp
    · have aP : Asc k P := ⟨h.1, fun i hi => by
        have := h.2 i hi
        have : i ≠ k := fun z => hk (z ▸ hi)
        omega⟩
      obtain ⟨m, l, e⟩ := places_mask k P aP
      refine ⟨m ++ [false], by simp [l], fun xs hx => ?_⟩
      obtain ⟨ys, y, rfl, ly⟩ := len_snoc hx
      rw [prodN_low aP.2 ly, ← e ys ly, mp_snoc (l.trans ly.symm)]
      simp
/-- the places bar the pattern -/
def ShowN (ns σ : List Int) (P : List Nat) : Prop := prodN P σ = -1 ∧ IsSqr (prodN P ns)
theorem bar_places {ns σ : List Int} (h : σ.length = ns.length) : Bar ns σ ↔ ∃ P, Asc ns.length P ∧ P ≠ [] ∧ ShowN ns σ P := by
  constructor
  · rintro ⟨m, l, a, b⟩
    obtain ⟨P, c, e⟩ := mask_places _ m l
    refine ⟨P, c, ?_, by rw [← e σ h] at a; exact a, by rw [← e ns rfl] at b; exact b⟩
    rintro rfl
    rw [← e σ h] at a
    cases a
  · rintro ⟨P, c, _, a, b⟩
    obtain ⟨m, l, e⟩ := places_mask _ P c
    exact ⟨m, l, by rw [e σ h]; exact a, by rw [e ns rfl]; exact b⟩
theorem asc_len : ∀ {k : Nat} {P : List Nat}, Asc k P → P.length ≤ k
  | k, [], _ => Nat.zero_le _
  | k, i :: P, h => by
    obtain ⟨r, x, e⟩ := snoc_of (l := i :: P) (by simp)
    rw [e] at h ⊢
    obtain ⟨a, b, c⟩ := asc_snoc.mp h
    have aQ : Asc x r := ⟨a.1, fun i hi => (List.pairwise_append.mp h.1).2.2 i hi x (by simp)⟩
    have : r.length < (i :: P).length := by rw [e]; simp
    have := asc_len aQ
    rw [List.length_append, List.length_singleton]
    omega
  termination_by _ P => P.length
/-! part m_rowz -/
/-! lists of ints in a list, away from an address -/
def RowsZ (p : Addr) (H : Hp) : List Addr → List (List Int) → Prop
  | [], [] => True
  | a :: as, r :: rs => a ≠ p ∧ H a = some (.lst (r.map V.int)) ∧ RowsZ p H as rs
  | _, _ => False
theorem RowsZ.len {p : Addr} {H : Hp} : ∀ {as : List Addr} {rs : List (List Int)}, RowsZ p H as rs → as.length = rs.length
  | [], [], _ => rfl
  | _ :: as, _ :: rs, h => by simp [RowsZ.len h.2.2]
theorem RowsZ.but {p : Addr} {H G : Hp} (b : But p H G) : ∀ {as : List Addr} {rs : List (List Int)}, RowsZ p H as rs → RowsZ p G as rs
  | [], [], _ => trivial
  | _ :: _, _ :: _, h => ⟨h.1, b _ _ h.1 h.2.1, RowsZ.but b h.2.2⟩
theorem RowsZ.mono {p : Addr} {H G : Hp} (s : Same H G) {as : List Addr} {rs : List (List Int)} (h : RowsZ p H as rs) : RowsZ p G as rs := h.but (But.of s)
theorem RowsZ.app {p : Addr} {H : Hp} : ∀ {as bs : List Addr} {rs ss : List (List Int)}, RowsZ p H as rs → RowsZ p H bs ss → RowsZ p H (as ++ bs) (rs ++ ss)
  | [], _, [], _, _, k => k
  | _ :: _, _, _ :: _, _, h, k => ⟨h.1, h.2.1, RowsZ.app h.2.2 k⟩
theorem RowsZ.snoc {p a : Addr} {H : Hp} {as : List Addr} {rs : List (List Int)} {r : List Int} (h : RowsZ p H as rs) (n : a ≠ p) (e : H a = some (.lst (r.map V.int))) : RowsZ p H (as ++ [a]) (rs ++ [r]) := h.app ⟨n, e, trivial⟩
theorem RowsZ.re {p q : Addr} {H : Hp} : ∀ {as : List Addr} {rs : List (List Int)}, RowsZ p H as rs → (∀ a ∈ as, a ≠ q) → RowsZ q H as rs
  | [], [], _, _ => trivial
  | a :: _, _ :: _, h, n => ⟨n a List.mem_cons_self, h.2.1, RowsZ.re h.2.2 fun b hb => n b (List.mem_cons_of_mem _ hb)⟩
theorem RowsZ.ex {p : Addr} {H : Hp} : ∀ {as : List Addr} {rs : List (List Int)}, RowsZ p H as rs → ∀ a ∈ as, H a ≠ none
  | [], [], _, _, h => absurd h List.not_mem_nil
  | b :: _, _ :: _, h, a, ha => by
    rcases List.mem_cons.mp ha with e | e
    · rw [e, h.2.1]
      intro z
      cases z
    · exact RowsZ.ex h.2.2 a e
theorem RowsZ.free {p q : Addr} {H : Hp} {as : List Addr} {rs : List (List Int)} (h : RowsZ p H as rs) (f : H q = none) : RowsZ q H as rs := h.re fun a ha e => h.ex a ha (e ▸ f)
theorem RowsZ.at {p : Addr} {H : Hp} : ∀ {as : List Addr} {rs : List (List Int)} {i : Nat} {v : V}, RowsZ p H as rs → (as.map V.ref)[i]? = some v → ∃ a r, v = .ref a ∧ as[i]? = some a ∧ rs[i]? = some r ∧ a ≠ p ∧ H a = some (.lst (r.map V.int))
  | [], [], i, v, _, h => by simp at h
  | a :: _, r :: _, 0, v, k, h => ⟨a, r, by simpa using h.symm, rfl, rfl, k.1, k.2.1⟩
  | _ :: _, _ :: _, i + 1, v, k, h => RowsZ.at (i := i) k.2.2 (by simpa using h)
/-- a list of lists of ints that a call has made -/
structure NewZ (H G : Hp) (L : Addr) (as : List Addr) (rs : List (List Int)) : Prop where
  s : Same H G
  n : NoT G
  f : H L = none
  l : G L = some (.lst (as.map V.ref))
  r : RowsZ L G as rs
  fa : ∀ a ∈ as, H a = none
/-! part m_draw -/
/-- what was drawn below each size -/
def DrawOk : List Int → List Int → Prop
  | [], [] => True
  | d :: ds, s :: ss => (0 ≤ d ∧ d < s) ∧ DrawOk ds ss
  | _, _ => False
theorem DrawOk.len : ∀ {ds ss : List Int}, DrawOk ds ss → ds.length = ss.length
  | [], [], _ => rfl
  | _ :: _, _ :: _, h => by rw [List.length_cons, List.length_cons, DrawOk.len h.2]
  | [], _ :: _, h => h.elim
  | _ :: _, [], h => h.elim
theorem DrawOk.snoc : ∀ {ds ss : List Int} {d s : Int}, DrawOk ds ss → 0 ≤ d ∧ d < s → DrawOk (ds ++ [d]) (ss ++ [s])
  | [], [], _, _, _, h => ⟨h, trivial⟩
  | _ :: _, _ :: _, _, _, h, k => ⟨h.1, DrawOk.snoc h.2 k⟩
  | [], _ :: _, _, _, h, _ => h.elim
  | _ :: _, [], _, _, h, _ => h.elim
theorem DrawOk.cons_inv {ds ss : List Int} {s : Int} (h : DrawOk ds (s :: ss)) : ∃ d ds', ds = d :: ds' ∧ 0 ≤ d ∧ d < s ∧ DrawOk ds' ss := by
  cases ds with
  | nil => exact h.elim
  | cons d ds' => exact ⟨d, ds', rfl, h.1.1, h.1.2, h.2⟩
theorem DrawOk.nil_inv {ds : List Int} (h : DrawOk ds []) : ds = [] := by
  cases ds with
  | nil => rfl
  | cons d ds' => exact h.elim
/-! part m_pow -/
/-! powers on a clock -/
theorem cg_pow {p a b : Int} (h : p ∣ a - b) : ∀ e : Nat, p ∣ a ^ e - b ^ e
  | 0 => ⟨0, by simp⟩
  | e + 1 => by
    obtain ⟨c, hc⟩ := cg_pow h e
    obtain ⟨d, hd⟩ := h
    exact ⟨c * a + b ^ e * d, by rw [Int.pow_succ, Int.pow_succ, Int.mul_add, ← Int.mul_assoc, ← hc, Int.mul_left_comm, ← hd]; grind⟩
theorem sq_pow (b : Int) : ∀ e : Nat, (b * b) ^ e = b ^ (2 * e)
  | 0 => by simp
  | e + 1 => by rw [Int.pow_succ, sq_pow b e, show 2 * (e + 1) = 2 * e + 1 + 1 by omega, Int.pow_succ, Int.pow_succ, Int.mul_assoc]
theorem pw_even {p r b X : Int} {e : Nat} (h : p ∣ r * b ^ e - X) (he : e % 2 = 0) : p ∣ r * (b * b % p) ^ (e / 2) - X := by
  have e1 := Int.mul_ediv_add_emod (b * b) p
  obtain ⟨c, hc⟩ := cg_pow (p := p) (a := b * b % p) (b := b * b) ⟨-(b * b / p), by rw [Int.mul_neg]; omega⟩ (e / 2)
  obtain ⟨d, hd⟩ := h
  rw [sq_pow, show 2 * (e / 2) = e by omega] at hc
  exact ⟨r * c + d, by rw [Int.mul_add, ← hd, Int.mul_left_comm, ← hc]; grind⟩
theorem pw_odd {p r b X : Int} {e : Nat} (h : p ∣ r * b ^ e - X) (he : e % 2 = 1) : p ∣ r * b % p * (b * b % p) ^ (e / 2) - X := by
  refine pw_even (e := e - 1) ?_ (by omega) |> fun z => by rw [show (e - 1) / 2 = e / 2 by omega] at z; exact z
  have e1 := Int.mul_ediv_add_emod (r * b) p
  obtain ⟨d, hd⟩ := h
  rw [show e = (e - 1) + 1 by omega, Int.pow_succ] at hd
  generalize r * b / p = q at *
  generalize r * b % p = s at *
  have es : s = r * b - p * q := by omega
  refine ⟨d - q * b ^ (e - 1), ?_⟩
  rw [Int.mul_sub, ← hd, es]
  clear hd e1 es he
  grind
theorem pw_fin {p r X : Int} (h : p ∣ r * X ^ 0 - Y) (h0 : 0 ≤ r) (h1 : r < p) : r = Y % p := by
  obtain ⟨c, hc⟩ := h
  rw [Int.pow_zero, Int.mul_one] at hc
  rw [show Y = r + p * -c by rw [Int.mul_neg]; omega, Int.add_mul_emod_self_left, Int.emod_eq_of_lt h0 h1]
/-! part m_cip -/
namespace QR
/-! binomial numbers, and that a prime divides the inner ones -/
def ch : Nat → Nat → Int
  | _, 0 => 1
  | 0, _ + 1 => 0
  | n + 1, k + 1 => ch n k + ch n (k + 1)
/-! sums of an integer and a multiple of a root of w -/
def mulQ (w : Int) (x y : Int × Int) : Int × Int := (x.1 * y.1 + x.2 * y.2 * w, x.1 * y.2 + x.2 * y.1)
def powQ (w : Int) (x : Int × Int) : Nat → Int × Int
  | 0 => (1, 0)
  | n + 1 => mulQ w (powQ w x n) x
theorem mulQ_assoc (w : Int) (x y z : Int × Int) : mulQ w (mulQ w x y) z = mulQ w x (mulQ w y z) := by
  simp only [mulQ, Prod.mk.injEq]
  constructor <;> grind
theorem mulQ_comm (w : Int) (x y : Int × Int) : mulQ w x y = mulQ w y x := by
  simp only [mulQ, Prod.mk.injEq]
  constructor <;> grind
theorem powQ_sq (w : Int) (x : Int × Int) (n : Nat) : powQ w (mulQ w x x) n = powQ w x (2 * n) := by
  induction n with
  | zero => rfl
  | succ n ih =>
    rw [powQ, ih, show 2 * (n + 1) = 2 * n + 1 + 1 by omega, powQ, powQ, mulQ_assoc]
end QR
/-! part m_rt -/
/-! roots on a clock -/
def cg (p a b : Int) : Prop := p ∣ a - b
theorem cg.mulQ1 {p w a b c d a' b' c' d' : Int} (h1 : p ∣ a - a') (h2 : p ∣ b - b') (h3 : p ∣ c - c') (h4 : p ∣ d - d') : p ∣ (a * c + b * d * w) % p - (a' * c' + b' * d' * w) := by
  obtain ⟨x, hx⟩ := h1
  obtain ⟨y, hy⟩ := h2
  obtain ⟨z, hz⟩ := h3
  obtain ⟨u, hu⟩ := h4
  have e := Int.mul_ediv_add_emod (a * c + b * d * w) p
  generalize (a * c + b * d * w) / p = q at *
  generalize (a * c + b * d * w) % p = r at *
  have ea : a = a' + p * x := by omega
  have eb : b = b' + p * y := by omega
  have ec : c = c' + p * z := by omega
  have ed : d = d' + p * u := by omega
  refine ⟨a' * z + x * c' + p * x * z + (b' * u + y * d' + p * y * u) * w - q, ?_⟩
  have : r = a * c + b * d * w - p * q := by omega
  rw [this, ea, eb, ec, ed]
  grind
theorem cg.mulQ2 {p a b c d a' b' c' d' : Int} (h1 : p ∣ a - a') (h2 : p ∣ b - b') (h3 : p ∣ c - c') (h4 : p ∣ d - d') : p ∣ (a * d + b * c) % p - (a' * d' + b' * c') := by
  obtain ⟨x, hx⟩ := h1
  obtain ⟨y, hy⟩ := h2
  obtain ⟨z, hz⟩ := h3
  obtain ⟨u, hu⟩ := h4
  have e := Int.mul_ediv_add_emod (a * d + b * c) p
  generalize (a * d + b * c) / p = q at *
  generalize (a * d + b * c) % p = r at *
  have ea : a = a' + p * x := by omega
  have eb : b = b' + p * y := by omega
  have ec : c = c' + p * z := by omega
  have ed : d = d' + p * u := by omega
  refine ⟨a' * u + x * d' + p * x * u + (b' * z + y * c' + p * y * z) - q, ?_⟩
  have : r = a * d + b * c - p * q := by omega
  rw [this, ea, eb, ec, ed]
  grind
namespace QR
/-- what the loop keeps: the pairs stand for sums, and result times power to the exponent is one and the same -/
def Keep (p w t : Int) (h : Nat) (a b c d : Int) (e : Nat) : Prop := ∃ R S : Int × Int, p ∣ a - R.1 ∧ p ∣ b - R.2 ∧ p ∣ c - S.1 ∧ p ∣ d - S.2 ∧ mulQ w R (powQ w S e) = powQ w (t, 1) h
theorem Keep.odd {p w t a b c d : Int} {h e : Nat} (k : Keep p w t h a b c d e) (ho : e % 2 = 1) : Keep p w t h ((a * c + b * d * w) % p) ((a * d + b * c) % p) ((c * c + d * d * w) % p) ((c * d + d * c) % p) (e / 2) := by
  obtain ⟨R, S, h1, h2, h3, h4, he⟩ := k
  refine ⟨mulQ w R S, mulQ w S S, cg.mulQ1 h1 h2 h3 h4, cg.mulQ2 h1 h2 h3 h4, cg.mulQ1 h3 h4 h3 h4, cg.mulQ2 h3 h4 h3 h4, ?_⟩
  rw [powQ_sq, mulQ_assoc, mulQ_comm w S, ← he]
  rw [show e = 2 * (e / 2) + 1 by omega, powQ, show (2 * (e / 2) + 1) / 2 = e / 2 by omega]
end QR
/-! part m_clk -/
/-! odd primes up to 10000019, and Euler's power -/
theorem rest_by {p r Y : Int} (h : p ∣ Y - r) (h0 : 0 ≤ r) (h1 : r < p) : Y % p = r := by
  obtain ⟨c, hc⟩ := h
  rw [show Y = r + p * c by omega, Int.add_mul_emod_self_left, Int.emod_eq_of_lt h0 h1]
theorem euler_pow {n p : Int} (hp : QR.OP p) : n ^ ((p - 1) / 2).toNat % p = p - 1 ↔ sgn n p = -1 := by
  have h3 := hp.three
  obtain ⟨h, rfl⟩ := odd_half (by omega) hp.2
  rw [show ((2 * (h : Int) + 1 - 1) / 2).toNat = h by omega]
  by_cases h0 : n % (2 * (h : Int) + 1) = 0
  · rw [sgn_at0 hp h0]
    obtain ⟨c, hc⟩ := Int.dvd_of_emod_eq_zero h0
    have : n ^ h % (2 * (h : Int) + 1) = 0 := by
      refine Int.emod_eq_zero_of_dvd ?_
      obtain ⟨k, rfl⟩ : ∃ k, h = k + 1 := ⟨h - 1, by omega⟩
      rw [Int.pow_succ]
      exact Int.dvd_mul_of_dvd_right ⟨c, hc⟩
    rw [this]
    omega
  · obtain ⟨c, hc⟩ := QR.gauss hp.1 (a := n) fun z => h0 (Int.emod_eq_zero_of_dvd z)
    rw [sgn_G]
    rcases sgn_away hp h0 with e | e
    · rw [sgn_G] at e
      rw [e] at hc ⊢
      rw [rest_by (r := 1) ⟨c, hc⟩ (by omega) (by omega)]
      omega
    · rw [sgn_G] at e
      rw [e] at hc ⊢
      rw [rest_by (r := 2 * (h : Int) + 1 - 1) ⟨c - 1, by rw [Int.mul_sub]; omega⟩ (by omega) (by omega)]
      omega
/-! part m_gaussl -/
theorem euler_sgn {n p : Int} (hp : QR.OP p) : (if n ^ ((p - 1) / 2).toNat % p = p - 1 then -1 else n ^ ((p - 1) / 2).toNat % p) = sgn n p := by
  have h3 := hp.three
  by_cases e : n ^ ((p - 1) / 2).toNat % p = p - 1
  · rw [if_pos e]
    exact ((euler_pow hp).mp e).symm
  · rw [if_neg e]
    have ne : sgn n p ≠ -1 := fun z => e ((euler_pow hp).mpr z)
    obtain ⟨h, rfl⟩ := odd_half (by omega) hp.2
    rw [show ((2 * (h : Int) + 1 - 1) / 2).toNat = h by omega]
    by_cases h0 : n % (2 * (h : Int) + 1) = 0
    · rw [sgn_at0 hp h0]
      obtain ⟨c, hc⟩ := Int.dvd_of_emod_eq_zero h0
      refine Int.emod_eq_zero_of_dvd ?_
      obtain ⟨k, rfl⟩ : ∃ k, h = k + 1 := ⟨h - 1, by omega⟩
      rw [Int.pow_succ]
      exact Int.dvd_mul_of_dvd_right ⟨c, hc⟩
    · obtain ⟨c, hc⟩ := QR.gauss hp.1 (a := n) fun z => h0 (Int.emod_eq_zero_of_dvd z)
      rcases sgn_away hp h0 with e1 | e1
      · rw [e1]
        rw [sgn_G] at e1
        rw [e1] at hc
        exact rest_by (r := 1) ⟨c, hc⟩ (by omega) (by omega)
      · exact absurd e1 ne
/-! part m_cut -/
theorem sIx_nn {n d : Nat} {i : Int} (h : 0 ≤ i) : HT.sIx n d (some i) = min i.toNat n := by
  unfold HT.sIx
  simp
  omega
theorem cut_map {α : Type} {f : α → V} {l : List α} {lo hi : Option Int} : ∃ m : List α, cutV (l.map f) lo hi = m.map f ∧ (∀ x ∈ m, x ∈ l) := by
  refine ⟨(l.drop (HT.sIx l.length 0 lo)).take (HT.sIx l.length l.length hi - HT.sIx l.length 0 lo), ?_, fun x hx => List.mem_of_mem_drop (List.mem_of_mem_take hx)⟩
  unfold cutV
  rw [List.length_map, List.map_take, List.map_drop]
/-! part m_rowd -/
/-! lists of lists of ints, compared and looked up -/
section
open PySem
def zD (r : List Int) : PyData := .list (r.map PyData.int)
def zsD (rs : List (List Int)) : PyData := .list (rs.map zD)
theorem okDs_ints {n : Nat} (r : List Int) : okDs (r.map PyData.int) (n + 1) = true := okDs_map fun _ _ => by simp [okD]
theorem zD_ok {r : List Int} {n : Nat} : okD (zD r) (n + 2) = true := by simp [zD, okD, okDs_ints]
theorem zsD_ok {rs : List (List Int)} : okD (zsD rs) 60 = true := by
  have : okDs (rs.map zD) 59 = true := okDs_map fun r _ => zD_ok
  simp [zsD, okD, this]
theorem zD_inj {r s : List Int} : zD r = zD s ↔ r = s := by
  unfold zD
  constructor
  · intro h
    exact (List.map_inj_right (f := PyData.int) fun x y e => PyData.int.inj e).mp (by injection h)
  · intro h
    rw [h]
theorem zsD_inj {rs ss : List (List Int)} : zsD rs = zsD ss ↔ rs = ss := by
  unfold zsD
  constructor
  · intro h
    exact (List.map_inj_right fun x y e => zD_inj.mp e).mp (by injection h)
  · intro h
    rw [h]
variable {K : PySem.W.Frag} {H : Hp} {Q : VK} {a b t p q : Addr} {as bs : List Addr} {rs ss : List (List Int)} {r : List Int}
theorem z_dp (h : SqL K H t (r.map V.int)) : Dp K H (.ref t) (zD r) := .lst h (dpAll_ints r)
theorem rowsz_dpA {K : PySem.W.Frag} {H : Hp} {p : Addr} : ∀ {as : List Addr} {rs : List (List Int)}, RowsZ p H as rs → DpAll K H (as.map V.ref) (rs.map zD)
  | [], [], _ => .nil
  | _ :: _, _ :: _, h => .cons (z_dp (SqL.of h.2.1)) (rowsz_dpA h.2.2)
  | [], _ :: _, h => h.elim
  | _ :: _, [], h => h.elim
theorem rowsz_dp (hS : SqL K H a (as.map V.ref)) (hR : RowsZ p H as rs) : Dp K H (.ref a) (zsD rs) := .lst hS (rowsz_dpA hR)
theorem rd_neZs (h1 : Dp K H (.ref a) (zsD rs)) (h2 : Dp K H (.ref b) (zsD ss)) (q : Q (.bl (!decide (rs = ss))) H) : rNeD K (.ref a) (.ref b) H Q := rd_neP h1 h2 zsD_ok zsD_ok zsD_inj q
theorem any_z : (rs.map zD).any (fun z => PyData.eqv z (zD r)) = decide (r ∈ rs) := by
  rw [Bool.eq_iff_iff, List.any_eq_true, decide_eq_true_iff]
  constructor
  · rintro ⟨z, hz, e⟩
    obtain ⟨s, hs, rfl⟩ := List.mem_map.mp hz
    rw [okD_dec (zD_ok (n := 58)) (zD_ok (n := 58)), decide_eq_true_iff, zD_inj] at e
    rw [← e]
    exact hs
  · intro h
    refine ⟨zD r, List.mem_map.mpr ⟨r, h, rfl⟩, ?_⟩
    rw [okD_dec (zD_ok (n := 58)) (zD_ok (n := 58))]
    exact decide_eq_true rfl
theorem rd_ninZ (hS : SqL K H a (as.map V.ref)) (hR : RowsZ p H as rs) (hp : SqL K H t (r.map V.int)) (q : Q (.bl (!decide (r ∈ rs))) H) : rNotInD K (.ref t) (.ref a) H Q := by
  refine ⟨zD r, rs.map zD, z_dp hp, rowsz_dp hS hR, okD_shaped (zD_ok (n := 58)), okD_shaped zsD_ok, ?_⟩
  rw [any_z]
  exact q
end
theorem cut_hi {xs : List V} {hi : Int} (h : 0 ≤ hi) : (cutV xs none (some hi)).length = min hi.toNat xs.length := by
  unfold cutV
  rw [show HT.sIx xs.length 0 none = 0 from rfl, List.drop_zero, Nat.sub_zero, List.length_take, sIx_nn h]
  omega
/-! ## the text by places -/
def topS (i : Nat) : Stmt := PySem.Challenge.pw_everyprime_k79_patterns_that_occur.main.body.getD i (.Pass ⟨0, 0, 0, 0⟩)
abbrev s_choices_of : Stmt := topS 6
theorem sc_choices_of : FnScope ["many", "length", "rows", "row", "start", "at"] ["many", "length"] (defScope s_choices_of) := ⟨rfl, rfl, rfl, by decide +kernel, rfl, by decide +kernel, by decide +kernel⟩
abbrev s_product_of : Stmt := topS 4
theorem sc_product_of : FnScope ["factors_of_it", "result", "factor"] ["factors_of_it"] (defScope s_product_of) := ⟨rfl, rfl, rfl, by decide +kernel, rfl, by decide +kernel, by decide +kernel⟩
abbrev s_factors : Stmt := topS 1
theorem sc_factors : FnScope ["n", "found", "divisor", "exponent"] ["n"] (defScope s_factors) := ⟨rfl, rfl, rfl, by decide +kernel, rfl, by decide +kernel, by decide +kernel⟩
abbrev s_core : Stmt := topS 2
theorem sc_core : FnScope ["n", "squarefree", "side", "prime", "exponent", "count"] ["n"] (defScope s_core) := ⟨rfl, rfl, rfl, by decide +kernel, rfl, by decide +kernel, by decide +kernel⟩
abbrev s_shows : Stmt := topS 5
theorem sc_shows : FnScope ["numbers", "signs", "places", "at", "product"] ["numbers", "signs", "places"] (defScope s_shows) := ⟨rfl, rfl, rfl, by decide +kernel, rfl, by decide +kernel, by decide +kernel⟩
abbrev s_barred : Stmt := topS 7
theorem sc_barred : FnScope ["numbers", "signs", "length", "places"] ["numbers", "signs"] (defScope s_barred) := ⟨rfl, rfl, rfl, by decide +kernel, rfl, by decide +kernel, by decide +kernel⟩
abbrev s_patterns : Stmt := topS 8
theorem sc_patterns : FnScope ["numbers", "rows", "n", "row", "s"] ["numbers"] (defScope s_patterns) := ⟨rfl, rfl, rfl, by decide +kernel, rfl, by decide +kernel, by decide +kernel⟩
abbrev s_law_all : Stmt := topS 17
theorem sc_law_all : FnScope ["_law_many", "_law_rows", "_law_at", "_law_row"] ["_law_many"] (defScope s_law_all) := ⟨rfl, rfl, rfl, by decide +kernel, rfl, by decide +kernel, by decide +kernel⟩
abbrev s_law_asked : Stmt := topS 18
theorem sc_law_asked : FnScope ["_law_numbers"] ["_law_numbers"] (defScope s_law_asked) := ⟨rfl, rfl, rfl, by decide +kernel, rfl, by decide +kernel, by decide +kernel⟩
abbrev s_law_free : Stmt := topS 16
theorem sc_law_free : FnScope ["_law_n", "_law_free_here", "_law_k"] ["_law_n"] (defScope s_law_free) := ⟨rfl, rfl, rfl, by decide +kernel, rfl, by decide +kernel, by decide +kernel⟩
abbrev s_law_cell : Stmt := topS 10
theorem sc_law_cell : FnScope ["_law_script", "_law_k"] ["_law_script", "_law_k"] (defScope s_law_cell) := ⟨rfl, rfl, rfl, by decide +kernel, rfl, by decide +kernel, by decide +kernel⟩
abbrev s_law_draws : Stmt := topS 11
theorem sc_law_draws : FnScope ["_law_cell_here", "_law_sizes", "_law_drawn", "_law_left", "_law_at", "_law_mixed"] ["_law_cell_here", "_law_sizes"] (defScope s_law_draws) := ⟨rfl, rfl, rfl, by decide +kernel, rfl, by decide +kernel, by decide +kernel⟩
abbrev s_law_is_prime : Stmt := topS 13
theorem sc_law_is_prime : FnScope ["_law_n", "_law_k"] ["_law_n"] (defScope s_law_is_prime) := ⟨rfl, rfl, rfl, by decide +kernel, rfl, by decide +kernel, by decide +kernel⟩
abbrev s_law_sign : Stmt := topS 15
theorem sc_law_sign : FnScope ["_law_n", "_law_p", "_law_result", "_law_base", "_law_exponent"] ["_law_n", "_law_p"] (defScope s_law_sign) := ⟨rfl, rfl, rfl, by decide +kernel, rfl, by decide +kernel, by decide +kernel⟩
abbrev s_law : Stmt := topS 19
theorem sc_law : FnScope ["_law_script", "_law_head", "_law_menu", "_law_drawn", "_law_numbers", "_law_told", "_law_span", "_law_n", "_law_p", "_law_signs", "_law_first", "_law_second", "_law_k", "_law_row", "_law_s", "_law_t", "_law_other"] ["_law_script"] (defScope s_law) := ⟨rfl, rfl, rfl, by decide +kernel, rfl, by decide +kernel, by decide +kernel⟩
/-- the addresses of the classes -/
structure Adr where
  c_base : Addr
structure Txt (K : PySem.W.Frag) (mg : Str → Option Value) (Ad : Adr) : Prop where
  b_abs : mg "abs" = none
  b_int : mg "int" = none
  b_len : mg "len" = none
  b_list : mg "list" = none
  b_range : mg "range" = none
  b_set : mg "set" = none
  b_sorted : mg "sorted" = none
  b_zip : mg "zip" = none
  d_choices_of : DefAt K mg "choices_of" s_choices_of ["many", "length"]
  d_product_of : DefAt K mg "product_of" s_product_of ["factors_of_it"]
  d_factors : DefAt K mg "factors" s_factors ["n"]
  d_core : DefAt K mg "core" s_core ["n"]
  d_shows : DefAt K mg "shows" s_shows ["numbers", "signs", "places"]
  d_barred : DefAt K mg "barred" s_barred ["numbers", "signs"]
  d_patterns : DefAtR K mg "patterns" s_patterns
  d_law_all : DefAt K mg "_law_all" s_law_all ["_law_many"]
  d_law_asked : DefAt K mg "_law_asked" s_law_asked ["_law_numbers"]
  d_law_free : DefAt K mg "_law_free" s_law_free ["_law_n"]
  d_law_cell : DefAt K mg "_law_cell" s_law_cell ["_law_script", "_law_k"]
  d_law_draws : DefAt K mg "_law_draws" s_law_draws ["_law_cell_here", "_law_sizes"]
  d_law_is_prime : DefAt K mg "_law_is_prime" s_law_is_prime ["_law_n"]
  d_law_sign : DefAt K mg "_law_sign" s_law_sign ["_law_n", "_law_p"]
  triv : True
section
variable {P : Program} {w : World} {K : PySem.W.Frag} {mg : Str → Option Value} {base : Heap} {Ad : Adr}
/-! ### choices_of -/
/-- places as ints -/
def zN (r : List Nat) : List Int := r.map fun i : Nat => (i : Int)
theorem flat_len {m : Nat} (hm : m ≤ 6) (L : List (List Nat)) : (L.flatMap (stepN m)).length ≤ 6 * L.length := by
  rw [List.length_flatMap]
  induction L with
  | nil => simp
  | cons r L ih =>
    have : (stepN m r).length ≤ 6 := by unfold stepN; rw [List.length_map, List.length_range]; omega
    rw [List.map_cons, List.sum_cons, List.length_cons]
    omega
theorem chL_len {m : Nat} (hm : m ≤ 6) : ∀ l : Nat, l ≤ 8 → (chL m l).length ≤ 6 ^ l
  | 0, _ => by simp [chL]
  | l + 1, h => by
    have ih := chL_len hm l (by omega)
    rw [chL]
    have := flat_len hm (chL m l)
    rw [Nat.pow_succ]
    omega
theorem two_wayz {I P : Hp → Prop} {A : Prop} (h : (∀ G, I G → P G) → A) (k : ∀ G, I G → P G) : A := h k
def spCho (K : PySem.W.Frag) (n : Nat) : Sp := fun vs H Q _ => ∃ (m l : Nat), vs = [.int m, .int l] ∧ m ≤ 6 ∧ l < n ∧ l ≤ 6 ∧ NoT H ∧ ∀ L as G, NewZ H G L as ((chL m l).map zN) → Q (.ref L) G
theorem ok_choices_of_r (T : Txt K mg Ad) (n : Nat) : Def P w K mg base (1 + n) "choices_of" ["many", "length"] (spCho K n) := by
  induction n with
  | zero =>
    refine Def.mono (T.d_choices_of.ok (k := 0) sc_choices_of (fun vs H Q E h => ?_) (fun f cdv A outer s H vs Q E hr h => ?_)) (by omega)
    · obtain ⟨m, l, rfl, _⟩ := h
      rfl
    · obtain ⟨m, l, rfl, _, z, _⟩ := h
      omega
  | succ n ih =>
    refine T.d_choices_of.ok (k := 1 + n) sc_choices_of (fun vs H Q E h => ?_) (fun f cdv A outer s H vs Q E hr h => ?_)
    · obtain ⟨m, l, rfl, _⟩ := h
      rfl
    · obtain ⟨m, l, rfl, m6, ln, l6, nt, q⟩ := h
      refine ⟨_, (pss_cons (ps_if (pt_cmpR op_eq (pv 1) pe_int (nomark _)) (pss_one (ps_ret (pe_lst (pa_cons (pe_lst pa_nil) pa_nil)))) pss_nil)
      (pss_cons (ps_set (i := 2) sc_choices_of.nd rfl (Or.inl rfl) (pe_lst pa_nil))
      (pss_cons (ps_for (passes_of rfl) rfl (pi_list (pe_d ih (hr.mono (by omega)) (passes_call (takes_of rfl rfl rfl rfl) (fun _ _ _ _ h => h)) (pa_cons (pv 0) (pa_cons (pe_op op_sub (pv 1) pe_int) pa_nil)))) (pg_name (i := 3) sc_choices_of.nd rfl (Or.inr rfl)) (pss_cons (ps_set (i := 4) sc_choices_of.nd rfl (Or.inl rfl) (pe_ifExp (pt_cmpR (op_neD hr.units) (pv 3) (pe_lst pa_nil) (nomark _)) (pe_op op_add (pe_ix ix_list (pv 3) (pe_un un_neg pe_int) (fun _ _ => rfl)) pe_int) pe_int))
      (pss_one (ps_expr (pe_bm PySem.F.plainAttrs_list PySem.F.slot_list_extend PySem.F.type_list_extend mt_extend (pv 2) (pa_cons (pe_lc (own := [("at", 5)])  (te := (tOp rCat (tVar 3) (tLst (tCons (tVar 5) tNil)))) rfl sc_choices_of.nd  (pi_range2 (by rfl) T.b_range (pa_cons (pv 4) (pa_cons (pv 0) pa_nil))) (blkOk_by (own := [("at", 5)]) (N := ["many", "length", "rows", "row", "start", "at"]) (sc := defScope s_choices_of) (by decide +kernel)) (fun _ _ _ _ _ => (pg_name (i := 5) sc_choices_of.nd rfl (Or.inl rfl))) (fun _ _ _ _ _ => pts_nil) (fun _ _ _ _ _ => (pe_op op_cat (pv 3) (pe_lst (pa_cons (pv 5) pa_nil))))) pa_nil))))))
      (pss_one (ps_ret (pv 2)))))), ?_⟩
      try dsimp only [cxOf]
      wtm_at "rs"
      cases l with
      | zero =>
        refine rd_eqT rfl ?_
        wtm_at "rs"
        rename_i E0 hE0 L hL
        have EL : E0 ≠ L := fun z => by rw [← z, upd_same] at hL; cases hL
        refine q L [E0] _ ⟨(same_new hE0).trans (same_new hL), NoT.upd (NoT.upd nt rfl) rfl, (same_new (o := .lst []) hE0).free hL, upd_same, ⟨EL, ?_, trivial⟩, fun a ha => by rw [List.mem_singleton.mp ha]; exact hE0⟩
        rw [upd_ne EL]
        exact (upd_same : upd H E0 (.lst (([] : List Int).map V.int)) E0 = _)
      | succ l =>
        refine rd_eqF (by omega) ?_
        have B := Hv.start nt
        wtm_at "rs"
        rename_i M hM
        replace B := B.new (o := .lst (([] : List Addr).map V.ref)) hM
        clear hM
        refine B.gen fun G B => ?_
        rw [show ((l + 1 : Nat) : Int) - 1 = (l : Int) by omega]
        refine ⟨m, l, rfl, m6, by omega, by omega, B.nt, fun R cs G2 z => ?_⟩
        have f2 := B.fr (a := M) (by wtm_at "mem")
        have sM := z.s _ _ (B.mAt (a := M) (by wtm_at "mem"))
        have cM : ∀ a ∈ cs, a ≠ M := fun a ha e => by
          have := z.fa a ha
          rw [e, B.mAt (a := M) (by wtm_at "mem")] at this
          cases this
        have rM : RowsZ M G2 cs ((chL m l).map zN) := z.r.re cM
        replace B := B.got z.s z.n z.f z.l
        have cl := rM.len
        rw [List.length_map] at cl
        clear z sM cM
        revert rM
        refine B.gen fun G B rM => ?_
        wtm_at "rs"
        refine rd_forL (xs := cs.map V.ref) (fun i σ G => ∃ (v3 v4 v5 : Option V) (as : List Addr), σ = [some (.int m), some (.int ((l + 1 : Nat) : Int)), some (.ref M), v3, v4, v5] ∧ Hv noX H [(M, .lst (as.map V.ref))] [(R, .lst (cs.map V.ref))] [] G ∧ RowsZ M G cs ((chL m l).map zN) ∧ RowsZ M G as ((((chL m l).take i).flatMap (stepN m)).map zN) ∧ ∀ a ∈ as, H a = none) ⟨_, _, _, [], rfl, B, rM, trivial, fun a ha => absurd ha List.not_mem_nil⟩ (fun i σ G _ ⟨_, _, _, _, _, B, _⟩ => SqL.of (B.lAt (a := R) (by wtm_at "mem"))) ?_ ?_
        · clear B rM
          rintro i v σ G hi ⟨v3, v4, v5, as, rfl, B, rM, rA, fA⟩
          obtain ⟨a0, r0, rfl, _, hr0, a0M, h0⟩ := rM.at hi
          rw [List.getElem?_map] at hr0
          obtain ⟨r, hr', rfl⟩ := Option.map_eq_some_iff.mp hr0
          have et : ((chL m l).take (i + 1)).flatMap (stepN m) = ((chL m l).take i).flatMap (stepN m) ++ stepN m r := by rw [List.take_add_one, hr', List.flatMap_append]; simp
          rw [et, List.map_append]
          have rin := mem_chL.mp (List.mem_of_getElem? hr')
          have rl : r.length ≤ 6 := by have := asc_len rin.1; omega
          wtm_at "rs"
          rename_i N hN
          replace B := B.newL (o := .lst (([] : List Int).map V.int)) hN
          replace rM := rM.mono (same_new (o := .lst (([] : List Int).map V.int)) hN)
          replace rA := rA.mono (same_new (o := .lst (([] : List Int).map V.int)) hN)
          replace h0 := same_new (o := .lst (([] : List Int).map V.int)) hN _ _ h0
          have hE := B.lAt (a := N) (o := .lst (([] : List Int).map V.int)) (by wtm_at "mem")
          replace B := B.sub (L' := [(R, .lst (cs.map V.ref))]) (by wtm_at "vsub") (by wtm_at "vsub")
          clear hN
          revert rM rA h0 hE
          refine B.gen fun G B rM rA h0 hE => ?_
          refine rd_neInts (ns := zN r) (ms := []) (SqL.of h0) (SqL.of hE) ?_
          refine ⟨_, rfl, ?_⟩
          clear hE hi
          have rst : ∃ x : Int, x = ((nextN r : Nat) : Int) ∧ (r = [] → x = 0) ∧ ∀ y, r.getLast? = some y → x = (y : Int) + 1 := ⟨_, rfl, fun z => by rw [z]; rfl, fun y hy => by unfold nextN; rw [hy]; simp⟩
          obtain ⟨lo, hlo, lo0, lo1⟩ := rst
          refine two_wayz (I := fun G' => G' = G) (P := ?P) (fun fin => ?_) ?_
          rotate_left
          · by_cases r0 : r = []
            · rw [if_neg (by rw [r0]; decide)]
              wtm_at "rs"
              rw [show (0 : Int) = lo from (lo0 r0).symm]
              exact fin _ rfl
            · obtain ⟨r1, y, er⟩ := snoc_of r0
              have gl : r.getLast? = some y := by rw [er]; simp
              have ym : y < m := rin.1.2 y (by rw [er]; simp)
              rw [if_pos (by rw [Bool.not_eq_true', decide_eq_false_iff_not]; intro z; exact r0 (List.map_eq_nil_iff.mp z))]
              wtm_at "rs"
              refine rd_ixL (SqL.of h0) (show atI ((zN r).map V.int) (-1) = some (.int (y : Int)) by rw [er]; unfold zN; rw [List.map_append, List.map_append]; exact atI_last _ _) ?_
              wtm_at "rs"
              rw [← lo1 y gl]
              exact fin _ rfl
          · intro G' eG
            subst eG
            clear lo0 lo1
            have B0 := B
            refine rd_lcRG (fun D i ys H' => ∃ bs : List Addr, ys = bs.map V.ref ∧ Same G' H' ∧ NoT H' ∧ RowsZ D H' bs (((stepN m r).take i).map zN) ∧ bs.length ≤ i ∧ ∀ a ∈ bs, G' a = none) (fun D hD => ⟨[], rfl, same_new hD, NoT.upd B.nt rfl, trivial, Nat.le_refl _, fun a ha => absurd ha List.not_mem_nil⟩) (fun D i ys H' hD hi hys J => ?_) fun D ys H' hD hys J => ?_
            · obtain ⟨bs, rfl, sm, n2, rz, bl, fb⟩ := J
              have h02 := sm _ _ h0
              have C := (Hv.start n2)
              have i6 : i < 6 := by omega
              have bl2 : (bs.map V.ref).length < sizeLine := by rw [List.length_map]; exact Nat.lt_of_lt_of_le (show bs.length < 100 by omega) (by decide)
              wtm_at "r"
              refine ⟨rfl, ?_⟩
              wtm_at "rs"
              rename_i X hX
              refine rd_cat (same_new hX _ _ h02) upd_same (Nat.le_trans (show _ ≤ 100 by unfold zN; simp; omega) (by decide)) fun Y hY => ?_
              have s4 := (same_new (o := .lst [.int (lo + (i : Int))]) hX).trans (same_new (o := .lst ((zN r).map V.int ++ [.int (lo + (i : Int))])) hY)
              have XD : Y ≠ D := fun z => by
                have := (same_new (o := .lst [.int (lo + (i : Int))]) hX) _ _ hys
                rw [← z, hY] at this
                cases this
              have gi : (stepN m r)[i]? = some (r ++ [nextN r + i]) := by
                unfold stepN
                rw [List.getElem?_map, List.getElem?_range (by omega)]
                rfl
              refine ⟨_, s4 _ _ hys, bl2, _, upd_same, bs ++ [Y], by simp, (same_upd2 (sm.trans s4) hD), NoT.upd (NoT.upd (NoT.upd n2 rfl) rfl) rfl, ?_, by rw [List.length_append, List.length_singleton]; omega, fun a ha => ?_⟩
              · rw [List.take_add_one, gi, List.map_append]
                refine RowsZ.snoc ((rz.but (But.of s4)).but (But.put But.refl)) XD ?_
                rw [upd_ne XD, upd_same]
                unfold zN
                rw [hlo]
                simp
              · rcases List.mem_append.mp ha with h | h
                · exact fb a h
                · rw [List.mem_singleton.mp h]
                  exact (sm.trans (same_new (o := .lst [.int (lo + (i : Int))]) hX)).free hY
            · obtain ⟨bs, rfl, sm, n2, rz, bl, fb⟩ := J
              have es : (stepN m r).take ((m : Int) - lo).toNat = stepN m r := List.take_of_length_le (by unfold stepN; rw [List.length_map, List.length_range]; omega)
              rw [es] at rz
              have hM0 := B.mAt (a := M) (by wtm_at "mem")
              have rA2 := rA.mono sm
              have rM2 := rM.mono sm
              replace B := B.next sm n2
              have fM : ∀ a ∈ bs, a ≠ M := fun a ha e => by
                have := fb a ha
                rw [e, hM0] at this
                cases this
              wtm_at "rs"
              have al := rA2.len
              rw [List.length_map] at al
              have fl := flat_len m6 ((chL m l).take i)
              have tl : ((chL m l).take i).length ≤ 6 ^ 6 := Nat.le_trans (List.length_take_le' i _) (Nat.le_trans (chL_len m6 l (by omega)) (Nat.pow_le_pow_right (by decide) (by omega)))
              have bl2 : bs.length ≤ 6 := by omega
              refine rd_extend (B.mAt (a := M) (by wtm_at "mem")) hys (Nat.le_trans (show _ ≤ 1000000 by rw [List.length_map, List.length_map]; omega) (by decide)) ?_
              rw [← List.map_append]
              refine ⟨_, _, _, as ++ bs, rfl, B.put, rM2.but (But.put But.refl), (rA2.app (rz.re fM)).but (But.put But.refl), fun a ha => ?_⟩
              rcases List.mem_append.mp ha with h | h
              · exact fA a h
              · exact B0.free (fb a h)
        · clear B rM
          rintro σ G ⟨v3, v4, v5, as, rfl, B, rM, rA, fA⟩
          rw [List.length_map, cl, List.take_length] at rA
          wtm_at "rs"
          exact q M as G ⟨B.same, B.nt, B.fr (a := M) (by wtm_at "mem"), B.mAt (a := M) (by wtm_at "mem"), rA, fA⟩
theorem ok_choices_of (T : Txt K mg Ad) : Def P w K mg base 10 "choices_of" ["many", "length"] (spCho K 9) := ok_choices_of_r T 9
/-! ### product_of -/
def spProdOf (K : PySem.W.Frag) : Sp := fun vs H Q _ => ∃ (a : Addr) (xs : List Int), vs = [.ref a] ∧ SqL K H a (xs.map V.int) ∧ Pm1 xs ∧ Q (.int (xs.foldl (· * ·) 1)) H
theorem fold_pm {xs : List Int} : ∀ {a : Int}, (a = 1 ∨ a = -1) → Pm1 xs → xs.foldl (· * ·) a = 1 ∨ xs.foldl (· * ·) a = -1 := by
  induction xs with
  | nil => intro a h _; exact h
  | cons x xs ih => intro a h p; exact ih (pm_mul h (p x List.mem_cons_self)) fun y hy => p y (List.mem_cons_of_mem _ hy)
theorem ok_product_of (T : Txt K mg Ad) : Def P w K mg base 1 "product_of" ["factors_of_it"] (spProdOf K) := by
  refine T.d_product_of.ok sc_product_of (fun vs H Q E h => ?_) (fun f cdv A outer s H vs Q E hr h => ?_)
  · obtain ⟨a, xs, rfl, _⟩ := h
    rfl
  · obtain ⟨a, xs, rfl, ha, p, q⟩ := h
    refine ⟨_, (pss_cons (ps_set (i := 1) sc_product_of.nd rfl (Or.inl rfl) pe_int)
      (pss_cons (ps_for (passes_of rfl) rfl (pi_list (pv 0)) (pg_name (i := 2) sc_product_of.nd rfl (Or.inl rfl)) (pss_one (ps_set (i := 1) sc_product_of.nd rfl (Or.inl rfl) (pe_op op_mulB (pv 1) (pv 2)))))
      (pss_one (ps_ret (pv 1))))), ?_⟩
    try dsimp only [cxOf]
    wtm_at "rs"
    refine rd_forLs (fun i σ => ∃ v2, σ = [some (.ref a), some (.int ((xs.take i).foldl (· * ·) 1)), v2]) ha ⟨_, rfl⟩ ?_ ?_
    · rintro i v σ hi ⟨v2, rfl⟩
      rw [List.getElem?_map] at hi
      obtain ⟨x, hx, rfl⟩ := Option.map_eq_some_iff.mp hi
      have px := p x (List.mem_of_getElem? hx)
      have pt := fold_pm (xs := xs.take i) (a := 1) (.inl rfl) fun y hy => p y (List.mem_of_mem_take hy)
      have mb : CMulB ((xs.take i).foldl (· * ·) 1) x := Or.inl (Or.inl ⟨by omega, by omega⟩)
      have e : (xs.take (i + 1)).foldl (· * ·) 1 = (xs.take i).foldl (· * ·) 1 * x := by rw [List.take_add_one, hx, List.foldl_append]; rfl
      rw [e]
      generalize (xs.take i).foldl (· * ·) 1 = z at *
      wtm_at "rs"
      exact ⟨rfl, _, rfl⟩
    · rintro σ ⟨v2, rfl⟩
      rw [show (xs.map V.int).length = xs.length by simp, List.take_length]
      wtm_at "rs"
      exact q
theorem use_prodOf {K : PySem.W.Frag} {a : Addr} {xs : List Int} {H : Hp} {Q : VK} {E : XK} (h : SqL K H a (xs.map V.int)) (p : Pm1 xs) (q : Q (.int (xs.foldl (· * ·) 1)) H) : spProdOf K [.ref a] H Q E := ⟨a, xs, rfl, h, p, q⟩
/-! ### factors -/
def spFactors : Sp := fun vs H Q E => ∃ n : Int, vs = [.int n] ∧ NoT H ∧ 1 ≤ n ∧ n < 2 ^ 100 ∧ ∀ p H' ts fs, Same H H' → NoT H' → H p = none → H' p = some (.lst (ts.map V.ref)) → RowsAt H' ts (fs.map rowF) → FacOk n fs → Q (.ref p) H'
theorem ok_factors (T : Txt K mg Ad) : Def P w K mg base 1 "factors" ["n"] spFactors := by
  refine T.d_factors.ok sc_factors (fun vs H Q E h => ?_) (fun f cdv A outer s H vs Q E hr h => ?_)
  · obtain ⟨n, rfl, _⟩ := h
    rfl
  · obtain ⟨n0, rfl, nt, hn1, hn2, qo⟩ := h
    refine ⟨_, (pss_cons (ps_set (i := 1) sc_factors.nd rfl (Or.inl rfl) (pe_lst pa_nil))
      (pss_cons (ps_set (i := 2) sc_factors.nd rfl (Or.inl rfl) pe_int)
      (pss_cons (ps_while (passes_of rfl) (pt_cmpR op_le (pe_op op_mulB (pv 2) (pv 2)) (pv 0) (nomark _)) (pss_cons (ps_set (i := 3) sc_factors.nd rfl (Or.inl rfl) pe_int)
      (pss_cons (ps_while (passes_of rfl) (pt_cmpR op_eq (pe_op op_mod (pv 0) (pv 2)) pe_int (nomark _)) (pss_cons (ps_set (i := 0) sc_factors.nd rfl (Or.inl rfl) (pe_op op_fdivB (pv 0) (pv 2)))
      (pss_one (ps_aug (i := 3) sc_factors.nd rfl (Or.inl rfl) pe_int ip_add))))
      (pss_cons (ps_if (pt_cmpR op_gt (pv 3) pe_int (nomark _)) (pss_one (ps_expr (pe_bm PySem.F.plainAttrs_list PySem.F.slot_list_append PySem.F.type_list_append mt_append (pv 1) (pa_cons (pe_tup (pa_cons (pv 2) (pa_cons (pv 3) pa_nil))) pa_nil)))) pss_nil)
      (pss_one (ps_aug (i := 2) sc_factors.nd rfl (Or.inl rfl) pe_int ip_add))))))
      (pss_cons (ps_if (pt_cmpR op_gt (pv 0) pe_int (nomark _)) (pss_one (ps_expr (pe_bm PySem.F.plainAttrs_list PySem.F.slot_list_append PySem.F.type_list_append mt_append (pv 1) (pa_cons (pe_tup (pa_cons (pv 0) (pa_cons pe_int pa_nil))) pa_nil)))) pss_nil)
      (pss_one (ps_ret (pv 1))))))), ?_⟩
    try dsimp only [cxOf]
    wtm_at "rs"
    rename_i p hp
    refine rd_while (fun μ σ H' => ∃ (n d : Int) (ts : List Addr) (fs : List (Int × Nat)) (v3 : Option V), μ = (n0 + 2 - d).toNat ∧ σ = [some (.int n), some (.ref p), some (.int d), v3] ∧ Same H H' ∧ NoT H' ∧ H' p = some (.lst (ts.map V.ref)) ∧ RowsAt H' ts (fs.map rowF) ∧ FacInv n0 n d fs ∧ n ≤ n0 ∧ d < 2 ^ 61) n0.toNat
      ⟨n0, 2, [], [], none, by omega, rfl, same_new hp, NoT.upd nt rfl, upd_same, trivial, FacInv.start hn1, by omega, by decide⟩ ?_
    rintro μ σ H' ⟨n, d, ts, fs, v3, rfl, rfl, sm, nt', hp', hl, inv, hle, hd61⟩
    have d2 := inv.two
    have n1 := inv.pos
    wtm_at "rs"
    wtm_at "i"
    · rename_i hdd
      have db := QR.le_sq (show 1 ≤ d by omega)
      have dsq := QR.sq_bound (by omega) hdd (show n < 2 ^ 120 by omega)
      wtm_at "rs"
      refine rd_while (fun μ σ H2 => ∃ (m : Int) (e : Nat), μ = m.toNat ∧ σ = [some (.int m), some (.ref p), some (.int d), some (.int e)] ∧ H' = H2 ∧ m * d ^ e = n ∧ 1 ≤ m ∧ m ≤ n) n.toNat
        ⟨n, 0, rfl, rfl, rfl, by simp, n1, Int.le_refl _⟩ ?_
      rintro μ σ H2 ⟨m, e, rfl, rfl, rfl, hm, hm1, hmn⟩
      wtm_at "rs"
      wtm_at "i"
      · rename_i hz
        have hdv := Int.mul_ediv_add_emod m d
        have hq1 : 1 ≤ m / d := by
          rcases Int.lt_or_le (m / d) 1 with z | z
          · exfalso
            have : d * (m / d) ≤ d * 0 := Int.mul_le_mul_of_nonneg_left (by omega) (by omega)
            omega
          · exact z
        have hq2 : m / d < m := by
          have : 2 * (m / d) ≤ d * (m / d) := Int.mul_le_mul_of_nonneg_right d2 (by omega)
          omega
        wtm_at "rs"
        refine ⟨_, ?_, m / d, e + 1, rfl, rfl, rfl, ?_, hq1, by omega⟩
        · omega
        · rw [Int.pow_succ, ← hm]
          have : m = d * (m / d) := by omega
          conv => rhs; rw [this]
          grind
      · rename_i hz
        have hnd : ¬ d ∣ m := fun z => hz (Int.emod_eq_zero_of_dvd z)
        wtm_at "rs"
        wtm_at "i"
        · rename_i he
          have inv2 := inv.next (by omega) hm hm1 hnd
          have flen := inv.len hn2
          have hroom : (ts.map V.ref).length < sizeLine := by
            rw [List.length_map, hl.len, List.length_map]
            exact Nat.lt_of_le_of_lt (m := 1000000) (by omega) (by decide)
          wtm_at "rs"
          rename_i t ht
          refine ⟨_, ?_, m, d + 1, ts ++ [t], fs ++ [(d, e)], _, rfl, rfl, by wtm_at "sm", by wtm_at "nt", by rw [upd_same, List.map_append]; rfl, ?_, inv2, by omega, by omega⟩
          · omega
          · rw [List.map_append]
            refine RowsAt.other ((same_new ht) _ _ hp') (RowsAt.snoc upd_same (hl.mono (same_new ht)))
        · rename_i he
          have e0 : e = 0 := by omega
          subst e0
          have em : m = n := by simpa using hm
          subst em
          wtm_at "rs"
          exact ⟨_, by omega, m, d + 1, ts, fs, _, rfl, rfl, sm, nt', hp', hl, inv.next0 hnd, by omega, by omega⟩
    · rename_i hdd
      wtm_at "rs"
      wtm_at "i"
      · rename_i h1
        have flen := inv.len hn2
        have hroom : (ts.map V.ref).length < sizeLine := by
          rw [List.length_map, hl.len, List.length_map]
          exact Nat.lt_of_le_of_lt (m := 1000000) (by omega) (by decide)
        wtm_at "rs"
        rename_i t ht
        refine qo p _ (ts ++ [t]) (fs ++ [(n, 1)]) (by wtm_at "sm") (by wtm_at "nt") hp (by rw [upd_same, List.map_append]; rfl) ?_ (inv.done h1 (by omega))
        rw [List.map_append]
        exact RowsAt.other ((same_new ht) _ _ hp') (RowsAt.snoc upd_same (hl.mono (same_new ht)))
      · rename_i h1
        have en : n = 1 := by omega
        subst en
        wtm_at "rs"
        exact qo p H' ts fs sm nt' hp hp' hl inv.done1
/-! ### core -/
def spCore : Sp := fun vs H Q E => ∃ n : Int, vs = [.int n] ∧ NoT H ∧ n ≠ 0 ∧ -(2 ^ 60) < n ∧ n < 2 ^ 60 ∧ ∀ s r, CoreOk n s r → ∀ H' t, Same H H' → NoT H' → H t = none → H' t = some (.tup [.int s, .int r]) → Q (.ref t) H'
local macro_rules | `(tactic| wtm_at "cf") => `(tactic| ((with_reducible show spFactors [.int _] _ _ _); refine ⟨_, rfl, by wtm_at "nt", by first | omega | (split <;> omega), by first | omega | (split <;> omega), ?_⟩; intro p H' ts fs sm nt hp hp' hl hf))
theorem ok_core (T : Txt K mg Ad) : Def P w K mg base 2 "core" ["n"] spCore := by
  refine T.d_core.ok sc_core (fun vs H Q E h => ?_) (fun f cdv A outer s H vs Q E hr h => ?_)
  · obtain ⟨n, rfl, _⟩ := h
    rfl
  · obtain ⟨n, rfl, nt, hn0, hn1, hn2, qo⟩ := h
    refine ⟨_, (pss_cons (ps_set (i := 1) sc_core.nd rfl (Or.inl rfl) pe_int)
      (pss_cons (ps_if (pt_cmpR op_lt (pv 0) pe_int (nomark _)) (pss_one (ps_set (i := 1) sc_core.nd rfl (Or.inl rfl) (pe_un un_neg pe_int))) pss_nil)
      (pss_cons (ps_set (i := 2) sc_core.nd rfl (Or.inl rfl) pe_int)
      (pss_cons (ps_for (passes_of rfl) rfl (pi_list (pe_d (ok_factors T) (hr.mono (by decide)) (passes_call (takes_of rfl rfl rfl rfl) (fun _ _ _ _ h => h)) (pa_cons (pe_callB c_abs (by rfl) T.b_abs (by decide +kernel) (pa_cons (pv 0) pa_nil)) pa_nil))) (pg_tup rfl (pgs_cons (pg_name (i := 3) sc_core.nd rfl (Or.inl rfl)) (pgs_cons (pg_name (i := 4) sc_core.nd rfl (Or.inl rfl)) pgs_nil))) (pss_cons (ps_if (pt_cmpR op_eq (pe_op op_mod (pv 4) pe_int) pe_int (nomark _)) (pss_one (ps_set (i := 1) sc_core.nd rfl (Or.inl rfl) (pe_op op_mulB (pv 1) (pv 3)))) pss_nil)
      (pss_one (ps_for (passes_of rfl) rfl (pi_range1 (by rfl) T.b_range (pa_cons (pe_op op_fdivB (pv 4) pe_int) pa_nil)) (pg_name (i := 5) sc_core.nd rfl (Or.inl rfl)) (pss_one (ps_set (i := 2) sc_core.nd rfl (Or.inl rfl) (pe_op op_mulB (pv 2) (pv 3))))))))
      (pss_one (ps_ret (pe_tup (pa_cons (pv 1) (pa_cons (pv 2) pa_nil))))))))), ?_⟩
    try dsimp only [cxOf]
    repeat' (first | wtm_at "r" | wtm_at "s" | wtm_at "i" | wtm_at "cf" | fail)
    all_goals
      rename_i h0 p H' ts fs sm nt' hp hp' hl hf
      have hnab : (if n < 0 then -n else n) < 2 ^ 60 := by split <;> omega
      refine rd_forL (xs := ts.map V.ref) (fun i σ H2 => ∃ (sf sd : Int) (v3 v4 v5 : Option V), σ = [some (.int n), some (.int sf), some (.int sd), v3, v4, v5] ∧ H' = H2 ∧ sf * sfL (fs.drop i) = (if n < 0 then -1 else 1) * sfL fs ∧ sd * sdL (fs.drop i) = sdL fs)
        ⟨(if n < 0 then -1 else 1), 1, none, none, none, by first | (rw [if_pos h0]; rfl) | (rw [if_neg h0]; rfl), rfl, by simp, by simp⟩ (fun i σ H2 _ ⟨_, _, _, _, _, _, h, _⟩ => by rw [← h]; exact SqL.of hp') ?_ ?_
      · rintro i x σ H2 hi ⟨sf, sd, v3, v4, v5, rfl, rfl, e1, e2⟩
        obtain ⟨t, l, rfl, ht, hlx⟩ := hl.at hi
        rw [List.getElem?_map] at hlx
        obtain ⟨⟨q, e⟩, hy, rfl⟩ := Option.map_eq_some_iff.mp hlx
        have hd : fs.drop i = (q, e) :: fs.drop (i + 1) := by
          obtain ⟨hlt, hv⟩ := List.getElem?_eq_some_iff.mp hy
          rw [List.drop_eq_getElem_cons hlt, hv]
        obtain ⟨b1, b2, b3, b4⟩ := fac_small hf hnab (List.mem_of_getElem? hy)
        replace b1 : 2 ≤ q := b1
        replace b2 : q < 2 ^ 60 := b2
        replace b4 : e < 60 := b4
        have hT : SqT K H' t [.int q, .int (e : Int)] := SqT.of ht
        rw [hd] at e1 e2
        simp only [sfL, sdL] at e1 e2
        have ee : ((e : Int) / 2).toNat = e / 2 := by omega
        wtm_at "rs"
        wtm_at "i"
        · rename_i ho
          rw [if_pos (by omega)] at e1
          wtm_at "rs"
          rw [ee]
          refine rd_forR (fun j σ H2 => ∃ (v5 : Option V), σ = [some (.int n), some (.int (sf * q)), some (.int (sd * q ^ j)), some (.int q), some (.int e), v5] ∧ H' = H2) ⟨v5, by rw [Int.pow_zero, Int.mul_one]; rfl, rfl⟩ ?_ ?_
          · rintro j σ H2 hj ⟨v5, rfl, rfl⟩
            wtm_at "rs"
            exact ⟨_, by rw [Int.pow_succ, ← Int.mul_assoc]; rfl, rfl⟩
          · rintro σ H2 ⟨v5, rfl, rfl⟩
            exact ⟨_, _, _, _, _, rfl, rfl, by rw [← e1, Int.mul_assoc], by rw [← e2, Int.mul_assoc]⟩
        · rename_i ho
          rw [if_neg (by omega), Int.one_mul] at e1
          wtm_at "rs"
          rw [ee]
          refine rd_forR (fun j σ H2 => ∃ (v5 : Option V), σ = [some (.int n), some (.int sf), some (.int (sd * q ^ j)), some (.int q), some (.int e), v5] ∧ H' = H2) ⟨v5, by rw [Int.pow_zero, Int.mul_one]; rfl, rfl⟩ ?_ ?_
          · rintro j σ H2 hj ⟨v5, rfl, rfl⟩
            wtm_at "rs"
            exact ⟨_, by rw [Int.pow_succ, ← Int.mul_assoc]; rfl, rfl⟩
          · rintro σ H2 ⟨v5, rfl, rfl⟩
            exact ⟨_, _, _, _, _, rfl, rfl, e1, by rw [← e2, Int.mul_assoc]⟩
      · rintro σ H2 ⟨sf, sd, v3, v4, v5, rfl, rfl, e1, e2⟩
        rw [List.length_map, hl.len, List.length_map, List.drop_length] at e1 e2
        have e1' : sf = (if n < 0 then -1 else 1) * sfL fs := by rw [← e1]; simp [sfL]
        have e2' : sd = sdL fs := by rw [← e2]; simp [sdL]
        have hc := core_ok hf
        rw [← e1', ← e2'] at hc
        wtm_at "rs"
        rename_i t ht
        exact qo sf sd hc _ t (by wtm_at "sm") (by wtm_at "nt") (Same.free sm ht) upd_same
theorem use_core {n : Int} {H : Hp} {Q : VK} {E : XK} (nt : NoT H) (h0 : n ≠ 0) (h1 : -(2 ^ 60) < n) (h2 : n < 2 ^ 60) (q : ∀ s r, CoreOk n s r → ∀ H' t, Same H H' → NoT H' → H t = none → H' t = some (.tup [.int s, .int r]) → Q (.ref t) H') : spCore [.int n] H Q E := ⟨n, rfl, nt, h0, h1, h2, q⟩
/-! ### shows -/
theorem rd_ixQ {K : PySem.W.Frag} {H : Hp} {Q : VK} {p : Addr} {xs : List V} {i : Int} {v : V} (h : SqL K H p xs ∨ SqT K H p xs) (ha : atI xs i = some v) (q : Q v H) : rIx K (.ref p) (.int i) H Q := h.elim (fun h => .inl ⟨p, xs, i, v, rfl, rfl, h, ha, q⟩) fun h => .inr (.inl ⟨p, xs, i, v, rfl, rfl, h, ha, q⟩)
/-- the places of a list bar a pattern -/
def ShI (ns σ : List Int) (ps : List Int) : Prop := ps ≠ [] ∧ ps.Pairwise (· < ·) ∧ (∀ i ∈ ps, 0 ≤ i ∧ i < ns.length) ∧ ShowN ns σ (ps.map Int.toNat)
theorem prodN_le {ns : List Int} (h : ∀ x ∈ ns, x.natAbs ≤ 100) (P : List Nat) : (prodN P ns).natAbs ≤ 100 ^ P.length := by
  have go : ∀ (P : List Nat) (a : Int), ((P.map fun i => ns.getD i 1).foldl (· * ·) a).natAbs ≤ a.natAbs * 100 ^ P.length := fun P => by
    induction P with
    | nil => intro a; simp
    | cons i P ih =>
      intro a
      refine Nat.le_trans (ih _) ?_
      have hx : (ns.getD i 1).natAbs ≤ 100 := by
        rw [List.getD_eq_getElem?_getD]
        cases e : ns[i]? with
        | none => decide
        | some x => exact h x (List.mem_of_getElem? e)
      rw [Int.natAbs_mul, List.length_cons, Nat.pow_succ, Nat.mul_comm (100 ^ P.length), ← Nat.mul_assoc]
      exact Nat.mul_le_mul_right _ (Nat.mul_le_mul_left _ hx)
  have := go P 1
  simpa [prodN] using this
theorem prodN_ne {ns : List Int} (h : ∀ x ∈ ns, x ≠ 0) (P : List Nat) : prodN P ns ≠ 0 := by
  have go : ∀ (P : List Nat) (a : Int), a ≠ 0 → ((P.map fun i => ns.getD i 1).foldl (· * ·) a) ≠ 0 := fun P => by
    induction P with
    | nil => intro a h; exact h
    | cons i P ih =>
      intro a ha
      refine ih _ (Int.mul_ne_zero ha ?_)
      show ns.getD i 1 ≠ 0
      rw [List.getD_eq_getElem?_getD]
      cases e : ns[i]? with
      | none => decide
      | some x => exact h x (List.mem_of_getElem? e)
  exact go P 1 (by decide)
theorem atI_D {xs : List Int} {i : Int} (h0 : 0 ≤ i) (h1 : i < xs.length) : atI (xs.map V.int) i = some (.int (xs.getD i.toNat 1)) := by
  obtain ⟨j, rfl⟩ : ∃ j : Nat, i = (j : Int) := ⟨i.toNat, by omega⟩
  have hj : j < xs.length := by omega
  exact atI_nat (by rw [List.getElem?_map, Int.toNat_natCast, List.getD_eq_getElem?_getD, List.getElem?_eq_getElem hj]; rfl)
theorem getD_of {xs : List Int} {i : Nat} {P : Int → Prop} (h : ∀ x ∈ xs, P x) (h1 : i < xs.length) : P (xs.getD i 1) := by
  rw [List.getD_eq_getElem?_getD, List.getElem?_eq_getElem h1]
  exact h _ (List.getElem_mem h1)
structure Nums (ns : List Int) : Prop where
  nz : ∀ x ∈ ns, x ≠ 0
  le : ∀ x ∈ ns, x.natAbs ≤ 100
  few : ns.length ≤ 8
noncomputable instance {ns σ ps : List Int} : Decidable (ShI ns σ ps) := Classical.propDecidable _
def spShows (K : PySem.W.Frag) : Sp := fun vs H Q _ => ∃ (a b c : Addr) (ns σ ps : List Int), vs = [.ref a, .ref b, .ref c] ∧ (SqL K H a (ns.map V.int) ∨ SqT K H a (ns.map V.int)) ∧ SqL K H b (σ.map V.int) ∧ SqL K H c (ps.map V.int) ∧ Nums ns ∧ σ.length = ns.length ∧ Pm1 σ ∧ ps.length ≤ 8 ∧ (∀ i ∈ ps, -100 ≤ i ∧ i ≤ 100) ∧ NoT H ∧ ∀ G, Same H G → NoT G → Q (.bl (decide (ShI ns σ ps))) G
theorem ok_shows (T : Txt K mg Ad) : Def P w K mg base 3 "shows" ["numbers", "signs", "places"] (spShows K) := by
  refine T.d_shows.ok sc_shows (fun vs H Q E h => ?_) (fun f cdv A outer s H vs Q E hr h => ?_)
  · obtain ⟨a, b, c, ns, σ, ps, rfl, _⟩ := h
    rfl
  · obtain ⟨a, b, c, ns, sg, ps, rfl, ha, hb, hc, nm, sl, pm, p8, pb, nt, q⟩ := h
    refine ⟨_, (pss_cons (ps_if (PW.pt (pw_or (pt_cmpR (op_eqD hr.units) (pv 2) (pe_lst pa_nil) (nomark _)) (pw_or1 (pt_cmpR (op_neD hr.units) (pv 2) (pe_callB (cr_sortSetN rfl) (by rfl) T.b_sorted (by decide +kernel) (pa_cons (pe_callTy (cr_setOf rfl) (by rfl) T.b_set (by decide +kernel) (pa_cons (pv 2) pa_nil)) pa_nil)) (nomark _))))) (pss_one (ps_ret pe_bl)) pss_nil)
      (pss_cons (ps_if (PW.pt (pw_or (pt_cmpR op_lt (pe_ix ix_list (pv 2) pe_int (fun _ _ => rfl)) pe_int (nomark _)) (pw_or1 (pt_cmpR op_ge (pe_ix ix_list (pv 2) (pe_un un_neg pe_int) (fun _ _ => rfl)) (pe_callB c_len (by rfl) T.b_len PySem.boot_len (pa_cons (pv 0) pa_nil)) (nomark _))))) (pss_one (ps_ret pe_bl)) pss_nil)
      (pss_cons (ps_if (pt_cmpR op_ne (pe_d (ok_product_of T) (hr.mono (by decide)) (passes_call (takes_of rfl rfl rfl rfl) (fun _ _ _ _ h => h)) (pa_cons (pe_lc (own := [("at", 3)])  (te := (tOp (rIxL K) (tVar 1) (tVar 3))) rfl sc_shows.nd  (pi_list (pv 2)) (blkOk_by (own := [("at", 3)]) (N := ["numbers", "signs", "places", "at", "product"]) (sc := defScope s_shows) (by decide +kernel)) (fun _ _ _ _ _ => (pg_name (i := 3) sc_shows.nd rfl (Or.inl rfl))) (fun _ _ _ _ _ => pts_nil) (fun _ _ _ _ _ => (pe_ix ix_list (pv 1) (pv 3) (fun _ _ => rfl)))) pa_nil)) (pe_un un_neg pe_int) (nomark _)) (pss_one (ps_ret pe_bl)) pss_nil)
      (pss_cons (ps_set (i := 4) sc_shows.nd rfl (Or.inl rfl) pe_int)
      (pss_cons (ps_for (passes_of rfl) rfl (pi_list (pv 2)) (pg_name (i := 3) sc_shows.nd rfl (Or.inl rfl)) (pss_one (ps_set (i := 4) sc_shows.nd rfl (Or.inl rfl) (pe_ix ix_tup (pe_d (ok_core T) (hr.mono (by decide)) (passes_call (takes_of rfl rfl rfl rfl) (fun _ _ _ _ h => h)) (pa_cons (pe_op op_mulB (pv 4) (pe_ix ix_seq (pv 0) (pv 3) (fun _ _ => rfl))) pa_nil)) pe_int (fun _ _ => rfl)))))
      (pss_one (ps_ret (pe_cmpR op_eq (pv 4) pe_int (nomark _))))))))), ?_⟩
    try dsimp only [cxOf]
    have B := Hv.start nt
    have no : ¬ ShI ns sg ps → ∀ G, Same H G → NoT G → Q (.bl false) G := fun z G s n => by
      have := q G s n
      rw [decide_eq_false z] at this
      exact this
    wtm_at "rs"
    rename_i L hL
    replace B := B.newL (o := .lst (([] : List Int).map V.int)) hL
    clear hL
    refine B.gen fun G B => ?_
    refine rd_eqInts (ns := ps) (ms := []) (B.same.seq hc) (SqL.of (B.lAt (a := L) (by wtm_at "mem"))) ?_
    refine ⟨_, rfl, ?_⟩
    by_cases p0 : ps = []
    · rw [if_pos (decide_eq_true p0)]
      wtm_at "rs"
      exact no (fun z => z.1 p0) _ B.same B.nt
    rw [if_neg (by rw [decide_eq_true_iff]; exact p0)]
    wtm_at "rs"
    refine rd_setOfL (B.same.seq hc) (by omega) fun D n hD => ?_
    replace B := B.next (same_new (o := SetO w D (inS ps) n) hD) (NoT.upd B.nt rfl)
    have hD2 : upd G D (SetO w D (inS ps) n) D = some (SetO w D (inS ps) n) := upd_same
    clear hD
    revert hD2
    refine B.gen fun G B hD2 => ?_
    wtm_at "rs"
    refine rd_sortSetN hD2 fun us p3 i3 e3 h3 => ?_
    replace B := B.newL (o := .lst (us.map V.int)) h3
    clear h3 hD2
    refine B.gen fun G B => ?_
    refine rd_neInts (ns := ps) (ms := us) (B.same.seq hc) (SqL.of (B.lAt (a := p3) (by wtm_at "mem"))) ?_
    refine ⟨_, rfl, ?_⟩
    by_cases pu : ps = us
    · rw [if_neg (by rw [Bool.not_eq_true, Bool.not_eq_false', decide_eq_true_iff]; exact pu)]
      subst pu
      obtain ⟨x, xs, rfl⟩ : ∃ x xs, ps = x :: xs := by
        cases ps with
        | nil => exact absurd rfl p0
        | cons x xs => exact ⟨x, xs, rfl⟩
      obtain ⟨ys, y, ey⟩ := snoc_of (l := x :: xs) (by simp)
      have hx0 : atI ((x :: xs).map V.int) 0 = some (.int x) := show atI _ ((0 : Nat) : Int) = _ from atI_nat rfl
      have hy0 : atI ((x :: xs).map V.int) (-1) = some (.int y) := by rw [ey, List.map_append]; exact atI_last _ _
      have xm : x ∈ x :: xs := by simp
      have ym : y ∈ x :: xs := by rw [ey]; simp
      have lx : ∀ i ∈ x :: xs, x ≤ i := fun i hi => by
        rcases List.mem_cons.mp hi with e | e
        · omega
        · exact Int.le_of_lt ((List.pairwise_cons.mp i3).1 i e)
      have ly : ∀ i ∈ x :: xs, i ≤ y := fun i hi => by
        rw [ey] at hi i3
        rcases List.mem_append.mp hi with e | e
        · exact Int.le_of_lt ((List.pairwise_append.mp i3).2.2 i e y (by simp))
        · rw [List.mem_singleton.mp e]; exact Int.le_refl _
      clear ey e3
      generalize x :: xs = ps at *
      wtm_at "rs"
      refine rd_ixL (B.same.seq hc) hx0 ?_
      wtm_at "rs"
      by_cases x0 : x < 0
      · rw [if_pos (decide_eq_true x0)]
        wtm_at "rs"
        exact no (fun z => by have := z.2.2.1 x xm; omega) _ B.same B.nt
      rw [if_neg (by rw [decide_eq_true_iff]; exact x0)]
      wtm_at "rs"
      refine rd_ixL (B.same.seq hc) hy0 ?_
      wtm_at "rs"
      refine ⟨a, ns.map V.int, rfl, ha.imp B.same.seq B.same.seqT, ?_⟩
      rw [List.length_map]
      wtm_at "rs"
      by_cases yl : (ns.length : Int) ≤ y
      · rw [if_pos (decide_eq_true yl)]
        wtm_at "rs"
        exact no (fun z => by have := z.2.2.1 y ym; omega) _ B.same B.nt
      rw [if_neg (by rw [decide_eq_true_iff]; exact yl)]
      have rg : ∀ i ∈ ps, 0 ≤ i ∧ i < ns.length := fun i hi => by have := lx i hi; have := ly i hi; omega
      wtm_at "rs"
      refine rd_lcI (fun _ => true) (fun i => V.int (sg.getD i.toNat 1)) (B.same.seq hc) (fun D l x r hD hx => ?_) fun D1 hD1 => ?_
      · have C := B.newL (o := .lst (resI (fun _ => true) (fun i => V.int (sg.getD i.toNat 1)) l)) hD
        have xr := rg x (by rw [hx]; simp)
        wtm_at "r"
        refine ⟨rfl, ?_⟩
        wtm_at "rs"
        refine rd_ixL (C.same.seq hb) (atI_D xr.1 (by rw [sl]; exact xr.2)) ?_
        exact put_I (by
          have := congrArg List.length hx
          rw [List.length_append] at this
          omega) rfl rfl
      have e1 : ((ps.filter fun _ => true).map fun i => V.int (sg.getD i.toNat 1)) = (ps.map fun i => sg.getD i.toNat 1).map V.int := by
        rw [List.filter_eq_self.mpr fun _ _ => rfl, List.map_map]
        rfl
      rw [e1]
      replace B := B.newL (o := .lst ((ps.map fun i => sg.getD i.toNat 1).map V.int)) hD1
      clear hD1 e1
      refine B.gen fun G B => ?_
      wtm_at "rs"
      have pmm : Pm1 (ps.map fun i => sg.getD i.toNat 1) := fun s hs => by
        obtain ⟨i, hi, rfl⟩ := List.mem_map.mp hs
        have := rg i hi
        exact getD_of (P := fun s => s = 1 ∨ s = -1) pm (by omega)
      refine use_prodOf (SqL.of (B.lAt (a := D1) (by wtm_at "mem"))) pmm ?_
      have e2 : (ps.map fun i => sg.getD i.toNat 1).foldl (· * ·) 1 = prodN (ps.map Int.toNat) sg := by
        unfold prodN
        rw [List.map_map]
        rfl
      rw [e2]
      replace B := B.sub (L' := []) (by wtm_at "vsub") (by wtm_at "vsub")
      wtm_at "rs"
      by_cases pr : prodN (ps.map Int.toNat) sg = -1
      · refine rd_neF pr ?_
        wtm_at "rs"
        refine rd_forL (xs := ps.map V.int) (fun i σ G => ∃ (v3 : Option V) (d r : Int), σ = [some (.ref a), some (.ref b), some (.ref c), v3, some (.int d)] ∧ Hv noX H [] [] [] G ∧ CoreOk (prodN ((ps.take i).map Int.toNat) ns) d r) ⟨_, 1, 1, rfl, B, by rw [List.take_zero]; exact ⟨by simp [prodN], by decide, Fr.one.2⟩⟩ (fun i σ G _ ⟨_, _, _, _, B, _⟩ => B.same.seq hc) ?_ ?_
        · clear B
          rintro i v σ G hi ⟨v3, d, r, rfl, B, co⟩
          rw [List.getElem?_map] at hi
          obtain ⟨x, hx, rfl⟩ := Option.map_eq_some_iff.mp hi
          have xr := rg x (List.mem_of_getElem? hx)
          have i8 := (List.getElem?_eq_some_iff.mp hx).1
          have xn : x.toNat < ns.length := by omega
          have n0 := getD_of (P := fun x => x ≠ 0) nm.nz xn
          have nl := getD_of (P := fun x => x.natAbs ≤ 100) nm.le xn
          have p1 := prodN_ne nm.nz ((ps.take i).map Int.toNat)
          have p2 := prodN_le nm.le ((ps.take i).map Int.toNat)
          have p3 : 100 ^ ((ps.take i).map Int.toNat).length ≤ 100 ^ 7 := Nat.pow_le_pow_right (by decide) (by rw [List.length_map, List.length_take]; omega)
          obtain ⟨d0, d1, d2, _⟩ := co.bound p1 (B := 100 ^ 7) (by omega) (by omega)
          have et : prodN ((ps.take (i + 1)).map Int.toNat) ns = prodN ((ps.take i).map Int.toNat) ns * ns.getD x.toNat 1 := by
            rw [List.take_add_one, hx, List.map_append]
            exact prodN_snoc
          rw [et]
          have hz := atI_D xr.1 (xs := ns) (by omega)
          generalize ns.getD x.toNat 1 = z at *
          generalize prodN ((ps.take i).map Int.toNat) ns = pz at *
          have bd : Bd 60 d := Bd.of (by omega) (by omega)
          have bz : Bd 60 z := Bd.of (by omega) (by omega)
          have dz : d * z ≠ 0 := Int.mul_ne_zero d0 n0
          have da : (d * z).natAbs ≤ 100 ^ 7 * 100 := by rw [Int.natAbs_mul]; exact Nat.mul_le_mul (by omega) nl
          wtm_at "rs"
          refine rd_ixQ (ha.imp B.same.seq B.same.seqT) hz ?_
          wtm_at "rs"
          refine use_core B.nt dz (by omega) (by omega) fun s2 r2 c2 H2 t s4 n4 ht ht2 => ?_
          replace B := B.next s4 n4
          wtm_at "rs"
          refine ⟨_, s2, r2 * r, rfl, B, ⟨?_, Int.mul_pos c2.pos co.pos, c2.free⟩⟩
          have e1 := c2.prod
          have e3 := co.prod
          grind
        · clear B
          rintro σ G ⟨v3, d, r, rfl, B, co⟩
          rw [show (ps.map V.int).length = ps.length by simp, List.take_length] at co
          wtm_at "rs"
          have := q G B.same B.nt
          rw [show decide (ShI ns sg ps) = decide (d = 1) from dec_iff.mpr ⟨fun z => (co.one (prodN_ne nm.nz _)).mpr z.2.2.2.2, fun z => ⟨p0, i3, rg, pr, (co.one (prodN_ne nm.nz _)).mp z⟩⟩] at this
          exact this
      · refine rd_neT pr ?_
        wtm_at "rs"
        exact no (fun z => pr z.2.2.2.1) _ B.same B.nt
    · rw [if_pos (by rw [Bool.not_eq_true', decide_eq_false_iff_not]; exact pu)]
      wtm_at "rs"
      refine no (fun z => pu ?_) _ B.same B.nt
      exact inc_same z.2.1 i3 fun k => (e3 k).symm
/-! ### barred -/
/-- all lists of places, by length and order -/
def allK (k i : Nat) : List (List Nat) := (List.range i).flatMap fun l => chL k (l + 1)
def allP (k : Nat) : List (List Nat) := allK k k
theorem allK_succ {k i : Nat} : allK k (i + 1) = allK k i ++ chL k (i + 1) := by
  unfold allK
  rw [List.range_succ, List.flatMap_append]
  simp
theorem allK_split {k i : Nat} (h : i < k) : ∃ B, allP k = allK k i ++ (chL k (i + 1) ++ B) := by
  have go : ∀ d : Nat, ∃ B, allK k (i + 1 + d) = allK k (i + 1) ++ B := fun d => by
    induction d with
    | zero => exact ⟨[], by simp⟩
    | succ d ih =>
      obtain ⟨B, e⟩ := ih
      exact ⟨B ++ chL k (i + 1 + d + 1), by rw [← Nat.add_assoc, allK_succ, e, List.append_assoc]⟩
  obtain ⟨B, e⟩ := go (k - (i + 1))
  rw [show i + 1 + (k - (i + 1)) = k by omega, allK_succ, List.append_assoc] at e
  exact ⟨B, e⟩
theorem zN_nat (P : List Nat) : (zN P).map Int.toNat = P := by
  unfold zN
  rw [List.map_map]
  exact (List.map_congr_left fun i _ => by simp).trans (List.map_id _)
theorem shI_zN {ns σ : List Int} {P : List Nat} (h : Asc ns.length P) (h0 : P ≠ []) : ShI ns σ (zN P) ↔ ShowN ns σ P := by
  unfold ShI
  rw [zN_nat]
  refine ⟨fun z => z.2.2.2, fun z => ⟨fun e => h0 (List.map_eq_nil_iff.mp e), ?_, fun i hi => ?_, z⟩⟩
  · unfold zN
    rw [List.pairwise_map]
    exact h.1.imp fun h => by omega
  · obtain ⟨j, hj, rfl⟩ := List.mem_map.mp hi
    have := h.2 j hj
    omega
theorem allP_mem {k : Nat} {P : List Nat} : P ∈ allP k ↔ Asc k P ∧ P ≠ [] := by
  unfold allP allK
  rw [List.mem_flatMap]
  constructor
  · rintro ⟨l, hl, h⟩
    obtain ⟨a, b⟩ := mem_chL.mp h
    exact ⟨a, by intro z; rw [z] at b; cases b⟩
  · rintro ⟨a, b⟩
    have := asc_len a
    have : P.length ≠ 0 := fun z => b (List.eq_nil_of_length_eq_zero z)
    exact ⟨P.length - 1, List.mem_range.mpr (by omega), mem_chL.mpr ⟨a, by omega⟩⟩
def spBarred (K : PySem.W.Frag) : Sp := fun vs H Q _ => ∃ (a b : Addr) (ns σ : List Int), vs = [.ref a, .ref b] ∧ (SqL K H a (ns.map V.int) ∨ SqT K H a (ns.map V.int)) ∧ SqL K H b (σ.map V.int) ∧ Nums ns ∧ ns.length ≤ 5 ∧ σ.length = ns.length ∧ Pm1 σ ∧ NoT H ∧
  (∀ G, Same H G → NoT G → (∀ P ∈ allP ns.length, ¬ ShowN ns σ P) → Q .non G) ∧ ∀ (A B : List (List Nat)) (P : List Nat) (L : Addr) (G : Hp), allP ns.length = A ++ P :: B → (∀ R ∈ A, ¬ ShowN ns σ R) → ShowN ns σ P → Same H G → NoT G → H L = none → G L = some (.lst ((zN P).map V.int)) → Q (.ref L) G
theorem ok_barred (T : Txt K mg Ad) : Def P w K mg base 11 "barred" ["numbers", "signs"] (spBarred K) := by
  refine T.d_barred.ok sc_barred (fun vs H Q E h => ?_) (fun f cdv A outer s H vs Q E hr h => ?_)
  · obtain ⟨a, b, ns, sg, rfl, _⟩ := h
    rfl
  · obtain ⟨a, b, ns, sg, rfl, ha, hb, nm, n5, sl, pm, nt, q0, q1⟩ := h
    refine ⟨_, (pss_cons (ps_for (passes_of rfl) rfl (pi_range2 (by rfl) T.b_range (pa_cons pe_int (pa_cons (pe_op op_add (pe_callB c_len (by rfl) T.b_len PySem.boot_len (pa_cons (pv 0) pa_nil)) pe_int) pa_nil))) (pg_name (i := 2) sc_barred.nd rfl (Or.inl rfl)) (pss_one (ps_for (passes_of rfl) rfl (pi_list (pe_d (ok_choices_of T) (hr.mono (by decide)) (passes_call (takes_of rfl rfl rfl rfl) (fun _ _ _ _ h => h)) (pa_cons (pe_callB c_len (by rfl) T.b_len PySem.boot_len (pa_cons (pv 0) pa_nil)) (pa_cons (pv 2) pa_nil)))) (pg_name (i := 3) sc_barred.nd rfl (Or.inl rfl)) (pss_one (ps_if (pt_val (pe_d (ok_shows T) (hr.mono (by decide)) (passes_call (takes_of rfl rfl rfl rfl) (fun _ _ _ _ h => h)) (pa_cons (pv 0) (pa_cons (pv 1) (pa_cons (pv 3) pa_nil))))) (pss_one (ps_ret (pv 3))) pss_nil)))))
      (pss_one (ps_ret pe_non))), ?_⟩
    try dsimp only [cxOf]
    have B := Hv.start nt
    wtm_at "rs"
    refine ⟨a, ns.map V.int, rfl, ha, ?_⟩
    rw [List.length_map]
    wtm_at "rs"
    rw [show ((ns.length : Int) + 1 - 1).toNat = ns.length by omega]
    refine rd_forR (fun i σ G => ∃ v2 v3 : Option V, σ = [some (.ref a), some (.ref b), v2, v3] ∧ Hv noX H [] [] [] G ∧ ∀ P ∈ allK ns.length i, ¬ ShowN ns sg P) ⟨_, _, rfl, B, fun P h => absurd h (by simp [allK])⟩ ?_ ?_
    · clear B
      rintro i σ G hi ⟨v2, v3, rfl, B, no⟩
      wtm_at "rs"
      refine ⟨a, ns.map V.int, rfl, ha.imp B.same.seq B.same.seqT, ?_⟩
      rw [List.length_map]
      wtm_at "rs"
      rw [show (1 : Int) + (i : Int) = ((i + 1 : Nat) : Int) by omega]
      refine ⟨ns.length, i + 1, rfl, by omega, by omega, by omega, B.nt, fun R cs G2 z => ?_⟩
      have rz := z.r
      have cl := rz.len
      rw [List.length_map] at cl
      have fc : ∀ a ∈ cs, H a = none := fun a ha => B.free (z.fa a ha)
      replace B := B.got z.s z.n z.f z.l
      clear z
      revert rz
      refine B.gen fun G B rz => ?_
      wtm_at "rs"
      refine rd_forL (xs := cs.map V.ref) (fun j σ G => ∃ v3 : Option V, σ = [some (.ref a), some (.ref b), some (.int ((i + 1 : Nat) : Int)), v3] ∧ Hv noX H [] [(R, .lst (cs.map V.ref))] [] G ∧ RowsZ R G cs ((chL ns.length (i + 1)).map zN) ∧ ∀ P ∈ (chL ns.length (i + 1)).take j, ¬ ShowN ns sg P) ⟨_, rfl, B, rz, fun P h => absurd h (by simp)⟩ (fun i σ G _ ⟨_, _, B, _⟩ => SqL.of (B.lAt (a := R) (by wtm_at "mem"))) ?_ ?_
      · clear B rz
        rintro j v σ G hj ⟨v3, rfl, B, rz, no2⟩
        obtain ⟨a0, r0, rfl, ha0, hr0, _, h0⟩ := rz.at hj
        rw [List.getElem?_map] at hr0
        obtain ⟨P, hP, rfl⟩ := Option.map_eq_some_iff.mp hr0
        obtain ⟨as, pl⟩ := mem_chL.mp (List.mem_of_getElem? hP)
        have p0 : P ≠ [] := by intro z; rw [z] at pl; cases pl
        have pz : ∀ k ∈ zN P, -100 ≤ k ∧ k ≤ 100 := fun k hk => by
          obtain ⟨q, hq, rfl⟩ := List.mem_map.mp hk
          have := as.2 q hq
          omega
        wtm_at "rs"
        refine ⟨a, b, a0, ns, sg, zN P, rfl, ha.imp B.same.seq B.same.seqT, B.same.seq hb, SqL.of h0, nm, sl, pm, by unfold zN; rw [List.length_map]; omega, pz, B.nt, fun G3 s3 n3 => ?_⟩
        replace B := B.next s3 n3
        have rz3 := rz.mono s3
        have h03 := s3 _ _ h0
        refine ⟨_, rfl, ?_⟩
        by_cases sh : ShowN ns sg P
        · rw [if_pos (decide_eq_true ((shI_zN as p0).mpr sh))]
          wtm_at "rs"
          obtain ⟨tl, etl⟩ := allK_split hi
          refine q1 (allK ns.length i ++ (chL ns.length (i + 1)).take j) ((chL ns.length (i + 1)).drop (j + 1) ++ tl) P a0 G3 ?_ (fun R hR => ?_) sh B.same B.nt (fc a0 (List.mem_of_getElem? ha0)) h03
          · rw [etl, List.append_assoc, ← List.cons_append, ← List.append_assoc (List.take j _)]
            congr 2
            obtain ⟨h1, h2⟩ := List.getElem?_eq_some_iff.mp hP
            rw [← h2, ← List.drop_eq_getElem_cons h1, List.take_append_drop]
          · rcases List.mem_append.mp hR with h | h
            · exact no R h
            · exact no2 R h
        · rw [if_neg (by rw [decide_eq_true_iff]; exact fun z => sh ((shI_zN as p0).mp z))]
          wtm_at "rs"
          refine ⟨_, rfl, B, rz3, fun R hR => ?_⟩
          rw [List.take_add_one, hP] at hR
          rcases List.mem_append.mp hR with h | h
          · exact no2 R h
          · rw [List.mem_singleton.mp (show R ∈ [P] from h)]
            exact sh
      · clear B rz
        rintro σ G ⟨v3, rfl, B, rz, no2⟩
        rw [List.length_map, cl, List.take_length] at no2
        wtm_at "rs"
        refine ⟨_, _, rfl, B.sub (by wtm_at "vsub") (by wtm_at "vsub"), fun P hP => ?_⟩
        rw [allK_succ] at hP
        rcases List.mem_append.mp hP with h | h
        · exact no P h
        · exact no2 P h
    · clear B
      rintro σ G ⟨v2, v3, rfl, B, no⟩
      wtm_at "rs"
      exact q0 G B.same B.nt no
/-! ### patterns -/
theorem same_updL {H G : Hp} {D : Addr} {o : HO} (s : Same H G) (h : H D = none) : Same H (upd G D o) := same_upd2 s h
theorem rowsP_len : ∀ k : Nat, (rowsP k).length = 2 ^ k
  | 0 => rfl
  | k + 1 => by
    have ih := rowsP_len k
    have : ∀ L : List (List Int), (L.flatMap fun r => [r ++ [-1], r ++ [1]]).length = 2 * L.length := fun L => by
      induction L with
      | nil => rfl
      | cons r L ih => rw [List.flatMap_cons, List.length_append, ih]; simp; omega
    rw [rowsP, this, ih, Nat.pow_succ]
    omega
noncomputable instance {ns r : List Int} : Decidable (Bar ns r) := Classical.propDecidable _
noncomputable def freeL (ns : List Int) : List (List Int) := (rowsP ns.length).filter fun r => decide (¬ Bar ns r)
def spPatterns (K : PySem.W.Frag) : Sp := fun vs H Q _ => ∃ (a : Addr) (ns : List Int), vs = [.ref a] ∧ SqT K H a (ns.map V.int) ∧ Nums ns ∧ ns.length ≤ 5 ∧ NoT H ∧ ∀ L as G, NewZ H G L as (freeL ns) → Q (.ref L) G
theorem ok_patterns (T : Txt K mg Ad) : DefR P w K mg base 12 "patterns" (fun vs H Q E => ∃ ws rest, vs = ws ++ rest ∧ ws.length = ([] : List Str).length ∧ rest.length ≤ sizeLine ∧ ∀ p, H p = none → spPatterns K (ws ++ [V.ref p]) (upd H p (.tup rest)) Q E) := by
  refine T.d_patterns.okStar (ps := []) (sp := spPatterns K) sc_patterns (fun _ _ _ _ _ _ us rest h => ?_) (fun f cdv A outer s H vs Q E hr h => ?_)
  · have : us = [] := List.eq_nil_of_length_eq_zero h
    subst this
    cases rest with
    | nil => rfl
    | cons r rs => rfl
  · obtain ⟨a, ns, rfl, ha, nm, n5, nt, q⟩ := h
    refine ⟨_, (pss_cons (ps_set (i := 1) sc_patterns.nd rfl (Or.inl rfl) (pe_lst (pa_cons (pe_lst pa_nil) pa_nil)))
      (pss_cons (ps_for (passes_of rfl) rfl (pi_tup (pv 0)) (pg_name (i := 2) sc_patterns.nd rfl (Or.inl rfl)) (pss_one (ps_setLc2 (i := 1) (own := [("row", 3), ("s", 4)]) (vs1 := [4]) (te := (tOp rCat (tVar 3) (tLst (tCons (tVar 4) tNil)))) (wi1 := (iTup K (tTup (tCons (tUn (rU fun i => .int (-i)) (tC (.int 1))) (tCons (tC (.int 1)) tNil))))) rfl sc_patterns.nd rfl rfl (sw_true rfl rfl rfl (by decide +kernel)) (pi_list (pv 1)) (blkOk_by (own := [("row", 3), ("s", 4)]) (N := ["numbers", "rows", "n", "row", "s"]) (sc := defScope s_patterns) (by decide +kernel)) (by decide) (fun _ _ _ _ _ => (pg_name (i := 3) sc_patterns.nd rfl (Or.inl rfl))) (fun _ _ _ _ _ => pts_nil) (fun _ _ _ _ _ => (pi_tup (pe_tup (pa_cons (pe_un un_neg pe_int) (pa_cons pe_int pa_nil))))) (fun _ _ _ _ _ => (pg_name (i := 4) sc_patterns.nd rfl (Or.inl rfl))) (fun _ _ _ _ _ => pts_nil) (fun _ _ _ _ _ => (pe_op op_cat (pv 3) (pe_lst (pa_cons (pv 4) pa_nil)))))))
      (pss_one (ps_ret (pe_lc (own := [("row", 3)])  (te := (tVar 3)) (tt := (tTest (tOp (fun (x y : V) (H : Hp) (Q : VK) => y = V.non ∧ Q (V.bl (decide (x = V.non))) H) (tCall ((spBarred K)) [] E0 (tCons (tVar 0) (tCons (tVar 3) tNil))) (tC .non)))) rfl sc_patterns.nd  (pi_list (pv 1)) (blkOk_by (own := [("row", 3)]) (N := ["numbers", "rows", "n", "row", "s"]) (sc := defScope s_patterns) (by decide +kernel)) (fun _ _ _ _ _ => (pg_name (i := 3) sc_patterns.nd rfl (Or.inl rfl))) (fun _ _ _ _ _ => (pts_one (pt_cmpR op_isN (pe_d (E := E0) (ok_barred T) (hr.mono (by decide)) passL (pa_cons (pv 0) (pa_cons (pv 3) pa_nil))) pe_non (nomark _)))) (fun _ _ _ _ _ => (pv 3))))))), ?_⟩
    try dsimp only [cxOf]
    wtm_at "rs"
    rename_i E0 hE0 L hL
    have EL : E0 ≠ L := fun z => by rw [← z, upd_same] at hL; cases hL
    have B := Hv.start nt
    replace B := B.next ((same_new (o := .lst []) hE0).trans (same_new (o := .lst [.ref E0]) hL)) (NoT.upd (NoT.upd nt rfl) rfl)
    have rz : RowsZ L (upd (upd H E0 (.lst [])) L (.lst [.ref E0])) [E0] (rowsP 0) := ⟨EL, by rw [upd_ne EL]; exact (upd_same : upd H E0 (.lst (([] : List Int).map V.int)) E0 = _), trivial⟩
    have hl : upd (upd H E0 (.lst [])) L (.lst [.ref E0]) L = some (.lst ([E0].map V.ref)) := upd_same
    have fL : H L = none := (same_new (o := .lst []) hE0).free hL
    have fE : ∀ a ∈ [E0], H a = none := fun a ha => by rw [List.mem_singleton.mp ha]; exact hE0
    clear hE0 hL EL
    revert rz hl
    refine B.gen fun G B rz hl => ?_
    refine rd_forT (xs := ns.map V.int) (fun i σ G => ∃ (L : Addr) (as : List Addr) (v2 v3 v4 : Option V), σ = [some (.ref a), some (.ref L), v2, v3, v4] ∧ Hv noX H [] [] [] G ∧ G L = some (.lst (as.map V.ref)) ∧ RowsZ L G as (rowsP i) ∧ H L = none ∧ ∀ a ∈ as, H a = none) ⟨L, [E0], _, _, _, rfl, B, hl, rz, fL, fE⟩ (fun i σ G _ ⟨_, _, _, _, _, _, B, _⟩ => B.same.seqT ha) ?_ ?_
    · clear B rz hl fL fE
      rintro i v σ G hi ⟨L, as, v2, v3, v4, rfl, B, hl, rz, fL, fa⟩
      have i5 := (List.getElem?_eq_some_iff.mp hi).1
      rw [List.length_map] at i5
      have al := rz.len
      have rl : (rowsP i).length = 2 ^ i := rowsP_len i
      have p2 : 2 ^ i ≤ 2 ^ 5 := Nat.pow_le_pow_right (by decide) (by omega)
      wtm_at "rs"
      refine rd_lc2L (xs := as.map V.ref) (fun D j ys H' => ∃ bs : List Addr, ys = bs.map V.ref ∧ RowsZ D H' bs (((rowsP i).take j).flatMap fun r => [r ++ [-1], r ++ [1]]) ∧ bs.length = 2 * j ∧ ∀ a ∈ bs, G a = none) (SqL.of hl) B.nt (fun D hD => ⟨[], rfl, trivial, rfl, fun a ha => absurd ha List.not_mem_nil⟩) (fun D j ys x H' hx sm n1 hD hys Pz => ?_) fun D ys H' hD hys sm n1 Pz => ?_
      · obtain ⟨bs, rfl, rb, bl, fb⟩ := Pz
        obtain ⟨a0, r, rfl, _, hr0, _, h0⟩ := rz.at hx
        have j5 := (List.getElem?_eq_some_iff.mp hx).1
        rw [List.length_map] at j5
        have h1 := sm _ _ h0
        have rlen := (rowsP_ok.mp (List.mem_of_getElem? hr0)).1
        wtm_at "r"
        refine ⟨rfl, ?_⟩
        wtm_at "rs"
        rename_i t ht
        have s1 := same_new (o := .tup [.int (-1), .int 1]) ht
        have tD : t ≠ D := fun z => by rw [z, hys] at ht; cases ht
        refine rd_lc2I (us := [.int (-1), .int 1]) (fun j2 H5 => ∃ bs2 : List Addr, H5 D = some (.lst (bs2.map V.ref)) ∧ Same G H5 ∧ NoT H5 ∧ H5 t = some (.tup [.int (-1), .int 1]) ∧ RowsZ D H5 bs2 (((rowsP i).take j).flatMap (fun r => [r ++ [-1], r ++ [1]]) ++ ([r ++ [-1], r ++ [1]] : List (List Int)).take j2) ∧ bs2.length = 2 * j + j2 ∧ ∀ a ∈ bs2, G a = none) ⟨bs, s1 _ _ hys, sm.trans s1, NoT.upd n1 rfl, upd_same, by rw [List.take_zero, List.append_nil]; exact rb.mono s1, by omega, fb⟩ (fun j2 H5 ⟨_, _, _, _, h, _⟩ => SqT.of h) (fun j2 u H5 hu I => ?_) fun H5 I => ?_
        · obtain ⟨bs2, hD5, s5, n5', ht5, rb5, bl5, fb5⟩ := I
          have h5 := s5 _ _ h0
          have j22 : j2 < 2 := (List.getElem?_eq_some_iff.mp hu).1
          have bl2 : (bs2.map V.ref).length < sizeLine := by rw [List.length_map]; exact Nat.lt_of_lt_of_le (show bs2.length < 100 by omega) (by decide)
          obtain ⟨z, rfl, hz⟩ : ∃ z : Int, u = .int z ∧ ([r ++ [-1], r ++ [1]] : List (List Int)).take (j2 + 1) = ([r ++ [-1], r ++ [1]] : List (List Int)).take j2 ++ [r ++ [z]] := by
            rcases (show j2 = 0 ∨ j2 = 1 by omega) with e | e <;> subst e <;> cases hu
            · exact ⟨-1, rfl, rfl⟩
            · exact ⟨1, rfl, rfl⟩
          wtm_at "r"
          refine ⟨rfl, ?_⟩
          wtm_at "rs"
          rename_i X hX
          refine rd_cat (same_new hX _ _ h5) upd_same (Nat.le_trans (show _ ≤ 100 by simp; omega) (by decide)) fun Y hY => ?_
          have s4 := (same_new (o := .lst [.int z]) hX).trans (same_new (o := .lst (r.map V.int ++ [.int z])) hY)
          have XD : Y ≠ D := fun e => by
            have := (same_new (o := .lst [.int z]) hX) _ _ hD5
            rw [← e, hY] at this
            cases this
          refine ⟨_, s4 _ _ hD5, bl2, bs2 ++ [Y], by rw [upd_same]; simp, same_updL (s5.trans s4) hD, NoT.upd (NoT.upd (NoT.upd n5' rfl) rfl) rfl, ?_, ?_, by rw [List.length_append, List.length_singleton]; omega, fun a ha => ?_⟩
          · rw [upd_ne tD]
            exact s4 _ _ ht5
          · rw [hz, ← List.append_assoc]
            refine RowsZ.snoc ((rb5.but (But.of s4)).but (But.put But.refl)) XD ?_
            rw [upd_ne XD, upd_same]
            simp
          · rcases List.mem_append.mp ha with h | h
            · exact fb5 a h
            · rw [List.mem_singleton.mp h]
              exact (s5.trans (same_new (o := .lst [.int z]) hX)).free hY
        · obtain ⟨bs2, hD5, s5, n5', ht5, rb5, bl5, fb5⟩ := I
          refine ⟨_, hD5, s5, n5', bs2, rfl, ?_, by show _ = _; omega, fb5⟩
          rw [List.take_add_one, hr0, List.flatMap_append]
          simpa using rb5
      · obtain ⟨bs, rfl, rb, bl, fb⟩ := Pz
        have et : ((rowsP i).take (as.map V.ref).length).flatMap (fun r => [r ++ [-1], r ++ [1]]) = rowsP (i + 1) := by
          rw [List.length_map, al, List.take_length]
          rfl
        rw [et] at rb
        wtm_at "rs"
        exact ⟨D, bs, _, _, _, rfl, B.next sm n1, hys, rb, B.free hD, fun a ha => B.free (fb a ha)⟩
    · clear B rz hl fL fE
      rintro σ G ⟨L, as, v2, v3, v4, rfl, B, hl, rz, fL, fa⟩
      rw [List.length_map] at rz
      have al := rz.len
      have rl : (rowsP ns.length).length = 2 ^ ns.length := rowsP_len _
      wtm_at "rs"
      refine rd_lcPH (xs := as.map V.ref) (fun D j ys H' => ∃ bs : List Addr, ys = bs.map V.ref ∧ RowsZ D H' bs (((rowsP ns.length).take j).filter fun r => decide (¬ Bar ns r)) ∧ bs.length ≤ j ∧ ∀ a ∈ bs, H a = none) (SqL.of hl) B.nt (fun D hD => ⟨[], rfl, trivial, Nat.zero_le _, fun a ha => absurd ha List.not_mem_nil⟩) (fun D j ys x H' hx sm n1 hD hys Pz => ?_) fun D ys H' hD hys sm n1 Pz => ?_
      · obtain ⟨bs, rfl, rb, bl, fb⟩ := Pz
        obtain ⟨a0, r, rfl, ha0, hr0, _, h0⟩ := rz.at hx
        have j5 := (List.getElem?_eq_some_iff.mp hx).1
        have h1 := sm _ _ h0
        obtain ⟨rlen, rpm⟩ := rowsP_ok.mp (List.mem_of_getElem? hr0)
        have et : ((rowsP ns.length).take (j + 1)).filter (fun r => decide (¬ Bar ns r)) = ((rowsP ns.length).take j).filter (fun r => decide (¬ Bar ns r)) ++ if Bar ns r then [] else [r] := by
          rw [List.take_add_one, hr0, List.filter_append]
          congr 1
          by_cases b : Bar ns r <;> simp [b]
        have a0D : a0 ≠ D := fun z => by rw [z, hD] at h0; cases h0
        wtm_at "r"
        refine ⟨rfl, ?_⟩
        wtm_at "rs"
        refine ⟨a, a0, ns, r, rfl, .inr (sm.seqT (B.same.seqT ha)), SqL.of h1, nm, n5, rlen, rpm, n1, fun G2 s2 n2 no => ?_, fun A0 B0 P0 L0 G2 e0 no sh s2 n2 f0 g0 => ?_⟩
        · have nb : ¬ Bar ns r := fun z => by
            obtain ⟨P, c, d, e⟩ := (bar_places rlen).mp z
            exact no P (allP_mem.mpr ⟨c, d⟩) e
          wtm_at "rs"
          have bl2 : (bs.map V.ref).length < sizeLine := by rw [List.length_map]; rw [List.length_map] at j5; exact Nat.lt_of_lt_of_le (show bs.length < 1000 by have := Nat.pow_le_pow_right (show 0 < 2 by decide) n5; omega) (by decide)
          rw [et, if_neg nb]
          refine put_PH (P := fun ys H' => ∃ bs : List Addr, ys = bs.map V.ref ∧ RowsZ D H' bs (((rowsP ns.length).take j).filter (fun r => decide (¬ Bar ns r)) ++ [r]) ∧ bs.length ≤ j + 1 ∧ ∀ a ∈ bs, H a = none) (s2 _ _ hys) bl2 (sm.trans s2) hD n2 ⟨bs ++ [a0], by simp, ((rb.mono s2).but (But.put But.refl)).snoc a0D (by rw [upd_ne a0D]; exact s2 _ _ h1), by rw [List.length_append, List.length_singleton]; omega, fun b hb => ?_⟩
          rcases List.mem_append.mp hb with h | h
          · exact fb b h
          · rw [List.mem_singleton.mp h]
            exact fa a0 (List.mem_of_getElem? ha0)
        · have nb : Bar ns r := (bar_places rlen).mpr (by
            have := allP_mem.mp (show P0 ∈ allP ns.length by rw [e0]; simp)
            exact ⟨P0, this.1, this.2, sh⟩)
          wtm_at "rs"
          rw [et, if_pos nb, List.append_nil]
          exact ⟨_, s2 _ _ hys, sm.trans s2, n2, bs, rfl, rb.mono s2, by omega, fb⟩
      · obtain ⟨bs, rfl, rb, bl, fb⟩ := Pz
        rw [List.length_map, al, List.take_length] at rb
        exact q D bs H' ⟨B.same.trans sm, n1, B.free hD, hys, rb, fb⟩
/-! ### _law_all -/
def allR : Nat → List (List Int)
  | 0 => [[]]
  | k + 1 => (allR k).map (fun r => r ++ [-1]) ++ (allR k).map (fun r => r ++ [1])
theorem allR_len : ∀ k : Nat, (allR k).length = 2 ^ k
  | 0 => rfl
  | k + 1 => by rw [allR, List.length_append, List.length_map, List.length_map, allR_len k, Nat.pow_succ]; omega
theorem allR_ok : ∀ {k : Nat} {r : List Int}, r ∈ allR k → r.length = k
  | 0, r, h => by rw [List.mem_singleton.mp h]; rfl
  | k + 1, r, h => by
    rcases List.mem_append.mp h with h | h <;> (obtain ⟨q, hq, rfl⟩ := List.mem_map.mp h; simp [allR_ok hq])
theorem allR_sort : ∀ k : Nat, k ≤ 5 → sortZ (allR k) = rowsP k := by
  intro k hk
  rcases (show k = 0 ∨ k = 1 ∨ k = 2 ∨ k = 3 ∨ k = 4 ∨ k = 5 by omega) with h | h | h | h | h | h <;> subst h <;> exact sortZ_of (by decide +kernel) (by decide +kernel)
theorem RowsZ.each {p : Addr} {H : Hp} : ∀ {as : List Addr} {rs : List (List Int)}, RowsZ p H as rs → EachZ H as rs
  | [], [], _ => trivial
  | _ :: _, _ :: _, h => ⟨h.2.1, RowsZ.each h.2.2⟩
theorem eachZ_rows {p : Addr} {H : Hp} : ∀ {as : List Addr} {rs : List (List Int)}, EachZ H as rs → (∀ a ∈ as, a ≠ p) → RowsZ p H as rs
  | [], [], _, _ => trivial
  | a :: _, _ :: _, h, n => ⟨n a List.mem_cons_self, h.1, eachZ_rows h.2 fun b hb => n b (List.mem_cons_of_mem _ hb)⟩
def spAll79 : Sp := fun vs H Q _ => ∃ k : Nat, vs = [.int k] ∧ k ≤ 5 ∧ NoT H ∧ ∀ L as G, NewZ H G L as (rowsP k) → Q (.ref L) G
theorem ok_law_all (T : Txt K mg Ad) : Def P w K mg base 1 "_law_all" ["_law_many"] spAll79 := by
  refine T.d_law_all.ok sc_law_all (fun vs H Q E h => ?_) (fun f cdv A outer s H vs Q E hr h => ?_)
  · obtain ⟨k, rfl, _⟩ := h
    rfl
  · obtain ⟨m, rfl, m5, nt, q⟩ := h
    refine ⟨_, (pss_cons (ps_set (i := 1) sc_law_all.nd rfl (Or.inl rfl) (pe_lst (pa_cons (pe_lst pa_nil) pa_nil)))
      (pss_cons (ps_for (passes_of rfl) rfl (pi_range1 (by rfl) T.b_range (pa_cons (pv 0) pa_nil)) (pg_name (i := 2) sc_law_all.nd rfl (Or.inl rfl)) (pss_one (ps_set (i := 1) sc_law_all.nd rfl (Or.inl rfl) (pe_op op_cat (pe_lc (own := [("_law_row", 3)])  (te := (tOp rCat (tVar 3) (tLst (tCons (tUn (rU fun i => .int (-i)) (tC (.int 1))) tNil)))) rfl sc_law_all.nd  (pi_list (pv 1)) (blkOk_by (own := [("_law_row", 3)]) (N := ["_law_many", "_law_rows", "_law_at", "_law_row"]) (sc := defScope s_law_all) (by decide +kernel)) (fun _ _ _ _ _ => (pg_name (i := 3) sc_law_all.nd rfl (Or.inl rfl))) (fun _ _ _ _ _ => pts_nil) (fun _ _ _ _ _ => (pe_op op_cat (pv 3) (pe_lst (pa_cons (pe_un un_neg pe_int) pa_nil))))) (pe_lc (own := [("_law_row", 3)])  (te := (tOp rCat (tVar 3) (tLst (tCons (tC (.int 1)) tNil)))) rfl sc_law_all.nd  (pi_list (pv 1)) (blkOk_by (own := [("_law_row", 3)]) (N := ["_law_many", "_law_rows", "_law_at", "_law_row"]) (sc := defScope s_law_all) (by decide +kernel)) (fun _ _ _ _ _ => (pg_name (i := 3) sc_law_all.nd rfl (Or.inl rfl))) (fun _ _ _ _ _ => pts_nil) (fun _ _ _ _ _ => (pe_op op_cat (pv 3) (pe_lst (pa_cons pe_int pa_nil)))))))))
      (pss_one (ps_ret (pe_callB (cr_sortedZ (room65 hr)) (by rfl) T.b_sorted (by decide +kernel) (pa_cons (pv 1) pa_nil)))))), ?_⟩
    try dsimp only [cxOf]
    wtm_at "rs"
    rename_i E0 hE0 L hL
    have EL : E0 ≠ L := fun z => by rw [← z, upd_same] at hL; cases hL
    have B := Hv.start nt
    replace B := B.next ((same_new (o := .lst []) hE0).trans (same_new (o := .lst [.ref E0]) hL)) (NoT.upd (NoT.upd nt rfl) rfl)
    have rz : RowsZ L (upd (upd H E0 (.lst [])) L (.lst [.ref E0])) [E0] (allR 0) := ⟨EL, by rw [upd_ne EL]; exact (upd_same : upd H E0 (.lst (([] : List Int).map V.int)) E0 = _), trivial⟩
    have hl : upd (upd H E0 (.lst [])) L (.lst [.ref E0]) L = some (.lst ([E0].map V.ref)) := upd_same
    have fE : ∀ a ∈ [E0], H a = none := fun a ha => by rw [List.mem_singleton.mp ha]; exact hE0
    clear hE0 hL EL
    revert rz hl
    refine B.gen fun G B rz hl => ?_
    rw [show ((m : Int)).toNat = m by omega]
    refine rd_forR (fun i σ G => ∃ (L : Addr) (as : List Addr) (v2 v3 : Option V), σ = [some (.int m), some (.ref L), v2, v3] ∧ Hv noX H [] [] [] G ∧ G L = some (.lst (as.map V.ref)) ∧ RowsZ L G as (allR i) ∧ ∀ a ∈ as, H a = none) ⟨L, [E0], _, _, rfl, B, hl, rz, fE⟩ ?_ ?_
    · clear B rz hl fE
      rintro i σ G i5 ⟨L, as, v2, v3, rfl, B, hl, rz, fa⟩
      have al := rz.len
      have rl : (allR i).length = 2 ^ i := allR_len i
      have p2 : 2 ^ i ≤ 2 ^ 4 := Nat.pow_le_pow_right (by decide) (by omega)
      have B0 := B
      wtm_at "rs"
      refine rd_lcPH (xs := as.map V.ref) (fun D j ys H' => ∃ bs : List Addr, ys = bs.map V.ref ∧ RowsZ D H' bs (((allR i).take j).map fun r => r ++ [-1]) ∧ bs.length = j ∧ ∀ a ∈ bs, G a = none) (SqL.of hl) B.nt (fun D hD => ⟨[], rfl, trivial, rfl, fun a ha => absurd ha List.not_mem_nil⟩) (fun D j ys x H' hx sm n1 hD hys Pz => ?_) fun D1 ys H' hD hys sm n1 Pz => ?_
      · obtain ⟨bs, rfl, rb, bl, fb⟩ := Pz
        obtain ⟨a0, r, rfl, _, hr0, _, h0⟩ := rz.at hx
        have j5 := (List.getElem?_eq_some_iff.mp hx).1
        rw [List.length_map] at j5
        have h1 := sm _ _ h0
        have rlen := (allR_ok (List.mem_of_getElem? hr0))
        have bl2 : (bs.map V.ref).length < sizeLine := by rw [List.length_map]; exact Nat.lt_of_lt_of_le (show bs.length < 100 by omega) (by decide)
        wtm_at "r"
        refine ⟨rfl, ?_⟩
        wtm_at "rs"
        rename_i X hX
        refine rd_cat (same_new hX _ _ h1) upd_same (Nat.le_trans (show _ ≤ 100 by simp; omega) (by decide)) fun Y hY => ?_
        have s4 := (same_new (o := .lst [.int (-1)]) hX).trans (same_new (o := .lst (r.map V.int ++ [.int (-1)])) hY)
        have XD : Y ≠ D := fun e => by
          have := (same_new (o := .lst [.int (-1)]) hX) _ _ hys
          rw [← e, hY] at this
          cases this
        refine put_PH (P := fun ys H' => ∃ bs : List Addr, ys = bs.map V.ref ∧ RowsZ D H' bs (((allR i).take (j + 1)).map fun r => r ++ [-1]) ∧ bs.length = j + 1 ∧ ∀ a ∈ bs, G a = none) (s4 _ _ hys) bl2 (sm.trans s4) hD (NoT.upd (NoT.upd n1 rfl) rfl) ⟨bs ++ [Y], by simp, ?_, by rw [List.length_append, List.length_singleton]; omega, fun a ha => ?_⟩
        · rw [List.take_add_one, hr0, List.map_append]
          refine RowsZ.snoc ((rb.but (But.of s4)).but (But.put But.refl)) XD ?_
          rw [upd_ne XD, upd_same]
          simp
        · rcases List.mem_append.mp ha with h | h
          · exact fb a h
          · rw [List.mem_singleton.mp h]
            exact (sm.trans (same_new (o := .lst [.int (-1)]) hX)).free hY
      obtain ⟨b1, rfl, r1, bl1, f1⟩ := Pz
      rw [List.length_map, al, List.take_length] at r1
      replace B := B.next sm n1
      have hl := sm _ _ hl
      have rz := rz.mono sm
      have hD1 := hys
      clear sm n1 hys
      revert hl rz r1 hD1
      refine B.gen fun G2 B r1 hl rz hD1 => ?_
      have B2 := B
      wtm_at "rs"
      refine rd_lcPH (xs := as.map V.ref) (fun D j ys H' => ∃ bs : List Addr, ys = bs.map V.ref ∧ RowsZ D H' bs (((allR i).take j).map fun r => r ++ [1]) ∧ bs.length = j ∧ ∀ a ∈ bs, G2 a = none) (SqL.of hl) B.nt (fun D hD => ⟨[], rfl, trivial, rfl, fun a ha => absurd ha List.not_mem_nil⟩) (fun D j ys x H' hx sm n1 hD hys Pz => ?_) fun D2 ys H' hD hys sm n1 Pz => ?_
      · obtain ⟨bs, rfl, rb, bl, fb⟩ := Pz
        obtain ⟨a0, r, rfl, _, hr0, _, h0⟩ := rz.at hx
        have j5 := (List.getElem?_eq_some_iff.mp hx).1
        rw [List.length_map] at j5
        have h1 := sm _ _ h0
        have rlen := (allR_ok (List.mem_of_getElem? hr0))
        have bl2 : (bs.map V.ref).length < sizeLine := by rw [List.length_map]; exact Nat.lt_of_lt_of_le (show bs.length < 100 by omega) (by decide)
        wtm_at "r"
        refine ⟨rfl, ?_⟩
        wtm_at "rs"
        rename_i X hX
        refine rd_cat (same_new hX _ _ h1) upd_same (Nat.le_trans (show _ ≤ 100 by simp; omega) (by decide)) fun Y hY => ?_
        have s4 := (same_new (o := .lst [.int 1]) hX).trans (same_new (o := .lst (r.map V.int ++ [.int 1])) hY)
        have XD : Y ≠ D := fun e => by
          have := (same_new (o := .lst [.int 1]) hX) _ _ hys
          rw [← e, hY] at this
          cases this
        refine put_PH (P := fun ys H' => ∃ bs : List Addr, ys = bs.map V.ref ∧ RowsZ D H' bs (((allR i).take (j + 1)).map fun r => r ++ [1]) ∧ bs.length = j + 1 ∧ ∀ a ∈ bs, G2 a = none) (s4 _ _ hys) bl2 (sm.trans s4) hD (NoT.upd (NoT.upd n1 rfl) rfl) ⟨bs ++ [Y], by simp, ?_, by rw [List.length_append, List.length_singleton]; omega, fun a ha => ?_⟩
        · rw [List.take_add_one, hr0, List.map_append]
          refine RowsZ.snoc ((rb.but (But.of s4)).but (But.put But.refl)) XD ?_
          rw [upd_ne XD, upd_same]
          simp
        · rcases List.mem_append.mp ha with h | h
          · exact fb a h
          · rw [List.mem_singleton.mp h]
            exact (sm.trans (same_new (o := .lst [.int 1]) hX)).free hY
      obtain ⟨b2, rfl, r2, bl2, f2⟩ := Pz
      rw [List.length_map, al, List.take_length] at r2
      replace B := B.next sm n1
      have hD1 := sm _ _ hD1
      have r1 := r1.mono sm
      wtm_at "rs"
      refine rd_cat hD1 hys (Nat.le_trans (show _ ≤ 100 by rw [List.length_map, List.length_map]; have := r1.len; have := r2.len; rw [List.length_map] at *; omega) (by decide)) fun L2 hL2 => ?_
      rw [← List.map_append]
      have sL := same_new (o := .lst ((b1 ++ b2).map V.ref)) hL2
      wtm_at "rs"
      refine ⟨L2, b1 ++ b2, _, _, rfl, B.next sL (NoT.upd B.nt rfl), upd_same, ((r1.free hL2).mono sL).app ((r2.free hL2).mono sL), fun a ha => ?_⟩
      rcases List.mem_append.mp ha with h | h
      · exact B0.free (f1 a h)
      · exact B2.free (f2 a h)
    · clear B rz hl fE
      rintro σ G ⟨L, as, v2, v3, rfl, B, hl, rz, fa⟩
      wtm_at "rs"
      refine rd_sortZ (SqL.of hl) rz.each (fun b hb => by have := allR_ok hb; omega) fun as' p ez hm hp => ?_
      rw [allR_sort m m5] at ez
      have sp := same_new (o := .lst (as'.map V.ref)) hp
      have np : ∀ a ∈ as', a ≠ p := fun a ha e => rz.ex a (hm a ha) (e ▸ hp)
      exact q p as' _ ⟨B.same.trans sp, NoT.upd B.nt rfl, B.free hp, upd_same, (eachZ_rows ez np).mono sp, fun a ha => fa a (hm a ha)⟩
/-! ### _law_asked -/
theorem NewZ.back {H G : Hp} {p L : Addr} {o : HO} {as : List Addr} {rs : List (List Int)} (hp : H p = none) (z : NewZ (upd H p o) G L as rs) : NewZ H G L as rs := ⟨(same_new hp).trans z.s, z.n, (same_new hp).free z.f, z.l, z.r, fun a ha => (same_new hp).free (z.fa a ha)⟩
theorem use_patterns {K : PySem.W.Frag} {ns : List Int} {H : Hp} {Q : VK} {E : XK} (nm : Nums ns) (n5 : ns.length ≤ 5) (nt : NoT H) (q : ∀ L as G, NewZ H G L as (freeL ns) → Q (.ref L) G) :
    (fun (vs : List V) (H : Hp) (Q : VK) (E : XK) => ∃ ws rest, vs = ws ++ rest ∧ ws.length = ([] : List Str).length ∧ rest.length ≤ sizeLine ∧ ∀ p, H p = none → spPatterns K (ws ++ [V.ref p]) (upd H p (.tup rest)) Q E) (ns.map V.int) H Q E :=
  ⟨[], ns.map V.int, rfl, rfl, by rw [List.length_map]; exact Nat.le_trans n5 (by decide), fun p hp => ⟨p, ns, rfl, SqT.of upd_same, nm, n5, NoT.upd nt rfl, fun L as G z => q L as G (z.back hp)⟩⟩
def spAsk79 (K : PySem.W.Frag) : Sp := fun vs H Q _ => ∃ (a : Addr) (ns : List Int), vs = [.ref a] ∧ SqL K H a (ns.map V.int) ∧ Nums ns ∧ 1 ≤ ns.length ∧ ns.length ≤ 5 ∧ NoT H ∧ ∀ L as G, NewZ H G L as (freeL ns) → Q (.ref L) G
theorem ok_law_asked (T : Txt K mg Ad) : Def P w K mg base 13 "_law_asked" ["_law_numbers"] (spAsk79 K) := by
  refine T.d_law_asked.ok sc_law_asked (fun vs H Q E h => ?_) (fun f cdv A outer s H vs Q E hr h => ?_)
  · obtain ⟨a, ns, rfl, _⟩ := h
    rfl
  · obtain ⟨a, ns, rfl, ha, nm, n1, n5, nt, q⟩ := h
    refine ⟨_, (pss_cons (ps_if (pt_cmpR op_eq (pe_callB c_len (by rfl) T.b_len PySem.boot_len (pa_cons (pv 0) pa_nil)) pe_int (nomark _)) (pss_one (ps_ret (pe_dR (ok_patterns T) (hr.mono (by decide)) (passes_call (takes_of rfl rfl rfl rfl) (fun _ _ _ _ h => h)) (pa_cons (pe_ix ix_list (pv 0) pe_int (fun _ _ => rfl)) pa_nil)))) pss_nil)
      (pss_cons (ps_if (pt_cmpR op_eq (pe_callB c_len (by rfl) T.b_len PySem.boot_len (pa_cons (pv 0) pa_nil)) pe_int (nomark _)) (pss_one (ps_ret (pe_dR (ok_patterns T) (hr.mono (by decide)) (passes_call (takes_of rfl rfl rfl rfl) (fun _ _ _ _ h => h)) (pa_cons (pe_ix ix_list (pv 0) pe_int (fun _ _ => rfl)) (pa_cons (pe_ix ix_list (pv 0) pe_int (fun _ _ => rfl)) pa_nil))))) pss_nil)
      (pss_cons (ps_if (pt_cmpR op_eq (pe_callB c_len (by rfl) T.b_len PySem.boot_len (pa_cons (pv 0) pa_nil)) pe_int (nomark _)) (pss_one (ps_ret (pe_dR (ok_patterns T) (hr.mono (by decide)) (passes_call (takes_of rfl rfl rfl rfl) (fun _ _ _ _ h => h)) (pa_cons (pe_ix ix_list (pv 0) pe_int (fun _ _ => rfl)) (pa_cons (pe_ix ix_list (pv 0) pe_int (fun _ _ => rfl)) (pa_cons (pe_ix ix_list (pv 0) pe_int (fun _ _ => rfl)) pa_nil)))))) pss_nil)
      (pss_cons (ps_if (pt_cmpR op_eq (pe_callB c_len (by rfl) T.b_len PySem.boot_len (pa_cons (pv 0) pa_nil)) pe_int (nomark _)) (pss_one (ps_ret (pe_dR (ok_patterns T) (hr.mono (by decide)) (passes_call (takes_of rfl rfl rfl rfl) (fun _ _ _ _ h => h)) (pa_cons (pe_ix ix_list (pv 0) pe_int (fun _ _ => rfl)) (pa_cons (pe_ix ix_list (pv 0) pe_int (fun _ _ => rfl)) (pa_cons (pe_ix ix_list (pv 0) pe_int (fun _ _ => rfl)) (pa_cons (pe_ix ix_list (pv 0) pe_int (fun _ _ => rfl)) pa_nil))))))) pss_nil)
      (pss_one (ps_ret (pe_dR (ok_patterns T) (hr.mono (by decide)) (passes_call (takes_of rfl rfl rfl rfl) (fun _ _ _ _ h => h)) (pa_cons (pe_ix ix_list (pv 0) pe_int (fun _ _ => rfl)) (pa_cons (pe_ix ix_list (pv 0) pe_int (fun _ _ => rfl)) (pa_cons (pe_ix ix_list (pv 0) pe_int (fun _ _ => rfl)) (pa_cons (pe_ix ix_list (pv 0) pe_int (fun _ _ => rfl)) (pa_cons (pe_ix ix_list (pv 0) pe_int (fun _ _ => rfl)) pa_nil)))))))))))), ?_⟩
    try dsimp only [cxOf]
    have us := fun {E : XK} => use_patterns (K := K) (E := E) nm n5 nt q
    rcases ns with _ | ⟨x1, _ | ⟨x2, _ | ⟨x3, _ | ⟨x4, _ | ⟨x5, _ | ⟨x6, r⟩⟩⟩⟩⟩⟩
    · cases n1
    · replace ha : SqL K H a [.int x1] := ha
      wtm_at "rs"
      repeat (first | (refine rd_eqT rfl ?_; wtm_at "rs") | (refine rd_eqF (fun z => by simp at z) ?_; wtm_at "rs"))
      exact us
    · replace ha : SqL K H a [.int x1, .int x2] := ha
      wtm_at "rs"
      repeat (first | (refine rd_eqT rfl ?_; wtm_at "rs") | (refine rd_eqF (fun z => by simp at z) ?_; wtm_at "rs"))
      exact us
    · replace ha : SqL K H a [.int x1, .int x2, .int x3] := ha
      wtm_at "rs"
      repeat (first | (refine rd_eqT rfl ?_; wtm_at "rs") | (refine rd_eqF (fun z => by simp at z) ?_; wtm_at "rs"))
      exact us
    · replace ha : SqL K H a [.int x1, .int x2, .int x3, .int x4] := ha
      wtm_at "rs"
      repeat (first | (refine rd_eqT rfl ?_; wtm_at "rs") | (refine rd_eqF (fun z => by simp at z) ?_; wtm_at "rs"))
      exact us
    · replace ha : SqL K H a [.int x1, .int x2, .int x3, .int x4, .int x5] := ha
      wtm_at "rs"
      repeat (first | (refine rd_eqT rfl ?_; wtm_at "rs") | (refine rd_eqF (fun z => by simp at z) ?_; wtm_at "rs"))
      exact us
    · simp at n5
/-! ### _law_free -/
def spFree79 : Sp := fun vs H Q _ => ∃ n s r : Int, vs = [.int n] ∧ n ≠ 0 ∧ -(2 ^ 40) < n ∧ n < 2 ^ 40 ∧ CoreOk n s r ∧ (∀ q : Int, QR.Pm q → 13 < q → ¬ q * q ∣ n) ∧ NoT H ∧ ∀ G, Same H G → NoT G → Q (.int s) G
theorem ok_law_free (T : Txt K mg Ad) : Def P w K mg base 1 "_law_free" ["_law_n"] spFree79 := by
  refine T.d_law_free.ok sc_law_free (fun vs H Q E h => ?_) (fun f cdv A outer s H vs Q E hr h => ?_)
  · obtain ⟨n, s, r, rfl, _⟩ := h
    rfl
  · obtain ⟨n, s, r, rfl, h0, h1, h2, c, big, nt, q⟩ := h
    refine ⟨_, (pss_cons (ps_set (i := 1) sc_law_free.nd rfl (Or.inl rfl) (pe_callB c_abs (by rfl) T.b_abs (by decide +kernel) (pa_cons (pv 0) pa_nil)))
      (pss_cons (ps_for (passes_of rfl) rfl (pi_list (pe_lst (pa_cons pe_int (pa_cons pe_int (pa_cons pe_int (pa_cons pe_int (pa_cons pe_int (pa_cons pe_int pa_nil)))))))) (pg_name (i := 2) sc_law_free.nd rfl (Or.inl rfl)) (pss_one (ps_while (passes_of rfl) (pt_cmpR op_eq (pe_op op_mod (pv 1) (pe_op op_mulB (pv 2) (pv 2))) pe_int (nomark _)) (pss_one (ps_set (i := 1) sc_law_free.nd rfl (Or.inl rfl) (pe_op op_fdivB (pv 1) (pe_op op_mulB (pv 2) (pv 2))))))))
      (pss_cons (ps_if (pt_cmpR op_lt (pv 0) pe_int (nomark _)) (pss_one (ps_ret (pe_un un_neg (pv 1)))) pss_nil)
      (pss_one (ps_ret (pv 1)))))), ?_⟩
    try dsimp only [cxOf]
    wtm_at "rs"
    rename_i D hD
    have B := (Hv.start nt).newL (o := .lst (([2, 3, 5, 7, 11, 13] : List Int).map V.int)) hD
    clear hD
    refine B.gen fun G B => ?_
    obtain ⟨N, hN⟩ : ∃ N : Int, N = (if n < 0 then -n else n) := ⟨_, rfl⟩
    rw [← hN]
    have n1 : 1 ≤ N ∧ N < 2 ^ 40 := by rw [hN]; split <;> omega
    have nd : ∀ z : Int, z ∣ n ↔ z ∣ N := fun z => by rw [hN]; split <;> simp [Int.dvd_neg]
    refine rd_forLs (fun i σ => ∃ (f t : Int) (v2 : Option V), σ = [some (.int n), some (.int f), v2] ∧ 1 ≤ f ∧ f ≤ N ∧ 1 ≤ t ∧ f * t * t = N ∧ ∀ k ∈ ([2, 3, 5, 7, 11, 13] : List Int).take i, ¬ k * k ∣ f) (SqL.of (B.lAt (a := D) (by wtm_at "mem"))) ⟨N, 1, _, rfl, n1.1, Int.le_refl _, by decide, by omega, fun k h => absurd h (by simp)⟩ ?_ ?_
    · rintro i v σ hi ⟨f, t, v2, rfl, f1, f2, t1, ft, no⟩
      rw [List.getElem?_map] at hi
      obtain ⟨k, hk, rfl⟩ := Option.map_eq_some_iff.mp hi
      have kb : 2 ≤ k ∧ k ≤ 13 := by
        have := List.mem_of_getElem? hk
        simp only [List.mem_cons, List.not_mem_nil, or_false] at this
        omega
      have k4 : 2 * 2 ≤ k * k := Int.mul_le_mul kb.1 kb.1 (by decide) (by omega)
      have k5 : k * k ≤ 13 * 13 := Int.mul_le_mul kb.2 kb.2 (by omega) (by decide)
      have et : ([2, 3, 5, 7, 11, 13] : List Int).take (i + 1) = ([2, 3, 5, 7, 11, 13] : List Int).take i ++ [k] := by rw [List.take_add_one, hk]; rfl
      rw [et]
      refine rd_while (fun μ σ H' => ∃ (f t : Int), μ = f.toNat ∧ σ = [some (.int n), some (.int f), some (.int k)] ∧ H' = G ∧ 1 ≤ f ∧ f ≤ N ∧ 1 ≤ t ∧ f * t * t = N ∧ ∀ k ∈ ([2, 3, 5, 7, 11, 13] : List Int).take i, ¬ k * k ∣ f) _ ⟨f, t, rfl, rfl, rfl, f1, f2, t1, ft, no⟩ ?_
      clear f1 f2 t1 ft no
      rintro μ σ H' ⟨f, t, rfl, rfl, rfl, f1, f2, t1, ft, no⟩
      wtm_at "rs"
      by_cases d : f % (k * k) = 0
      · rw [if_pos (decide_eq_true d)]
        have dv := Int.dvd_of_emod_eq_zero d
        have e := Int.ediv_mul_cancel dv
        have g1 : 1 ≤ f / (k * k) := by
          rcases Int.lt_or_le 0 (f / (k * k)) with z | z
          · omega
          · have := Int.mul_nonneg (show 0 ≤ -(f / (k * k)) by omega) (show 0 ≤ k * k by omega)
            rw [Int.neg_mul] at this
            omega
        have g2 : 4 * (f / (k * k)) ≤ f := by
          have := Int.mul_le_mul_of_nonneg_left k4 (show 0 ≤ f / (k * k) by omega)
          omega
        wtm_at "rs"
        refine ⟨_, ?_, f / (k * k), t * k, rfl, rfl, rfl, g1, by omega, Int.mul_pos (by omega) (by omega), ?_, fun j a z => no j a (Int.dvd_trans z ⟨k * k, e.symm⟩)⟩
        · omega
        · rw [← ft, show f * t * t = f / (k * k) * (k * k) * t * t by rw [e]]
          grind
      · rw [if_neg (by rw [decide_eq_true_iff]; exact d)]
        refine ⟨rfl, f, t, _, rfl, f1, f2, t1, ft, fun j hj => ?_⟩
        rcases List.mem_append.mp hj with h | h
        · exact no j h
        · rw [List.mem_singleton.mp h]
          exact fun z => d (Int.emod_eq_zero_of_dvd z)
    · rintro σ ⟨f, t, v2, rfl, f1, f2, t1, ft, no⟩
      have no : ∀ k ∈ ([2, 3, 5, 7, 11, 13] : List Int), ¬ k * k ∣ f := no
      have sf : ∀ j : Int, 2 ≤ j → ¬ j * j ∣ f := fun j a z => by
        obtain ⟨q, qp, qj⟩ := prime_in j.toNat j a (by omega)
        have qq : q * q ∣ f := Int.dvd_trans (Int.mul_dvd_mul qj qj) z
        have q2 := qp.1
        by_cases q13 : 13 < q
        · exact big q qp q13 ((nd _).mpr (by rw [← ft, Int.mul_assoc]; exact Int.dvd_trans qq (Int.dvd_mul_right ..)))
        · have : q ∈ ([2, 3, 5, 7, 11, 13] : List Int) := by
            clear ft f1 f2 t1 no qq qj z
            have c4 : q ≠ 4 := fun e => qp.2 2 (by decide) (by omega) (by rw [e]; decide)
            have c6 : q ≠ 6 := fun e => qp.2 2 (by decide) (by omega) (by rw [e]; decide)
            have c8 : q ≠ 8 := fun e => qp.2 2 (by decide) (by omega) (by rw [e]; decide)
            have c9 : q ≠ 9 := fun e => qp.2 3 (by decide) (by omega) (by rw [e]; decide)
            have c10 : q ≠ 10 := fun e => qp.2 2 (by decide) (by omega) (by rw [e]; decide)
            have c12 : q ≠ 12 := fun e => qp.2 2 (by decide) (by omega) (by rw [e]; decide)
            simp only [List.mem_cons, List.not_mem_nil, or_false]
            omega
          exact no q this qq
      wtm_at "rs"
      by_cases ng : n < 0
      · rw [if_pos (decide_eq_true ng)]
        have c2 : CoreOk n (-f) t := ⟨by rw [if_pos ng] at hN; rw [show -f * t * t = -(f * t * t) by grind]; omega, t1, fun j a z => sf j a (Int.dvd_neg.mp z)⟩
        rw [(c.uniq c2).1] at q
        wtm_at "rs"
        exact q G B.same B.nt
      · rw [if_neg (by rw [decide_eq_true_iff]; exact ng)]
        have c2 : CoreOk n f t := ⟨by rw [if_neg ng] at hN; omega, t1, sf⟩
        rw [(c.uniq c2).1] at q
        wtm_at "rs"
        exact q G B.same B.nt
theorem use_Free79 {n s r : Int} {H : Hp} {Q : VK} {E : XK} (h0 : n ≠ 0) (h1 : -(2 ^ 40) < n) (h2 : n < 2 ^ 40) (c : CoreOk n s r) (b : ∀ q : Int, QR.Pm q → 13 < q → ¬ q * q ∣ n) (nt : NoT H) (q : ∀ G, Same H G → NoT G → Q (.int s) G) : spFree79 [.int n] H Q E := ⟨n, s, r, rfl, h0, h1, h2, c, b, nt, q⟩
/-! ### _law_cell -/
theorem getD_at {ns : List Int} {i : Nat} (h : i < ns.length) : atI (ns.map V.int) (i : Int) = some (.int (ns.getD i 0)) := by
  refine atI_nat ?_
  rw [List.getElem?_map, List.getElem?_eq_getElem h, List.getD_eq_getElem?_getD, List.getElem?_eq_getElem h]
  rfl
theorem getD_out {ns : List Int} {i : Nat} (h : ¬ i < ns.length) : ns.getD i 0 = 0 := by
  rw [List.getD_eq_getElem?_getD, List.getElem?_eq_none (by omega)]
  rfl
def spCell (K : PySem.W.Frag) : Sp := fun vs H Q _ => ∃ (a : Addr) (ns : List Int) (i : Nat), vs = [.ref a, .int i] ∧ SqL K H a (ns.map V.int) ∧ Q (.int (ns.getD i 0)) H
theorem ok_law_cell (T : Txt K mg Ad) : Def P w K mg base 1 "_law_cell" ["_law_script", "_law_k"] (spCell K) := by
  refine T.d_law_cell.ok sc_law_cell (fun vs H Q E h => ?_) (fun f cdv A outer s H vs Q E hr h => ?_)
  · obtain ⟨a, ns, i, rfl, _⟩ := h
    rfl
  · obtain ⟨a, ns, i, rfl, hS, q⟩ := h
    refine ⟨_, (pss_cons (ps_if (pt_cmpR op_lt (pv 1) (pe_callB c_len (by rfl) T.b_len PySem.boot_len (pa_cons (pv 0) pa_nil)) (nomark _)) (pss_one (ps_ret (pe_ix ix_list (pv 0) (pv 1) (fun _ _ => rfl)))) pss_nil)
      (pss_one (ps_ret pe_int))), ?_⟩
    try dsimp only [cxOf]
    wtm_at "rs"
    wtm_at "i"
    · rename_i h
      rw [List.length_map] at h
      wtm_at "rs"
      exact rd_ixL hS (getD_at (by omega)) q
    · rename_i h
      rw [List.length_map] at h
      rw [getD_out (by omega)] at q
      wtm_at "rs"
      exact q
theorem use_cell {a : Addr} {ns : List Int} {i : Nat} {H : Hp} {Q : VK} {E : XK} {z : Int} (hS : SqL K H a (ns.map V.int)) (hz : z = (i : Int)) (q : Q (.int (ns.getD i 0)) H) : spCell K [.ref a, .int z] H Q E :=
  ⟨a, ns, i, by rw [hz], hS, q⟩
local macro_rules | `(tactic| wtm_at "s") => `(tactic| ((with_reducible refine use_cell (ns := ?ns) (i := ?i) ?h1 ?h2 ?_); (case h1 => wtm_at "q"); (case h2 => first | rfl | exact (Int.zero_add _) | exact (Int.natCast_succ _).symm)))
/-! ### _law_draws -/
def spDraws (K : PySem.W.Frag) : Sp := fun vs H Q E => ∃ (c : Int) (a : Addr) (ss : List Int), vs = [.int c, .ref a] ∧ SqL K H a (ss.map V.int) ∧ (∀ s ∈ ss, 0 < s ∧ s < 2 ^ 240) ∧ ss.length ≤ 1000 ∧ NoT H ∧ ∀ D ds H', Same H H' → NoT H' → H D = none → H' D = some (.lst (ds.map V.int)) → DrawOk ds ss → Q (.ref D) H'
theorem ok_law_draws (T : Txt K mg Ad) : Def P w K mg base 1 "_law_draws" ["_law_cell_here", "_law_sizes"] (spDraws K) := by
  refine T.d_law_draws.ok sc_law_draws (fun vs H Q E h => ?_) (fun f cdv A outer s H vs Q E hr h => ?_)
  · obtain ⟨c, a, ss, rfl, _⟩ := h
    rfl
  · obtain ⟨c, a, ss, rfl, hS, hs, hlen, nt, q⟩ := h
    have hml : (ss.map V.int).length = ss.length := List.length_map ..
    refine ⟨_, (pss_cons (ps_set (i := 2) sc_law_draws.nd rfl (Or.inl rfl) (pe_lst pa_nil))
      (pss_cons (ps_set (i := 3) sc_law_draws.nd rfl (Or.inl rfl) (pe_callB c_abs (by rfl) T.b_abs (by decide +kernel) (pa_cons (pv 0) pa_nil)))
      (pss_cons (ps_for (passes_of rfl) rfl (pi_range1 (by rfl) T.b_range (pa_cons (pe_callB c_len (by rfl) T.b_len PySem.boot_len (pa_cons (pv 1) pa_nil)) pa_nil)) (pg_name (i := 4) sc_law_draws.nd rfl (Or.inl rfl)) (pss_one (ps_if (pt_cmpR op_ge (pe_callB c_abs (by rfl) T.b_abs (by decide +kernel) (pa_cons (pv 0) pa_nil)) (pe_op (op_powN 18) pe_int pe_int) (nomark _)) (pss_cons (ps_expr (pe_bm PySem.F.plainAttrs_list PySem.F.slot_list_append PySem.F.type_list_append mt_append (pv 2) (pa_cons (pe_op op_mod (pe_callTy c_int1 (by rfl) T.b_int (by decide +kernel) (pa_cons (pv 3) pa_nil)) (pe_ix ix_list (pv 1) (pv 4) (fun _ _ => rfl))) pa_nil)))
      (pss_one (ps_set (i := 3) sc_law_draws.nd rfl (Or.inl rfl) (pe_op op_fdivB (pv 3) (pe_ix ix_list (pv 1) (pv 4) (fun _ _ => rfl)))))) (pss_cons (ps_set (i := 5) sc_law_draws.nd rfl (Or.inl rfl) (pe_op op_mod (pe_callTy c_int1 (by rfl) T.b_int (by decide +kernel) (pa_cons (pe_op op_mulB (pe_op op_add (pe_op op_add (pv 3) (pe_op op_mulB pe_int (pv 4))) pe_int) pe_int) pa_nil)) pe_int))
      (pss_cons (ps_set (i := 5) sc_law_draws.nd rfl (Or.inl rfl) (pe_op op_mod (pe_callTy c_int1 (by rfl) T.b_int (by decide +kernel) (pa_cons (pe_op op_add (pe_op op_add (pe_op op_mulB (pe_op op_mulB (pv 5) (pv 5)) pe_int) (pe_op op_mulB pe_int (pv 4))) (pv 5)) pa_nil)) pe_int))
      (pss_one (ps_expr (pe_bm PySem.F.plainAttrs_list PySem.F.slot_list_append PySem.F.type_list_append mt_append (pv 2) (pa_cons (pe_op op_mod (pe_op op_fdivB (pv 5) pe_int) (pe_ix ix_list (pv 1) (pv 4) (fun _ _ => rfl))) pa_nil)))))))))
      (pss_one (ps_ret (pv 2)))))), ?_⟩
    try dsimp only [cxOf]
    wtm_at "rs"
    rename_i D hD
    refine rd_forR (fun i σ H' => ∃ (L : Int) (ds : List Int) (v4 v5 : Option V), σ = [some (.int c), some (.ref a), some (.ref D), some (.int L), v4, v5] ∧ Same H H' ∧ NoT H' ∧ H' D = some (.lst (ds.map V.int)) ∧ DrawOk ds (ss.take i)) ⟨_, [], _, _, rfl, same_new hD, NoT.upd nt rfl, upd_same, trivial⟩ ?_ ?_
    · rintro i σ H' hi ⟨L, ds, v4, v5, rfl, sm, nt', hd, hok⟩
      have hil : i < ss.length := by simpa using hi
      have hS' := sm.seq hS
      have hix : atI (ss.map V.int) (0 + (i : Int)) = some (.int (ss.getD i 0)) := by
        rw [Int.zero_add]
        refine atI_nat ?_
        rw [List.getElem?_map, List.getElem?_eq_getElem hil, List.getD_eq_getElem?_getD, List.getElem?_eq_getElem hil]
        rfl
      obtain ⟨s0, s1⟩ := hs (ss.getD i 0) (by rw [List.getD_eq_getElem?_getD, List.getElem?_eq_getElem hil]; exact List.getElem_mem hil)
      have htk : ss.take (i + 1) = ss.take i ++ [ss.getD i 0] := by
        rw [List.take_add_one, List.getElem?_eq_getElem hil, List.getD_eq_getElem?_getD, List.getElem?_eq_getElem hil]
        rfl
      generalize ss.getD i 0 = z at *
      have hroom : (ds.map V.int).length < 10000 := by
        rw [List.length_map, hok.len, List.length_take]
        omega
      have hDa : D = D := rfl
      wtm_at "ra"
      · refine rd_ixL hS' hix ?_
        wtm_at "rs"
        refine rd_ixL ((show Same H _ by wtm_at "sm").seq hS) hix ?_
        wtm_at "rs"
        exact ⟨_, ds ++ [L % z], _, _, rfl, by wtm_at "sm", by wtm_at "nt", by rw [upd_same, List.map_append]; rfl, by rw [htk]; exact hok.snoc ⟨Int.emod_nonneg _ (by omega), Int.emod_lt_of_pos _ s0⟩⟩
      · refine rd_ixL hS' hix ?_
        wtm_at "rs"
        exact ⟨_, ds ++ [_ % z], _, _, rfl, by wtm_at "sm", by wtm_at "nt", by rw [upd_same, List.map_append]; rfl, by rw [htk]; exact hok.snoc ⟨Int.emod_nonneg _ (by omega), Int.emod_lt_of_pos _ s0⟩⟩
    · rintro σ H' ⟨L, ds, v4, v5, rfl, sm, nt', hd, hok⟩
      rw [show (Int.toNat ((ss.map V.int).length : Int)) = ss.length by simp, List.take_length] at hok
      wtm_at "rs"
      exact q D ds H' sm nt' hD hd hok
theorem use_draws {c : Int} {a : Addr} {ss : List Int} {H : Hp} {Q : VK} {E : XK} (hS : SqL K H a (ss.map V.int)) (hs : ∀ s ∈ ss, 0 < s ∧ s < 2 ^ 240) (hl : ss.length ≤ 1000) (nt : NoT H) (q : ∀ D ds H', Same H H' → NoT H' → H D = none → H' D = some (.lst (ds.map V.int)) → DrawOk ds ss → Q (.ref D) H') : spDraws K [.int c, .ref a] H Q E :=
  ⟨c, a, ss, rfl, hS, hs, hl, nt, q⟩
/-! ### _law_is_prime -/
def spOP : Sp := fun vs H Q _ => ∃ n : Int, vs = [.int n] ∧ n < 2 ^ 120 ∧ Q (.bl (decide (QR.OP n))) H
theorem ok_law_is_prime (T : Txt K mg Ad) : Def P w K mg base 1 "_law_is_prime" ["_law_n"] spOP := by
  refine T.d_law_is_prime.ok sc_law_is_prime (fun vs H Q E h => ?_) (fun f cdv A outer s H vs Q E hr h => ?_)
  · obtain ⟨n, rfl, _⟩ := h
    rfl
  · obtain ⟨n, rfl, hn, q⟩ := h
    refine ⟨_, (pss_cons (ps_if (PW.pt (pw_or (pt_cmpR op_lt (pv 0) pe_int (nomark _)) (pw_or1 (pt_cmpR op_eq (pe_op op_mod (pv 0) pe_int) pe_int (nomark _))))) (pss_one (ps_ret pe_bl)) pss_nil)
      (pss_cons (ps_set (i := 1) sc_law_is_prime.nd rfl (Or.inl rfl) pe_int)
      (pss_cons (ps_while (passes_of rfl) (pt_cmpR op_le (pe_op op_mulB (pv 1) (pv 1)) (pv 0) (nomark _)) (pss_cons (ps_if (pt_cmpR op_eq (pe_op op_mod (pv 0) (pv 1)) pe_int (nomark _)) (pss_one (ps_ret pe_bl)) pss_nil)
      (pss_one (ps_set (i := 1) sc_law_is_prime.nd rfl (Or.inl rfl) (pe_op op_add (pv 1) pe_int)))))
      (pss_one (ps_ret pe_bl))))), ?_⟩
    try dsimp only [cxOf]
    wtm_at "ra"
    · rw [decide_eq_false (fun z : QR.OP n => by have := z.three; omega)] at q
      exact q
    · rw [decide_eq_false (fun z : QR.OP n => by have := z.2; omega)] at q
      exact q
    · refine rd_while (fun μ σ H' => ∃ k : Int, μ = (n + 2 - k).toNat ∧ σ = [some (.int n), some (.int k)] ∧ H = H' ∧ 3 ≤ k ∧ k % 2 = 1 ∧ k < 2 ^ 61 ∧ ∀ d : Int, 3 ≤ d → d % 2 = 1 → d < k → ¬ d ∣ n) (n - 1).toNat
        ⟨3, by omega, rfl, rfl, by omega, by omega, by omega, fun d _ _ _ => by omega⟩ ?_
      rintro μ σ H' ⟨k, rfl, rfl, rfl, hk, hk2, hk3, inv⟩
      wtm_at "ra"
      · rename_i hle hz
        rw [decide_eq_false (fun z : QR.OP n => QR.not_pm (by omega) hle hz z.1)] at q
        exact q
      · rename_i hle hz
        have b := QR.sq_bound (by omega) hle hn
        have c := QR.le_sq (show 1 ≤ k by omega)
        exact ⟨_, by omega, k + 2, rfl, rfl, rfl, by omega, by omega, by omega, QR.no_dvd_step2 hk2 inv hz⟩
      · rename_i hgt
        rw [decide_eq_true (show QR.OP n from ⟨QR.pm_of_odd_trial (by omega) (by omega) (by omega) (by omega) inv, by omega⟩)] at q
        exact q
theorem use_OP {n : Int} {H : Hp} {Q : VK} {E : XK} (h : n < 2 ^ 120) (q : Q (.bl (decide (QR.OP n))) H) : spOP [.int n] H Q E := ⟨n, rfl, h, q⟩
local macro_rules | `(tactic| wtm_at "s") => `(tactic| ((with_reducible refine use_OP ?h1 ?_); (case h1 => omega)))
/-! ### _law_sign -/
def spLSgn : Sp := fun vs H Q E => ∃ (n p : Int), vs = [.int n, .int p] ∧ QR.OP p ∧ p < 2 ^ 100 ∧ Q (.int (sgn n p)) H
theorem use_LSgn {n p : Int} {H : Hp} {Q : VK} {E : XK} (hp : QR.OP p) (hb : p < 2 ^ 100) (q : Q (.int (sgn n p)) H) : spLSgn [.int n, .int p] H Q E := ⟨n, p, rfl, hp, hb, q⟩
theorem ok_law_sign (T : Txt K mg Ad) : Def P w K mg base 1 "_law_sign" ["_law_n", "_law_p"] spLSgn := by
  refine T.d_law_sign.ok sc_law_sign (fun vs H Q E h => ?_) (fun f cdv A outer s H vs Q E hr h => ?_)
  · obtain ⟨n, p, rfl, _⟩ := h
    rfl
  · obtain ⟨n, p, rfl, hp, hb, q⟩ := h
    refine ⟨_, (pss_cons (ps_set (i := 2) sc_law_sign.nd rfl (Or.inl rfl) pe_int)
      (pss_cons (ps_set (i := 3) sc_law_sign.nd rfl (Or.inl rfl) (pe_op op_mod (pe_callTy c_int1 (by rfl) T.b_int (by decide +kernel) (pa_cons (pv 0) pa_nil)) (pv 1)))
      (pss_cons (ps_set (i := 4) sc_law_sign.nd rfl (Or.inl rfl) (pe_op op_fdivB (pe_op op_sub (pv 1) pe_int) pe_int))
      (pss_cons (ps_while (passes_of rfl) (pt_cmpR op_gt (pv 4) pe_int (nomark _)) (pss_cons (ps_if (pt_cmpR op_eq (pe_op op_mod (pv 4) pe_int) pe_int (nomark _)) (pss_one (ps_set (i := 2) sc_law_sign.nd rfl (Or.inl rfl) (pe_op op_mod (pe_callTy c_int1 (by rfl) T.b_int (by decide +kernel) (pa_cons (pe_op op_mulB (pv 2) (pv 3)) pa_nil)) (pv 1)))) pss_nil)
      (pss_cons (ps_set (i := 3) sc_law_sign.nd rfl (Or.inl rfl) (pe_op op_mod (pe_callTy c_int1 (by rfl) T.b_int (by decide +kernel) (pa_cons (pe_op op_mulB (pv 3) (pv 3)) pa_nil)) (pv 1)))
      (pss_one (ps_set (i := 4) sc_law_sign.nd rfl (Or.inl rfl) (pe_op op_fdivB (pv 4) pe_int))))))
      (pss_cons (ps_if (pt_cmpR op_eq (pv 2) (pe_op op_sub (pv 1) pe_int) (nomark _)) (pss_one (ps_ret (pe_un un_neg pe_int))) pss_nil)
      (pss_one (ps_ret (pv 2)))))))), ?_⟩
    try dsimp only [cxOf]
    have h3 := hp.three
    have m1 := fun z => Int.emod_nonneg z (show p ≠ 0 by omega)
    have m2 := fun z => Int.emod_lt_of_pos z (show 0 < p by omega)
    have m3 := m1 n
    have m4 := m2 n
    obtain ⟨e0, he0⟩ : ∃ e0, e0 = ((p - 1) / 2).toNat := ⟨_, rfl⟩
    have he1 : (p - 1) / 2 = (e0 : Int) := by omega
    have eu := euler_sgn (n := n) hp
    rw [← he0] at eu
    wtm_at "rs"
    rw [he1]
    refine rd_while (fun μ σ H' => ∃ (d : Nat) (r b : Int), μ = d ∧ σ = [some (.int n), some (.int p), some (.int r), some (.int b), some (.int (d : Int))] ∧ H = H' ∧ 0 ≤ r ∧ r < p ∧ 0 ≤ b ∧ b < p ∧ p ∣ r * b ^ d - n ^ e0) _
      ⟨e0, 1, n % p, rfl, rfl, rfl, by omega, by omega, m3, m4, by rw [Int.one_mul]; exact cg_pow ⟨-(n / p), by have := Int.mul_ediv_add_emod n p; rw [Int.mul_neg]; omega⟩ e0⟩ ?_
    rintro μ σ H' ⟨d, r, b, rfl, rfl, rfl, r0, r1, b0, b1, inv⟩
    have Br : Bd 100 r := Bd.of (by omega) (by omega)
    have Bb : Bd 100 b := Bd.of (by omega) (by omega)
    wtm_at "rs"
    wtm_at "i"
    · wtm_at "rs"
      wtm_at "i"
      · wtm_at "rs"
        exact ⟨_, by omega, μ / 2, _, _, rfl, by rw [show ((μ / 2 : Nat) : Int) = (μ : Int) / 2 by omega]; rfl, rfl, m1 _, m2 _, m1 _, m2 _, pw_odd inv (by omega)⟩
      · wtm_at "rs"
        exact ⟨_, by omega, μ / 2, _, _, rfl, by rw [show ((μ / 2 : Nat) : Int) = (μ : Int) / 2 by omega]; rfl, rfl, r0, r1, m1 _, m2 _, pw_even inv (by omega)⟩
    · rename_i h0
      have e : μ = 0 := by omega
      subst e
      have er := pw_fin (Y := n ^ e0) inv r0 r1
      rw [← er] at eu
      wtm_at "rs"
      by_cases c : r = p - 1
      · rw [if_pos (decide_eq_true c)]
        rw [if_pos c] at eu
        wtm_at "rs"
        rw [eu]
        exact q
      · rw [if_neg (by rw [decide_eq_true_iff]; exact c)]
        rw [if_neg c] at eu
        wtm_at "rs"
        rw [eu]
        exact q
/-! ### law -/
/-- a number of the menus -/
structure M79 (n : Int) : Prop where
  nz : n ≠ 0
  le : n.natAbs ≤ 30
  sm : ∀ q : Int, QR.Pm q → 13 < q → ¬ q ∣ n
theorem m79_of {n : Int} (h0 : n ≠ 0) (h1 : n.natAbs ≤ 30) (h2 : n.natAbs ≠ 17 ∧ n.natAbs ≠ 19 ∧ n.natAbs ≠ 23 ∧ n.natAbs ≠ 29) : M79 n := by
  refine ⟨h0, h1, fun q qp q13 ⟨c, hc⟩ => ?_⟩
  have e2 : q % 2 ≠ 0 := fun z => qp.2 2 (by decide) (by omega) (Int.dvd_of_emod_eq_zero z)
  have e3 : q % 3 ≠ 0 := fun z => qp.2 3 (by decide) (by omega) (Int.dvd_of_emod_eq_zero z)
  have e5 : q % 5 ≠ 0 := fun z => qp.2 5 (by decide) (by omega) (Int.dvd_of_emod_eq_zero z)
  have ab : n.natAbs = q.natAbs * c.natAbs := by rw [hc, Int.natAbs_mul]
  have c0 : c ≠ 0 := fun z => h0 (by rw [hc, z]; simp)
  have cl : c.natAbs ≤ 2 := by
    rcases Nat.lt_or_ge 2 c.natAbs with z | z
    · have := Nat.mul_le_mul (show 14 ≤ q.natAbs by omega) (show 3 ≤ c.natAbs by omega)
      omega
    · exact z
  have c12 : c.natAbs = 1 ∨ c.natAbs = 2 := by omega
  have f : ∀ k : Fin 17, ((14 + k.val) % 2 = 0 ∨ (14 + k.val) % 3 = 0 ∨ (14 + k.val) % 5 = 0) ∨ 14 + k.val = 17 ∨ 14 + k.val = 19 ∨ 14 + k.val = 23 ∨ 14 + k.val = 29 := by decide
  have q30 : q.natAbs ≤ 30 := by rcases c12 with z | z <;> rw [z] at ab <;> omega
  have := f ⟨q.natAbs - 14, by omega⟩
  simp only at this
  rcases c12 with z | z <;> rw [z] at ab <;> omega
def menuA : List Int := [-1, 2, -2, 3, -3, 6, 5, -5, 12, 15, -15, 4, 8, 10, 1, 18, -9, 30]
def menuB : List Int := [7, -7, 11, -11, 13, -13, 14, 22, 26, -14, -22, -26, 28, -1, 2, 1, 21, -21]
theorem menu_ok : ∀ n ∈ menuA ++ menuB, M79 n := by
  have : ∀ n ∈ menuA ++ menuB, n ≠ 0 ∧ n.natAbs ≤ 30 ∧ (n.natAbs ≠ 17 ∧ n.natAbs ≠ 19 ∧ n.natAbs ≠ 23 ∧ n.natAbs ≠ 29) := by decide
  exact fun n h => m79_of (this n h).1 (this n h).2.1 (this n h).2.2
open Classical in
noncomputable def coreF (m : Int) : Int := if h : ∃ s r, CoreOk m s r then h.choose else 1
theorem coreF_ok {m : Int} (h : m ≠ 0) : ∃ r, CoreOk m (coreF m) r := by
  have e := exists_core h
  unfold coreF
  rw [dif_pos e]
  exact e.choose_spec
theorem core_le {m s r : Int} (h : CoreOk m s r) : s.natAbs ≤ m.natAbs := by
  have h1 := h.pos
  have e : s.natAbs * r.natAbs * r.natAbs = m.natAbs := by rw [← h.prod, Int.natAbs_mul, Int.natAbs_mul]
  rw [← e, Nat.mul_assoc]
  have r1 : 1 ≤ r.natAbs := by omega
  have := Nat.mul_le_mul (Nat.le_refl s.natAbs) (Nat.mul_le_mul r1 r1)
  omega
theorem big_no {n x : Int} (h : M79 n) (hx : Fr x) : ∀ q : Int, QR.Pm q → 13 < q → ¬ q * q ∣ n * x := fun q qp q13 z => by
  have nq := h.sm q qp q13
  obtain ⟨y, rfl⟩ := (qp.dvd_mul (Int.dvd_trans ⟨q, rfl⟩ z)).resolve_left nq
  have z2 : q ∣ n * y := by
    obtain ⟨c, hc⟩ := z
    refine ⟨c, Int.eq_of_mul_eq_mul_left (show q ≠ 0 by omega) ?_⟩
    have e : q * (n * y) = n * (q * y) := by grind
    rw [e, hc, Int.mul_assoc]
  obtain ⟨u, rfl⟩ := (qp.dvd_mul z2).resolve_left nq
  exact hx.2 q (by omega) ⟨u, by grind⟩
theorem freeN_le (ns : List Int) : freeN ns ≤ 2 ^ ns.length := by
  rw [← rowsP_len]
  exact List.length_filter_le ..
theorem rd_forC {lo c : Int} {n : Nat} {g : TG} {t : TS} {nx : L2.St → Hp → Prop} {rt : VK} {σ : L2.St} {H : Hp} (Pv : Nat → L2.St → Hp → Prop) (h0 : Pv 0 σ H)
    (hs : ∀ i σ H, i < n → Pv i σ H → g (.int (lo + (i : Nat) * c)) σ H fun σ2 H2 => t ⟨Pv (i + 1), rt, nx, Pv (i + 1)⟩ σ2 H2) (hd : ∀ σ H, Pv n σ H → nx σ H) : fBody (Itc lo c n) g t nx rt σ H :=
  for_rangeC (D := ⟨nx, rt, fun _ _ => False, fun _ _ => False⟩) Pv h0 hs hd
theorem mp_sgn {p : Int} (hp : QR.OP p) : ∀ {m : List Bool} {ns : List Int}, mp m (ns.map fun n => sgn n p) = sgn (mp m ns) p
  | true :: m, x :: xs => by
    show sgn x p * mp m (xs.map fun n => sgn n p) = sgn (x * mp m xs) p
    rw [mp_sgn hp, sgn_mul (by have := hp.three; omega) hp.2]
  | false :: m, _ :: xs => mp_sgn hp (m := m) (ns := xs)
  | [], [] => by
    show (1 : Int) = sgn 1 p
    rw [sgn_one1 (by have := hp.three; omega) hp.2]
  | [], _ :: _ => by
    show (1 : Int) = sgn 1 p
    rw [sgn_one1 (by have := hp.three; omega) hp.2]
  | true :: _, [] => by
    show (1 : Int) = sgn 1 p
    rw [sgn_one1 (by have := hp.three; omega) hp.2]
  | false :: _, [] => by
    show (1 : Int) = sgn 1 p
    rw [sgn_one1 (by have := hp.three; omega) hp.2]
theorem mem_freeL {ns r : List Int} : r ∈ freeL ns ↔ (r.length = ns.length ∧ Pm1 r) ∧ ¬ Bar ns r := by
  unfold freeL
  rw [List.mem_filter, rowsP_ok, decide_eq_true_iff]
theorem sgn_free {p : Int} (hp : QR.OP p) {ns : List Int} (h0 : (0 : Int) ∉ ns.map fun n => sgn n p) : (ns.map fun n => sgn n p) ∈ freeL ns := by
  refine mem_freeL.mpr ⟨⟨List.length_map .., fun s hs => ?_⟩, ?_⟩
  · obtain ⟨n, hn, rfl⟩ := List.mem_map.mp hs
    by_cases h : n % p = 0
    · exact (h0 (List.mem_map.mpr ⟨n, hn, sgn_at0 hp h⟩)).elim
    · exact sgn_away hp h
  · rintro ⟨m, l, e, r, hr⟩
    rw [mp_sgn hp, hr, sgn_mul (by have := hp.three; omega) hp.2, sgn_sq (by have := hp.three; omega) hp.2] at e
    split at e <;> cases e
theorem free_ne {ns sp : List Int} (h : SpanOk ns sp) : 1 ≤ (freeL ns).length := by
  obtain ⟨x, hx, _⟩ := h.all (List.replicate ns.length false) (List.length_replicate ..)
  rw [show (freeL ns).length = sp.length from h.len.symm]
  exact List.length_pos_of_mem hx
theorem rowsZ_pick {p : Addr} {H : Hp} {as : List Addr} {rs : List (List Int)} (rz : RowsZ p H as rs) {d : Int} (h : 1 ≤ rs.length) : ∃ t r, atI (as.map V.ref) (d % (as.length : Int)) = some (.ref t) ∧ r ∈ rs ∧ H t = some (.lst (r.map V.int)) := by
  have al := rz.len
  have m0 := Int.emod_nonneg d (show (as.length : Int) ≠ 0 by omega)
  have m1 := Int.emod_lt_of_pos d (show (0 : Int) < as.length by omega)
  obtain ⟨k, hk⟩ : ∃ k : Nat, d % (as.length : Int) = k := ⟨(d % (as.length : Int)).toNat, by omega⟩
  rw [hk] at m0 m1 ⊢
  have hv : (as.map V.ref)[k]? = some (.ref as[k]) := by simp [List.getElem?_eq_getElem (show k < as.length by omega)]
  obtain ⟨t, r, e1, _, e2, _, e3⟩ := rz.at hv
  exact ⟨t, r, atI_nat (hv.trans (congrArg some e1)), List.mem_of_getElem? e2, e3⟩
theorem ok_law {f : Addr} {fd : FuncData} (F : Fun K "law" "law" s_law f fd) (T : Txt K mg Ad) : FnOk P w K mg base (L2.CX P w) 14 f fd ["_law_script"] (spLaw K) := by
  refine F.okX sc_law (fun vs H Q E h => ?_) (fun cdv A outer s H vs Q E hr h => ?_)
  · obtain ⟨a, ns, rfl, _⟩ := h
    rfl
  · obtain ⟨a, ns, rfl, hS, hlen, nt, kq⟩ := h
    refine ⟨_, (pss_cons (ps_set (i := 1) sc_law.nd rfl (Or.inl rfl) (pe_d (ok_law_draws T) (hr.mono (by decide)) (passes_call (takes_of rfl rfl rfl rfl) (fun _ _ _ _ h => h)) (pa_cons (pe_d (ok_law_cell T) (hr.mono (by decide)) (passes_call (takes_of rfl rfl rfl rfl) (fun _ _ _ _ h => h)) (pa_cons (pv 0) (pa_cons pe_int pa_nil))) (pa_cons (pe_lst (pa_cons pe_int (pa_cons pe_int (pa_cons pe_int pa_nil)))) pa_nil))))
      (pss_cons (ps_set (i := 2) sc_law.nd rfl (Or.inr rfl) (pe_lst (pa_cons (pe_un un_neg pe_int) (pa_cons pe_int (pa_cons (pe_un un_neg pe_int) (pa_cons pe_int (pa_cons (pe_un un_neg pe_int) (pa_cons pe_int (pa_cons pe_int (pa_cons (pe_un un_neg pe_int) (pa_cons pe_int (pa_cons pe_int (pa_cons (pe_un un_neg pe_int) (pa_cons pe_int (pa_cons pe_int (pa_cons pe_int (pa_cons pe_int (pa_cons pe_int (pa_cons (pe_un un_neg pe_int) (pa_cons pe_int pa_nil))))))))))))))))))))
      (pss_cons (ps_set (i := 3) sc_law.nd rfl (Or.inl rfl) (pe_d (ok_law_draws T) (hr.mono (by decide)) (passes_call (takes_of rfl rfl rfl rfl) (fun _ _ _ _ h => h)) (pa_cons (pe_d (ok_law_cell T) (hr.mono (by decide)) (passes_call (takes_of rfl rfl rfl rfl) (fun _ _ _ _ h => h)) (pa_cons (pv 0) (pa_cons pe_int pa_nil))) (pa_cons (pe_op op_cat (pe_op op_rep (pe_lst (pa_cons pe_int pa_nil)) pe_int) (pe_lst (pa_cons pe_int pa_nil))) pa_nil))))
      (C8.pss_cut (ps_if (pt_cmpR op_eq (pe_ix ix_list (pv 3) pe_int (fun _ _ => rfl)) pe_int (nomark _)) (pss_one (ps_set (i := 2) sc_law.nd rfl (Or.inr rfl) (pe_lst (pa_cons pe_int (pa_cons (pe_un un_neg pe_int) (pa_cons pe_int (pa_cons (pe_un un_neg pe_int) (pa_cons pe_int (pa_cons (pe_un un_neg pe_int) (pa_cons pe_int (pa_cons pe_int (pa_cons pe_int (pa_cons (pe_un un_neg pe_int) (pa_cons (pe_un un_neg pe_int) (pa_cons (pe_un un_neg pe_int) (pa_cons pe_int (pa_cons (pe_un un_neg pe_int) (pa_cons pe_int (pa_cons pe_int (pa_cons pe_int (pa_cons (pe_un un_neg pe_int) pa_nil))))))))))))))))))))) pss_nil)
      (pss_cons (ps_set (i := 4) sc_law.nd rfl (Or.inr rfl) (pe_lc (own := [("_law_k", 12)])  (te := (tOp (rIxL K) (tVar 2) (tVar 12))) rfl sc_law.nd  (pi_list (pe_slice sl_list (pv 3) po_none (po_some (pe_op op_add pe_int (pe_ix ix_list (pv 1) pe_int (fun _ _ => rfl)))))) (blkOk_by (own := [("_law_k", 12)]) (N := ["_law_script", "_law_head", "_law_menu", "_law_drawn", "_law_numbers", "_law_told", "_law_span", "_law_n", "_law_p", "_law_signs", "_law_first", "_law_second", "_law_k", "_law_row", "_law_s", "_law_t", "_law_other"]) (sc := defScope s_law) (by decide +kernel)) (fun _ _ _ _ _ => (pg_name (i := 12) sc_law.nd rfl (Or.inl rfl))) (fun _ _ _ _ _ => pts_nil) (fun _ _ _ _ _ => (pe_ix ix_list (pv 2) (pv 12) (fun _ _ => rfl)))))
      (pss_cons (ps_set (i := 5) sc_law.nd rfl (Or.inl rfl) (pe_d (ok_law_asked T) (hr.mono (by decide)) (passes_call (takes_of rfl rfl rfl rfl) (fun _ _ _ _ h => h)) (pa_cons (pv 4) pa_nil)))
      (pss_cons (ps_if (pt_cmpR (op_neD hr.units) (pv 5) (pe_lc (own := [("_law_row", 13)])  (te := (tVar 13)) (tt := (tTest (tOp (fun (x y : V) (H : Hp) (Q : VK) => y = V.non ∧ Q (V.bl (decide (x = V.non))) H) (tCall ((spBarred K)) [] E0 (tCons (tVar 4) (tCons (tVar 13) tNil))) (tC .non)))) rfl sc_law.nd  (pi_list (pe_d (ok_law_all T) (hr.mono (by decide)) (passes_call (takes_of rfl rfl rfl rfl) (fun _ _ _ _ h => h)) (pa_cons (pe_callB c_len (by rfl) T.b_len PySem.boot_len (pa_cons (pv 4) pa_nil)) pa_nil))) (blkOk_by (own := [("_law_row", 13)]) (N := ["_law_script", "_law_head", "_law_menu", "_law_drawn", "_law_numbers", "_law_told", "_law_span", "_law_n", "_law_p", "_law_signs", "_law_first", "_law_second", "_law_k", "_law_row", "_law_s", "_law_t", "_law_other"]) (sc := defScope s_law) (by decide +kernel)) (fun _ _ _ _ _ => (pg_name (i := 13) sc_law.nd rfl (Or.inl rfl))) (fun _ _ _ _ _ => (pts_one (pt_cmpR op_isN (pe_d (E := E0) (ok_barred T) (hr.mono (by decide)) passL (pa_cons (pv 4) (pa_cons (pv 13) pa_nil))) pe_non (nomark _)))) (fun _ _ _ _ _ => (pv 13))) (nomark _)) (pss_one (ps_ret pe_bl)) pss_nil)
      (pss_cons (ps_set (i := 6) sc_law.nd rfl (Or.inl rfl) (pe_lst (pa_cons pe_int pa_nil)))
      (pss_cons (ps_for (passes_of rfl) rfl (pi_list (pv 4)) (pg_name (i := 7) sc_law.nd rfl (Or.inr rfl)) (pss_one (ps_if (pt_cmpR op_notIn_seq (pe_d (ok_law_free T) (hr.mono (by decide)) (passes_call (takes_of rfl rfl rfl rfl) (fun _ _ _ _ h => h)) (pa_cons (pv 7) pa_nil)) (pv 6) (by rfl)) (pss_one (ps_set (i := 6) sc_law.nd rfl (Or.inl rfl) (pe_op op_cat (pv 6) (pe_lc (own := [("_law_other", 16)])  (te := (tCall (spFree79) [] E0 (tCons (tOp (rI CMulB fun i j => .int (i * j)) (tVar 7) (tVar 16)) tNil))) rfl sc_law.nd  (pi_list (pv 6)) (blkOk_by (own := [("_law_other", 16)]) (N := ["_law_script", "_law_head", "_law_menu", "_law_drawn", "_law_numbers", "_law_told", "_law_span", "_law_n", "_law_p", "_law_signs", "_law_first", "_law_second", "_law_k", "_law_row", "_law_s", "_law_t", "_law_other"]) (sc := defScope s_law) (by decide +kernel)) (fun _ _ _ _ _ => (pg_name (i := 16) sc_law.nd rfl (Or.inl rfl))) (fun _ _ _ _ _ => pts_nil) (fun _ _ _ _ _ => (pe_d (E := E0) (ok_law_free T) (hr.mono (by decide)) passL (pa_cons (pe_op op_mulB (pv 7) (pv 16)) pa_nil))))))) pss_nil)))
      (pss_cons (ps_if (pt_cmpR op_ne (pe_callB c_len (by rfl) T.b_len PySem.boot_len (pa_cons (pv 5) pa_nil)) (pe_callB c_len (by rfl) T.b_len PySem.boot_len (pa_cons (pv 6) pa_nil)) (nomark _)) (pss_one (ps_ret pe_bl)) pss_nil)
      (pss_cons (ps_for (passes_of rfl) rfl (pi_range3 (by rfl) T.b_range (pa_cons pe_int (pa_cons pe_int (pa_cons pe_int pa_nil)))) (pg_name (i := 8) sc_law.nd rfl (Or.inr rfl)) (pss_one (ps_if (pt_val (pe_d (ok_law_is_prime T) (hr.mono (by decide)) (passes_call (takes_of rfl rfl rfl rfl) (fun _ _ _ _ h => h)) (pa_cons (pv 8) pa_nil))) (pss_cons (ps_setLc (i := 9) (own := [("_law_n", 7)])  (te := (tCall (spLSgn) [] E0 (tCons (tVar 7) (tCons (tVar 8) tNil)))) rfl sc_law.nd rfl rfl (sw_true rfl rfl rfl (by decide +kernel)) (pi_list (pv 4)) (blkOk_by (own := [("_law_n", 7)]) (N := ["_law_script", "_law_head", "_law_menu", "_law_drawn", "_law_numbers", "_law_told", "_law_span", "_law_n", "_law_p", "_law_signs", "_law_first", "_law_second", "_law_k", "_law_row", "_law_s", "_law_t", "_law_other"]) (sc := defScope s_law) (by decide +kernel)) (fun _ _ _ _ _ => (pg_name (i := 7) sc_law.nd rfl (Or.inl rfl))) (fun _ _ _ _ _ => pts_nil) (fun _ _ _ _ _ => (pe_d (E := E0) (ok_law_sign T) (hr.mono (by decide)) passL (pa_cons (pv 7) (pa_cons (pv 8) pa_nil)))))
      (pss_one (ps_if (PW.pt (pw_and (pt_cmpR op_notIn_seq pe_int (pv 9) (by rfl)) (pw_and1 (pt_cmpR (op_notInD (room65 hr)) (pv 9) (pv 5) (by rfl))))) (pss_one (ps_ret pe_bl)) pss_nil))) pss_nil)))
      (pss_cons (ps_set (i := 10) sc_law.nd rfl (Or.inl rfl) (pe_ix ix_list (pv 5) (pe_op op_mod (pe_ix ix_list (pv 1) pe_int (fun _ _ => rfl)) (pe_callB c_len (by rfl) T.b_len PySem.boot_len (pa_cons (pv 5) pa_nil))) (fun _ _ => rfl)))
      (pss_cons (ps_set (i := 11) sc_law.nd rfl (Or.inl rfl) (pe_ix ix_list (pv 5) (pe_op op_mod (pe_ix ix_list (pv 1) pe_int (fun _ _ => rfl)) (pe_callB c_len (by rfl) T.b_len PySem.boot_len (pa_cons (pv 5) pa_nil))) (fun _ _ => rfl)))
      (pss_cons (ps_if (pt_cmpR (op_notInD (room65 hr)) (pe_lc (own := [("_law_s", 14), ("_law_t", 15)])  (g := (gTup K 2 (gCons (gName 14) (gCons (gName 15) gNil)))) (te := (tOp (rI CMulB fun i j => .int (i * j)) (tVar 14) (tVar 15))) rfl sc_law.nd  (pi_list (pe_listZip rfl (by rfl) T.b_list (by rfl) T.b_zip (pa_cons (pv 10) (pa_cons (pv 11) pa_nil)))) (blkOk_by (own := [("_law_s", 14), ("_law_t", 15)]) (N := ["_law_script", "_law_head", "_law_menu", "_law_drawn", "_law_numbers", "_law_told", "_law_span", "_law_n", "_law_p", "_law_signs", "_law_first", "_law_second", "_law_k", "_law_row", "_law_s", "_law_t", "_law_other"]) (sc := defScope s_law) (by decide +kernel)) (fun _ _ _ _ _ => (pg_tup rfl (pgs_cons (pg_name (i := 14) sc_law.nd rfl (Or.inl rfl)) (pgs_cons (pg_name (i := 15) sc_law.nd rfl (Or.inl rfl)) pgs_nil)))) (fun _ _ _ _ _ => pts_nil) (fun _ _ _ _ _ => (pe_op op_mulB (pv 14) (pv 15)))) (pv 5) (by rfl)) (pss_one (ps_ret pe_bl)) pss_nil)
      (pss_cons (ps_expr (pe_bm PySem.F.plainAttrs_list PySem.F.slot_list_append PySem.F.type_list_append mt_append (pv 5) (pa_cons (pe_lst (pa_cons pe_int pa_nil)) pa_nil)))
      (pss_one (ps_ret (pe_cmpR op_eq (pe_callB c_len (by rfl) T.b_len PySem.boot_len (pa_cons (pe_d (ok_law_asked T) (hr.mono (by decide)) (passes_call (takes_of rfl rfl rfl rfl) (fun _ _ _ _ h => h)) (pa_cons (pv 4) pa_nil)) pa_nil)) (pe_callB c_len (by rfl) T.b_len PySem.boot_len (pa_cons (pv 6) pa_nil)) (nomark _))))))))))))))))))), ?_⟩
    try dsimp only [cxOf]
    have B := Hv.start nt
    wtm_at "rs"
    rename_i D0 hD0
    replace B := B.newL (o := .lst (([5, 997, 997] : List Int).map V.int)) hD0
    refine use_draws (ss := [5, 997, 997]) (SqL.of upd_same) (by decide) (by decide) (by wtm_at "nt") fun D ds H1 sm1 nt1 hDn hD dok => ?_
    obtain ⟨d0, ds, rfl, d00, d01, dok⟩ := dok.cons_inv
    obtain ⟨d1, ds, rfl, d10, d11, dok⟩ := dok.cons_inv
    obtain ⟨d2, ds, rfl, d20, d21, dok⟩ := dok.cons_inv
    cases dok.nil_inv
    replace hD : H1 D = some (.lst [.int d0, .int d1, .int d2]) := hD
    replace B := (B.got sm1 nt1 hDn hD).sub (L' := [(D, .lst [.int d0, .int d1, .int d2])]) (by wtm_at "vsub") (by wtm_at "vsub")
    clear dok sm1 nt1 hDn hD hD0
    refine B.gen fun G B => ?_
    wtm_at "rs"
    rename_i M hM R hR
    replace B := (B.newL (o := .lst (menuA.map V.int)) hM).newL (o := .lst [.int 18]) hR
    clear hM
    refine ⟨R, 5, [.int 18], rfl, rfl, upd_same, by decide, by decide, by decide, fun R2 hR2 => ?_⟩
    wtm_at "rs"
    rename_i R3 hR3 R4 hR4
    replace B := ((B.newL (o := .lst ([18, 18, 18, 18, 18].map V.int)) hR2).newL (o := .lst [.int 3]) hR3).newL (o := .lst (([18, 18, 18, 18, 18, 3] : List Int).map V.int)) hR4
    refine use_draws (ss := [18, 18, 18, 18, 18, 3]) (SqL.of upd_same) (by decide) (by decide) B.nt fun D2 ds H1 sm1 nt1 hDn hD dok => ?_
    obtain ⟨e0, ds, rfl, e00, e01, dok⟩ := dok.cons_inv
    obtain ⟨e1, ds, rfl, e10, e11, dok⟩ := dok.cons_inv
    obtain ⟨e2, ds, rfl, e20, e21, dok⟩ := dok.cons_inv
    obtain ⟨e3, ds, rfl, e30, e31, dok⟩ := dok.cons_inv
    obtain ⟨e4, ds, rfl, e40, e41, dok⟩ := dok.cons_inv
    obtain ⟨e5, ds, rfl, e50, e51, dok⟩ := dok.cons_inv
    cases dok.nil_inv
    replace hD : H1 D2 = some (.lst ([e0, e1, e2, e3, e4, e5].map V.int)) := hD
    replace B := (B.got sm1 nt1 hDn hD).sub (L' := [(D2, .lst ([e0, e1, e2, e3, e4, e5].map V.int)), (M, .lst (menuA.map V.int)), (D, .lst [.int d0, .int d1, .int d2])]) (by wtm_at "vsub") (by wtm_at "vsub")
    clear dok sm1 nt1 hDn hD hR hR2 hR3 hR4
    refine B.gen fun G B => ?_
    refine rd_cut (fun σ2 G2 => ∃ (M2 : Addr) (mn : List Int), σ2 = [some (.ref a), some (.ref D), some (.ref M2), some (.ref D2), none, none, none, none, none, none, none, none, none, none, none, none, none] ∧ Hv noX H [] [(M2, .lst (mn.map V.int)), (D2, .lst ([e0, e1, e2, e3, e4, e5].map V.int)), (D, .lst [.int d0, .int d1, .int d2])] [] G2 ∧ mn.length = 18 ∧ ∀ n ∈ mn, M79 n) ?_ ?_
    · wtm_at "rs"
      by_cases z : e5 = 0
      · refine rd_eqT z ?_
        wtm_at "rs"
        rename_i M2 hM2
        replace B := B.newL (o := .lst (menuB.map V.int)) hM2
        exact ⟨M2, menuB, rfl, B.sub (by wtm_at "vsub") (by wtm_at "vsub"), rfl, fun n h => menu_ok n (List.mem_append_right _ h)⟩
      · refine rd_eqF z ?_
        wtm_at "rs"
        exact ⟨M, menuA, rfl, B.sub (by wtm_at "vsub") (by wtm_at "vsub"), rfl, fun n h => menu_ok n (List.mem_append_left _ h)⟩
    rintro σ2 G2 ⟨M2, mn, rfl, B, ml, mok⟩
    wtm_at "rs"
    rename_i S hS
    obtain ⟨ks, eks, hks⟩ := cut_map (f := V.int) (l := [e0, e1, e2, e3, e4, e5]) (lo := none) (hi := some (1 + d0))
    have kl : ks.length = min (1 + d0).toNat 6 := by
      rw [← List.length_map (f := V.int), ← eks, cut_hi (by omega)]
      rfl
    have kb : ∀ k ∈ ks, 0 ≤ k ∧ k < 18 := fun k hk => by
      have := hks k hk
      simp only [List.mem_cons, List.not_mem_nil, or_false] at this
      omega
    replace B := B.newL (o := .lst (cutV (List.map V.int [e0, e1, e2, e3, e4, e5]) none (some (1 + d0)))) hS
    have hM2 := B.lAt (a := M2) (by wtm_at "mem")
    refine rd_lcI (ns := ks) (fun _ => true) (fun k => .int (mn.getD k.toNat 1)) (by rw [eks]; exact SqL.of upd_same) (fun D l x r hD e => ?_) fun N hN => ?_
    · have xb := kb x (by rw [e]; simp)
      have lk : l.length < 6 := by
        have := congrArg List.length e
        rw [List.length_append, List.length_cons] at this
        omega
      wtm_at "r"
      refine ⟨rfl, ?_⟩
      wtm_at "rs"
      refine rd_ixL (SqL.of (same_new hD _ _ hM2)) (atI_D xb.1 (by omega)) ?_
      exact put_I (by omega) rfl rfl
    rw [show ks.filter (fun _ => true) = ks by simp]
    obtain ⟨ns, hns⟩ : ∃ ns, ns = ks.map fun k => mn.getD k.toNat 1 := ⟨_, rfl⟩
    have eN : (ks.map fun k => V.int (mn.getD k.toNat 1)) = ns.map V.int := by rw [hns, List.map_map]; rfl
    rw [eN]
    have nok : ∀ n ∈ ns, M79 n := fun n hn => by
      rw [hns] at hn
      obtain ⟨k, hk, rfl⟩ := List.mem_map.mp hn
      have := kb k hk
      rw [List.getD_eq_getElem?_getD, List.getElem?_eq_getElem (by omega), Option.getD_some]
      exact mok _ (List.getElem_mem _)
    have nl : 1 ≤ ns.length ∧ ns.length ≤ 5 := by rw [hns, List.length_map]; omega
    replace B := (B.newL (o := .lst (ns.map V.int)) hN).sub (L' := [(N, .lst (ns.map V.int)), (D, .lst [.int d0, .int d1, .int d2])]) (by wtm_at "vsub") (by wtm_at "vsub")
    clear hns eN hN hM2 eks hks kl kb mok ml hS
    have nm : Nums ns := ⟨fun n h => (nok n h).nz, fun n h => Nat.le_trans (nok n h).le (by decide), Nat.le_trans nl.2 (by decide)⟩
    refine B.gen fun G B => ?_
    wtm_at "rs"
    have hN0 := B.lAt (a := N) (by wtm_at "mem")
    refine ⟨N, ns, rfl, SqL.of hN0, nm, nl.1, nl.2, B.nt, fun L as G1 Z => ?_⟩
    have NL : N ≠ L := fun e => by
      have := Z.f
      rw [← e, hN0] at this
      cases this
    replace B := B.next Z.s Z.n
    have hl := Z.l
    have rz := Z.r
    clear Z hN0
    wtm_at "rs"
    rw [List.length_map]
    refine ⟨ns.length, rfl, nl.2, B.nt, fun R bs G2 Y => ?_⟩
    replace B := B.next Y.s Y.n
    replace hl := Y.s _ _ hl
    replace rz := rz.mono Y.s
    have yl := Y.l
    have yr := Y.r
    clear Y
    have hN := B.lAt (a := N) (by wtm_at "mem")
    have rl : (rowsP ns.length).length = 2 ^ ns.length := rowsP_len _
    have p2 : 2 ^ ns.length ≤ 2 ^ 5 := Nat.pow_le_pow_right (by decide) nl.2
    have al := yr.len
    wtm_at "rs"
    refine rd_lcPH (xs := bs.map V.ref) (fun D j ys H' => ∃ cs : List Addr, ys = cs.map V.ref ∧ RowsZ D H' cs (((rowsP ns.length).take j).filter fun r => decide (¬ Bar ns r))) (SqL.of yl) B.nt (fun D hD => ⟨[], rfl, trivial⟩) (fun D j ys x H' hx sm n1 hD hys Pz => ?_) fun D4 ys H' hD hys sm n1 Pz => ?_
    · obtain ⟨cs, rfl, rb⟩ := Pz
      obtain ⟨a0, r, rfl, ha0, hr0, _, h0⟩ := yr.at hx
      have j5 := (List.getElem?_eq_some_iff.mp hx).1
      have h1 := sm _ _ h0
      obtain ⟨rlen, rpm⟩ := rowsP_ok.mp (List.mem_of_getElem? hr0)
      have et : ((rowsP ns.length).take (j + 1)).filter (fun r => decide (¬ Bar ns r)) = ((rowsP ns.length).take j).filter (fun r => decide (¬ Bar ns r)) ++ if Bar ns r then [] else [r] := by
        rw [List.take_add_one, hr0, List.filter_append]
        congr 1
        by_cases b : Bar ns r <;> simp [b]
      have a0D : a0 ≠ D := fun z => by rw [z, hD] at h0; cases h0
      have bl : cs.length ≤ j := by
        rw [rb.len]
        refine Nat.le_trans (List.length_filter_le ..) ?_
        rw [List.length_take]
        exact Nat.min_le_left ..
      wtm_at "r"
      refine ⟨rfl, ?_⟩
      wtm_at "rs"
      refine ⟨N, a0, ns, r, rfl, .inl (SqL.of (sm _ _ hN)), SqL.of h1, nm, nl.2, rlen, rpm, n1, fun G2 s2 n2 no => ?_, fun A0 B0 P0 L0 G2 e0 no sh s2 n2 f0 g0 => ?_⟩
      · have nb : ¬ Bar ns r := fun z => by
          obtain ⟨P, c, d, e⟩ := (bar_places rlen).mp z
          exact no P (allP_mem.mpr ⟨c, d⟩) e
        wtm_at "rs"
        have bl2 : (cs.map V.ref).length < sizeLine := by rw [List.length_map]; rw [List.length_map] at j5; exact Nat.lt_of_lt_of_le (show cs.length < 1000 by omega) (by decide)
        rw [et, if_neg nb]
        exact put_PH (P := fun ys H' => ∃ cs : List Addr, ys = cs.map V.ref ∧ RowsZ D H' cs (((rowsP ns.length).take j).filter (fun r => decide (¬ Bar ns r)) ++ [r])) (s2 _ _ hys) bl2 (sm.trans s2) hD n2 ⟨cs ++ [a0], by simp, ((rb.mono s2).but (But.put But.refl)).snoc a0D (by rw [upd_ne a0D]; exact s2 _ _ h1)⟩
      · have nb : Bar ns r := (bar_places rlen).mpr (by
          have := allP_mem.mp (show P0 ∈ allP ns.length by rw [e0]; simp)
          exact ⟨P0, this.1, this.2, sh⟩)
        wtm_at "rs"
        rw [et, if_pos nb, List.append_nil]
        exact ⟨_, s2 _ _ hys, sm.trans s2, n2, cs, rfl, rb.mono s2⟩
    obtain ⟨cs, rfl, rb⟩ := Pz
    rw [List.length_map, al, List.take_length] at rb
    replace B := B.next sm n1
    replace hl := sm _ _ hl
    replace rz := rz.mono sm
    refine rd_neZs (rowsz_dp (SqL.of hl) rz) (rowsz_dp (SqL.of hys) rb) ?_
    rw [show decide (freeL ns = (rowsP ns.length).filter fun r => decide (¬ Bar ns r)) = true from decide_eq_true rfl]
    clear hys rb sm n1 hD hN yl yr al cs D4
    wtm_at "rs"
    rename_i S hS
    replace B := B.newL (o := .lst (([1] : List Int).map V.int)) hS
    replace hl := same_new (o := .lst (([1] : List Int).map V.int)) hS _ _ hl
    replace rz := rz.mono (same_new (o := .lst (([1] : List Int).map V.int)) hS)
    clear hS
    revert hl rz
    refine B.gen fun G B hl rz => ?_
    refine rd_forL (xs := ns.map V.int) (fun i σ G' => ∃ (S : Addr) (sp : List Int) (v7 : Option V), σ = [some (.ref a), some (.ref D), some (.ref M2), some (.ref D2), some (.ref N), some (.ref L), some (.ref S), v7, none, none, none, none, none, none, none, none, none] ∧ Hv noX H [] [(S, .lst (sp.map V.int)), (N, .lst (ns.map V.int)), (D, .lst [.int d0, .int d1, .int d2])] [] G' ∧ G' L = some (.lst (as.map V.ref)) ∧ RowsZ L G' as (freeL ns) ∧ SpanOk (ns.take i) sp ∧ ∀ x ∈ sp, x.natAbs ≤ 30 ^ i) ⟨S, [1], _, rfl, B, hl, rz, SpanOk.nil, fun x hx => by rw [List.mem_singleton.mp hx]; decide⟩ (fun i σ G' _ ⟨S, sp, v7, _, B, _⟩ => SqL.of (B.lAt (a := N) (by wtm_at "mem"))) ?_ ?_
    · clear B hl rz
      rintro i v σ G' hi ⟨S, sp, v7, rfl, B, hl, rz, so, sb⟩
      rw [List.getElem?_map] at hi
      obtain ⟨n, hn, rfl⟩ := Option.map_eq_some_iff.mp hi
      have i5 := (List.getElem?_eq_some_iff.mp hn).1
      have mn := nok n (List.mem_of_getElem? hn)
      have et : ns.take (i + 1) = ns.take i ++ [n] := by rw [List.take_add_one, hn]; rfl
      have z : ∀ x ∈ ns.take i, x ≠ 0 := fun x hx => (nok x (List.mem_of_mem_take hx)).nz
      have p30 : (30 : Nat) ^ i ≤ 30 ^ 4 := Nat.pow_le_pow_right (by decide) (by omega)
      have slen : sp.length ≤ 32 := by
        rw [so.len]
        refine Nat.le_trans (freeN_le _) ?_
        refine Nat.le_trans (Nat.pow_le_pow_right (by decide) (show (ns.take i).length ≤ 5 by rw [List.length_take]; omega)) (by decide)
      obtain ⟨r0, c0⟩ := coreF_ok mn.nz
      have nle := mn.le
      rw [et]
      wtm_at "rs"
      refine use_Free79 mn.nz (by omega) (by omega) c0 (fun q qp q13 y => mn.sm q qp q13 (Int.dvd_trans ⟨q, rfl⟩ y)) B.nt fun G1 s1 n1 => ?_
      replace B := B.next s1 n1
      replace hl := s1 _ _ hl
      replace rz := rz.mono s1
      have hS := B.lAt (a := S) (by wtm_at "mem")
      wtm_at "rs"
      refine rd_ninIs (SqL.of hS) ?_
      wtm_at "rs"
      by_cases d : coreF n ∈ sp
      · refine rd_neF d ?_
        wtm_at "rs"
        exact ⟨S, sp, _, rfl, B, hl, rz, so.stay z mn.nz ((so.dep z mn.nz c0).mp d), fun x hx => Nat.le_trans (sb x hx) (Nat.pow_le_pow_right (by decide) (by omega))⟩
      · refine rd_neT d ?_
        wtm_at "rs"
        refine rd_lcPH (xs := sp.map V.int) (fun D j ys H' => ys = (sp.take j).map fun x => V.int (coreF (n * x))) (SqL.of hS) B.nt (fun D hD => rfl) (fun D j ys x H' hx sm n1 hD hys Pz => ?_) fun D5 ys H' hD hys sm n1 Pz => ?_
        · rw [List.getElem?_map] at hx
          obtain ⟨x, hx2, rfl⟩ := Option.map_eq_some_iff.mp hx
          have xm := List.mem_of_getElem? hx2
          have xf := (so.fr x xm).1
          have xb : x.natAbs ≤ 30 ^ 4 := Nat.le_trans (sb x xm) p30
          have m1 : (n * x).natAbs ≤ 30 * 30 ^ 4 := by rw [Int.natAbs_mul]; exact Nat.mul_le_mul nle xb
          obtain ⟨r1, c1⟩ := coreF_ok (Int.mul_ne_zero mn.nz xf.1)
          have sl : ((sp.take j).map fun x => V.int (coreF (n * x))).length < sizeLine := by
            rw [List.length_map, List.length_take]
            exact Nat.lt_of_lt_of_le (show min j sp.length < 100 by omega) (by decide)
          subst Pz
          wtm_at "r"
          refine ⟨rfl, ?_⟩
          wtm_at "rs"
          refine use_Free79 (Int.mul_ne_zero mn.nz xf.1) (by omega) (by omega) c1 (big_no mn xf) n1 fun G3 s3 n3 => ?_
          refine put_PH (P := fun ys _ => ys = (sp.take (j + 1)).map fun x => V.int (coreF (n * x))) (s3 _ _ hys) sl (sm.trans s3) hD n3 ?_
          rw [List.take_add_one, hx2, List.map_append]
          rfl
        · subst Pz
          rw [List.length_map, List.take_length] at hys
          have s5 := sm
          replace B := B.next sm n1
          replace hl := sm _ _ hl
          replace rz := rz.mono sm
          refine rd_cat (B.lAt (a := S) (by wtm_at "mem")) hys (Nat.le_trans (show _ ≤ 100 by rw [List.length_map, List.length_map]; omega) (by decide)) fun S2 hS2 => ?_
          have e2 : sp.map V.int ++ (sp.map fun x => V.int (coreF (n * x))) = (sp ++ sp.map fun x => coreF (n * x)).map V.int := by rw [List.map_append, List.map_map]; rfl
          rw [e2]
          replace hl := same_new (o := .lst ((sp ++ sp.map fun x => coreF (n * x)).map V.int)) hS2 _ _ hl
          replace rz := rz.mono (same_new (o := .lst ((sp ++ sp.map fun x => coreF (n * x)).map V.int)) hS2)
          replace B := (B.newL (o := .lst ((sp ++ sp.map fun x => coreF (n * x)).map V.int)) hS2).sub (L' := [(S2, .lst ((sp ++ sp.map fun x => coreF (n * x)).map V.int)), (N, .lst (ns.map V.int)), (D, .lst [.int d0, .int d1, .int d2])]) (by wtm_at "vsub") (by wtm_at "vsub")
          wtm_at "rs"
          refine ⟨S2, sp ++ sp.map fun x => coreF (n * x), _, rfl, B, hl, rz, so.grow z mn.nz (fun y => d ((so.dep z mn.nz c0).mpr y)) fun x hx => coreF_ok (Int.mul_ne_zero mn.nz (so.fr x hx).1.1), fun x hx => ?_⟩
          rcases List.mem_append.mp hx with h | h
          · exact Nat.le_trans (sb x h) (Nat.pow_le_pow_right (by decide) (by omega))
          · obtain ⟨y, hy, rfl⟩ := List.mem_map.mp h
            obtain ⟨r2, c2⟩ := coreF_ok (Int.mul_ne_zero mn.nz (so.fr y hy).1.1)
            refine Nat.le_trans (core_le c2) ?_
            rw [Int.natAbs_mul, Nat.pow_succ, Nat.mul_comm]
            exact Nat.mul_le_mul (sb y hy) nle
    · clear B hl rz
      rintro σ G ⟨S, sp, v7, rfl, B, hl, rz, so, sb⟩
      rw [List.length_map, List.take_length] at so
      have fl : (freeL ns).length = sp.length := so.len.symm
      have slen : sp.length ≤ 32 := by
        rw [so.len]
        exact Nat.le_trans (freeN_le _) (Nat.le_trans (Nat.pow_le_pow_right (by decide) nl.2) (by decide))
      have al := rz.len
      wtm_at "rs"
      refine rd_neF (by rw [List.length_map, List.length_map, al, fl]) ?_
      wtm_at "rs"
      refine rd_r3 (n := 149) ⟨by decide, by decide, by decide, by decide⟩ ?_
      refine rd_forC (fun i σ G' => ∃ v7 v8 v9 : Option V, σ = [some (.ref a), some (.ref D), some (.ref M2), some (.ref D2), some (.ref N), some (.ref L), some (.ref S), v7, v8, v9, none, none, none, none, none, none, none] ∧ Hv noX H [] [(S, .lst (sp.map V.int)), (N, .lst (ns.map V.int)), (D, .lst [.int d0, .int d1, .int d2])] [] G' ∧ G' L = some (.lst (as.map V.ref)) ∧ RowsZ L G' as (freeL ns)) ⟨_, _, _, rfl, B, hl, rz⟩ ?_ ?_
      · clear B hl rz
        rintro i σ G i1 ⟨v7, v8, v9, rfl, B, hl, rz⟩
        wtm_at "rs"
        by_cases op : QR.OP (3 + (i : Int) * 2)
        · rw [if_pos (decide_eq_true op)]
          have pb : 3 + (i : Int) * 2 < 2 ^ 100 := by omega
          generalize 3 + (i : Int) * 2 = p at op pb
          have hN := B.lAt (a := N) (by wtm_at "mem")
          wtm_at "rs"
          refine rd_lcI (ns := ns) (fun _ => true) (fun n => .int (sgn n p)) (SqL.of hN) (fun D l x r hD e => ?_) fun D6 hD6 => ?_
          · have lk : l.length < 6 := by
              have := congrArg List.length e
              rw [List.length_append, List.length_cons] at this
              omega
            wtm_at "r"
            refine ⟨rfl, ?_⟩
            wtm_at "rs"
            refine use_LSgn op pb ?_
            exact put_I (by omega) rfl rfl
          rw [show ns.filter (fun _ => true) = ns by simp]
          have e6 : (ns.map fun n => V.int (sgn n p)) = (ns.map fun n => sgn n p).map V.int := by rw [List.map_map]; rfl
          rw [e6]
          have s6 := same_new (o := .lst ((ns.map fun n => sgn n p).map V.int)) hD6
          replace B := B.next s6 (NoT.upd B.nt rfl)
          replace hl := s6 _ _ hl
          replace rz := rz.mono s6
          have h6 : upd G D6 (.lst ((ns.map fun n => sgn n p).map V.int)) D6 = some (.lst ((ns.map fun n => sgn n p).map V.int)) := upd_same
          wtm_at "rs"
          refine rd_ninIs (SqL.of h6) ?_
          wtm_at "rs"
          by_cases z0 : (0 : Int) ∈ ns.map fun n => sgn n p
          · refine rd_neF z0 ?_
            wtm_at "rs"
            exact ⟨_, _, _, rfl, B, hl, rz⟩
          · refine rd_neT z0 ?_
            wtm_at "rs"
            refine rd_ninZ (SqL.of hl) rz (SqL.of h6) ?_
            rw [decide_eq_true (sgn_free op z0)]
            wtm_at "rs"
            exact ⟨_, _, _, rfl, B, hl, rz⟩
        · rw [if_neg (by rw [decide_eq_true_iff]; exact op)]
          exact ⟨_, _, _, rfl, B, hl, rz⟩
      · clear B hl rz
        rintro σ G ⟨v7, v8, v9, rfl, B, hl, rz⟩
        have ne := free_ne so
        wtm_at "rs"
        · rw [List.length_map]
          omega
        rw [List.length_map]
        obtain ⟨t1, r1, at1, m1, h1⟩ := rowsZ_pick rz (d := d1) ne
        refine rd_ixL (SqL.of hl) at1 ?_
        wtm_at "rs"
        · rw [List.length_map]
          omega
        rw [List.length_map]
        obtain ⟨t2, r2, at2, m2, h2⟩ := rowsZ_pick rz (d := d2) ne
        refine rd_ixL (SqL.of hl) at2 ?_
        obtain ⟨⟨l1, p1⟩, b1⟩ := mem_freeL.mp m1
        obtain ⟨⟨l2, p2⟩, b2⟩ := mem_freeL.mp m2
        wtm_at "rs"
        refine rd_listZip (SqL.of h1) (SqL.of h2) (by rw [List.length_map]; omega) fun Z Ts G7 s7 n7 fZ hZ pr tz => ?_
        have n7 := n7 B.nt
        replace B := B.next s7 n7
        replace hl := s7 _ _ hl
        replace rz := rz.mono s7
        have zl := pr.len
        rw [List.length_zip, List.length_map, List.length_map] at zl
        clear h1 h2 at1 at2
        wtm_at "rs"
        refine rd_lcPH (xs := Ts.map V.ref) (fun D j ys H' => ys = ((List.zipWith (· * ·) r1 r2).take j).map V.int) (SqL.of hZ) n7 (fun D hD => rfl) (fun D j ys x H' hx sm n1 hD hys Pz => ?_) fun D8 ys H' hD hys sm n1 Pz => ?_
        · obtain ⟨t, ⟨v1, v2⟩, rfl, ht, hq, h3⟩ := pr.at hx
          obtain ⟨x1, x2⟩ := List.getElem?_zip_eq_some.mp hq
          rw [List.getElem?_map] at x1 x2
          obtain ⟨y1, hy1, rfl⟩ := Option.map_eq_some_iff.mp x1
          obtain ⟨y2, hy2, rfl⟩ := Option.map_eq_some_iff.mp x2
          have j5 := (List.getElem?_eq_some_iff.mp hy1).1
          have q1 := p1 y1 (List.mem_of_getElem? hy1)
          have q2 := p2 y2 (List.mem_of_getElem? hy2)
          have h4 := sm _ _ h3
          have sl : (((List.zipWith (· * ·) r1 r2).take j).map V.int).length < sizeLine := by
            rw [List.length_map, List.length_take]
            exact Nat.lt_of_lt_of_le (show min j (List.zipWith (· * ·) r1 r2).length < 100 by rw [List.length_zipWith]; omega) (by decide)
          subst Pz
          refine rd_gtup (SqT.of h4) rfl ?_
          wtm_at "r"
          refine ⟨_, _, rfl, ?_⟩
          wtm_at "r"
          refine ⟨rfl, ?_⟩
          refine ⟨rfl, ?_⟩
          dsimp only
          wtm_at "rs"
          refine put_PH (P := fun ys _ => ys = ((List.zipWith (· * ·) r1 r2).take (j + 1)).map V.int) hys sl sm hD n1 ?_
          rw [List.take_add_one, List.getElem?_zipWith, hy1, hy2, List.map_append]
          rfl
        · subst Pz
          rw [show (Ts.map V.ref).length = (List.zipWith (· * ·) r1 r2).length by rw [List.length_map, zl, List.length_zipWith], List.take_length] at hys
          have s8 := sm
          replace B := B.next sm n1
          replace hl := sm _ _ hl
          replace rz := rz.mono sm
          have bz : List.zipWith (· * ·) r1 r2 ∈ freeL ns := mem_freeL.mpr ⟨⟨by rw [List.length_zipWith]; omega, fun s hs => by
            obtain ⟨k, hk, rfl⟩ := List.getElem_of_mem hs
            rw [List.getElem_zipWith]
            exact pm_mul (p1 _ (List.getElem_mem _)) (p2 _ (List.getElem_mem _))⟩, Bar.zip l1 l2 p1 p2 b1 b2⟩
          wtm_at "rs"
          refine rd_ninZ (SqL.of hl) rz (SqL.of hys) ?_
          rw [decide_eq_true bz]
          have hS := B.lAt (a := S) (by wtm_at "mem")
          have hN := B.lAt (a := N) (by wtm_at "mem")
          have SL : S ≠ L := fun e => by
            rw [e, hl] at hS
            have e2 : as.map V.ref = sp.map V.int := by injection hS with hS; injection hS
            cases as with
            | nil => rw [al.symm.trans rfl] at ne; cases ne
            | cons x y => cases sp <;> cases e2
          have nt := B.nt
          wtm_at "rs"
          rename_i X hX
          have sX := same_new (o := .lst [.int 0]) hX
          refine rd_append (sX _ _ hl) (Nat.lt_of_le_of_lt (m := 32) (by rw [List.length_map, al, fl]; exact slen) (by decide)) ?_
          have hN2 : upd (upd H' X (.lst [.int 0])) L (.lst (as.map V.ref ++ [.ref X])) N = some (.lst (ns.map V.int)) := by rw [upd_ne NL]; exact sX _ _ hN
          have hS2 : upd (upd H' X (.lst [.int 0])) L (.lst (as.map V.ref ++ [.ref X])) S = some (.lst (sp.map V.int)) := by rw [upd_ne SL]; exact sX _ _ hS
          have nt2 : NoT (upd (upd H' X (.lst [.int 0])) L (.lst (as.map V.ref ++ [.ref X]))) := NoT.upd (NoT.upd nt rfl) rfl
          wtm_at "rs"
          refine ⟨N, ns, rfl, SqL.of hN2, nm, nl.1, nl.2, nt2, fun L3 as3 G9 Z => ?_⟩
          have hS3 := Z.s _ _ hS2
          have hL3 := Z.l
          have al3 := Z.r.len
          wtm_at "rs"
          rw [show decide (((as3.map V.ref).length : Int) = ((sp.map V.int).length : Int)) = true from decide_eq_true (by rw [List.length_map, List.length_map, al3, fl])]
          exact kq _
end
/-! ## what the top has left, and the end -/
theorem at_choices_of {K : PySem.W.Frag} {h : Heap} {mg : Str → Option Value} (X : K.In h) (G : h.Ns mainGlobals mg) {f0 : Addr} {od0 an0 : Option Addr} {sl0 : Array (Option Value)} {oc0 kV0 dc0 pm0 cd0 ct0 : Value} (a0 : PySem.W.nsIn K mainGlobals "choices_of" = some (some (.ref f0))) (l0 : K.lookup f0 = some ⟨oc0, od0, .func (PySem.W.fnOf "choices_of" "choices_of" (defArgs s_choices_of) (defBody s_choices_of) (defScope s_choices_of) .none kV0 dc0 pm0 an0 cd0 ct0), sl0⟩) (c0 : PySem.W.codeIn K cd0 "choices_of" = true) (k0 : PySem.W.keepIn K (.ref f0) = true) : DefAt K mg "choices_of" s_choices_of ["many", "length"] := by
  have F := fun_mk (st := s_choices_of) l0 c0 k0
  have b := F.binds (ps := ["many", "length"]) fun _ _ _ _ _ _ us hl => match us, hl with | [_, _], _ => rfl
  exact ⟨_, _, F, PySem.W.mg_of X G a0, b⟩
theorem at_product_of {K : PySem.W.Frag} {h : Heap} {mg : Str → Option Value} (X : K.In h) (G : h.Ns mainGlobals mg) {f1 : Addr} {od1 an1 : Option Addr} {sl1 : Array (Option Value)} {oc1 kV1 dc1 pm1 cd1 ct1 : Value} (a1 : PySem.W.nsIn K mainGlobals "product_of" = some (some (.ref f1))) (l1 : K.lookup f1 = some ⟨oc1, od1, .func (PySem.W.fnOf "product_of" "product_of" (defArgs s_product_of) (defBody s_product_of) (defScope s_product_of) .none kV1 dc1 pm1 an1 cd1 ct1), sl1⟩) (c1 : PySem.W.codeIn K cd1 "product_of" = true) (k1 : PySem.W.keepIn K (.ref f1) = true) : DefAt K mg "product_of" s_product_of ["factors_of_it"] := by
  have F := fun_mk (st := s_product_of) l1 c1 k1
  have b := F.binds (ps := ["factors_of_it"]) fun _ _ _ _ _ _ us hl => match us, hl with | [_], _ => rfl
  exact ⟨_, _, F, PySem.W.mg_of X G a1, b⟩
theorem at_factors {K : PySem.W.Frag} {h : Heap} {mg : Str → Option Value} (X : K.In h) (G : h.Ns mainGlobals mg) {f2 : Addr} {od2 an2 : Option Addr} {sl2 : Array (Option Value)} {oc2 kV2 dc2 pm2 cd2 ct2 : Value} (a2 : PySem.W.nsIn K mainGlobals "factors" = some (some (.ref f2))) (l2 : K.lookup f2 = some ⟨oc2, od2, .func (PySem.W.fnOf "factors" "factors" (defArgs s_factors) (defBody s_factors) (defScope s_factors) .none kV2 dc2 pm2 an2 cd2 ct2), sl2⟩) (c2 : PySem.W.codeIn K cd2 "factors" = true) (k2 : PySem.W.keepIn K (.ref f2) = true) : DefAt K mg "factors" s_factors ["n"] := by
  have F := fun_mk (st := s_factors) l2 c2 k2
  have b := F.binds (ps := ["n"]) fun _ _ _ _ _ _ us hl => match us, hl with | [_], _ => rfl
  exact ⟨_, _, F, PySem.W.mg_of X G a2, b⟩
theorem at_core {K : PySem.W.Frag} {h : Heap} {mg : Str → Option Value} (X : K.In h) (G : h.Ns mainGlobals mg) {f3 : Addr} {od3 an3 : Option Addr} {sl3 : Array (Option Value)} {oc3 kV3 dc3 pm3 cd3 ct3 : Value} (a3 : PySem.W.nsIn K mainGlobals "core" = some (some (.ref f3))) (l3 : K.lookup f3 = some ⟨oc3, od3, .func (PySem.W.fnOf "core" "core" (defArgs s_core) (defBody s_core) (defScope s_core) .none kV3 dc3 pm3 an3 cd3 ct3), sl3⟩) (c3 : PySem.W.codeIn K cd3 "core" = true) (k3 : PySem.W.keepIn K (.ref f3) = true) : DefAt K mg "core" s_core ["n"] := by
  have F := fun_mk (st := s_core) l3 c3 k3
  have b := F.binds (ps := ["n"]) fun _ _ _ _ _ _ us hl => match us, hl with | [_], _ => rfl
  exact ⟨_, _, F, PySem.W.mg_of X G a3, b⟩
theorem at_shows {K : PySem.W.Frag} {h : Heap} {mg : Str → Option Value} (X : K.In h) (G : h.Ns mainGlobals mg) {f4 : Addr} {od4 an4 : Option Addr} {sl4 : Array (Option Value)} {oc4 kV4 dc4 pm4 cd4 ct4 : Value} (a4 : PySem.W.nsIn K mainGlobals "shows" = some (some (.ref f4))) (l4 : K.lookup f4 = some ⟨oc4, od4, .func (PySem.W.fnOf "shows" "shows" (defArgs s_shows) (defBody s_shows) (defScope s_shows) .none kV4 dc4 pm4 an4 cd4 ct4), sl4⟩) (c4 : PySem.W.codeIn K cd4 "shows" = true) (k4 : PySem.W.keepIn K (.ref f4) = true) : DefAt K mg "shows" s_shows ["numbers", "signs", "places"] := by
  have F := fun_mk (st := s_shows) l4 c4 k4
  have b := F.binds (ps := ["numbers", "signs", "places"]) fun _ _ _ _ _ _ us hl => match us, hl with | [_, _, _], _ => rfl
  exact ⟨_, _, F, PySem.W.mg_of X G a4, b⟩
theorem at_barred {K : PySem.W.Frag} {h : Heap} {mg : Str → Option Value} (X : K.In h) (G : h.Ns mainGlobals mg) {f5 : Addr} {od5 an5 : Option Addr} {sl5 : Array (Option Value)} {oc5 kV5 dc5 pm5 cd5 ct5 : Value} (a5 : PySem.W.nsIn K mainGlobals "barred" = some (some (.ref f5))) (l5 : K.lookup f5 = some ⟨oc5, od5, .func (PySem.W.fnOf "barred" "barred" (defArgs s_barred) (defBody s_barred) (defScope s_barred) .none kV5 dc5 pm5 an5 cd5 ct5), sl5⟩) (c5 : PySem.W.codeIn K cd5 "barred" = true) (k5 : PySem.W.keepIn K (.ref f5) = true) : DefAt K mg "barred" s_barred ["numbers", "signs"] := by
  have F := fun_mk (st := s_barred) l5 c5 k5
  have b := F.binds (ps := ["numbers", "signs"]) fun _ _ _ _ _ _ us hl => match us, hl with | [_, _], _ => rfl
  exact ⟨_, _, F, PySem.W.mg_of X G a5, b⟩
theorem at_patterns {K : PySem.W.Frag} {h : Heap} {mg : Str → Option Value} (X : K.In h) (G : h.Ns mainGlobals mg) {f6 : Addr} {od6 an6 : Option Addr} {sl6 : Array (Option Value)} {oc6 kV6 dc6 pm6 cd6 ct6 : Value} (a6 : PySem.W.nsIn K mainGlobals "patterns" = some (some (.ref f6))) (l6 : K.lookup f6 = some ⟨oc6, od6, .func (PySem.W.fnOf "patterns" "patterns" (defArgs s_patterns) (defBody s_patterns) (defScope s_patterns) .none kV6 dc6 pm6 an6 cd6 ct6), sl6⟩) (c6 : PySem.W.codeIn K cd6 "patterns" = true) (k6 : PySem.W.keepIn K (.ref f6) = true) : DefAtR K mg "patterns" s_patterns := by
  have F := fun_mk (st := s_patterns) l6 c6 k6
  exact ⟨_, _, F, PySem.W.mg_of X G a6⟩
theorem at_law_all {K : PySem.W.Frag} {h : Heap} {mg : Str → Option Value} (X : K.In h) (G : h.Ns mainGlobals mg) {f7 : Addr} {od7 an7 : Option Addr} {sl7 : Array (Option Value)} {oc7 kV7 dc7 pm7 cd7 ct7 : Value} (a7 : PySem.W.nsIn K mainGlobals "_law_all" = some (some (.ref f7))) (l7 : K.lookup f7 = some ⟨oc7, od7, .func (PySem.W.fnOf "_law_all" "_law_all" (defArgs s_law_all) (defBody s_law_all) (defScope s_law_all) .none kV7 dc7 pm7 an7 cd7 ct7), sl7⟩) (c7 : PySem.W.codeIn K cd7 "_law_all" = true) (k7 : PySem.W.keepIn K (.ref f7) = true) : DefAt K mg "_law_all" s_law_all ["_law_many"] := by
  have F := fun_mk (st := s_law_all) l7 c7 k7
  have b := F.binds (ps := ["_law_many"]) fun _ _ _ _ _ _ us hl => match us, hl with | [_], _ => rfl
  exact ⟨_, _, F, PySem.W.mg_of X G a7, b⟩
theorem at_law_asked {K : PySem.W.Frag} {h : Heap} {mg : Str → Option Value} (X : K.In h) (G : h.Ns mainGlobals mg) {f8 : Addr} {od8 an8 : Option Addr} {sl8 : Array (Option Value)} {oc8 kV8 dc8 pm8 cd8 ct8 : Value} (a8 : PySem.W.nsIn K mainGlobals "_law_asked" = some (some (.ref f8))) (l8 : K.lookup f8 = some ⟨oc8, od8, .func (PySem.W.fnOf "_law_asked" "_law_asked" (defArgs s_law_asked) (defBody s_law_asked) (defScope s_law_asked) .none kV8 dc8 pm8 an8 cd8 ct8), sl8⟩) (c8 : PySem.W.codeIn K cd8 "_law_asked" = true) (k8 : PySem.W.keepIn K (.ref f8) = true) : DefAt K mg "_law_asked" s_law_asked ["_law_numbers"] := by
  have F := fun_mk (st := s_law_asked) l8 c8 k8
  have b := F.binds (ps := ["_law_numbers"]) fun _ _ _ _ _ _ us hl => match us, hl with | [_], _ => rfl
  exact ⟨_, _, F, PySem.W.mg_of X G a8, b⟩
theorem at_law_free {K : PySem.W.Frag} {h : Heap} {mg : Str → Option Value} (X : K.In h) (G : h.Ns mainGlobals mg) {f9 : Addr} {od9 an9 : Option Addr} {sl9 : Array (Option Value)} {oc9 kV9 dc9 pm9 cd9 ct9 : Value} (a9 : PySem.W.nsIn K mainGlobals "_law_free" = some (some (.ref f9))) (l9 : K.lookup f9 = some ⟨oc9, od9, .func (PySem.W.fnOf "_law_free" "_law_free" (defArgs s_law_free) (defBody s_law_free) (defScope s_law_free) .none kV9 dc9 pm9 an9 cd9 ct9), sl9⟩) (c9 : PySem.W.codeIn K cd9 "_law_free" = true) (k9 : PySem.W.keepIn K (.ref f9) = true) : DefAt K mg "_law_free" s_law_free ["_law_n"] := by
  have F := fun_mk (st := s_law_free) l9 c9 k9
  have b := F.binds (ps := ["_law_n"]) fun _ _ _ _ _ _ us hl => match us, hl with | [_], _ => rfl
  exact ⟨_, _, F, PySem.W.mg_of X G a9, b⟩
theorem at_law_cell {K : PySem.W.Frag} {h : Heap} {mg : Str → Option Value} (X : K.In h) (G : h.Ns mainGlobals mg) {f10 : Addr} {od10 an10 : Option Addr} {sl10 : Array (Option Value)} {oc10 kV10 dc10 pm10 cd10 ct10 : Value} (a10 : PySem.W.nsIn K mainGlobals "_law_cell" = some (some (.ref f10))) (l10 : K.lookup f10 = some ⟨oc10, od10, .func (PySem.W.fnOf "_law_cell" "_law_cell" (defArgs s_law_cell) (defBody s_law_cell) (defScope s_law_cell) .none kV10 dc10 pm10 an10 cd10 ct10), sl10⟩) (c10 : PySem.W.codeIn K cd10 "_law_cell" = true) (k10 : PySem.W.keepIn K (.ref f10) = true) : DefAt K mg "_law_cell" s_law_cell ["_law_script", "_law_k"] := by
  have F := fun_mk (st := s_law_cell) l10 c10 k10
  have b := F.binds (ps := ["_law_script", "_law_k"]) fun _ _ _ _ _ _ us hl => match us, hl with | [_, _], _ => rfl
  exact ⟨_, _, F, PySem.W.mg_of X G a10, b⟩
theorem at_law_draws {K : PySem.W.Frag} {h : Heap} {mg : Str → Option Value} (X : K.In h) (G : h.Ns mainGlobals mg) {f11 : Addr} {od11 an11 : Option Addr} {sl11 : Array (Option Value)} {oc11 kV11 dc11 pm11 cd11 ct11 : Value} (a11 : PySem.W.nsIn K mainGlobals "_law_draws" = some (some (.ref f11))) (l11 : K.lookup f11 = some ⟨oc11, od11, .func (PySem.W.fnOf "_law_draws" "_law_draws" (defArgs s_law_draws) (defBody s_law_draws) (defScope s_law_draws) .none kV11 dc11 pm11 an11 cd11 ct11), sl11⟩) (c11 : PySem.W.codeIn K cd11 "_law_draws" = true) (k11 : PySem.W.keepIn K (.ref f11) = true) : DefAt K mg "_law_draws" s_law_draws ["_law_cell_here", "_law_sizes"] := by
  have F := fun_mk (st := s_law_draws) l11 c11 k11
  have b := F.binds (ps := ["_law_cell_here", "_law_sizes"]) fun _ _ _ _ _ _ us hl => match us, hl with | [_, _], _ => rfl
  exact ⟨_, _, F, PySem.W.mg_of X G a11, b⟩
theorem at_law_is_prime {K : PySem.W.Frag} {h : Heap} {mg : Str → Option Value} (X : K.In h) (G : h.Ns mainGlobals mg) {f12 : Addr} {od12 an12 : Option Addr} {sl12 : Array (Option Value)} {oc12 kV12 dc12 pm12 cd12 ct12 : Value} (a12 : PySem.W.nsIn K mainGlobals "_law_is_prime" = some (some (.ref f12))) (l12 : K.lookup f12 = some ⟨oc12, od12, .func (PySem.W.fnOf "_law_is_prime" "_law_is_prime" (defArgs s_law_is_prime) (defBody s_law_is_prime) (defScope s_law_is_prime) .none kV12 dc12 pm12 an12 cd12 ct12), sl12⟩) (c12 : PySem.W.codeIn K cd12 "_law_is_prime" = true) (k12 : PySem.W.keepIn K (.ref f12) = true) : DefAt K mg "_law_is_prime" s_law_is_prime ["_law_n"] := by
  have F := fun_mk (st := s_law_is_prime) l12 c12 k12
  have b := F.binds (ps := ["_law_n"]) fun _ _ _ _ _ _ us hl => match us, hl with | [_], _ => rfl
  exact ⟨_, _, F, PySem.W.mg_of X G a12, b⟩
theorem at_law_sign {K : PySem.W.Frag} {h : Heap} {mg : Str → Option Value} (X : K.In h) (G : h.Ns mainGlobals mg) {f13 : Addr} {od13 an13 : Option Addr} {sl13 : Array (Option Value)} {oc13 kV13 dc13 pm13 cd13 ct13 : Value} (a13 : PySem.W.nsIn K mainGlobals "_law_sign" = some (some (.ref f13))) (l13 : K.lookup f13 = some ⟨oc13, od13, .func (PySem.W.fnOf "_law_sign" "_law_sign" (defArgs s_law_sign) (defBody s_law_sign) (defScope s_law_sign) .none kV13 dc13 pm13 an13 cd13 ct13), sl13⟩) (c13 : PySem.W.codeIn K cd13 "_law_sign" = true) (k13 : PySem.W.keepIn K (.ref f13) = true) : DefAt K mg "_law_sign" s_law_sign ["_law_n", "_law_p"] := by
  have F := fun_mk (st := s_law_sign) l13 c13 k13
  have b := F.binds (ps := ["_law_n", "_law_p"]) fun _ _ _ _ _ _ us hl => match us, hl with | [_, _], _ => rfl
  exact ⟨_, _, F, PySem.W.mg_of X G a13, b⟩
theorem txt_mk {K : PySem.W.Frag} {h : Heap} {mg : Str → Option Value} (X : K.In h) (G : h.Ns mainGlobals mg) 
    (z_abs : PySem.W.nsIn K mainGlobals "abs" = some none)
    (z_int : PySem.W.nsIn K mainGlobals "int" = some none)
    (z_len : PySem.W.nsIn K mainGlobals "len" = some none)
    (z_list : PySem.W.nsIn K mainGlobals "list" = some none)
    (z_range : PySem.W.nsIn K mainGlobals "range" = some none)
    (z_set : PySem.W.nsIn K mainGlobals "set" = some none)
    (z_sorted : PySem.W.nsIn K mainGlobals "sorted" = some none)
    (z_zip : PySem.W.nsIn K mainGlobals "zip" = some none)
    (d_choices_of : DefAt K mg "choices_of" s_choices_of ["many", "length"])
    (d_product_of : DefAt K mg "product_of" s_product_of ["factors_of_it"])
    (d_factors : DefAt K mg "factors" s_factors ["n"])
    (d_core : DefAt K mg "core" s_core ["n"])
    (d_shows : DefAt K mg "shows" s_shows ["numbers", "signs", "places"])
    (d_barred : DefAt K mg "barred" s_barred ["numbers", "signs"])
    (d_patterns : DefAtR K mg "patterns" s_patterns)
    (d_law_all : DefAt K mg "_law_all" s_law_all ["_law_many"])
    (d_law_asked : DefAt K mg "_law_asked" s_law_asked ["_law_numbers"])
    (d_law_free : DefAt K mg "_law_free" s_law_free ["_law_n"])
    (d_law_cell : DefAt K mg "_law_cell" s_law_cell ["_law_script", "_law_k"])
    (d_law_draws : DefAt K mg "_law_draws" s_law_draws ["_law_cell_here", "_law_sizes"])
    (d_law_is_prime : DefAt K mg "_law_is_prime" s_law_is_prime ["_law_n"])
    (d_law_sign : DefAt K mg "_law_sign" s_law_sign ["_law_n", "_law_p"]) :
    Txt K mg ⟨0⟩ := {
    b_abs := PySem.W.mg_none_of X G z_abs
    b_int := PySem.W.mg_none_of X G z_int
    b_len := PySem.W.mg_none_of X G z_len
    b_list := PySem.W.mg_none_of X G z_list
    b_range := PySem.W.mg_none_of X G z_range
    b_set := PySem.W.mg_none_of X G z_set
    b_sorted := PySem.W.mg_none_of X G z_sorted
    b_zip := PySem.W.mg_none_of X G z_zip
    d_choices_of := d_choices_of
    d_product_of := d_product_of
    d_factors := d_factors
    d_core := d_core
    d_shows := d_shows
    d_barred := d_barred
    d_patterns := d_patterns
    d_law_all := d_law_all
    d_law_asked := d_law_asked
    d_law_free := d_law_free
    d_law_cell := d_law_cell
    d_law_draws := d_law_draws
    d_law_is_prime := d_law_is_prime
    d_law_sign := d_law_sign
    triv := trivial
  }
theorem all_mk {P : Program} {w : World} {K : PySem.W.Frag} {h : Heap} {mg : Str → Option Value} {fa : Addr} (X : K.In h) (G : h.Ns mainGlobals mg) (hfa : mg "law" = some (.ref fa)) {Ad : Adr} (T : Txt K mg Ad) {f14 : Addr} {od14 an14 : Option Addr} {sl14 : Array (Option Value)} {oc14 kV14 dc14 pm14 cd14 ct14 : Value} (a14 : PySem.W.nsIn K mainGlobals "law" = some (some (.ref f14))) (l14 : K.lookup f14 = some ⟨oc14, od14, .func (PySem.W.fnOf "law" "law" (defArgs s_law) (defBody s_law) (defScope s_law) .none kV14 dc14 pm14 an14 cd14 ct14), sl14⟩) (c14 : PySem.W.codeIn K cd14 "law" = true) (k14 : PySem.W.keepIn K (.ref f14) = true) :
    ∃ fd : FuncData, (∀ (s : Shared) (v : Value), BindsTo s fd ⟨[v], []⟩ [("_law_script", v)]) ∧ ∀ base : Heap, K.In base → base.Ns mainGlobals mg → FnOk P w K mg base (L2.CX P w) 14 fa fd ["_law_script"] (spLaw K) := by
  have e := hfa.symm.trans (PySem.W.mg_of X G a14)
  cases e
  have F := fun_mk (st := s_law) l14 c14 k14
  exact ⟨_, fun s v => .of_eq rfl, fun base _ _ => ok_law (base := base) F T⟩
theorem walk {l : PySem.W.OpenLaw} {q : Program} {loose : List Str} {XP : (Str → Option Value) → Heap → Prop} {YP : World → Heap → Prop} {d : DefRec} {K : Params → PySem.W.Frag} (hn : l.most = some 63) (hdf : d.params.defaults = [])
    (hY : ∀ (w : World) (h : Heap), YP w h → (K w.params).In h)
    (F : ∀ (w : World) (mg : Str → Option Value) (fa : Addr) (h : Heap), (K w.params).In h → h.Ns mainGlobals mg → mg d.name = some (.ref fa) →
      ∃ fd : FuncData, (∀ (s : Shared) (u : Value), BindsTo s fd ⟨[u], []⟩ [("_law_script", u)]) ∧ ∀ base : Heap, (K w.params).In base → base.Ns mainGlobals mg → FnOk l.prog w (K w.params) mg base (L2.CX l.prog w) 14 fa fd ["_law_script"] (spLaw (K w.params))) :
    PySem.W.WalkO q loose XP YP l.row.toRowW d [] (fun f vs => PySem.call f vs) :=
  L2.walk_of (n := 63) (k := 14) (x := "_law_script") (CX := fun w => L2.CX l.prog w) (sp := fun w => spLaw (K w.params)) hn (by decide) hdf ⟨rfl, by decide, by decide⟩ hY F (fun _ _ a ns hl hO hS => ⟨a, ns, rfl, hS, hl, NoT.only hO, fun _ => rfl⟩) fun _ _ _ _ _ h => by
    obtain ⟨_, _, _, _, _, _, _, _, _, _, _, _, z⟩ := h
    exact z.elim
end My
open PySem PySem.W PyProof.Rows
set_option maxRecDepth 100000 in
set_option maxHeartbeats 0 in
theorem PySem.Challenge.cw_everyprime_k79_patterns_that_occur_holds : PySem.Challenge.rw_everyprime_k79_patterns_that_occur.Holds := by
  refine My.hd_top ?_
  k_fill
  refine My.walk (l := PySem.Challenge.rw_everyprime_k79_patterns_that_occur) rfl rfl (fun w h Y => PySem.W.kIn_of Y) ?F
  case F =>
    intro w mg fa h KX G hmg
    refine' My.all_mk KX G hmg (My.txt_mk KX G ?z_abs ?z_int ?z_len ?z_list ?z_range ?z_set ?z_sorted ?z_zip ?d_choices_of ?d_product_of ?d_factors ?d_core ?d_shows ?d_barred ?d_patterns ?d_law_all ?d_law_asked ?d_law_free ?d_law_cell ?d_law_draws ?d_law_is_prime ?d_law_sign) ?a14 ?l14 ?c14 ?k14
    (case z_abs => as_aux_lemma => k_is)
    (case z_int => as_aux_lemma => k_is)
    (case z_len => as_aux_lemma => k_is)
    (case z_list => as_aux_lemma => k_is)
    (case z_range => as_aux_lemma => k_is)
    (case z_set => as_aux_lemma => k_is)
    (case z_sorted => as_aux_lemma => k_is)
    (case z_zip => as_aux_lemma => k_is)
    (case d_choices_of => (refine' My.at_choices_of KX G ?y1_a0 ?y1_l0 ?y1_c0 ?y1_k0; (case y1_a0 => as_aux_lemma => k_is); (case y1_l0 => as_aux_lemma => k_is); (case y1_c0 => as_aux_lemma => k_is); (case y1_k0 => as_aux_lemma => k_is)))
    (case d_product_of => (refine' My.at_product_of KX G ?y2_a1 ?y2_l1 ?y2_c1 ?y2_k1; (case y2_a1 => as_aux_lemma => k_is); (case y2_l1 => as_aux_lemma => k_is); (case y2_c1 => as_aux_lemma => k_is); (case y2_k1 => as_aux_lemma => k_is)))
    (case d_factors => (refine' My.at_factors KX G ?y3_a2 ?y3_l2 ?y3_c2 ?y3_k2; (case y3_a2 => as_aux_lemma => k_is); (case y3_l2 => as_aux_lemma => k_is); (case y3_c2 => as_aux_lemma => k_is); (case y3_k2 => as_aux_lemma => k_is)))
    (case d_core => (refine' My.at_core KX G ?y4_a3 ?y4_l3 ?y4_c3 ?y4_k3; (case y4_a3 => as_aux_lemma => k_is); (case y4_l3 => as_aux_lemma => k_is); (case y4_c3 => as_aux_lemma => k_is); (case y4_k3 => as_aux_lemma => k_is)))
    (case d_shows => (refine' My.at_shows KX G ?y5_a4 ?y5_l4 ?y5_c4 ?y5_k4; (case y5_a4 => as_aux_lemma => k_is); (case y5_l4 => as_aux_lemma => k_is); (case y5_c4 => as_aux_lemma => k_is); (case y5_k4 => as_aux_lemma => k_is)))
    (case d_barred => (refine' My.at_barred KX G ?y6_a5 ?y6_l5 ?y6_c5 ?y6_k5; (case y6_a5 => as_aux_lemma => k_is); (case y6_l5 => as_aux_lemma => k_is); (case y6_c5 => as_aux_lemma => k_is); (case y6_k5 => as_aux_lemma => k_is)))
    (case d_patterns => (refine' My.at_patterns KX G ?y7_a6 ?y7_l6 ?y7_c6 ?y7_k6; (case y7_a6 => as_aux_lemma => k_is); (case y7_l6 => as_aux_lemma => k_is); (case y7_c6 => as_aux_lemma => k_is); (case y7_k6 => as_aux_lemma => k_is)))
    (case d_law_all => (refine' My.at_law_all KX G ?y8_a7 ?y8_l7 ?y8_c7 ?y8_k7; (case y8_a7 => as_aux_lemma => k_is); (case y8_l7 => as_aux_lemma => k_is); (case y8_c7 => as_aux_lemma => k_is); (case y8_k7 => as_aux_lemma => k_is)))
    (case d_law_asked => (refine' My.at_law_asked KX G ?y9_a8 ?y9_l8 ?y9_c8 ?y9_k8; (case y9_a8 => as_aux_lemma => k_is); (case y9_l8 => as_aux_lemma => k_is); (case y9_c8 => as_aux_lemma => k_is); (case y9_k8 => as_aux_lemma => k_is)))
    (case d_law_free => (refine' My.at_law_free KX G ?y10_a9 ?y10_l9 ?y10_c9 ?y10_k9; (case y10_a9 => as_aux_lemma => k_is); (case y10_l9 => as_aux_lemma => k_is); (case y10_c9 => as_aux_lemma => k_is); (case y10_k9 => as_aux_lemma => k_is)))
    (case d_law_cell => (refine' My.at_law_cell KX G ?y11_a10 ?y11_l10 ?y11_c10 ?y11_k10; (case y11_a10 => as_aux_lemma => k_is); (case y11_l10 => as_aux_lemma => k_is); (case y11_c10 => as_aux_lemma => k_is); (case y11_k10 => as_aux_lemma => k_is)))
    (case d_law_draws => (refine' My.at_law_draws KX G ?y12_a11 ?y12_l11 ?y12_c11 ?y12_k11; (case y12_a11 => as_aux_lemma => k_is); (case y12_l11 => as_aux_lemma => k_is); (case y12_c11 => as_aux_lemma => k_is); (case y12_k11 => as_aux_lemma => k_is)))
    (case d_law_is_prime => (refine' My.at_law_is_prime KX G ?y13_a12 ?y13_l12 ?y13_c12 ?y13_k12; (case y13_a12 => as_aux_lemma => k_is); (case y13_l12 => as_aux_lemma => k_is); (case y13_c12 => as_aux_lemma => k_is); (case y13_k12 => as_aux_lemma => k_is)))
    (case d_law_sign => (refine' My.at_law_sign KX G ?y14_a13 ?y14_l13 ?y14_c13 ?y14_k13; (case y14_a13 => as_aux_lemma => k_is); (case y14_l13 => as_aux_lemma => k_is); (case y14_c13 => as_aux_lemma => k_is); (case y14_k13 => as_aux_lemma => k_is)))
    (case a14 => as_aux_lemma => k_is)
    (case l14 => as_aux_lemma => k_is)
    (case c14 => as_aux_lemma => k_is)
    (case k14 => as_aux_lemma => k_is)
#print axioms PySem.Challenge.cw_everyprime_k79_patterns_that_occur_holds
