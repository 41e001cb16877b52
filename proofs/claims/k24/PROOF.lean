import PyProof.Rows.All
import Wide.All
import OpenK.AllK
import Wide.FinOn
import HandS.Base
import HandS.Call
import HandS.List
import HandS.Ends
import HandS.Words
import HandS.Wide
import HandS.WordsList
import HandS.Comp
import HandS.Exc
import HandS.ExcOwn
import HandS.TryOnly
import HandS.WordsExc
import HandS.ExcInit
import HandS.ExcField
import HandS.ClsMeth
import HandS.Codes
import HandS.NoneIn
import HandS.IsInst
import HandS.SortInts
import HandS.Style
import HandS.Star
import HandS.FStr
import HandS.Iter
import HandS.Dict
import HandS.Walk
import PySem.Challenge.RW_everyprime_k24_chains_judged
set_option Elab.async false
set_option linter.all false
set_option maxRecDepth 100000
set_option maxHeartbeats 4000000
namespace L2
open PySem PySem.Spec PyProof.Rows
/-- one step of a reading, found by its head -/
class Stp (G : Prop) (N : outParam Prop) : Prop where
  mp : N → G
/-! ### forgetting what was made on the way -/
/-- no dict with tuple keys is tracked -/
def noT : HO -> Bool
  | .dT _ => false
  | .frz _ u => noT u
  | _ => true
def NoT (H : Hp) : Prop := ∀ a o, H a = some o → noT o = true
theorem NoT.upd {H : Hp} {p : Addr} {o : HO} (n : NoT H) (h : noT o = true) : NoT (upd H p o) := fun a u e => by
  by_cases hb : a = p
  · subst hb
    rw [upd_same] at e
    cases e
    exact h
  · rw [upd_ne hb] at e
    exact n a u e
theorem obj_back {P : Program} {w : World} {H H' : Hp} {h h' : Heap} {a : Addr} : ∀ {o : HO}, noT o = true → ObjOk P w H' h' a o → ObjOk P w H h a o → ObjOk P w H h' a o := by
  intro o
  induction o with
  | dT kvs => intro n; cases n
  | frz ob u ih =>
    intro n x y
    exact ⟨x.1, ih n x.2 y.2⟩
  | ins C dx fs =>
    intro n x y
    exact ⟨y.1, x.2⟩
  | lst xs => intro n x y; exact x
  | tup xs => intro n x y; exact x
  | dK kvs => intro n x y; exact x
  | set S m => intro n x y; exact x
  | own z => intro n x y; exact x
  | xd fs => intro n x y; exact x
  | rng lo hi => intro n x y; exact x
  | tbl ps => intro n x y; exact x
  | met f z => intro n x y; exact x
  | ext phi => intro n x y; exact x
theorem hok_back {P : Program} {w : World} {H H' : Hp} {h h' : Heap} (n : NoT H) (x : HOk P w H' h') (y : HOk P w H h) (e : Same H H') : HOk P w H h' := fun a o q =>
  obj_back (n a o q) (x a o (e a o q)) (y a o q)
theorem Inv.forget {X : Cx} {pins pins' : List (Addr × Obj)} {σ σ' : St} {H H' : Hp} {s s' : Shared} (I : Inv X pins σ H s) (J : Inv X pins' σ' H' s') (e : Same H H') (n : NoT H) : Inv X pins' σ' H s' :=
  ⟨J.ok, J.os, J.bare, ⟨J.base.keep, J.base.slot, I.base.free, J.base.there, I.base.tups, I.base.frzs, I.base.tbls⟩, J.loc, J.cell, I.free, I.freeC,
    fun p hp => let ⟨a, b, c⟩ := J.pin p hp; ⟨a, e.free b, c⟩, hok_back n J.hok I.hok e, J.len⟩
/-- an expression whose making leaves things behind that nobody asks of -/
def tPure (t : TE) : TE := fun σ H Q => NoT H ∧ t σ H fun v H' => Same H H' ∧ Q v H
theorem pe_pure {X : Cx} {e : Expr} {t : TE} (h : PE X e t) : PE X e (tPure t) :=
  ⟨fun pins s σ H Q I ⟨n, q⟩ => thn (h.run pins s σ H _ I q) fun u s' ⟨v, H', J, r, sm, q'⟩ => ⟨v, H, I.forget J sm n, r, q'⟩⟩
def tPureT (t : TT) : TT := fun σ H Q => NoT H ∧ t σ H fun b H' => Same H H' ∧ Q b H
theorem pt_pure {X : Cx} {e : Expr} {t : TT} (h : PT X e t) : PT X e (tPureT t) :=
  ⟨fun pins s σ H Q I ⟨n, q⟩ => thn (h.run pins s σ H _ I q) fun u s' ⟨H', J, sm, q'⟩ => ⟨H, I.forget J sm n, q'⟩⟩
theorem fn_forget {P : Program} {w : World} {K : PySem.W.Frag} {mg : Str → Option Value} {base : Heap} {CX : CXT} {k : Nat} {f : Addr} {fd : FuncData} {ps : List Str} {sp : Sp} (F : FnOk P w K mg base CX k f fd ps sp) :
    FnOk P w K mg base CX k f fd ps (fun vs H Q E => NoT H ∧ sp vs H (fun v H' => Same H H' ∧ Q v H) E) := by
  refine ⟨fun vs H Q E q => F.len vs H _ E q.2, fun A outer s H args us vs Q E hr he hb hv hs => ?_⟩
  refine codeAny_mono (F.run A outer s H args us vs _ E hr he hb hv hs.2) fun r s' q => ?_
  cases r with
  | error er => exact q
  | ok fl =>
    cases fl with
    | ret u =>
      obtain ⟨v, H2, os2, bare2, un2, hok2, rv, sm, q2⟩ := q
      exact ⟨v, H, os2, bare2, ⟨un2.keep, un2.slot, fun _ _ _ n _ => n, un2.there, fun _ _ q => q, fun _ _ _ q => q, fun _ ps q => ⟨#[], by rw [q]; simp⟩⟩, hok_back hs.1 hok2 he.hok sm, rv, q2⟩
    | next => exact q
    | brk => exact q
    | cont => exact q
end L2

namespace L2
open PySem PySem.Spec PyProof.Rows
/-! ### operators in the forms that are used here -/
def CMulB (i j : Int) : Prop := CMul i j ∨ CMulW i j
theorem CMulB.ok {i j : Int} (h : CMulB i j) : IntMulOk i j := by
  rcases h with h | h
  · exact h.ok
  · exact h.ok
def CDivB (_ j : Int) : Prop := 0 < j ∧ j < 2 ^ 250
section
variable {X : Cx}
theorem op_mulB : OpR X (binaryOp .Mult) (rI CMulB fun i j => .int (i * j)) := opI fun _ _ _ _ _ _ _ hc q => mul_int q hc.ok
theorem op_fdivB : OpR X (binaryOp .FloorDiv) (rI CDivB fun i j => .int (i / j)) := fun pins s σ H x y v u Q I rx ry ⟨i, j, e1, e2, hc, q⟩ =>
  op_fdivW pins s σ H x y v u Q I rx ry ⟨i, j, e1, e2, wide_div (b := 250) hc.1 (by
    have h1 := hc.1
    have h2 := hc.2
    have h3 : j = (j.natAbs : Int) := by omega
    have h4 : (j.natAbs : Int) < ((2 ^ 250 : Nat) : Int) := by
      rw [← h3, Int.natCast_pow]
      exact h2
    exact Int.ofNat_lt.mp h4) (by decide) (by decide), q⟩
end
/-! ### the readings, one lemma each -/
section
variable {σ : St} {H : Hp} {Q : VK} {R : Bool → Hp → Prop} {RA : List V → Hp → Prop} {K : PySem.W.Frag} {v x y z : V} {i j : Int} {ta tb tc te : TE} {tt uu : TT} {t t1 t2 u : TS} {tr : TA} {r : R2}
variable {nx : St → Hp → Prop} {rt : VK} {bk ct : St → Hp → Prop}
theorem rd_var {n : Nat} (h : σ[n]? = some (some v)) (q : Q v H) : tVar n σ H Q := ⟨v, h, q⟩
theorem rd_c (q : Q v H) : tC v σ H Q := q
instance st_c  : Stp (tC v σ H Q) (Q v H) := ⟨fun h => rd_c h⟩
theorem rd_op (h : ta σ H fun x H1 => tb σ H1 fun y H2 => r x y H2 Q) : tOp r ta tb σ H Q := h
instance st_op  : Stp (tOp r ta tb σ H Q) (ta σ H fun x H1 => tb σ H1 fun y H2 => r x y H2 Q) := ⟨fun h => rd_op h⟩
theorem rd_un {ru : V → Hp → VK → Prop} (h : ta σ H fun x H1 => ru x H1 Q) : tUn ru ta σ H Q := h
instance st_un {ru : V → Hp → VK → Prop} : Stp (tUn ru ta σ H Q) (ta σ H fun x H1 => ru x H1 Q) := ⟨fun h => rd_un h⟩
theorem rd_I {C : Int → Int → Prop} {g : Int → Int → V} (hc : C i j) (q : Q (g i j) H) : rI C g (.int i) (.int j) H Q := ⟨i, j, rfl, rfl, hc, q⟩
theorem rd_I0 {g : Int → Int → V} (q : Q (g i j) H) : rI0 g (.int i) (.int j) H Q := ⟨i, j, rfl, rfl, q⟩
instance st_I0 {g : Int → Int → V} : Stp (rI0 g (.int i) (.int j) H Q) (Q (g i j) H) := ⟨fun h => rd_I0 h⟩
theorem rd_U {g : Int → V} (q : Q (g i) H) : rU g (.int i) H Q := ⟨i, rfl, q⟩
instance st_U {g : Int → V} : Stp (rU g (.int i) H Q) (Q (g i) H) := ⟨fun h => rd_U h⟩
theorem rd_eqI (q : Q (.bl (decide (i = j))) H) : rEq (.int i) (.int j) H Q := ⟨rfl, by
  have e : decide (V.int i = V.int j) = decide (i = j) := decide_eq_decide.mpr ⟨fun z => V.int.inj z, fun z => by rw [z]⟩
  rw [e]
  exact q⟩
instance st_eqI  : Stp (rEq (.int i) (.int j) H Q) (Q (.bl (decide (i = j))) H) := ⟨fun h => rd_eqI h⟩
theorem rd_neI (q : Q (.bl (!decide (i = j))) H) : rNe (.int i) (.int j) H Q := ⟨rfl, by
  have e : decide (V.int i = V.int j) = decide (i = j) := decide_eq_decide.mpr ⟨fun z => V.int.inj z, fun z => by rw [z]⟩
  rw [e]
  exact q⟩
instance st_neI  : Stp (rNe (.int i) (.int j) H Q) (Q (.bl (!decide (i = j))) H) := ⟨fun h => rd_neI h⟩
theorem rd_eqS {i j : Str} (q : Q (.bl (decide (i = j))) H) : rEq (.str i) (.str j) H Q := ⟨rfl, by
  have e : decide (V.str i = V.str j) = decide (i = j) := decide_eq_decide.mpr ⟨fun z => V.str.inj z, fun z => by rw [z]⟩
  rw [e]
  exact q⟩
instance st_eqS {i j : Str} : Stp (rEq (.str i) (.str j) H Q) (Q (.bl (decide (i = j))) H) := ⟨fun h => rd_eqS h⟩
theorem rd_neS {i j : Str} (q : Q (.bl (!decide (i = j))) H) : rNe (.str i) (.str j) H Q := ⟨rfl, by
  have e : decide (V.str i = V.str j) = decide (i = j) := decide_eq_decide.mpr ⟨fun z => V.str.inj z, fun z => by rw [z]⟩
  rw [e]
  exact q⟩
instance st_neS {i j : Str} : Stp (rNe (.str i) (.str j) H Q) (Q (.bl (!decide (i = j))) H) := ⟨fun h => rd_neS h⟩
theorem rd_eqB {i j : Bool} (q : Q (.bl (decide (i = j))) H) : rEq (.bl i) (.bl j) H Q := ⟨rfl, by
  have e : decide (V.bl i = V.bl j) = decide (i = j) := decide_eq_decide.mpr ⟨fun z => V.bl.inj z, fun z => by rw [z]⟩
  rw [e]
  exact q⟩
instance st_eqB {i j : Bool} : Stp (rEq (.bl i) (.bl j) H Q) (Q (.bl (decide (i = j))) H) := ⟨fun h => rd_eqB h⟩
theorem rd_neB {i j : Bool} (q : Q (.bl (!decide (i = j))) H) : rNe (.bl i) (.bl j) H Q := ⟨rfl, by
  have e : decide (V.bl i = V.bl j) = decide (i = j) := decide_eq_decide.mpr ⟨fun z => V.bl.inj z, fun z => by rw [z]⟩
  rw [e]
  exact q⟩
instance st_neB {i j : Bool} : Stp (rNe (.bl i) (.bl j) H Q) (Q (.bl (!decide (i = j))) H) := ⟨fun h => rd_neB h⟩
theorem rd_eqV (h : scal x y = true) (q : Q (.bl (decide (x = y))) H) : rEq x y H Q := ⟨h, q⟩
theorem rd_test (h : te σ H fun x H' => ∃ k, x = .bl k ∧ R k H') : tTest te σ H R := h
instance st_test  : Stp (tTest te σ H R) (te σ H fun x H' => ∃ k, x = .bl k ∧ R k H') := ⟨fun h => rd_test h⟩
theorem rd_B (h : te σ H fun x H' => ∃ k, x = .bl k ∧ R k H') : tB te σ H R := h
instance st_B  : Stp (tB te σ H R) (te σ H fun x H' => ∃ k, x = .bl k ∧ R k H') := ⟨fun h => rd_B h⟩
theorem rd_k {b : Bool} {P : Bool → Prop} (q : P b) : ∃ k, V.bl b = .bl k ∧ P k := ⟨b, rfl, q⟩
instance st_k {b : Bool} {P : Bool → Prop} : Stp (∃ k, V.bl b = .bl k ∧ P k) (P b) := ⟨fun h => rd_k h⟩
theorem rd_and (h : tt σ H fun c H1 => if c = true then uu σ H1 R else R false H1) : tAnd tt uu σ H R := h
instance st_and  : Stp (tAnd tt uu σ H R) (tt σ H fun c H1 => if c = true then uu σ H1 R else R false H1) := ⟨fun h => rd_and h⟩
theorem rd_or (h : tt σ H fun c H1 => if c = true then R true H1 else uu σ H1 R) : tOr tt uu σ H R := h
instance st_or  : Stp (tOr tt uu σ H R) (tt σ H fun c H1 => if c = true then R true H1 else uu σ H1 R) := ⟨fun h => rd_or h⟩
theorem rd_not (h : tt σ H fun c H1 => R (!c) H1) : tNot tt σ H R := h
instance st_not  : Stp (tNot tt σ H R) (tt σ H fun c H1 => R (!c) H1) := ⟨fun h => rd_not h⟩
theorem rd_andV (h : ta σ H fun x H1 => ∃ c, x = .bl c ∧ if c = true then tb σ H1 Q else Q (.bl false) H1) : tAndV ta tb σ H Q := h
instance st_andV  : Stp (tAndV ta tb σ H Q) (ta σ H fun x H1 => ∃ c, x = .bl c ∧ if c = true then tb σ H1 Q else Q (.bl false) H1) := ⟨fun h => rd_andV h⟩
theorem rd_orV (h : ta σ H fun x H1 => ∃ c, x = .bl c ∧ if c = true then Q (.bl true) H1 else tb σ H1 Q) : tOrV ta tb σ H Q := h
instance st_orV  : Stp (tOrV ta tb σ H Q) (ta σ H fun x H1 => ∃ c, x = .bl c ∧ if c = true then Q (.bl true) H1 else tb σ H1 Q) := ⟨fun h => rd_orV h⟩
theorem rd_notV (h : ta σ H fun x H1 => ∃ c, x = .bl c ∧ Q (.bl (!c)) H1) : tNotV ta σ H Q := h
instance st_notV  : Stp (tNotV ta σ H Q) (ta σ H fun x H1 => ∃ c, x = .bl c ∧ Q (.bl (!c)) H1) := ⟨fun h => rd_notV h⟩
theorem rd_ifx (h : tt σ H fun c H1 => if c = true then ta σ H1 Q else tb σ H1 Q) : tIf tt ta tb σ H Q := h
instance st_ifx  : Stp (tIf tt ta tb σ H Q) (tt σ H fun c H1 => if c = true then ta σ H1 Q else tb σ H1 Q) := ⟨fun h => rd_ifx h⟩
theorem rd_chain {r' : R2} (h : ta σ H fun x H1 => tb σ H1 fun y H2 => r x y H2 fun z H3 => ∃ k, z = .bl k ∧ (if k = true then tc σ H3 fun w' H4 => r' y w' H4 Q else Q (.bl false) H3)) : tChain r r' ta tb tc σ H Q := h
instance st_chain {r' : R2} : Stp (tChain r r' ta tb tc σ H Q) (ta σ H fun x H1 => tb σ H1 fun y H2 => r x y H2 fun z H3 => ∃ k, z = .bl k ∧ (if k = true then tc σ H3 fun w' H4 => r' y w' H4 Q else Q (.bl false) H3)) := ⟨fun h => rd_chain h⟩
theorem rd_nil (q : RA [] H) : tNil σ H RA := q
instance st_nil  : Stp (tNil σ H RA) (RA [] H) := ⟨fun h => rd_nil h⟩
theorem rd_cons (h : ta σ H fun x H1 => tr σ H1 fun xs H2 => RA (x :: xs) H2) : tCons ta tr σ H RA := h
instance st_cons  : Stp (tCons ta tr σ H RA) (ta σ H fun x H1 => tr σ H1 fun xs H2 => RA (x :: xs) H2) := ⟨fun h => rd_cons h⟩
theorem rd_tup (h : tr σ H fun xs H1 => xs.length ≤ sizeLine ∧ ∀ p, H1 p = none → Q (.ref p) (upd H1 p (.tup xs))) : tTup tr σ H Q := h
instance st_tup  : Stp (tTup tr σ H Q) (tr σ H fun xs H1 => xs.length ≤ sizeLine ∧ ∀ p, H1 p = none → Q (.ref p) (upd H1 p (.tup xs))) := ⟨fun h => rd_tup h⟩
theorem rd_lst (h : tr σ H fun xs H1 => xs.length ≤ sizeLine ∧ ∀ p, H1 p = none → Q (.ref p) (upd H1 p (.lst xs))) : tLst tr σ H Q := h
instance st_lst  : Stp (tLst tr σ H Q) (tr σ H fun xs H1 => xs.length ≤ sizeLine ∧ ∀ p, H1 p = none → Q (.ref p) (upd H1 p (.lst xs))) := ⟨fun h => rd_lst h⟩
theorem rd_pure (n : NoT H) (h : te σ H fun v H' => Same H H' ∧ Q v H) : tPure te σ H Q := ⟨n, h⟩
theorem rd_pureT (n : NoT H) (h : tt σ H fun v H' => Same H H' ∧ R v H) : tPureT tt σ H R := ⟨n, h⟩
theorem rd_call {sp : Sp} {E : XK} (h : tr σ H fun vs H1 => sp vs H1 Q E) : tCall sp [] E tr σ H Q := by
  show tr σ H fun vs H1 => sp (vs ++ []) H1 Q E
  simp only [List.append_nil]
  exact h
instance st_call {sp : Sp} {E : XK} : Stp (tCall sp [] E tr σ H Q) (tr σ H fun vs H1 => sp vs H1 Q E) := ⟨fun h => rd_call h⟩
theorem rd_cb {rr : List V → Hp → VK → Prop} (h : tr σ H fun vs H1 => rr vs H1 Q) : tCB rr tr σ H Q := h
instance st_cb {rr : List V → Hp → VK → Prop} : Stp (tCB rr tr σ H Q) (tr σ H fun vs H1 => rr vs H1 Q) := ⟨fun h => rd_cb h⟩
/-! statements -/
theorem rd_seq (h : t ⟨u ⟨nx, rt, bk, ct⟩, rt, bk, ct⟩ σ H) : tSeq t u ⟨nx, rt, bk, ct⟩ σ H := h
instance st_seq  : Stp (tSeq t u ⟨nx, rt, bk, ct⟩ σ H) (t ⟨u ⟨nx, rt, bk, ct⟩, rt, bk, ct⟩ σ H) := ⟨fun h => rd_seq h⟩
theorem rd_next (q : nx σ H) : tNext ⟨nx, rt, bk, ct⟩ σ H := q
instance st_next  : Stp (tNext ⟨nx, rt, bk, ct⟩ σ H) (nx σ H) := ⟨fun h => rd_next h⟩
theorem rd_break (q : bk σ H) : tBreak ⟨nx, rt, bk, ct⟩ σ H := q
instance st_break  : Stp (tBreak ⟨nx, rt, bk, ct⟩ σ H) (bk σ H) := ⟨fun h => rd_break h⟩
theorem rd_cont (q : ct σ H) : tCont ⟨nx, rt, bk, ct⟩ σ H := q
instance st_cont  : Stp (tCont ⟨nx, rt, bk, ct⟩ σ H) (ct σ H) := ⟨fun h => rd_cont h⟩
theorem rd_ret (h : te σ H rt) : tRet te ⟨nx, rt, bk, ct⟩ σ H := h
instance st_ret  : Stp (tRet te ⟨nx, rt, bk, ct⟩ σ H) (te σ H rt) := ⟨fun h => rd_ret h⟩
theorem rd_retN (h : rt .non H) : tRetN ⟨nx, rt, bk, ct⟩ σ H := h
instance st_retN  : Stp (tRetN ⟨nx, rt, bk, ct⟩ σ H) (rt .non H) := ⟨fun h => rd_retN h⟩
theorem rd_drop (h : te σ H fun _ H1 => nx σ H1) : tDrop te ⟨nx, rt, bk, ct⟩ σ H := h
instance st_drop  : Stp (tDrop te ⟨nx, rt, bk, ct⟩ σ H) (te σ H fun _ H1 => nx σ H1) := ⟨fun h => rd_drop h⟩
theorem rd_asg {g : TG} (h : te σ H fun x H1 => g x σ H1 nx) : tAsg te g ⟨nx, rt, bk, ct⟩ σ H := h
instance st_asg {g : TG} : Stp (tAsg te g ⟨nx, rt, bk, ct⟩ σ H) (te σ H fun x H1 => g x σ H1 nx) := ⟨fun h => rd_asg h⟩
theorem rd_gname {n : Nat} {N : St → Hp → Prop} (q : N (σ.set n (some v)) H) : gName n v σ H N := q
instance st_gname {n : Nat} {N : St → Hp → Prop} : Stp (gName n v σ H N) (N (σ.set n (some v)) H) := ⟨fun h => rd_gname h⟩
theorem rd_ifS (h : tt σ H fun b H1 => if b = true then t1 ⟨nx, rt, bk, ct⟩ σ H1 else t2 ⟨nx, rt, bk, ct⟩ σ H1) : tIfS tt t1 t2 ⟨nx, rt, bk, ct⟩ σ H := h
instance st_ifS  : Stp (tIfS tt t1 t2 ⟨nx, rt, bk, ct⟩ σ H) (tt σ H fun b H1 => if b = true then t1 ⟨nx, rt, bk, ct⟩ σ H1 else t2 ⟨nx, rt, bk, ct⟩ σ H1) := ⟨fun h => rd_ifS h⟩
theorem rd_par {m n : Nat} (h : tr σ H fun vs H1 => ∃ v w, vs = [v, w] ∧ nx ((σ.set m (some v)).set n (some w)) H1) : tPar m n tr ⟨nx, rt, bk, ct⟩ σ H := h
instance st_par {m n : Nat} : Stp (tPar m n tr ⟨nx, rt, bk, ct⟩ σ H) (tr σ H fun vs H1 => ∃ v w, vs = [v, w] ∧ nx ((σ.set m (some v)).set n (some w)) H1) := ⟨fun h => rd_par h⟩
theorem rd_par2 {v w : V} {P : V → V → Prop} (q : P v w) : ∃ v' w', [v, w] = [v', w'] ∧ P v' w' := ⟨v, w, rfl, q⟩
instance st_par2 {v w : V} {P : V → V → Prop} : Stp (∃ v' w', [v, w] = [v', w'] ∧ P v' w') (P v w) := ⟨fun h => rd_par2 h⟩
theorem rd_aug {n : Nat} {f : Int → Int → Int} (h : σ[n]? = some (some (.int i))) (q : te σ H fun y H1 => ∃ j, y = .int j ∧ nx (σ.set n (some (.int (f i j)))) H1) (mono : ∀ Q Q' : VK, (∀ v H, Q v H → Q' v H) → te σ H Q → te σ H Q') :
    tAug n te (ipI f) ⟨nx, rt, bk, ct⟩ σ H := ⟨.int i, h, mono _ _ (fun y H1 ⟨j, e, q⟩ => ⟨i, j, rfl, e, q⟩) q⟩
theorem rd_augC {n : Nat} {f : Int → Int → Int} (h : σ[n]? = some (some (.int i))) (q : nx (σ.set n (some (.int (f i j)))) H) : tAug n (tC (.int j)) (ipI f) ⟨nx, rt, bk, ct⟩ σ H := ⟨.int i, h, i, j, rfl, rfl, q⟩
/-! ifs -/
theorem rd_ite {p A B : Prop} [Decidable p] (h1 : p → A) (h2 : ¬ p → B) : if decide p = true then A else B := by
  by_cases h : p
  · rw [if_pos (decide_eq_true h)]
    exact h1 h
  · rw [if_neg (by rw [decide_eq_false h]; decide)]
    exact h2 h
theorem rd_iteN {p A B : Prop} [Decidable p] (h1 : ¬ p → A) (h2 : p → B) : if (!decide p) = true then A else B := by
  by_cases h : p
  · rw [if_neg (by rw [decide_eq_true h]; decide)]
    exact h2 h
  · rw [if_pos (by rw [decide_eq_false h]; decide)]
    exact h1 h
theorem rd_iteb {b : Bool} {A B : Prop} (h1 : b = true → A) (h2 : b = false → B) : if b = true then A else B := by
  cases b with
  | true => exact h1 rfl
  | false => exact h2 rfl
theorem rd_iteNT {A B : Prop} (h : B) : if (!true) = true then A else B := h
instance st_iteNT {A B : Prop} : Stp (if (!true) = true then A else B) (B) := ⟨fun h => rd_iteNT h⟩
theorem rd_iteNF {A B : Prop} (h : A) : if (!false) = true then A else B := h
instance st_iteNF {A B : Prop} : Stp (if (!false) = true then A else B) (A) := ⟨fun h => rd_iteNF h⟩
theorem rd_iteT {A B : Prop} (h : A) : if true = true then A else B := iteT h
instance st_iteT {A B : Prop} : Stp (if true = true then A else B) (A) := ⟨fun h => rd_iteT h⟩
theorem rd_iteF {A B : Prop} (h : B) : if false = true then A else B := iteF h
instance st_iteF {A B : Prop} : Stp (if false = true then A else B) (B) := ⟨fun h => rd_iteF h⟩
/-! while, for -/
def lBody (W : Nat → St → Hp → Prop) (m : Nat) (tb : TS) (nx : St → Hp → Prop) (rt : VK) : St → Hp → Prop := fun σ H =>
  ∃ N : St → Hp → Prop, (∀ σ' H', N σ' H' → ∃ m', m' < m ∧ W m' σ' H') ∧ tb ⟨N, rt, nx, N⟩ σ H
theorem rd_lBody {W : Nat → St → Hp → Prop} {m : Nat} (h : t ⟨fun σ' H' => ∃ m', m' < m ∧ W m' σ' H', rt, nx, fun σ' H' => ∃ m', m' < m ∧ W m' σ' H'⟩ σ H) : lBody W m t nx rt σ H := ⟨_, fun _ _ q => q, h⟩
instance st_lBody {W : Nat → St → Hp → Prop} {m : Nat} : Stp (lBody W m t nx rt σ H) (t ⟨fun σ' H' => ∃ m', m' < m ∧ W m' σ' H', rt, nx, fun σ' H' => ∃ m', m' < m ∧ W m' σ' H'⟩ σ H) := ⟨fun h => rd_lBody h⟩
theorem rd_while (W : Nat → St → Hp → Prop) (m0 : Nat) (h0 : W m0 σ H) (turn : ∀ m σ H, W m σ H → tt σ H fun b H1 => if b = true then lBody W m t nx rt σ H1 else nx σ H1) : tWhile tt t ⟨nx, rt, bk, ct⟩ σ H :=
  ⟨W, ⟨m0, h0⟩, fun m σ H w => turn m σ H w⟩
def fBody (J : It) (g : TG) (tb : TS) (nx : St → Hp → Prop) (rt : VK) : St → Hp → Prop := fun σ H => ∃ W : Nat → Nat → St → Hp → Prop, (∃ m, W 0 m σ H) ∧ ∀ i m σ H, W i m σ H →
  (J.stop i H ∧ nx σ H) ∨ (J.go i H ∧ ∃ N : St → Hp → Prop, (∀ σ' H', N σ' H' → ∃ m', m' < m ∧ W (i + 1) m' σ' H') ∧ ∀ x H', J.yld i H x H' → g x σ H' fun σ2 H2 => tb ⟨N, rt, nx, N⟩ σ2 H2)
theorem rd_for {wi : TI} {g : TG} (h : wi σ H fun J H1 => fBody J g t nx rt σ H1) : tFor wi g t ⟨nx, rt, bk, ct⟩ σ H := h
instance st_for {wi : TI} {g : TG} : Stp (tFor wi g t ⟨nx, rt, bk, ct⟩ σ H) (wi σ H fun J H1 => fBody J g t nx rt σ H1) := ⟨fun h => rd_for h⟩
theorem rd_rng1 {n : Int} {S : It → Hp → Prop} (h1 : -(2 ^ 62) ≤ n) (h2 : n < 2 ^ 62) (q : S (Itr 0 n.toNat) H) : ∃ j : Int, ([.int n] : List V) = [.int j] ∧ -(2 ^ 62) ≤ j ∧ j < 2 ^ 62 ∧ S (Itr 0 j.toNat) H := ⟨n, rfl, h1, h2, q⟩
theorem rd_iRng1 {S : It → Hp → Prop} (h : tr σ H fun vs H1 => ∃ j : Int, vs = [.int j] ∧ -(2 ^ 62) ≤ j ∧ j < 2 ^ 62 ∧ S (Itr 0 j.toNat) H1) : iRng1 tr σ H S := h
theorem rd_iRng2 {S : It → Hp → Prop} (h : tr σ H fun vs H1 => ∃ i j : Int, vs = [.int i, .int j] ∧ (-(2 ^ 62) ≤ i ∧ i < 2 ^ 62 ∧ -(2 ^ 62) ≤ j ∧ j < 2 ^ 62) ∧ S (Itr i (j - i).toNat) H1) : iRng2 tr σ H S := h
theorem rd_rng2 {m n : Int} {S : It → Hp → Prop} (h1 : -(2 ^ 62) ≤ m ∧ m < 2 ^ 62 ∧ -(2 ^ 62) ≤ n ∧ n < 2 ^ 62) (q : S (Itr m (n - m).toNat) H) : ∃ i j : Int, ([.int m, .int n] : List V) = [.int i, .int j] ∧ (-(2 ^ 62) ≤ i ∧ i < 2 ^ 62 ∧ -(2 ^ 62) ≤ j ∧ j < 2 ^ 62) ∧ S (Itr i (j - i).toNat) H := ⟨m, n, rfl, h1, q⟩
theorem rd_forR {lo : Int} {n : Nat} {g : TG} (Pv : Nat → St → Hp → Prop) (h0 : Pv 0 σ H)
    (hs : ∀ i σ H, i < n → Pv i σ H → g (.int (lo + i)) σ H fun σ2 H2 => t ⟨Pv (i + 1), rt, nx, Pv (i + 1)⟩ σ2 H2) (hd : ∀ σ H, Pv n σ H → nx σ H) : fBody (Itr lo n) g t nx rt σ H :=
  for_range (D := ⟨nx, rt, fun _ _ => False, fun _ _ => False⟩) Pv h0 hs hd
theorem rd_forL {a : Addr} {xs : List V} {g : TG} (Pv : Nat → St → Hp → Prop) (h0 : Pv 0 σ H) (hl : ∀ i σ H, i ≤ xs.length → Pv i σ H → SqL K H a xs)
    (hs : ∀ i x σ H, xs[i]? = some x → Pv i σ H → g x σ H fun σ2 H2 => t ⟨Pv (i + 1), rt, nx, Pv (i + 1)⟩ σ2 H2) (hd : ∀ σ H, Pv xs.length σ H → nx σ H) : fBody (Itl K a) g t nx rt σ H :=
  for_list (D := ⟨nx, rt, fun _ _ => False, fun _ _ => False⟩) Pv h0 hl hs hd
theorem rd_forT {a : Addr} {xs : List V} {g : TG} (Pv : Nat → St → Hp → Prop) (h0 : Pv 0 σ H) (hl : ∀ i σ H, i ≤ xs.length → Pv i σ H → SqT K H a xs)
    (hs : ∀ i x σ H, xs[i]? = some x → Pv i σ H → g x σ H fun σ2 H2 => t ⟨Pv (i + 1), rt, nx, Pv (i + 1)⟩ σ2 H2) (hd : ∀ σ H, Pv xs.length σ H → nx σ H) : fBody (Itt K a) g t nx rt σ H :=
  for_tup (D := ⟨nx, rt, fun _ _ => False, fun _ _ => False⟩) Pv h0 hl hs hd
theorem rd_iList {S : It → Hp → Prop} (h : ta σ H fun x H1 => ∃ a, x = .ref a ∧ (∃ xs, SqL K H1 a xs) ∧ S (Itl K a) H1) : iList K ta σ H S := h
theorem rd_iTup {S : It → Hp → Prop} (h : ta σ H fun x H1 => ∃ a, x = .ref a ∧ (∃ xs, SqT K H1 a xs) ∧ S (Itt K a) H1) : iTup K ta σ H S := h
theorem rd_ixL {p : Addr} {xs : List V} (h : SqL K H p xs) (ha : atI xs i = some v) (q : Q v H) : rIxL K (.ref p) (.int i) H Q := ⟨p, xs, i, v, rfl, rfl, h, ha, q⟩
theorem rd_ixT {p : Addr} {xs : List V} (h : SqT K H p xs) (ha : atI xs i = some v) (q : Q v H) : rIxT K (.ref p) (.int i) H Q := ⟨p, xs, i, v, rfl, rfl, h, ha, q⟩
theorem rd_inL {p : Addr} {xs : List V} (h : SqL K H p xs) (hx : flatV x = true) (hf : xs.all flatV = true) (q : Q (.bl (inV x xs)) H) : rIn K false x (.ref p) H Q := ⟨p, xs, rfl, .inl h, hx, hf, q⟩
theorem rd_inT {p : Addr} {xs : List V} (h : SqT K H p xs) (hx : flatV x = true) (hf : xs.all flatV = true) (q : Q (.bl (inV x xs)) H) : rIn K false x (.ref p) H Q := ⟨p, xs, rfl, .inr h, hx, hf, q⟩
theorem rd_ninT {p : Addr} {xs : List V} (h : SqT K H p xs) (hx : flatV x = true) (hf : xs.all flatV = true) (q : Q (.bl (!inV x xs)) H) : rIn K true x (.ref p) H Q := ⟨p, xs, rfl, .inr h, hx, hf, q⟩
end
theorem same_new {H : Hp} {p : Addr} {o : HO} (h : H p = none) : Same H (upd H p o) := fun b x e => by
  rw [upd_ne (ne_of_none e h)]
  exact e
end L2

namespace L2
open PySem PySem.Spec PyProof.Rows
section
variable {σ : St} {H : Hp} {Q : VK} {K : PySem.W.Frag} {v : V} {N : St → Hp → Prop} {S : Hp → Prop}
theorem rd_gsub {to ti : TE} {t : TSet} (h : to σ H fun o H1 => ti σ H1 fun i H2 => t o i v H2 fun H3 => N σ H3) : gSub to ti t v σ H N := h
instance st_gsub {to ti : TE} {t : TSet} : Stp (gSub to ti t v σ H N) (to σ H fun o H1 => ti σ H1 fun i H2 => t o i v H2 fun H3 => N σ H3) := ⟨fun h => rd_gsub h⟩
theorem rd_setL {p : Addr} {xs : List V} {k : Int} {j : Nat} (h : H p = some (.lst xs)) (hj : ixN xs.length k = some j) (q : S (upd H p (.lst (xs.set j v)))) : rSetL (.ref p) (.int k) v H S := ⟨p, xs, k, j, rfl, rfl, h, hj, q⟩
theorem rd_ixH {p : Addr} {xs : List V} {i : Int} (h : H p = some (.lst xs)) (ha : atI xs i = some v) (q : Q v H) : rIxL K (.ref p) (.int i) H Q := ⟨p, xs, i, v, rfl, rfl, SqL.of h, ha, q⟩
end
end L2

namespace L2
open PySem PySem.Spec PyProof.Rows
section
variable {σ : St} {H : Hp} {Q : VK} {K : PySem.W.Frag} {v x y : V} {N : St → Hp → Prop} {S : Hp → Prop} {p : Addr} {o : HO}
theorem rd_new {n : Nat} {F : Addr → Prop} (h : n ≤ sizeLine) (q : ∀ p, H p = none → F p) : n ≤ sizeLine ∧ ∀ p, H p = none → F p := ⟨h, q⟩
theorem rd_back {P : Prop} (hp : H p = none) (q : P) : Same H (upd H p o) ∧ P := ⟨same_new hp, q⟩
theorem rd_backR {P : Prop} (q : P) : Same H H ∧ P := ⟨Same.refl H, q⟩
instance st_backR {P : Prop} : Stp (Same H H ∧ P) (P) := ⟨fun h => rd_backR h⟩
theorem inV2 {i a b : Int} : inV (.int i) [.int a, .int b] = decide (i = a ∨ i = b) := by
  simp only [inV, eqV, List.any_cons, List.any_nil, Bool.or_false]
  by_cases h1 : i = a
  · subst h1
    simp
  · by_cases h2 : i = b
    · subst h2
      simp
    · have e1 : (a == i) = false := by simpa using Ne.symm h1
      have e2 : (b == i) = false := by simpa using Ne.symm h2
      rw [e1, e2]
      simp [h1, h2]
theorem rd_in2 {i a b : Int} (q : Q (.bl (decide (i = a ∨ i = b))) (upd H p (.tup [.int a, .int b]))) : rIn K false (.int i) (.ref p) (upd H p (.tup [.int a, .int b])) Q :=
  ⟨p, _, rfl, .inr (SqT.of upd_same), rfl, rfl, by
    show Q (.bl (inV (.int i) [.int a, .int b])) _
    rw [inV2]
    exact q⟩
instance st_in2 {i a b : Int} : Stp (rIn K false (.int i) (.ref p) (upd H p (.tup [.int a, .int b])) Q) (Q (.bl (decide (i = a ∨ i = b))) (upd H p (.tup [.int a, .int b]))) := ⟨fun h => rd_in2 h⟩
theorem rd_gtup {a : Addr} {xs : List V} {n : Nat} {t : TGs} (h : SqT K H a xs) (hn : xs.length = n) (q : t xs σ H N) : gTup K n t (.ref a) σ H N := ⟨a, xs, rfl, h, hn, q⟩
theorem rd_gcons {t : TG} {u : TGs} {xs : List V} (q : t x σ H fun σ' H' => u xs σ' H' N) : gCons t u (x :: xs) σ H N := ⟨x, xs, rfl, q⟩
instance st_gcons {t : TG} {u : TGs} {xs : List V} : Stp (gCons t u (x :: xs) σ H N) (t x σ H fun σ' H' => u xs σ' H' N) := ⟨fun h => rd_gcons h⟩
theorem rd_gnil (q : N σ H) : gNil [] σ H N := ⟨rfl, q⟩
instance st_gnil  : Stp (gNil [] σ H N) (N σ H) := ⟨fun h => rd_gnil h⟩
theorem rd_bm {T : String} {r : V → List V → Hp → VK → Prop} {to : TE} {t : TA} (h : to σ H fun x H1 => tyV K T x H1 ∧ t σ H1 fun xs H2 => r x xs H2 Q) : tBM K T r to t σ H Q := h
instance st_bm {T : String} {r : V → List V → Hp → VK → Prop} {to : TE} {t : TA} : Stp (tBM K T r to t σ H Q) (to σ H fun x H1 => tyV K T x H1 ∧ t σ H1 fun xs H2 => r x xs H2 Q) := ⟨fun h => rd_bm h⟩
theorem rd_bm0 {T : String} {r : V → List V → Hp → VK → Prop} {to : TE} (h : to σ H fun x H1 => tyV K T x H1 ∧ r x [] H1 Q) : tBM0 K T r to σ H Q := h
instance st_bm0 {T : String} {r : V → List V → Hp → VK → Prop} {to : TE} : Stp (tBM0 K T r to σ H Q) (to σ H fun x H1 => tyV K T x H1 ∧ r x [] H1 Q) := ⟨fun h => rd_bm0 h⟩
theorem rd_tyL {xs : List V} {P : Prop} (h : H p = some (.lst xs)) (q : P) : tyV K "list" (.ref p) H ∧ P := ⟨.inl ⟨rfl, _, SqL.of h⟩, q⟩
theorem rd_append {xs : List V} (h : H p = some (.lst xs)) (hl : xs.length < sizeLine) (q : Q .non (upd H p (.lst (xs ++ [y])))) : rAppend (.ref p) [y] H Q := ⟨p, xs, y, rfl, rfl, h, hl, q⟩
theorem same_upd2 {H' : Hp} {o1 : HO} (h : Same H H') (hp : H p = none) : Same H (upd H' p o1) := fun b x e => by
  rw [upd_ne (ne_of_none e hp)]
  exact h b x e
theorem upd_keep {q : Addr} {u : HO} (h : H p = some o) (hq : H q = none) : upd H q u p = some o := (upd_ne (ne_of_none h hq)).trans h
theorem upd_lst {H : Hp} {p : Addr} {a b : HO} : upd (upd H p a) p b = upd H p b := upd_upd
/-- the raising, its argument read -/
theorem rd_err {C : Addr} {n : Nat} {fl : List V → List (Str × V)} {vs : List V} {Q : XK} (hl : vs.length = n) (hn : n ≤ 1000) (h : ∀ d, H d = none → Q (.ref C) (some d) (upd H d (.xd (fl vs)))) : True := trivial
end
end L2

namespace L2
open PySem PySem.Spec PyProof.Rows
theorem rd_cut {σ : St} {H : Hp} {t u : TS} {nx : St → Hp → Prop} {rt : VK} {bk ct : St → Hp → Prop} (Mid : St → Hp → Prop) (h : t ⟨Mid, rt, bk, ct⟩ σ H) (q : ∀ σ' H', Mid σ' H' → u ⟨nx, rt, bk, ct⟩ σ' H') : C8.tCut t u ⟨nx, rt, bk, ct⟩ σ H := ⟨Mid, h, q⟩
/-! ### built-ins, by name -/
def rLenQ (K : PySem.W.Frag) : List V → Hp → VK → Prop := fun xs H Q => ∃ p ys, xs = [.ref p] ∧ (SqL K H p ys ∨ SqT K H p ys) ∧ Q (.int ys.length) H
def rLenS : List V → Hp → VK → Prop := fun xs H Q => ∃ z, xs = [.str z] ∧ z.length ≤ sizeLine ∧ Q (.int z.length) H
def rAbs : List V → Hp → VK → Prop := fun xs H Q => ∃ i, xs = [.int i] ∧ Q (.int (if i < 0 then -i else i)) H
def rMax2 : List V → Hp → VK → Prop := fun xs H Q => ∃ i j, xs = [.int i, .int j] ∧ Q (.int (if j > i then j else i)) H
def rMin2 : List V → Hp → VK → Prop := fun xs H Q => ∃ i j, xs = [.int i, .int j] ∧ Q (.int (if j < i then j else i)) H
def rInt1 : List V → Hp → VK → Prop := fun xs H Q => (∃ i, xs = [.int i] ∧ Q (.int i) H) ∨ ∃ k, xs = [.bl k] ∧ Q (.int (if k then 1 else 0)) H
def rListOf (K : PySem.W.Frag) : List V → Hp → VK → Prop := fun xs H Q => ∃ p ys, xs = [.ref p] ∧ (SqL K H p ys ∨ SqT K H p ys) ∧ ∀ l, H l = none → Q (.ref l) (upd H l (.lst ys))
section
variable {X : Cx}
theorem c_len : CallR X (.builtin "len") (rLenQ X.K) := call_len_seq
theorem c_lenS : CallR X (.builtin "len") rLenS := call_len_str
theorem c_abs : CallR X (.builtin "abs") rAbs := call_abs
theorem c_max2 (hc : X.calm = true) : CallR X (.builtin "max") rMax2 := call_max2 hc
theorem c_min2 (hc : X.calm = true) : CallR X (.builtin "min") rMin2 := call_min2 hc
theorem c_int1 : CallR X (.type "int") rInt1 := call_int1
theorem c_listOf : CallR X (.type "list") (rListOf X.K) := call_list_of
end
section
variable {H : Hp} {Q : VK} {K : PySem.W.Frag} {i j : Int} {p : Addr} {ys : List V}
theorem rd_abs (q : Q (.int (if i < 0 then -i else i)) H) : rAbs [.int i] H Q := ⟨i, rfl, q⟩
instance st_abs  : Stp (rAbs [.int i] H Q) (Q (.int (if i < 0 then -i else i)) H) := ⟨fun h => rd_abs h⟩
theorem rd_max2 (q : Q (.int (if j > i then j else i)) H) : rMax2 [.int i, .int j] H Q := ⟨i, j, rfl, q⟩
instance st_max2  : Stp (rMax2 [.int i, .int j] H Q) (Q (.int (if j > i then j else i)) H) := ⟨fun h => rd_max2 h⟩
theorem rd_min2 (q : Q (.int (if j < i then j else i)) H) : rMin2 [.int i, .int j] H Q := ⟨i, j, rfl, q⟩
instance st_min2  : Stp (rMin2 [.int i, .int j] H Q) (Q (.int (if j < i then j else i)) H) := ⟨fun h => rd_min2 h⟩
theorem rd_int (q : Q (.int i) H) : rInt1 [.int i] H Q := .inl ⟨i, rfl, q⟩
instance st_int  : Stp (rInt1 [.int i] H Q) (Q (.int i) H) := ⟨fun h => rd_int h⟩
theorem rd_intB {b : Bool} (q : Q (.int (if b then 1 else 0)) H) : rInt1 [.bl b] H Q := .inr ⟨b, rfl, q⟩
instance st_intB {b : Bool} : Stp (rInt1 [.bl b] H Q) (Q (.int (if b then 1 else 0)) H) := ⟨fun h => rd_intB h⟩
theorem rd_lenL (h : SqL K H p ys) (q : Q (.int ys.length) H) : rLenQ K [.ref p] H Q := ⟨p, ys, rfl, .inl h, q⟩
theorem rd_lenT (h : SqT K H p ys) (q : Q (.int ys.length) H) : rLenQ K [.ref p] H Q := ⟨p, ys, rfl, .inr h, q⟩
theorem rd_lenS {z : Str} (h : z.length ≤ sizeLine) (q : Q (.int z.length) H) : rLenS [.str z] H Q := ⟨z, rfl, h, q⟩
theorem rd_listOfL (h : SqL K H p ys) (q : ∀ l, H l = none → Q (.ref l) (upd H l (.lst ys))) : rListOf K [.ref p] H Q := ⟨p, ys, rfl, .inl h, q⟩
theorem rd_listOfT (h : SqT K H p ys) (q : ∀ l, H l = none → Q (.ref l) (upd H l (.lst ys))) : rListOf K [.ref p] H Q := ⟨p, ys, rfl, .inr h, q⟩
end
end L2

namespace L2
open PySem PySem.Spec PyProof.Rows
/-- a power with a written exponent -/
def rPowN (e : Nat) : R2 := fun x y H Q => ∃ i, x = .int i ∧ y = .int (e : Int) ∧ e ≤ 1000000 ∧ i.natAbs < 2 ^ 64 ∧ Q (.int (i ^ e)) H
theorem op_powN {X : Cx} (e : Nat) : OpR X (binaryOp .Pow) (rPowN e) := fun pins s σ H x y v u Q I rx ry ⟨i, e1, e2, h1, h2, q⟩ =>
  op_pow pins s σ H x y v u Q I rx ry ⟨i, (e : Int), e1, e2, ⟨Int.natCast_nonneg _, by omega, h2⟩, q⟩
theorem rd_powN {e : Nat} {i z : Int} {H : Hp} {Q : VK} (hz : z = (e : Int)) (h1 : e ≤ 1000000) (h2 : i.natAbs < 2 ^ 64) (q : Q (.int (i ^ e)) H) : rPowN e (.int i) (.int z) H Q := ⟨i, rfl, by rw [hz], h1, h2, q⟩
end L2

namespace L2
open PySem PySem.Spec PyProof.Rows
/-! ### a def of the text, and what it keeps -/
structure DefAt (K : PySem.W.Frag) (mg : Str → Option Value) (x : Str) (st : Stmt) (ps : List Str) : Prop where
  ex : ∃ (f : Addr) (fd : FuncData), Fun K x x st f fd ∧ mg x = some (.ref f) ∧ Binds K fd ps []
structure Def (P : Program) (w : World) (K : PySem.W.Frag) (mg : Str → Option Value) (base : Heap) (k : Nat) (x : Str) (ps : List Str) (sp : Sp) : Prop where
  ex : ∃ (f : Addr) (fd : FuncData), FnOk P w K mg base (L2.CX P w) k f fd ps sp ∧ mg x = some (.ref f) ∧ PySem.W.keepIn K (.ref f) = true ∧ Binds K fd ps []
section
variable {P : Program} {w : World} {K : PySem.W.Frag} {mg : Str → Option Value} {base : Heap}
theorem DefAt.ok {x : Str} {st : Stmt} {N ps : List Str} {k : Nat} {sp : Sp} (D : DefAt K mg x st ps) (S : FnScope N ps (defScope st)) (len : ∀ vs H Q E, sp vs H Q E → vs.length = ps.length)
    (hbody : ∀ (f : Addr) (cdv : Value) (A : Around) (outer : List Env) (s : Shared) (H : Hp) (vs : List V) (Q : VK) (E : XK), Room k (A.deeper (envOfC x (defScope st) s.heap.objs.size f cdv)) → sp vs H Q E →
      ∃ t, PSs (cxOf (L2.CX P w) P w K mg base N x (defScope st) f cdv A outer s H E) (defBody st) t ∧ t ⟨fun _ H' => Q .non H', Q, fun _ _ => False, fun _ _ => False⟩ (start N vs) H) : Def P w K mg base (k + 1) x ps sp := by
  obtain ⟨f, fd, F, g, b⟩ := D.ex
  exact ⟨f, fd, F.okX S len fun cdv A outer s H vs Q E hr h => hbody f cdv A outer s H vs Q E hr h, g, F.kp, b⟩
theorem Def.imp {k : Nat} {x : Str} {ps : List Str} {sp sp' : Sp} (D : Def P w K mg base k x ps sp) (h : ∀ vs H Q E, sp' vs H Q E → sp vs H Q E) : Def P w K mg base k x ps sp' := by
  obtain ⟨f, fd, F, g, kp, b⟩ := D.ex
  exact ⟨f, fd, F.imp h, g, kp, b⟩
theorem Def.mono {j k : Nat} {x : Str} {ps : List Str} {sp : Sp} (D : Def P w K mg base j x ps sp) (h : j ≤ k) : Def P w K mg base k x ps sp := by
  obtain ⟨f, fd, F, g, kp, b⟩ := D.ex
  exact ⟨f, fd, F.mono h, g, kp, b⟩
theorem Def.forget {k : Nat} {x : Str} {ps : List Str} {sp : Sp} (D : Def P w K mg base k x ps sp) : Def P w K mg base k x ps (fun vs H Q E => NoT H ∧ sp vs H (fun v H' => Same H H' ∧ Q v H) E) := by
  obtain ⟨f, fd, F, g, kp, b⟩ := D.ex
  exact ⟨f, fd, fn_forget F, g, kp, b⟩
end
section
variable {X : Cx}
theorem pe_d {k : Nat} {x : Str} {ps : List Str} {sp : Sp} {E : XK} {p pos : Pos} {e : Expr} {es : List Expr} {t : TA} (D : Def X.prog X.w X.K X.mg X.base k x ps sp) (hr : Room k X.A) (hx : Passes (L2.CX X.prog X.w) X E) (ha : PA X (e :: es) t) (hg : Gl X x := by rfl)
    (hd : (x == ("__debug__" : Str)) = false := by decide) (he : starEach (e :: es) X.env = (false, eval e X.env) :: starEach es X.env := by rfl) (hpl : (backTo pos (starEach es X.env)).any (·.1) = false := by rfl) :
    PE X (.Call (.Name x p) (e :: es) [] pos) (tCall sp [] E t) := by
  obtain ⟨f, fd, F, g, kp, b⟩ := D.ex
  exact pe_call F hr hg g kp b .nil hx ha hd he hpl
theorem pe_d0 {k : Nat} {x : Str} {ps : List Str} {sp : Sp} {E : XK} {p pos : Pos} (D : Def X.prog X.w X.K X.mg X.base k x ps sp) (hr : Room k X.A) (hx : Passes (L2.CX X.prog X.w) X E) (hg : Gl X x := by rfl) (hd : (x == ("__debug__" : Str)) = false := by decide) :
    PE X (.Call (.Name x p) [] [] pos) (tCall sp [] E tNil) := by
  obtain ⟨f, fd, F, g, kp, b⟩ := D.ex
  exact pe_call0 F hr hg g kp b .nil hx hd
/-- within a try's body: what is raised is wished for at the caller's slots -/
theorem pe_dS {k : Nat} {x : Str} {ps : List Str} {sp : Sp} {W : WX} {p pos : Pos} {e : Expr} {es : List Expr} {t : TA} (D : Def X.prog X.w X.K X.mg X.base k x ps sp) (hr : Room k X.A) (tk : Takes X W) (ha : PA X (e :: es) t) (hg : Gl X x := by rfl)
    (hd : (x == ("__debug__" : Str)) = false := by decide) (he : starEach (e :: es) X.env = (false, eval e X.env) :: starEach es X.env := by rfl) (hpl : (backTo pos (starEach es X.env)).any (·.1) = false := by rfl) :
    PE X (.Call (.Name x p) (e :: es) [] pos) (tCallS sp (WE W) t) := by
  obtain ⟨f, fd, F, g, kp, b⟩ := D.ex
  exact pe_callS F hr hg g kp b (fun σ => passAt tk σ) ha hd he hpl
theorem rd_callS {sp : Sp} {W : WX} {tr : TA} {σ : St} {H : Hp} {Q : VK} (h : tr σ H fun vs H1 => sp vs H1 Q (WE W σ)) : tCallS sp (WE W) tr σ H Q := h
instance st_callS {sp : Sp} {W : WX} {tr : TA} {σ : St} {H : Hp} {Q : VK} : Stp (tCallS sp (WE W) tr σ H Q) (tr σ H fun vs H1 => sp vs H1 Q (WE W σ)) := ⟨fun h => rd_callS h⟩
end
/-! ### the program's own errors -/
/-- what the top has written of ClockError, at CC -/
structure BaseC (K : PySem.W.Frag) (mg : Str → Option Value) (CC : Addr) : Prop where
  g : mg "ClockError" = some (.ref CC)
  rd : PySem.W.readsIn K CC (.type "type") = true
  ga : PySem.W.specialIn K (.ref CC) "__getattribute__" = some (some (.builtin "type.__getattribute__"))
  ini : PySem.W.findCls K (.ref CC) (.type "type") "__init__" = some (.val (.builtin "ValueError.__init__"))
section
variable {X : Cx} {e : Expr} {es : List Expr} {ta : TA} {p1 p2 pos : Pos}
theorem pe_ceinit {pl : Sem Bool} {CC : Addr} (B : BaseC X.K X.mg CC) (ha : PA X (e :: es) ta) (hg : Gl X "ClockError" := by rfl)
    (hc : eval (.Call (.Attribute (.Name "ClockError" p1) "__init__" p2) (e :: es) [] pos) X.env = (do
      let ov ← eval (.Name "ClockError" p1) X.env
      standAt p2.atName
      let (f, first) ← holding [ov] (getMethod ov "__init__" pl)
      callWith pos f first (backTo pos (starEach (e :: es) X.env)) (backToKw pos (keywordEach [] X.env))) := by rfl)
    (he : starEach (e :: es) X.env = (false, eval e X.env) :: starEach es X.env := by rfl) (hpl : (backTo pos (starEach es X.env)).any (·.1) = false := by rfl) :
    PE X (.Call (.Attribute (.Name "ClockError" p1) "__init__" p2) (e :: es) [] pos) (tVeI X.K ta) := by
  refine ⟨fun pins s σ H Q I h => ?_⟩
  refine PySem.W.methodCall_KW (ld_glob I hg B.g ?_ (by decide)) hc
  refine PySem.W.method_cls I.kIn B.ga (PySem.W.cls_value I.kIn B.rd B.ini (by decide +kernel) ?_)
  show wpAny _ _ (callWith pos (Value.builtin "ValueError.__init__") [] (backTo pos (starEach (e :: es) X.env)) []) _ _ _
  refine PyProof.Rows.callWith_method1 (thn (ha.run pos pins _ σ H _ (I.tok _) h) fun us s1 ⟨vs, H1, I1, r1, a, C, ws, ev, hl, T, ea, q⟩ => ?_) he hpl
  subst ev
  cases r1 with
  | @cons _ u0 _ ur ra rw' =>
    obtain rfl : u0 = Value.ref a := ra
    have hlen : ur.length ≤ sizeLine := by
      rw [← Paired.length rw', sizeLine_eq]
      omega
    exact oinit_ok T I1 ea hlen fun s' J => ⟨.non, H1, J, rfl, q⟩
end
/-- __init__ of an error with fields: the values ws become fl ws -/
def spErr (C : Addr) (n : Nat) (fl : List V → List (Str × V)) : Sp := fun vs H Q _ => ∃ (a : Addr) (ws : List V), vs = .ref a :: ws ∧ ws.length = n ∧ H a = some (exo a C none) ∧
  ∀ dx, H dx = none → dx ≠ a → Q .non (upd (upd H dx (exd dx (fl ws))) a (exo a C (some dx)))
/-- a class of the program's errors: raised by its name, with n values, the fields fl -/
structure ErrC (P : Program) (w : World) (K : PySem.W.Frag) (mg : Str → Option Value) (base : Heap) (x : Str) (n : Nat) (fl : List V → List (Str × V)) (C : Addr) : Prop where
  g : mg x = some (.ref C)
  T : OexC K C
  X : XfC K C
  self : PySem.W.exmOne K (.ref C) (.ref C) = some true
  ini : ∃ (fI : Addr) (fd : FuncData) (ps : List Str), PySem.W.findIn K (.ref C) "__init__" = some (some (.ref fI)) ∧ PySem.W.typeIn K (.ref fI) = some (.type "function") ∧ FnOk P w K mg base (L2.CX P w) 1 fI fd ps (spErr C n fl) ∧ Binds K fd ps []
theorem pmk_err {X : Cx} {x : Str} {C : Addr} {n : Nat} {fl : List V → List (Str × V)} {e : Expr} {es : List Expr} {ta : TA} {p pos : Pos} (Z : ErrC X.prog X.w X.K X.mg X.base x n fl C) (hr : Room 2 X.A) (ha : PA X (e :: es) ta) (hg : Gl X x := by rfl)
    (hdb : (x == ("__debug__" : Str)) = false := by decide) (he : starEach (e :: es) X.env = (false, eval e X.env) :: starEach es X.env := by rfl) (hpl : (backTo pos (starEach es X.env)).any (·.1) = false := by rfl) :
    PMk X (.Call (.Name x p) (e :: es) [] pos) (tMkO C (spErr C n fl) [] ta) := by
  obtain ⟨fI, fd, ps, iC, tI, F, b⟩ := Z.ini
  exact pmk_oex Z.T iC tI F hr b .nil passL hg Z.g ha hdb he hpl
/-- what the raising asks -/
theorem rd_mk {C : Addr} {n : Nat} {fl : List V → List (Str × V)} {ta : TA} {σ : St} {H : Hp} {Q : XK} (h : ta σ H fun vs H1 => vs.length ≤ 1000 ∧ ∀ a, H1 a = none → spErr C n fl (.ref a :: (vs ++ [])) (upd H1 a (exo a C none))
  (fun v H2 => v = .non ∧ ∃ (d : Addr) (fs : List (Str × V)), H2 a = some (exo a C (some d)) ∧ H2 d = some (exd d fs) ∧ H1 d = none ∧ Q (.ref C) (some d) (upd (del H2 a) d (.xd fs))) (fun _ _ _ => False)) : tMkO C (spErr C n fl) [] ta σ H Q := h
instance st_mk {C : Addr} {n : Nat} {fl : List V → List (Str × V)} {ta : TA} {σ : St} {H : Hp} {Q : XK} : Stp (tMkO C (spErr C n fl) [] ta σ H Q) (ta σ H fun vs H1 => vs.length ≤ 1000 ∧ ∀ a, H1 a = none → spErr C n fl (.ref a :: (vs ++ [])) (upd H1 a (exo a C none))
  (fun v H2 => v = .non ∧ ∃ (d : Addr) (fs : List (Str × V)), H2 a = some (exo a C (some d)) ∧ H2 d = some (exd d fs) ∧ H1 d = none ∧ Q (.ref C) (some d) (upd (del H2 a) d (.xd fs))) (fun _ _ _ => False)) := ⟨fun h => rd_mk h⟩
theorem rd_mk1 {C : Addr} {n : Nat} {fl : List V → List (Str × V)} {vs : List V} {H1 : Hp} {Q : XK} (hl : vs.length = n) (hn : n ≤ 1000) (h : ∀ d, H1 d = none → Q (.ref C) (some d) (upd H1 d (.xd (fl vs)))) :
    vs.length ≤ 1000 ∧ ∀ a, H1 a = none → spErr C n fl (.ref a :: (vs ++ [])) (upd H1 a (exo a C none))
      (fun v H2 => v = .non ∧ ∃ (d : Addr) (fs : List (Str × V)), H2 a = some (exo a C (some d)) ∧ H2 d = some (exd d fs) ∧ H1 d = none ∧ Q (.ref C) (some d) (upd (del H2 a) d (.xd fs))) (fun _ _ _ => False) := by
  refine ⟨by omega, fun a na => ⟨a, vs, by rw [List.append_nil], hl, upd_same, fun dx nd ne => ⟨rfl, dx, fl vs, upd_same, ?_, ?_, ?_⟩⟩⟩
  · rw [upd_ne ne, upd_same]
  · rw [upd_ne ne] at nd
    exact nd
  · have nd' : H1 dx = none := by
      rw [upd_ne ne] at nd
      exact nd
    have z := h dx nd'
    have eq : upd (del (upd (upd (upd H1 a (exo a C none)) dx (exd dx (fl vs))) a (exo a C (some dx))) a) dx (.xd (fl vs)) = upd H1 dx (.xd (fl vs)) := by
      funext b
      by_cases hb : b = dx
      · rw [hb, upd_same, upd_same]
      · rw [upd_ne hb, upd_ne hb]
        by_cases ha : b = a
        · rw [ha, del_same, na]
        · rw [del_ne ha, upd_ne ha, upd_ne hb, upd_ne ha]
    rw [eq]
    exact z
end L2

namespace L2
open PySem PySem.Spec PyProof.Rows
/-- what the top has written of an error's class -/
structure ErrRaw (K : PySem.W.Frag) (mg : Str → Option Value) (x : Str) (C : Addr) (sI : Stmt) (qual : Str) (ps : List Str) : Prop where
  g : mg x = some (.ref C)
  T : OexC K C
  X : XfC K C
  self : PySem.W.exmOne K (.ref C) (.ref C) = some true
  ini : ∃ (fI : Addr) (fd : FuncData), PySem.W.findIn K (.ref C) "__init__" = some (some (.ref fI)) ∧ PySem.W.typeIn K (.ref fI) = some (.type "function") ∧ Fun K "__init__" qual sI fI fd ∧ Binds K fd ps []
theorem ErrC.of {P : Program} {w : World} {K : PySem.W.Frag} {mg : Str → Option Value} {base : Heap} {x : Str} {C : Addr} {sI : Stmt} {qual : Str} {ps : List Str} {n : Nat} {fl : List V → List (Str × V)} (R : ErrRaw K mg x C sI qual ps)
    (h : ∀ (fI : Addr) (fd : FuncData), Fun K "__init__" qual sI fI fd → FnOk P w K mg base (L2.CX P w) 1 fI fd ps (spErr C n fl)) : ErrC P w K mg base x n fl C := by
  obtain ⟨fI, fd, i, t, F, b⟩ := R.ini
  exact ⟨R.g, R.T, R.X, R.self, fI, fd, ps, i, t, h fI fd F, b⟩
/-- an error of the class at S is what «except S» names -/
theorem exm_self {K : PySem.W.Frag} {S : Addr} (h1 : PySem.W.subIn K (.ref S) (.type "BaseException") = some true) (h2 : PySem.W.isClsIn K S = true) (h3 : PySem.W.typeIn K (.ref S) = some (.type "type")) (h4 : PySem.W.subIn K (.ref S) (.ref S) = some true) :
    PySem.W.exmOne K (.ref S) (.ref S) = some true := by
  have e1 : (PySem.W.subIn K (.ref S) (.type "BaseException") == some true) = true := by rw [h1] <;> rfl
  have e2 : ((PySem.W.clsIn K S).isSome && PySem.W.typeIn K (.ref S) == some (.type "type")) = true := by
    have h2' : (PySem.W.clsIn K S).isSome = true := h2
    rw [h2', h3] <;> rfl
  show (if (PySem.W.subIn K (.ref S) (.type "BaseException") == some true) = true then (if ((PySem.W.clsIn K S).isSome && PySem.W.typeIn K (.ref S) == some (.type "type")) = true then PySem.W.subIn K (.ref S) (.ref S) else none) else none) = some true
  rw [if_pos e1, if_pos e2]
  exact h4
theorem NoT.only {H : Hp} (h : Only H) : NoT H := fun a o e => by
  rcases h a with z | ⟨u, xs, z⟩
  · rw [z] at e
    cases e
  · rw [z] at e
    cases e
    rfl
theorem len_1 {α : Type} {ws : List α} (h : ws.length = 1) : ∃ a, ws = [a] := match ws, h with | [a], _ => ⟨a, rfl⟩
theorem len_2 {α : Type} {ws : List α} (h : ws.length = 2) : ∃ a b, ws = [a, b] := match ws, h with | [a, b], _ => ⟨a, b, rfl⟩
theorem len_3 {α : Type} {ws : List α} (h : ws.length = 3) : ∃ a b c, ws = [a, b, c] := match ws, h with | [a, b, c], _ => ⟨a, b, c, rfl⟩
/-- law's: a list of at most 63 ints is handed in, True comes out -/
def spLaw (K : PySem.W.Frag) : Sp := fun vs H Q _ => ∃ (a : Addr) (ns : List Int), vs = [.ref a] ∧ SqL K H a (ns.map V.int) ∧ ns.length ≤ 63 ∧ NoT H ∧ ∀ H', Q (.bl true) H'
end L2

namespace L2
open PySem PySem.Spec PyProof.Rows
/-! ### what is walked, by name -/
def rRng1 (S : It → Hp → Prop) (vs : List V) (H : Hp) : Prop := ∃ j : Int, vs = [.int j] ∧ -(2 ^ 62) ≤ j ∧ j < 2 ^ 62 ∧ S (Itr 0 j.toNat) H
def rRng2 (S : It → Hp → Prop) (vs : List V) (H : Hp) : Prop := ∃ i j : Int, vs = [.int i, .int j] ∧ (-(2 ^ 62) ≤ i ∧ i < 2 ^ 62 ∧ -(2 ^ 62) ≤ j ∧ j < 2 ^ 62) ∧ S (Itr i (j - i).toNat) H
def rItL (K : PySem.W.Frag) (S : It → Hp → Prop) (x : V) (H : Hp) : Prop := ∃ a, x = .ref a ∧ (∃ xs, SqL K H a xs) ∧ S (Itl K a) H
def rItT (K : PySem.W.Frag) (S : It → Hp → Prop) (x : V) (H : Hp) : Prop := ∃ a, x = .ref a ∧ (∃ xs, SqT K H a xs) ∧ S (Itt K a) H
section
variable {σ : St} {H : Hp} {Q : VK} {K : PySem.W.Frag} {v x y : V} {ta te : TE} {tt : TT} {tr : TA} {S : It → Hp → Prop}
theorem rd_iR1 (h : tr σ H (rRng1 S)) : iRng1 tr σ H S := h
instance st_iR1  : Stp (iRng1 tr σ H S) (tr σ H (rRng1 S)) := ⟨fun h => rd_iR1 h⟩
theorem rd_iR2 (h : tr σ H (rRng2 S)) : iRng2 tr σ H S := h
instance st_iR2  : Stp (iRng2 tr σ H S) (tr σ H (rRng2 S)) := ⟨fun h => rd_iR2 h⟩
theorem rd_r1 {n : Int} (h1 : -(2 ^ 62) ≤ n) (h2 : n < 2 ^ 62) (q : S (Itr 0 n.toNat) H) : rRng1 S [.int n] H := ⟨n, rfl, h1, h2, q⟩
theorem rd_r2 {m n : Int} (h1 : -(2 ^ 62) ≤ m ∧ m < 2 ^ 62 ∧ -(2 ^ 62) ≤ n ∧ n < 2 ^ 62) (q : S (Itr m (n - m).toNat) H) : rRng2 S [.int m, .int n] H := ⟨m, n, rfl, h1, q⟩
theorem rd_iL (h : ta σ H (rItL K S)) : iList K ta σ H S := h
instance st_iL  : Stp (iList K ta σ H S) (ta σ H (rItL K S)) := ⟨fun h => rd_iL h⟩
theorem rd_iT (h : ta σ H (rItT K S)) : iTup K ta σ H S := h
instance st_iT  : Stp (iTup K ta σ H S) (ta σ H (rItT K S)) := ⟨fun h => rd_iT h⟩
theorem rd_iL1 {a : Addr} {xs : List V} (h : SqL K H a xs) (q : S (Itl K a) H) : rItL K S (.ref a) H := ⟨a, rfl, ⟨xs, h⟩, q⟩
theorem rd_iT1 {a : Addr} {xs : List V} (h : SqT K H a xs) (q : S (Itt K a) H) : rItT K S (.ref a) H := ⟨a, rfl, ⟨xs, h⟩, q⟩
/-! ### list comprehensions -/
def lcB (J : It) (g : TG) (tt : TT) (te : TE) (vs : List Nat) (σ : St) (Q : VK) (H1 : Hp) : Prop := ∀ D, H1 D = none → ∃ W : Nat → Nat → Hp → Prop, (∃ m, W 0 m (upd H1 D (.lst []))) ∧ ∀ i m H, W i m H →
  (J.stop i H ∧ Q (.ref D) H) ∨ (J.go i H ∧ ∃ Nx : Hp → Prop, (∀ H', Nx H' → ∃ m', m' < m ∧ W (i + 1) m' H') ∧ ∀ x H', J.yld i H x H' → g x (wipe σ vs) H' fun σ2 H2 => wipe σ2 vs = wipe σ vs ∧ tt σ2 H2 fun b H3 =>
    if b = true then te σ2 H3 fun y H4 => ∃ acc, H4 D = some (.lst acc) ∧ acc.length < sizeLine ∧ Nx (upd H4 D (.lst (acc ++ [y]))) else Nx H3)
theorem rd_lc {wi : TI} {g : TG} {vs : List Nat} (h : wi σ H fun J H1 => lcB J g tt te vs σ Q H1) : tLc wi g tt te vs σ H Q := h
instance st_lc {wi : TI} {g : TG} {vs : List Nat} : Stp (tLc wi g tt te vs σ H Q) (wi σ H fun J H1 => lcB J g tt te vs σ Q H1) := ⟨fun h => rd_lc h⟩
theorem rd_yes {R : Bool → Hp → Prop} (q : R true H) : tYes σ H R := q
instance st_yes {R : Bool → Hp → Prop} : Stp (tYes σ H R) (R true H) := ⟨fun h => rd_yes h⟩
/-- the item that was made goes onto the list; or none does -/
def LcPut (H : Hp) (D : Addr) (l0 l1 : List V) (y : V) (H4 : Hp) : Prop := ∃ acc, H4 D = some (.lst acc) ∧ acc.length < sizeLine ∧ upd H4 D (.lst (acc ++ [y])) = upd H D (.lst l1)
def LcSkip (H : Hp) (D : Addr) (l1 : List V) (H3 : Hp) : Prop := H3 = upd H D (.lst l1)
def resR (p : Nat → Bool) (f : Nat → V) (i : Nat) : List V := ((List.range i).filter p).map f
def resL (p : V → Bool) (f : V → V) (xs : List V) : List V := (xs.filter p).map f
theorem resR_len {p : Nat → Bool} {f : Nat → V} {i : Nat} : (resR p f i).length ≤ i := by
  unfold resR
  rw [List.length_map]
  have z : ((List.range i).filter p).length ≤ (List.range i).length := List.length_filter_le _ _
  rw [List.length_range] at z
  exact z
theorem resL_len {p : V → Bool} {f : V → V} {xs : List V} : (resL p f xs).length ≤ xs.length := by
  unfold resL
  rw [List.length_map]
  exact List.length_filter_le _ _
theorem put_R {D : Addr} {p : Nat → Bool} {f : Nat → V} {i : Nat} {y : V} (hi : i < 1000000) (hp : p i = true) (hy : y = f i) : LcPut H D (resR p f i) (resR p f (i + 1)) y (upd H D (.lst (resR p f i))) := by
  refine ⟨_, upd_same, Nat.lt_of_le_of_lt resR_len (Nat.lt_trans hi (by decide)), ?_⟩
  rw [upd_upd]
  unfold resR
  rw [List.range_succ, List.filter_append, List.map_append, hy]
  simp [hp]
theorem skip_R {D : Addr} {p : Nat → Bool} {f : Nat → V} {i : Nat} (hp : p i = false) : LcSkip H D (resR p f (i + 1)) (upd H D (.lst (resR p f i))) := by
  show upd H D _ = _
  unfold resR
  rw [List.range_succ, List.filter_append, List.map_append]
  simp [hp]
theorem put_L {D : Addr} {p : V → Bool} {f : V → V} {xs : List V} {x y : V} (hi : xs.length < 1000000) (hp : p x = true) (hy : y = f x) : LcPut H D (resL p f xs) (resL p f (xs ++ [x])) y (upd H D (.lst (resL p f xs))) := by
  refine ⟨_, upd_same, Nat.lt_of_le_of_lt resL_len (Nat.lt_trans hi (by decide)), ?_⟩
  rw [upd_upd]
  unfold resL
  rw [List.filter_append, List.map_append, hy]
  simp [hp]
theorem skip_L {D : Addr} {p : V → Bool} {f : V → V} {xs : List V} {x : V} (hp : p x = false) : LcSkip H D (resL p f (xs ++ [x])) (upd H D (.lst (resL p f xs))) := by
  show upd H D _ = _
  unfold resL
  rw [List.filter_append, List.map_append]
  simp [hp]
theorem rd_lcR {lo : Int} {n : Nat} {g : TG} {vs : List Nat} (p : Nat → Bool) (f : Nat → V)
    (hs : ∀ D i, H D = none → i < n → g (.int (lo + i)) (wipe σ vs) (upd H D (.lst (resR p f i))) fun σ2 H2 => wipe σ2 vs = wipe σ vs ∧ tt σ2 H2 fun b H3 => if b = true then te σ2 H3 (LcPut H D (resR p f i) (resR p f (i + 1))) else LcSkip H D (resR p f (i + 1)) H3)
    (q : ∀ D, H D = none → Q (.ref D) (upd H D (.lst (((List.range n).filter p).map f)))) : lcB (Itr lo n) g tt te vs σ Q H := by
  intro D hD
  refine ⟨fun i m H' => m = n - i ∧ i ≤ n ∧ H' = upd H D (.lst (resR p f i)), ⟨n, by simp, Nat.zero_le _, rfl⟩, ?_⟩
  rintro i m H' ⟨rfl, hi, rfl⟩
  by_cases hlt : i < n
  · refine .inr ⟨hlt, fun H' => H' = upd H D (.lst (resR p f (i + 1))), fun H' p' => ⟨n - (i + 1), by omega, rfl, hlt, p'⟩, fun x H' y => ?_⟩
    obtain ⟨e, y⟩ := y
    subst e y
    exact hs D i hD hlt
  · have e : i = n := by omega
    subst e
    exact .inl ⟨Nat.le_refl _, q D hD⟩
theorem rd_lcL {a : Addr} {xs : List V} {g : TG} {vs : List Nat} (p : V → Bool) (f : V → V) (hS : SqL K H a xs)
    (hs : ∀ D l x r, H D = none → xs = l ++ x :: r → g x (wipe σ vs) (upd H D (.lst (resL p f l))) fun σ2 H2 => wipe σ2 vs = wipe σ vs ∧ tt σ2 H2 fun b H3 => if b = true then te σ2 H3 (LcPut H D (resL p f l) (resL p f (l ++ [x]))) else LcSkip H D (resL p f (l ++ [x])) H3)
    (q : ∀ D, H D = none → Q (.ref D) (upd H D (.lst ((xs.filter p).map f)))) : lcB (Itl K a) g tt te vs σ Q H := by
  intro D hD
  refine ⟨fun i m H' => m = xs.length - i ∧ i ≤ xs.length ∧ H' = upd H D (.lst (resL p f (xs.take i))), ⟨xs.length, by simp, Nat.zero_le _, rfl⟩, ?_⟩
  rintro i m H' ⟨rfl, hi, rfl⟩
  have hS' : SqL K (upd H D (.lst (resL p f (xs.take i)))) a xs := (same_new hD).seq hS
  by_cases hlt : i < xs.length
  · have hx : xs[i]? = some xs[i] := by simp [hlt]
    have er : xs.take (i + 1) = xs.take i ++ [xs[i]] := by rw [List.take_add_one, hx]; rfl
    refine .inr ⟨⟨xs, xs[i], hS', hx⟩, fun H' => H' = upd H D (.lst (resL p f (xs.take (i + 1)))), fun H' p' => ⟨xs.length - (i + 1), by omega, rfl, hlt, p'⟩, fun x H' y => ?_⟩
    obtain ⟨e, y⟩ := y
    subst e
    have ex : x = xs[i] := Option.some.inj ((y xs hS').symm.trans hx)
    subst ex
    have z := hs D (xs.take i) xs[i] (xs.drop (i + 1)) hD (by rw [List.getElem_cons_drop, List.take_append_drop])
    rw [← er] at z
    exact z
  · have e : i = xs.length := by omega
    subst e
    rw [List.take_length]
    exact .inl ⟨⟨xs, (same_new hD).seq hS, Nat.le_refl _⟩, q D hD⟩
/-! ### deep equality -/
theorem rd_eqD {d e : PyData} (h1 : Dp K H x d) (h2 : Dp K H y e) (s1 : SeqAt.shaped d = true) (s2 : SeqAt.shaped e = true) (q : Q (.bl (PyData.eqv d e)) H) : rEqD K x y H Q := ⟨d, e, h1, h2, s1, s2, q⟩
theorem rd_neD {d e : PyData} (h1 : Dp K H x d) (h2 : Dp K H y e) (s1 : SeqAt.shaped d = true) (s2 : SeqAt.shaped e = true) (q : Q (.bl (!PyData.eqv d e)) H) : rNeD K x y H Q := ⟨d, e, h1, h2, s1, s2, q⟩
end
section
variable {K : PySem.W.Frag} {H : Hp}
theorem dpAll_ints : ∀ ns : List Int, DpAll K H (ns.map V.int) (ns.map PyData.int)
  | [] => .nil
  | n :: r => .cons (.int n) (dpAll_ints r)
theorem dpAll_bls : ∀ ns : List Bool, DpAll K H (ns.map V.bl) (ns.map PyData.bool)
  | [] => .nil
  | n :: r => .cons (.bl n) (dpAll_bls r)
theorem dp_ints {a : Addr} {ns : List Int} (h : SqL K H a (ns.map V.int)) : Dp K H (.ref a) (.list (ns.map PyData.int)) := .lst h (dpAll_ints ns)
theorem dp_bls {a : Addr} {ns : List Bool} (h : SqL K H a (ns.map V.bl)) : Dp K H (.ref a) (.list (ns.map PyData.bool)) := .lst h (dpAll_bls ns)
end
theorem lay_ints : ∀ ns : List Int, PyData.canLayAll0 (ns.map PyData.int) = true
  | [] => rfl
  | n :: r => by
    rw [List.map_cons]
    simp [PyData.canLayAll0, lay_ints r, PyData.canLay0]
theorem eqv_ints : ∀ ns ms : List Int, PyData.eqvAll (ns.map PyData.int) (ms.map PyData.int) = decide (ns = ms)
  | [], [] => rfl
  | [], _ :: _ => rfl
  | _ :: _, [] => rfl
  | n :: r, m :: s => by
    rw [List.map_cons, List.map_cons, PyData.eqvAll, eqv_ints r s]
    by_cases h : n = m
    · subst h
      simp [PyData.eqv]
    · have : (n == m) = false := by simpa using h
      simp [PyData.eqv, this, h]
theorem eqv_bls : ∀ ns ms : List Bool, PyData.eqvAll (ns.map PyData.bool) (ms.map PyData.bool) = decide (ns = ms)
  | [], [] => rfl
  | [], _ :: _ => rfl
  | _ :: _, [] => rfl
  | n :: r, m :: s => by
    rw [List.map_cons, List.map_cons, PyData.eqvAll, eqv_bls r s]
    by_cases h : n = m
    · subst h
      simp [PyData.eqv]
    · have : (n == m) = false := by simpa using h
      simp [PyData.eqv, this, h]
/-! ### a clause of a try -/
section
variable {σ : St} {H : Hp} {K : PySem.W.Frag} {nx : St → Hp → Prop} {rt : VK} {bk ct : St → Hp → Prop} {Q : VK} {te : TE}
theorem rd_was {c cls : Value} {i : Nat} {ts : Addr → Value → Option Addr → TS} {Wout : WX} {d : Option Addr} (hx : PySem.W.exmOne K cls c = some true)
    (q : ∀ a, H a = none → ts a cls d ⟨fun σ' H' => nx (σ'.set i none) H', rt, fun σ' H' => bk (σ'.set i none) H', fun σ' H' => ct (σ'.set i none) H'⟩ (σ.set i (some (.ref a))) H) : WE (wAs K c i ts Wout ⟨nx, rt, bk, ct⟩) σ cls d H :=
  ⟨true, hx, fun _ a h => q a h, fun h => nomatch h⟩
theorem rd_wonly {c cls : Value} {ts : Addr → Value → Option Addr → TS} {Wout : WX} {d : Option Addr} (hx : PySem.W.exmOne K cls c = some true)
    (q : ∀ a, H a = none → ts a cls d ⟨nx, rt, bk, ct⟩ σ H) : WE (wOnly K c ts Wout ⟨nx, rt, bk, ct⟩) σ cls d H :=
  ⟨true, hx, fun _ a h => q a h, fun h => nomatch h⟩
def XfB (a : Addr) (cls : Value) (d : Option Addr) (C : Addr) (f : Str) (x : V) (H1 : Hp) (Q : VK) : Prop := x = .ref a ∧ cls = .ref C ∧ ∃ (dd : Addr) (fs : List (Str × V)) (v : V), d = some dd ∧ H1 dd = some (.xd fs) ∧ fs.lookup f = some v ∧ Q v H1
theorem rd_xf {a C : Addr} {cls : Value} {d : Option Addr} {f : Str} (h : te σ H fun x H1 => XfB a cls d C f x H1 Q) : tXf a cls d C f te σ H Q := h
instance st_xf {a C : Addr} {cls : Value} {d : Option Addr} {f : Str} : Stp (tXf a cls d C f te σ H Q) (te σ H fun x H1 => XfB a cls d C f x H1 Q) := ⟨fun h => rd_xf h⟩
theorem rd_xfb {a C dd : Addr} {f : Str} {fs : List (Str × V)} {v : V} (h : H dd = some (.xd fs)) (hl : fs.lookup f = some v) (q : Q v H) : XfB a (.ref C) (some dd) C f (.ref a) H Q := ⟨rfl, rfl, dd, fs, v, rfl, h, hl, q⟩
end
end L2

namespace L2
open PySem PySem.Spec PyProof.Rows
section
variable {σ : St} {H : Hp} {Q : VK} {K : PySem.W.Frag} {N : St → Hp → Prop}
theorem rd_isiII {i : Int} (q : Q (.bl true) H) : rIsi K [.int i, .ty "int"] H Q := ⟨_, _, _, _, true, rfl, .ty _, .base (.int i), kit_ty (by decide +kernel), q⟩
instance st_isiII {i : Int} : Stp (rIsi K [.int i, .ty "int"] H Q) (Q (.bl true) H) := ⟨fun h => rd_isiII h⟩
theorem rd_isiIB {i : Int} (q : Q (.bl false) H) : rIsi K [.int i, .ty "bool"] H Q := ⟨_, _, _, _, false, rfl, .ty _, .base (.int i), kit_ty (by decide +kernel), q⟩
instance st_isiIB {i : Int} : Stp (rIsi K [.int i, .ty "bool"] H Q) (Q (.bl false) H) := ⟨fun h => rd_isiIB h⟩
theorem rd_isiBB {b : Bool} (q : Q (.bl true) H) : rIsi K [.bl b, .ty "bool"] H Q := ⟨_, _, _, _, true, rfl, .ty _, .base (.bl b), kit_ty (by decide +kernel), q⟩
instance st_isiBB {b : Bool} : Stp (rIsi K [.bl b, .ty "bool"] H Q) (Q (.bl true) H) := ⟨fun h => rd_isiBB h⟩
theorem rd_unl {a : Addr} {xs : List V} {n : Nat} {t : TGs} (h : SqL K H a xs) (hn : xs.length = n) (q : t xs σ H N) : gUnl K n t (.ref a) σ H N := ⟨a, xs, rfl, h, hn, q⟩
theorem rd_slL {a : Addr} {xs : List V} {lo hi : Option Int} (h : SqL K H a xs) (q : ∀ p, H p = none → Q (.ref p) (upd H p (.lst (cutV xs lo hi)))) : rSlL K (.ref a) lo hi H Q := ⟨a, xs, rfl, h, q⟩
theorem rd_sl {r : V → Option Int → Option Int → Hp → VK → Prop} {te : TE} {tl th : TO} (h : te σ H fun x H1 => tl σ H1 fun l H2 => th σ H2 fun u H3 => r x l u H3 Q) : tSl r te tl th σ H Q := h
instance st_sl {r : V → Option Int → Option Int → Hp → VK → Prop} {te : TE} {tl th : TO} : Stp (tSl r te tl th σ H Q) (te σ H fun x H1 => tl σ H1 fun l H2 => th σ H2 fun u H3 => r x l u H3 Q) := ⟨fun h => rd_sl h⟩
theorem rd_noPart {R : Option Int → Hp → Prop} (q : R none H) : tNoPart σ H R := q
instance st_noPart {R : Option Int → Hp → Prop} : Stp (tNoPart σ H R) (R none H) := ⟨fun h => rd_noPart h⟩
def rPart (R : Option Int → Hp → Prop) (x : V) (H : Hp) : Prop := ∃ i, x = .int i ∧ R (some i) H
theorem rd_part {te : TE} {R : Option Int → Hp → Prop} (h : te σ H (rPart R)) : tPart te σ H R := h
instance st_part {te : TE} {R : Option Int → Hp → Prop} : Stp (tPart te σ H R) (te σ H (rPart R)) := ⟨fun h => rd_part h⟩
theorem rd_part1 {i : Int} {R : Option Int → Hp → Prop} (q : R (some i) H) : rPart R (.int i) H := ⟨i, rfl, q⟩
instance st_part1 {i : Int} {R : Option Int → Hp → Prop} : Stp (rPart R (.int i) H) (R (some i) H) := ⟨fun h => rd_part1 h⟩
theorem rd_cat {l b : Addr} {xs zs : List V} (h1 : H l = some (.lst xs)) (h2 : H b = some (.lst zs)) (h3 : xs.length + zs.length ≤ sizeLine) (q : ∀ p, H p = none → Q (.ref p) (upd H p (.lst (xs ++ zs)))) : rCat (.ref l) (.ref b) H Q := ⟨l, b, xs, zs, rfl, rfl, h1, h2, h3, q⟩
end
end L2
namespace L2
theorem lt_pow_of {i : Int} {k : Nat} (h1 : -(2 ^ k) < i) (h2 : i < 2 ^ k) : i.natAbs < 2 ^ k := by
  have e : ((2 ^ k : Nat) : Int) = 2 ^ k := by rw [Int.natCast_pow]; rfl
  omega
theorem CMulB.wide {i j : Int} (h1 : -(2 ^ 250) < i ∧ i < 2 ^ 250) (h2 : -(2 ^ 250) < j ∧ j < 2 ^ 250) : CMulB i j :=
  .inr (wide_mul (lt_pow_of h1.1 h1.2) (lt_pow_of h2.1 h2.2) (by decide) (by decide) (by decide))
end L2
namespace L2
open PySem PySem.Spec PyProof.Rows
section
variable {H : Hp} {Q : VK} {K : PySem.W.Frag} {p : Addr}
theorem rd_in2L {i a b : Int} (q : Q (.bl (decide (i = a ∨ i = b))) (upd H p (.lst [.int a, .int b]))) : rIn K false (.int i) (.ref p) (upd H p (.lst [.int a, .int b])) Q :=
  ⟨p, _, rfl, .inl (SqL.of upd_same), rfl, rfl, by
    show Q (.bl (inV (.int i) [.int a, .int b])) _
    rw [inV2]
    exact q⟩
instance st_in2L {i a b : Int} : Stp (rIn K false (.int i) (.ref p) (upd H p (.lst [.int a, .int b])) Q) (Q (.bl (decide (i = a ∨ i = b))) (upd H p (.lst [.int a, .int b]))) := ⟨fun h => rd_in2L h⟩
theorem rd_nin2L {i a b : Int} (q : Q (.bl (!decide (i = a ∨ i = b))) (upd H p (.lst [.int a, .int b]))) : rIn K true (.int i) (.ref p) (upd H p (.lst [.int a, .int b])) Q :=
  ⟨p, _, rfl, .inl (SqL.of upd_same), rfl, rfl, by
    show Q (.bl (!inV (.int i) [.int a, .int b])) _
    rw [inV2]
    exact q⟩
instance st_nin2L {i a b : Int} : Stp (rIn K true (.int i) (.ref p) (upd H p (.lst [.int a, .int b])) Q) (Q (.bl (!decide (i = a ∨ i = b))) (upd H p (.lst [.int a, .int b]))) := ⟨fun h => rd_nin2L h⟩
theorem rd_nin2 {i a b : Int} (q : Q (.bl (!decide (i = a ∨ i = b))) (upd H p (.tup [.int a, .int b]))) : rIn K true (.int i) (.ref p) (upd H p (.tup [.int a, .int b])) Q :=
  ⟨p, _, rfl, .inr (SqT.of upd_same), rfl, rfl, by
    show Q (.bl (!inV (.int i) [.int a, .int b])) _
    rw [inV2]
    exact q⟩
instance st_nin2 {i a b : Int} : Stp (rIn K true (.int i) (.ref p) (upd H p (.tup [.int a, .int b])) Q) (Q (.bl (!decide (i = a ∨ i = b))) (upd H p (.tup [.int a, .int b]))) := ⟨fun h => rd_nin2 h⟩
theorem beq_str {a s : Str} : (a == s) = decide (s = a) := by
  rw [Bool.beq_eq_decide_eq]
  exact decide_eq_decide.mpr eq_comm
theorem inVs4 {s a b c d : Str} : inV (.str s) [.str a, .str b, .str c, .str d] = decide (s = a ∨ s = b ∨ s = c ∨ s = d) := by
  simp only [inV, eqV, List.any_cons, List.any_nil, Bool.or_false, Bool.decide_or, beq_str]
theorem rd_ninS4 {s a b c d : Str} (q : Q (.bl (!decide (s = a ∨ s = b ∨ s = c ∨ s = d))) (upd H p (.lst [.str a, .str b, .str c, .str d]))) : rIn K true (.str s) (.ref p) (upd H p (.lst [.str a, .str b, .str c, .str d])) Q :=
  ⟨p, _, rfl, .inl (SqL.of upd_same), rfl, rfl, by
    show Q (.bl (!inV (.str s) [.str a, .str b, .str c, .str d])) _
    rw [inVs4]
    exact q⟩
instance st_ninS4 {s a b c d : Str} : Stp (rIn K true (.str s) (.ref p) (upd H p (.lst [.str a, .str b, .str c, .str d])) Q) (Q (.bl (!decide (s = a ∨ s = b ∨ s = c ∨ s = d))) (upd H p (.lst [.str a, .str b, .str c, .str d]))) := ⟨fun h => rd_ninS4 h⟩
end
end L2
namespace L2
open PySem PySem.Spec PyProof.Rows
theorem lay_all : ∀ {ds : List PyData}, (∀ d ∈ ds, d.canLay0 = true ∧ d.depth ≤ 60) → PyData.canLayAll0 ds = true ∧ PyData.depthAll ds ≤ 60
  | [], _ => ⟨rfl, Nat.zero_le _⟩
  | d :: ds, h => by
    obtain ⟨a, b⟩ := lay_all (ds := ds) fun e he => h e (List.mem_cons_of_mem _ he)
    obtain ⟨c, e⟩ := h d (List.mem_cons_self ..)
    simp only [PyData.canLayAll0, PyData.depthAll]
    exact ⟨by rw [c, a]; rfl, Nat.max_le.mpr ⟨e, b⟩⟩
theorem shaped_list {ds : List PyData} (h : ∀ d ∈ ds, d.canLay0 = true ∧ d.depth ≤ 60) : SeqAt.shaped (.list ds) = true := by
  obtain ⟨a, b⟩ := lay_all h
  unfold SeqAt.shaped
  have : (PyData.list ds).canLay0 = true := a
  rw [this, Bool.true_and, decide_eq_true_eq]
  show PyData.depthAll ds + 1 ≤ 64
  omega
theorem shaped_ints (ns : List Int) : SeqAt.shaped (.list (ns.map PyData.int)) = true := shaped_list fun d hd => by
  obtain ⟨n, _, rfl⟩ := List.mem_map.mp hd
  exact ⟨rfl, by simp [PyData.depth]⟩
theorem shaped_bls (ns : List Bool) : SeqAt.shaped (.list (ns.map PyData.bool)) = true := shaped_list fun d hd => by
  obtain ⟨n, _, rfl⟩ := List.mem_map.mp hd
  exact ⟨rfl, by simp [PyData.depth]⟩
section
variable {H : Hp} {Q : VK} {K : PySem.W.Frag} {a b p : Addr}
/-- two lists of whole numbers -/
theorem rd_eqInts {ns ms : List Int} (h1 : SqL K H a (ns.map V.int)) (h2 : SqL K H b (ms.map V.int)) (q : Q (.bl (decide (ns = ms))) H) : rEqD K (.ref a) (.ref b) H Q :=
  ⟨_, _, dp_ints h1, dp_ints h2, shaped_ints _, shaped_ints _, by rw [PyData.eqv, eqv_ints]; exact q⟩
theorem rd_neInts {ns ms : List Int} (h1 : SqL K H a (ns.map V.int)) (h2 : SqL K H b (ms.map V.int)) (q : Q (.bl (!decide (ns = ms))) H) : rNeD K (.ref a) (.ref b) H Q :=
  ⟨_, _, dp_ints h1, dp_ints h2, shaped_ints _, shaped_ints _, by rw [PyData.eqv, eqv_ints]; exact q⟩
/-- equal data -/
theorem rd_neSame {x y : V} {d : PyData} (h1 : Dp K H x d) (h2 : Dp K H y d) (s : SeqAt.shaped d = true) (q : Q (.bl false) H) : rNeD K x y H Q :=
  ⟨d, d, h1, h2, s, s, by rw [SeqAt.eqv_refl d (SeqAt.canLay_of_shaped s)]; exact q⟩
theorem rd_eqSame {x y : V} {d : PyData} (h1 : Dp K H x d) (h2 : Dp K H y d) (s : SeqAt.shaped d = true) (q : Q (.bl true) H) : rEqD K x y H Q :=
  ⟨d, d, h1, h2, s, s, by rw [SeqAt.eqv_refl d (SeqAt.canLay_of_shaped s)]; exact q⟩
theorem rd_isiL {xs : List V} (h : H a = some (.lst xs)) (q : Q (.bl true) H) : rIsi K [.ref a, .ty "list"] H Q := ⟨_, _, _, _, true, rfl, .ty _, .base (.lst h), kit_ty (by decide +kernel), q⟩
theorem rd_isiT {xs : List V} (h : H a = some (.tup xs)) (q : Q (.bl true) H) : rIsi K [.ref a, .ty "tuple"] H Q := ⟨_, _, _, _, true, rfl, .ty _, .base (.tup h), kit_ty (by decide +kernel), q⟩
end
end L2

namespace L2
open PySem PySem.Spec PyProof.Rows
theorem Same.lst {K : PySem.W.Frag} {H0 H : Hp} {a : Addr} {xs : List V} (e : Same H0 H) (h : H0 a = some (.lst xs)) : SqL K H a xs := SqL.of (e _ _ h)
theorem ne_self {α : Type} [DecidableEq α] (a : α) : (!decide (a = a)) = false := by simp
end L2
namespace L2
theorem rd_neF {p A B : Prop} [Decidable p] (h : p) (q : B) : if (!decide p) = true then A else B := by
  rw [decide_eq_true h]
  exact q
theorem rd_eqT {p A B : Prop} [Decidable p] (h : p) (q : A) : if decide p = true then A else B := by
  rw [decide_eq_true h]
  exact q
end L2
namespace L2
open PySem PySem.Spec PyProof.Rows
theorem inV_ints {x : Int} : ∀ {ns : List Int}, inV (.int x) (ns.map V.int) = decide (x ∈ ns)
  | [] => by simp [inV]
  | n :: ns => by
    have := inV_ints (x := x) (ns := ns)
    unfold inV at *
    rw [List.map_cons, List.any_cons, this, eqV, Bool.beq_eq_decide_eq, ← Bool.decide_or]
    refine decide_eq_decide.mpr ?_
    rw [List.mem_cons]
    exact or_congr eq_comm Iff.rfl
theorem flat_ints : ∀ {ns : List Int}, (ns.map V.int).all flatV = true
  | [] => rfl
  | _ :: ns => by
    rw [List.map_cons, List.all_cons, flat_ints (ns := ns)]
    rfl
section
variable {σ : St} {H : Hp} {Q : VK} {K : PySem.W.Frag} {p : Addr} {te : TE} {tt : TC}
theorem rd_inIs {x : Int} {ns : List Int} (h : SqL K H p (ns.map V.int)) (q : Q (.bl (decide (x ∈ ns))) H) : rIn K false (.int x) (.ref p) H Q :=
  rd_inL h rfl flat_ints (by rw [inV_ints]; exact q)
theorem rd_ninIs {x : Int} {ns : List Int} (h : SqL K H p (ns.map V.int)) (q : Q (.bl (!decide (x ∈ ns))) H) : rIn K true (.int x) (.ref p) H Q :=
  ⟨p, _, rfl, .inl h, rfl, flat_ints, by rw [inV_ints]; exact q⟩
theorem all_map {n : Nat} {g : Nat → Int} : ((List.range n).filter (fun _ => true)).map (fun i => V.int (g i)) = ((List.range n).map g).map V.int := by
  rw [List.filter_eq_self.mpr (fun _ _ => rfl), List.map_map]
  rfl
end
end L2
namespace L2
open PySem PySem.Spec PyProof.Rows
section
variable {σ : St} {H : Hp} {Q : VK} {K : PySem.W.Frag} {te : TE} {tt : TT}
/-- a list comprehension over a range whose items come from what stands in the heap -/
theorem rd_lcRG {lo : Int} {n : Nat} {g : TG} {vs : List Nat} (J : Addr → Nat → List V → Hp → Prop) (h0 : ∀ D, H D = none → J D 0 [] (upd H D (.lst [])))
    (hs : ∀ D i ys H', H D = none → i < n → H' D = some (.lst ys) → J D i ys H' → g (.int (lo + i)) (wipe σ vs) H' fun σ2 H2 => wipe σ2 vs = wipe σ vs ∧ tt σ2 H2 fun b H3 => if b = true then te σ2 H3 (fun y H4 => ∃ acc, H4 D = some (.lst acc) ∧ acc.length < sizeLine ∧ ∃ ys, (upd H4 D (.lst (acc ++ [y]))) D = some (.lst ys) ∧ J D (i + 1) ys (upd H4 D (.lst (acc ++ [y])))) else ∃ ys, H3 D = some (.lst ys) ∧ J D (i + 1) ys H3)
    (q : ∀ D ys H', H D = none → H' D = some (.lst ys) → J D n ys H' → Q (.ref D) H') : lcB (Itr lo n) g tt te vs σ Q H := by
  intro D hD
  refine ⟨fun i m H' => m = n - i ∧ i ≤ n ∧ ∃ ys, H' D = some (.lst ys) ∧ J D i ys H', ⟨n, by simp, Nat.zero_le _, _, upd_same, h0 D hD⟩, ?_⟩
  rintro i m H' ⟨rfl, hi, ys, hy, hj⟩
  by_cases hlt : i < n
  · refine .inr ⟨hlt, fun H' => ∃ ys, H' D = some (.lst ys) ∧ J D (i + 1) ys H', fun H' p' => ⟨n - (i + 1), by omega, rfl, hlt, p'⟩, fun x H' y => ?_⟩
    obtain ⟨e, y⟩ := y
    subst e y
    exact hs D i ys _ hD hlt hy hj
  · have e : i = n := by omega
    subst e
    exact .inl ⟨Nat.le_refl _, q D ys H' hD hy hj⟩
theorem put_G {J : Addr → Nat → List V → Hp → Prop} {D : Addr} {i : Nat} {H4 : Hp} {acc : List V} {y : V} (h : H4 D = some (.lst acc)) (hl : acc.length < sizeLine) (j : J D (i + 1) (acc ++ [y]) (upd H4 D (.lst (acc ++ [y])))) :
    ∃ acc, H4 D = some (.lst acc) ∧ acc.length < sizeLine ∧ ∃ ys, (upd H4 D (.lst (acc ++ [y]))) D = some (.lst ys) ∧ J D (i + 1) ys (upd H4 D (.lst (acc ++ [y]))) := ⟨acc, h, hl, _, upd_same, j⟩
end
end L2

namespace L2
open PySem PySem.Spec PyProof.Rows
/-! ### classes of the text: fields, methods, making, ==, calls -/
structure MethAt (K : PySem.W.Frag) (C : Addr) (m qual : Str) (st : Stmt) (ps : List Str) : Prop where
  ex : ∃ (f : Addr) (fd : FuncData), Fun K m qual st f fd ∧ Meth K C m f ∧ Binds K fd ps []
structure MDef (P : Program) (w : World) (K : PySem.W.Frag) (mg : Str → Option Value) (base : Heap) (k : Nat) (C : Addr) (m : Str) (ps : List Str) (sp : Sp) : Prop where
  ex : ∃ (f : Addr) (fd : FuncData), FnOk P w K mg base (L2.CX P w) k f fd ps sp ∧ Meth K C m f ∧ Binds K fd ps []
structure MkAt (K : PySem.W.Frag) (mg : Str → Option Value) (x : Str) (C : Addr) (qual : Str) (st : Stmt) (ps : List Str) : Prop where
  ex : ∃ (f : Addr) (fd : FuncData), Fun K "__init__" qual st f fd ∧ Mk K C f ∧ Binds K fd ps []
  g : mg x = some (.ref C)
structure MkDef (P : Program) (w : World) (K : PySem.W.Frag) (mg : Str → Option Value) (base : Heap) (k : Nat) (x : Str) (C : Addr) (ps : List Str) (sp : Sp) : Prop where
  ex : ∃ (f : Addr) (fd : FuncData), FnOk P w K mg base (L2.CX P w) k f fd ps sp ∧ Mk K C f ∧ Binds K fd ps []
  g : mg x = some (.ref C)
section
variable {P : Program} {w : World} {K : PySem.W.Frag} {mg : Str → Option Value} {base : Heap}
theorem MethAt.ok {C : Addr} {m qual : Str} {st : Stmt} {N ps : List Str} {k : Nat} {sp : Sp} (D : MethAt K C m qual st ps) (S : FnScope N ps (defScope st)) (len : ∀ vs H Q E, sp vs H Q E → vs.length = ps.length)
    (hbody : ∀ (f : Addr) (cdv : Value) (A : Around) (outer : List Env) (s : Shared) (H : Hp) (vs : List V) (Q : VK) (E : XK), Room k (A.deeper (envOfC qual (defScope st) s.heap.objs.size f cdv)) → sp vs H Q E →
      ∃ t, PSs (cxOf (L2.CX P w) P w K mg base N qual (defScope st) f cdv A outer s H E) (defBody st) t ∧ t ⟨fun _ H' => Q .non H', Q, fun _ _ => False, fun _ _ => False⟩ (start N vs) H) : MDef P w K mg base (k + 1) C m ps sp := by
  obtain ⟨f, fd, F, g, b⟩ := D.ex
  exact ⟨f, fd, F.okX S len fun cdv A outer s H vs Q E hr h => hbody f cdv A outer s H vs Q E hr h, g, b⟩
theorem MkAt.ok {x : Str} {C : Addr} {qual : Str} {st : Stmt} {N ps : List Str} {k : Nat} {sp : Sp} (D : MkAt K mg x C qual st ps) (S : FnScope N ps (defScope st)) (len : ∀ vs H Q E, sp vs H Q E → vs.length = ps.length)
    (hbody : ∀ (f : Addr) (cdv : Value) (A : Around) (outer : List Env) (s : Shared) (H : Hp) (vs : List V) (Q : VK) (E : XK), Room k (A.deeper (envOfC qual (defScope st) s.heap.objs.size f cdv)) → sp vs H Q E →
      ∃ t, PSs (cxOf (L2.CX P w) P w K mg base N qual (defScope st) f cdv A outer s H E) (defBody st) t ∧ t ⟨fun _ H' => Q .non H', Q, fun _ _ => False, fun _ _ => False⟩ (start N vs) H) : MkDef P w K mg base (k + 1) x C ps sp := by
  obtain ⟨f, fd, F, g, b⟩ := D.ex
  exact ⟨⟨f, fd, F.okX S len fun cdv A outer s H vs Q E hr h => hbody f cdv A outer s H vs Q E hr h, g, b⟩, D.g⟩
theorem MDef.imp {k : Nat} {C : Addr} {m : Str} {ps : List Str} {sp sp' : Sp} (D : MDef P w K mg base k C m ps sp) (h : ∀ vs H Q E, sp' vs H Q E → sp vs H Q E) : MDef P w K mg base k C m ps sp' := by
  obtain ⟨f, fd, F, g, b⟩ := D.ex
  exact ⟨f, fd, F.imp h, g, b⟩
theorem MDef.mono {j k : Nat} {C : Addr} {m : Str} {ps : List Str} {sp : Sp} (D : MDef P w K mg base j C m ps sp) (h : j ≤ k) : MDef P w K mg base k C m ps sp := by
  obtain ⟨f, fd, F, g, b⟩ := D.ex
  exact ⟨f, fd, F.mono h, g, b⟩
theorem MDef.forget {k : Nat} {C : Addr} {m : Str} {ps : List Str} {sp : Sp} (D : MDef P w K mg base k C m ps sp) : MDef P w K mg base k C m ps (fun vs H Q E => NoT H ∧ sp vs H (fun v H' => Same H H' ∧ Q v H) E) := by
  obtain ⟨f, fd, F, g, b⟩ := D.ex
  exact ⟨f, fd, fn_forget F, g, b⟩
end
def tFldC (C : Addr) (ta : TE) (f : Str) : TE := fun σ H Q => ta σ H fun x H1 => ∃ a dx fs v, x = .ref a ∧ H1 a = some (.ins C dx fs) ∧ fs.lookup f = some v ∧ Q v H1
def sFldC (C : Addr) (ta tv : TE) (f : Str) : TS := fun D σ H => tv σ H fun y H1 => ta σ H1 fun x H2 => ∃ a dx fs, x = .ref a ∧ H2 a = some (.ins C dx fs) ∧ fs.length < 1000 ∧ D.nx σ (upd H2 a (.ins C dx (putF f y fs)))
def tCallC (C : Addr) (sp : Sp) (E : XK) (tf : TE) (t : TA) : TE := fun σ H Q => tf σ H fun y H1 => ∃ a, y = V.ref a ∧ t σ H1 fun vs H2 => (∃ dx fs, H2 a = some (.ins C dx fs)) ∧ sp (V.ref a :: vs) H2 Q E
def rEqO (K : PySem.W.Frag) (C : Addr) (sp : Sp) (E : XK) : R2 := fun x y H Q => ∃ a dx fs ty, x = .ref a ∧ H a = some (.ins C dx fs) ∧ TyX K H y ty ∧ PySem.W.notFirst K C ty = true ∧ sp [.ref a, y] H (fun v H' => (∃ b, v = .bl b) ∧ Q v H') E
section
variable {X : Cx} {o e value : Expr} {es : List Expr} {f : Str} {pos pos' tpos apos p : Pos} {ta tv : TE} {t : TA} {C : Addr}
theorem pe_fldC (he : PE X e ta) (c : Cls X.K C) (n : NoAttr X.K C f) (hb : attributeBase e f X.env (eval e X.env) = eval e X.env := by rfl) : PE X (.Attribute e f pos) (tFldC C ta f) := by
  refine ⟨fun pins s σ H Q I h => ?_⟩
  refine attr_of hb (thn (he.run pins s σ H _ I h) fun u s1 ⟨x, H1, I1, rx, a, dx, fs, v, ex, ea, l, q⟩ => ?_)
  subst ex
  obtain rfl : u = Value.ref a := rx
  exact getattr_ok I1 ea c n l fun u' s2 I2 ru => ⟨v, H1, I2, ru, q⟩
theorem ps_fldC (ha : PE X o ta) (hv : PE X value tv) (c : Cls X.K C) (n : NoAttr X.K C f) (hs : swapsWith value (some (.Attribute o f pos')) pos.line X.env = pure false := by rfl) : PS X (.Assign [.Attribute o f pos'] value pos) (sFldC C ta tv f) := by
  refine ⟨fun pins s σ H D I h => ?_⟩
  refine plainObj_wpAny_Assign_Attribute (thn (hv.run pins s σ H _ I h) fun u s1 ⟨y, H1, I1, ry, q⟩ => thn (ha.run pins s1 σ H1 _ I1 q) fun ov s2 ⟨x, H2, I2, rx, a, dx, fs, ex, ea, l, q2⟩ => ?_) hs
  subst ex
  obtain rfl : ov = Value.ref a := rx
  exact setattr_ok I2 ea c n l ry fun s3 I3 => ⟨σ, _, I3, q2⟩
theorem pe_md {k : Nat} {m : Str} {ps : List Str} {sp : Sp} {E : XK} {pl : Sem Bool} (D : MDef X.prog X.w X.K X.mg X.base k C m ps sp) (he : PE X o ta) (c : Cls X.K C) (hr : Room k X.A) (hx : Passes (L2.CX X.prog X.w) X E) (ha : PA X (e :: es) t)
    (hst : starEach (e :: es) X.env = (false, eval e X.env) :: starEach es X.env := by rfl) (hpl : (backTo pos (starEach es X.env)).any (·.1) = false := by rfl)
    (ht : eval (.Call (.Attribute o m apos) (e :: es) [] pos) X.env = (do
      let ov ← eval o X.env
      standAt apos.atName
      let (f, first) ← holding [ov] (getMethod ov m pl)
      callWith pos f first (backTo pos (starEach (e :: es) X.env)) (backToKw pos (keywordEach [] X.env))) := by rfl) :
    PE X (.Call (.Attribute o m apos) (e :: es) [] pos) (tMeth C m sp [] E ta t) := by
  obtain ⟨f, fd, F, g, b⟩ := D.ex
  exact pe_meth he c g F hr b .nil hx ha hst hpl ht
theorem pe_md0 {k : Nat} {m : Str} {ps : List Str} {sp : Sp} {E : XK} {pl : Sem Bool} (D : MDef X.prog X.w X.K X.mg X.base k C m ps sp) (he : PE X o ta) (c : Cls X.K C) (hr : Room k X.A) (hx : Passes (L2.CX X.prog X.w) X E)
    (ht : eval (.Call (.Attribute o m apos) [] [] pos) X.env = (do
      let ov ← eval o X.env
      standAt apos.atName
      let (f, first) ← holding [ov] (getMethod ov m pl)
      callWith pos f first (backTo pos (starEach [] X.env)) (backToKw pos (keywordEach [] X.env))) := by rfl) :
    PE X (.Call (.Attribute o m apos) [] [] pos) (tMeth C m sp [] E ta tNil) := by
  obtain ⟨f, fd, F, g, b⟩ := D.ex
  exact pe_meth0 he c g F hr b .nil hx ht
theorem pe_mkd {k : Nat} {x : Str} {ps : List Str} {sp : Sp} {E : XK} (D : MkDef X.prog X.w X.K X.mg X.base k x C ps sp) (hr : Room (k + 1) X.A) (hx : Passes (L2.CX X.prog X.w) X E) (ha : PA X (e :: es) t) (hg : Gl X x := by rfl)
    (hdb : (x == ("__debug__" : Str)) = false := by decide) (he : starEach (e :: es) X.env = (false, eval e X.env) :: starEach es X.env := by rfl) (hpl : (backTo pos (starEach es X.env)).any (·.1) = false := by rfl) :
    PE X (.Call (.Name x p) (e :: es) [] pos) (tMake C sp [] E t) := by
  obtain ⟨f, fd, F, M, b⟩ := D.ex
  exact pe_make M F hr hg D.g b .nil hx ha hdb he hpl
theorem pe_mkd0 {k : Nat} {x : Str} {ps : List Str} {sp : Sp} {E : XK} (D : MkDef X.prog X.w X.K X.mg X.base k x C ps sp) (hr : Room (k + 1) X.A) (hx : Passes (L2.CX X.prog X.w) X E) (hg : Gl X x := by rfl)
    (hdb : (x == ("__debug__" : Str)) = false := by decide) :
    PE X (.Call (.Name x p) [] [] pos) (tMake C sp [] E tNil) := by
  obtain ⟨f, fd, F, M, b⟩ := D.ex
  exact pe_make0 M F hr hg D.g b .nil hx hdb
theorem pe_mcall {k : Nat} {ps : List Str} {sp : Sp} {E : XK} {fe : Expr} {tf : TE} (D : MDef X.prog X.w X.K X.mg X.base k C "__call__" ps sp) (fi : ∀ g, PySem.W.findIn X.K (.ref C) "__call__" = some (some (.ref g)) → PySem.W.fnIn X.K g = true) (hf : PE X fe tf) (hr : Room k X.A) (hx : Passes (L2.CX X.prog X.w) X E) (ha : PA X (e :: es) t)
    (ht : eval (.Call fe (e :: es) [] pos) X.env = (do callWith pos (← eval fe X.env) [] (backTo pos (starEach (e :: es) X.env)) (backToKw pos (keywordEach [] X.env))) := by rfl)
    (he : starEach (e :: es) X.env = (false, eval e X.env) :: starEach es X.env := by rfl) (hpl : (backTo pos (starEach es X.env)).any (·.1) = false := by rfl) :
    PE X (.Call fe (e :: es) [] pos) (tCallC C sp E tf t) := by
  obtain ⟨f, fd, F, g, b⟩ := D.ex
  refine ⟨fun pins s σ H Q I h => ?_⟩
  refine Call_ (thn (hf.run pins s σ H _ I h) fun u s1 ⟨y, H1, I1, ry, a, ey, q⟩ => ?_) ht
  subst ey
  obtain rfl : u = Value.ref a := ry
  refine StX.callO_with (thn (ha.run pos pins s1 σ H1 _ I1 q) fun us s2 ⟨vs, H2, I2, r, hi, q2⟩ => ?_) he hpl
  obtain ⟨ox, od, J, hd⟩ := StX.insC_at I2 (.inr hi)
  refine ⟨⟨C, ox, od, J, hd⟩, StX.run_callO (sp := fun vs H Q E => sp (vs ++ []) H Q E) ⟨g.at_, g.fn, fi f g.at_⟩ (F.raw b .nil) hr hx I2 (.inr hi) r ?_⟩
  rw [List.append_nil]
  exact q2
/-- x == y, x an instance of C with an own __eq__ -/
theorem op_eqO {k : Nat} {ps : List Str} {sp : Sp} {E : XK} (D : MDef X.prog X.w X.K X.mg X.base k C "__eq__" ps sp) (hr : Room k X.A) (hu : X.A.units < cLine) (hx : Passes (L2.CX X.prog X.w) X E) : OpR X (compareOp .Eq) (rEqO X.K C sp E) := by
  intro pins s σ H x y v u Q I rx ry h
  obtain ⟨f, fd, F, g, b⟩ := D.ex
  obtain ⟨a, dx, fs, ty, rfl, ha, hty, hn, hsp⟩ := h
  cases (show v = Value.ref a from rx)
  obtain ⟨mA, J, _⟩ := ins_get I.hok ha
  obtain ⟨od, J, _⟩ := J.look
  obtain ⟨m, hF⟩ := I.fr
  obtain ⟨P, Z, hp, _⟩ := kit_of I ry hty
  show wpAny (model X.prog X.w) X.A (richCompare .Eq (.ref a) u) (EP X pins σ Q) X.xe s
  refine PySem.W.cmp_K (op := .Eq) (tb := ty) hu hF I.ok.mod.kin J (Z.ty _ s.heap I.kIn hp) hn g.at_ g.fn ?_
  have hl := F.len _ _ _ _ hsp
  refine wpAny_mono (run_fn (dvs := []) (ds := []) (us := [.ref a, u]) (vs := [.ref a, y]) F hr b .nil hx I (.cons rfl (.cons ry .nil)) hsp) (fun r s' q => ?_) fun _ _ z => z
  obtain ⟨z, H', I', rz, ⟨bb, rfl⟩, q⟩ := q
  cases (show r = Value.bool bb from rz)
  exact ⟨.bl bb, H', I', rfl, q⟩
end
section
variable {σ : St} {H : Hp} {Q : VK} {C p : Addr} {ta tv : TE} {t : TA} {f m : Str} {v : V} {nx : St → Hp → Prop} {rt : VK} {bk ct : St → Hp → Prop} {sp : Sp} {E : XK}
theorem rd_fldC (h : ta σ H fun x H1 => ∃ a dx fs v, x = .ref a ∧ H1 a = some (.ins C dx fs) ∧ fs.lookup f = some v ∧ Q v H1) : tFldC C ta f σ H Q := h
instance st_fldC  : Stp (tFldC C ta f σ H Q) (ta σ H fun x H1 => ∃ a dx fs v, x = .ref a ∧ H1 a = some (.ins C dx fs) ∧ fs.lookup f = some v ∧ Q v H1) := ⟨fun h => rd_fldC h⟩
theorem rd_fld1 {dx : Addr} {fs : List (Str × V)} {S : V → Prop} (h : H p = some (.ins C dx fs)) (l : fs.lookup f = some v) (q : S v) : ∃ a dx fs v, V.ref p = .ref a ∧ H a = some (.ins C dx fs) ∧ fs.lookup f = some v ∧ S v := ⟨p, dx, fs, v, rfl, h, l, q⟩
theorem rd_sfldC (h : tv σ H fun y H1 => ta σ H1 fun x H2 => ∃ a dx fs, x = .ref a ∧ H2 a = some (.ins C dx fs) ∧ fs.length < 1000 ∧ nx σ (upd H2 a (.ins C dx (putF f y fs)))) : sFldC C ta tv f ⟨nx, rt, bk, ct⟩ σ H := h
instance st_sfldC  : Stp (sFldC C ta tv f ⟨nx, rt, bk, ct⟩ σ H) (tv σ H fun y H1 => ta σ H1 fun x H2 => ∃ a dx fs, x = .ref a ∧ H2 a = some (.ins C dx fs) ∧ fs.length < 1000 ∧ nx σ (upd H2 a (.ins C dx (putF f y fs)))) := ⟨fun h => rd_sfldC h⟩
theorem rd_sfld1 {dx : Addr} {fs : List (Str × V)} {S : Addr → Addr → List (Str × V) → Prop} (h : H p = some (.ins C dx fs)) (l : fs.length < 1000) (q : S p dx fs) : ∃ a dx fs, V.ref p = .ref a ∧ H a = some (.ins C dx fs) ∧ fs.length < 1000 ∧ S a dx fs := ⟨p, dx, fs, rfl, h, l, q⟩
theorem rd_meth (h : ta σ H fun x H1 => ∃ a dx fs, x = .ref a ∧ H1 a = some (.ins C dx fs) ∧ fs.lookup m = none ∧ t σ H1 fun vs H2 => sp (x :: vs) H2 Q E) : tMeth C m sp [] E ta t σ H Q := by
  show ta σ H fun x H1 => ∃ a dx fs, x = .ref a ∧ H1 a = some (.ins C dx fs) ∧ fs.lookup m = none ∧ t σ H1 fun vs H2 => sp (x :: (vs ++ [])) H2 Q E
  simp only [List.append_nil]
  exact h
instance st_meth  : Stp (tMeth C m sp [] E ta t σ H Q) (ta σ H fun x H1 => ∃ a dx fs, x = .ref a ∧ H1 a = some (.ins C dx fs) ∧ fs.lookup m = none ∧ t σ H1 fun vs H2 => sp (x :: vs) H2 Q E) := ⟨fun h => rd_meth h⟩
theorem rd_meth1 {dx : Addr} {fs : List (Str × V)} {S : Prop} (h : H p = some (.ins C dx fs)) (l : fs.lookup m = none) (q : S) : ∃ a dx fs, V.ref p = .ref a ∧ H a = some (.ins C dx fs) ∧ fs.lookup m = none ∧ S := ⟨p, dx, fs, rfl, h, l, q⟩
theorem rd_make (h : t σ H fun vs H1 => ∀ x dx, H1 x = none → H1 dx = none → dx ≠ x → sp (.ref x :: vs) (upd (upd H1 dx (.own x)) x (.ins C dx [])) (fun v H2 => v = .non ∧ Q (.ref x) H2) E) : tMake C sp [] E t σ H Q := by
  show t σ H fun vs H1 => ∀ x dx, H1 x = none → H1 dx = none → dx ≠ x → sp (.ref x :: (vs ++ [])) (upd (upd H1 dx (.own x)) x (.ins C dx [])) (fun v H2 => v = .non ∧ Q (.ref x) H2) E
  simp only [List.append_nil]
  exact h
instance st_make  : Stp (tMake C sp [] E t σ H Q) (t σ H fun vs H1 => ∀ x dx, H1 x = none → H1 dx = none → dx ≠ x → sp (.ref x :: vs) (upd (upd H1 dx (.own x)) x (.ins C dx [])) (fun v H2 => v = .non ∧ Q (.ref x) H2) E) := ⟨fun h => rd_make h⟩
theorem rd_callC (h : ta σ H fun y H1 => ∃ a, y = V.ref a ∧ t σ H1 fun vs H2 => (∃ dx fs, H2 a = some (.ins C dx fs)) ∧ sp (V.ref a :: vs) H2 Q E) : tCallC C sp E ta t σ H Q := h
instance st_callC : Stp (tCallC C sp E ta t σ H Q) (ta σ H fun y H1 => ∃ a, y = V.ref a ∧ t σ H1 fun vs H2 => (∃ dx fs, H2 a = some (.ins C dx fs)) ∧ sp (V.ref a :: vs) H2 Q E) := ⟨fun h => rd_callC h⟩
theorem rd_callO1 {S : Addr → Prop} (q : S p) : ∃ a, V.ref p = V.ref a ∧ S a := ⟨p, rfl, q⟩
instance st_callO1 {S : Addr → Prop} : Stp (∃ a, V.ref p = V.ref a ∧ S a) (S p) := ⟨fun q => rd_callO1 q⟩
theorem rd_callO2 {dx : Addr} {fs : List (Str × V)} {S : Prop} (h : H p = some (.ins C dx fs)) (q : S) : (∃ dx fs, H p = some (.ins C dx fs)) ∧ S := ⟨⟨dx, fs, h⟩, q⟩
theorem rd_isB {a b : Bool} (q : Q (.bl (decide (a = b))) H) : rIsB (.bl a) (.bl b) H Q := ⟨a, b, rfl, rfl, q⟩
instance st_isB {a b : Bool} : Stp (rIsB (.bl a) (.bl b) H Q) (Q (.bl (decide (a = b))) H) := ⟨fun h => rd_isB h⟩
theorem rd_notB {a b : Bool} (q : Q (.bl (!decide (a = b))) H) : rNotB (.bl a) (.bl b) H Q := ⟨a, b, rfl, rfl, q⟩
instance st_notB {a b : Bool} : Stp (rNotB (.bl a) (.bl b) H Q) (Q (.bl (!decide (a = b))) H) := ⟨fun h => rd_notB h⟩
theorem rd_isNone {x : V} (q : Q (.bl (decide (x = .non))) H) : (V.non = V.non) ∧ Q (.bl (decide (x = .non))) H := ⟨rfl, q⟩
instance st_isNone {x : V} : Stp ((V.non = V.non) ∧ Q (.bl (decide (x = .non))) H) (Q (.bl (decide (x = .non))) H) := ⟨fun h => rd_isNone h⟩
end
theorem kit_self {K : PySem.W.Frag} {C : Addr} : PySem.W.kitOne K (.ref C) (.ref C) = some true := if_pos (by simp)
theorem sub_ty {K : PySem.W.Frag} {C : Addr} {T : String} {l : List Value} (h : fastBuiltinMro T = some l) (hl : l.contains (.ref C) = false) : PySem.W.subIn K (.type T) (.ref C) = some false := by
  show (fastBuiltinMro T).map (·.contains (.ref C)) = some false
  rw [h, Option.map_some, hl]
theorem sub_list {K : PySem.W.Frag} {C : Addr} : PySem.W.subIn K (.type "list") (.ref C) = some false := rfl
theorem kit_list {K : PySem.W.Frag} {C : Addr} (h1 : PySem.W.isClsIn K C = true) (h2 : PySem.W.typeIn K (.ref C) = some (.type "type")) : PySem.W.kitOne K (.type "list") (.ref C) = some false := by
  have e : ((PySem.W.clsIn K C).isSome && PySem.W.typeIn K (.ref C) == some (.type "type")) = true := by
    have h1' : (PySem.W.clsIn K C).isSome = true := h1
    rw [h1', h2] <;> rfl
  show (if (Value.type "list" == Value.ref C) = true then some true else if ((PySem.W.clsIn K C).isSome && PySem.W.typeIn K (.ref C) == some (.type "type")) = true then PySem.W.subIn K (.type "list") (.ref C) else none) = some false
  rw [if_neg (by intro z; cases z), if_pos e]
  exact sub_list
theorem notFirst_list {K : PySem.W.Frag} {C : Addr} : PySem.W.notFirst K C (.type "list") = true := by
  unfold PySem.W.notFirst
  rw [sub_list]
  rfl
end L2

namespace L2
open PySem PySem.Spec PyProof.Rows
/-! ### data without bools: what == tells is equality -/
mutual
def okD : PyData → Nat → Bool
  | .none, _ => true
  | .int _, _ => true
  | .str s, _ => PyData.strOk s
  | .list xs, n => decide (0 < n) && okDs xs (n - 1)
  | .tuple xs, n => decide (0 < n) && okDs xs (n - 1)
  | .bool _, _ => false
  | .dict _, _ => false
def okDs : List PyData → Nat → Bool
  | [], _ => true
  | x :: xs, n => okD x n && okDs xs n
end
mutual
theorem okD_lay : ∀ (d : PyData) (n : Nat), okD d n = true → d.canLay0 = true ∧ d.depth ≤ n
  | .none, _, _ => ⟨rfl, by simp [PyData.depth]⟩
  | .int _, _, _ => ⟨rfl, by simp [PyData.depth]⟩
  | .str s, _, h => ⟨by simpa [okD, PyData.canLay0] using h, by simp [PyData.depth]⟩
  | .list xs, n, h => by
    simp only [okD, Bool.and_eq_true, decide_eq_true_eq] at h
    obtain ⟨a, b⟩ := okDs_lay xs (n - 1) h.2
    refine ⟨by rw [PyData.canLay0]; exact a, ?_⟩
    simp only [PyData.depth]
    omega
  | .tuple xs, n, h => by
    simp only [okD, Bool.and_eq_true, decide_eq_true_eq] at h
    obtain ⟨a, b⟩ := okDs_lay xs (n - 1) h.2
    refine ⟨by rw [PyData.canLay0]; exact a, ?_⟩
    simp only [PyData.depth]
    omega
  | .bool _, _, h => by simp [okD] at h
  | .dict _, _, h => by simp [okD] at h
theorem okDs_lay : ∀ (ds : List PyData) (n : Nat), okDs ds n = true → PyData.canLayAll0 ds = true ∧ PyData.depthAll ds ≤ n
  | [], _, _ => ⟨rfl, Nat.zero_le _⟩
  | d :: ds, n, h => by
    simp only [okDs, Bool.and_eq_true] at h
    obtain ⟨a, b⟩ := okD_lay d n h.1
    obtain ⟨c, e⟩ := okDs_lay ds n h.2
    simp only [PyData.canLayAll0, PyData.depthAll]
    exact ⟨by rw [a, c]; rfl, Nat.max_le.mpr ⟨b, e⟩⟩
end
theorem okD_shaped {d : PyData} (h : okD d 60 = true) : SeqAt.shaped d = true := by
  obtain ⟨a, b⟩ := okD_lay d 60 h
  unfold SeqAt.shaped
  rw [a, Bool.true_and, decide_eq_true_eq]
  omega
mutual
theorem okD_eqv : ∀ (d e : PyData) (n m : Nat), okD d n = true → okD e m = true → (PyData.eqv d e = true ↔ d = e)
  | .none, e, _, _, _, h => by cases e <;> simp [PyData.eqv, okD] at h ⊢
  | .int i, e, _, _, _, h => by cases e <;> simp [PyData.eqv, okD] at h ⊢
  | .str s, e, _, _, _, h => by cases e <;> simp [PyData.eqv, okD] at h ⊢
  | .list xs, e, n, m, h1, h => by
    cases e with
    | list ys =>
      simp only [okD, Bool.and_eq_true, decide_eq_true_eq] at h1 h
      rw [PyData.eqv, okDs_eqv xs ys _ _ h1.2 h.2]
      simp
    | _ => simp [PyData.eqv, okD] at h ⊢
  | .tuple xs, e, n, m, h1, h => by
    cases e with
    | tuple ys =>
      simp only [okD, Bool.and_eq_true, decide_eq_true_eq] at h1 h
      rw [PyData.eqv, okDs_eqv xs ys _ _ h1.2 h.2]
      simp
    | _ => simp [PyData.eqv, okD] at h ⊢
  | .bool _, _, _, _, h1, _ => by simp [okD] at h1
  | .dict _, _, _, _, h1, _ => by simp [okD] at h1
theorem okDs_eqv : ∀ (ds es : List PyData) (n m : Nat), okDs ds n = true → okDs es m = true → (PyData.eqvAll ds es = true ↔ ds = es)
  | [], es, _, _, _, _ => by cases es <;> simp [PyData.eqvAll]
  | d :: ds, es, n, m, h1, h2 => by
    cases es with
    | nil => simp [PyData.eqvAll]
    | cons e es =>
      simp only [okDs, Bool.and_eq_true] at h1 h2
      rw [PyData.eqvAll, Bool.and_eq_true, okD_eqv d e n m h1.1 h2.1, okDs_eqv ds es n m h1.2 h2.2]
      simp
end
theorem okD_dec {d e : PyData} [Decidable (d = e)] (h1 : okD d 60 = true) (h2 : okD e 60 = true) : PyData.eqv d e = decide (d = e) := by
  rw [Bool.eq_iff_iff, okD_eqv d e 60 60 h1 h2, decide_eq_true_iff]
theorem okDs_map {α : Type} {f : α → PyData} {n : Nat} : ∀ {l : List α}, (∀ x ∈ l, okD (f x) n = true) → okDs (l.map f) n = true
  | [], _ => rfl
  | x :: l, h => by
    rw [List.map_cons, okDs, h x (List.mem_cons_self ..), okDs_map fun y hy => h y (List.mem_cons_of_mem _ hy)]
    rfl
open Classical in
noncomputable instance decD (d e : PyData) : Decidable (d = e) := Classical.propDecidable _
section
variable {K : PySem.W.Frag} {H H' : Hp} {Q : VK} {x y : V} {d e : PyData}
theorem rd_eqP {p : Prop} [Decidable p] (h1 : Dp K H x d) (h2 : Dp K H y e) (o1 : okD d 60 = true) (o2 : okD e 60 = true) (hp : d = e ↔ p) (q : Q (.bl (decide p)) H) : rEqD K x y H Q :=
  ⟨d, e, h1, h2, okD_shaped o1, okD_shaped o2, by rw [okD_dec o1 o2, decide_eq_decide.mpr hp]; exact q⟩
theorem rd_neP {p : Prop} [Decidable p] (h1 : Dp K H x d) (h2 : Dp K H y e) (o1 : okD d 60 = true) (o2 : okD e 60 = true) (hp : d = e ↔ p) (q : Q (.bl (!decide p)) H) : rNeD K x y H Q :=
  ⟨d, e, h1, h2, okD_shaped o1, okD_shaped o2, by rw [okD_dec o1 o2, decide_eq_decide.mpr hp]; exact q⟩
theorem Same.seqT {K : PySem.W.Frag} {H H' : Hp} {a : Addr} {xs : List V} (e : Same H H') (h : SqT K H a xs) : SqT K H' a xs := by
  rcases h with (h | ⟨o, h⟩) | h
  · exact .inl (.inl (e _ _ h))
  · exact .inl (.inr ⟨o, e _ _ h⟩)
  · exact .inr h
mutual
theorem Dp.same (s : Same H H') : ∀ {v : V} {d : PyData}, Dp K H v d → Dp K H' v d
  | _, _, .non => .non
  | _, _, .bl b => .bl b
  | _, _, .int i => .int i
  | _, _, .str x => .str x
  | _, _, .lst h a => .lst (s.seq h) (DpAll.same s a)
  | _, _, .tup h a => .tup (Same.seqT s h) (DpAll.same s a)
theorem DpAll.same (s : Same H H') : ∀ {vs : List V} {ds : List PyData}, DpAll K H vs ds → DpAll K H' vs ds
  | _, _, .nil => .nil
  | _, _, .cons h a => .cons (Dp.same s h) (DpAll.same s a)
end
theorem DpAll.len : ∀ {vs : List V} {ds : List PyData}, DpAll K H vs ds → vs.length = ds.length
  | _, _, .nil => rfl
  | _, _, .cons _ a => by rw [List.length_cons, List.length_cons, DpAll.len a]
theorem DpAll.at : ∀ {vs : List V} {ds : List PyData} {i : Nat} {v : V}, DpAll K H vs ds → vs[i]? = some v → ∃ d, ds[i]? = some d ∧ Dp K H v d
  | _, _, i, _, .nil, e => by cases e
  | _, _, 0, _, .cons (d := d) h _, e => ⟨d, rfl, by cases e; exact h⟩
  | _, _, i + 1, _, .cons _ a, e => DpAll.at (i := i) a e
theorem DpAll.snoc : ∀ {vs : List V} {ds : List PyData} {v : V} {d : PyData}, DpAll K H vs ds → Dp K H v d → DpAll K H (vs ++ [v]) (ds ++ [d])
  | _, _, _, _, .nil, h => .cons h .nil
  | _, _, _, _, .cons a r, h => .cons a (DpAll.snoc r h)
theorem Dp.int_inv {n : Int} (h : Dp K H x (.int n)) : x = .int n := by
  cases h
  rfl
theorem Dp.str_inv {n : Str} (h : Dp K H x (.str n)) : x = .str n := by
  cases h
  rfl
theorem Dp.tup_inv {ds : List PyData} (h : Dp K H x (.tuple ds)) : ∃ a xs, x = .ref a ∧ SqT K H a xs ∧ DpAll K H xs ds := by
  cases h with
  | tup a b => exact ⟨_, _, rfl, a, b⟩
theorem Dp.lst_inv {ds : List PyData} (h : Dp K H x (.list ds)) : ∃ a xs, x = .ref a ∧ SqL K H a xs ∧ DpAll K H xs ds := by
  cases h with
  | lst a b => exact ⟨_, _, rfl, a, b⟩
theorem DpAll.ints : ∀ {ns : List Int} {vs : List V}, DpAll K H vs (ns.map PyData.int) → vs = ns.map V.int
  | [], _, .nil => rfl
  | n :: ns, _, .cons h a => by rw [Dp.int_inv h, DpAll.ints a]; rfl
theorem DpAll.nil_inv {vs : List V} (h : DpAll K H vs []) : vs = [] := by
  cases h
  rfl
theorem DpAll.cons_inv {vs : List V} {ds : List PyData} (h : DpAll K H vs (d :: ds)) : ∃ v vs', vs = v :: vs' ∧ Dp K H v d ∧ DpAll K H vs' ds := by
  cases h with
  | cons a b => exact ⟨_, _, rfl, a, b⟩
end
/-! ### loops that leave the heap -/
section
variable {σ : St} {H : Hp} {K : PySem.W.Frag} {t : TS} {nx : St → Hp → Prop} {rt : VK}
theorem rd_forRs {lo : Int} {n : Nat} {g : TG} (Pv : Nat → St → Prop) (h0 : Pv 0 σ)
    (hs : ∀ i σ, i < n → Pv i σ → g (.int (lo + i)) σ H fun σ2 H2 => t ⟨fun σ' H' => H = H' ∧ Pv (i + 1) σ', rt, nx, fun σ' H' => H = H' ∧ Pv (i + 1) σ'⟩ σ2 H2) (hd : ∀ σ, Pv n σ → nx σ H) : fBody (Itr lo n) g t nx rt σ H :=
  rd_forR (fun i σ' H' => H = H' ∧ Pv i σ') ⟨rfl, h0⟩ (fun i σ' H' hi p => by obtain ⟨rfl, p⟩ := p; exact hs i σ' hi p) fun σ' H' p => by obtain ⟨rfl, p⟩ := p; exact hd σ' p
theorem rd_forLs {a : Addr} {xs : List V} {g : TG} (Pv : Nat → St → Prop) (hl : SqL K H a xs) (h0 : Pv 0 σ)
    (hs : ∀ i x σ, xs[i]? = some x → Pv i σ → g x σ H fun σ2 H2 => t ⟨fun σ' H' => H = H' ∧ Pv (i + 1) σ', rt, nx, fun σ' H' => H = H' ∧ Pv (i + 1) σ'⟩ σ2 H2) (hd : ∀ σ, Pv xs.length σ → nx σ H) : fBody (Itl K a) g t nx rt σ H :=
  rd_forL (fun i σ' H' => H = H' ∧ Pv i σ') ⟨rfl, h0⟩ (fun i σ' H' _ p => by obtain ⟨rfl, _⟩ := p; exact hl) (fun i x σ' H' hi p => by obtain ⟨rfl, p⟩ := p; exact hs i x σ' hi p) fun σ' H' p => by obtain ⟨rfl, p⟩ := p; exact hd σ' p
theorem rd_forTs {a : Addr} {xs : List V} {g : TG} (Pv : Nat → St → Prop) (hl : SqT K H a xs) (h0 : Pv 0 σ)
    (hs : ∀ i x σ, xs[i]? = some x → Pv i σ → g x σ H fun σ2 H2 => t ⟨fun σ' H' => H = H' ∧ Pv (i + 1) σ', rt, nx, fun σ' H' => H = H' ∧ Pv (i + 1) σ'⟩ σ2 H2) (hd : ∀ σ, Pv xs.length σ → nx σ H) : fBody (Itt K a) g t nx rt σ H :=
  rd_forT (fun i σ' H' => H = H' ∧ Pv i σ') ⟨rfl, h0⟩ (fun i σ' H' _ p => by obtain ⟨rfl, _⟩ := p; exact hl) (fun i x σ' H' hi p => by obtain ⟨rfl, p⟩ := p; exact hs i x σ' hi p) fun σ' H' p => by obtain ⟨rfl, p⟩ := p; exact hd σ' p
end
section
theorem rd_eqF {p A B : Prop} [Decidable p] (h : ¬ p) (q : B) : if decide p = true then A else B := by
  rw [decide_eq_false h]
  exact q
theorem rd_neT {p A B : Prop} [Decidable p] (h : ¬ p) (q : A) : if (!decide p) = true then A else B := by
  rw [decide_eq_false h]
  exact q
end
instance st_non {P : Prop} : Stp (V.non = V.non ∧ P) P := ⟨fun h => ⟨rfl, h⟩⟩
theorem non_int {k : Int} : ¬ V.int k = V.non := fun z => V.noConfusion z
theorem non_ref {k : Addr} : ¬ V.ref k = V.non := fun z => V.noConfusion z
theorem upd_at {H : Hp} {p q : Addr} {o u : HO} (h : H p = some o) (n : H p = some o → p ≠ q) : upd H q u p = some o := (upd_ne (n h)).trans h
end L2

namespace L2
open PySem PySem.Spec PyProof.Rows
/-! ### sizes of whole numbers, by bits -/
structure Bd (n : Nat) (x : Int) : Prop where
  h : x.natAbs < 2 ^ n
theorem Bd.mono {n m : Nat} {x : Int} (h : Bd n x) (hm : n ≤ m) : Bd m x := ⟨Nat.lt_of_lt_of_le h.h (Nat.pow_le_pow_right (by decide) hm)⟩
theorem Bd.mul {n m : Nat} {x y : Int} (h : Bd n x) (k : Bd m y) : Bd (n + m) (x * y) := ⟨wide_lt h.h k.h⟩
theorem Bd.neg {n : Nat} {x : Int} (h : Bd n x) : Bd n (-x) := ⟨by
  rw [Int.natAbs_neg]
  exact h.h⟩
theorem Bd.add {n m : Nat} {x y : Int} (h : Bd n x) (k : Bd m y) : Bd (max n m + 1) (x + y) := ⟨by
  have a := (Bd.mono h (Nat.le_max_left n m)).h
  have b := (Bd.mono k (Nat.le_max_right n m)).h
  have := Int.natAbs_add_le x y
  rw [Nat.pow_succ]
  omega⟩
theorem Bd.sub {n m : Nat} {x y : Int} (h : Bd n x) (k : Bd m y) : Bd (max n m + 1) (x - y) := by
  rw [Int.sub_eq_add_neg]
  exact Bd.add h k.neg
theorem Bd.lt {n : Nat} {x : Int} (h : Bd n x) : -(2 ^ n) < x ∧ x < 2 ^ n := by
  have e : ((2 ^ n : Nat) : Int) = 2 ^ n := by rw [Int.natCast_pow]; rfl
  have := h.h
  omega
theorem Bd.of {n : Nat} {x : Int} (h : -(2 ^ n) < x) (k : x < 2 ^ n) : Bd n x := ⟨by
  have e : ((2 ^ n : Nat) : Int) = 2 ^ n := by rw [Int.natCast_pow]; rfl
  omega⟩
theorem Bd.le {n : Nat} {x y : Int} (h : Bd n y) (h1 : x.natAbs ≤ y.natAbs) : Bd n x := ⟨Nat.lt_of_le_of_lt h1 h.h⟩
theorem Bd.div {n : Nat} {x y : Int} (h : Bd n x) (hy : 0 < y) : Bd (n + 1) (x / y) := by
  have l := h.lt
  have p0 : (0 : Int) < 2 ^ n := Int.pow_pos (by decide)
  have e := Int.mul_ediv_add_emod x y
  have r0 := Int.emod_nonneg x (show y ≠ 0 by omega)
  have r1 := Int.emod_lt_of_pos x hy
  refine Bd.of ?_ ?_
  · rw [Int.pow_succ]
    have : -(2 ^ n) ≤ x / y := by
      refine Int.le_ediv_of_mul_le hy ?_
      have : (2 : Int) ^ n * 1 ≤ 2 ^ n * y := Int.mul_le_mul_of_nonneg_left (by omega) (by omega)
      rw [Int.neg_mul]
      omega
    omega
  · rw [Int.pow_succ]
    by_cases hx : 0 ≤ x
    · have := Int.ediv_le_self y hx
      omega
    · have := Int.ediv_neg_of_neg_of_pos (show x < 0 by omega) hy
      omega
theorem Bd.lit {x : Int} {n : Nat} (h : x.natAbs < 2 ^ 64) (hn : 64 ≤ n) : Bd n x := Bd.mono ⟨h⟩ hn
theorem Bd.mulN {n : Nat} {x y : Int} (h : Bd (n / 2) x) (k : Bd (n / 2) y) : Bd n (x * y) := (h.mul k).mono (by omega)
theorem Bd.addN {n : Nat} {x y : Int} (h : Bd (n - 1) x) (k : Bd (n - 1) y) (hn : 0 < n) : Bd n (x + y) := (h.add k).mono (by omega)
theorem Bd.subN {n : Nat} {x y : Int} (h : Bd (n - 1) x) (k : Bd (n - 1) y) (hn : 0 < n) : Bd n (x - y) := (h.sub k).mono (by omega)
theorem CMulB.bd {x y : Int} (h : Bd 9000 x) (k : Bd 9000 y) : CMulB x y := .inr (wide_mul h.h k.h (by decide) (by decide) (by decide))
end L2
namespace L2
open PySem PySem.Spec PyProof.Rows
/-! ### texts of whole numbers, str(o) of an own __str__ -/
def txI (i : Int) : Str := Str.ofString (toString i)
theorem txI_len {i : Int} {n : Nat} (h : Bd n i) (hn : n ≤ 1000) : (txI i).length ≤ 1001 ∧ i.natAbs.log2 < 1000 := by
  have l : i.natAbs.log2 < 1000 := PySem.Flt.log2_lt_of (by decide) (h.mono hn).h
  have e := int_text_length_le (k := 1000) (by decide) l
  unfold txI
  rw [PySem.ofString_length]
  exact ⟨e, l⟩
def rStrO (C : Addr) (sp : Sp) (E : XK) : List V → Hp → VK → Prop := fun xs H Q => ∃ a dx fs, xs = [.ref a] ∧ H a = some (.ins C dx fs) ∧ sp [.ref a] H (fun v H' => ∃ z, v = .str z ∧ Q (.str z) H') E
def rStrI : List V → Hp → VK → Prop := fun xs H Q => ∃ i, xs = [.int i] ∧ i.natAbs.log2 < 1920 ∧ Q (.str (txI i)) H
section
variable {X : Cx}
theorem call_strI : CallR X (.type "str") rStrI := call_str_int
theorem call_strO {k : Nat} {C : Addr} {ps : List Str} {sp : Sp} {E : XK} (D : MDef X.prog X.w X.K X.mg X.base k C "__str__" ps sp) (hr : Room (k + 2) X.A) (hx : Passes (L2.CX X.prog X.w) X E) : CallR X (.type "str") (rStrO C sp E) := by
  intro pins s σ H xs us Q I r h
  obtain ⟨f, fd, F, g, b⟩ := D.ex
  obtain ⟨a, dx, fs, rfl, ha, hsp⟩ := h
  obtain ⟨u, rfl, hu⟩ := vals1 r
  cases (show u = Value.ref a from hu)
  obtain ⟨mA, J, _⟩ := ins_get I.hok ha
  obtain ⟨od, J, _⟩ := J.look
  refine PySem.W.kso_call hr.in1.in1.units0 I.kIn J g.at_ g.fn ?_
  have e0 : Env0 X.prog X.w X.K X.mg X.base X.A.in1.in1 X.stack s H := by
    have e := I.env0
    exact ⟨e.frames, e.mod, e.bs, e.bsz, e.funs, e.frf, e.hok, e.bare⟩
  have hl := F.len _ _ _ _ hsp
  have r2 : Vals [V.ref a] [Value.ref a] := .cons rfl .nil
  refine wpAny_call (codeAny_mono (F.run X.A.in1.in1 X.stack s H ⟨[.ref a], []⟩ [.ref a] [.ref a] _ E hr.in1.in1 e0 (by
    have := b s [.ref a] I.kIn (by simpa using hl)
    simpa using this) r2 hsp) fun r s' hq => ?_)
  cases r with
  | error e => exact hx pins σ H s e s' I hq
  | ok fl =>
    cases fl with
    | ret w =>
      obtain ⟨z, H', I', rz, y, ez, q⟩ := I.after hq
      subst ez
      obtain ⟨t, rfl⟩ := rz
      exact ⟨.str y, H', I', ⟨t, rfl⟩, q⟩
    | next => exact False.elim hq
    | brk => exact False.elim hq
    | cont => exact False.elim hq
end
section
variable {σ : St} {H : Hp} {Q : VK} {te : TE} {ts : List TE} {acc : Str} {R : Str → Hp → Prop}
def rFmt (Q : VK) : V → Hp → Prop := fun x H1 => (∃ y : Str, x = .str y ∧ y.length ≤ sizeLine ∧ Q (.str y) H1) ∨ ∃ i : Int, x = .int i ∧ i.natAbs.log2 < 1920 ∧ Q (.str (toString i)) H1
instance st_fmt : Stp (tFmt te σ H Q) (te σ H (rFmt Q)) := ⟨fun h => h⟩
theorem rd_fmtI {i : Int} (h : i.natAbs.log2 < 1920) (q : Q (.str (txI i)) H) : rFmt Q (.int i) H := .inr ⟨i, rfl, h, q⟩
instance st_jsN : Stp (tJs [] acc σ H R) (R acc H) := ⟨fun h => h⟩
def rJs (ts : List TE) (acc : Str) (σ : St) (R : Str → Hp → Prop) : V → Hp → Prop := fun x H1 => ∃ y : Str, x = .str y ∧ (acc ++ y).length ≤ sizeLine ∧ tJs ts (acc ++ y) σ H1 R
instance st_jsC : Stp (tJs (te :: ts) acc σ H R) (te σ H (rJs ts acc σ R)) := ⟨fun h => h⟩
theorem rd_js {y : Str} (h : (acc ++ y).length ≤ sizeLine) (q : tJs ts (acc ++ y) σ H R) : rJs ts acc σ R (.str y) H := ⟨y, rfl, h, q⟩
theorem rd_strI {i : Int} (h : i.natAbs.log2 < 1920) (q : Q (.str (txI i)) H) : rStrI [.int i] H Q := ⟨i, rfl, h, q⟩
end
end L2

namespace L2
open PySem PySem.Spec PyProof.Rows
/-! ### walks of other kinds -/
section
variable {σ : St} {H : Hp} {K : PySem.W.Frag} {t : TS} {nx : St → Hp → Prop} {rt : VK} {Q : VK} {tr : TA} {te : TE} {tt : TT} {S : It → Hp → Prop} {J : It} {n : Nat} {G : Hp → Prop} {Y : Nat → Hp → V → Hp → Prop}
theorem rd_forW (w : Walk J n G Y) {g : TG} (Pv : Nat → St → Hp → Prop) (h0 : Pv 0 σ H) (hG : ∀ i σ H, i ≤ n → Pv i σ H → G H)
    (hs : ∀ i x σ H H', i < n → Pv i σ H → Y i H x H' → g x σ H' fun σ2 H2 => t ⟨Pv (i + 1), rt, nx, Pv (i + 1)⟩ σ2 H2) (hd : ∀ σ H, Pv n σ H → nx σ H) : fBody J g t nx rt σ H :=
  for_it (D := ⟨nx, rt, fun _ _ => False, fun _ _ => False⟩) w Pv h0 hG hs hd
def rIRev (K : PySem.W.Frag) (S : It → Hp → Prop) (vs : List V) (H : Hp) : Prop := ∃ (a : Addr) (xs : List V), vs = [.ref a] ∧ SqL K H a xs ∧ S (Itv K a xs.length) H
instance st_iRev : Stp (iRev K tr σ H S) (tr σ H (rIRev K S)) := ⟨fun h => h⟩
theorem rd_iRev1 {a : Addr} {xs : List V} (h : SqL K H a xs) (q : S (Itv K a xs.length) H) : rIRev K S [.ref a] H := ⟨a, xs, rfl, h, q⟩
theorem rd_forV {a : Addr} {xs : List V} {g : TG} (Pv : Nat → St → Hp → Prop) (h0 : Pv 0 σ H) (hl : ∀ i σ H, i ≤ xs.length → Pv i σ H → SqL K H a xs)
    (hs : ∀ i x σ H, xs.reverse[i]? = some x → Pv i σ H → g x σ H fun σ2 H2 => t ⟨Pv (i + 1), rt, nx, Pv (i + 1)⟩ σ2 H2) (hd : ∀ σ H, Pv xs.length σ H → nx σ H) : fBody (Itv K a xs.length) g t nx rt σ H :=
  rd_forW (walk_rev (K := K) (a := a) (xs := xs)) Pv h0 hl (fun i x σ H H' hi p y => by
    obtain ⟨rfl, y⟩ := y
    refine hs i x σ _ ?_ p
    rw [List.getElem?_reverse hi]
    exact y) hd
theorem rd_forVs {a : Addr} {xs : List V} {g : TG} (Pv : Nat → St → Prop) (hl : SqL K H a xs) (h0 : Pv 0 σ)
    (hs : ∀ i x σ, xs.reverse[i]? = some x → Pv i σ → g x σ H fun σ2 H2 => t ⟨fun σ' H' => H = H' ∧ Pv (i + 1) σ', rt, nx, fun σ' H' => H = H' ∧ Pv (i + 1) σ'⟩ σ2 H2) (hd : ∀ σ, Pv xs.length σ → nx σ H) : fBody (Itv K a xs.length) g t nx rt σ H :=
  rd_forV (fun i σ' H' => H = H' ∧ Pv i σ') ⟨rfl, h0⟩ (fun i σ' H' _ p => by obtain ⟨rfl, _⟩ := p; exact hl) (fun i x σ' H' hi p => by obtain ⟨rfl, p⟩ := p; exact hs i x σ' hi p) fun σ' H' p => by obtain ⟨rfl, p⟩ := p; exact hd σ' p
/-- a comprehension over a list; each turn only makes new things -/
theorem rd_lcP {a : Addr} {xs : List V} {g : TG} {vs : List Nat} (P : Nat → List V → Prop) (hS : SqL K H a xs) (nt : NoT H) (h0 : P 0 [])
    (hs : ∀ D i ys x H', xs[i]? = some x → Same H H' → NoT H' → H D = none → H' D = some (.lst ys) → P i ys → g x (wipe σ vs) H' fun σ2 H2 => wipe σ2 vs = wipe σ vs ∧ tt σ2 H2 fun b H3 =>
      if b = true then te σ2 H3 (fun y H4 => ∃ acc, H4 D = some (.lst acc) ∧ acc.length < sizeLine ∧ ∃ ys, upd H4 D (.lst (acc ++ [y])) D = some (.lst ys) ∧ Same H (upd H4 D (.lst (acc ++ [y]))) ∧ NoT (upd H4 D (.lst (acc ++ [y]))) ∧ P (i + 1) ys)
      else ∃ ys, H3 D = some (.lst ys) ∧ Same H H3 ∧ NoT H3 ∧ P (i + 1) ys)
    (q : ∀ D ys H', H D = none → H' D = some (.lst ys) → Same H H' → NoT H' → P xs.length ys → Q (.ref D) H') : lcB (Itl K a) g tt te vs σ Q H := by
  intro D hD
  refine lc_it (walk_list (K := K) (a := a) (xs := xs)) (fun i H' => ∃ ys, H' D = some (.lst ys) ∧ Same H H' ∧ NoT H' ∧ P i ys) ⟨[], upd_same, same_new hD, NoT.upd nt rfl, h0⟩ (fun i H' _ ⟨ys, _, s, _⟩ => s.seq hS) ?_ (fun H' ⟨ys, h1, s, n, p⟩ => q D ys H' hD h1 s n p)
  rintro i x H' H'' hi ⟨ys, h1, s, n, p⟩ ⟨rfl, hx⟩
  exact hs D i ys x _ hx s n hD h1 p
theorem put_P {P : List V → Prop} {D : Addr} {H H4 : Hp} {acc : List V} {y : V} (h : H4 D = some (.lst acc)) (hl : acc.length < sizeLine) (sm : Same H H4) (hD : H D = none) (n : NoT H4) (p : P (acc ++ [y])) :
    ∃ acc, H4 D = some (.lst acc) ∧ acc.length < sizeLine ∧ ∃ ys, upd H4 D (.lst (acc ++ [y])) D = some (.lst ys) ∧ Same H (upd H4 D (.lst (acc ++ [y]))) ∧ NoT (upd H4 D (.lst (acc ++ [y]))) ∧ P ys :=
  ⟨acc, h, hl, _, upd_same, same_upd2 sm hD, NoT.upd n rfl, p⟩
/-- the same over a range -/
theorem rd_lcRP {lo : Int} {m : Nat} {g : TG} {vs : List Nat} (P : Nat → List V → Prop) (nt : NoT H) (h0 : P 0 [])
    (hs : ∀ D i ys H', i < m → Same H H' → NoT H' → H D = none → H' D = some (.lst ys) → P i ys → g (.int (lo + i)) (wipe σ vs) H' fun σ2 H2 => wipe σ2 vs = wipe σ vs ∧ tt σ2 H2 fun b H3 =>
      if b = true then te σ2 H3 (fun y H4 => ∃ acc, H4 D = some (.lst acc) ∧ acc.length < sizeLine ∧ ∃ ys, upd H4 D (.lst (acc ++ [y])) D = some (.lst ys) ∧ Same H (upd H4 D (.lst (acc ++ [y]))) ∧ NoT (upd H4 D (.lst (acc ++ [y]))) ∧ P (i + 1) ys)
      else ∃ ys, H3 D = some (.lst ys) ∧ Same H H3 ∧ NoT H3 ∧ P (i + 1) ys)
    (q : ∀ D ys H', H D = none → H' D = some (.lst ys) → Same H H' → NoT H' → P m ys → Q (.ref D) H') : lcB (Itr lo m) g tt te vs σ Q H := by
  intro D hD
  refine lc_it (walk_range (lo := lo) (n := m)) (fun i H' => ∃ ys, H' D = some (.lst ys) ∧ Same H H' ∧ NoT H' ∧ P i ys) ⟨[], upd_same, same_new hD, NoT.upd nt rfl, h0⟩ (fun i H' _ _ => trivial) ?_ (fun H' ⟨ys, h1, s, n, p⟩ => q D ys H' hD h1 s n p)
  rintro i x H' H'' hi ⟨ys, h1, s, n, p⟩ ⟨rfl, hx⟩
  subst hx
  exact hs D i ys _ hi s n hD h1 p
end
def rAddS : R2 := fun x y H Q => ∃ i j, x = .str i ∧ y = .str j ∧ i.length + j.length ≤ sizeLine ∧ Q (.str (i ++ j)) H
theorem op_addS {X : Cx} : OpR X (binaryOp .Add) rAddS := op_add_str
theorem rd_addS {H : Hp} {Q : VK} {i j : Str} (h : i.length + j.length ≤ sizeLine) (q : Q (.str (i ++ j)) H) : rAddS (.str i) (.str j) H Q := ⟨i, j, rfl, rfl, h, q⟩
def rRevV (K : PySem.W.Frag) (Q : VK) : V → Hp → Prop := fun x H1 => ∃ a xs, x = .ref a ∧ SqL K H1 a xs ∧ ∀ p, H1 p = none → Q (.ref p) (upd H1 p (.lst xs.reverse))
instance st_revL {K : PySem.W.Frag} {te : TE} {σ : St} {H : Hp} {Q : VK} : Stp (tRevL K te σ H Q) (te σ H (rRevV K Q)) := ⟨fun h => h⟩
theorem rd_revV {K : PySem.W.Frag} {H : Hp} {Q : VK} {a : Addr} {xs : List V} (h : SqL K H a xs) (q : ∀ p, H p = none → Q (.ref p) (upd H p (.lst xs.reverse))) : rRevV K Q (.ref a) H := ⟨a, xs, rfl, h, q⟩
theorem room2 {xs zs : List V} {n m : Nat} (h1 : xs.length ≤ n) (h2 : zs.length ≤ m) (h : n + m ≤ 1000000) : xs.length + zs.length ≤ sizeLine := Nat.le_trans (Nat.add_le_add h1 h2) (Nat.le_trans h (by decide))
theorem len_one {v : V} : [v].length ≤ 1 := Nat.le_refl 1
theorem len_app {xs ys : List V} {n m : Nat} (h1 : xs.length ≤ n) (h2 : ys.length ≤ m) : (xs ++ ys).length ≤ n + m := by
  rw [List.length_append]
  exact Nat.add_le_add h1 h2
theorem len_rev {xs : List V} {n : Nat} (h : xs.length ≤ n) : xs.reverse.length ≤ n := by
  rw [List.length_reverse]
  exact h
theorem same_upd3 {H H' : Hp} {p : Addr} {o : HO} (h : Same H H') (hp : H' p = none) : Same H (upd H' p o) := same_upd2 h (h.free hp)
end L2

namespace My
open PySem PySem.Spec PyProof.Rows L2
/-! one step of a reading, by its head -/
local macro_rules | `(tactic| wtm_at "r") => `(tactic| first
  | (with_reducible refine rd_var rfl ?_)
  | (with_reducible refine Stp.mp ?_)
  | (with_reducible first
    | refine rd_I ?_ ?_
    | refine rd_augC rfl ?_
    | refine rd_r1 ?_ ?_ ?_
    | refine rd_r2 ?_ ?_
    | refine rd_pure ?_ ?_
    | refine rd_pureT ?_ ?_
    | refine rd_back (by assumption) ?_
    | fail)
  | fail)
/-! branch -/
local macro_rules | `(tactic| wtm_at "i") => `(tactic| (with_reducible first
  | refine rd_ite (fun _ => ?_) (fun _ => ?_)
  | refine rd_iteN (fun _ => ?_) (fun _ => ?_)
  | refine rd_iteb (fun _ => ?_) (fun _ => ?_)))
/-! where something stands in the heap; two places differ -/
local macro_rules | `(tactic| wtm_at "ne") => `(tactic| with_reducible first
  | assumption
  | exact Ne.symm (by assumption)
  | exact ne_of_none (by assumption) (by assumption)
  | exact Ne.symm (ne_of_none (by assumption) (by assumption))
  | fail)
local macro_rules | `(tactic| wtm_at "h") => `(tactic| first
  | with_reducible assumption
  | with_reducible exact upd_same
  | ((with_reducible rw [upd_upd]); wtm_at "h")
  | ((with_reducible refine upd_at ?h1 ?h2); (case h1 => wtm_at "h"); (case h2 => intro hh; first | with_reducible exact ne_of_none hh (by assumption) | wtm_at "ne" | fail))
  | fail)
/-! what was tracked stands -/
local macro_rules | `(tactic| wtm_at "sm") => `(tactic| first
  | with_reducible assumption
  | (with_reducible exact Same.refl _)
  | ((with_reducible refine same_upd3 ?_ (by with_reducible assumption)); wtm_at "sm")
  | ((with_reducible refine same_upd2 ?_ (by with_reducible assumption)); wtm_at "sm")
  | (refine same_upd2 ?_ (by first | with_reducible assumption | (refine Same.free ?_ (by with_reducible assumption); wtm_at "sm") | fail); wtm_at "sm")
  | (refine Same.trans ?_ (by with_reducible assumption); wtm_at "sm")
  | (refine Same.trans (by with_reducible assumption) ?_; wtm_at "sm")
  | fail)
local macro_rules | `(tactic| wtm_at "q") => `(tactic| first
  | with_reducible assumption
  | ((with_reducible refine SqL.of ?h1); (case h1 => wtm_at "h"))
  | ((with_reducible refine SqT.of ?h1); (case h1 => wtm_at "h"))
  | ((with_reducible refine Same.seq ?_ (by assumption)); wtm_at "sm")
  | ((with_reducible refine Same.seqT ?_ (by assumption)); wtm_at "sm")
  | ((with_reducible refine Same.lst ?_ (by assumption)); wtm_at "sm")
  | assumption
  | fail)
/-! data, read off the heap -/
local macro_rules | `(tactic| wtm_at "dp") => `(tactic| first
  | with_reducible assumption
  | exact Dp.int _
  | exact Dp.bl _
  | exact Dp.str _
  | exact Dp.non
  | exact DpAll.nil
  | (with_reducible exact dpAll_ints _)
  | (with_reducible exact dpAll_bls _)
  | ((with_reducible refine DpAll.cons (d := ?d) (ds := ?ds) ?h1 ?h2); (case h1 => wtm_at "dp"); (case h2 => wtm_at "dp"))
  | ((with_reducible refine Dp.lst (xs := ?xs) (ds := ?ds) ?h1 ?h2); (case h1 => wtm_at "q"); (case h2 => wtm_at "dp"))
  | ((with_reducible refine Dp.tup (xs := ?xs) (ds := ?ds) ?h1 ?h2); (case h1 => wtm_at "q"); (case h2 => wtm_at "dp"))
  | ((with_reducible refine Dp.same ?_ (by assumption)); wtm_at "sm")
  | fail)
/-! no dict with tuple keys -/
local macro_rules | `(tactic| wtm_at "nt") => `(tactic| first
  | with_reducible assumption
  | ((with_reducible refine NoT.upd ?_ rfl); wtm_at "nt")
  | fail)
/-! what is asked on the side -/
local macro_rules | `(tactic| wtm_at "s") => `(tactic| first
  | ((with_reducible show NoT _); wtm_at "nt")
  | ((with_reducible show (_ : Int) < _); omega)
  | ((with_reducible show CMulB _ _); assumption)
  | ((with_reducible show CMulB _ _); exact Or.inl (Or.inl ⟨by omega, by omega⟩))
  | ((with_reducible show CMulB _ _); exact Or.inl (Or.inr ⟨by omega, by omega⟩))
  | ((with_reducible show CMulB _ _); exact CMulB.wide ⟨by omega, by omega⟩ ⟨by omega, by omega⟩)
  | ((with_reducible show CDivB _ _); exact ⟨by omega, by omega⟩)
  | ((with_reducible refine rd_powN ?h1 ?h2 ?h3 ?_); (case h1 => rfl); (case h2 => decide); (case h3 => first | decide | omega))
  | ((with_reducible refine rd_setL (xs := ?xs) (j := ?j) ?h1 ?h2 ?_); (case h1 => wtm_at "h"); (case h2 => rfl))
  | ((with_reducible refine rd_ixL (xs := ?xs) (v := ?v) ?h1 ?h2 ?_); (case h1 => wtm_at "q"); (case h2 => rfl))
  | ((with_reducible refine rd_ixT (xs := ?xs) (v := ?v) ?h1 ?h2 ?_); (case h1 => wtm_at "q"); (case h2 => rfl))
  | ((with_reducible show -2 ^ 62 ≤ (_ : Int)); omega)
  | ((with_reducible show (_ : Int) ≤ _); omega)
  | ((with_reducible show (_ : Int) ≤ _ ∧ _); exact ⟨by omega, by omega, by omega, by omega⟩)
  | ((with_reducible refine rd_iL1 (xs := ?xs) ?h1 ?_); (case h1 => wtm_at "q"))
  | ((with_reducible refine rd_iT1 (xs := ?xs) ?h1 ?_); (case h1 => wtm_at "q"))
  | ((with_reducible refine rd_eqD (d := ?d) (e := ?e) ?h1 ?h2 ?h3 ?h4 ?_); (case h1 => wtm_at "dp"); (case h2 => wtm_at "dp"); (case h3 => rfl); (case h4 => rfl))
  | ((with_reducible refine rd_neD (d := ?d) (e := ?e) ?h1 ?h2 ?h3 ?h4 ?_); (case h1 => wtm_at "dp"); (case h2 => wtm_at "dp"); (case h3 => rfl); (case h4 => rfl))
  | ((with_reducible refine rd_xfb (fs := ?fs) (v := ?v) ?h1 ?h2 ?_); (case h1 => wtm_at "h"); (case h2 => rfl))
  | ((with_reducible refine rd_append (xs := ?xs) ?h1 ?h2 ?_); (case h1 => wtm_at "h"); (case h2 => first | assumption | exact Nat.le_of_ble_eq_true rfl | (refine Nat.lt_of_le_of_lt (m := 1000000) ?_ (by decide); omega)))
  | ((with_reducible refine rd_lenL (ys := ?ys) ?h1 ?_); (case h1 => wtm_at "q"))
  | ((with_reducible refine rd_lenT (ys := ?ys) ?h1 ?_); (case h1 => wtm_at "q"))
  | ((with_reducible refine rd_new ?h1 ?_); (case h1 => exact Nat.le_of_ble_eq_true rfl); intro p hp)
  | ((with_reducible refine rd_tyL (xs := ?xs) ?h1 ?_); (case h1 => wtm_at "h"))
  | ((with_reducible refine rd_gtup (xs := ?xs) ?h1 ?h2 ?_); (case h1 => wtm_at "q"); (case h2 => rfl))
  | ((with_reducible refine rd_unl (xs := ?xs) ?h1 ?h2 ?_); (case h1 => wtm_at "q"); (case h2 => rfl))
  | ((with_reducible refine rd_slL (xs := ?xs) ?h1 ?_); (case h1 => wtm_at "q"); intro p hp)
  | ((with_reducible refine rd_cat (xs := ?xs) (zs := ?zs) ?h1 ?h2 ?h3 ?_); (case h1 => wtm_at "h"); (case h2 => wtm_at "h"); (case h3 => first | assumption | exact Nat.le_of_ble_eq_true rfl); intro p hp)
  | ((with_reducible refine rd_isiL (xs := ?xs) ?h1 ?_); (case h1 => wtm_at "h"))
  | ((with_reducible refine rd_isiT (xs := ?xs) ?h1 ?_); (case h1 => wtm_at "h"))
  | ((with_reducible refine rd_mk1 ?h1 ?h2 ?_); (case h1 => rfl); (case h2 => decide)))
local macro_rules | `(tactic| wtm_at "s") => `(tactic| first
  | ((with_reducible refine rd_neF ?h1 ?_); (case h1 => first | with_reducible rfl | assumption | fail))
  | ((with_reducible refine rd_eqT ?h1 ?_); (case h1 => first | with_reducible rfl | assumption | fail))
  | ((with_reducible refine rd_neT ?h1 ?_); (case h1 => first | assumption | exact non_int | exact non_ref | exact Bool.false_ne_true | exact Bool.false_ne_true.symm | fail))
  | ((with_reducible refine rd_eqF ?h1 ?_); (case h1 => first | assumption | exact non_int | exact non_ref | exact Bool.false_ne_true | exact Bool.false_ne_true.symm | fail))
  | fail)
local macro_rules | `(tactic| wtm_at "bd") => `(tactic| first
  | with_reducible assumption
  | exact Bd.mono (by with_reducible assumption) (by decide)
  | exact Bd.lit (by decide) (by decide)
  | ((with_reducible refine Bd.mulN ?_ ?_) <;> wtm_at "bd")
  | ((with_reducible refine Bd.addN ?h1 ?h2 ?h3); (case h1 => wtm_at "bd"); (case h2 => wtm_at "bd"); (case h3 => decide))
  | ((with_reducible refine Bd.subN ?h1 ?h2 ?h3); (case h1 => wtm_at "bd"); (case h2 => wtm_at "bd"); (case h3 => decide))
  | ((with_reducible refine Bd.neg ?h1); (case h1 => wtm_at "bd"))
  | fail)
local macro_rules | `(tactic| wtm_at "s") => `(tactic| first
  | ((with_reducible refine rd_fld1 (dx := ?dx) (fs := ?fs) (v := ?v) ?h1 ?h2 ?_); (case h1 => wtm_at "h"); (case h2 => rfl))
  | ((with_reducible refine rd_meth1 (dx := ?dx) (fs := ?fs) ?h1 ?h2 ?_); (case h1 => wtm_at "h"); (case h2 => rfl))
  | ((with_reducible refine rd_sfld1 (dx := ?dx) (fs := ?fs) ?h1 ?h2 ?_); (case h1 => wtm_at "h"); (case h2 => exact Nat.le_of_ble_eq_true rfl))
  | ((with_reducible refine rd_fmtI ?h1 ?_); (case h1 => exact Nat.lt_trans (txI_len (n := 1000) (by wtm_at "bd") (Nat.le_refl _)).2 (by decide)))
  | ((with_reducible refine rd_strI ?h1 ?_); (case h1 => exact Nat.lt_trans (txI_len (n := 1000) (by wtm_at "bd") (Nat.le_refl _)).2 (by decide)))
  | ((with_reducible refine rd_eqInts (ns := ?ns) (ms := ?ms) ?h1 ?h2 ?_); (case h1 => wtm_at "q"); (case h2 => wtm_at "q"))
  | ((with_reducible refine rd_neInts (ns := ?ns) (ms := ?ms) ?h1 ?h2 ?_); (case h1 => wtm_at "q"); (case h2 => wtm_at "q"))
  | ((with_reducible refine rd_listOfL (ys := ?ys) ?h1 ?_); (case h1 => wtm_at "q"); intro l hl)
  | ((with_reducible refine rd_revV (xs := ?xs) ?h1 ?_); (case h1 => wtm_at "q"); intro p hp)
  | ((with_reducible refine rd_iRev1 (xs := ?xs) ?h1 ?_); (case h1 => wtm_at "q"))
  | ((with_reducible refine rd_callO2 (dx := ?dx) (fs := ?fs) ?h1 ?_); (case h1 => wtm_at "h"))
  | ((with_reducible show CMulB _ _); refine CMulB.bd ?_ ?_ <;> wtm_at "bd")
  | fail)
/-! a test that omega answers -/
local macro_rules | `(tactic| wtm_at "o") => `(tactic| first
  | ((with_reducible refine rd_neF ?h1 ?_); (case h1 => omega))
  | ((with_reducible refine rd_eqT ?h1 ?_); (case h1 => omega))
  | ((with_reducible refine rd_neT ?h1 ?_); (case h1 => omega))
  | ((with_reducible refine rd_eqF ?h1 ?_); (case h1 => omega))
  | fail)
/-! steps while there is one way -/
local macro_rules | `(tactic| wtm_at "rs") => `(tactic| repeat' (first | wtm_at "r" | wtm_at "s" | fail))
/-! all ways -/
local macro_rules | `(tactic| wtm_at "ra") => `(tactic| repeat' (first | wtm_at "r" | wtm_at "s" | wtm_at "i" | fail))
local macro_rules | `(tactic| wtm_at "ro") => `(tactic| repeat' (first | wtm_at "r" | wtm_at "s" | wtm_at "o" | fail))
local macro_rules | `(tactic| wtm_at "rao") => `(tactic| repeat' (first | wtm_at "r" | wtm_at "s" | wtm_at "o" | wtm_at "i" | fail))

/-! ## mathematics -/
/-! part m_signs -/
def factorOf (rule : Str) (n m : Int) : Int :=
  if rule = "two" ∧ (m % 8 = 3 ∨ m % 8 = 5) then -1
  else if rule = "minus" ∧ m % 4 = 3 then -1
  else if rule = "turn" ∧ n % 4 = 3 ∧ m % 4 = 3 then -1
  else 1
theorem factorOf_pm (rule : Str) (n m : Int) : factorOf rule n m = 1 ∨ factorOf rule n m = -1 := by
  unfold factorOf
  split
  · exact .inr rfl
  · split
    · exact .inr rfl
    · split
      · exact .inr rfl
      · exact .inl rfl
def facT (m : Nat) : Int := if m % 8 = 3 ∨ m % 8 = 5 then -1 else 1
def facR (n m : Nat) : Int := if n % 4 = 3 ∧ m % 4 = 3 then -1 else 1
theorem str_ne1 : ¬ (("turn" : Str) = "two") := by decide +kernel
theorem str_ne2 : ¬ (("turn" : Str) = "minus") := by decide +kernel
theorem str_ne3 : ¬ (("two" : Str) = "minus") := by decide +kernel
theorem str_ne4 : ¬ (("two" : Str) = "turn") := by decide +kernel
theorem str_ne5 : ¬ (("rest" : Str) = "two") := by decide +kernel
theorem str_ne6 : ¬ (("rest" : Str) = "minus") := by decide +kernel
theorem str_ne7 : ¬ (("rest" : Str) = "turn") := by decide +kernel
theorem str_ne8 : ¬ (("two" : Str) = "rest") := by decide +kernel
theorem str_ne9 : ¬ (("turn" : Str) = "rest") := by decide +kernel
theorem str_ne10 : ¬ (("minus" : Str) = "rest") := by decide +kernel
theorem str_ne11 : ¬ (("minus" : Str) = "two") := by decide +kernel
theorem str_ne12 : ¬ (("minus" : Str) = "turn") := by decide +kernel
theorem factorOf_two (n m : Int) (hm : 0 < m) : factorOf "two" n m = facT m.toNat := by
  unfold factorOf facT
  have e : (m % 8 = 3 ∨ m % 8 = 5) ↔ (m.toNat % 8 = 3 ∨ m.toNat % 8 = 5) := by omega
  by_cases h : m % 8 = 3 ∨ m % 8 = 5
  · rw [if_pos ⟨rfl, h⟩, if_pos (e.mp h)]
  · rw [if_neg (fun z => h z.2), if_neg (fun z => str_ne3 z.1), if_neg (fun z => str_ne4 z.1), if_neg (fun z => h (e.mpr z))]
theorem factorOf_turn (n m : Int) (hn : 0 ≤ n) (hm : 0 < m) : factorOf "turn" n m = facR n.toNat m.toNat := by
  unfold factorOf facR
  have e : (n % 4 = 3 ∧ m % 4 = 3) ↔ (n.toNat % 4 = 3 ∧ m.toNat % 4 = 3) := by omega
  by_cases h : n % 4 = 3 ∧ m % 4 = 3
  · rw [if_neg (fun z => str_ne1 z.1), if_neg (fun z => str_ne2 z.1), if_pos ⟨rfl, h⟩, if_pos (e.mp h)]
  · rw [if_neg (fun z => str_ne1 z.1), if_neg (fun z => str_ne2 z.1), if_neg (fun z => h z.2), if_neg (fun z => h (e.mpr z))]
/-- the sign, by the program's own steps -/
def jac (n m : Nat) : Int :=
  if _h : n = 0 then (if m = 1 then 1 else 0)
  else if n % 2 = 0 then facT m * jac (n / 2) m
  else facR n m * jac (m % n) n
termination_by n
decreasing_by
  · omega
  · exact Nat.mod_lt _ (by omega)
theorem jac_zero (m : Nat) : jac 0 m = if m = 1 then 1 else 0 := by
  rw [jac]
  simp
theorem jac_two {n m : Nat} (h0 : n ≠ 0) (h : n % 2 = 0) : jac n m = facT m * jac (n / 2) m := by
  rw [jac, dif_neg h0, if_pos h]
theorem jac_turn {n m : Nat} (h : n % 2 = 1) : jac n m = facR n m * jac (m % n) n := by
  rw [jac, dif_neg (by omega), if_neg (by omega)]
def sgn (n m : Int) : Int := jac (n % m).toNat m.toNat
/-! part m_chain -/
/-- a link: the rule, the pair that it leads to, the factor -/
structure Lk where
  r : Str
  n : Int
  m : Int
  f : Int
def Lk.tup (l : Lk) : List V := [.str l.r, .int l.n, .int l.m, .int l.f]
def stepOf (n m : Int) : Str × Int × Int :=
  if n < 0 ∨ m ≤ n then ("rest", n % m, m) else if n % 2 = 0 then ("two", n / 2, m) else ("turn", m, n)
def lkOf (n m : Int) : Lk := ⟨(stepOf n m).1, (stepOf n m).2.1, (stepOf n m).2.2, factorOf (stepOf n m).1 n m⟩
def chainF : Nat → Int → Int → List Lk
  | 0, _, _ => []
  | k + 1, n, m => if m = 1 ∨ n = 0 ∨ n = 1 then [] else lkOf n m :: chainF k (lkOf n m).n (lkOf n m).m
def chainL (n m : Int) : List Lk := chainF 2000 n m
theorem chainF_end {k : Nat} {n m : Int} (h : m = 1 ∨ n = 0 ∨ n = 1) : chainF k n m = [] := by
  cases k with
  | zero => rfl
  | succ k => exact if_pos h
theorem chainF_step {k : Nat} {n m : Int} (h : ¬ (m = 1 ∨ n = 0 ∨ n = 1)) : chainF (k + 1) n m = lkOf n m :: chainF k (lkOf n m).n (lkOf n m).m := if_neg h
/-- how many links may still follow -/
def pot (a b : Int) (j : Nat) : Prop := ∃ e : Nat, (a % b) * b < 2 ^ e ∧ 3 * e + (if a < 0 ∨ b ≤ a then 2 else 1) ≤ j
theorem half_pow {x y : Int} {e : Nat} (h : 2 * x ≤ y) (hx : 0 < y) (he : y < 2 ^ e) : ∃ d, e = d + 1 ∧ x < 2 ^ d := by
  cases e with
  | zero =>
    rw [Int.pow_zero] at he
    omega
  | succ d =>
    refine ⟨d, rfl, ?_⟩
    rw [Int.pow_succ] at he
    omega
theorem pot_rest {a b : Int} {j : Nat} (hb : 0 < b) (h : a < 0 ∨ b ≤ a) (p : pot a b (j + 1)) : pot (a % b) b j := by
  obtain ⟨e, h1, h2⟩ := p
  have m0 := Int.emod_nonneg a (show b ≠ 0 by omega)
  have m1 := Int.emod_lt_of_pos a hb
  refine ⟨e, ?_, ?_⟩
  · rw [Int.emod_emod_of_dvd a (Int.dvd_refl b)]
    exact h1
  · rw [if_pos h] at h2
    rw [if_neg (by omega)]
    omega
theorem pot_two {a b : Int} {j : Nat} (hb : 0 < b) (h : ¬ (a < 0 ∨ b ≤ a)) (h0 : a ≠ 0) (h2 : a % 2 = 0) (p : pot a b (j + 1)) : pot (a / 2) b j := by
  obtain ⟨e, h1, h3⟩ := p
  rw [if_neg h] at h3
  have e1 : a % b = a := Int.emod_eq_of_lt (by omega) (by omega)
  rw [e1] at h1
  have e2 : (a / 2) % b = a / 2 := Int.emod_eq_of_lt (by omega) (by omega)
  have e3 : a * b = 2 * ((a / 2) * b) := by
    rw [← Int.mul_assoc]
    congr 1
    omega
  have pos : 0 < a * b := Int.mul_pos (by omega) hb
  obtain ⟨d, rfl, hd⟩ := half_pow (x := (a / 2) * b) (Int.le_of_eq e3.symm) pos h1
  refine ⟨d, by rw [e2]; exact hd, ?_⟩
  rw [if_neg (by omega)]
  omega
theorem pot_turn {a b : Int} {j : Nat} (h : ¬ (a < 0 ∨ b ≤ a)) (h0 : 0 < a) (p : pot a b (j + 1)) : pot b a j := by
  obtain ⟨e, h1, h3⟩ := p
  rw [if_neg h] at h3
  have e1 : a % b = a := Int.emod_eq_of_lt (by omega) (by omega)
  rw [e1] at h1
  have pos : 0 < a * b := Int.mul_pos h0 (by omega)
  have r0 := Int.emod_nonneg b (show a ≠ 0 by omega)
  have r1 := Int.emod_lt_of_pos b h0
  have q1 : 1 ≤ b / a := by
    have := Int.le_ediv_of_mul_le h0 (show 1 * a ≤ b by omega)
    exact this
  have dm := Int.mul_ediv_add_emod b a
  have q2 : a ≤ a * (b / a) := by
    have := Int.mul_le_mul_of_nonneg_left q1 (show 0 ≤ a by omega)
    omega
  have hr : 2 * (b % a) ≤ b := by omega
  have e3 : 2 * ((b % a) * a) ≤ a * b := by
    have := Int.mul_le_mul_of_nonneg_right hr (show 0 ≤ a by omega)
    rw [Int.mul_assoc, Int.mul_comm b a] at this
    exact this
  obtain ⟨d, rfl, hd⟩ := half_pow e3 pos h1
  refine ⟨d, hd, ?_⟩
  have : (if b < 0 ∨ a ≤ b then 2 else 1) ≤ 2 := by
    split <;> omega
  omega
theorem pot_start {n m : Int} (hm : 0 < m) (h : m < 2 ^ 250) : pot n m 2000 := by
  refine ⟨500, ?_, ?_⟩
  · have r0 := Int.emod_nonneg n (show m ≠ 0 by omega)
    have r1 := Int.emod_lt_of_pos n hm
    have h1 : (n % m) * m ≤ m * m := Int.mul_le_mul_of_nonneg_right (by omega) (by omega)
    have h2 : m * m < 2 ^ 250 * 2 ^ 250 := by
      have a1 : m * m ≤ m * 2 ^ 250 := Int.mul_le_mul_of_nonneg_left (by omega) (by omega)
      have a2 : m * 2 ^ 250 < 2 ^ 250 * 2 ^ 250 := Int.mul_lt_mul_of_pos_right h (by decide)
      omega
    have e : (2 : Int) ^ 500 = 2 ^ 250 * 2 ^ 250 := by rw [← Int.pow_add]
    rw [e]
    omega
  · split <;> omega
theorem pot_pos {a b : Int} {j : Nat} (p : pot a b j) : 0 < j := by
  obtain ⟨e, _, h⟩ := p
  split at h <;> omega
/-- the list that a program's list of links holds -/
def LksAt (H : Hp) : List Addr → List Lk → Prop
  | [], [] => True
  | t :: ts, l :: ls => H t = some (.tup l.tup) ∧ LksAt H ts ls
  | _, _ => False
theorem LksAt.mono {H H' : Hp} (s : Same H H') : ∀ {ts : List Addr} {ls : List Lk}, LksAt H ts ls → LksAt H' ts ls
  | [], [], _ => trivial
  | _ :: _, _ :: _, h => ⟨s _ _ h.1, LksAt.mono s h.2⟩
  | [], _ :: _, h => h.elim
  | _ :: _, [], h => h.elim
theorem LksAt.len {H : Hp} : ∀ {ts : List Addr} {ls : List Lk}, LksAt H ts ls → ts.length = ls.length
  | [], [], _ => rfl
  | _ :: _, _ :: _, h => by rw [List.length_cons, List.length_cons, LksAt.len h.2]
  | [], _ :: _, h => h.elim
  | _ :: _, [], h => h.elim
theorem LksAt.snoc {H : Hp} {t : Addr} {l : Lk} (ht : H t = some (.tup l.tup)) : ∀ {ts : List Addr} {ls : List Lk}, LksAt H ts ls → LksAt H (ts ++ [t]) (ls ++ [l])
  | [], [], _ => ⟨ht, trivial⟩
  | _ :: _, _ :: _, h => ⟨h.1, LksAt.snoc ht h.2⟩
  | [], _ :: _, h => h.elim
  | _ :: _, [], h => h.elim
theorem LksAt.other {H : Hp} {p : Addr} {xs : List V} {o : HO} (hp : H p = some (.lst xs)) : ∀ {ts : List Addr} {ls : List Lk}, LksAt H ts ls → LksAt (upd H p o) ts ls
  | [], [], _ => trivial
  | t :: _, _ :: _, h => ⟨by
      rw [upd_ne (ne_of h.1 hp (by intro z; cases z))]
      exact h.1, LksAt.other hp h.2⟩
  | [], _ :: _, h => h.elim
  | _ :: _, [], h => h.elim
/-! part m_shown -/
def linkOk (n m : Int) (l : Lk) : Bool :=
  if l.f ≠ factorOf l.r n m then false
  else if l.r = "rest" then decide (l.m = m ∧ (l.n - n) % m = 0)
  else if l.r = "two" then decide (l.m = m ∧ n ≠ 0 ∧ n = 2 * l.n)
  else if l.r = "minus" then decide (l.m = m ∧ l.n = -n)
  else if l.r = "turn" then decide (l.n = m ∧ l.m = n ∧ 0 < n ∧ n % 2 = 1)
  else false
/-- what a list of links shows, from a product so far -/
def shownL : Int → Int → Int → List Lk → Option Int
  | z, n, m, [] => if m = 1 ∨ n = 0 ∨ n = 1 then some (z * (if n = 0 ∧ m ≠ 1 then 0 else 1)) else none
  | z, n, m, l :: r => if linkOk n m l = true then shownL (z * l.f) l.n l.m r else none
/-! part m_vopt -/
def vOpt : Option Int → V
  | some z => .int z
  | none => .non
theorem vOpt_some {z : Int} : vOpt (some z) = .int z := rfl
theorem vOpt_none : vOpt none = .non := rfl
/-! part m_chain2 -/
theorem sgn_one (n : Int) : sgn n 1 = 1 := by
  unfold sgn
  rw [Int.emod_one, show (0 : Int).toNat = 0 from rfl, show (1 : Int).toNat = 1 from rfl, jac_zero, if_pos rfl]
theorem sgn_end {n m : Int} (hm : 0 < m) (hm2 : m % 2 = 1) (h : m = 1 ∨ n = 0 ∨ n = 1) : sgn n m = if n = 0 ∧ m ≠ 1 then 0 else 1 := by
  by_cases h1 : m = 1
  · subst h1
    rw [sgn_one, if_neg (fun z => z.2 rfl)]
  · rcases h with h | h | h
    · exact absurd h h1
    · subst h
      rw [if_pos ⟨rfl, h1⟩]
      unfold sgn
      rw [Int.zero_emod, show (0 : Int).toNat = 0 from rfl, jac_zero, if_neg (by omega)]
    · subst h
      rw [if_neg (fun z => absurd z.1 (by decide))]
      unfold sgn
      rw [Int.emod_eq_of_lt (by omega) (by omega), show (1 : Int).toNat = 1 from rfl, jac_turn (by decide), Nat.mod_one, jac_zero, if_pos rfl]
      unfold facR
      rw [if_neg (by omega)]
      rfl
theorem factorOf_rest (n m : Int) : factorOf "rest" n m = 1 := by
  unfold factorOf
  rw [if_neg (fun z => str_ne5 z.1), if_neg (fun z => str_ne6 z.1), if_neg (fun z => str_ne7 z.1)]
theorem lk_rest {n m : Int} (h : n < 0 ∨ m ≤ n) : lkOf n m = ⟨"rest", n % m, m, 1⟩ := by
  unfold lkOf stepOf
  rw [if_pos h]
  dsimp only
  rw [factorOf_rest]
theorem lk_two {n m : Int} (h : ¬ (n < 0 ∨ m ≤ n)) (h2 : n % 2 = 0) : lkOf n m = ⟨"two", n / 2, m, factorOf "two" n m⟩ := by
  unfold lkOf stepOf
  rw [if_neg h, if_pos h2]
theorem lk_turn {n m : Int} (h : ¬ (n < 0 ∨ m ≤ n)) (h2 : ¬ n % 2 = 0) : lkOf n m = ⟨"turn", m, n, factorOf "turn" n m⟩ := by
  unfold lkOf stepOf
  rw [if_neg h, if_neg h2]
theorem linkOk_lk {n m : Int} (hm : 0 < m) (he : ¬ (m = 1 ∨ n = 0 ∨ n = 1)) : linkOk n m (lkOf n m) = true := by
  by_cases h : n < 0 ∨ m ≤ n
  · rw [lk_rest h]
    unfold linkOk
    dsimp only
    rw [factorOf_rest, if_neg (fun z => z rfl), if_pos rfl]
    refine decide_eq_true ⟨rfl, ?_⟩
    have := Int.mul_ediv_add_emod n m
    have e : n % m - n = -(m * (n / m)) := by omega
    rw [e, ← Int.mul_neg]
    exact Int.mul_emod_right ..
  · by_cases h2 : n % 2 = 0
    · rw [lk_two h h2]
      unfold linkOk
      dsimp only
      rw [if_neg (fun z => z rfl), if_neg str_ne8, if_pos rfl]
      exact decide_eq_true ⟨rfl, by omega, by omega⟩
    · rw [lk_turn h h2]
      unfold linkOk
      dsimp only
      rw [if_neg (fun z => z rfl), if_neg str_ne9, if_neg str_ne1, if_neg str_ne2, if_pos rfl]
      exact decide_eq_true ⟨rfl, rfl, by omega, by omega⟩
theorem shown_chain : ∀ (k : Nat) (z n m : Int), 0 < m → m % 2 = 1 → pot n m k → shownL z n m (chainF k n m) = some (z * sgn n m)
  | 0, z, n, m, _, _, p => absurd (pot_pos p) (by omega)
  | k + 1, z, n, m, hm, hm2, p => by
    by_cases he : m = 1 ∨ n = 0 ∨ n = 1
    · rw [chainF_end he, shownL, if_pos he, sgn_end hm hm2 he]
    · rw [chainF_step he, shownL, if_pos (linkOk_lk hm he)]
      by_cases h : n < 0 ∨ m ≤ n
      · rw [lk_rest h]
        dsimp only
        rw [shown_chain k _ _ _ hm hm2 (pot_rest hm h p), Int.mul_one]
        unfold sgn
        rw [Int.emod_emod_of_dvd n (Int.dvd_refl m)]
      · by_cases h2 : n % 2 = 0
        · rw [lk_two h h2]
          dsimp only
          rw [shown_chain k _ _ _ hm hm2 (pot_two hm h (by omega) h2 p), factorOf_two _ _ hm, Int.mul_assoc]
          congr 2
          unfold sgn
          rw [Int.emod_eq_of_lt (by omega) (by omega), Int.emod_eq_of_lt (by omega) (by omega), show (n / 2).toNat = n.toNat / 2 by omega, ← jac_two (by omega) (by omega)]
        · rw [lk_turn h h2]
          dsimp only
          rw [shown_chain k _ _ _ (by omega) (by omega) (pot_turn h (by omega) p), factorOf_turn _ _ (by omega) hm, Int.mul_assoc]
          congr 2
          unfold sgn
          rw [Int.emod_eq_of_lt (show 0 ≤ n by omega) (by omega), show (m % n).toNat = m.toNat % n.toNat from Int.toNat_emod (by omega) (by omega), ← jac_turn (by omega)]
theorem shown_chainL {n m : Int} (hm : 0 < m) (hm2 : m % 2 = 1) (h : m < 2 ^ 250) : shownL 1 n m (chainL n m) = some (sgn n m) := by
  have := shown_chain 2000 1 n m hm hm2 (pot_start hm h)
  rw [Int.one_mul] at this
  exact this
theorem pot_start2 {n m : Int} (hm : 0 < m) (h : m < 2 ^ 140) : pot n m 1000 := by
  refine ⟨280, ?_, ?_⟩
  · have r0 := Int.emod_nonneg n (show m ≠ 0 by omega)
    have r1 := Int.emod_lt_of_pos n hm
    have h1 : (n % m) * m ≤ m * m := Int.mul_le_mul_of_nonneg_right (by omega) (by omega)
    have h2 : m * m < 2 ^ 140 * 2 ^ 140 := by
      have a1 : m * m ≤ m * 2 ^ 140 := Int.mul_le_mul_of_nonneg_left (by omega) (by omega)
      have a2 : m * 2 ^ 140 < 2 ^ 140 * 2 ^ 140 := Int.mul_lt_mul_of_pos_right h (by decide)
      omega
    have e : (2 : Int) ^ 280 = 2 ^ 140 * 2 ^ 140 := by rw [← Int.pow_add]
    rw [e]
    omega
  · split <;> omega
/-! part m_cut -/
theorem sIx_nn {n d : Nat} {i : Int} (h : 0 ≤ i) : HT.sIx n d (some i) = min i.toNat n := by
  unfold HT.sIx
  simp
  omega
theorem cut_map {α : Type} {f : α → V} {l : List α} {lo hi : Option Int} : ∃ m : List α, cutV (l.map f) lo hi = m.map f ∧ (∀ x ∈ m, x ∈ l) := by
  refine ⟨(l.drop (HT.sIx l.length 0 lo)).take (HT.sIx l.length l.length hi - HT.sIx l.length 0 lo), ?_, fun x hx => List.mem_of_mem_drop (List.mem_of_mem_take hx)⟩
  unfold cutV
  rw [List.length_map, List.map_take, List.map_drop]
theorem cut_len {xs : List V} {lo hi : Int} (h0 : 0 ≤ lo) (h : lo ≤ hi) : ((cutV xs (some lo) (some hi)).length : Int) ≤ hi - lo := by
  unfold cutV
  rw [sIx_nn h0, sIx_nn (by omega), List.length_take, List.length_drop]
  omega
/-! part m_form -/
/-- a form's three numbers -/
structure Fm where
  a : Int
  b : Int
  c : Int
deriving DecidableEq
def Fm.D (f : Fm) : Int := f.b * f.b - 4 * f.a * f.c
def Fm.ok (f : Fm) : Prop := 1 ≤ f.a ∧ f.D < 0
def Fm.at (f : Fm) (x y : Int) : Int := f.a * x * x + f.b * x * y + f.c * y * y
def Fm.st (f : Fm) (k : Int) : Fm := if k = 0 then ⟨f.c, -f.b, f.a⟩ else ⟨f.a, f.b + 2 * f.a * k, f.a * k * k + f.b * k + f.c⟩
def Fm.turn (f : Fm) (ks : List Int) : Fm := ks.foldl Fm.st f
def Fm.nx (f : Fm) : Option Int := if ¬ (-f.a < f.b ∧ f.b ≤ f.a) then some ((f.a - f.b) / (2 * f.a)) else if f.c < f.a ∨ f.a = f.c ∧ f.b < 0 then some 0 else none
def Fm.bd (n : Nat) (f : Fm) : Prop := Bd n f.a ∧ Bd n f.b ∧ Bd n f.c
theorem Fm.st_zero (f : Fm) : f.st 0 = ⟨f.c, -f.b, f.a⟩ := if_pos rfl
theorem Fm.st_ne {f : Fm} {k : Int} (h : k ≠ 0) : f.st k = ⟨f.a, f.b + 2 * f.a * k, f.a * k * k + f.b * k + f.c⟩ := if_neg h
theorem Fm.st_D (f : Fm) (k : Int) : (f.st k).D = f.D := by
  unfold Fm.st Fm.D
  split
  · simp only [Int.neg_mul_neg]
    grind
  · grind
theorem sq_nonneg (x : Int) : 0 ≤ x * x := by
  rcases Int.le_total 0 x with h | h
  · exact Int.mul_nonneg h h
  · have := Int.mul_nonneg (show 0 ≤ -x by omega) (show 0 ≤ -x by omega)
    rw [Int.neg_mul_neg] at this
    exact this
theorem Fm.ok.c_pos {f : Fm} (h : f.ok) : 1 ≤ f.c := by
  obtain ⟨h1, h2⟩ := h
  unfold Fm.D at h2
  have := sq_nonneg f.b
  rcases Int.lt_or_le f.c 1 with z | z
  · exfalso
    have : 4 * f.a * f.c ≤ 4 * f.a * 0 := Int.mul_le_mul_of_nonneg_left (by omega) (by omega)
    omega
  · exact z
theorem Fm.at_D (f : Fm) (x y : Int) : 4 * f.a * f.at x y = (2 * f.a * x + f.b * y) * (2 * f.a * x + f.b * y) - f.D * (y * y) := by
  unfold Fm.at Fm.D
  grind
theorem Fm.ok.st {f : Fm} (h : f.ok) (k : Int) : (f.st k).ok := by
  refine ⟨?_, by rw [Fm.st_D]; exact h.2⟩
  unfold Fm.st
  split
  · exact h.c_pos
  · exact h.1
theorem Fm.bd.mono {n m : Nat} {f : Fm} (h : Fm.bd n f) (hm : n ≤ m) : Fm.bd m f := ⟨h.1.mono hm, h.2.1.mono hm, h.2.2.mono hm⟩
theorem Fm.turn_snoc (f : Fm) (ks : List Int) (k : Int) : f.turn (ks ++ [k]) = (f.turn ks).st k := by
  unfold Fm.turn
  rw [List.foldl_append]
  rfl
theorem Fm.turn_D (f : Fm) : ∀ ks : List Int, (f.turn ks).D = f.D
  | [] => rfl
  | k :: ks => by
    show ((f.st k).turn ks).D = f.D
    rw [Fm.turn_D (f.st k) ks, Fm.st_D]
theorem Fm.ok.turn {f : Fm} (h : f.ok) : ∀ ks : List Int, (f.turn ks).ok
  | [] => h
  | k :: ks => Fm.ok.turn (h.st k) ks
theorem sq_le {x y : Int} (h : x.natAbs ≤ y.natAbs) : x * x ≤ y * y := by
  have e : ∀ z : Int, z * z = (z.natAbs : Int) * z.natAbs := fun z => by
    rw [← Int.natCast_mul, Int.natAbs_mul_self]
  rw [e x, e y]
  exact Int.mul_le_mul (by omega) (by omega) (by omega) (by omega)
/-! part m_row -/
def Fm.ns (f : Fm) : List Int := [f.a, f.b, f.c]
abbrev Fm.row (f : Fm) : List V := f.ns.map V.int
theorem Fm.row_ns (f : Fm) : f.row = f.ns.map V.int := rfl
theorem Fm.ns_inj {f g : Fm} : f.ns = g.ns ↔ f = g := by
  cases f
  cases g
  simp [Fm.ns]
/-- a pool of draws, at most j of them made -/
def PoolAt (H : Hp) (p : Addr) (j : Int) : Prop := ∃ c k b, H p = some (.lst [.int c, .int k, .bl b]) ∧ 0 ≤ k ∧ k ≤ j
theorem PoolAt.new {H : Hp} {p : Addr} {n : Int} {b : Bool} : PoolAt (upd H p (.lst [.int n, .int 0, .bl b])) p 0 := ⟨_, _, _, upd_same, by omega, by omega⟩
/-! part m_link -/
/-- a link that a drawn step gives from n, m, below M -/
structure GoodL (n m M : Int) (r : Str) (x y : Int) : Prop where
  ok : linkOk n m ⟨r, x, y, factorOf r n m⟩ = true
  pos : 0 < y
  odd : y % 2 = 1
  lo : -(4 * M) < x ∧ x < 4 * M
  hi : y < 4 * M
theorem good_rest {n m M k : Int} (hm : 0 < m) (ho : m % 2 = 1) (hM : m < M) (hk : -2 ≤ k ∧ k ≤ 2) : GoodL n m M "rest" (n % m + m * k) m := by
  have r0 := Int.emod_nonneg n (show m ≠ 0 by omega)
  have r1 := Int.emod_lt_of_pos n hm
  have a1 : m * k ≤ m * 2 := Int.mul_le_mul_of_nonneg_left hk.2 (by omega)
  have a2 : m * -2 ≤ m * k := Int.mul_le_mul_of_nonneg_left hk.1 (by omega)
  refine ⟨?_, hm, ho, ⟨by omega, by omega⟩, by omega⟩
  unfold linkOk
  dsimp only
  rw [if_neg (fun z => z rfl), if_pos rfl]
  refine decide_eq_true ⟨rfl, ?_⟩
  have e : n % m + m * k - n = m * (k - n / m) := by
    have := Int.mul_ediv_add_emod n m
    rw [Int.mul_sub]
    omega
  rw [e]
  exact Int.mul_emod_right ..
theorem good_two {n m M : Int} (hm : 0 < m) (ho : m % 2 = 1) (hM : m < M) (hn : -M < n ∧ n < M) (h0 : n ≠ 0) (h2 : n % 2 = 0) : GoodL n m M "two" (n / 2) m := by
  refine ⟨?_, hm, ho, ⟨by omega, by omega⟩, by omega⟩
  unfold linkOk
  dsimp only
  rw [if_neg (fun z => z rfl), if_neg str_ne8, if_pos rfl]
  exact decide_eq_true ⟨rfl, h0, by omega⟩
theorem str_mr : ¬ (("minus" : Str) = "rest") := by decide +kernel
theorem str_mt : ¬ (("minus" : Str) = "two") := by decide +kernel
theorem good_minus {n m M : Int} (hm : 0 < m) (ho : m % 2 = 1) (hM : m < M) (hn : -M < n ∧ n < M) : GoodL n m M "minus" (-n) m := by
  refine ⟨?_, hm, ho, ⟨by omega, by omega⟩, by omega⟩
  unfold linkOk
  dsimp only
  rw [if_neg (fun z => z rfl), if_neg str_mr, if_neg str_mt, if_pos rfl]
  exact decide_eq_true ⟨rfl, rfl⟩
theorem good_turn {n m M : Int} (hm : 0 < m) (ho : m % 2 = 1) (hM : m < M) (hn : -M < n ∧ n < M) (h0 : 0 < n) (h2 : n % 2 = 1) : GoodL n m M "turn" m n := by
  refine ⟨?_, h0, h2, ⟨by omega, by omega⟩, by omega⟩
  unfold linkOk
  dsimp only
  rw [if_neg (fun z => z rfl), if_neg str_ne9, if_neg str_ne1, if_neg str_ne2, if_pos rfl]
  exact decide_eq_true ⟨rfl, rfl, h0, h2⟩
theorem LksAt.app {H : Hp} : ∀ {ts us : List Addr} {ls ms : List Lk}, LksAt H ts ls → LksAt H us ms → LksAt H (ts ++ us) (ls ++ ms)
  | [], _, [], _, _, h => h
  | _ :: _, _, _ :: _, _, h, k => ⟨h.1, LksAt.app h.2 k⟩
  | [], _, _ :: _, _, h, _ => h.elim
  | _ :: _, _, [], _, h, _ => h.elim
theorem LksAt.take {H : Hp} : ∀ {ts : List Addr} {ls : List Lk} (k : Nat), LksAt H ts ls → LksAt H (ts.take k) (ls.take k)
  | _, _, 0, _ => trivial
  | [], [], _ + 1, _ => trivial
  | _ :: _, _ :: _, k + 1, h => ⟨h.1, LksAt.take k h.2⟩
  | [], _ :: _, _ + 1, h => h.elim
  | _ :: _, [], _ + 1, h => h.elim
theorem LksAt.drop {H : Hp} : ∀ {ts : List Addr} {ls : List Lk} (k : Nat), LksAt H ts ls → LksAt H (ts.drop k) (ls.drop k)
  | _, _, 0, h => h
  | [], [], _ + 1, _ => trivial
  | _ :: _, _ :: _, k + 1, h => LksAt.drop k h.2
  | [], _ :: _, _ + 1, h => h.elim
  | _ :: _, [], _ + 1, h => h.elim
theorem LksAt.rev {H : Hp} : ∀ {ts : List Addr} {ls : List Lk}, LksAt H ts ls → LksAt H ts.reverse ls.reverse
  | [], [], _ => trivial
  | t :: ts, l :: ls, h => by
    rw [List.reverse_cons, List.reverse_cons]
    exact LksAt.snoc h.1 (LksAt.rev h.2)
  | [], _ :: _, h => h.elim
  | _ :: _, [], h => h.elim
/-- some links stand there -/
def LkL (H : Hp) (xs : List V) : Prop := ∃ ts ls, xs = ts.map V.ref ∧ LksAt H ts ls
theorem LkL.mono {H H' : Hp} {xs : List V} (h : LkL H xs) (s : Same H H') : LkL H' xs := let ⟨ts, ls, e, h⟩ := h; ⟨ts, ls, e, h.mono s⟩
theorem LkL.cut {H : Hp} {xs : List V} {lo hi : Option Int} (h : LkL H xs) : LkL H (cutV xs lo hi) := by
  obtain ⟨ts, ls, rfl, h⟩ := h
  refine ⟨_, _, ?_, ((h.drop (HT.sIx ts.length 0 lo)).take (HT.sIx ts.length ts.length hi - HT.sIx ts.length 0 lo))⟩
  unfold cutV
  rw [List.length_map, List.map_take, List.map_drop]
theorem LkL.app {H : Hp} {xs ys : List V} (h : LkL H xs) (k : LkL H ys) : LkL H (xs ++ ys) := by
  obtain ⟨ts, ls, rfl, h⟩ := h
  obtain ⟨us, ms, rfl, k⟩ := k
  exact ⟨ts ++ us, ls ++ ms, by rw [List.map_append], h.app k⟩
theorem LkL.rev {H : Hp} {xs : List V} (h : LkL H xs) : LkL H xs.reverse := by
  obtain ⟨ts, ls, rfl, h⟩ := h
  exact ⟨ts.reverse, ls.reverse, by rw [List.map_reverse], h.rev⟩
theorem LkL.one {H : Hp} {t : Addr} {l : Lk} (h : H t = some (.tup l.tup)) : LkL H [.ref t] := ⟨[t], [l], rfl, h, trivial⟩
theorem LkL.nil {H : Hp} : LkL H [] := ⟨[], [], rfl, trivial⟩
theorem cut_le {xs : List V} {lo hi : Option Int} {n : Nat} (h : xs.length ≤ n) : (cutV xs lo hi).length ≤ n := Nat.le_trans (cutV_length xs lo hi) h
theorem LkL.upd_new {H : Hp} {p : Addr} {o : HO} {xs : List V} (hp : H p = none) (k : LkL H xs) : LkL (upd H p o) xs := k.mono (same_new hp)
theorem LkL.upd_lst {H : Hp} {p : Addr} {o : HO} {xs zs : List V} (hp : H p = some (.lst zs)) (k : LkL H xs) : LkL (upd H p o) xs := by
  obtain ⟨ts, ls, rfl, k⟩ := k
  exact ⟨ts, ls, rfl, LksAt.other hp k⟩
theorem LksAt.get {H : Hp} : ∀ {ts : List Addr} {ls : List Lk} {i : Nat}, LksAt H ts ls → i < ts.length → ∃ (t : Addr) (l : Lk), ts[i]? = some t ∧ H t = some (.tup l.tup)
  | t :: _, l :: _, 0, h, _ => ⟨t, l, rfl, h.1⟩
  | _ :: ts, _ :: ls, i + 1, h, hi => LksAt.get (ts := ts) (ls := ls) h.2 (by simpa using hi)
  | [], _, _, _, hi => by simp at hi
  | _ :: _, [], _, h, _ => h.elim
/-- while a list is changed -/
structure ChMid (p a : Addr) (j : Int) (xs : List V) (H H2 : Hp) : Prop where
  nt : NoT H2
  pool : PoolAt H2 p j
  at_ : H2 a = some (.lst xs)
  lk : LkL H2 xs
  tr : ∀ H0, Same H0 H → H0 p = none → Same H0 H2
theorem LkL.one4 {H : Hp} {t : Addr} {r : Str} {n m f : Int} (h : H t = some (.tup [.str r, .int n, .int m, .int f])) : LkL H [.ref t] := LkL.one (l := ⟨r, n, m, f⟩) h
/-! part m_lks -/
def lkD (l : Lk) : PyData := .tuple [.str l.r, .int l.n, .int l.m, .int l.f]
theorem dpAll_lks {K : PySem.W.Frag} {H : Hp} : ∀ {ts : List Addr} {ls : List Lk}, LksAt H ts ls → DpAll K H (ts.map V.ref) (ls.map lkD)
  | [], [], _ => .nil
  | t :: ts, l :: ls, h => .cons (.tup (SqT.of h.1) (.cons (.str _) (.cons (.int _) (.cons (.int _) (.cons (.int _) .nil))))) (dpAll_lks h.2)
  | [], _ :: _, h => h.elim
  | _ :: _, [], h => h.elim
theorem dp_lks {K : PySem.W.Frag} {H : Hp} {a : Addr} {ts : List Addr} {ls : List Lk} (h : SqL K H a (ts.map V.ref)) (hl : LksAt H ts ls) : Dp K H (.ref a) (.list (ls.map lkD)) := .lst h (dpAll_lks hl)
theorem lk_rule (n m : Int) : (lkOf n m).r = "rest" ∨ (lkOf n m).r = "two" ∨ (lkOf n m).r = "turn" := by
  unfold lkOf stepOf
  split
  · exact .inl rfl
  · split
    · exact .inr (.inl rfl)
    · exact .inr (.inr rfl)
theorem chain_rule : ∀ (k : Nat) (n m : Int) (l : Lk), l ∈ chainF k n m → l.r = "rest" ∨ l.r = "two" ∨ l.r = "turn"
  | 0, _, _, _, h => by cases h
  | k + 1, n, m, l, h => by
    unfold chainF at h
    split at h
    · cases h
    · rcases List.mem_cons.mp h with rfl | h
      · exact lk_rule n m
      · exact chain_rule k _ _ l h
theorem lks_shaped (n m : Int) : SeqAt.shaped (.list ((chainL n m).map lkD)) = true := shaped_list fun d hd => by
  obtain ⟨l, hl, rfl⟩ := List.mem_map.mp hd
  have s1 : PyData.strOk ("rest" : Str) = true := by decide +kernel
  have s2 : PyData.strOk ("two" : Str) = true := by decide +kernel
  have s3 : PyData.strOk ("turn" : Str) = true := by decide +kernel
  have : PyData.strOk l.r = true := by
    rcases chain_rule _ _ _ _ hl with h | h | h <;> rw [h] <;> assumption
  exact ⟨by simp [lkD, PyData.canLay0, PyData.canLayAll0, this], by simp [lkD, PyData.depth, PyData.depthAll]⟩
theorem chainF_len : ∀ (k : Nat) (n m : Int), (chainF k n m).length ≤ k
  | 0, _, _ => Nat.le_refl _
  | k + 1, n, m => by
    unfold chainF
    split
    · exact Nat.zero_le _
    · exact Nat.succ_le_succ (chainF_len k _ _)
theorem chain_room {H : Hp} {ts : List Addr} {n m : Int} (h : LksAt H ts (chainL n m)) : (ts.map V.ref).length < sizeLine := by
  rw [List.length_map, h.len]
  exact Nat.lt_of_le_of_lt (chainF_len 2000 n m) (by decide)
/-! ## the text by places -/
def topS (i : Nat) : Stmt := PySem.Challenge.pw_everyprime_k24_chains_judged.main.body.getD i (.Pass ⟨0, 0, 0, 0⟩)
abbrev s_checked_modulus : Stmt := topS 4
theorem sc_checked_modulus : FnScope ["m"] ["m"] (defScope s_checked_modulus) := ⟨rfl, rfl, rfl, by decide +kernel, rfl, by decide +kernel, by decide +kernel⟩
abbrev s_end_sign : Stmt := topS 7
theorem sc_end_sign : FnScope ["n", "m"] ["n", "m"] (defScope s_end_sign) := ⟨rfl, rfl, rfl, by decide +kernel, rfl, by decide +kernel, by decide +kernel⟩
abbrev s_is_end : Stmt := topS 6
theorem sc_is_end : FnScope ["n", "m"] ["n", "m"] (defScope s_is_end) := ⟨rfl, rfl, rfl, by decide +kernel, rfl, by decide +kernel, by decide +kernel⟩
abbrev s_factor_of : Stmt := topS 5
theorem sc_factor_of : FnScope ["rule", "n", "m"] ["rule", "n", "m"] (defScope s_factor_of) := ⟨rfl, rfl, rfl, by decide +kernel, rfl, by decide +kernel, by decide +kernel⟩
abbrev s_link_right : Stmt := topS 9
theorem sc_link_right : FnScope ["n", "m", "link", "rule", "first", "second", "factor"] ["n", "m", "link"] (defScope s_link_right) := ⟨rfl, rfl, rfl, by decide +kernel, rfl, by decide +kernel, by decide +kernel⟩
abbrev s_shown : Stmt := topS 10
theorem sc_shown : FnScope ["n", "m", "links", "result", "link"] ["n", "m", "links"] (defScope s_shown) := ⟨rfl, rfl, rfl, by decide +kernel, rfl, by decide +kernel, by decide +kernel⟩
abbrev s_law_factor : Stmt := topS 15
theorem sc_law_factor : FnScope ["_law_rule", "_law_n", "_law_m"] ["_law_rule", "_law_n", "_law_m"] (defScope s_law_factor) := ⟨rfl, rfl, rfl, by decide +kernel, rfl, by decide +kernel, by decide +kernel⟩
abbrev s_law_link_right : Stmt := topS 16
theorem sc_law_link_right : FnScope ["_law_n", "_law_m", "_law_link", "_law_rule", "_law_first", "_law_second", "_law_factor_here"] ["_law_n", "_law_m", "_law_link"] (defScope s_law_link_right) := ⟨rfl, rfl, rfl, by decide +kernel, rfl, by decide +kernel, by decide +kernel⟩
abbrev s_law_shown : Stmt := topS 17
theorem sc_law_shown : FnScope ["_law_n", "_law_m", "_law_links", "_law_result", "_law_link"] ["_law_n", "_law_m", "_law_links"] (defScope s_law_shown) := ⟨rfl, rfl, rfl, by decide +kernel, rfl, by decide +kernel, by decide +kernel⟩
abbrev s_law_cell : Stmt := topS 14
theorem sc_law_cell : FnScope ["_law_script", "_law_k"] ["_law_script", "_law_k"] (defScope s_law_cell) := ⟨rfl, rfl, rfl, by decide +kernel, rfl, by decide +kernel, by decide +kernel⟩
abbrev s_law_take : Stmt := topS 13
theorem sc_law_take : FnScope ["_law_pool_here", "_law_limit", "_law_drawn", "_law_mixed"] ["_law_pool_here", "_law_limit"] (defScope s_law_take) := ⟨rfl, rfl, rfl, by decide +kernel, rfl, by decide +kernel, by decide +kernel⟩
abbrev s_law_changed : Stmt := topS 21
theorem sc_law_changed : FnScope ["_law_pool_here", "_law_links", "_law_n", "_law_m", "_law_at", "_law_rule", "_law_first", "_law_second", "_law_factor_here", "_law_which", "_law_pair"] ["_law_pool_here", "_law_links", "_law_n", "_law_m"] (defScope s_law_changed) := ⟨rfl, rfl, rfl, by decide +kernel, rfl, by decide +kernel, by decide +kernel⟩
abbrev s_law_drawn_link : Stmt := topS 20
theorem sc_law_drawn_link : FnScope ["_law_pool_here", "_law_n", "_law_m", "_law_which", "_law_rule", "_law_pair"] ["_law_pool_here", "_law_n", "_law_m"] (defScope s_law_drawn_link) := ⟨rfl, rfl, rfl, by decide +kernel, rfl, by decide +kernel, by decide +kernel⟩
abbrev s_law_pool : Stmt := topS 12
theorem sc_law_pool : FnScope ["_law_cell_here"] ["_law_cell_here"] (defScope s_law_pool) := ⟨rfl, rfl, rfl, by decide +kernel, rfl, by decide +kernel, by decide +kernel⟩
abbrev s_law_number : Stmt := topS 18
theorem sc_law_number : FnScope ["_law_script", "_law_k", "_law_pool_here", "_law_n"] ["_law_script", "_law_k"] (defScope s_law_number) := ⟨rfl, rfl, rfl, by decide +kernel, rfl, by decide +kernel, by decide +kernel⟩
abbrev s_law_odd : Stmt := topS 19
theorem sc_law_odd : FnScope ["_law_script", "_law_k", "_law_pool_here", "_law_m"] ["_law_script", "_law_k"] (defScope s_law_odd) := ⟨rfl, rfl, rfl, by decide +kernel, rfl, by decide +kernel, by decide +kernel⟩
abbrev s_chain : Stmt := topS 8
theorem sc_chain : FnScope ["n", "m", "links", "rule", "pair"] ["n", "m"] (defScope s_chain) := ⟨rfl, rfl, rfl, by decide +kernel, rfl, by decide +kernel, by decide +kernel⟩
abbrev s_law : Stmt := topS 22
theorem sc_law : FnScope ["_law_script", "_law_n", "_law_m", "_law_links", "_law_pair", "_law_cell_here", "_law_link", "_law_kept", "_law_k", "_law_short", "_law_more", "_law_pool_here", "_law_count", "_law_tried"] ["_law_script"] (defScope s_law) := ⟨rfl, rfl, rfl, by decide +kernel, rfl, by decide +kernel, by decide +kernel⟩
abbrev s_BadModulus_init : Stmt := inClass (topS 2) 0
/-- the addresses of the classes -/
structure Adr where
  c_BadModulus : Addr
  c_base : Addr
structure Txt (K : PySem.W.Frag) (mg : Str → Option Value) (Ad : Adr) : Prop where
  b_int : mg "int" = none
  b_len : mg "len" = none
  b_list : mg "list" = none
  b_min : mg "min" = none
  b_range : mg "range" = none
  d_checked_modulus : DefAt K mg "checked_modulus" s_checked_modulus ["m"]
  d_end_sign : DefAt K mg "end_sign" s_end_sign ["n", "m"]
  d_is_end : DefAt K mg "is_end" s_is_end ["n", "m"]
  d_factor_of : DefAt K mg "factor_of" s_factor_of ["rule", "n", "m"]
  d_link_right : DefAt K mg "link_right" s_link_right ["n", "m", "link"]
  d_shown : DefAt K mg "shown" s_shown ["n", "m", "links"]
  d_law_factor : DefAt K mg "_law_factor" s_law_factor ["_law_rule", "_law_n", "_law_m"]
  d_law_link_right : DefAt K mg "_law_link_right" s_law_link_right ["_law_n", "_law_m", "_law_link"]
  d_law_shown : DefAt K mg "_law_shown" s_law_shown ["_law_n", "_law_m", "_law_links"]
  d_law_cell : DefAt K mg "_law_cell" s_law_cell ["_law_script", "_law_k"]
  d_law_take : DefAt K mg "_law_take" s_law_take ["_law_pool_here", "_law_limit"]
  d_law_changed : DefAt K mg "_law_changed" s_law_changed ["_law_pool_here", "_law_links", "_law_n", "_law_m"]
  d_law_drawn_link : DefAt K mg "_law_drawn_link" s_law_drawn_link ["_law_pool_here", "_law_n", "_law_m"]
  d_law_pool : DefAt K mg "_law_pool" s_law_pool ["_law_cell_here"]
  d_law_number : DefAt K mg "_law_number" s_law_number ["_law_script", "_law_k"]
  d_law_odd : DefAt K mg "_law_odd" s_law_odd ["_law_script", "_law_k"]
  d_chain : DefAt K mg "chain" s_chain ["n", "m"]
  base : BaseC K mg Ad.c_base
  r_BadModulus : ErrRaw K mg "BadModulus" Ad.c_BadModulus s_BadModulus_init "BadModulus.__init__" ["self", "modulus"]
  no_BadModulus_modulus : PySem.W.findIn K (.ref Ad.c_BadModulus) "modulus" = some none
  triv : True
section
variable {P : Program} {w : World} {K : PySem.W.Frag} {mg : Str → Option Value} {base : Heap} {Ad : Adr}
def fl_BadModulus (ws : List V) : List (Str × V) := match ws with | [v0] => [("modulus", v0)] | _ => []
theorem sc_BadModulus_init : FnScope ["self", "modulus"] ["self", "modulus"] (defScope s_BadModulus_init) := ⟨rfl, rfl, rfl, by decide +kernel, rfl, by decide +kernel, by decide +kernel⟩
theorem Txt.err_BadModulus (T : Txt K mg Ad) : ErrC P w K mg base "BadModulus" 1 fl_BadModulus Ad.c_BadModulus := by
  refine ErrC.of T.r_BadModulus fun fI fd F => ?_
  refine F.okX sc_BadModulus_init (fun vs H Q E h => ?_) (fun cdv A outer s H vs Q E hr h => ?_)
  · obtain ⟨a, ws, rfl, hl, _⟩ := h
    simp [hl]
  · obtain ⟨a, ws, rfl, hl, ha, q⟩ := h
    obtain ⟨v0, rfl⟩ := len_1 hl
    refine ⟨_, pss_cons (ps_expr (pe_ceinit T.base (pa_cons (pv 0) (pa_cons pe_str pa_nil)))) (pss_one (ps_ost (pv 0) (pv 1))), ?_⟩
    refine ⟨.ref a, rfl, a, Ad.c_BadModulus, [.str _], rfl, by show 1 ≤ 1000; decide, T.r_BadModulus.T, ha, ?_⟩
    refine ⟨v0, rfl, .ref a, rfl, a, Ad.c_BadModulus, rfl, T.r_BadModulus.T, T.no_BadModulus_modulus, .inl ⟨ha, fun dx nd ne => ?_⟩⟩
    exact q dx nd ne
/-! ### checked_modulus -/
def spCheckedModulus (C : Addr) : Sp := fun vs H Q E => ∃ m : Int, vs = [.int m] ∧ (m < 1 ∨ m % 2 = 0 → ∀ d, H d = none → E (.ref C) (some d) (upd H d (.xd [("modulus", .int m)]))) ∧ (1 ≤ m → m % 2 = 1 → Q .non H)
theorem ok_checked_modulus (T : Txt K mg Ad) : Def P w K mg base 3 "checked_modulus" ["m"] (spCheckedModulus Ad.c_BadModulus) := by
  refine T.d_checked_modulus.ok sc_checked_modulus (fun vs H Q E h => ?_) (fun f cdv A outer s H vs Q E hr h => ?_)
  · obtain ⟨m, rfl, _⟩ := h
    rfl
  · obtain ⟨m, rfl, qe, qo⟩ := h
    refine ⟨_, (pss_one (ps_if (PW.pt (pw_or (pt_cmpR op_lt (pv 0) pe_int (nomark _)) (pw_or1 (pt_cmpR op_eq (pe_op op_mod (pv 0) pe_int) pe_int (nomark _))))) (pss_one (ps_raise rfl (takes_of rfl rfl rfl rfl) (pmk_err (T.err_BadModulus) (hr.mono (by decide)) (pa_cons (pv 0) pa_nil)))) pss_nil)), ?_⟩
    try dsimp only [cxOf]
    wtm_at "ra"
    · exact qe (by omega)
    · exact qe (by omega)
    · exact qo (by omega) (by omega)
/-! ### end_sign -/
def spEndSign : Sp := fun vs H Q _ => ∃ (n m : Int), vs = [.int n, .int m] ∧ Q (.int (if n = 0 ∧ m ≠ 1 then 0 else 1)) H
theorem ok_end_sign (T : Txt K mg Ad) : Def P w K mg base 1 "end_sign" ["n", "m"] spEndSign := by
  refine T.d_end_sign.ok sc_end_sign (fun vs H Q E h => ?_) (fun f cdv A outer s H vs Q E hr h => ?_)
  · obtain ⟨n, m, rfl, _⟩ := h
    rfl
  · obtain ⟨n, m, rfl, q⟩ := h
    refine ⟨_, (pss_cons (ps_if (PW.pt (pw_and (pt_cmpR op_eq (pv 0) pe_int (nomark _)) (pw_and1 (pt_cmpR op_ne (pv 1) pe_int (nomark _))))) (pss_one (ps_ret pe_int)) pss_nil)
      (pss_one (ps_ret pe_int))), ?_⟩
    try dsimp only [cxOf]
    wtm_at "ra"
    all_goals (refine Eq.mp (congrArg (fun z => Q (V.int z) H) ?_) q; simp [*])
theorem use_end_sign {n m : Int} {H : Hp} {Q : VK} {E : XK} (q : Q (.int (if n = 0 ∧ m ≠ 1 then 0 else 1)) H) : spEndSign [.int n, .int m] H Q E := ⟨n, m, rfl, q⟩
local macro_rules | `(tactic| wtm_at "s") => `(tactic| (with_reducible refine use_end_sign ?_))
/-! ### is_end -/
def spIsEnd : Sp := fun vs H Q _ => ∃ (n m : Int), vs = [.int n, .int m] ∧ NoT H ∧ Q (.bl (decide (m = 1 ∨ n = 0 ∨ n = 1))) H
theorem ok_is_end (T : Txt K mg Ad) : Def P w K mg base 1 "is_end" ["n", "m"] spIsEnd := by
  refine T.d_is_end.ok sc_is_end (fun vs H Q E h => ?_) (fun f cdv A outer s H vs Q E hr h => ?_)
  · obtain ⟨n, m, rfl, _⟩ := h
    rfl
  · obtain ⟨n, m, rfl, nt, q⟩ := h
    refine ⟨_, (pss_one (ps_ret (pe_or (pe_cmpR op_eq (pv 1) pe_int (nomark _)) (pe_one (pe_pure (pe_cmpR op_in_seq (pv 0) (pe_tup (pa_cons pe_int (pa_cons pe_int pa_nil))) (by rfl))))))), ?_⟩
    try dsimp only [cxOf]
    wtm_at "ra"
    all_goals (refine Eq.mp (congrArg (fun z => Q (V.bl z) H) ?_) q; simp [*])
theorem use_is_end {n m : Int} {H : Hp} {Q : VK} {E : XK} (nt : NoT H) (q : Q (.bl (decide (m = 1 ∨ n = 0 ∨ n = 1))) H) : spIsEnd [.int n, .int m] H Q E := ⟨n, m, rfl, nt, q⟩
local macro_rules | `(tactic| wtm_at "s") => `(tactic| (with_reducible refine use_is_end (by wtm_at "nt") ?_))
/-! ### factor_of -/
def spFactorOf : Sp := fun vs H Q _ => ∃ (rule : Str) (n m : Int), vs = [.str rule, .int n, .int m] ∧ NoT H ∧ Q (.int (factorOf rule n m)) H
theorem ok_factor_of (T : Txt K mg Ad) : Def P w K mg base 1 "factor_of" ["rule", "n", "m"] spFactorOf := by
  refine T.d_factor_of.ok sc_factor_of (fun vs H Q E h => ?_) (fun f cdv A outer s H vs Q E hr h => ?_)
  · obtain ⟨rule, n, m, rfl, _⟩ := h
    rfl
  · obtain ⟨rule, n, m, rfl, nt, q⟩ := h
    refine ⟨_, (pss_cons (ps_if (PW.pt (pw_and (pt_cmpR op_eq (pv 0) pe_str (nomark _)) (pw_and1 (pt_pure (pt_cmpR op_in_seq (pe_op op_mod (pv 2) pe_int) (pe_tup (pa_cons pe_int (pa_cons pe_int pa_nil))) (by rfl)))))) (pss_one (ps_ret (pe_un un_neg pe_int))) pss_nil)
      (pss_cons (ps_if (PW.pt (pw_and (pt_cmpR op_eq (pv 0) pe_str (nomark _)) (pw_and1 (pt_cmpR op_eq (pe_op op_mod (pv 2) pe_int) pe_int (nomark _))))) (pss_one (ps_ret (pe_un un_neg pe_int))) pss_nil)
      (pss_cons (ps_if (PW.pt (pw_and (pt_cmpR op_eq (pv 0) pe_str (nomark _)) (pw_and (pt_cmpR op_eq (pe_op op_mod (pv 1) pe_int) pe_int (nomark _)) (pw_and1 (pt_cmpR op_eq (pe_op op_mod (pv 2) pe_int) pe_int (nomark _)))))) (pss_one (ps_ret (pe_un un_neg pe_int))) pss_nil)
      (pss_one (ps_ret pe_int))))), ?_⟩
    try dsimp only [cxOf]
    wtm_at "ra"
    all_goals (refine Eq.mp (congrArg (fun z => Q (V.int z) H) ?_) q; first | (simp [factorOf, *]; done) | (subst_vars; simp [factorOf, str_ne1, str_ne2, str_ne3, str_ne4, *]))
theorem use_factor_of {rule : Str} {n m : Int} {H : Hp} {Q : VK} {E : XK} (nt : NoT H) (q : ∀ z : Int, z = factorOf rule n m → z = 1 ∨ z = -1 → Q (.int z) H) : spFactorOf [.str rule, .int n, .int m] H Q E :=
  ⟨rule, n, m, rfl, nt, q _ rfl (factorOf_pm rule n m)⟩
local macro_rules | `(tactic| wtm_at "s") => `(tactic| ((with_reducible refine use_factor_of (by wtm_at "nt") ?_); intro z hz hpm))
/-! ### link_right -/
def spLinkRight (K : PySem.W.Frag) : Sp := fun vs H Q E => ∃ (n m : Int) (l : Lk) (p : Addr), vs = [.int n, .int m, .ref p] ∧ SqT K H p l.tup ∧ NoT H ∧ 0 < m ∧ Q (.bl (linkOk n m l)) H
theorem ok_link_right (T : Txt K mg Ad) : Def P w K mg base 2 "link_right" ["n", "m", "link"] (spLinkRight K) := by
  refine T.d_link_right.ok sc_link_right (fun vs H Q E h => ?_) (fun f cdv A outer s H vs Q E hr h => ?_)
  · obtain ⟨n, m, l, p, rfl, _⟩ := h
    rfl
  · obtain ⟨n, m, ⟨r, a, b, c⟩, p, rfl, hp, nt, hm, q⟩ := h
    replace hp : SqT K H p [.str r, .int a, .int b, .int c] := hp
    refine ⟨_, (pss_cons (ps_asg (pv 2) (pg_tup rfl (pgs_cons (pg_name (i := 3) sc_link_right.nd rfl (Or.inl rfl)) (pgs_cons (pg_name (i := 4) sc_link_right.nd rfl (Or.inl rfl)) (pgs_cons (pg_name (i := 5) sc_link_right.nd rfl (Or.inl rfl)) (pgs_cons (pg_name (i := 6) sc_link_right.nd rfl (Or.inl rfl)) pgs_nil))))))
      (pss_cons (ps_if (pt_cmpR op_ne (pv 6) (pe_d (ok_factor_of T) (hr.mono (by decide)) (passes_call (takes_of rfl rfl rfl rfl) (fun _ _ _ _ h => h)) (pa_cons (pv 3) (pa_cons (pv 0) (pa_cons (pv 1) pa_nil)))) (nomark _)) (pss_one (ps_ret pe_bl)) pss_nil)
      (pss_cons (ps_if (pt_cmpR op_eq (pv 3) pe_str (nomark _)) (pss_one (ps_ret (pe_and (pe_cmpR op_eq (pv 5) (pv 1) (nomark _)) (pe_one (pe_cmpR op_eq (pe_op op_mod (pe_op op_sub (pv 4) (pv 0)) (pv 1)) pe_int (nomark _)))))) pss_nil)
      (pss_cons (ps_if (pt_cmpR op_eq (pv 3) pe_str (nomark _)) (pss_one (ps_ret (pe_and (pe_cmpR op_eq (pv 5) (pv 1) (nomark _)) (pe_and (pe_cmpR op_ne (pv 0) pe_int (nomark _)) (pe_one (pe_cmpR op_eq (pv 0) (pe_op op_mulB pe_int (pv 4)) (nomark _))))))) pss_nil)
      (pss_cons (ps_if (pt_cmpR op_eq (pv 3) pe_str (nomark _)) (pss_one (ps_ret (pe_and (pe_cmpR op_eq (pv 5) (pv 1) (nomark _)) (pe_one (pe_cmpR op_eq (pv 4) (pe_un un_neg (pv 0)) (nomark _)))))) pss_nil)
      (pss_cons (ps_if (pt_cmpR op_ne (pv 3) pe_str (nomark _)) (pss_one (ps_ret pe_bl)) pss_nil)
      (pss_one (ps_ret (pe_and (pe_cmpR op_eq (pv 4) (pv 1) (nomark _)) (pe_and (pe_cmpR op_eq (pv 5) (pv 0) (nomark _)) (pe_and (pe_cmpR op_gt (pv 0) pe_int (nomark _)) (pe_one (pe_cmpR op_eq (pe_op op_mod (pv 0) pe_int) pe_int (nomark _)))))))))))))), ?_⟩
    try dsimp only [cxOf]
    wtm_at "ra"
    all_goals
      refine Eq.mp (congrArg (fun z => Q (V.bl z) H) ?_) q
      unfold linkOk
      dsimp only
      (repeat' split) <;> first | contradiction | (exfalso; omega) | (simp [*]; done) | (exfalso; simp_all; done) | (simp_all; done)
theorem use_link_right {n m : Int} {l : Lk} {p : Addr} {H : Hp} {Q : VK} {E : XK} (hp : SqT K H p l.tup) (nt : NoT H) (hm : 0 < m) (q : Q (.bl (linkOk n m l)) H) : spLinkRight K [.int n, .int m, .ref p] H Q E := ⟨n, m, l, p, rfl, hp, nt, hm, q⟩
local macro_rules | `(tactic| wtm_at "s") => `(tactic| ((with_reducible refine use_link_right (l := ?l) ?h1 ?h2 ?h3 ?_); (case h1 => assumption); (case h2 => wtm_at "nt"); (case h3 => omega)))
/-! ### shown -/
def spShown (C : Addr) (K : PySem.W.Frag) : Sp := fun vs H Q E => ∃ (n m : Int) (a : Addr) (ts : List Addr) (ls : List Lk), vs = [.int n, .int m, .ref a] ∧ SqL K H a (ts.map V.ref) ∧ LksAt H ts ls ∧ NoT H ∧
  (m < 1 ∨ m % 2 = 0 → ∀ d, H d = none → E (.ref C) (some d) (upd H d (.xd [("modulus", .int m)]))) ∧ (1 ≤ m → m % 2 = 1 → Q (vOpt (shownL 1 n m ls)) H)
theorem LksAt.at {H : Hp} : ∀ {ts : List Addr} {ls : List Lk} {i : Nat} {x : V}, LksAt H ts ls → (ts.map V.ref)[i]? = some x → ∃ t l, x = .ref t ∧ H t = some (.tup l.tup) ∧ ls.drop i = l :: ls.drop (i + 1)
  | [], [], _, _, _, h => by simp at h
  | t :: ts, l :: ls, 0, x, h, e => ⟨t, l, (Option.some.inj e).symm, h.1, rfl⟩
  | t :: ts, l :: ls, i + 1, x, h, e => LksAt.at (ts := ts) (ls := ls) h.2 e
  | [], _ :: _, _, _, h, _ => h.elim
  | _ :: _, [], _, _, h, _ => h.elim
theorem linkOk_pos {n m : Int} {l : Lk} (h : linkOk n m l = true) (hm : 0 < m) : 0 < l.m ∧ (l.f = 1 ∨ l.f = -1) := by
  unfold linkOk at h
  split at h
  · cases h
  · rename_i hf
    have hf' : l.f = factorOf l.r n m := Decidable.of_not_not hf
    have pm := factorOf_pm l.r n m
    refine ⟨?_, by omega⟩
    split at h
    · have := of_decide_eq_true h
      omega
    · split at h
      · have := of_decide_eq_true h
        omega
      · split at h
        · have := of_decide_eq_true h
          omega
        · split at h
          · have := of_decide_eq_true h
            omega
          · cases h
theorem ok_shown (T : Txt K mg Ad) : Def P w K mg base 4 "shown" ["n", "m", "links"] (spShown Ad.c_BadModulus K) := by
  refine T.d_shown.ok sc_shown (fun vs H Q E h => ?_) (fun f cdv A outer s H vs Q E hr h => ?_)
  · obtain ⟨n, m, a, _, _, rfl, _⟩ := h
    rfl
  · obtain ⟨n, m, a, ts, ls, rfl, hS, hl, nt, qe, qo⟩ := h
    refine ⟨_, (pss_cons (ps_expr (pe_d (ok_checked_modulus T) (hr.mono (by decide)) (passes_call (takes_of rfl rfl rfl rfl) (fun _ _ _ _ h => h)) (pa_cons (pv 1) pa_nil)))
      (pss_cons (ps_set (i := 3) sc_shown.nd rfl (Or.inl rfl) pe_int)
      (pss_cons (ps_for (passes_of rfl) rfl (pi_list (pv 2)) (pg_name (i := 4) sc_shown.nd rfl (Or.inl rfl)) (pss_cons (ps_if (pt_not (pt_val (pe_d (ok_link_right T) (hr.mono (by decide)) (passes_call (takes_of rfl rfl rfl rfl) (fun _ _ _ _ h => h)) (pa_cons (pv 0) (pa_cons (pv 1) (pa_cons (pv 4) pa_nil)))))) (pss_one (ps_ret pe_non)) pss_nil)
      (pss_cons (ps_set (i := 3) sc_shown.nd rfl (Or.inl rfl) (pe_op op_mulB (pv 3) (pe_ix ix_tup (pv 4) pe_int (fun _ _ => rfl))))
      (pss_one (ps_par (i := 0) (j := 1) rfl sc_shown.nd rfl rfl (by decide) rfl rfl (pa_cons (pe_ix ix_tup (pv 4) pe_int (fun _ _ => rfl)) (pa_cons (pe_ix ix_tup (pv 4) pe_int (fun _ _ => rfl)) pa_nil)) (by rfl))))))
      (pss_cons (ps_if (pt_not (pt_val (pe_d (ok_is_end T) (hr.mono (by decide)) (passes_call (takes_of rfl rfl rfl rfl) (fun _ _ _ _ h => h)) (pa_cons (pv 0) (pa_cons (pv 1) pa_nil))))) (pss_one (ps_ret pe_non)) pss_nil)
      (pss_one (ps_ret (pe_op op_mulB (pv 3) (pe_d (ok_end_sign T) (hr.mono (by decide)) (passes_call (takes_of rfl rfl rfl rfl) (fun _ _ _ _ h => h)) (pa_cons (pv 0) (pa_cons (pv 1) pa_nil)))))))))), ?_⟩
    try dsimp only [cxOf]
    wtm_at "rs"
    refine ⟨m, rfl, qe, fun h1 h2 => ?_⟩
    replace qo := qo h1 h2
    wtm_at "rs"
    refine rd_forL (xs := ts.map V.ref) (fun i σ H' => ∃ (z x y : Int) (v : Option V), H = H' ∧ σ = [some (.int x), some (.int y), some (.ref a), some (.int z), v] ∧ 0 < y ∧ (z = 0 ∨ z = 1 ∨ z = -1) ∧ shownL z x y (ls.drop i) = shownL 1 n m ls) ⟨1, n, m, none, rfl, rfl, by omega, by omega, rfl⟩ (fun i σ H' _ ⟨_, _, _, _, h, _⟩ => by rw [← h]; exact hS) ?_ ?_
    · rintro i x σ H' hi ⟨z, n', m', v, rfl, rfl, hm', hz, inv⟩
      obtain ⟨t, l, rfl, ht, hd⟩ := hl.at hi
      rw [hd] at inv
      have hT := SqT.of (K := K) ht
      wtm_at "ra"
      · rename_i hb
        rw [shownL, if_neg (by intro z; rw [z] at hb; cases hb)] at inv
        rw [← inv] at qo
        exact qo
      · rename_i hb
        have hb' : linkOk n' m' l = true := by simpa using hb
        obtain ⟨g1, g2⟩ := linkOk_pos hb' hm'
        rw [shownL, if_pos hb'] at inv
        refine ⟨_, _, _, _, rfl, rfl, g1, ?_, inv⟩
        rcases g2 with g2 | g2 <;> rw [g2] <;> omega
    · rintro σ H' ⟨z, x, y, v, rfl, rfl, hy, hz, inv⟩
      rw [List.length_map, hl.len, List.drop_length] at inv
      rw [← inv] at qo
      unfold shownL at qo
      wtm_at "ra"
      · rename_i hb
        rw [if_neg hb] at qo
        exact qo
      · rename_i hb
        rw [if_pos hb] at qo
        exact qo
theorem use_shown {C : Addr} {n m : Int} {a : Addr} {ts : List Addr} {ls : List Lk} {H : Hp} {Q : VK} {E : XK} (hS : SqL K H a (ts.map V.ref)) (hl : LksAt H ts ls) (nt : NoT H) (h1 : 1 ≤ m) (h2 : m % 2 = 1) (q : Q (vOpt (shownL 1 n m ls)) H) :
    spShown C K [.int n, .int m, .ref a] H Q E := ⟨n, m, a, ts, ls, rfl, hS, hl, nt, fun z => by omega, fun _ _ => q⟩
/-! ### _law_factor -/
theorem ok_law_factor (T : Txt K mg Ad) : Def P w K mg base 1 "_law_factor" ["_law_rule", "_law_n", "_law_m"] spFactorOf := by
  refine T.d_law_factor.ok sc_law_factor (fun vs H Q E h => ?_) (fun f cdv A outer s H vs Q E hr h => ?_)
  · obtain ⟨rule, n, m, rfl, _⟩ := h
    rfl
  · obtain ⟨rule, n, m, rfl, nt, q⟩ := h
    refine ⟨_, (pss_cons (ps_if (PW.pt (pw_and (pt_cmpR op_eq (pv 0) pe_str (nomark _)) (pw_and1 (pt_pure (pt_cmpR op_in_seq (pe_op op_mod (pe_callTy c_int1 (by rfl) T.b_int (by decide +kernel) (pa_cons (pv 2) pa_nil)) pe_int) (pe_lst (pa_cons pe_int (pa_cons pe_int pa_nil))) (by rfl)))))) (pss_one (ps_ret (pe_un un_neg pe_int))) pss_nil)
      (pss_cons (ps_if (PW.pt (pw_and (pt_cmpR op_eq (pv 0) pe_str (nomark _)) (pw_and1 (pt_cmpR op_eq (pe_op op_mod (pe_callTy c_int1 (by rfl) T.b_int (by decide +kernel) (pa_cons (pv 2) pa_nil)) pe_int) pe_int (nomark _))))) (pss_one (ps_ret (pe_un un_neg pe_int))) pss_nil)
      (pss_cons (ps_if (PW.pt (pw_and (pt_cmpR op_eq (pv 0) pe_str (nomark _)) (pw_and (pt_cmpR op_eq (pe_op op_mod (pe_callTy c_int1 (by rfl) T.b_int (by decide +kernel) (pa_cons (pv 1) pa_nil)) pe_int) pe_int (nomark _)) (pw_and1 (pt_cmpR op_eq (pe_op op_mod (pe_callTy c_int1 (by rfl) T.b_int (by decide +kernel) (pa_cons (pv 2) pa_nil)) pe_int) pe_int (nomark _)))))) (pss_one (ps_ret (pe_un un_neg pe_int))) pss_nil)
      (pss_one (ps_ret pe_int))))), ?_⟩
    try dsimp only [cxOf]
    wtm_at "ra"
    all_goals (refine Eq.mp (congrArg (fun z => Q (V.int z) H) ?_) q; first | (simp [factorOf, *]; done) | (subst_vars; simp [factorOf, str_ne1, str_ne2, str_ne3, str_ne4, *]))
/-! ### _law_link_right -/
def okRule (l : Lk) : Prop := l.r = "rest" ∨ l.r = "two" ∨ l.r = "minus" ∨ l.r = "turn"
theorem ok_law_link_right (T : Txt K mg Ad) : Def P w K mg base 2 "_law_link_right" ["_law_n", "_law_m", "_law_link"] (spLinkRight K) := by
  refine T.d_law_link_right.ok sc_law_link_right (fun vs H Q E h => ?_) (fun f cdv A outer s H vs Q E hr h => ?_)
  · obtain ⟨n, m, l, p, rfl, _⟩ := h
    rfl
  · obtain ⟨n, m, ⟨r, a, b, c⟩, p, rfl, hp, nt, hm, q⟩ := h
    replace hp : SqT K H p [.str r, .int a, .int b, .int c] := hp
    refine ⟨_, (pss_cons (ps_asg (pv 2) (pg_tup rfl (pgs_cons (pg_name (i := 3) sc_law_link_right.nd rfl (Or.inl rfl)) (pgs_cons (pg_name (i := 4) sc_law_link_right.nd rfl (Or.inl rfl)) (pgs_cons (pg_name (i := 5) sc_law_link_right.nd rfl (Or.inl rfl)) (pgs_cons (pg_name (i := 6) sc_law_link_right.nd rfl (Or.inl rfl)) pgs_nil))))))
      (pss_cons (ps_if (PW.pt (pw_or (pt_pure (pt_cmpR op_notIn_seq (pv 3) (pe_lst (pa_cons pe_str (pa_cons pe_str (pa_cons pe_str (pa_cons pe_str pa_nil))))) (by rfl))) (pw_or1 (pt_cmpR op_ne (pv 6) (pe_d (ok_law_factor T) (hr.mono (by decide)) (passes_call (takes_of rfl rfl rfl rfl) (fun _ _ _ _ h => h)) (pa_cons (pv 3) (pa_cons (pv 0) (pa_cons (pv 1) pa_nil)))) (nomark _))))) (pss_one (ps_ret pe_bl)) pss_nil)
      (pss_cons (ps_if (pt_cmpR op_eq (pv 3) pe_str (nomark _)) (pss_one (ps_ret (pe_and (pe_cmpR op_eq (pv 4) (pv 1) (nomark _)) (pe_and (pe_cmpR op_eq (pv 5) (pv 0) (nomark _)) (pe_and (pe_cmpR op_gt (pv 0) pe_int (nomark _)) (pe_one (pe_cmpR op_eq (pe_op op_mod (pe_callTy c_int1 (by rfl) T.b_int (by decide +kernel) (pa_cons (pv 0) pa_nil)) pe_int) pe_int (nomark _)))))))) pss_nil)
      (pss_cons (ps_if (pt_cmpR op_ne (pv 5) (pv 1) (nomark _)) (pss_one (ps_ret pe_bl)) pss_nil)
      (pss_cons (ps_if (pt_cmpR op_eq (pv 3) pe_str (nomark _)) (pss_one (ps_ret (pe_cmpR op_eq (pe_op op_mod (pe_callTy c_int1 (by rfl) T.b_int (by decide +kernel) (pa_cons (pe_op op_sub (pv 4) (pv 0)) pa_nil)) (pv 1)) pe_int (nomark _)))) pss_nil)
      (pss_cons (ps_if (pt_cmpR op_eq (pv 3) pe_str (nomark _)) (pss_one (ps_ret (pe_and (pe_cmpR op_ne (pv 0) pe_int (nomark _)) (pe_one (pe_cmpR op_eq (pv 0) (pe_op op_mulB pe_int (pv 4)) (nomark _)))))) pss_nil)
      (pss_one (ps_ret (pe_cmpR op_eq (pv 4) (pe_un un_neg (pv 0)) (nomark _)))))))))), ?_⟩
    try dsimp only [cxOf]
    have s1 := str_ne1
    have s2 := str_ne2
    have s3 := str_ne3
    have s4 := str_ne4
    have s5 := str_ne5
    have s6 := str_ne6
    have s7 := str_ne7
    have s8 := str_ne8
    have s9 := str_ne9
    have s10 := str_ne10
    have s11 := str_ne11
    have s12 := str_ne12
    wtm_at "ra"
    all_goals
      refine Eq.mp (congrArg (fun z => Q (V.bl z) H) ?_) q
      unfold linkOk
      dsimp only
      (repeat' split) <;> first | contradiction | (exfalso; omega) | (simp [*]; done) | (exfalso; simp_all; done) | (simp_all; done)
/-! ### _law_shown -/
def spLawShown (K : PySem.W.Frag) : Sp := fun vs H Q E => ∃ (n m : Int) (a : Addr) (ts : List Addr) (ls : List Lk), vs = [.int n, .int m, .ref a] ∧ SqL K H a (ts.map V.ref) ∧ LksAt H ts ls ∧ NoT H ∧ 0 < m ∧ Q (vOpt (shownL 1 n m ls)) H
theorem ok_law_shown (T : Txt K mg Ad) : Def P w K mg base 3 "_law_shown" ["_law_n", "_law_m", "_law_links"] (spLawShown K) := by
  refine T.d_law_shown.ok sc_law_shown (fun vs H Q E h => ?_) (fun f cdv A outer s H vs Q E hr h => ?_)
  · obtain ⟨n, m, a, _, _, rfl, _⟩ := h
    rfl
  · obtain ⟨n, m, a, ts, ls, rfl, hS, hl, nt, hm, qo⟩ := h
    refine ⟨_, (pss_cons (ps_set (i := 3) sc_law_shown.nd rfl (Or.inl rfl) pe_int)
      (pss_cons (ps_for (passes_of rfl) rfl (pi_list (pv 2)) (pg_name (i := 4) sc_law_shown.nd rfl (Or.inl rfl)) (pss_cons (ps_if (pt_not (pt_val (pe_d (ok_law_link_right T) (hr.mono (by decide)) (passes_call (takes_of rfl rfl rfl rfl) (fun _ _ _ _ h => h)) (pa_cons (pv 0) (pa_cons (pv 1) (pa_cons (pv 4) pa_nil)))))) (pss_one (ps_ret pe_non)) pss_nil)
      (pss_cons (ps_set (i := 3) sc_law_shown.nd rfl (Or.inl rfl) (pe_op op_mulB (pv 3) (pe_ix ix_tup (pv 4) pe_int (fun _ _ => rfl))))
      (pss_cons (ps_set (i := 0) sc_law_shown.nd rfl (Or.inl rfl) (pe_ix ix_tup (pv 4) pe_int (fun _ _ => rfl)))
      (pss_one (ps_set (i := 1) sc_law_shown.nd rfl (Or.inl rfl) (pe_ix ix_tup (pv 4) pe_int (fun _ _ => rfl))))))))
      (pss_cons (ps_if (PW.pt (pw_and (pt_cmpR op_ne (pv 1) pe_int (nomark _)) (pw_and1 (pt_pure (pt_cmpR op_notIn_seq (pv 0) (pe_lst (pa_cons pe_int (pa_cons pe_int pa_nil))) (by rfl)))))) (pss_one (ps_ret pe_non)) pss_nil)
      (pss_cons (ps_if (PW.pt (pw_and (pt_cmpR op_eq (pv 0) pe_int (nomark _)) (pw_and1 (pt_cmpR op_ne (pv 1) pe_int (nomark _))))) (pss_one (ps_ret pe_int)) pss_nil)
      (pss_one (ps_ret (pv 3))))))), ?_⟩
    try dsimp only [cxOf]
    wtm_at "rs"
    refine rd_forL (xs := ts.map V.ref) (fun i σ H' => ∃ (z x y : Int) (v : Option V), H = H' ∧ σ = [some (.int x), some (.int y), some (.ref a), some (.int z), v] ∧ 0 < y ∧ (z = 0 ∨ z = 1 ∨ z = -1) ∧ shownL z x y (ls.drop i) = shownL 1 n m ls) ⟨1, n, m, none, rfl, rfl, by omega, by omega, rfl⟩ (fun i σ H' _ ⟨_, _, _, _, h, _⟩ => by rw [← h]; exact hS) ?_ ?_
    · rintro i x σ H' hi ⟨z, n', m', v, rfl, rfl, hm', hz, inv⟩
      obtain ⟨t, l, rfl, ht, hd⟩ := hl.at hi
      rw [hd] at inv
      have hT := SqT.of (K := K) ht
      wtm_at "ra"
      · rename_i hb
        rw [shownL, if_neg (by intro z; rw [z] at hb; cases hb)] at inv
        rw [← inv] at qo
        exact qo
      · rename_i hb
        have hb' : linkOk n' m' l = true := by simpa using hb
        obtain ⟨g1, g2⟩ := linkOk_pos hb' hm'
        rw [shownL, if_pos hb'] at inv
        refine ⟨_, _, _, _, rfl, rfl, g1, ?_, inv⟩
        rcases g2 with g2 | g2 <;> rw [g2] <;> omega
    · rintro σ H' ⟨z, x, y, v, rfl, rfl, hy, hz, inv⟩
      rw [List.length_map, hl.len, List.drop_length] at inv
      rw [← inv] at qo
      unfold shownL at qo
      wtm_at "ra"
      all_goals
        refine Eq.mp (congrArg (fun z => Q z H) ?_) qo
        first
          | (rw [if_neg (by omega)]; done)
          | (rw [if_neg (by omega)]; rfl)
          | (rw [if_pos (by omega), if_pos (by omega)]; simp [vOpt]; done)
          | (rw [if_pos (by omega), if_neg (by omega)]; simp [vOpt]; done)
theorem use_law_shown {n m : Int} {a : Addr} {ts : List Addr} {ls : List Lk} {H : Hp} {Q : VK} {E : XK} (hS : SqL K H a (ts.map V.ref)) (hl : LksAt H ts ls) (nt : NoT H) (h1 : 0 < m) (q : Q (vOpt (shownL 1 n m ls)) H) :
    spLawShown K [.int n, .int m, .ref a] H Q E := ⟨n, m, a, ts, ls, rfl, hS, hl, nt, h1, q⟩
/-! ### _law_cell -/
theorem getD_at {ns : List Int} {i : Nat} (h : i < ns.length) : atI (ns.map V.int) (i : Int) = some (.int (ns.getD i 0)) := by
  refine atI_nat ?_
  rw [List.getElem?_map, List.getElem?_eq_getElem h, List.getD_eq_getElem?_getD, List.getElem?_eq_getElem h]
  rfl
theorem getD_out {ns : List Int} {i : Nat} (h : ¬ i < ns.length) : ns.getD i 0 = 0 := by
  rw [List.getD_eq_getElem?_getD, List.getElem?_eq_none (by omega)]
  rfl
def spCell (K : PySem.W.Frag) : Sp := fun vs H Q _ => ∃ (a : Addr) (ns : List Int) (i : Nat), vs = [.ref a, .int i] ∧ SqL K H a (ns.map V.int) ∧ Q (.int (ns.getD i 0)) H
theorem ok_law_cell (T : Txt K mg Ad) : Def P w K mg base 1 "_law_cell" ["_law_script", "_law_k"] (spCell K) := by
  refine T.d_law_cell.ok sc_law_cell (fun vs H Q E h => ?_) (fun f cdv A outer s H vs Q E hr h => ?_)
  · obtain ⟨a, ns, i, rfl, _⟩ := h
    rfl
  · obtain ⟨a, ns, i, rfl, hS, q⟩ := h
    refine ⟨_, (pss_cons (ps_if (pt_cmpR op_lt (pv 1) (pe_callB c_len (by rfl) T.b_len PySem.boot_len (pa_cons (pv 0) pa_nil)) (nomark _)) (pss_one (ps_ret (pe_ix ix_list (pv 0) (pv 1) (fun _ _ => rfl)))) pss_nil)
      (pss_one (ps_ret pe_int))), ?_⟩
    try dsimp only [cxOf]
    wtm_at "rs"
    wtm_at "i"
    · rename_i h
      rw [List.length_map] at h
      wtm_at "rs"
      exact rd_ixL hS (getD_at (by omega)) q
    · rename_i h
      rw [List.length_map] at h
      rw [getD_out (by omega)] at q
      wtm_at "rs"
      exact q
theorem use_cell {a : Addr} {ns : List Int} {i : Nat} {H : Hp} {Q : VK} {E : XK} {z : Int} (hS : SqL K H a (ns.map V.int)) (hz : z = (i : Int)) (q : Q (.int (ns.getD i 0)) H) : spCell K [.ref a, .int z] H Q E :=
  ⟨a, ns, i, by rw [hz], hS, q⟩
local macro_rules | `(tactic| wtm_at "s") => `(tactic| ((with_reducible refine use_cell (ns := ?ns) (i := ?i) ?h1 ?h2 ?_); (case h1 => wtm_at "q"); (case h2 => first | rfl | exact (Int.zero_add _) | exact (Int.natCast_succ _).symm)))
/-! ### _law_take -/
def spTake : Sp := fun vs H Q _ => ∃ (p : Addr) (c k lim : Int) (b : Bool), vs = [.ref p, .int lim] ∧ H p = some (.lst [.int c, .int k, .bl b]) ∧ 0 < lim ∧ lim < 2 ^ 240 ∧ 0 ≤ k ∧ k ≤ 1000000 ∧
  ∀ c' r : Int, 0 ≤ r → r < lim → Q (.int r) (upd H p (.lst [.int c', .int (k + 1), .bl b]))
theorem ok_law_take (T : Txt K mg Ad) : Def P w K mg base 1 "_law_take" ["_law_pool_here", "_law_limit"] spTake := by
  refine T.d_law_take.ok sc_law_take (fun vs H Q E h => ?_) (fun f cdv A outer s H vs Q E hr h => ?_)
  · obtain ⟨p, c, k, lim, b, rfl, _⟩ := h
    rfl
  · obtain ⟨p, c, k, lim, b, rfl, hp, l0, l1, k0, k1, q⟩ := h
    refine ⟨_, (pss_cons (ps_asg (pe_op op_add (pe_ix ix_list (pv 0) pe_int (fun _ _ => rfl)) pe_int) (pg_sub (pv 0) pe_int set_list))
      (pss_cons (ps_if (pt_val (pe_ix ix_list (pv 0) pe_int (fun _ _ => rfl))) (pss_cons (ps_set (i := 2) sc_law_take.nd rfl (Or.inl rfl) (pe_op op_mod (pe_callTy c_int1 (by rfl) T.b_int (by decide +kernel) (pa_cons (pe_ix ix_list (pv 0) pe_int (fun _ _ => rfl)) pa_nil)) (pv 1)))
      (pss_cons (ps_asg (pe_op op_fdivB (pe_callTy c_int1 (by rfl) T.b_int (by decide +kernel) (pa_cons (pe_ix ix_list (pv 0) pe_int (fun _ _ => rfl)) pa_nil)) (pv 1)) (pg_sub (pv 0) pe_int set_list))
      (pss_one (ps_ret (pv 2))))) pss_nil)
      (pss_cons (ps_set (i := 3) sc_law_take.nd rfl (Or.inl rfl) (pe_op op_mod (pe_callTy c_int1 (by rfl) T.b_int (by decide +kernel) (pa_cons (pe_op op_add (pe_op op_add (pe_op op_mulB (pe_ix ix_list (pv 0) pe_int (fun _ _ => rfl)) pe_int) (pe_op op_mulB (pe_ix ix_list (pv 0) pe_int (fun _ _ => rfl)) pe_int)) pe_int) pa_nil)) pe_int))
      (pss_one (ps_ret (pe_op op_mod (pe_op op_fdivB (pe_callTy c_int1 (by rfl) T.b_int (by decide +kernel) (pa_cons (pe_op op_mod (pe_op (op_powN 5) (pv 3) pe_int) pe_int) pa_nil)) pe_int) (pv 1))))))), ?_⟩
    try dsimp only [cxOf]
    wtm_at "ra"
    · rw [upd_lst]
      exact q (c / lim) (c % lim) (Int.emod_nonneg _ (by omega)) (Int.emod_lt_of_pos _ l0)
    · exact q c _ (Int.emod_nonneg _ (by omega)) (Int.emod_lt_of_pos _ l0)
theorem use_take {p : Addr} {c k lim : Int} {b : Bool} {H : Hp} {Q : VK} {E : XK} (hp : H p = some (.lst [.int c, .int k, .bl b])) (l0 : 0 < lim) (l1 : lim < 2 ^ 240) (k0 : 0 ≤ k) (k1 : k ≤ 1000000)
    (q : ∀ c' r : Int, 0 ≤ r → r < lim → Q (.int r) (upd H p (.lst [.int c', .int (k + 1), .bl b]))) : spTake [.ref p, .int lim] H Q E := ⟨p, c, k, lim, b, rfl, hp, l0, l1, k0, k1, q⟩
local macro_rules | `(tactic| wtm_at "s") => `(tactic| ((with_reducible refine use_take (c := ?c) (k := ?k) (b := ?b) ?h1 ?h2 ?h3 ?h4 ?h5 ?_); (case h1 => wtm_at "h"); (case h2 => omega); (case h3 => omega); (case h4 => omega); (case h5 => omega); intro c' r hr0 hr1))
/-! ### _law_changed -/
def spChanged (K : PySem.W.Frag) : Sp := fun vs H Q E => ∃ (p a : Addr) (j n m : Int) (xs : List V), vs = [.ref p, .ref a, .int n, .int m] ∧ PoolAt H p j ∧ j ≤ 1000 ∧ H a = some (.lst xs) ∧ a ≠ p ∧ LkL H xs ∧ 0 < xs.length ∧ xs.length ≤ 5000 ∧ NoT H ∧
  ∀ R ys H', (∀ H0, Same H0 H → H0 p = none → Same H0 H') → NoT H' → PoolAt H' p (j + 5) → H' a = some (.lst xs) → LkL H' xs → H' R = some (.lst ys) → LkL H' ys → Q (.ref R) H'
local macro_rules | `(tactic| wtm_at "len") => `(tactic| first
  | with_reducible assumption
  | (with_reducible exact cut_le (by with_reducible assumption))
  | (with_reducible exact len_app (by wtm_at "len") (by wtm_at "len"))
  | (with_reducible exact len_rev (by wtm_at "len"))
  | (with_reducible exact len_one)
  | fail)
local macro_rules | `(tactic| wtm_at "lk") => `(tactic| ((repeat (first
  | with_reducible refine LkL.upd_new (by with_reducible assumption) ?_
  | with_reducible refine LkL.upd_lst (by wtm_at "h") ?_)); assumption))
local macro_rules | `(tactic| wtm_at "s") => `(tactic| first
  | ((with_reducible refine rd_cat (xs := ?xs) (zs := ?zs) ?h1 ?h2 ?h3 ?_); (case h1 => wtm_at "h"); (case h2 => wtm_at "h"); (case h3 => exact room2 (by wtm_at "len") (by wtm_at "len") (by decide)); intro p hp)
  | fail)
theorem ok_law_changed (T : Txt K mg Ad) : Def P w K mg base 2 "_law_changed" ["_law_pool_here", "_law_links", "_law_n", "_law_m"] (spChanged K) := by
  refine T.d_law_changed.ok sc_law_changed (fun vs H Q E h => ?_) (fun f cdv A outer s H vs Q E hr h => ?_)
  · obtain ⟨p, a, j, n, m, xs, rfl, _⟩ := h
    rfl
  · obtain ⟨p, a, j, n, m, xs, rfl, ⟨pc, pk, pb, hp, k0, k1⟩, hj, ha, hap, hl, hlen, hlen2, nt, q⟩ := h
    refine ⟨_, (pss_cons (ps_set (i := 4) sc_law_changed.nd rfl (Or.inl rfl) (pe_d (ok_law_take T) (hr.mono (by decide)) (passes_call (takes_of rfl rfl rfl rfl) (fun _ _ _ _ h => h)) (pa_cons (pv 0) (pa_cons (pe_callB c_len (by rfl) T.b_len PySem.boot_len (pa_cons (pv 1) pa_nil)) pa_nil))))
      (pss_cons (ps_asg (pe_ix ix_list (pv 1) (pv 4) (fun _ _ => rfl)) (pg_tup rfl (pgs_cons (pg_name (i := 5) sc_law_changed.nd rfl (Or.inl rfl)) (pgs_cons (pg_name (i := 6) sc_law_changed.nd rfl (Or.inl rfl)) (pgs_cons (pg_name (i := 7) sc_law_changed.nd rfl (Or.inl rfl)) (pgs_cons (pg_name (i := 8) sc_law_changed.nd rfl (Or.inl rfl)) pgs_nil))))))
      (pss_cons (ps_set (i := 9) sc_law_changed.nd rfl (Or.inl rfl) (pe_d (ok_law_take T) (hr.mono (by decide)) (passes_call (takes_of rfl rfl rfl rfl) (fun _ _ _ _ h => h)) (pa_cons (pv 0) (pa_cons pe_int pa_nil))))
      (pss_cons (ps_if (pt_cmpR op_gt (pv 9) pe_int (nomark _)) (pss_cons (ps_set (i := 10) sc_law_changed.nd rfl (Or.inl rfl) (pe_lst (pa_cons (pv 2) (pa_cons (pv 3) pa_nil))))
      (C8.pss_cut (ps_if (pt_cmpR op_gt (pv 4) pe_int (nomark _)) (pss_one (ps_set (i := 10) sc_law_changed.nd rfl (Or.inl rfl) (pe_lst (pa_cons (pe_ix ix_tup (pe_ix ix_list (pv 1) (pe_op op_sub (pv 4) pe_int) (fun _ _ => rfl)) pe_int (fun _ _ => rfl)) (pa_cons (pe_ix ix_tup (pe_ix ix_list (pv 1) (pe_op op_sub (pv 4) pe_int) (fun _ _ => rfl)) pe_int (fun _ _ => rfl)) pa_nil))))) pss_nil)
      (C8.pss_cut (ps_if (pt_cmpR op_eq (pv 9) pe_int (nomark _)) (pss_one (ps_asg (pe_un un_neg (pe_ix ix_list (pv 10) pe_int (fun _ _ => rfl))) (pg_sub (pv 10) pe_int set_list))) pss_nil)
      (pss_one (ps_ret (pe_op op_cat (pe_op op_cat (pe_slice sl_list (pv 1) po_none (po_some (pv 4))) (pe_lst (pa_cons (pe_tup (pa_cons pe_str (pa_cons (pe_ix ix_list (pv 10) pe_int (fun _ _ => rfl)) (pa_cons (pe_ix ix_list (pv 10) pe_int (fun _ _ => rfl)) (pa_cons (pe_d (ok_law_factor T) (hr.mono (by decide)) (passes_call (takes_of rfl rfl rfl rfl) (fun _ _ _ _ h => h)) (pa_cons pe_str (pa_cons (pe_ix ix_list (pv 10) pe_int (fun _ _ => rfl)) (pa_cons (pe_ix ix_list (pv 10) pe_int (fun _ _ => rfl)) pa_nil)))) pa_nil))))) pa_nil))) (pe_slice sl_list (pv 1) (po_some (pv 4)) po_none))))))) pss_nil)
      (pss_cons (ps_if (pt_cmpR op_eq (pv 9) pe_int (nomark _)) (pss_one (ps_ret (pe_op op_cat (pe_slice sl_list (pv 1) po_none (po_some (pv 4))) (pe_slice sl_list (pv 1) (po_some (pe_op op_add (pv 4) pe_int)) po_none)))) pss_nil)
      (pss_cons (ps_if (pt_cmpR op_eq (pv 9) pe_int (nomark _)) (pss_one (ps_ret (pe_op op_cat (pe_op op_cat (pe_slice sl_list (pv 1) po_none (po_some (pv 4))) (pe_lst (pa_cons (pe_ix ix_list (pv 1) (pv 4) (fun _ _ => rfl)) pa_nil))) (pe_slice sl_list (pv 1) (po_some (pv 4)) po_none)))) pss_nil)
      (pss_cons (ps_if (pt_cmpR op_eq (pv 9) pe_int (nomark _)) (pss_one (ps_ret (pe_op op_cat (pe_op op_cat (pe_slice sl_list (pv 1) po_none (po_some (pv 4))) (pe_revL (pe_slice sl_list (pv 1) (po_some (pv 4)) (po_some (pe_op op_add (pv 4) pe_int))))) (pe_slice sl_list (pv 1) (po_some (pe_op op_add (pv 4) pe_int)) po_none)))) pss_nil)
      (C8.pss_cut (ps_if (pt_cmpR op_eq (pv 9) pe_int (nomark _)) (pss_one (ps_set (i := 6) sc_law_changed.nd rfl (Or.inl rfl) (pe_op op_sub (pe_op op_add (pv 6) (pe_op op_mulB pe_int (pe_d (ok_law_take T) (hr.mono (by decide)) (passes_call (takes_of rfl rfl rfl rfl) (fun _ _ _ _ h => h)) (pa_cons (pv 0) (pa_cons pe_int pa_nil))))) pe_int))) pss_nil)
      (C8.pss_cut (ps_if (pt_cmpR op_eq (pv 9) pe_int (nomark _)) (pss_one (ps_set (i := 7) sc_law_changed.nd rfl (Or.inl rfl) (pe_op op_add (pv 7) (pe_op op_mulB pe_int (pe_op op_sub (pe_op op_mulB pe_int (pe_d (ok_law_take T) (hr.mono (by decide)) (passes_call (takes_of rfl rfl rfl rfl) (fun _ _ _ _ h => h)) (pa_cons (pv 0) (pa_cons pe_int pa_nil)))) pe_int))))) pss_nil)
      (C8.pss_cut (ps_if (pt_cmpR op_eq (pv 9) pe_int (nomark _)) (pss_one (ps_set (i := 8) sc_law_changed.nd rfl (Or.inl rfl) (pe_un un_neg (pv 8)))) pss_nil)
      (C8.pss_cut (ps_if (pt_cmpR op_eq (pv 9) pe_int (nomark _)) (pss_one (ps_set (i := 5) sc_law_changed.nd rfl (Or.inl rfl) (pe_ix ix_list (pe_lst (pa_cons pe_str (pa_cons pe_str (pa_cons pe_str (pa_cons pe_str pa_nil))))) (pe_d (ok_law_take T) (hr.mono (by decide)) (passes_call (takes_of rfl rfl rfl rfl) (fun _ _ _ _ h => h)) (pa_cons (pv 0) (pa_cons pe_int pa_nil))) (fun _ _ => rfl)))) pss_nil)
      (pss_one (ps_ret (pe_op op_cat (pe_op op_cat (pe_slice sl_list (pv 1) po_none (po_some (pv 4))) (pe_lst (pa_cons (pe_tup (pa_cons (pv 5) (pa_cons (pv 6) (pa_cons (pv 7) (pa_cons (pv 8) pa_nil))))) pa_nil))) (pe_slice sl_list (pv 1) (po_some (pe_op op_add (pv 4) pe_int)) po_none))))))))))))))), ?_⟩
    try dsimp only [cxOf]
    wtm_at "rs"
    rename_i c1 r1 r10 r11
    obtain ⟨i, rfl⟩ : ∃ i : Nat, r1 = (i : Int) := ⟨r1.toNat, by omega⟩
    have hil : i < xs.length := by omega
    have hlk := hl
    obtain ⟨ts, ls, rfl, hls⟩ := hl
    rw [List.length_map] at hil
    obtain ⟨t, l, hti, htt⟩ := hls.get hil
    have hxi : (ts.map V.ref)[i]? = some (.ref t) := by rw [List.getElem?_map, hti]; rfl
    obtain ⟨lr, ln, lm, lf⟩ := l
    replace htt : H t = some (.tup [.str lr, .int ln, .int lm, .int lf]) := htt
    have hprev : 0 < i → ∃ t' r' n' m' f', (ts.map V.ref)[i - 1]? = some (.ref t') ∧ H t' = some (.tup [.str r', .int n', .int m', .int f']) := fun _ => by
      obtain ⟨t', l', h1, h2⟩ := hls.get (i := i - 1) (by omega)
      exact ⟨t', l'.r, l'.n, l'.m, l'.f, by rw [List.getElem?_map, h1]; rfl, h2⟩
    generalize ts.map V.ref = xs at *
    have htp : t ≠ p := ne_of htt hp (by intro z; cases z)
    refine rd_ixL (v := .ref t) (SqL.of (by wtm_at "h")) (atI_nat hxi) ?_
    wtm_at "rs"
    rename_i c2 r2 r20 r21
    have mid0 : ChMid p a (j + 2) xs H (upd (upd H p (.lst [.int c1, .int (pk + 1), .bl pb])) p (.lst [.int c2, .int (pk + 1 + 1), .bl pb])) :=
      ⟨by wtm_at "nt", ⟨_, _, _, upd_same, by omega, by omega⟩, by wtm_at "h", by wtm_at "lk", fun H0 s0 f0 => by wtm_at "sm"⟩
    have hprev2 : 0 < i → ∃ t' r' n' m' f', xs[i - 1]? = some (.ref t') ∧ (upd (upd H p (.lst [.int c1, .int (pk + 1), .bl pb])) p (.lst [.int c2, .int (pk + 1 + 1), .bl pb])) t' = some (.tup [.str r', .int n', .int m', .int f']) := fun z => by
      obtain ⟨t', r', n', m', f', h1, h2⟩ := hprev z
      have := ne_of h2 hp (by intro z; cases z)
      exact ⟨t', r', n', m', f', h1, by wtm_at "h"⟩
    have hal : (upd (upd H p (.lst [.int c1, .int (pk + 1), .bl pb])) p (.lst [.int c2, .int (pk + 1 + 1), .bl pb])) t = some (.tup [.str lr, .int ln, .int lm, .int lf]) := by wtm_at "h"
    have hfr : ∀ H0, Same H0 H → H0 p = none → Same H0 (upd (upd H p (.lst [.int c1, .int (pk + 1), .bl pb])) p (.lst [.int c2, .int (pk + 1 + 1), .bl pb])) := fun H0 s0 f0 => by wtm_at "sm"
    have hback : ∀ u, (upd (upd H p (.lst [.int c1, .int (pk + 1), .bl pb])) p (.lst [.int c2, .int (pk + 1 + 1), .bl pb])) u = none → H u = none := fun u hu => by
      by_cases e : u = p
      · subst e
        rw [upd_same] at hu
        cases hu
      · rw [upd_ne e, upd_ne e] at hu
        exact hu
    generalize upd (upd H p (.lst [.int c1, .int (pk + 1), .bl pb])) p (.lst [.int c2, .int (pk + 1 + 1), .bl pb]) = H1 at *
    obtain ⟨nt1, ⟨qc, qk, qb, hp1, q0, q1⟩, ha1, hl1, tr1⟩ := mid0
    wtm_at "i"
    · wtm_at "rs"
      rename_i P0 hP0
      have hP0f := hback P0 hP0
      refine rd_cut (fun σ2 H2 => ∃ (P : Addr) (x y : Int), σ2 = [some (.ref p), some (.ref a), some (.int n), some (.int m), some (.int i), some (.str lr), some (.int ln), some (.int lm), some (.int lf), some (.int r2), some (.ref P)] ∧ H2 P = some (.lst [.int x, .int y]) ∧ P ≠ a ∧ P ≠ p ∧ H P = none ∧ ChMid p a (j + 2) xs H H2) ?_ ?_
      · wtm_at "rs"
        wtm_at "i"
        · rename_i hi0
          obtain ⟨t', r', n', m', f', h1, h2⟩ := hprev2 (by omega)
          have hix : atI xs ((i : Int) - 1) = some (.ref t') := by
            rw [show (i : Int) - 1 = ((i - 1 : Nat) : Int) by omega]
            exact atI_nat h1
          wtm_at "rs"
          refine rd_ixL (v := .ref t') (SqL.of (by wtm_at "h")) hix ?_
          wtm_at "rs"
          refine rd_ixL (v := .ref t') (SqL.of (by wtm_at "h")) hix ?_
          wtm_at "rs"
          rename_i P1 hP1
          have hP1f : H P1 = none := hback P1 (by
            by_cases e : P1 = P0
            · subst e
              exact hP0
            · rw [upd_ne e] at hP1
              exact hP1)
          refine ⟨P1, n', m', rfl, upd_same, (ne_of_none ha hP1f).symm, (ne_of_none hp hP1f).symm, hP1f, by wtm_at "nt", ⟨qc, qk, qb, by wtm_at "h", by omega, by omega⟩, by wtm_at "h", by wtm_at "lk", fun H0 s0 f0 => by
            have s1 := tr1 H0 s0 f0
            wtm_at "sm"⟩
        · wtm_at "rs"
          refine ⟨P0, n, m, rfl, upd_same, (ne_of_none ha hP0f).symm, (ne_of_none hp hP0f).symm, hP0f, by wtm_at "nt", ⟨qc, qk, qb, by wtm_at "h", by omega, by omega⟩, by wtm_at "h", by wtm_at "lk", fun H0 s0 f0 => by
            have s1 := tr1 H0 s0 f0
            wtm_at "sm"⟩
      rintro σ2 H2 ⟨P2, x, y, rfl, hP2, hPa, hPp, hPf, ⟨nt2, ⟨wc, wk, wb, hp2, w0, w1⟩, ha2, hl2, tr2⟩⟩
      refine rd_cut (fun σ2 H2 => ∃ (P : Addr) (x y : Int), σ2 = [some (.ref p), some (.ref a), some (.int n), some (.int m), some (.int i), some (.str lr), some (.int ln), some (.int lm), some (.int lf), some (.int r2), some (.ref P)] ∧ H2 P = some (.lst [.int x, .int y]) ∧ P ≠ a ∧ P ≠ p ∧ H P = none ∧ ChMid p a (j + 2) xs H H2) ?_ ?_
      · wtm_at "ra"
        · refine ⟨P2, -x, y, rfl, upd_same, hPa, hPp, hPf, by wtm_at "nt", ⟨wc, wk, wb, by wtm_at "h", by omega, by omega⟩, by wtm_at "h", by wtm_at "lk", fun H0 s0 f0 => by
            have s1 := tr2 H0 s0 f0
            have s2 := s0.free hPf
            wtm_at "sm"⟩
        · exact ⟨P2, x, y, rfl, hP2, hPa, hPp, hPf, nt2, ⟨wc, wk, wb, hp2, w0, w1⟩, ha2, hl2, tr2⟩
      rintro σ3 H3 ⟨P3, x, y, rfl, hP3, hPa3, hPp3, hPf3, ⟨nt3, ⟨wc, wk, wb, hp3, w0, w1⟩, ha3, hl3, tr3⟩⟩
      wtm_at "rs"
      refine q _ _ _ (fun H0 s0 f0 => ?_) ?_ ⟨wc, wk, wb, ?_, by omega, by omega⟩ ?_ ?_ upd_same ?_
      · have s1 := tr3 H0 s0 f0
        wtm_at "sm"
      · wtm_at "nt"
      · wtm_at "h"
      · wtm_at "h"
      · wtm_at "lk"
      · refine LkL.app (LkL.app (LkL.cut ?_) (LkL.one4 (by wtm_at "h"))) (LkL.cut ?_)
        · wtm_at "lk"
        · wtm_at "lk"
    · wtm_at "ra"
      · refine q _ _ _ (fun H0 s0 f0 => by
          have s1 := tr1 H0 s0 f0
          wtm_at "sm") (by wtm_at "nt") ⟨qc, qk, qb, by wtm_at "h", by omega, by omega⟩ (by wtm_at "h") (by wtm_at "lk") upd_same (LkL.app (LkL.cut (by wtm_at "lk")) (LkL.cut (by wtm_at "lk")))
      · refine rd_ixL (v := .ref t) (SqL.of (by wtm_at "h")) (atI_nat hxi) ?_
        wtm_at "rs"
        refine q _ _ _ (fun H0 s0 f0 => by
          have s1 := tr1 H0 s0 f0
          wtm_at "sm") (by wtm_at "nt") ⟨qc, qk, qb, by wtm_at "h", by omega, by omega⟩ (by wtm_at "h") (by wtm_at "lk") upd_same (LkL.app (LkL.app (LkL.cut (by wtm_at "lk")) (LkL.one4 (by wtm_at "h"))) (LkL.cut (by wtm_at "lk")))
      · refine q _ _ _ (fun H0 s0 f0 => by
          have s1 := tr1 H0 s0 f0
          wtm_at "sm") (by wtm_at "nt") ⟨qc, qk, qb, by wtm_at "h", by omega, by omega⟩ (by wtm_at "h") (by wtm_at "lk") upd_same (LkL.app (LkL.app (LkL.cut (by wtm_at "lk")) (LkL.rev (LkL.cut (by wtm_at "lk")))) (LkL.cut (by wtm_at "lk")))
      refine rd_cut (fun σ2 H2 => ∃ (lr : Str) (ln lm lf : Int), σ2 = [some (.ref p), some (.ref a), some (.int n), some (.int m), some (.int i), some (.str lr), some (.int ln), some (.int lm), some (.int lf), some (.int r2), none] ∧ ChMid p a (j + 3) xs H H2) ?_ ?_
      · wtm_at "ra"
        all_goals exact ⟨_, _, _, _, rfl, by wtm_at "nt", ⟨_, _, _, by wtm_at "h", by omega, by omega⟩, by wtm_at "h", by wtm_at "lk", fun H0 s0 f0 => by
          have s1 := tr1 H0 s0 f0
          wtm_at "sm"⟩
      rintro σ2 H2 ⟨lr, ln, lm, lf, rfl, ⟨nt2, ⟨qc, qk, qb, hp2, q0, q1⟩, ha2, hl2, tr2⟩⟩
      refine rd_cut (fun σ2 H2 => ∃ (lr : Str) (ln lm lf : Int), σ2 = [some (.ref p), some (.ref a), some (.int n), some (.int m), some (.int i), some (.str lr), some (.int ln), some (.int lm), some (.int lf), some (.int r2), none] ∧ ChMid p a (j + 4) xs H H2) ?_ ?_
      · wtm_at "ra"
        all_goals exact ⟨_, _, _, _, rfl, by wtm_at "nt", ⟨_, _, _, by wtm_at "h", by omega, by omega⟩, by wtm_at "h", by wtm_at "lk", fun H0 s0 f0 => by
          have s1 := tr2 H0 s0 f0
          wtm_at "sm"⟩
      rintro σ3 H3 ⟨lr, ln, lm, lf, rfl, ⟨nt3, ⟨qc, qk, qb, hp3, q0, q1⟩, ha3, hl3, tr3⟩⟩
      refine rd_cut (fun σ2 H2 => ∃ (lr : Str) (ln lm lf : Int), σ2 = [some (.ref p), some (.ref a), some (.int n), some (.int m), some (.int i), some (.str lr), some (.int ln), some (.int lm), some (.int lf), some (.int r2), none] ∧ ChMid p a (j + 4) xs H H2) ?_ ?_
      · wtm_at "ra"
        all_goals exact ⟨_, _, _, _, rfl, by wtm_at "nt", ⟨_, _, _, by wtm_at "h", by omega, by omega⟩, by wtm_at "h", by wtm_at "lk", fun H0 s0 f0 => by
          have s1 := tr3 H0 s0 f0
          wtm_at "sm"⟩
      rintro σ4 H4 ⟨lr, ln, lm, lf, rfl, ⟨nt4, ⟨qc, qk, qb, hp4, q0, q1⟩, ha4, hl4, tr4⟩⟩
      refine rd_cut (fun σ2 H2 => ∃ (lr : Str) (ln lm lf : Int), σ2 = [some (.ref p), some (.ref a), some (.int n), some (.int m), some (.int i), some (.str lr), some (.int ln), some (.int lm), some (.int lf), some (.int r2), none] ∧ ChMid p a (j + 5) xs H H2) ?_ ?_
      · wtm_at "ra"
        · rename_i M hM c5 r5 r50 r51
          have hMp : M ≠ p := (ne_of_none hp4 hM).symm
          obtain ⟨s, hs⟩ : ∃ s : Str, atI [V.str "rest", .str "two", .str "minus", .str "turn"] r5 = some (.str s) := by
            have h7 : r5 = 0 ∨ r5 = 1 ∨ r5 = 2 ∨ r5 = 3 := by omega
            rcases h7 with e | e | e | e <;> subst e <;> exact ⟨_, rfl⟩
          refine rd_ixL (v := .str s) (SqL.of (by wtm_at "h")) hs ?_
          wtm_at "rs"
          exact ⟨_, _, _, _, rfl, by wtm_at "nt", ⟨_, _, _, by wtm_at "h", by omega, by omega⟩, by wtm_at "h", by wtm_at "lk", fun H0 s0 f0 => by
            have s1 := tr4 H0 s0 f0
            wtm_at "sm"⟩
        · exact ⟨_, _, _, _, rfl, by wtm_at "nt", ⟨_, _, _, by wtm_at "h", by omega, by omega⟩, by wtm_at "h", by wtm_at "lk", fun H0 s0 f0 => by
            have s1 := tr4 H0 s0 f0
            wtm_at "sm"⟩
      rintro σ5 H5 ⟨lr, ln, lm, lf, rfl, ⟨nt5, ⟨qc, qk, qb, hp5, q0, q1⟩, ha5, hl5, tr5⟩⟩
      wtm_at "rs"
      refine q _ _ _ (fun H0 s0 f0 => by
        have s1 := tr5 H0 s0 f0
        wtm_at "sm") (by wtm_at "nt") ⟨qc, qk, qb, by wtm_at "h", by omega, by omega⟩ (by wtm_at "h") (by wtm_at "lk") upd_same (LkL.app (LkL.app (LkL.cut (by wtm_at "lk")) (LkL.one4 (by wtm_at "h"))) (LkL.cut (by wtm_at "lk")))
theorem use_changed {p a : Addr} {j n m : Int} {xs : List V} {H : Hp} {Q : VK} {E : XK} (hp : PoolAt H p j) (hj : j ≤ 1000) (ha : H a = some (.lst xs)) (hap : a ≠ p) (hl : LkL H xs) (h0 : 0 < xs.length) (h1 : xs.length ≤ 5000) (nt : NoT H)
    (q : ∀ R ys H', (∀ H0, Same H0 H → H0 p = none → Same H0 H') → NoT H' → PoolAt H' p (j + 5) → H' a = some (.lst xs) → LkL H' xs → H' R = some (.lst ys) → LkL H' ys → Q (.ref R) H') : spChanged K [.ref p, .ref a, .int n, .int m] H Q E :=
  ⟨p, a, j, n, m, xs, rfl, hp, hj, ha, hap, hl, h0, h1, nt, q⟩
/-! ### _law_drawn_link -/
def spDrawnL : Sp := fun vs H Q E => ∃ (p : Addr) (c : Int) (b : Bool) (n m M : Int), vs = [.ref p, .int n, .int m] ∧ H p = some (.lst [.int c, .int 0, .bl b]) ∧ NoT H ∧ 0 < m ∧ m % 2 = 1 ∧ m < M ∧ M < 2 ^ 200 ∧ -M < n ∧ n < M ∧
  ∀ (l : Lk) t H', linkOk n m l = true → 0 < l.m → l.m % 2 = 1 → -(4 * M) < l.n → l.n < 4 * M → l.m < 4 * M → (∀ H0, Same H0 H → H0 p = none → Same H0 H' ∧ H0 t = none) → NoT H' → H' t = some (.tup l.tup) → Q (.ref t) H'
theorem ok_law_drawn_link (T : Txt K mg Ad) : Def P w K mg base 2 "_law_drawn_link" ["_law_pool_here", "_law_n", "_law_m"] spDrawnL := by
  refine T.d_law_drawn_link.ok sc_law_drawn_link (fun vs H Q E h => ?_) (fun f cdv A outer s H vs Q E hr h => ?_)
  · obtain ⟨p, c, b, n, m, M, rfl, _⟩ := h
    rfl
  · obtain ⟨p, c, b, n, m, M, rfl, hp, nt, hm, ho, hM, hM2, n0, n1, q⟩ := h
    refine ⟨_, (pss_cons (ps_set (i := 3) sc_law_drawn_link.nd rfl (Or.inl rfl) (pe_d (ok_law_take T) (hr.mono (by decide)) (passes_call (takes_of rfl rfl rfl rfl) (fun _ _ _ _ h => h)) (pa_cons (pv 0) (pa_cons pe_int pa_nil))))
      (pss_cons (ps_set (i := 4) sc_law_drawn_link.nd rfl (Or.inl rfl) pe_str)
      (pss_cons (ps_set (i := 5) sc_law_drawn_link.nd rfl (Or.inl rfl) (pe_lst (pa_cons (pe_op op_add (pe_op op_mod (pe_callTy c_int1 (by rfl) T.b_int (by decide +kernel) (pa_cons (pv 1) pa_nil)) (pv 2)) (pe_op op_mulB (pv 2) (pe_op op_sub (pe_d (ok_law_take T) (hr.mono (by decide)) (passes_call (takes_of rfl rfl rfl rfl) (fun _ _ _ _ h => h)) (pa_cons (pv 0) (pa_cons pe_int pa_nil))) pe_int))) (pa_cons (pv 2) pa_nil))))
      (C8.pss_cut (ps_if (PW.pt (pw_and (pt_cmpR op_eq (pv 3) pe_int (nomark _)) (pw_and (pt_cmpR op_ne (pv 1) pe_int (nomark _)) (pw_and1 (pt_cmpR op_eq (pe_op op_mod (pe_callTy c_int1 (by rfl) T.b_int (by decide +kernel) (pa_cons (pv 1) pa_nil)) pe_int) pe_int (nomark _)))))) (pss_cons (ps_set (i := 4) sc_law_drawn_link.nd rfl (Or.inl rfl) pe_str)
      (pss_one (ps_set (i := 5) sc_law_drawn_link.nd rfl (Or.inl rfl) (pe_lst (pa_cons (pe_op op_fdivB (pv 1) pe_int) (pa_cons (pv 2) pa_nil)))))) pss_nil)
      (C8.pss_cut (ps_if (pt_cmpR op_eq (pv 3) pe_int (nomark _)) (pss_cons (ps_set (i := 4) sc_law_drawn_link.nd rfl (Or.inl rfl) pe_str)
      (pss_one (ps_set (i := 5) sc_law_drawn_link.nd rfl (Or.inl rfl) (pe_lst (pa_cons (pe_un un_neg (pv 1)) (pa_cons (pv 2) pa_nil)))))) pss_nil)
      (C8.pss_cut (ps_if (PW.pt (pw_and (pt_cmpR op_eq (pv 3) pe_int (nomark _)) (pw_and (pt_cmpR op_gt (pv 1) pe_int (nomark _)) (pw_and1 (pt_cmpR op_eq (pe_op op_mod (pe_callTy c_int1 (by rfl) T.b_int (by decide +kernel) (pa_cons (pv 1) pa_nil)) pe_int) pe_int (nomark _)))))) (pss_cons (ps_set (i := 4) sc_law_drawn_link.nd rfl (Or.inl rfl) pe_str)
      (pss_one (ps_set (i := 5) sc_law_drawn_link.nd rfl (Or.inl rfl) (pe_lst (pa_cons (pv 2) (pa_cons (pv 1) pa_nil)))))) pss_nil)
      (pss_one (ps_ret (pe_tup (pa_cons (pv 4) (pa_cons (pe_ix ix_list (pv 5) pe_int (fun _ _ => rfl)) (pa_cons (pe_ix ix_list (pv 5) pe_int (fun _ _ => rfl)) (pa_cons (pe_d (ok_law_factor T) (hr.mono (by decide)) (passes_call (takes_of rfl rfl rfl rfl) (fun _ _ _ _ h => h)) (pa_cons (pv 4) (pa_cons (pv 1) (pa_cons (pv 2) pa_nil)))) pa_nil))))))))))))), ?_⟩
    try dsimp only [cxOf]
    wtm_at "rs"
    rename_i c1 r1 r10 r11 c2 r2 r20 r21 u hu
    have hup : u ≠ p := by
      rintro rfl
      rw [upd_same] at hu
      cases hu
    have huf : H u = none := by
      rw [upd_ne hup, upd_ne hup] at hu
      exact hu
    have start : ∀ H0, Same H0 H → H0 p = none → Same H0 (upd (upd (upd H p (.lst [.int c1, .int (0 + 1), .bl b])) p (.lst [.int c2, .int (0 + 1 + 1), .bl b])) u (.lst [.int (n % m + m * (r2 - 2)), .int m])) := fun H0 s0 f0 => by
      have := s0.free huf
      wtm_at "sm"
    refine rd_cut (fun σ2 H2 => ∃ (r : Str) (x y : Int) (P : Addr), σ2 = [some (.ref p), some (.int n), some (.int m), some (.int r1), some (.str r), some (.ref P)] ∧ H2 P = some (.lst [.int x, .int y]) ∧ GoodL n m M r x y ∧ NoT H2 ∧ ∀ H0, Same H0 H → H0 p = none → Same H0 H2) ?_ ?_
    · wtm_at "ra"
      all_goals first
        | exact ⟨_, _, _, _, rfl, upd_same, good_two hm ho hM ⟨n0, n1⟩ (by assumption) (by assumption), by wtm_at "nt", fun H0 s0 f0 => by
            have s1 := start H0 s0 f0
            wtm_at "sm"⟩
        | exact ⟨_, _, _, _, rfl, upd_same, good_rest hm ho hM ⟨by omega, by omega⟩, by wtm_at "nt", start⟩
    rintro σ2 H2 ⟨r, x, y, P2, rfl, hP, hG, nt2, tr2⟩
    refine rd_cut (fun σ2 H2 => ∃ (r : Str) (x y : Int) (P : Addr), σ2 = [some (.ref p), some (.int n), some (.int m), some (.int r1), some (.str r), some (.ref P)] ∧ H2 P = some (.lst [.int x, .int y]) ∧ GoodL n m M r x y ∧ NoT H2 ∧ ∀ H0, Same H0 H → H0 p = none → Same H0 H2) ?_ ?_
    · wtm_at "ra"
      all_goals first
        | exact ⟨_, _, _, _, rfl, upd_same, good_minus hm ho hM ⟨n0, n1⟩, by wtm_at "nt", fun H0 s0 f0 => by
            have s1 := tr2 H0 s0 f0
            wtm_at "sm"⟩
        | exact ⟨_, _, _, _, rfl, hP, hG, nt2, tr2⟩
    rintro σ3 H3 ⟨r, x, y, P3, rfl, hP3, hG3, nt3, tr3⟩
    refine rd_cut (fun σ2 H2 => ∃ (r : Str) (x y : Int) (P : Addr), σ2 = [some (.ref p), some (.int n), some (.int m), some (.int r1), some (.str r), some (.ref P)] ∧ H2 P = some (.lst [.int x, .int y]) ∧ GoodL n m M r x y ∧ NoT H2 ∧ ∀ H0, Same H0 H → H0 p = none → Same H0 H2) ?_ ?_
    · wtm_at "ra"
      all_goals first
        | exact ⟨_, _, _, _, rfl, upd_same, good_turn hm ho hM ⟨n0, n1⟩ (by omega) (by assumption), by wtm_at "nt", fun H0 s0 f0 => by
            have s1 := tr3 H0 s0 f0
            wtm_at "sm"⟩
        | exact ⟨_, _, _, _, rfl, hP3, hG3, nt3, tr3⟩
    rintro σ4 H4 ⟨r, x, y, P4, rfl, hP4, hG4, nt4, tr4⟩
    wtm_at "rs"
    rename_i z hz hz2 t ht
    subst hz
    refine q ⟨r, x, y, factorOf r n m⟩ t _ hG4.ok hG4.pos hG4.odd hG4.lo.1 hG4.lo.2 hG4.hi (fun H0 s0 f0 => ⟨?_, ?_⟩) (by wtm_at "nt") upd_same
    · have s1 := tr4 H0 s0 f0
      wtm_at "sm"
    · exact (tr4 H0 s0 f0).free ht
theorem use_drawnL {p : Addr} {c : Int} {b : Bool} {n m M : Int} {H : Hp} {Q : VK} {E : XK} (hp : H p = some (.lst [.int c, .int 0, .bl b])) (nt : NoT H) (hm : 0 < m) (ho : m % 2 = 1) (hM : m < M) (hM2 : M < 2 ^ 200) (h1 : -M < n) (h2 : n < M)
    (q : ∀ (l : Lk) t H', linkOk n m l = true → 0 < l.m → l.m % 2 = 1 → -(4 * M) < l.n → l.n < 4 * M → l.m < 4 * M → (∀ H0, Same H0 H → H0 p = none → Same H0 H' ∧ H0 t = none) → NoT H' → H' t = some (.tup l.tup) → Q (.ref t) H') : spDrawnL [.ref p, .int n, .int m] H Q E :=
  ⟨p, c, b, n, m, M, rfl, hp, nt, hm, ho, hM, hM2, h1, h2, q⟩
/-! ### _law_pool -/
def spPool : Sp := fun vs H Q _ => ∃ n : Int, vs = [.int n] ∧ ∀ p, H p = none → Q (.ref p) (upd H p (.lst [.int n, .int 0, .bl (decide (10 ^ 18 ≤ n))]))
theorem ok_law_pool (T : Txt K mg Ad) : Def P w K mg base 1 "_law_pool" ["_law_cell_here"] spPool := by
  refine T.d_law_pool.ok sc_law_pool (fun vs H Q E h => ?_) (fun f cdv A outer s H vs Q E hr h => ?_)
  · obtain ⟨n, rfl, _⟩ := h
    rfl
  · obtain ⟨n, rfl, q⟩ := h
    refine ⟨_, (pss_one (ps_ret (pe_lst (pa_cons (pv 0) (pa_cons pe_int (pa_cons (pe_cmpR op_ge (pv 0) (pe_op (op_powN 18) pe_int pe_int) (nomark _)) pa_nil)))))), ?_⟩
    try dsimp only [cxOf]
    wtm_at "rs"
    exact q _ (by assumption)
theorem use_pool {n : Int} {H : Hp} {Q : VK} {E : XK} (q : ∀ p, H p = none → Q (.ref p) (upd H p (.lst [.int n, .int 0, .bl (decide (10 ^ 18 ≤ n))]))) : spPool [.int n] H Q E := ⟨n, rfl, q⟩
local macro_rules | `(tactic| wtm_at "s") => `(tactic| ((with_reducible refine use_pool ?_); intro p hp))
/-! ### _law_number -/
def spNumber (K : PySem.W.Frag) : Sp := fun vs H Q E => ∃ (a : Addr) (ns : List Int) (i : Int), vs = [.ref a, .int i] ∧ SqL K H a (ns.map V.int) ∧ NoT H ∧ 0 ≤ i ∧ ∀ z : Int, (-(2 ^ 135) < z ∧ z < 2 ^ 135) → Q (.int z) H
theorem ok_law_number0 (T : Txt K mg Ad) : Def P w K mg base 2 "_law_number" ["_law_script", "_law_k"] (fun vs H Q E => ∃ (a : Addr) (ns : List Int) (i : Nat), vs = [.ref a, .int i] ∧ SqL K H a (ns.map V.int) ∧ ∀ (z : Int) H', Same H H' → (-(2 ^ 135) < z ∧ z < 2 ^ 135) → Q (.int z) H') := by
  refine T.d_law_number.ok sc_law_number (fun vs H Q E h => ?_) (fun f cdv A outer s H vs Q E hr h => ?_)
  · obtain ⟨a, ns, i, rfl, _⟩ := h
    rfl
  · obtain ⟨a, ns, i, rfl, hS, q⟩ := h
    refine ⟨_, (pss_cons (ps_set (i := 2) sc_law_number.nd rfl (Or.inl rfl) (pe_d (ok_law_pool T) (hr.mono (by decide)) (passes_call (takes_of rfl rfl rfl rfl) (fun _ _ _ _ h => h)) (pa_cons (pe_d (ok_law_cell T) (hr.mono (by decide)) (passes_call (takes_of rfl rfl rfl rfl) (fun _ _ _ _ h => h)) (pa_cons (pv 0) (pa_cons (pv 1) pa_nil))) pa_nil)))
      (pss_cons (ps_set (i := 3) sc_law_number.nd rfl (Or.inl rfl) (pe_op op_sub (pe_d (ok_law_take T) (hr.mono (by decide)) (passes_call (takes_of rfl rfl rfl rfl) (fun _ _ _ _ h => h)) (pa_cons (pv 2) (pa_cons pe_int pa_nil))) pe_int))
      (pss_cons (ps_if (pt_cmpR op_eq (pe_d (ok_law_take T) (hr.mono (by decide)) (passes_call (takes_of rfl rfl rfl rfl) (fun _ _ _ _ h => h)) (pa_cons (pv 2) (pa_cons pe_int pa_nil))) pe_int (nomark _)) (pss_one (ps_set (i := 3) sc_law_number.nd rfl (Or.inl rfl) (pe_op op_sub (pe_op op_mod (pe_callTy c_int1 (by rfl) T.b_int (by decide +kernel) (pa_cons (pe_d (ok_law_cell T) (hr.mono (by decide)) (passes_call (takes_of rfl rfl rfl rfl) (fun _ _ _ _ h => h)) (pa_cons (pv 0) (pa_cons (pv 1) pa_nil))) pa_nil)) (pe_op (op_powN 40) pe_int pe_int)) (pe_op (op_powN 39) pe_int pe_int)))) pss_nil)
      (pss_one (ps_ret (pv 3)))))), ?_⟩
    try dsimp only [cxOf]
    wtm_at "ra"
    all_goals exact q _ _ (by wtm_at "sm") ⟨by omega, by omega⟩
theorem ok_law_number (T : Txt K mg Ad) : Def P w K mg base 2 "_law_number" ["_law_script", "_law_k"] (spNumber K) :=
  (ok_law_number0 T).forget.imp fun vs H Q E ⟨a, ns, i, e, hS, nt, hi, q⟩ => ⟨nt, a, ns, i.toNat, by rw [e, Int.toNat_of_nonneg hi], hS, fun z H' sm hz => ⟨sm, q z hz⟩⟩
theorem use_number {a : Addr} {ns : List Int} {i : Int} {H : Hp} {Q : VK} {E : XK} (hS : SqL K H a (ns.map V.int)) (nt : NoT H) (hi : 0 ≤ i) (q : ∀ z : Int, (-(2 ^ 135) < z ∧ z < 2 ^ 135) → Q (.int z) H) : spNumber K [.ref a, .int i] H Q E := ⟨a, ns, i, rfl, hS, nt, hi, q⟩
local macro_rules | `(tactic| wtm_at "s") => `(tactic| ((with_reducible refine use_number (ns := ?ns) ?h1 ?h2 ?h3 ?_); (case h1 => wtm_at "q"); (case h2 => wtm_at "nt"); (case h3 => omega); intro z hz))
/-! ### _law_odd -/
def spOdd (K : PySem.W.Frag) : Sp := fun vs H Q E => ∃ (a : Addr) (ns : List Int) (i : Int), vs = [.ref a, .int i] ∧ SqL K H a (ns.map V.int) ∧ NoT H ∧ 0 ≤ i ∧ ∀ z : Int, (1 ≤ z ∧ z < 2 ^ 140 ∧ z % 2 = 1) → Q (.int z) H
theorem ok_law_odd0 (T : Txt K mg Ad) : Def P w K mg base 2 "_law_odd" ["_law_script", "_law_k"] (fun vs H Q E => ∃ (a : Addr) (ns : List Int) (i : Nat), vs = [.ref a, .int i] ∧ SqL K H a (ns.map V.int) ∧ ∀ (z : Int) H', Same H H' → (1 ≤ z ∧ z < 2 ^ 140 ∧ z % 2 = 1) → Q (.int z) H') := by
  refine T.d_law_odd.ok sc_law_odd (fun vs H Q E h => ?_) (fun f cdv A outer s H vs Q E hr h => ?_)
  · obtain ⟨a, ns, i, rfl, _⟩ := h
    rfl
  · obtain ⟨a, ns, i, rfl, hS, q⟩ := h
    refine ⟨_, (pss_cons (ps_set (i := 2) sc_law_odd.nd rfl (Or.inl rfl) (pe_d (ok_law_pool T) (hr.mono (by decide)) (passes_call (takes_of rfl rfl rfl rfl) (fun _ _ _ _ h => h)) (pa_cons (pe_d (ok_law_cell T) (hr.mono (by decide)) (passes_call (takes_of rfl rfl rfl rfl) (fun _ _ _ _ h => h)) (pa_cons (pv 0) (pa_cons (pv 1) pa_nil))) pa_nil)))
      (pss_cons (ps_set (i := 3) sc_law_odd.nd rfl (Or.inl rfl) (pe_op op_add pe_int (pe_op op_mulB pe_int (pe_d (ok_law_take T) (hr.mono (by decide)) (passes_call (takes_of rfl rfl rfl rfl) (fun _ _ _ _ h => h)) (pa_cons (pv 2) (pa_cons pe_int pa_nil))))))
      (pss_cons (ps_if (pt_cmpR op_eq (pe_d (ok_law_take T) (hr.mono (by decide)) (passes_call (takes_of rfl rfl rfl rfl) (fun _ _ _ _ h => h)) (pa_cons (pv 2) (pa_cons pe_int pa_nil))) pe_int (nomark _)) (pss_one (ps_set (i := 3) sc_law_odd.nd rfl (Or.inl rfl) (pe_op op_add (pe_op op_mulB pe_int (pe_op op_mod (pe_callTy c_int1 (by rfl) T.b_int (by decide +kernel) (pa_cons (pe_d (ok_law_cell T) (hr.mono (by decide)) (passes_call (takes_of rfl rfl rfl rfl) (fun _ _ _ _ h => h)) (pa_cons (pv 0) (pa_cons (pv 1) pa_nil))) pa_nil)) (pe_op (op_powN 40) pe_int pe_int))) pe_int))) pss_nil)
      (pss_one (ps_ret (pv 3)))))), ?_⟩
    try dsimp only [cxOf]
    wtm_at "ra"
    all_goals exact q _ _ (by wtm_at "sm") ⟨by omega, by omega, by omega⟩
theorem ok_law_odd (T : Txt K mg Ad) : Def P w K mg base 2 "_law_odd" ["_law_script", "_law_k"] (spOdd K) :=
  (ok_law_odd0 T).forget.imp fun vs H Q E ⟨a, ns, i, e, hS, nt, hi, q⟩ => ⟨nt, a, ns, i.toNat, by rw [e, Int.toNat_of_nonneg hi], hS, fun z H' sm hz => ⟨sm, q z hz⟩⟩
theorem use_odd {a : Addr} {ns : List Int} {i : Int} {H : Hp} {Q : VK} {E : XK} (hS : SqL K H a (ns.map V.int)) (nt : NoT H) (hi : 0 ≤ i) (q : ∀ z : Int, (1 ≤ z ∧ z < 2 ^ 140 ∧ z % 2 = 1) → Q (.int z) H) : spOdd K [.ref a, .int i] H Q E := ⟨a, ns, i, rfl, hS, nt, hi, q⟩
local macro_rules | `(tactic| wtm_at "s") => `(tactic| ((with_reducible refine use_odd (ns := ?ns) ?h1 ?h2 ?h3 ?_); (case h1 => wtm_at "q"); (case h2 => wtm_at "nt"); (case h3 => omega); intro z hz))
/-! ### chain -/
def spChain (C : Addr) : Sp := fun vs H Q E => ∃ (n m : Int), vs = [.int n, .int m] ∧ NoT H ∧ m < 2 ^ 250 ∧ (m < 1 ∨ m % 2 = 0 → ∀ d, H d = none → E (.ref C) (some d) (upd H d (.xd [("modulus", .int m)]))) ∧
  (1 ≤ m → m % 2 = 1 → ∀ p H' ts, Same H H' → NoT H' → H p = none → H' p = some (.lst (ts.map V.ref)) → LksAt H' ts (chainL n m) → Q (.ref p) H')
theorem ok_chain (T : Txt K mg Ad) : Def P w K mg base 4 "chain" ["n", "m"] (spChain Ad.c_BadModulus) := by
  refine T.d_chain.ok sc_chain (fun vs H Q E h => ?_) (fun f cdv A outer s H vs Q E hr h => ?_)
  · obtain ⟨n, m, rfl, _⟩ := h
    rfl
  · obtain ⟨n, m, rfl, nt, hm, qe, qo⟩ := h
    refine ⟨_, (pss_cons (ps_expr (pe_d (ok_checked_modulus T) (hr.mono (by decide)) (passes_call (takes_of rfl rfl rfl rfl) (fun _ _ _ _ h => h)) (pa_cons (pv 1) pa_nil)))
      (pss_cons (ps_set (i := 2) sc_chain.nd rfl (Or.inl rfl) (pe_lst pa_nil))
      (pss_cons (ps_while (passes_of rfl) (pt_not (pt_val (pe_d (ok_is_end T) (hr.mono (by decide)) (passes_call (takes_of rfl rfl rfl rfl) (fun _ _ _ _ h => h)) (pa_cons (pv 0) (pa_cons (pv 1) pa_nil))))) (pss_cons (ps_if (PW.pt (pw_or (pt_cmpR op_lt (pv 0) pe_int (nomark _)) (pw_or1 (pt_cmpR op_ge (pv 0) (pv 1) (nomark _))))) (pss_cons (ps_set (i := 3) sc_chain.nd rfl (Or.inl rfl) pe_str)
      (pss_one (ps_set (i := 4) sc_chain.nd rfl (Or.inl rfl) (pe_tup (pa_cons (pe_op op_mod (pv 0) (pv 1)) (pa_cons (pv 1) pa_nil)))))) (pss_one (ps_if (pt_cmpR op_eq (pe_op op_mod (pv 0) pe_int) pe_int (nomark _)) (pss_cons (ps_set (i := 3) sc_chain.nd rfl (Or.inl rfl) pe_str)
      (pss_one (ps_set (i := 4) sc_chain.nd rfl (Or.inl rfl) (pe_tup (pa_cons (pe_op op_fdivB (pv 0) pe_int) (pa_cons (pv 1) pa_nil)))))) (pss_cons (ps_set (i := 3) sc_chain.nd rfl (Or.inl rfl) pe_str)
      (pss_one (ps_set (i := 4) sc_chain.nd rfl (Or.inl rfl) (pe_tup (pa_cons (pv 1) (pa_cons (pv 0) pa_nil)))))))))
      (pss_cons (ps_expr (pe_bm PySem.F.plainAttrs_list PySem.F.slot_list_append PySem.F.type_list_append mt_append (pv 2) (pa_cons (pe_tup (pa_cons (pv 3) (pa_cons (pe_ix ix_tup (pv 4) pe_int (fun _ _ => rfl)) (pa_cons (pe_ix ix_tup (pv 4) pe_int (fun _ _ => rfl)) (pa_cons (pe_d (ok_factor_of T) (hr.mono (by decide)) (passes_call (takes_of rfl rfl rfl rfl) (fun _ _ _ _ h => h)) (pa_cons (pv 3) (pa_cons (pv 0) (pa_cons (pv 1) pa_nil)))) pa_nil))))) pa_nil)))
      (pss_one (ps_asg (pv 4) (pg_tup rfl (pgs_cons (pg_name (i := 0) sc_chain.nd rfl (Or.inl rfl)) (pgs_cons (pg_name (i := 1) sc_chain.nd rfl (Or.inl rfl)) pgs_nil))))))))
      (pss_one (ps_ret (pv 2)))))), ?_⟩
    try dsimp only [cxOf]
    wtm_at "rs"
    refine ⟨m, rfl, qe, fun h1 h2 => ?_⟩
    wtm_at "rs"
    rename_i p hp
    refine rd_while (fun j σ H' => ∃ (a b : Int) (ts : List Addr) (ls : List Lk) (v3 v4 : Option V), σ = [some (.int a), some (.int b), some (.ref p), v3, v4] ∧ Same H H' ∧ NoT H' ∧ H' p = some (.lst (ts.map V.ref)) ∧ LksAt H' ts ls ∧
      ls.length + j = 2000 ∧ ls ++ chainF j a b = chainL n m ∧ 0 < b ∧ pot a b j) 2000
      ⟨n, m, [], [], none, none, rfl, same_new hp, NoT.upd nt rfl, upd_same, trivial, rfl, rfl, by omega, pot_start (by omega) hm⟩ ?_
    rintro j σ H' ⟨a, b, ts, ls, v3, v4, rfl, sm, nt', hp', hl, hj, hc, hb, hpot⟩
    wtm_at "rs"
    wtm_at "i"
    · rename_i hend
      obtain ⟨j, rfl⟩ : ∃ i, j = i + 1 := ⟨j - 1, by have := pot_pos hpot; omega⟩
      rw [chainF_step hend] at hc
      -- what the three branches leave
      have key : ∀ (rule : Str) (a' b' : Int) (q : Addr) (H2 : Hp), lkOf a b = ⟨rule, a', b', factorOf rule a b⟩ → 0 < b' → pot a' b' j → H' q = none → H2 = upd H' q (.tup [.int a', .int b']) →
          ∀ t, H2 t = none → ∃ m', m' < j + 1 ∧ ∃ (x y : Int) (ts' : List Addr) (ls' : List Lk) (v3 v4 : Option V), [some (V.int a'), some (V.int b'), some (V.ref p), some (V.str rule), some (V.ref q)] = [some (.int x), some (.int y), some (.ref p), v3, v4] ∧
            Same H (upd (upd H2 t (.tup [.str rule, .int a', .int b', .int (factorOf rule a b)])) p (.lst (ts.map V.ref ++ [V.ref t]))) ∧ NoT (upd (upd H2 t (.tup [.str rule, .int a', .int b', .int (factorOf rule a b)])) p (.lst (ts.map V.ref ++ [V.ref t]))) ∧
            (upd (upd H2 t (.tup [.str rule, .int a', .int b', .int (factorOf rule a b)])) p (.lst (ts.map V.ref ++ [V.ref t]))) p = some (.lst (ts'.map V.ref)) ∧
            LksAt (upd (upd H2 t (.tup [.str rule, .int a', .int b', .int (factorOf rule a b)])) p (.lst (ts.map V.ref ++ [V.ref t]))) ts' ls' ∧ ls'.length + m' = 2000 ∧ ls' ++ chainF m' x y = chainL n m ∧ 0 < y ∧ pot x y m' := by
        intro rule a' b' q H2 hk hb' hpot' hq e2 t ht
        subst e2
        have nq : p ≠ q := ne_of_none hp' hq
        have npt : p ≠ t := by
          intro z
          subst z
          rw [upd_ne nq, hp'] at ht
          cases ht
        have s1 : Same H' (upd H' q (.tup [.int a', .int b'])) := same_new hq
        have s2 := same_new (o := .tup [.str rule, .int a', .int b', .int (factorOf rule a b)]) ht
        have hp2 : (upd (upd H' q (.tup [.int a', .int b'])) t (.tup [.str rule, .int a', .int b', .int (factorOf rule a b)])) p = some (.lst (ts.map V.ref)) := s2 _ _ (s1 _ _ hp')
        refine ⟨j, Nat.lt_succ_self _, a', b', ts ++ [t], ls ++ [lkOf a b], _, _, rfl, same_upd2 (sm.trans (s1.trans s2)) hp, NoT.upd (NoT.upd (NoT.upd nt' rfl) rfl) rfl, ?_, ?_, ?_, ?_, hb', hpot'⟩
        · rw [upd_same, List.map_append]
          rfl
        · refine LksAt.other hp2 (LksAt.snoc ?_ (hl.mono (s1.trans s2)))
          rw [upd_same, hk]
          rfl
        · rw [List.length_append]
          simp only [List.length_cons, List.length_nil]
          omega
        · rw [hk] at hc
          rw [hk, List.append_assoc]
          exact hc
      have hlen : (ts.map V.ref).length < sizeLine := by
        rw [List.length_map, hl.len]
        exact Nat.lt_of_le_of_lt (m := 1000000) (by omega) (by decide)
      wtm_at "ra"
      all_goals subst_vars
      · exact key "rest" (a % b) b _ _ (by unfold lkOf stepOf; rw [if_pos (by omega)]) hb (pot_rest hb (by omega) hpot) (by assumption) rfl _ (by assumption)
      · exact key "rest" (a % b) b _ _ (by unfold lkOf stepOf; rw [if_pos (by omega)]) hb (pot_rest hb (by omega) hpot) (by assumption) rfl _ (by assumption)
      · exact key "two" (a / 2) b _ _ (by unfold lkOf stepOf; rw [if_neg (by omega), if_pos (by omega)]) hb (pot_two hb (by omega) (by omega) (by omega) hpot) (by assumption) rfl _ (by assumption)
      · exact key "turn" b a _ _ (by unfold lkOf stepOf; rw [if_neg (by omega), if_neg (by omega)]) (by omega) (pot_turn (by omega) (by omega) hpot) (by assumption) rfl _ (by assumption)
    · rename_i hend
      rw [chainF_end (by simpa using hend), List.append_nil] at hc
      wtm_at "rs"
      exact qo h1 h2 p H' ts sm nt' hp hp' (hc ▸ hl)
/-! ### law -/
theorem rd_neVopt {o : Option Int} {H : Hp} {Q : VK} (q : Q (.bl false) H) : rNe (vOpt o) (vOpt o) H Q := by
  have e : (!decide (vOpt o = vOpt o)) = false := by simp
  cases o with
  | none => exact ⟨rfl, by rw [e]; exact q⟩
  | some z => exact ⟨rfl, by rw [e]; exact q⟩
theorem rd_eqVopt {o : Option Int} {H : Hp} {Q : VK} (q : Q (.bl true) H) : rEq (vOpt o) (vOpt o) H Q := by
  have e : decide (vOpt o = vOpt o) = true := by simp
  cases o with
  | none => exact ⟨rfl, by rw [e]; exact q⟩
  | some z => exact ⟨rfl, by rw [e]; exact q⟩
theorem linkOk_rule {n m : Int} {l : Lk} (h : linkOk n m l = true) : PyData.strOk l.r = true := by
  have s1 : PyData.strOk ("rest" : Str) = true := by decide +kernel
  have s2 : PyData.strOk ("two" : Str) = true := by decide +kernel
  have s3 : PyData.strOk ("turn" : Str) = true := by decide +kernel
  have s4 : PyData.strOk ("minus" : Str) = true := by decide +kernel
  unfold linkOk at h
  split at h
  · cases h
  · split at h
    · rename_i e
      rw [e]
      exact s1
    · split at h
      · rename_i e
        rw [e]
        exact s2
      · split at h
        · rename_i e
          rw [e]
          exact s4
        · split at h
          · rename_i e
            rw [e]
            exact s3
          · cases h
theorem lks_shaped2 {ls : List Lk} (h : ∀ l ∈ ls, PyData.strOk l.r = true) : SeqAt.shaped (.list (ls.map lkD)) = true := shaped_list fun d hd => by
  obtain ⟨l, hl, rfl⟩ := List.mem_map.mp hd
  exact ⟨by simp [lkD, PyData.canLay0, PyData.canLayAll0, h l hl], by simp [lkD, PyData.depth, PyData.depthAll]⟩
theorem use_chain {C : Addr} {n m : Int} {H : Hp} {Q : VK} {E : XK} (nt : NoT H) (h1 : 1 ≤ m) (h2 : m % 2 = 1) (h3 : m < 2 ^ 250) (q : ∀ p H' ts, Same H H' → NoT H' → H p = none → H' p = some (.lst (ts.map V.ref)) → LksAt H' ts (chainL n m) → Q (.ref p) H') :
    spChain C [.int n, .int m] H Q E := ⟨n, m, rfl, nt, h3, fun h => by omega, fun _ _ => q⟩
theorem ok_law {f : Addr} {fd : FuncData} (F : Fun K "law" "law" s_law f fd) (T : Txt K mg Ad) : FnOk P w K mg base (L2.CX P w) 5 f fd ["_law_script"] (spLaw K) := by
  refine F.okX sc_law (fun vs H Q E h => ?_) (fun cdv A outer s H vs Q E hr h => ?_)
  · obtain ⟨a, ns, rfl, _⟩ := h
    rfl
  · obtain ⟨a, ns, rfl, hS, hlen, nt, k⟩ := h
    refine ⟨_, (pss_cons (ps_set (i := 1) sc_law.nd rfl (Or.inl rfl) (pe_d (ok_law_number T) (hr.mono (by decide)) (passes_call (takes_of rfl rfl rfl rfl) (fun _ _ _ _ h => h)) (pa_cons (pv 0) (pa_cons pe_int pa_nil))))
      (pss_cons (ps_set (i := 2) sc_law.nd rfl (Or.inl rfl) (pe_d (ok_law_odd T) (hr.mono (by decide)) (passes_call (takes_of rfl rfl rfl rfl) (fun _ _ _ _ h => h)) (pa_cons (pv 0) (pa_cons pe_int pa_nil))))
      (pss_cons (ps_set (i := 3) sc_law.nd rfl (Or.inl rfl) (pe_lst pa_nil))
      (pss_cons (ps_set (i := 4) sc_law.nd rfl (Or.inl rfl) (pe_lst (pa_cons (pv 1) (pa_cons (pv 2) pa_nil))))
      (pss_cons (ps_for (passes_of rfl) rfl (pi_list (pe_slice sl_list (pv 0) (po_some pe_int) (po_some pe_int))) (pg_name (i := 5) sc_law.nd rfl (Or.inl rfl)) (pss_cons (ps_set (i := 6) sc_law.nd rfl (Or.inl rfl) (pe_d (ok_law_drawn_link T) (hr.mono (by decide)) (passes_call (takes_of rfl rfl rfl rfl) (fun _ _ _ _ h => h)) (pa_cons (pe_d (ok_law_pool T) (hr.mono (by decide)) (passes_call (takes_of rfl rfl rfl rfl) (fun _ _ _ _ h => h)) (pa_cons (pv 5) pa_nil)) (pa_cons (pe_ix ix_list (pv 4) pe_int (fun _ _ => rfl)) (pa_cons (pe_ix ix_list (pv 4) pe_int (fun _ _ => rfl)) pa_nil)))))
      (pss_cons (ps_expr (pe_bm PySem.F.plainAttrs_list PySem.F.slot_list_append PySem.F.type_list_append mt_append (pv 3) (pa_cons (pv 6) pa_nil)))
      (pss_one (ps_set (i := 4) sc_law.nd rfl (Or.inl rfl) (pe_lst (pa_cons (pe_ix ix_tup (pv 6) pe_int (fun _ _ => rfl)) (pa_cons (pe_ix ix_tup (pv 6) pe_int (fun _ _ => rfl)) pa_nil))))))))
      (pss_cons (ps_set (i := 3) sc_law.nd rfl (Or.inl rfl) (pe_op op_cat (pv 3) (pe_d (ok_chain T) (hr.mono (by decide)) (passes_call (takes_of rfl rfl rfl rfl) (fun _ _ _ _ h => h)) (pa_cons (pe_ix ix_list (pv 4) pe_int (fun _ _ => rfl)) (pa_cons (pe_ix ix_list (pv 4) pe_int (fun _ _ => rfl)) pa_nil)))))
      (pss_cons (ps_set (i := 7) sc_law.nd rfl (Or.inl rfl) (pe_callTy c_listOf (by rfl) T.b_list (by decide +kernel) (pa_cons (pv 3) pa_nil)))
      (pss_cons (ps_if (PW.pt (pw_or (pt_cmpR op_ne (pe_d (ok_shown T) (hr.mono (by decide)) (passes_call (takes_of rfl rfl rfl rfl) (fun _ _ _ _ h => h)) (pa_cons (pv 1) (pa_cons (pv 2) (pa_cons (pv 3) pa_nil)))) (pe_d (ok_law_shown T) (hr.mono (by decide)) (passes_call (takes_of rfl rfl rfl rfl) (fun _ _ _ _ h => h)) (pa_cons (pv 1) (pa_cons (pv 2) (pa_cons (pv 3) pa_nil)))) (nomark _)) (pw_or (pt_cmpR op_isN (pe_d (ok_shown T) (hr.mono (by decide)) (passes_call (takes_of rfl rfl rfl rfl) (fun _ _ _ _ h => h)) (pa_cons (pv 1) (pa_cons (pv 2) (pa_cons (pv 3) pa_nil)))) pe_non (nomark _)) (pw_or1 (pt_cmpR (op_neD hr.units) (pv 3) (pv 7) (nomark _)))))) (pss_one (ps_ret pe_bl)) pss_nil)
      (pss_cons (ps_for (passes_of rfl) rfl (pi_range1 (by rfl) T.b_range (pa_cons (pe_callB (c_min2 rfl) (by rfl) T.b_min (by decide +kernel) (pa_cons (pe_callB c_len (by rfl) T.b_len PySem.boot_len (pa_cons (pv 3) pa_nil)) (pa_cons pe_int pa_nil))) pa_nil)) (pg_name (i := 8) sc_law.nd rfl (Or.inl rfl)) (pss_one (ps_if (pt_cmpR op_ne (pe_d (ok_shown T) (hr.mono (by decide)) (passes_call (takes_of rfl rfl rfl rfl) (fun _ _ _ _ h => h)) (pa_cons (pv 1) (pa_cons (pv 2) (pa_cons (pe_slice sl_list (pv 3) po_none (po_some (pv 8))) pa_nil)))) (pe_d (ok_law_shown T) (hr.mono (by decide)) (passes_call (takes_of rfl rfl rfl rfl) (fun _ _ _ _ h => h)) (pa_cons (pv 1) (pa_cons (pv 2) (pa_cons (pe_slice sl_list (pv 3) po_none (po_some (pv 8))) pa_nil)))) (nomark _)) (pss_one (ps_ret pe_bl)) pss_nil)))
      (pss_cons (ps_for (passes_of rfl) rfl (pi_list (pe_lst (pa_cons (pe_lst (pa_cons (pe_tup (pa_cons pe_str (pa_cons (pv 2) (pa_cons (pv 1) (pa_cons pe_int pa_nil))))) pa_nil)) (pa_cons (pe_lst (pa_cons (pe_tup (pa_cons pe_str (pa_cons (pv 2) (pa_cons (pv 1) (pa_cons (pe_un un_neg pe_int) pa_nil))))) pa_nil)) (pa_cons (pe_lst (pa_cons (pe_tup (pa_cons pe_str (pa_cons (pe_un un_neg (pv 1)) (pa_cons (pv 2) (pa_cons pe_int pa_nil))))) pa_nil)) (pa_cons (pe_lst (pa_cons (pe_tup (pa_cons pe_str (pa_cons (pv 1) (pa_cons (pv 2) (pa_cons pe_int pa_nil))))) pa_nil)) (pa_cons (pe_lst pa_nil) pa_nil))))))) (pg_name (i := 9) sc_law.nd rfl (Or.inl rfl)) (pss_cons (ps_set (i := 10) sc_law.nd rfl (Or.inl rfl) (pe_op op_cat (pv 9) (pe_d (ok_chain T) (hr.mono (by decide)) (passes_call (takes_of rfl rfl rfl rfl) (fun _ _ _ _ h => h)) (pa_cons (pe_op op_mod (pe_callTy c_int1 (by rfl) T.b_int (by decide +kernel) (pa_cons (pv 1) pa_nil)) (pv 2)) (pa_cons (pv 2) pa_nil)))))
      (pss_one (ps_if (PW.pt (pw_or (pt_cmpR op_ne (pe_d (ok_shown T) (hr.mono (by decide)) (passes_call (takes_of rfl rfl rfl rfl) (fun _ _ _ _ h => h)) (pa_cons (pv 1) (pa_cons (pv 2) (pa_cons (pv 9) pa_nil)))) (pe_d (ok_law_shown T) (hr.mono (by decide)) (passes_call (takes_of rfl rfl rfl rfl) (fun _ _ _ _ h => h)) (pa_cons (pv 1) (pa_cons (pv 2) (pa_cons (pv 9) pa_nil)))) (nomark _)) (pw_or1 (pt_cmpR op_ne (pe_d (ok_shown T) (hr.mono (by decide)) (passes_call (takes_of rfl rfl rfl rfl) (fun _ _ _ _ h => h)) (pa_cons (pv 1) (pa_cons (pv 2) (pa_cons (pv 10) pa_nil)))) (pe_d (ok_law_shown T) (hr.mono (by decide)) (passes_call (takes_of rfl rfl rfl rfl) (fun _ _ _ _ h => h)) (pa_cons (pv 1) (pa_cons (pv 2) (pa_cons (pv 10) pa_nil)))) (nomark _))))) (pss_one (ps_ret pe_bl)) pss_nil))))
      (pss_cons (ps_if (pt_cmpR (op_eqD hr.units) (pv 3) (pe_lst pa_nil) (nomark _)) (pss_one (ps_ret (pe_cmpR op_eq (pe_d (ok_shown T) (hr.mono (by decide)) (passes_call (takes_of rfl rfl rfl rfl) (fun _ _ _ _ h => h)) (pa_cons (pv 1) (pa_cons (pv 2) (pa_cons (pe_lst pa_nil) pa_nil)))) (pe_d (ok_law_shown T) (hr.mono (by decide)) (passes_call (takes_of rfl rfl rfl rfl) (fun _ _ _ _ h => h)) (pa_cons (pv 1) (pa_cons (pv 2) (pa_cons (pe_lst pa_nil) pa_nil)))) (nomark _)))) pss_nil)
      (pss_cons (ps_if (pt_cmpR op_notN (pe_d (ok_shown T) (hr.mono (by decide)) (passes_call (takes_of rfl rfl rfl rfl) (fun _ _ _ _ h => h)) (pa_cons pe_int (pa_cons pe_int (pa_cons (pe_lst (pa_cons (pe_tup (pa_cons pe_str (pa_cons pe_int (pa_cons pe_int (pa_cons pe_int pa_nil))))) (pa_cons (pe_tup (pa_cons pe_str (pa_cons pe_int (pa_cons pe_int (pa_cons pe_int pa_nil))))) pa_nil))) pa_nil)))) pe_non (nomark _)) (pss_one (ps_ret pe_bl)) pss_nil)
      (pss_cons (ps_set (i := 11) sc_law.nd rfl (Or.inl rfl) (pe_d (ok_law_pool T) (hr.mono (by decide)) (passes_call (takes_of rfl rfl rfl rfl) (fun _ _ _ _ h => h)) (pa_cons (pe_op op_add (pe_d (ok_law_cell T) (hr.mono (by decide)) (passes_call (takes_of rfl rfl rfl rfl) (fun _ _ _ _ h => h)) (pa_cons (pv 0) (pa_cons pe_int pa_nil))) pe_int) pa_nil)))
      (pss_cons (ps_for (passes_of rfl) rfl (pi_range1 (by rfl) T.b_range (pa_cons pe_int pa_nil)) (pg_name (i := 12) sc_law.nd rfl (Or.inl rfl)) (pss_cons (ps_set (i := 13) sc_law.nd rfl (Or.inl rfl) (pe_d (ok_law_changed T) (hr.mono (by decide)) (passes_call (takes_of rfl rfl rfl rfl) (fun _ _ _ _ h => h)) (pa_cons (pv 11) (pa_cons (pv 3) (pa_cons (pv 1) (pa_cons (pv 2) pa_nil))))))
      (pss_one (ps_if (pt_cmpR op_ne (pe_d (ok_shown T) (hr.mono (by decide)) (passes_call (takes_of rfl rfl rfl rfl) (fun _ _ _ _ h => h)) (pa_cons (pv 1) (pa_cons (pv 2) (pa_cons (pv 13) pa_nil)))) (pe_d (ok_law_shown T) (hr.mono (by decide)) (passes_call (takes_of rfl rfl rfl rfl) (fun _ _ _ _ h => h)) (pa_cons (pv 1) (pa_cons (pv 2) (pa_cons (pv 13) pa_nil)))) (nomark _)) (pss_one (ps_ret pe_bl)) pss_nil))))
      (pss_one (ps_ret pe_bl)))))))))))))))), ?_⟩
    try dsimp only [cxOf]
    wtm_at "rs"
    rename_i n hn m hm L hL P0 hP0 S hS0
    obtain ⟨ms, hms, _⟩ := cut_map (f := V.int) (l := ns) (lo := some 2) (hi := some 10)
    have hml : ms.length ≤ 8 := by
      have := cut_len (xs := ns.map V.int) (lo := 2) (hi := 10) (by decide) (by decide)
      rw [hms, List.length_map] at this
      omega
    rw [hms] at *
    obtain ⟨hm1, hm2, hm3⟩ := hm
    have hLP : L ≠ P0 := by
      rintro rfl
      rw [upd_same] at hP0
      cases hP0
    have hLS : L ≠ S := by
      rintro rfl
      rw [upd_ne hLP, upd_same] at hS0
      cases hS0
    refine rd_forL (xs := ms.map V.int) (fun i σ H' => ∃ (P : Addr) (x y z : Int) (ts : List Addr) (ls : List Lk) (v5 v6 : Option V), σ = [some (.ref a), some (.int n), some (.int m), some (.ref L), some (.ref P), v5, v6, none, none, none, none, none, none, none] ∧ Same H H' ∧ NoT H' ∧
      H' S = some (.lst (ms.map V.int)) ∧ H' L = some (.lst (ts.map V.ref)) ∧ LksAt H' ts ls ∧ ls.length = i ∧ H' P = some (.lst [.int x, .int y]) ∧ P ≠ L ∧ 0 < y ∧ y % 2 = 1 ∧ -(2 ^ 142 * 4 ^ i) < x ∧ x < 2 ^ 142 * 4 ^ i ∧ y < 2 ^ 142 * 4 ^ i ∧
      (∀ rest, shownL 1 n m (ls ++ rest) = shownL z x y rest) ∧ (∀ l ∈ ls, PyData.strOk l.r = true))
      ⟨P0, n, m, 1, [], [], _, _, rfl, by wtm_at "sm", by wtm_at "nt", upd_same, by show _ = some (HO.lst []); wtm_at "h", trivial, rfl, by wtm_at "h", hLP.symm, by omega, hm3, by omega, by omega, by omega, fun rest => rfl, fun l hl => absurd hl List.not_mem_nil⟩ (fun i σ H' _ ⟨_, _, _, _, _, _, _, _, _, _, _, hs, _⟩ => SqL.of hs) ?_ ?_
    · rintro i u σ H' hi ⟨P, x, y, z, ts, ls, v5, v6, rfl, sm, nt', hs, hl, hks, hlen', hP, hPL, y0, y1, x0, x1, y2, hsh, hst⟩
      rw [List.getElem?_map] at hi
      obtain ⟨c, hc, rfl⟩ := Option.map_eq_some_iff.mp hi
      have hil := (List.getElem?_eq_some_iff.mp hc).1
      have h48 : (4 : Int) ^ i ≤ 4 ^ 8 := by
        have := Nat.pow_le_pow_right (show 0 < 4 by decide) (show i ≤ 8 by omega)
        exact_mod_cast this
      have h48' : (4 : Int) ^ 8 = 65536 := by decide
      wtm_at "rs"
      rename_i q hq
      refine use_drawnL (M := 2 ^ 142 * 4 ^ i) upd_same (by wtm_at "nt") y0 y1 y2 (by omega) x0 x1 fun l t H2 lok l0 l1 l2 l3 l4 tr nt2 ht => ?_
      obtain ⟨sm2, htf⟩ := tr H' (same_new hq) hq
      have hl2 := sm2 _ _ hl
      have hs2 := sm2 _ _ hs
      have hks2 := hks.mono sm2
      have smB := sm.trans sm2
      have hLn : H L = none := hL
      have htL : t ≠ L := ne_of ht hl2 (by intro z; cases z)
      have hSL : S ≠ L := hLS.symm
      have hpos := linkOk_pos lok y0
      have hrule := linkOk_rule lok
      have hroom : (ts.map V.ref).length < 1000 := by
        rw [List.length_map, hks.len]
        omega
      have e4 : (2 : Int) ^ 142 * 4 ^ (i + 1) = 4 * (2 ^ 142 * 4 ^ i) := by
        rw [Int.pow_succ]
        omega
      have hsh2 : ∀ rest, shownL 1 n m ((ls ++ [l]) ++ rest) = shownL (z * l.f) l.n l.m rest := fun rest => by
        rw [List.append_assoc, hsh]
        show shownL z x y (l :: rest) = _
        rw [shownL, if_pos lok]
      have ht' : H2 t = some (.tup [.str l.r, .int l.n, .int l.m, .int l.f]) := ht
      wtm_at "rs"
      rename_i P2 hP2
      have hP2L : P2 ≠ L := by
        rintro rfl
        rw [upd_same] at hP2
        cases hP2
      refine ⟨P2, l.n, l.m, z * l.f, ts ++ [t], ls ++ [l], _, _, rfl, by wtm_at "sm", by wtm_at "nt", by wtm_at "h", ?_, ?_, by rw [List.length_append, hlen']; rfl, upd_same, hP2L, l0, l1, by rw [e4]; exact l2, by rw [e4]; exact l3, by rw [e4]; exact l4, hsh2, fun l' hl' => ?_⟩
      · rw [List.map_append]
        show _ = some (HO.lst (ts.map V.ref ++ [V.ref t]))
        wtm_at "h"
      · have h1 : LksAt (upd H2 L (.lst (ts.map V.ref ++ [V.ref t]))) (ts ++ [t]) (ls ++ [l]) := LksAt.other hl2 (LksAt.snoc ht hks2)
        exact h1.mono (same_new hP2)
      · rcases List.mem_append.mp hl' with h | h
        · exact hst l' h
        · rw [List.mem_singleton.mp h]
          exact hrule
    rintro σ H1 ⟨P, x, y, z, ts, ls, v5, v6, rfl, sm, nt', hs, hl, hks, hlen', hP, hPL, y0, y1, x0, x1, y2, hsh, hst⟩
    rw [List.length_map] at hlen' x0 x1 y2
    have h48 : (4 : Int) ^ ms.length ≤ 4 ^ 8 := by
      have := Nat.pow_le_pow_right (show 0 < 4 by decide) hml
      exact_mod_cast this
    have h48' : (4 : Int) ^ 8 = 65536 := by decide
    wtm_at "rs"
    refine use_chain nt' (by omega) y1 (by omega) fun C H2 tc sm2 nt2 hC hCl hCk => ?_
    have hl2 := sm2 _ _ hl
    have hLC : L ≠ C := ne_of_none hl hC
    have roomA : (ts.map V.ref).length ≤ 8 := by
      rw [List.length_map, hks.len]
      omega
    have roomB : (tc.map V.ref).length ≤ 2000 := by
      rw [List.length_map, hCk.len]
      exact chainF_len 2000 x y
    refine rd_cat hl2 hCl (room2 roomA roomB (by decide)) fun R hR => ?_
    have hall : LksAt (upd H2 R (.lst (ts.map V.ref ++ tc.map V.ref))) (ts ++ tc) (ls ++ chainL x y) := ((hks.mono sm2).app hCk).mono (same_new hR)
    have hRl : (upd H2 R (.lst (ts.map V.ref ++ tc.map V.ref))) R = some (.lst ((ts ++ tc).map V.ref)) := by
      rw [upd_same, List.map_append]
    have hshA : shownL 1 n m (ls ++ chainL x y) = some (z * sgn x y) := by
      rw [hsh]
      exact shown_chain 2000 z x y y0 y1 (pot_start y0 (by omega))
    have hstA : ∀ l ∈ ls ++ chainL x y, PyData.strOk l.r = true := fun l hl => by
      rcases List.mem_append.mp hl with h | h
      · exact hst l h
      · have s1 : PyData.strOk ("rest" : Str) = true := by decide +kernel
        have s2 : PyData.strOk ("two" : Str) = true := by decide +kernel
        have s3 : PyData.strOk ("turn" : Str) = true := by decide +kernel
        rcases chain_rule _ _ _ _ h with e | e | e <;> rw [e] <;> assumption
    have smR : Same H (upd H2 R (.lst (ts.map V.ref ++ tc.map V.ref))) := sm.trans (sm2.trans (same_new hR))
    have ntR : NoT (upd H2 R (.lst (ts.map V.ref ++ tc.map V.ref))) := NoT.upd nt2 rfl
    have hlenA : ((ts ++ tc).map V.ref).length ≤ 3000 := by
      rw [List.map_append, List.length_append]
      omega
    generalize upd H2 R (.lst (ts.map V.ref ++ tc.map V.ref)) = H3 at *
    generalize ls ++ chainL x y = LL at *
    generalize ts ++ tc = TT at *
    clear hks hsh hst hCk hCl hl2 hs hl hP sm sm2 nt' nt2
    wtm_at "rs"
    rename_i K1 hK1
    have smK := same_new (o := HO.lst (TT.map V.ref)) hK1
    have hR4 := smK _ _ hRl
    have hK4 : (upd H3 K1 (.lst (TT.map V.ref))) K1 = some (.lst (TT.map V.ref)) := upd_same
    have hk4 := hall.mono smK
    have sm4 := smR.trans smK
    have nt4 : NoT (upd H3 K1 (.lst (TT.map V.ref))) := NoT.upd ntR rfl
    generalize upd H3 K1 (.lst (TT.map V.ref)) = H4 at *
    clear hall hRl smR ntR smK
    have m1 : 1 ≤ m := by omega
    have m0 : 0 < m := by omega
    refine use_shown (SqL.of hR4) hk4 nt4 m1 hm3 ?_
    wtm_at "rs"
    refine use_law_shown (SqL.of hR4) hk4 nt4 m0 ?_
    wtm_at "rs"
    refine rd_neVopt ?_
    wtm_at "rs"
    refine use_shown (SqL.of hR4) hk4 nt4 m1 hm3 ?_
    rw [hshA, vOpt_some]
    wtm_at "rs"
    refine rd_neSame (d := .list (LL.map lkD)) (dp_lks (SqL.of hR4) hk4) (dp_lks (SqL.of hK4) hk4) (lks_shaped2 hstA) ?_
    wtm_at "rs"
    refine rd_forR (fun i σ H5 => ∃ (v8 : Option V), σ = [some (.ref a), some (.int n), some (.int m), some (.ref R), some (.ref P), v5, v6, some (.ref K1), v8, none, none, none, none, none] ∧ Same H4 H5 ∧ NoT H5) ⟨_, rfl, Same.refl _, nt4⟩ ?_ ?_
    · rintro i σ H5 hi ⟨v8, rfl, sm5, nt5⟩
      have hR5 := sm5 _ _ hR4
      obtain ⟨us, ms', hus, hums⟩ := LkL.cut (lo := none) (hi := some ((0 : Int) + (i : Int))) ⟨TT, LL, rfl, hk4.mono sm5⟩
      wtm_at "rs"
      rename_i X hX
      rw [hus]
      refine use_shown (SqL.of upd_same) (hums.mono (same_new hX)) (by wtm_at "nt") m1 hm3 ?_
      wtm_at "rs"
      rename_i Y hY
      rw [hus]
      refine use_law_shown (SqL.of upd_same) ((hums.mono (same_new hX)).mono (same_new hY)) (by wtm_at "nt") m0 ?_
      wtm_at "rs"
      refine rd_neVopt ?_
      wtm_at "rs"
      exact ⟨_, rfl, by wtm_at "sm", by wtm_at "nt"⟩
    rintro σ H5 ⟨v8, rfl, sm5, nt5⟩
    have hR5 := sm5 _ _ hR4
    have hk5 := hk4.mono sm5
    have sm6 := sm4.trans sm5
    clear hR4 hK4 hk4 sm4 sm5 nt4
    wtm_at "rs"
    rename_i t1 ht1 l1 hl1 t2 ht2 l2 hl2 t3 ht3 l3 hl3 t4 ht4 l4 hl4 l5 hl5 O hO
    refine rd_forL (xs := [.ref l1, .ref l2, .ref l3, .ref l4, .ref l5]) (fun i σ H6 => ∃ (v9 v10 : Option V), σ = [some (.ref a), some (.int n), some (.int m), some (.ref R), some (.ref P), v5, v6, some (.ref K1), v8, v9, v10, none, none, none] ∧ Same _ H6 ∧ NoT H6) ⟨_, _, rfl, Same.refl _, by wtm_at "nt"⟩ (fun i σ H6 _ ⟨_, _, _, sm7, _⟩ => sm7.seq (SqL.of upd_same)) ?_ ?_
    · rintro i u σ H6 hi ⟨v9, v10, rfl, sm7, nt6⟩
      obtain ⟨q, qs, ql, rfl, hq, hql, hqn⟩ : ∃ (q : Addr) (qs : List Addr) (ql : List Lk), u = .ref q ∧ H6 q = some (.lst (qs.map V.ref)) ∧ LksAt H6 qs ql ∧ (qs.map V.ref).length ≤ 1 := by
        match i, hi with
        | 0, hi =>
          cases hi
          exact ⟨l1, [t1], [⟨_, _, _, _⟩], rfl, sm7 _ _ (by show _ = some (HO.lst [V.ref t1]); wtm_at "h"), ⟨sm7 _ _ (show _ = some (HO.tup [.str _, .int _, .int _, .int _]) by wtm_at "h"), trivial⟩, Nat.le_refl 1⟩
        | 1, hi =>
          cases hi
          exact ⟨l2, [t2], [⟨_, _, _, _⟩], rfl, sm7 _ _ (by show _ = some (HO.lst [V.ref t2]); wtm_at "h"), ⟨sm7 _ _ (show _ = some (HO.tup [.str _, .int _, .int _, .int _]) by wtm_at "h"), trivial⟩, Nat.le_refl 1⟩
        | 2, hi =>
          cases hi
          exact ⟨l3, [t3], [⟨_, _, _, _⟩], rfl, sm7 _ _ (by show _ = some (HO.lst [V.ref t3]); wtm_at "h"), ⟨sm7 _ _ (show _ = some (HO.tup [.str _, .int _, .int _, .int _]) by wtm_at "h"), trivial⟩, Nat.le_refl 1⟩
        | 3, hi =>
          cases hi
          exact ⟨l4, [t4], [⟨_, _, _, _⟩], rfl, sm7 _ _ (by show _ = some (HO.lst [V.ref t4]); wtm_at "h"), ⟨sm7 _ _ (show _ = some (HO.tup [.str _, .int _, .int _, .int _]) by wtm_at "h"), trivial⟩, Nat.le_refl 1⟩
        | 4, hi =>
          cases hi
          exact ⟨l5, [], [], rfl, sm7 _ _ (by show _ = some (HO.lst []); wtm_at "h"), trivial, Nat.zero_le 1⟩
        | i + 5, hi => cases hi
      wtm_at "rs"
      refine use_chain nt6 m1 hm3 (by omega) fun C2 H7 tc2 sm8 nt7 hC2 hCl2 hCk2 => ?_
      have hq7 := sm8 _ _ hq
      have hql7 := hql.mono sm8
      refine rd_cat hq7 hCl2 (room2 hqn (show (tc2.map V.ref).length ≤ 2000 by rw [List.length_map, hCk2.len]; exact chainF_len 2000 _ _) (by decide)) fun R2 hR2 => ?_
      rw [← List.map_append]
      have hall2 := (hql7.app hCk2).mono (same_new (o := HO.lst ((qs ++ tc2).map V.ref)) hR2)
      have hql8 := hql7.mono (same_new (o := HO.lst ((qs ++ tc2).map V.ref)) hR2)
      have hq8 := same_new (o := HO.lst ((qs ++ tc2).map V.ref)) hR2 _ _ hq7
      have hR8 : (upd H7 R2 (.lst ((qs ++ tc2).map V.ref))) R2 = some (.lst ((qs ++ tc2).map V.ref)) := upd_same
      have nt8 : NoT (upd H7 R2 (.lst ((qs ++ tc2).map V.ref))) := NoT.upd nt7 rfl
      have sm9 := sm7.trans (sm8.trans (same_new (o := HO.lst ((qs ++ tc2).map V.ref)) hR2))
      generalize upd H7 R2 (.lst ((qs ++ tc2).map V.ref)) = H8 at *
      wtm_at "rs"
      refine use_shown (SqL.of hq8) hql8 nt8 m1 hm3 ?_
      wtm_at "rs"
      refine use_law_shown (SqL.of hq8) hql8 nt8 m0 ?_
      wtm_at "rs"
      refine rd_neVopt ?_
      wtm_at "rs"
      refine use_shown (SqL.of hR8) hall2 nt8 m1 hm3 ?_
      wtm_at "rs"
      refine use_law_shown (SqL.of hR8) hall2 nt8 m0 ?_
      wtm_at "rs"
      refine rd_neVopt ?_
      wtm_at "rs"
      exact ⟨_, _, rfl, sm9, nt8⟩
    rintro σ H6 ⟨v9, v10, rfl, sm7, nt6⟩
    have sm56 : Same H5 H6 := Same.trans (by wtm_at "sm") sm7
    have hR6 := sm56 _ _ hR5
    have hk6 := hk5.mono sm56
    have smZ := sm6.trans sm56
    clear sm7 hR5 hk5 sm6 sm56 ht1 hl1 ht2 hl2 ht3 hl3 ht4 hl4 hl5 hO
    wtm_at "rs"
    rename_i e0 he0
    have heq : PyData.eqv (.list (LL.map lkD)) (.list []) = LL.isEmpty := by
      cases LL <;> simp [PyData.eqv, PyData.eqvAll]
    have hk7 := hk6.mono (same_new (o := HO.lst []) he0)
    refine ⟨_, _, dp_lks (SqL.of (by wtm_at "h")) hk7, .lst (SqL.of upd_same) .nil, lks_shaped2 hstA, rfl, ?_⟩
    rw [heq]
    wtm_at "rs"
    wtm_at "i"
    · rename_i hemp
      wtm_at "rs"
      refine use_shown (ts := []) (ls := []) (SqL.of upd_same) trivial (by wtm_at "nt") m1 hm3 ?_
      wtm_at "rs"
      refine use_law_shown (ts := []) (ls := []) (SqL.of upd_same) trivial (by wtm_at "nt") m0 ?_
      wtm_at "rs"
      exact rd_eqVopt (k _)
    · rename_i hemp
      wtm_at "rs"
      rename_i ta hta tb htb tl htl
      have hnone : shownL 1 2 3 [⟨"turn", 3, 2, 1⟩, ⟨"rest", 1, 2, 1⟩] = none := by decide +kernel
      refine use_shown (ts := [ta, tb]) (ls := [⟨"turn", 3, 2, 1⟩, ⟨"rest", 1, 2, 1⟩]) (SqL.of upd_same) ⟨?_, ?_, trivial⟩ (by wtm_at "nt") (by decide) (by decide) ?_
      · show _ = some (HO.tup [.str _, .int _, .int _, .int _])
        wtm_at "h"
      · show _ = some (HO.tup [.str _, .int _, .int _, .int _])
        wtm_at "h"
      rw [hnone, vOpt_none]
      have sm67 : Same H6 (upd (upd (upd (upd H6 e0 (.lst [])) ta (.tup [.str "turn", .int 3, .int 2, .int 1])) tb (.tup [.str "rest", .int 1, .int 2, .int 1])) tl (.lst [.ref ta, .ref tb])) := by wtm_at "sm"
      have nt7 : NoT (upd (upd (upd (upd H6 e0 (.lst [])) ta (.tup [.str "turn", .int 3, .int 2, .int 1])) tb (.tup [.str "rest", .int 1, .int 2, .int 1])) tl (.lst [.ref ta, .ref tb])) := by wtm_at "nt"
      generalize (upd (upd (upd (upd H6 e0 (.lst [])) ta (.tup [.str "turn", .int 3, .int 2, .int 1])) tb (.tup [.str "rest", .int 1, .int 2, .int 1])) tl (.lst [.ref ta, .ref tb])) = H7 at *
      have hR7 := sm67 _ _ hR6
      have hk8 := hk6.mono sm67
      have hS7 := smZ.seq hS
      have hS8 := sm67.seq hS7
      have hpos : 0 < (TT.map V.ref).length := by
        rw [List.length_map, hk8.len]
        cases LL with
        | nil => cases hemp
        | cons _ _ => exact Nat.succ_pos _
      clear hR6 hk6 hk7 he0 hta htb htl hS7
      wtm_at "rs"
      rename_i pl hpl
      have hRpl : R ≠ pl := ne_of_none hR7 hpl
      refine rd_forR (fun i σ H8 => ∃ (v12 v13 : Option V), σ = [some (.ref a), some (.int n), some (.int m), some (.ref R), some (.ref P), v5, v6, some (.ref K1), v8, v9, v10, some (.ref pl), v12, v13] ∧ PoolAt H8 pl (5 * (i : Int)) ∧ NoT H8 ∧ H8 R = some (.lst (TT.map V.ref)) ∧ LkL H8 (TT.map V.ref))
        ⟨_, _, rfl, ⟨_, _, _, upd_same, by omega, by omega⟩, by wtm_at "nt", by wtm_at "h", ⟨TT, LL, rfl, hk8.mono (same_new hpl)⟩⟩ ?_ ?_
      · rintro i σ H8 hi ⟨v12, v13, rfl, hpool, nt8, hR8, hlk8⟩
        have hi9 : i < 9 := hi
        wtm_at "rs"
        refine use_changed hpool (by omega) hR8 hRpl hlk8 hpos (by omega) nt8 fun Y ys H9 tr nt9 hpool9 hR9 hlk9 hY hYl => ?_
        obtain ⟨us, ls', rfl, hus⟩ := hYl
        wtm_at "rs"
        refine use_shown (SqL.of hY) hus nt9 m1 hm3 ?_
        wtm_at "rs"
        refine use_law_shown (SqL.of hY) hus nt9 m0 ?_
        wtm_at "rs"
        refine rd_neVopt ?_
        wtm_at "rs"
        obtain ⟨c', k', b', g1, g2, g3⟩ := hpool9
        exact ⟨_, _, rfl, ⟨c', k', b', g1, g2, by omega⟩, nt9, hR9, hlk9⟩
      · rintro σ H8 ⟨v12, v13, rfl, _⟩
        wtm_at "rs"
        exact k _
end
/-! ## what the top has left, and the end -/
theorem all_mk {P : Program} {w : World} {K : PySem.W.Frag} {h : Heap} {mg : Str → Option Value} {fa : Addr} (X : K.In h) (G : h.Ns mainGlobals mg) (hfa : mg "law" = some (.ref fa))
    {f0 : Addr} {od0 an0 : Option Addr} {sl0 : Array (Option Value)} {oc0 kV0 dc0 pm0 cd0 ct0 : Value}
    {f1 : Addr} {od1 an1 : Option Addr} {sl1 : Array (Option Value)} {oc1 kV1 dc1 pm1 cd1 ct1 : Value}
    {f2 : Addr} {od2 an2 : Option Addr} {sl2 : Array (Option Value)} {oc2 kV2 dc2 pm2 cd2 ct2 : Value}
    {f3 : Addr} {od3 an3 : Option Addr} {sl3 : Array (Option Value)} {oc3 kV3 dc3 pm3 cd3 ct3 : Value}
    {f4 : Addr} {od4 an4 : Option Addr} {sl4 : Array (Option Value)} {oc4 kV4 dc4 pm4 cd4 ct4 : Value}
    {f5 : Addr} {od5 an5 : Option Addr} {sl5 : Array (Option Value)} {oc5 kV5 dc5 pm5 cd5 ct5 : Value}
    {f6 : Addr} {od6 an6 : Option Addr} {sl6 : Array (Option Value)} {oc6 kV6 dc6 pm6 cd6 ct6 : Value}
    {f7 : Addr} {od7 an7 : Option Addr} {sl7 : Array (Option Value)} {oc7 kV7 dc7 pm7 cd7 ct7 : Value}
    {f8 : Addr} {od8 an8 : Option Addr} {sl8 : Array (Option Value)} {oc8 kV8 dc8 pm8 cd8 ct8 : Value}
    {f9 : Addr} {od9 an9 : Option Addr} {sl9 : Array (Option Value)} {oc9 kV9 dc9 pm9 cd9 ct9 : Value}
    {f10 : Addr} {od10 an10 : Option Addr} {sl10 : Array (Option Value)} {oc10 kV10 dc10 pm10 cd10 ct10 : Value}
    {f11 : Addr} {od11 an11 : Option Addr} {sl11 : Array (Option Value)} {oc11 kV11 dc11 pm11 cd11 ct11 : Value}
    {f12 : Addr} {od12 an12 : Option Addr} {sl12 : Array (Option Value)} {oc12 kV12 dc12 pm12 cd12 ct12 : Value}
    {f13 : Addr} {od13 an13 : Option Addr} {sl13 : Array (Option Value)} {oc13 kV13 dc13 pm13 cd13 ct13 : Value}
    {f14 : Addr} {od14 an14 : Option Addr} {sl14 : Array (Option Value)} {oc14 kV14 dc14 pm14 cd14 ct14 : Value}
    {f15 : Addr} {od15 an15 : Option Addr} {sl15 : Array (Option Value)} {oc15 kV15 dc15 pm15 cd15 ct15 : Value}
    {f16 : Addr} {od16 an16 : Option Addr} {sl16 : Array (Option Value)} {oc16 kV16 dc16 pm16 cd16 ct16 : Value}
    {f17 : Addr} {od17 an17 : Option Addr} {sl17 : Array (Option Value)} {oc17 kV17 dc17 pm17 cd17 ct17 : Value}
    {CB : Addr}
    {C0 g0 N0 : Addr} {nm0 qq0 : Str} {bs0 bm0 : List Value} {sn0 : List Str} {sub0 : List Value} {ab0 : Bool} {col0 : Option Bool} {dd0 : Option Addr} {m00 m10 m20 m30 m50 : Option Value} {odE0 anE0 : Option Addr} {slE0 : Array (Option Value)} {ocE0 kVE0 dcE0 pmE0 cdE0 ctE0 : Value}
    (z_int : PySem.W.nsIn K mainGlobals "int" = some none)
    (z_len : PySem.W.nsIn K mainGlobals "len" = some none)
    (z_list : PySem.W.nsIn K mainGlobals "list" = some none)
    (z_min : PySem.W.nsIn K mainGlobals "min" = some none)
    (z_range : PySem.W.nsIn K mainGlobals "range" = some none)
    (a0 : PySem.W.nsIn K mainGlobals "checked_modulus" = some (some (.ref f0)))
    (l0 : K.lookup f0 = some ⟨oc0, od0, .func (PySem.W.fnOf "checked_modulus" "checked_modulus" (defArgs s_checked_modulus) (defBody s_checked_modulus) (defScope s_checked_modulus) .none kV0 dc0 pm0 an0 cd0 ct0), sl0⟩)
    (c0 : PySem.W.codeIn K cd0 "checked_modulus" = true)
    (k0 : PySem.W.keepIn K (.ref f0) = true)
    (a1 : PySem.W.nsIn K mainGlobals "end_sign" = some (some (.ref f1)))
    (l1 : K.lookup f1 = some ⟨oc1, od1, .func (PySem.W.fnOf "end_sign" "end_sign" (defArgs s_end_sign) (defBody s_end_sign) (defScope s_end_sign) .none kV1 dc1 pm1 an1 cd1 ct1), sl1⟩)
    (c1 : PySem.W.codeIn K cd1 "end_sign" = true)
    (k1 : PySem.W.keepIn K (.ref f1) = true)
    (a2 : PySem.W.nsIn K mainGlobals "is_end" = some (some (.ref f2)))
    (l2 : K.lookup f2 = some ⟨oc2, od2, .func (PySem.W.fnOf "is_end" "is_end" (defArgs s_is_end) (defBody s_is_end) (defScope s_is_end) .none kV2 dc2 pm2 an2 cd2 ct2), sl2⟩)
    (c2 : PySem.W.codeIn K cd2 "is_end" = true)
    (k2 : PySem.W.keepIn K (.ref f2) = true)
    (a3 : PySem.W.nsIn K mainGlobals "factor_of" = some (some (.ref f3)))
    (l3 : K.lookup f3 = some ⟨oc3, od3, .func (PySem.W.fnOf "factor_of" "factor_of" (defArgs s_factor_of) (defBody s_factor_of) (defScope s_factor_of) .none kV3 dc3 pm3 an3 cd3 ct3), sl3⟩)
    (c3 : PySem.W.codeIn K cd3 "factor_of" = true)
    (k3 : PySem.W.keepIn K (.ref f3) = true)
    (a4 : PySem.W.nsIn K mainGlobals "link_right" = some (some (.ref f4)))
    (l4 : K.lookup f4 = some ⟨oc4, od4, .func (PySem.W.fnOf "link_right" "link_right" (defArgs s_link_right) (defBody s_link_right) (defScope s_link_right) .none kV4 dc4 pm4 an4 cd4 ct4), sl4⟩)
    (c4 : PySem.W.codeIn K cd4 "link_right" = true)
    (k4 : PySem.W.keepIn K (.ref f4) = true)
    (a5 : PySem.W.nsIn K mainGlobals "shown" = some (some (.ref f5)))
    (l5 : K.lookup f5 = some ⟨oc5, od5, .func (PySem.W.fnOf "shown" "shown" (defArgs s_shown) (defBody s_shown) (defScope s_shown) .none kV5 dc5 pm5 an5 cd5 ct5), sl5⟩)
    (c5 : PySem.W.codeIn K cd5 "shown" = true)
    (k5 : PySem.W.keepIn K (.ref f5) = true)
    (a6 : PySem.W.nsIn K mainGlobals "_law_factor" = some (some (.ref f6)))
    (l6 : K.lookup f6 = some ⟨oc6, od6, .func (PySem.W.fnOf "_law_factor" "_law_factor" (defArgs s_law_factor) (defBody s_law_factor) (defScope s_law_factor) .none kV6 dc6 pm6 an6 cd6 ct6), sl6⟩)
    (c6 : PySem.W.codeIn K cd6 "_law_factor" = true)
    (k6 : PySem.W.keepIn K (.ref f6) = true)
    (a7 : PySem.W.nsIn K mainGlobals "_law_link_right" = some (some (.ref f7)))
    (l7 : K.lookup f7 = some ⟨oc7, od7, .func (PySem.W.fnOf "_law_link_right" "_law_link_right" (defArgs s_law_link_right) (defBody s_law_link_right) (defScope s_law_link_right) .none kV7 dc7 pm7 an7 cd7 ct7), sl7⟩)
    (c7 : PySem.W.codeIn K cd7 "_law_link_right" = true)
    (k7 : PySem.W.keepIn K (.ref f7) = true)
    (a8 : PySem.W.nsIn K mainGlobals "_law_shown" = some (some (.ref f8)))
    (l8 : K.lookup f8 = some ⟨oc8, od8, .func (PySem.W.fnOf "_law_shown" "_law_shown" (defArgs s_law_shown) (defBody s_law_shown) (defScope s_law_shown) .none kV8 dc8 pm8 an8 cd8 ct8), sl8⟩)
    (c8 : PySem.W.codeIn K cd8 "_law_shown" = true)
    (k8 : PySem.W.keepIn K (.ref f8) = true)
    (a9 : PySem.W.nsIn K mainGlobals "_law_cell" = some (some (.ref f9)))
    (l9 : K.lookup f9 = some ⟨oc9, od9, .func (PySem.W.fnOf "_law_cell" "_law_cell" (defArgs s_law_cell) (defBody s_law_cell) (defScope s_law_cell) .none kV9 dc9 pm9 an9 cd9 ct9), sl9⟩)
    (c9 : PySem.W.codeIn K cd9 "_law_cell" = true)
    (k9 : PySem.W.keepIn K (.ref f9) = true)
    (a10 : PySem.W.nsIn K mainGlobals "_law_take" = some (some (.ref f10)))
    (l10 : K.lookup f10 = some ⟨oc10, od10, .func (PySem.W.fnOf "_law_take" "_law_take" (defArgs s_law_take) (defBody s_law_take) (defScope s_law_take) .none kV10 dc10 pm10 an10 cd10 ct10), sl10⟩)
    (c10 : PySem.W.codeIn K cd10 "_law_take" = true)
    (k10 : PySem.W.keepIn K (.ref f10) = true)
    (a11 : PySem.W.nsIn K mainGlobals "_law_changed" = some (some (.ref f11)))
    (l11 : K.lookup f11 = some ⟨oc11, od11, .func (PySem.W.fnOf "_law_changed" "_law_changed" (defArgs s_law_changed) (defBody s_law_changed) (defScope s_law_changed) .none kV11 dc11 pm11 an11 cd11 ct11), sl11⟩)
    (c11 : PySem.W.codeIn K cd11 "_law_changed" = true)
    (k11 : PySem.W.keepIn K (.ref f11) = true)
    (a12 : PySem.W.nsIn K mainGlobals "_law_drawn_link" = some (some (.ref f12)))
    (l12 : K.lookup f12 = some ⟨oc12, od12, .func (PySem.W.fnOf "_law_drawn_link" "_law_drawn_link" (defArgs s_law_drawn_link) (defBody s_law_drawn_link) (defScope s_law_drawn_link) .none kV12 dc12 pm12 an12 cd12 ct12), sl12⟩)
    (c12 : PySem.W.codeIn K cd12 "_law_drawn_link" = true)
    (k12 : PySem.W.keepIn K (.ref f12) = true)
    (a13 : PySem.W.nsIn K mainGlobals "_law_pool" = some (some (.ref f13)))
    (l13 : K.lookup f13 = some ⟨oc13, od13, .func (PySem.W.fnOf "_law_pool" "_law_pool" (defArgs s_law_pool) (defBody s_law_pool) (defScope s_law_pool) .none kV13 dc13 pm13 an13 cd13 ct13), sl13⟩)
    (c13 : PySem.W.codeIn K cd13 "_law_pool" = true)
    (k13 : PySem.W.keepIn K (.ref f13) = true)
    (a14 : PySem.W.nsIn K mainGlobals "_law_number" = some (some (.ref f14)))
    (l14 : K.lookup f14 = some ⟨oc14, od14, .func (PySem.W.fnOf "_law_number" "_law_number" (defArgs s_law_number) (defBody s_law_number) (defScope s_law_number) .none kV14 dc14 pm14 an14 cd14 ct14), sl14⟩)
    (c14 : PySem.W.codeIn K cd14 "_law_number" = true)
    (k14 : PySem.W.keepIn K (.ref f14) = true)
    (a15 : PySem.W.nsIn K mainGlobals "_law_odd" = some (some (.ref f15)))
    (l15 : K.lookup f15 = some ⟨oc15, od15, .func (PySem.W.fnOf "_law_odd" "_law_odd" (defArgs s_law_odd) (defBody s_law_odd) (defScope s_law_odd) .none kV15 dc15 pm15 an15 cd15 ct15), sl15⟩)
    (c15 : PySem.W.codeIn K cd15 "_law_odd" = true)
    (k15 : PySem.W.keepIn K (.ref f15) = true)
    (a16 : PySem.W.nsIn K mainGlobals "chain" = some (some (.ref f16)))
    (l16 : K.lookup f16 = some ⟨oc16, od16, .func (PySem.W.fnOf "chain" "chain" (defArgs s_chain) (defBody s_chain) (defScope s_chain) .none kV16 dc16 pm16 an16 cd16 ct16), sl16⟩)
    (c16 : PySem.W.codeIn K cd16 "chain" = true)
    (k16 : PySem.W.keepIn K (.ref f16) = true)
    (a17 : PySem.W.nsIn K mainGlobals "law" = some (some (.ref f17)))
    (l17 : K.lookup f17 = some ⟨oc17, od17, .func (PySem.W.fnOf "law" "law" (defArgs s_law) (defBody s_law) (defScope s_law) .none kV17 dc17 pm17 an17 cd17 ct17), sl17⟩)
    (c17 : PySem.W.codeIn K cd17 "law" = true)
    (k17 : PySem.W.keepIn K (.ref f17) = true)
    (gB : PySem.W.nsIn K mainGlobals "ClockError" = some (some (.ref CB)))
    (rB : PySem.W.readsIn K CB (.type "type") = true)
    (aB : PySem.W.specialIn K (.ref CB) "__getattribute__" = some (some (.builtin "type.__getattribute__")))
    (iB : PySem.W.findCls K (.ref CB) (.type "type") "__init__" = some (.val (.builtin "ValueError.__init__")))
    (eg0 : PySem.W.nsIn K mainGlobals "BadModulus" = some (some (.ref C0)))
    (ex0 : K.lookup C0 = some (excClassObj nm0 qq0 C0 N0 bs0 bm0 true sn0 sub0 ab0 col0 dd0 m00 m10 m20 m30 m50 "ValueError.__new__"))
    (eb0 : PySem.HandSPX.refsVE bm0 = true)
    (es0 : PySem.W.findIn K (.ref C0) "__setattr__" = some (some (.builtin "object.__setattr__")))
    (ee0 : PySem.W.subIn K (.ref C0) (.type "BaseException") = some true)
    (et0 : PySem.W.typeIn K (.ref C0) = some (.type "type"))
    (ek0 : PySem.W.keepIn K (.ref C0) = true)
    (ega0 : PySem.W.findIn K (.ref C0) "__getattribute__" = some (some (.builtin "BaseException.__getattribute__")))
    (egg0 : PySem.W.findIn K (.ref C0) "__getattr__" = some none)
    (eh0 : PySem.W.hasDictIn K C0 = true)
    (ei0 : PySem.W.isClsIn K C0 = true)
    (eu0 : PySem.W.subIn K (.ref C0) (.ref C0) = some true)
    (ef0 : PySem.W.findIn K (.ref C0) "__init__" = some (some (.ref g0)))
    (ey0 : PySem.W.typeIn K (.ref g0) = some (.type "function"))
    (el0 : K.lookup g0 = some ⟨ocE0, odE0, .func (PySem.W.fnOf "__init__" "BadModulus.__init__" (defArgs s_BadModulus_init) (defBody s_BadModulus_init) (defScope s_BadModulus_init) .none kVE0 dcE0 pmE0 anE0 cdE0 ctE0), slE0⟩)
    (ec0 : PySem.W.codeIn K cdE0 "BadModulus.__init__" = true)
    (ej0 : PySem.W.keepIn K (.ref g0) = true)
    (en0_modulus : PySem.W.findIn K (.ref C0) "modulus" = some none) :
    ∃ fd : FuncData, (∀ (s : Shared) (v : Value), BindsTo s fd ⟨[v], []⟩ [("_law_script", v)]) ∧ ∀ base : Heap, K.In base → base.Ns mainGlobals mg → FnOk P w K mg base (L2.CX P w) 5 fa fd ["_law_script"] (spLaw K) := by
  have e := hfa.symm.trans (PySem.W.mg_of X G a17)
  cases e
  have F0 := fun_mk (st := s_checked_modulus) l0 c0 k0
  have b0 := F0.binds (ps := ["m"]) fun _ _ _ _ _ _ us hl => match us, hl with | [_], _ => rfl
  have F1 := fun_mk (st := s_end_sign) l1 c1 k1
  have b1 := F1.binds (ps := ["n", "m"]) fun _ _ _ _ _ _ us hl => match us, hl with | [_, _], _ => rfl
  have F2 := fun_mk (st := s_is_end) l2 c2 k2
  have b2 := F2.binds (ps := ["n", "m"]) fun _ _ _ _ _ _ us hl => match us, hl with | [_, _], _ => rfl
  have F3 := fun_mk (st := s_factor_of) l3 c3 k3
  have b3 := F3.binds (ps := ["rule", "n", "m"]) fun _ _ _ _ _ _ us hl => match us, hl with | [_, _, _], _ => rfl
  have F4 := fun_mk (st := s_link_right) l4 c4 k4
  have b4 := F4.binds (ps := ["n", "m", "link"]) fun _ _ _ _ _ _ us hl => match us, hl with | [_, _, _], _ => rfl
  have F5 := fun_mk (st := s_shown) l5 c5 k5
  have b5 := F5.binds (ps := ["n", "m", "links"]) fun _ _ _ _ _ _ us hl => match us, hl with | [_, _, _], _ => rfl
  have F6 := fun_mk (st := s_law_factor) l6 c6 k6
  have b6 := F6.binds (ps := ["_law_rule", "_law_n", "_law_m"]) fun _ _ _ _ _ _ us hl => match us, hl with | [_, _, _], _ => rfl
  have F7 := fun_mk (st := s_law_link_right) l7 c7 k7
  have b7 := F7.binds (ps := ["_law_n", "_law_m", "_law_link"]) fun _ _ _ _ _ _ us hl => match us, hl with | [_, _, _], _ => rfl
  have F8 := fun_mk (st := s_law_shown) l8 c8 k8
  have b8 := F8.binds (ps := ["_law_n", "_law_m", "_law_links"]) fun _ _ _ _ _ _ us hl => match us, hl with | [_, _, _], _ => rfl
  have F9 := fun_mk (st := s_law_cell) l9 c9 k9
  have b9 := F9.binds (ps := ["_law_script", "_law_k"]) fun _ _ _ _ _ _ us hl => match us, hl with | [_, _], _ => rfl
  have F10 := fun_mk (st := s_law_take) l10 c10 k10
  have b10 := F10.binds (ps := ["_law_pool_here", "_law_limit"]) fun _ _ _ _ _ _ us hl => match us, hl with | [_, _], _ => rfl
  have F11 := fun_mk (st := s_law_changed) l11 c11 k11
  have b11 := F11.binds (ps := ["_law_pool_here", "_law_links", "_law_n", "_law_m"]) fun _ _ _ _ _ _ us hl => match us, hl with | [_, _, _, _], _ => rfl
  have F12 := fun_mk (st := s_law_drawn_link) l12 c12 k12
  have b12 := F12.binds (ps := ["_law_pool_here", "_law_n", "_law_m"]) fun _ _ _ _ _ _ us hl => match us, hl with | [_, _, _], _ => rfl
  have F13 := fun_mk (st := s_law_pool) l13 c13 k13
  have b13 := F13.binds (ps := ["_law_cell_here"]) fun _ _ _ _ _ _ us hl => match us, hl with | [_], _ => rfl
  have F14 := fun_mk (st := s_law_number) l14 c14 k14
  have b14 := F14.binds (ps := ["_law_script", "_law_k"]) fun _ _ _ _ _ _ us hl => match us, hl with | [_, _], _ => rfl
  have F15 := fun_mk (st := s_law_odd) l15 c15 k15
  have b15 := F15.binds (ps := ["_law_script", "_law_k"]) fun _ _ _ _ _ _ us hl => match us, hl with | [_, _], _ => rfl
  have F16 := fun_mk (st := s_chain) l16 c16 k16
  have b16 := F16.binds (ps := ["n", "m"]) fun _ _ _ _ _ _ us hl => match us, hl with | [_, _], _ => rfl
  have F17 := fun_mk (st := s_law) l17 c17 k17
  have G0 := fun_mk (st := s_BadModulus_init) el0 ec0 ej0
  have bG0 := G0.binds (ps := ["self", "modulus"]) fun _ _ _ _ _ _ us hl => match us, hl with | [_, _], _ => rfl
  have T : Txt K mg ⟨C0, CB⟩ := {
    b_int := PySem.W.mg_none_of X G z_int
    b_len := PySem.W.mg_none_of X G z_len
    b_list := PySem.W.mg_none_of X G z_list
    b_min := PySem.W.mg_none_of X G z_min
    b_range := PySem.W.mg_none_of X G z_range
    d_checked_modulus := ⟨_, _, F0, PySem.W.mg_of X G a0, b0⟩
    d_end_sign := ⟨_, _, F1, PySem.W.mg_of X G a1, b1⟩
    d_is_end := ⟨_, _, F2, PySem.W.mg_of X G a2, b2⟩
    d_factor_of := ⟨_, _, F3, PySem.W.mg_of X G a3, b3⟩
    d_link_right := ⟨_, _, F4, PySem.W.mg_of X G a4, b4⟩
    d_shown := ⟨_, _, F5, PySem.W.mg_of X G a5, b5⟩
    d_law_factor := ⟨_, _, F6, PySem.W.mg_of X G a6, b6⟩
    d_law_link_right := ⟨_, _, F7, PySem.W.mg_of X G a7, b7⟩
    d_law_shown := ⟨_, _, F8, PySem.W.mg_of X G a8, b8⟩
    d_law_cell := ⟨_, _, F9, PySem.W.mg_of X G a9, b9⟩
    d_law_take := ⟨_, _, F10, PySem.W.mg_of X G a10, b10⟩
    d_law_changed := ⟨_, _, F11, PySem.W.mg_of X G a11, b11⟩
    d_law_drawn_link := ⟨_, _, F12, PySem.W.mg_of X G a12, b12⟩
    d_law_pool := ⟨_, _, F13, PySem.W.mg_of X G a13, b13⟩
    d_law_number := ⟨_, _, F14, PySem.W.mg_of X G a14, b14⟩
    d_law_odd := ⟨_, _, F15, PySem.W.mg_of X G a15, b15⟩
    d_chain := ⟨_, _, F16, PySem.W.mg_of X G a16, b16⟩
    base := ⟨PySem.W.mg_of X G gB, rB, aB, iB⟩
    r_BadModulus := ⟨PySem.W.mg_of X G eg0, ⟨⟨_, _, _, _, _, _, _, _, _, _, _, _, _, _, _, ex0, eb0⟩, es0, ee0, et0, ek0⟩, ⟨ega0, egg0, ee0, eh0⟩, exm_self ee0 ei0 et0 eu0, ⟨_, _, ef0, ey0, G0, bG0⟩⟩
    no_BadModulus_modulus := en0_modulus
    triv := trivial }
  exact ⟨_, fun s v => .of_eq rfl, fun base _ _ => ok_law (base := base) F17 T⟩
theorem walk {l : PySem.W.OpenLaw} {q : Program} {loose : List Str} {XP : (Str → Option Value) → Heap → Prop} {YP : World → Heap → Prop} {d : DefRec} {K : Params → PySem.W.Frag} (hn : l.most = some 63) (hdf : d.params.defaults = [])
    (hY : ∀ (w : World) (h : Heap), YP w h → (K w.params).In h)
    (F : ∀ (w : World) (mg : Str → Option Value) (fa : Addr) (h : Heap), (K w.params).In h → h.Ns mainGlobals mg → mg d.name = some (.ref fa) →
      ∃ fd : FuncData, (∀ (s : Shared) (u : Value), BindsTo s fd ⟨[u], []⟩ [("_law_script", u)]) ∧ ∀ base : Heap, (K w.params).In base → base.Ns mainGlobals mg → FnOk l.prog w (K w.params) mg base (L2.CX l.prog w) 5 fa fd ["_law_script"] (spLaw (K w.params))) :
    PySem.W.WalkO q loose XP YP l.row.toRowW d [] (fun f vs => PySem.call f vs) :=
  L2.walk_of (n := 63) (k := 5) (x := "_law_script") (CX := fun w => L2.CX l.prog w) (sp := fun w => spLaw (K w.params)) hn (by decide) hdf ⟨rfl, by decide, by decide⟩ hY F (fun _ _ a ns hl hO hS => ⟨a, ns, rfl, hS, hl, NoT.only hO, fun _ => rfl⟩) fun _ _ _ _ _ h => by
    obtain ⟨_, _, _, _, _, _, _, _, _, _, _, _, z⟩ := h
    exact z.elim
end My
open PySem PySem.W PyProof.Rows
set_option maxRecDepth 100000 in
set_option maxHeartbeats 0 in
theorem PySem.Challenge.cw_everyprime_k24_chains_judged_holds : PySem.Challenge.rw_everyprime_k24_chains_judged.Holds := by
  w_on; o_law; k_head; (case hw => w_witness2)
  k_fill
  refine My.walk (l := PySem.Challenge.rw_everyprime_k24_chains_judged) rfl rfl (fun w h Y => PySem.W.kIn_of Y) ?F
  case F =>
    intro w mg fa h KX G hmg
    refine' My.all_mk KX G hmg ?z_int ?z_len ?z_list ?z_min ?z_range ?a0 ?l0 ?c0 ?k0 ?a1 ?l1 ?c1 ?k1 ?a2 ?l2 ?c2 ?k2 ?a3 ?l3 ?c3 ?k3 ?a4 ?l4 ?c4 ?k4 ?a5 ?l5 ?c5 ?k5 ?a6 ?l6 ?c6 ?k6 ?a7 ?l7 ?c7 ?k7 ?a8 ?l8 ?c8 ?k8 ?a9 ?l9 ?c9 ?k9 ?a10 ?l10 ?c10 ?k10 ?a11 ?l11 ?c11 ?k11 ?a12 ?l12 ?c12 ?k12 ?a13 ?l13 ?c13 ?k13 ?a14 ?l14 ?c14 ?k14 ?a15 ?l15 ?c15 ?k15 ?a16 ?l16 ?c16 ?k16 ?a17 ?l17 ?c17 ?k17 ?gB ?rB ?aB ?iB ?eg0 ?ex0 ?eb0 ?es0 ?ee0 ?et0 ?ek0 ?ega0 ?egg0 ?eh0 ?ei0 ?eu0 ?ef0 ?ey0 ?el0 ?ec0 ?ej0 ?en0_modulus
    (case z_int => k_is)
    (case z_len => k_is)
    (case z_list => k_is)
    (case z_min => k_is)
    (case z_range => k_is)
    (case a0 => k_is)
    (case l0 => k_is)
    (case c0 => k_is)
    (case k0 => k_is)
    (case a1 => k_is)
    (case l1 => k_is)
    (case c1 => k_is)
    (case k1 => k_is)
    (case a2 => k_is)
    (case l2 => k_is)
    (case c2 => k_is)
    (case k2 => k_is)
    (case a3 => k_is)
    (case l3 => k_is)
    (case c3 => k_is)
    (case k3 => k_is)
    (case a4 => k_is)
    (case l4 => k_is)
    (case c4 => k_is)
    (case k4 => k_is)
    (case a5 => k_is)
    (case l5 => k_is)
    (case c5 => k_is)
    (case k5 => k_is)
    (case a6 => k_is)
    (case l6 => k_is)
    (case c6 => k_is)
    (case k6 => k_is)
    (case a7 => k_is)
    (case l7 => k_is)
    (case c7 => k_is)
    (case k7 => k_is)
    (case a8 => k_is)
    (case l8 => k_is)
    (case c8 => k_is)
    (case k8 => k_is)
    (case a9 => k_is)
    (case l9 => k_is)
    (case c9 => k_is)
    (case k9 => k_is)
    (case a10 => k_is)
    (case l10 => k_is)
    (case c10 => k_is)
    (case k10 => k_is)
    (case a11 => k_is)
    (case l11 => k_is)
    (case c11 => k_is)
    (case k11 => k_is)
    (case a12 => k_is)
    (case l12 => k_is)
    (case c12 => k_is)
    (case k12 => k_is)
    (case a13 => k_is)
    (case l13 => k_is)
    (case c13 => k_is)
    (case k13 => k_is)
    (case a14 => k_is)
    (case l14 => k_is)
    (case c14 => k_is)
    (case k14 => k_is)
    (case a15 => k_is)
    (case l15 => k_is)
    (case c15 => k_is)
    (case k15 => k_is)
    (case a16 => k_is)
    (case l16 => k_is)
    (case c16 => k_is)
    (case k16 => k_is)
    (case a17 => k_is)
    (case l17 => k_is)
    (case c17 => k_is)
    (case k17 => k_is)
    (case gB => k_is)
    (case rB => k_is)
    (case aB => k_is)
    (case iB => k_is)
    (case eg0 => k_is)
    (case ex0 => k_is)
    (case eb0 => decide +kernel)
    (case es0 => k_is)
    (case ee0 => k_is)
    (case et0 => k_is)
    (case ek0 => k_is)
    (case ega0 => k_is)
    (case egg0 => k_is)
    (case eh0 => k_is)
    (case ei0 => k_is)
    (case eu0 => first | rfl | k_is)
    (case ef0 => k_is)
    (case ey0 => k_is)
    (case el0 => k_is)
    (case ec0 => k_is)
    (case ej0 => k_is)
    (case en0_modulus => k_is)
#print axioms PySem.Challenge.cw_everyprime_k24_chains_judged_holds
