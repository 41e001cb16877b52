import PyProof.Rows.All
import Wide.All
import OpenK.AllK
import Wide.FinOn
import HandS.Base
import HandS.Call
import HandS.List
import HandS.Ends
import HandS.Words
import HandS.Wide
import HandS.WordsList
import HandS.Comp
import HandS.Exc
import HandS.ExcOwn
import HandS.TryOnly
import HandS.WordsExc
import HandS.ExcInit
import HandS.ExcField
import HandS.ClsMeth
import HandS.Codes
import HandS.NoneIn
import HandS.IsInst
import HandS.SortInts
import HandS.Style
import HandS.Star
import HandS.FStr
import HandS.Iter
import HandS.Dict
import HandS.Walk
import HandS.Strs
import HandS.SetBool
import HandS.SetIn
import HandS.TryMany
import HandS.More
import HandS.DictComp
import HandS.Deep
import KE.KOpsOwn
import HandS.Small
import HandS.TupAny
import PySem.Challenge.RW_everyprime_k08_whole_sums_that_make_squa
set_option Elab.async false
set_option linter.all false
set_option maxRecDepth 100000
set_option maxHeartbeats 4000000
namespace L2
open PySem PySem.Spec PyProof.Rows
/-- one step of a reading, found by its head -/
class Stp (G : Prop) (N : outParam Prop) : Prop where
  mp : N → G
/-! ### forgetting what was made on the way -/
/-- no dict with tuple keys is tracked -/
def noT : HO -> Bool
  | .dT _ => false
  | .frz _ u => noT u
  | _ => true
def NoT (H : Hp) : Prop := ∀ a o, H a = some o → noT o = true
theorem NoT.upd {H : Hp} {p : Addr} {o : HO} (n : NoT H) (h : noT o = true) : NoT (upd H p o) := fun a u e => by
  by_cases hb : a = p
  · subst hb
    rw [upd_same] at e
    cases e
    exact h
  · rw [upd_ne hb] at e
    exact n a u e
theorem obj_back {P : Program} {w : World} {H H' : Hp} {h h' : Heap} {a : Addr} : ∀ {o : HO}, noT o = true → ObjOk P w H' h' a o → ObjOk P w H h a o → ObjOk P w H h' a o := by
  intro o
  induction o with
  | dT kvs => intro n; cases n
  | frz ob u ih =>
    intro n x y
    exact ⟨x.1, ih n x.2 y.2⟩
  | ins C dx fs =>
    intro n x y
    exact ⟨y.1, x.2⟩
  | lst xs => intro n x y; exact x
  | tup xs => intro n x y; exact x
  | dK kvs => intro n x y; exact x
  | set S m => intro n x y; exact x
  | own z => intro n x y; exact x
  | xd fs => intro n x y; exact x
  | rng lo hi => intro n x y; exact x
  | tbl ps => intro n x y; exact x
  | met f z => intro n x y; exact x
  | ext phi => intro n x y; exact x
theorem hok_back {P : Program} {w : World} {H H' : Hp} {h h' : Heap} (n : NoT H) (x : HOk P w H' h') (y : HOk P w H h) (e : Same H H') : HOk P w H h' := fun a o q =>
  obj_back (n a o q) (x a o (e a o q)) (y a o q)
theorem Inv.forget {X : Cx} {pins pins' : List (Addr × Obj)} {σ σ' : St} {H H' : Hp} {s s' : Shared} (I : Inv X pins σ H s) (J : Inv X pins' σ' H' s') (e : Same H H') (n : NoT H) : Inv X pins' σ' H s' :=
  ⟨J.ok, J.os, J.bare, ⟨J.base.keep, J.base.slot, I.base.free, J.base.there, I.base.tups, I.base.frzs, I.base.tbls⟩, J.loc, J.cell, I.free, I.freeC,
    fun p hp => let ⟨a, b, c⟩ := J.pin p hp; ⟨a, e.free b, c⟩, hok_back n J.hok I.hok e, J.len⟩
/-- an expression whose making leaves things behind that nobody asks of -/
def tPure (t : TE) : TE := fun σ H Q => NoT H ∧ t σ H fun v H' => Same H H' ∧ Q v H
theorem pe_pure {X : Cx} {e : Expr} {t : TE} (h : PE X e t) : PE X e (tPure t) :=
  ⟨fun pins s σ H Q I ⟨n, q⟩ => thn (h.run pins s σ H _ I q) fun u s' ⟨v, H', J, r, sm, q'⟩ => ⟨v, H, I.forget J sm n, r, q'⟩⟩
def tPureT (t : TT) : TT := fun σ H Q => NoT H ∧ t σ H fun b H' => Same H H' ∧ Q b H
theorem pt_pure {X : Cx} {e : Expr} {t : TT} (h : PT X e t) : PT X e (tPureT t) :=
  ⟨fun pins s σ H Q I ⟨n, q⟩ => thn (h.run pins s σ H _ I q) fun u s' ⟨H', J, sm, q'⟩ => ⟨H, I.forget J sm n, q'⟩⟩
theorem fn_forget {P : Program} {w : World} {K : PySem.W.Frag} {mg : Str → Option Value} {base : Heap} {CX : CXT} {k : Nat} {f : Addr} {fd : FuncData} {ps : List Str} {sp : Sp} (F : FnOk P w K mg base CX k f fd ps sp) :
    FnOk P w K mg base CX k f fd ps (fun vs H Q E => NoT H ∧ sp vs H (fun v H' => Same H H' ∧ Q v H) E) := by
  refine ⟨fun vs H Q E q => F.len vs H _ E q.2, fun A outer s H args us vs Q E hr he hb hv hs => ?_⟩
  refine codeAny_mono (F.run A outer s H args us vs _ E hr he hb hv hs.2) fun r s' q => ?_
  cases r with
  | error er => exact q
  | ok fl =>
    cases fl with
    | ret u =>
      obtain ⟨v, H2, os2, bare2, un2, hok2, rv, sm, q2⟩ := q
      exact ⟨v, H, os2, bare2, ⟨un2.keep, un2.slot, fun _ _ _ n _ => n, un2.there, fun _ _ q => q, fun _ _ _ q => q, fun _ ps q => ⟨#[], by rw [q]; simp⟩⟩, hok_back hs.1 hok2 he.hok sm, rv, q2⟩
    | next => exact q
    | brk => exact q
    | cont => exact q
end L2

namespace L2
open PySem PySem.Spec PyProof.Rows
/-! ### operators in the forms that are used here -/
def CMulB (i j : Int) : Prop := CMul i j ∨ CMulW i j
theorem CMulB.ok {i j : Int} (h : CMulB i j) : IntMulOk i j := by
  rcases h with h | h
  · exact h.ok
  · exact h.ok
def CDivB (_ j : Int) : Prop := 0 < j ∧ j < 2 ^ 250
section
variable {X : Cx}
theorem op_mulB : OpR X (binaryOp .Mult) (rI CMulB fun i j => .int (i * j)) := opI fun _ _ _ _ _ _ _ hc q => mul_int q hc.ok
theorem op_fdivB : OpR X (binaryOp .FloorDiv) (rI CDivB fun i j => .int (i / j)) := fun pins s σ H x y v u Q I rx ry ⟨i, j, e1, e2, hc, q⟩ =>
  op_fdivW pins s σ H x y v u Q I rx ry ⟨i, j, e1, e2, wide_div (b := 250) hc.1 (by
    have h1 := hc.1
    have h2 := hc.2
    have h3 : j = (j.natAbs : Int) := by omega
    have h4 : (j.natAbs : Int) < ((2 ^ 250 : Nat) : Int) := by
      rw [← h3, Int.natCast_pow]
      exact h2
    exact Int.ofNat_lt.mp h4) (by decide) (by decide), q⟩
end
/-! ### the readings, one lemma each -/
section
variable {σ : St} {H : Hp} {Q : VK} {R : Bool → Hp → Prop} {RA : List V → Hp → Prop} {K : PySem.W.Frag} {v x y z : V} {i j : Int} {ta tb tc te : TE} {tt uu : TT} {t t1 t2 u : TS} {tr : TA} {r : R2}
variable {nx : St → Hp → Prop} {rt : VK} {bk ct : St → Hp → Prop}
theorem rd_var {n : Nat} (h : σ[n]? = some (some v)) (q : Q v H) : tVar n σ H Q := ⟨v, h, q⟩
theorem rd_c (q : Q v H) : tC v σ H Q := q
instance st_c  : Stp (tC v σ H Q) (Q v H) := ⟨fun h => rd_c h⟩
theorem rd_op (h : ta σ H fun x H1 => tb σ H1 fun y H2 => r x y H2 Q) : tOp r ta tb σ H Q := h
instance st_op  : Stp (tOp r ta tb σ H Q) (ta σ H fun x H1 => tb σ H1 fun y H2 => r x y H2 Q) := ⟨fun h => rd_op h⟩
theorem rd_un {ru : V → Hp → VK → Prop} (h : ta σ H fun x H1 => ru x H1 Q) : tUn ru ta σ H Q := h
instance st_un {ru : V → Hp → VK → Prop} : Stp (tUn ru ta σ H Q) (ta σ H fun x H1 => ru x H1 Q) := ⟨fun h => rd_un h⟩
theorem rd_I {C : Int → Int → Prop} {g : Int → Int → V} (hc : C i j) (q : Q (g i j) H) : rI C g (.int i) (.int j) H Q := ⟨i, j, rfl, rfl, hc, q⟩
theorem rd_I0 {g : Int → Int → V} (q : Q (g i j) H) : rI0 g (.int i) (.int j) H Q := ⟨i, j, rfl, rfl, q⟩
instance st_I0 {g : Int → Int → V} : Stp (rI0 g (.int i) (.int j) H Q) (Q (g i j) H) := ⟨fun h => rd_I0 h⟩
theorem rd_U {g : Int → V} (q : Q (g i) H) : rU g (.int i) H Q := ⟨i, rfl, q⟩
instance st_U {g : Int → V} : Stp (rU g (.int i) H Q) (Q (g i) H) := ⟨fun h => rd_U h⟩
theorem rd_eqI (q : Q (.bl (decide (i = j))) H) : rEq (.int i) (.int j) H Q := ⟨rfl, by
  have e : decide (V.int i = V.int j) = decide (i = j) := decide_eq_decide.mpr ⟨fun z => V.int.inj z, fun z => by rw [z]⟩
  rw [e]
  exact q⟩
instance st_eqI  : Stp (rEq (.int i) (.int j) H Q) (Q (.bl (decide (i = j))) H) := ⟨fun h => rd_eqI h⟩
theorem rd_neI (q : Q (.bl (!decide (i = j))) H) : rNe (.int i) (.int j) H Q := ⟨rfl, by
  have e : decide (V.int i = V.int j) = decide (i = j) := decide_eq_decide.mpr ⟨fun z => V.int.inj z, fun z => by rw [z]⟩
  rw [e]
  exact q⟩
instance st_neI  : Stp (rNe (.int i) (.int j) H Q) (Q (.bl (!decide (i = j))) H) := ⟨fun h => rd_neI h⟩
theorem rd_eqS {i j : Str} (q : Q (.bl (decide (i = j))) H) : rEq (.str i) (.str j) H Q := ⟨rfl, by
  have e : decide (V.str i = V.str j) = decide (i = j) := decide_eq_decide.mpr ⟨fun z => V.str.inj z, fun z => by rw [z]⟩
  rw [e]
  exact q⟩
instance st_eqS {i j : Str} : Stp (rEq (.str i) (.str j) H Q) (Q (.bl (decide (i = j))) H) := ⟨fun h => rd_eqS h⟩
theorem rd_neS {i j : Str} (q : Q (.bl (!decide (i = j))) H) : rNe (.str i) (.str j) H Q := ⟨rfl, by
  have e : decide (V.str i = V.str j) = decide (i = j) := decide_eq_decide.mpr ⟨fun z => V.str.inj z, fun z => by rw [z]⟩
  rw [e]
  exact q⟩
instance st_neS {i j : Str} : Stp (rNe (.str i) (.str j) H Q) (Q (.bl (!decide (i = j))) H) := ⟨fun h => rd_neS h⟩
theorem rd_eqB {i j : Bool} (q : Q (.bl (decide (i = j))) H) : rEq (.bl i) (.bl j) H Q := ⟨rfl, by
  have e : decide (V.bl i = V.bl j) = decide (i = j) := decide_eq_decide.mpr ⟨fun z => V.bl.inj z, fun z => by rw [z]⟩
  rw [e]
  exact q⟩
instance st_eqB {i j : Bool} : Stp (rEq (.bl i) (.bl j) H Q) (Q (.bl (decide (i = j))) H) := ⟨fun h => rd_eqB h⟩
theorem rd_neB {i j : Bool} (q : Q (.bl (!decide (i = j))) H) : rNe (.bl i) (.bl j) H Q := ⟨rfl, by
  have e : decide (V.bl i = V.bl j) = decide (i = j) := decide_eq_decide.mpr ⟨fun z => V.bl.inj z, fun z => by rw [z]⟩
  rw [e]
  exact q⟩
instance st_neB {i j : Bool} : Stp (rNe (.bl i) (.bl j) H Q) (Q (.bl (!decide (i = j))) H) := ⟨fun h => rd_neB h⟩
theorem rd_eqV (h : scal x y = true) (q : Q (.bl (decide (x = y))) H) : rEq x y H Q := ⟨h, q⟩
theorem rd_test (h : te σ H fun x H' => ∃ k, x = .bl k ∧ R k H') : tTest te σ H R := h
instance st_test  : Stp (tTest te σ H R) (te σ H fun x H' => ∃ k, x = .bl k ∧ R k H') := ⟨fun h => rd_test h⟩
theorem rd_B (h : te σ H fun x H' => ∃ k, x = .bl k ∧ R k H') : tB te σ H R := h
instance st_B  : Stp (tB te σ H R) (te σ H fun x H' => ∃ k, x = .bl k ∧ R k H') := ⟨fun h => rd_B h⟩
theorem rd_k {b : Bool} {P : Bool → Prop} (q : P b) : ∃ k, V.bl b = .bl k ∧ P k := ⟨b, rfl, q⟩
instance st_k {b : Bool} {P : Bool → Prop} : Stp (∃ k, V.bl b = .bl k ∧ P k) (P b) := ⟨fun h => rd_k h⟩
theorem rd_and (h : tt σ H fun c H1 => if c = true then uu σ H1 R else R false H1) : tAnd tt uu σ H R := h
instance st_and  : Stp (tAnd tt uu σ H R) (tt σ H fun c H1 => if c = true then uu σ H1 R else R false H1) := ⟨fun h => rd_and h⟩
theorem rd_or (h : tt σ H fun c H1 => if c = true then R true H1 else uu σ H1 R) : tOr tt uu σ H R := h
instance st_or  : Stp (tOr tt uu σ H R) (tt σ H fun c H1 => if c = true then R true H1 else uu σ H1 R) := ⟨fun h => rd_or h⟩
theorem rd_not (h : tt σ H fun c H1 => R (!c) H1) : tNot tt σ H R := h
instance st_not  : Stp (tNot tt σ H R) (tt σ H fun c H1 => R (!c) H1) := ⟨fun h => rd_not h⟩
theorem rd_andV (h : ta σ H fun x H1 => ∃ c, x = .bl c ∧ if c = true then tb σ H1 Q else Q (.bl false) H1) : tAndV ta tb σ H Q := h
instance st_andV  : Stp (tAndV ta tb σ H Q) (ta σ H fun x H1 => ∃ c, x = .bl c ∧ if c = true then tb σ H1 Q else Q (.bl false) H1) := ⟨fun h => rd_andV h⟩
theorem rd_orV (h : ta σ H fun x H1 => ∃ c, x = .bl c ∧ if c = true then Q (.bl true) H1 else tb σ H1 Q) : tOrV ta tb σ H Q := h
instance st_orV  : Stp (tOrV ta tb σ H Q) (ta σ H fun x H1 => ∃ c, x = .bl c ∧ if c = true then Q (.bl true) H1 else tb σ H1 Q) := ⟨fun h => rd_orV h⟩
theorem rd_notV (h : ta σ H fun x H1 => ∃ c, x = .bl c ∧ Q (.bl (!c)) H1) : tNotV ta σ H Q := h
instance st_notV  : Stp (tNotV ta σ H Q) (ta σ H fun x H1 => ∃ c, x = .bl c ∧ Q (.bl (!c)) H1) := ⟨fun h => rd_notV h⟩
theorem rd_ifx (h : tt σ H fun c H1 => if c = true then ta σ H1 Q else tb σ H1 Q) : tIf tt ta tb σ H Q := h
instance st_ifx  : Stp (tIf tt ta tb σ H Q) (tt σ H fun c H1 => if c = true then ta σ H1 Q else tb σ H1 Q) := ⟨fun h => rd_ifx h⟩
theorem rd_chain {r' : R2} (h : ta σ H fun x H1 => tb σ H1 fun y H2 => r x y H2 fun z H3 => ∃ k, z = .bl k ∧ (if k = true then tc σ H3 fun w' H4 => r' y w' H4 Q else Q (.bl false) H3)) : tChain r r' ta tb tc σ H Q := h
instance st_chain {r' : R2} : Stp (tChain r r' ta tb tc σ H Q) (ta σ H fun x H1 => tb σ H1 fun y H2 => r x y H2 fun z H3 => ∃ k, z = .bl k ∧ (if k = true then tc σ H3 fun w' H4 => r' y w' H4 Q else Q (.bl false) H3)) := ⟨fun h => rd_chain h⟩
theorem rd_nil (q : RA [] H) : tNil σ H RA := q
instance st_nil  : Stp (tNil σ H RA) (RA [] H) := ⟨fun h => rd_nil h⟩
theorem rd_cons (h : ta σ H fun x H1 => tr σ H1 fun xs H2 => RA (x :: xs) H2) : tCons ta tr σ H RA := h
instance st_cons  : Stp (tCons ta tr σ H RA) (ta σ H fun x H1 => tr σ H1 fun xs H2 => RA (x :: xs) H2) := ⟨fun h => rd_cons h⟩
theorem rd_tup (h : tr σ H fun xs H1 => xs.length ≤ sizeLine ∧ ∀ p, H1 p = none → Q (.ref p) (upd H1 p (.tup xs))) : tTup tr σ H Q := h
instance st_tup  : Stp (tTup tr σ H Q) (tr σ H fun xs H1 => xs.length ≤ sizeLine ∧ ∀ p, H1 p = none → Q (.ref p) (upd H1 p (.tup xs))) := ⟨fun h => rd_tup h⟩
theorem rd_lst (h : tr σ H fun xs H1 => xs.length ≤ sizeLine ∧ ∀ p, H1 p = none → Q (.ref p) (upd H1 p (.lst xs))) : tLst tr σ H Q := h
instance st_lst  : Stp (tLst tr σ H Q) (tr σ H fun xs H1 => xs.length ≤ sizeLine ∧ ∀ p, H1 p = none → Q (.ref p) (upd H1 p (.lst xs))) := ⟨fun h => rd_lst h⟩
theorem rd_pure (n : NoT H) (h : te σ H fun v H' => Same H H' ∧ Q v H) : tPure te σ H Q := ⟨n, h⟩
theorem rd_pureT (n : NoT H) (h : tt σ H fun v H' => Same H H' ∧ R v H) : tPureT tt σ H R := ⟨n, h⟩
theorem rd_call {sp : Sp} {E : XK} (h : tr σ H fun vs H1 => sp vs H1 Q E) : tCall sp [] E tr σ H Q := by
  show tr σ H fun vs H1 => sp (vs ++ []) H1 Q E
  simp only [List.append_nil]
  exact h
instance st_call {sp : Sp} {E : XK} : Stp (tCall sp [] E tr σ H Q) (tr σ H fun vs H1 => sp vs H1 Q E) := ⟨fun h => rd_call h⟩
theorem rd_cb {rr : List V → Hp → VK → Prop} (h : tr σ H fun vs H1 => rr vs H1 Q) : tCB rr tr σ H Q := h
instance st_cb {rr : List V → Hp → VK → Prop} : Stp (tCB rr tr σ H Q) (tr σ H fun vs H1 => rr vs H1 Q) := ⟨fun h => rd_cb h⟩
/-! statements -/
theorem rd_seq (h : t ⟨u ⟨nx, rt, bk, ct⟩, rt, bk, ct⟩ σ H) : tSeq t u ⟨nx, rt, bk, ct⟩ σ H := h
instance st_seq  : Stp (tSeq t u ⟨nx, rt, bk, ct⟩ σ H) (t ⟨u ⟨nx, rt, bk, ct⟩, rt, bk, ct⟩ σ H) := ⟨fun h => rd_seq h⟩
theorem rd_next (q : nx σ H) : tNext ⟨nx, rt, bk, ct⟩ σ H := q
instance st_next  : Stp (tNext ⟨nx, rt, bk, ct⟩ σ H) (nx σ H) := ⟨fun h => rd_next h⟩
theorem rd_break (q : bk σ H) : tBreak ⟨nx, rt, bk, ct⟩ σ H := q
instance st_break  : Stp (tBreak ⟨nx, rt, bk, ct⟩ σ H) (bk σ H) := ⟨fun h => rd_break h⟩
theorem rd_cont (q : ct σ H) : tCont ⟨nx, rt, bk, ct⟩ σ H := q
instance st_cont  : Stp (tCont ⟨nx, rt, bk, ct⟩ σ H) (ct σ H) := ⟨fun h => rd_cont h⟩
theorem rd_ret (h : te σ H rt) : tRet te ⟨nx, rt, bk, ct⟩ σ H := h
instance st_ret  : Stp (tRet te ⟨nx, rt, bk, ct⟩ σ H) (te σ H rt) := ⟨fun h => rd_ret h⟩
theorem rd_retN (h : rt .non H) : tRetN ⟨nx, rt, bk, ct⟩ σ H := h
instance st_retN  : Stp (tRetN ⟨nx, rt, bk, ct⟩ σ H) (rt .non H) := ⟨fun h => rd_retN h⟩
theorem rd_drop (h : te σ H fun _ H1 => nx σ H1) : tDrop te ⟨nx, rt, bk, ct⟩ σ H := h
instance st_drop  : Stp (tDrop te ⟨nx, rt, bk, ct⟩ σ H) (te σ H fun _ H1 => nx σ H1) := ⟨fun h => rd_drop h⟩
theorem rd_asg {g : TG} (h : te σ H fun x H1 => g x σ H1 nx) : tAsg te g ⟨nx, rt, bk, ct⟩ σ H := h
instance st_asg {g : TG} : Stp (tAsg te g ⟨nx, rt, bk, ct⟩ σ H) (te σ H fun x H1 => g x σ H1 nx) := ⟨fun h => rd_asg h⟩
theorem rd_gname {n : Nat} {N : St → Hp → Prop} (q : N (σ.set n (some v)) H) : gName n v σ H N := q
instance st_gname {n : Nat} {N : St → Hp → Prop} : Stp (gName n v σ H N) (N (σ.set n (some v)) H) := ⟨fun h => rd_gname h⟩
theorem rd_ifS (h : tt σ H fun b H1 => if b = true then t1 ⟨nx, rt, bk, ct⟩ σ H1 else t2 ⟨nx, rt, bk, ct⟩ σ H1) : tIfS tt t1 t2 ⟨nx, rt, bk, ct⟩ σ H := h
instance st_ifS  : Stp (tIfS tt t1 t2 ⟨nx, rt, bk, ct⟩ σ H) (tt σ H fun b H1 => if b = true then t1 ⟨nx, rt, bk, ct⟩ σ H1 else t2 ⟨nx, rt, bk, ct⟩ σ H1) := ⟨fun h => rd_ifS h⟩
theorem rd_par {m n : Nat} (h : tr σ H fun vs H1 => ∃ v w, vs = [v, w] ∧ nx ((σ.set m (some v)).set n (some w)) H1) : tPar m n tr ⟨nx, rt, bk, ct⟩ σ H := h
instance st_par {m n : Nat} : Stp (tPar m n tr ⟨nx, rt, bk, ct⟩ σ H) (tr σ H fun vs H1 => ∃ v w, vs = [v, w] ∧ nx ((σ.set m (some v)).set n (some w)) H1) := ⟨fun h => rd_par h⟩
theorem rd_par2 {v w : V} {P : V → V → Prop} (q : P v w) : ∃ v' w', [v, w] = [v', w'] ∧ P v' w' := ⟨v, w, rfl, q⟩
instance st_par2 {v w : V} {P : V → V → Prop} : Stp (∃ v' w', [v, w] = [v', w'] ∧ P v' w') (P v w) := ⟨fun h => rd_par2 h⟩
theorem rd_aug {n : Nat} {f : Int → Int → Int} (h : σ[n]? = some (some (.int i))) (q : te σ H fun y H1 => ∃ j, y = .int j ∧ nx (σ.set n (some (.int (f i j)))) H1) (mono : ∀ Q Q' : VK, (∀ v H, Q v H → Q' v H) → te σ H Q → te σ H Q') :
    tAug n te (ipI f) ⟨nx, rt, bk, ct⟩ σ H := ⟨.int i, h, mono _ _ (fun y H1 ⟨j, e, q⟩ => ⟨i, j, rfl, e, q⟩) q⟩
theorem rd_augG {n : Nat} {x : V} {te : TE} {ti : TIp} (h : σ[n]? = some (some x)) (q : te σ H fun y H1 => ti x y H1 fun z H2 => nx (σ.set n (some z)) H2) : tAug n te ti ⟨nx, rt, bk, ct⟩ σ H := ⟨x, h, q⟩
theorem rd_ipI {f : Int → Int → Int} {i j : Int} {R : VK} (q : R (.int (f i j)) H) : ipI f (.int i) (.int j) H R := ⟨i, j, rfl, rfl, q⟩
instance st_ipI {f : Int → Int → Int} {i j : Int} {R : VK} : Stp (ipI f (.int i) (.int j) H R) (R (.int (f i j)) H) := ⟨fun h => rd_ipI h⟩
theorem rd_augC {n : Nat} {f : Int → Int → Int} (h : σ[n]? = some (some (.int i))) (q : nx (σ.set n (some (.int (f i j)))) H) : tAug n (tC (.int j)) (ipI f) ⟨nx, rt, bk, ct⟩ σ H := ⟨.int i, h, i, j, rfl, rfl, q⟩
/-! ifs -/
theorem rd_ite {p A B : Prop} [Decidable p] (h1 : p → A) (h2 : ¬ p → B) : if decide p = true then A else B := by
  by_cases h : p
  · rw [if_pos (decide_eq_true h)]
    exact h1 h
  · rw [if_neg (by rw [decide_eq_false h]; decide)]
    exact h2 h
theorem rd_iteN {p A B : Prop} [Decidable p] (h1 : ¬ p → A) (h2 : p → B) : if (!decide p) = true then A else B := by
  by_cases h : p
  · rw [if_neg (by rw [decide_eq_true h]; decide)]
    exact h2 h
  · rw [if_pos (by rw [decide_eq_false h]; decide)]
    exact h1 h
theorem rd_iteb {b : Bool} {A B : Prop} (h1 : b = true → A) (h2 : b = false → B) : if b = true then A else B := by
  cases b with
  | true => exact h1 rfl
  | false => exact h2 rfl
theorem rd_iteNT {A B : Prop} (h : B) : if (!true) = true then A else B := h
instance st_iteNT {A B : Prop} : Stp (if (!true) = true then A else B) (B) := ⟨fun h => rd_iteNT h⟩
theorem rd_iteNF {A B : Prop} (h : A) : if (!false) = true then A else B := h
instance st_iteNF {A B : Prop} : Stp (if (!false) = true then A else B) (A) := ⟨fun h => rd_iteNF h⟩
theorem rd_iteT {A B : Prop} (h : A) : if true = true then A else B := iteT h
instance st_iteT {A B : Prop} : Stp (if true = true then A else B) (A) := ⟨fun h => rd_iteT h⟩
theorem rd_iteF {A B : Prop} (h : B) : if false = true then A else B := iteF h
instance st_iteF {A B : Prop} : Stp (if false = true then A else B) (B) := ⟨fun h => rd_iteF h⟩
/-! while, for -/
def lBody (W : Nat → St → Hp → Prop) (m : Nat) (tb : TS) (nx : St → Hp → Prop) (rt : VK) : St → Hp → Prop := fun σ H =>
  ∃ N : St → Hp → Prop, (∀ σ' H', N σ' H' → ∃ m', m' < m ∧ W m' σ' H') ∧ tb ⟨N, rt, nx, N⟩ σ H
theorem rd_lBody {W : Nat → St → Hp → Prop} {m : Nat} (h : t ⟨fun σ' H' => ∃ m', m' < m ∧ W m' σ' H', rt, nx, fun σ' H' => ∃ m', m' < m ∧ W m' σ' H'⟩ σ H) : lBody W m t nx rt σ H := ⟨_, fun _ _ q => q, h⟩
instance st_lBody {W : Nat → St → Hp → Prop} {m : Nat} : Stp (lBody W m t nx rt σ H) (t ⟨fun σ' H' => ∃ m', m' < m ∧ W m' σ' H', rt, nx, fun σ' H' => ∃ m', m' < m ∧ W m' σ' H'⟩ σ H) := ⟨fun h => rd_lBody h⟩
theorem rd_while (W : Nat → St → Hp → Prop) (m0 : Nat) (h0 : W m0 σ H) (turn : ∀ m σ H, W m σ H → tt σ H fun b H1 => if b = true then lBody W m t nx rt σ H1 else nx σ H1) : tWhile tt t ⟨nx, rt, bk, ct⟩ σ H :=
  ⟨W, ⟨m0, h0⟩, fun m σ H w => turn m σ H w⟩
def fBody (J : It) (g : TG) (tb : TS) (nx : St → Hp → Prop) (rt : VK) : St → Hp → Prop := fun σ H => ∃ W : Nat → Nat → St → Hp → Prop, (∃ m, W 0 m σ H) ∧ ∀ i m σ H, W i m σ H →
  (J.stop i H ∧ nx σ H) ∨ (J.go i H ∧ ∃ N : St → Hp → Prop, (∀ σ' H', N σ' H' → ∃ m', m' < m ∧ W (i + 1) m' σ' H') ∧ ∀ x H', J.yld i H x H' → g x σ H' fun σ2 H2 => tb ⟨N, rt, nx, N⟩ σ2 H2)
theorem rd_for {wi : TI} {g : TG} (h : wi σ H fun J H1 => fBody J g t nx rt σ H1) : tFor wi g t ⟨nx, rt, bk, ct⟩ σ H := h
instance st_for {wi : TI} {g : TG} : Stp (tFor wi g t ⟨nx, rt, bk, ct⟩ σ H) (wi σ H fun J H1 => fBody J g t nx rt σ H1) := ⟨fun h => rd_for h⟩
theorem rd_rng1 {n : Int} {S : It → Hp → Prop} (h1 : -(2 ^ 62) ≤ n) (h2 : n < 2 ^ 62) (q : S (Itr 0 n.toNat) H) : ∃ j : Int, ([.int n] : List V) = [.int j] ∧ -(2 ^ 62) ≤ j ∧ j < 2 ^ 62 ∧ S (Itr 0 j.toNat) H := ⟨n, rfl, h1, h2, q⟩
theorem rd_iRng1 {S : It → Hp → Prop} (h : tr σ H fun vs H1 => ∃ j : Int, vs = [.int j] ∧ -(2 ^ 62) ≤ j ∧ j < 2 ^ 62 ∧ S (Itr 0 j.toNat) H1) : iRng1 tr σ H S := h
theorem rd_iRng2 {S : It → Hp → Prop} (h : tr σ H fun vs H1 => ∃ i j : Int, vs = [.int i, .int j] ∧ (-(2 ^ 62) ≤ i ∧ i < 2 ^ 62 ∧ -(2 ^ 62) ≤ j ∧ j < 2 ^ 62) ∧ S (Itr i (j - i).toNat) H1) : iRng2 tr σ H S := h
theorem rd_rng2 {m n : Int} {S : It → Hp → Prop} (h1 : -(2 ^ 62) ≤ m ∧ m < 2 ^ 62 ∧ -(2 ^ 62) ≤ n ∧ n < 2 ^ 62) (q : S (Itr m (n - m).toNat) H) : ∃ i j : Int, ([.int m, .int n] : List V) = [.int i, .int j] ∧ (-(2 ^ 62) ≤ i ∧ i < 2 ^ 62 ∧ -(2 ^ 62) ≤ j ∧ j < 2 ^ 62) ∧ S (Itr i (j - i).toNat) H := ⟨m, n, rfl, h1, q⟩
theorem rd_forR {lo : Int} {n : Nat} {g : TG} (Pv : Nat → St → Hp → Prop) (h0 : Pv 0 σ H)
    (hs : ∀ i σ H, i < n → Pv i σ H → g (.int (lo + i)) σ H fun σ2 H2 => t ⟨Pv (i + 1), rt, nx, Pv (i + 1)⟩ σ2 H2) (hd : ∀ σ H, Pv n σ H → nx σ H) : fBody (Itr lo n) g t nx rt σ H :=
  for_range (D := ⟨nx, rt, fun _ _ => False, fun _ _ => False⟩) Pv h0 hs hd
theorem rd_forL {a : Addr} {xs : List V} {g : TG} (Pv : Nat → St → Hp → Prop) (h0 : Pv 0 σ H) (hl : ∀ i σ H, i ≤ xs.length → Pv i σ H → SqL K H a xs)
    (hs : ∀ i x σ H, xs[i]? = some x → Pv i σ H → g x σ H fun σ2 H2 => t ⟨Pv (i + 1), rt, nx, Pv (i + 1)⟩ σ2 H2) (hd : ∀ σ H, Pv xs.length σ H → nx σ H) : fBody (Itl K a) g t nx rt σ H :=
  for_list (D := ⟨nx, rt, fun _ _ => False, fun _ _ => False⟩) Pv h0 hl hs hd
theorem rd_forT {a : Addr} {xs : List V} {g : TG} (Pv : Nat → St → Hp → Prop) (h0 : Pv 0 σ H) (hl : ∀ i σ H, i ≤ xs.length → Pv i σ H → SqT K H a xs)
    (hs : ∀ i x σ H, xs[i]? = some x → Pv i σ H → g x σ H fun σ2 H2 => t ⟨Pv (i + 1), rt, nx, Pv (i + 1)⟩ σ2 H2) (hd : ∀ σ H, Pv xs.length σ H → nx σ H) : fBody (Itt K a) g t nx rt σ H :=
  for_tup (D := ⟨nx, rt, fun _ _ => False, fun _ _ => False⟩) Pv h0 hl hs hd
theorem rd_iList {S : It → Hp → Prop} (h : ta σ H fun x H1 => ∃ a, x = .ref a ∧ (∃ xs, SqL K H1 a xs) ∧ S (Itl K a) H1) : iList K ta σ H S := h
theorem rd_iTup {S : It → Hp → Prop} (h : ta σ H fun x H1 => ∃ a, x = .ref a ∧ (∃ xs, SqT K H1 a xs) ∧ S (Itt K a) H1) : iTup K ta σ H S := h
theorem rd_ixL {p : Addr} {xs : List V} (h : SqL K H p xs) (ha : atI xs i = some v) (q : Q v H) : rIxL K (.ref p) (.int i) H Q := ⟨p, xs, i, v, rfl, rfl, h, ha, q⟩
theorem rd_ixT {p : Addr} {xs : List V} (h : SqT K H p xs) (ha : atI xs i = some v) (q : Q v H) : rIxT K (.ref p) (.int i) H Q := ⟨p, xs, i, v, rfl, rfl, h, ha, q⟩
theorem rd_inL {p : Addr} {xs : List V} (h : SqL K H p xs) (hx : flatV x = true) (hf : xs.all flatV = true) (q : Q (.bl (inV x xs)) H) : rIn K false x (.ref p) H Q := ⟨p, xs, rfl, .inl h, hx, hf, q⟩
theorem rd_inT {p : Addr} {xs : List V} (h : SqT K H p xs) (hx : flatV x = true) (hf : xs.all flatV = true) (q : Q (.bl (inV x xs)) H) : rIn K false x (.ref p) H Q := ⟨p, xs, rfl, .inr h, hx, hf, q⟩
theorem rd_ninT {p : Addr} {xs : List V} (h : SqT K H p xs) (hx : flatV x = true) (hf : xs.all flatV = true) (q : Q (.bl (!inV x xs)) H) : rIn K true x (.ref p) H Q := ⟨p, xs, rfl, .inr h, hx, hf, q⟩
end
theorem same_new {H : Hp} {p : Addr} {o : HO} (h : H p = none) : Same H (upd H p o) := fun b x e => by
  rw [upd_ne (ne_of_none e h)]
  exact e
end L2

namespace L2
open PySem PySem.Spec PyProof.Rows
section
variable {σ : St} {H : Hp} {Q : VK} {K : PySem.W.Frag} {v : V} {N : St → Hp → Prop} {S : Hp → Prop}
theorem rd_gsub {to ti : TE} {t : TSet} (h : to σ H fun o H1 => ti σ H1 fun i H2 => t o i v H2 fun H3 => N σ H3) : gSub to ti t v σ H N := h
instance st_gsub {to ti : TE} {t : TSet} : Stp (gSub to ti t v σ H N) (to σ H fun o H1 => ti σ H1 fun i H2 => t o i v H2 fun H3 => N σ H3) := ⟨fun h => rd_gsub h⟩
theorem rd_setL {p : Addr} {xs : List V} {k : Int} {j : Nat} (h : H p = some (.lst xs)) (hj : ixN xs.length k = some j) (q : S (upd H p (.lst (xs.set j v)))) : rSetL (.ref p) (.int k) v H S := ⟨p, xs, k, j, rfl, rfl, h, hj, q⟩
theorem rd_ixH {p : Addr} {xs : List V} {i : Int} (h : H p = some (.lst xs)) (ha : atI xs i = some v) (q : Q v H) : rIxL K (.ref p) (.int i) H Q := ⟨p, xs, i, v, rfl, rfl, SqL.of h, ha, q⟩
end
end L2

namespace L2
open PySem PySem.Spec PyProof.Rows
section
variable {σ : St} {H : Hp} {Q : VK} {K : PySem.W.Frag} {v x y : V} {N : St → Hp → Prop} {S : Hp → Prop} {p : Addr} {o : HO}
theorem rd_new {n : Nat} {F : Addr → Prop} (h : n ≤ sizeLine) (q : ∀ p, H p = none → F p) : n ≤ sizeLine ∧ ∀ p, H p = none → F p := ⟨h, q⟩
theorem rd_back {P : Prop} (hp : H p = none) (q : P) : Same H (upd H p o) ∧ P := ⟨same_new hp, q⟩
theorem rd_backR {P : Prop} (q : P) : Same H H ∧ P := ⟨Same.refl H, q⟩
instance st_backR {P : Prop} : Stp (Same H H ∧ P) (P) := ⟨fun h => rd_backR h⟩
theorem inV2 {i a b : Int} : inV (.int i) [.int a, .int b] = decide (i = a ∨ i = b) := by
  simp only [inV, eqV, List.any_cons, List.any_nil, Bool.or_false]
  by_cases h1 : i = a
  · subst h1
    simp
  · by_cases h2 : i = b
    · subst h2
      simp
    · have e1 : (a == i) = false := by simpa using Ne.symm h1
      have e2 : (b == i) = false := by simpa using Ne.symm h2
      rw [e1, e2]
      simp [h1, h2]
theorem rd_in2 {i a b : Int} (q : Q (.bl (decide (i = a ∨ i = b))) (upd H p (.tup [.int a, .int b]))) : rIn K false (.int i) (.ref p) (upd H p (.tup [.int a, .int b])) Q :=
  ⟨p, _, rfl, .inr (SqT.of upd_same), rfl, rfl, by
    show Q (.bl (inV (.int i) [.int a, .int b])) _
    rw [inV2]
    exact q⟩
instance st_in2 {i a b : Int} : Stp (rIn K false (.int i) (.ref p) (upd H p (.tup [.int a, .int b])) Q) (Q (.bl (decide (i = a ∨ i = b))) (upd H p (.tup [.int a, .int b]))) := ⟨fun h => rd_in2 h⟩
theorem rd_gtup {a : Addr} {xs : List V} {n : Nat} {t : TGs} (h : SqT K H a xs) (hn : xs.length = n) (q : t xs σ H N) : gTup K n t (.ref a) σ H N := ⟨a, xs, rfl, h, hn, q⟩
theorem rd_gcons {t : TG} {u : TGs} {xs : List V} (q : t x σ H fun σ' H' => u xs σ' H' N) : gCons t u (x :: xs) σ H N := ⟨x, xs, rfl, q⟩
instance st_gcons {t : TG} {u : TGs} {xs : List V} : Stp (gCons t u (x :: xs) σ H N) (t x σ H fun σ' H' => u xs σ' H' N) := ⟨fun h => rd_gcons h⟩
theorem rd_gnil (q : N σ H) : gNil [] σ H N := ⟨rfl, q⟩
instance st_gnil  : Stp (gNil [] σ H N) (N σ H) := ⟨fun h => rd_gnil h⟩
theorem rd_bm {T : String} {r : V → List V → Hp → VK → Prop} {to : TE} {t : TA} (h : to σ H fun x H1 => tyV K T x H1 ∧ t σ H1 fun xs H2 => r x xs H2 Q) : tBM K T r to t σ H Q := h
instance st_bm {T : String} {r : V → List V → Hp → VK → Prop} {to : TE} {t : TA} : Stp (tBM K T r to t σ H Q) (to σ H fun x H1 => tyV K T x H1 ∧ t σ H1 fun xs H2 => r x xs H2 Q) := ⟨fun h => rd_bm h⟩
theorem rd_bm0 {T : String} {r : V → List V → Hp → VK → Prop} {to : TE} (h : to σ H fun x H1 => tyV K T x H1 ∧ r x [] H1 Q) : tBM0 K T r to σ H Q := h
instance st_bm0 {T : String} {r : V → List V → Hp → VK → Prop} {to : TE} : Stp (tBM0 K T r to σ H Q) (to σ H fun x H1 => tyV K T x H1 ∧ r x [] H1 Q) := ⟨fun h => rd_bm0 h⟩
theorem rd_tyL {xs : List V} {P : Prop} (h : H p = some (.lst xs)) (q : P) : tyV K "list" (.ref p) H ∧ P := ⟨.inl ⟨rfl, _, SqL.of h⟩, q⟩
theorem rd_append {xs : List V} (h : H p = some (.lst xs)) (hl : xs.length < sizeLine) (q : Q .non (upd H p (.lst (xs ++ [y])))) : rAppend (.ref p) [y] H Q := ⟨p, xs, y, rfl, rfl, h, hl, q⟩
theorem same_upd2 {H' : Hp} {o1 : HO} (h : Same H H') (hp : H p = none) : Same H (upd H' p o1) := fun b x e => by
  rw [upd_ne (ne_of_none e hp)]
  exact h b x e
theorem upd_keep {q : Addr} {u : HO} (h : H p = some o) (hq : H q = none) : upd H q u p = some o := (upd_ne (ne_of_none h hq)).trans h
theorem upd_lst {H : Hp} {p : Addr} {a b : HO} : upd (upd H p a) p b = upd H p b := upd_upd
/-- the raising, its argument read -/
theorem rd_err {C : Addr} {n : Nat} {fl : List V → List (Str × V)} {vs : List V} {Q : XK} (hl : vs.length = n) (hn : n ≤ 1000) (h : ∀ d, H d = none → Q (.ref C) (some d) (upd H d (.xd (fl vs)))) : True := trivial
end
end L2

namespace L2
open PySem PySem.Spec PyProof.Rows
theorem rd_cut {σ : St} {H : Hp} {t u : TS} {nx : St → Hp → Prop} {rt : VK} {bk ct : St → Hp → Prop} (Mid : St → Hp → Prop) (h : t ⟨Mid, rt, bk, ct⟩ σ H) (q : ∀ σ' H', Mid σ' H' → u ⟨nx, rt, bk, ct⟩ σ' H') : C8.tCut t u ⟨nx, rt, bk, ct⟩ σ H := ⟨Mid, h, q⟩
/-! ### built-ins, by name -/
def rLenQ (K : PySem.W.Frag) : List V → Hp → VK → Prop := fun xs H Q => ∃ p ys, xs = [.ref p] ∧ (SqL K H p ys ∨ SqT K H p ys) ∧ Q (.int ys.length) H
def rLenS : List V → Hp → VK → Prop := fun xs H Q => ∃ z, xs = [.str z] ∧ z.length ≤ sizeLine ∧ Q (.int z.length) H
def rAbs : List V → Hp → VK → Prop := fun xs H Q => ∃ i, xs = [.int i] ∧ Q (.int (if i < 0 then -i else i)) H
def rMax2 : List V → Hp → VK → Prop := fun xs H Q => ∃ i j, xs = [.int i, .int j] ∧ Q (.int (if j > i then j else i)) H
def rMin2 : List V → Hp → VK → Prop := fun xs H Q => ∃ i j, xs = [.int i, .int j] ∧ Q (.int (if j < i then j else i)) H
def rInt1 : List V → Hp → VK → Prop := fun xs H Q => (∃ i, xs = [.int i] ∧ Q (.int i) H) ∨ ∃ k, xs = [.bl k] ∧ Q (.int (if k then 1 else 0)) H
def rListOf (K : PySem.W.Frag) : List V → Hp → VK → Prop := fun xs H Q => ∃ p ys, xs = [.ref p] ∧ (SqL K H p ys ∨ SqT K H p ys) ∧ ∀ l, H l = none → Q (.ref l) (upd H l (.lst ys))
section
variable {X : Cx}
theorem c_len : CallR X (.builtin "len") (rLenQ X.K) := call_len_seq
theorem c_lenS : CallR X (.builtin "len") rLenS := call_len_str
theorem c_abs : CallR X (.builtin "abs") rAbs := call_abs
theorem c_max2 (hc : X.calm = true) : CallR X (.builtin "max") rMax2 := call_max2 hc
theorem c_min2 (hc : X.calm = true) : CallR X (.builtin "min") rMin2 := call_min2 hc
theorem c_int1 : CallR X (.type "int") rInt1 := call_int1
theorem c_listOf : CallR X (.type "list") (rListOf X.K) := call_list_of
end
section
variable {H : Hp} {Q : VK} {K : PySem.W.Frag} {i j : Int} {p : Addr} {ys : List V}
theorem rd_abs (q : Q (.int (if i < 0 then -i else i)) H) : rAbs [.int i] H Q := ⟨i, rfl, q⟩
instance st_abs  : Stp (rAbs [.int i] H Q) (Q (.int (if i < 0 then -i else i)) H) := ⟨fun h => rd_abs h⟩
theorem rd_max2 (q : Q (.int (if j > i then j else i)) H) : rMax2 [.int i, .int j] H Q := ⟨i, j, rfl, q⟩
instance st_max2  : Stp (rMax2 [.int i, .int j] H Q) (Q (.int (if j > i then j else i)) H) := ⟨fun h => rd_max2 h⟩
theorem rd_min2 (q : Q (.int (if j < i then j else i)) H) : rMin2 [.int i, .int j] H Q := ⟨i, j, rfl, q⟩
instance st_min2  : Stp (rMin2 [.int i, .int j] H Q) (Q (.int (if j < i then j else i)) H) := ⟨fun h => rd_min2 h⟩
theorem rd_int (q : Q (.int i) H) : rInt1 [.int i] H Q := .inl ⟨i, rfl, q⟩
instance st_int  : Stp (rInt1 [.int i] H Q) (Q (.int i) H) := ⟨fun h => rd_int h⟩
theorem rd_intB {b : Bool} (q : Q (.int (if b then 1 else 0)) H) : rInt1 [.bl b] H Q := .inr ⟨b, rfl, q⟩
instance st_intB {b : Bool} : Stp (rInt1 [.bl b] H Q) (Q (.int (if b then 1 else 0)) H) := ⟨fun h => rd_intB h⟩
theorem rd_lenL (h : SqL K H p ys) (q : Q (.int ys.length) H) : rLenQ K [.ref p] H Q := ⟨p, ys, rfl, .inl h, q⟩
theorem rd_lenT (h : SqT K H p ys) (q : Q (.int ys.length) H) : rLenQ K [.ref p] H Q := ⟨p, ys, rfl, .inr h, q⟩
theorem rd_lenS {z : Str} (h : z.length ≤ sizeLine) (q : Q (.int z.length) H) : rLenS [.str z] H Q := ⟨z, rfl, h, q⟩
theorem rd_listOfL (h : SqL K H p ys) (q : ∀ l, H l = none → Q (.ref l) (upd H l (.lst ys))) : rListOf K [.ref p] H Q := ⟨p, ys, rfl, .inl h, q⟩
theorem rd_listOfT (h : SqT K H p ys) (q : ∀ l, H l = none → Q (.ref l) (upd H l (.lst ys))) : rListOf K [.ref p] H Q := ⟨p, ys, rfl, .inr h, q⟩
end
end L2

namespace L2
open PySem PySem.Spec PyProof.Rows
/-- a power with a written exponent -/
def rPowN (e : Nat) : R2 := fun x y H Q => ∃ i, x = .int i ∧ y = .int (e : Int) ∧ e ≤ 1000000 ∧ i.natAbs < 2 ^ 64 ∧ Q (.int (i ^ e)) H
theorem op_powN {X : Cx} (e : Nat) : OpR X (binaryOp .Pow) (rPowN e) := fun pins s σ H x y v u Q I rx ry ⟨i, e1, e2, h1, h2, q⟩ =>
  op_pow pins s σ H x y v u Q I rx ry ⟨i, (e : Int), e1, e2, ⟨Int.natCast_nonneg _, by omega, h2⟩, q⟩
theorem rd_powN {e : Nat} {i z : Int} {H : Hp} {Q : VK} (hz : z = (e : Int)) (h1 : e ≤ 1000000) (h2 : i.natAbs < 2 ^ 64) (q : Q (.int (i ^ e)) H) : rPowN e (.int i) (.int z) H Q := ⟨i, rfl, by rw [hz], h1, h2, q⟩
end L2

namespace L2
open PySem PySem.Spec PyProof.Rows
/-! ### a def of the text, and what it keeps -/
structure DefAt (K : PySem.W.Frag) (mg : Str → Option Value) (x : Str) (st : Stmt) (ps : List Str) : Prop where
  ex : ∃ (f : Addr) (fd : FuncData), Fun K x x st f fd ∧ mg x = some (.ref f) ∧ Binds K fd ps []
structure Def (P : Program) (w : World) (K : PySem.W.Frag) (mg : Str → Option Value) (base : Heap) (k : Nat) (x : Str) (ps : List Str) (sp : Sp) : Prop where
  ex : ∃ (f : Addr) (fd : FuncData), FnOk P w K mg base (L2.CX P w) k f fd ps sp ∧ mg x = some (.ref f) ∧ PySem.W.keepIn K (.ref f) = true ∧ Binds K fd ps []
section
variable {P : Program} {w : World} {K : PySem.W.Frag} {mg : Str → Option Value} {base : Heap}
theorem DefAt.ok {x : Str} {st : Stmt} {N ps : List Str} {k : Nat} {sp : Sp} (D : DefAt K mg x st ps) (S : FnScope N ps (defScope st)) (len : ∀ vs H Q E, sp vs H Q E → vs.length = ps.length)
    (hbody : ∀ (f : Addr) (cdv : Value) (A : Around) (outer : List Env) (s : Shared) (H : Hp) (vs : List V) (Q : VK) (E : XK), Room k (A.deeper (envOfC x (defScope st) s.heap.objs.size f cdv)) → sp vs H Q E →
      ∃ t, PSs (cxOf (L2.CX P w) P w K mg base N x (defScope st) f cdv A outer s H E) (defBody st) t ∧ t ⟨fun _ H' => Q .non H', Q, fun _ _ => False, fun _ _ => False⟩ (start N vs) H) : Def P w K mg base (k + 1) x ps sp := by
  obtain ⟨f, fd, F, g, b⟩ := D.ex
  exact ⟨f, fd, F.okX S len fun cdv A outer s H vs Q E hr h => hbody f cdv A outer s H vs Q E hr h, g, F.kp, b⟩
theorem Def.imp {k : Nat} {x : Str} {ps : List Str} {sp sp' : Sp} (D : Def P w K mg base k x ps sp) (h : ∀ vs H Q E, sp' vs H Q E → sp vs H Q E) : Def P w K mg base k x ps sp' := by
  obtain ⟨f, fd, F, g, kp, b⟩ := D.ex
  exact ⟨f, fd, F.imp h, g, kp, b⟩
theorem Def.mono {j k : Nat} {x : Str} {ps : List Str} {sp : Sp} (D : Def P w K mg base j x ps sp) (h : j ≤ k) : Def P w K mg base k x ps sp := by
  obtain ⟨f, fd, F, g, kp, b⟩ := D.ex
  exact ⟨f, fd, F.mono h, g, kp, b⟩
theorem Def.forget {k : Nat} {x : Str} {ps : List Str} {sp : Sp} (D : Def P w K mg base k x ps sp) : Def P w K mg base k x ps (fun vs H Q E => NoT H ∧ sp vs H (fun v H' => Same H H' ∧ Q v H) E) := by
  obtain ⟨f, fd, F, g, kp, b⟩ := D.ex
  exact ⟨f, fd, fn_forget F, g, kp, b⟩
end
section
variable {X : Cx}
theorem pe_d {k : Nat} {x : Str} {ps : List Str} {sp : Sp} {E : XK} {p pos : Pos} {e : Expr} {es : List Expr} {t : TA} (D : Def X.prog X.w X.K X.mg X.base k x ps sp) (hr : Room k X.A) (hx : Passes (L2.CX X.prog X.w) X E) (ha : PA X (e :: es) t) (hg : Gl X x := by rfl)
    (hd : (x == ("__debug__" : Str)) = false := by decide) (he : starEach (e :: es) X.env = (false, eval e X.env) :: starEach es X.env := by rfl) (hpl : (backTo pos (starEach es X.env)).any (·.1) = false := by rfl) :
    PE X (.Call (.Name x p) (e :: es) [] pos) (tCall sp [] E t) := by
  obtain ⟨f, fd, F, g, kp, b⟩ := D.ex
  exact pe_call F hr hg g kp b .nil hx ha hd he hpl
theorem pe_d0 {k : Nat} {x : Str} {ps : List Str} {sp : Sp} {E : XK} {p pos : Pos} (D : Def X.prog X.w X.K X.mg X.base k x ps sp) (hr : Room k X.A) (hx : Passes (L2.CX X.prog X.w) X E) (hg : Gl X x := by rfl) (hd : (x == ("__debug__" : Str)) = false := by decide) :
    PE X (.Call (.Name x p) [] [] pos) (tCall sp [] E tNil) := by
  obtain ⟨f, fd, F, g, kp, b⟩ := D.ex
  exact pe_call0 F hr hg g kp b .nil hx hd
/-- within a try's body: what is raised is wished for at the caller's slots -/
theorem pe_dS {k : Nat} {x : Str} {ps : List Str} {sp : Sp} {W : WX} {p pos : Pos} {e : Expr} {es : List Expr} {t : TA} (D : Def X.prog X.w X.K X.mg X.base k x ps sp) (hr : Room k X.A) (tk : Takes X W) (ha : PA X (e :: es) t) (hg : Gl X x := by rfl)
    (hd : (x == ("__debug__" : Str)) = false := by decide) (he : starEach (e :: es) X.env = (false, eval e X.env) :: starEach es X.env := by rfl) (hpl : (backTo pos (starEach es X.env)).any (·.1) = false := by rfl) :
    PE X (.Call (.Name x p) (e :: es) [] pos) (tCallS sp (WE W) t) := by
  obtain ⟨f, fd, F, g, kp, b⟩ := D.ex
  exact pe_callS F hr hg g kp b (fun σ => passAt tk σ) ha hd he hpl
theorem rd_callS {sp : Sp} {W : WX} {tr : TA} {σ : St} {H : Hp} {Q : VK} (h : tr σ H fun vs H1 => sp vs H1 Q (WE W σ)) : tCallS sp (WE W) tr σ H Q := h
instance st_callS {sp : Sp} {W : WX} {tr : TA} {σ : St} {H : Hp} {Q : VK} : Stp (tCallS sp (WE W) tr σ H Q) (tr σ H fun vs H1 => sp vs H1 Q (WE W σ)) := ⟨fun h => rd_callS h⟩
end
/-! ### the program's own errors -/
/-- what the top has written of ClockError, at CC -/
structure BaseC (K : PySem.W.Frag) (mg : Str → Option Value) (CC : Addr) : Prop where
  g : mg "ClockError" = some (.ref CC)
  rd : PySem.W.readsIn K CC (.type "type") = true
  ga : PySem.W.specialIn K (.ref CC) "__getattribute__" = some (some (.builtin "type.__getattribute__"))
  ini : PySem.W.findCls K (.ref CC) (.type "type") "__init__" = some (.val (.builtin "ValueError.__init__"))
section
variable {X : Cx} {e : Expr} {es : List Expr} {ta : TA} {p1 p2 pos : Pos}
theorem pe_ceinit {pl : Sem Bool} {CC : Addr} (B : BaseC X.K X.mg CC) (ha : PA X (e :: es) ta) (hg : Gl X "ClockError" := by rfl)
    (hc : eval (.Call (.Attribute (.Name "ClockError" p1) "__init__" p2) (e :: es) [] pos) X.env = (do
      let ov ← eval (.Name "ClockError" p1) X.env
      standAt p2.atName
      let (f, first) ← holding [ov] (getMethod ov "__init__" pl)
      callWith pos f first (backTo pos (starEach (e :: es) X.env)) (backToKw pos (keywordEach [] X.env))) := by rfl)
    (he : starEach (e :: es) X.env = (false, eval e X.env) :: starEach es X.env := by rfl) (hpl : (backTo pos (starEach es X.env)).any (·.1) = false := by rfl) :
    PE X (.Call (.Attribute (.Name "ClockError" p1) "__init__" p2) (e :: es) [] pos) (tVeI X.K ta) := by
  refine ⟨fun pins s σ H Q I h => ?_⟩
  refine PySem.W.methodCall_KW (ld_glob I hg B.g ?_ (by decide)) hc
  refine PySem.W.method_cls I.kIn B.ga (PySem.W.cls_value I.kIn B.rd B.ini (by decide +kernel) ?_)
  show wpAny _ _ (callWith pos (Value.builtin "ValueError.__init__") [] (backTo pos (starEach (e :: es) X.env)) []) _ _ _
  refine PyProof.Rows.callWith_method1 (thn (ha.run pos pins _ σ H _ (I.tok _) h) fun us s1 ⟨vs, H1, I1, r1, a, C, ws, ev, hl, T, ea, q⟩ => ?_) he hpl
  subst ev
  cases r1 with
  | @cons _ u0 _ ur ra rw' =>
    obtain rfl : u0 = Value.ref a := ra
    have hlen : ur.length ≤ sizeLine := by
      rw [← Paired.length rw', sizeLine_eq]
      omega
    exact oinit_ok T I1 ea hlen fun s' J => ⟨.non, H1, J, rfl, q⟩
end
/-- __init__ of an error with fields: the values ws become fl ws -/
def spErr (C : Addr) (n : Nat) (fl : List V → List (Str × V)) : Sp := fun vs H Q _ => ∃ (a : Addr) (ws : List V), vs = .ref a :: ws ∧ ws.length = n ∧ H a = some (exo a C none) ∧
  ∀ dx, H dx = none → dx ≠ a → Q .non (upd (upd H dx (exd dx (fl ws))) a (exo a C (some dx)))
/-- a class of the program's errors: raised by its name, with n values, the fields fl -/
structure ErrC (P : Program) (w : World) (K : PySem.W.Frag) (mg : Str → Option Value) (base : Heap) (x : Str) (n : Nat) (fl : List V → List (Str × V)) (C : Addr) : Prop where
  g : mg x = some (.ref C)
  T : OexC K C
  X : XfC K C
  self : PySem.W.exmOne K (.ref C) (.ref C) = some true
  ini : ∃ (fI : Addr) (fd : FuncData) (ps : List Str), PySem.W.findIn K (.ref C) "__init__" = some (some (.ref fI)) ∧ PySem.W.typeIn K (.ref fI) = some (.type "function") ∧ FnOk P w K mg base (L2.CX P w) 1 fI fd ps (spErr C n fl) ∧ Binds K fd ps []
theorem pmk_err {X : Cx} {x : Str} {C : Addr} {n : Nat} {fl : List V → List (Str × V)} {e : Expr} {es : List Expr} {ta : TA} {p pos : Pos} (Z : ErrC X.prog X.w X.K X.mg X.base x n fl C) (hr : Room 2 X.A) (ha : PA X (e :: es) ta) (hg : Gl X x := by rfl)
    (hdb : (x == ("__debug__" : Str)) = false := by decide) (he : starEach (e :: es) X.env = (false, eval e X.env) :: starEach es X.env := by rfl) (hpl : (backTo pos (starEach es X.env)).any (·.1) = false := by rfl) :
    PMk X (.Call (.Name x p) (e :: es) [] pos) (tMkO C (spErr C n fl) [] ta) := by
  obtain ⟨fI, fd, ps, iC, tI, F, b⟩ := Z.ini
  exact pmk_oex Z.T iC tI F hr b .nil passL hg Z.g ha hdb he hpl
/-- what the raising asks -/
theorem rd_mk {C : Addr} {n : Nat} {fl : List V → List (Str × V)} {ta : TA} {σ : St} {H : Hp} {Q : XK} (h : ta σ H fun vs H1 => vs.length ≤ 1000 ∧ ∀ a, H1 a = none → spErr C n fl (.ref a :: (vs ++ [])) (upd H1 a (exo a C none))
  (fun v H2 => v = .non ∧ ∃ (d : Addr) (fs : List (Str × V)), H2 a = some (exo a C (some d)) ∧ H2 d = some (exd d fs) ∧ H1 d = none ∧ Q (.ref C) (some d) (upd (del H2 a) d (.xd fs))) (fun _ _ _ => False)) : tMkO C (spErr C n fl) [] ta σ H Q := h
instance st_mk {C : Addr} {n : Nat} {fl : List V → List (Str × V)} {ta : TA} {σ : St} {H : Hp} {Q : XK} : Stp (tMkO C (spErr C n fl) [] ta σ H Q) (ta σ H fun vs H1 => vs.length ≤ 1000 ∧ ∀ a, H1 a = none → spErr C n fl (.ref a :: (vs ++ [])) (upd H1 a (exo a C none))
  (fun v H2 => v = .non ∧ ∃ (d : Addr) (fs : List (Str × V)), H2 a = some (exo a C (some d)) ∧ H2 d = some (exd d fs) ∧ H1 d = none ∧ Q (.ref C) (some d) (upd (del H2 a) d (.xd fs))) (fun _ _ _ => False)) := ⟨fun h => rd_mk h⟩
theorem rd_mk1 {C : Addr} {n : Nat} {fl : List V → List (Str × V)} {vs : List V} {H1 : Hp} {Q : XK} (hl : vs.length = n) (hn : n ≤ 1000) (h : ∀ d, H1 d = none → Q (.ref C) (some d) (upd H1 d (.xd (fl vs)))) :
    vs.length ≤ 1000 ∧ ∀ a, H1 a = none → spErr C n fl (.ref a :: (vs ++ [])) (upd H1 a (exo a C none))
      (fun v H2 => v = .non ∧ ∃ (d : Addr) (fs : List (Str × V)), H2 a = some (exo a C (some d)) ∧ H2 d = some (exd d fs) ∧ H1 d = none ∧ Q (.ref C) (some d) (upd (del H2 a) d (.xd fs))) (fun _ _ _ => False) := by
  refine ⟨by omega, fun a na => ⟨a, vs, by rw [List.append_nil], hl, upd_same, fun dx nd ne => ⟨rfl, dx, fl vs, upd_same, ?_, ?_, ?_⟩⟩⟩
  · rw [upd_ne ne, upd_same]
  · rw [upd_ne ne] at nd
    exact nd
  · have nd' : H1 dx = none := by
      rw [upd_ne ne] at nd
      exact nd
    have z := h dx nd'
    have eq : upd (del (upd (upd (upd H1 a (exo a C none)) dx (exd dx (fl vs))) a (exo a C (some dx))) a) dx (.xd (fl vs)) = upd H1 dx (.xd (fl vs)) := by
      funext b
      by_cases hb : b = dx
      · rw [hb, upd_same, upd_same]
      · rw [upd_ne hb, upd_ne hb]
        by_cases ha : b = a
        · rw [ha, del_same, na]
        · rw [del_ne ha, upd_ne ha, upd_ne hb, upd_ne ha]
    rw [eq]
    exact z
end L2

namespace L2
open PySem PySem.Spec PyProof.Rows
/-- what the top has written of an error's class -/
structure ErrRaw (K : PySem.W.Frag) (mg : Str → Option Value) (x : Str) (C : Addr) (sI : Stmt) (qual : Str) (ps : List Str) : Prop where
  g : mg x = some (.ref C)
  T : OexC K C
  X : XfC K C
  self : PySem.W.exmOne K (.ref C) (.ref C) = some true
  ini : ∃ (fI : Addr) (fd : FuncData), PySem.W.findIn K (.ref C) "__init__" = some (some (.ref fI)) ∧ PySem.W.typeIn K (.ref fI) = some (.type "function") ∧ Fun K "__init__" qual sI fI fd ∧ Binds K fd ps []
theorem ErrC.of {P : Program} {w : World} {K : PySem.W.Frag} {mg : Str → Option Value} {base : Heap} {x : Str} {C : Addr} {sI : Stmt} {qual : Str} {ps : List Str} {n : Nat} {fl : List V → List (Str × V)} (R : ErrRaw K mg x C sI qual ps)
    (h : ∀ (fI : Addr) (fd : FuncData), Fun K "__init__" qual sI fI fd → FnOk P w K mg base (L2.CX P w) 1 fI fd ps (spErr C n fl)) : ErrC P w K mg base x n fl C := by
  obtain ⟨fI, fd, i, t, F, b⟩ := R.ini
  exact ⟨R.g, R.T, R.X, R.self, fI, fd, ps, i, t, h fI fd F, b⟩
/-- an error of the class at S is what «except S» names -/
theorem exm_self {K : PySem.W.Frag} {S : Addr} (h1 : PySem.W.subIn K (.ref S) (.type "BaseException") = some true) (h2 : PySem.W.isClsIn K S = true) (h3 : PySem.W.typeIn K (.ref S) = some (.type "type")) (h4 : PySem.W.subIn K (.ref S) (.ref S) = some true) :
    PySem.W.exmOne K (.ref S) (.ref S) = some true := by
  have e1 : (PySem.W.subIn K (.ref S) (.type "BaseException") == some true) = true := by rw [h1] <;> rfl
  have e2 : ((PySem.W.clsIn K S).isSome && PySem.W.typeIn K (.ref S) == some (.type "type")) = true := by
    have h2' : (PySem.W.clsIn K S).isSome = true := h2
    rw [h2', h3] <;> rfl
  show (if (PySem.W.subIn K (.ref S) (.type "BaseException") == some true) = true then (if ((PySem.W.clsIn K S).isSome && PySem.W.typeIn K (.ref S) == some (.type "type")) = true then PySem.W.subIn K (.ref S) (.ref S) else none) else none) = some true
  rw [if_pos e1, if_pos e2]
  exact h4
theorem NoT.only {H : Hp} (h : Only H) : NoT H := fun a o e => by
  rcases h a with z | ⟨u, xs, z⟩
  · rw [z] at e
    cases e
  · rw [z] at e
    cases e
    rfl
theorem len_1 {α : Type} {ws : List α} (h : ws.length = 1) : ∃ a, ws = [a] := match ws, h with | [a], _ => ⟨a, rfl⟩
theorem len_2 {α : Type} {ws : List α} (h : ws.length = 2) : ∃ a b, ws = [a, b] := match ws, h with | [a, b], _ => ⟨a, b, rfl⟩
theorem len_3 {α : Type} {ws : List α} (h : ws.length = 3) : ∃ a b c, ws = [a, b, c] := match ws, h with | [a, b, c], _ => ⟨a, b, c, rfl⟩
/-- law's: a list of at most 63 ints is handed in, True comes out -/
def spLaw (K : PySem.W.Frag) : Sp := fun vs H Q _ => ∃ (a : Addr) (ns : List Int), vs = [.ref a] ∧ SqL K H a (ns.map V.int) ∧ ns.length ≤ 63 ∧ NoT H ∧ ∀ H', Q (.bl true) H'
end L2

namespace L2
open PySem PySem.Spec PyProof.Rows
/-! ### what is walked, by name -/
def rRng1 (S : It → Hp → Prop) (vs : List V) (H : Hp) : Prop := ∃ j : Int, vs = [.int j] ∧ -(2 ^ 62) ≤ j ∧ j < 2 ^ 62 ∧ S (Itr 0 j.toNat) H
def rRng2 (S : It → Hp → Prop) (vs : List V) (H : Hp) : Prop := ∃ i j : Int, vs = [.int i, .int j] ∧ (-(2 ^ 62) ≤ i ∧ i < 2 ^ 62 ∧ -(2 ^ 62) ≤ j ∧ j < 2 ^ 62) ∧ S (Itr i (j - i).toNat) H
def rItL (K : PySem.W.Frag) (S : It → Hp → Prop) (x : V) (H : Hp) : Prop := ∃ a, x = .ref a ∧ (∃ xs, SqL K H a xs) ∧ S (Itl K a) H
def rItT (K : PySem.W.Frag) (S : It → Hp → Prop) (x : V) (H : Hp) : Prop := ∃ a, x = .ref a ∧ (∃ xs, SqT K H a xs) ∧ S (Itt K a) H
section
variable {σ : St} {H : Hp} {Q : VK} {K : PySem.W.Frag} {v x y : V} {ta te : TE} {tt : TT} {tr : TA} {S : It → Hp → Prop}
theorem rd_iR1 (h : tr σ H (rRng1 S)) : iRng1 tr σ H S := h
instance st_iR1  : Stp (iRng1 tr σ H S) (tr σ H (rRng1 S)) := ⟨fun h => rd_iR1 h⟩
theorem rd_iR2 (h : tr σ H (rRng2 S)) : iRng2 tr σ H S := h
instance st_iR2  : Stp (iRng2 tr σ H S) (tr σ H (rRng2 S)) := ⟨fun h => rd_iR2 h⟩
theorem rd_r1 {n : Int} (h1 : -(2 ^ 62) ≤ n) (h2 : n < 2 ^ 62) (q : S (Itr 0 n.toNat) H) : rRng1 S [.int n] H := ⟨n, rfl, h1, h2, q⟩
theorem rd_r2 {m n : Int} (h1 : -(2 ^ 62) ≤ m ∧ m < 2 ^ 62 ∧ -(2 ^ 62) ≤ n ∧ n < 2 ^ 62) (q : S (Itr m (n - m).toNat) H) : rRng2 S [.int m, .int n] H := ⟨m, n, rfl, h1, q⟩
theorem rd_iL (h : ta σ H (rItL K S)) : iList K ta σ H S := h
instance st_iL  : Stp (iList K ta σ H S) (ta σ H (rItL K S)) := ⟨fun h => rd_iL h⟩
theorem rd_iT (h : ta σ H (rItT K S)) : iTup K ta σ H S := h
instance st_iT  : Stp (iTup K ta σ H S) (ta σ H (rItT K S)) := ⟨fun h => rd_iT h⟩
theorem rd_iL1 {a : Addr} {xs : List V} (h : SqL K H a xs) (q : S (Itl K a) H) : rItL K S (.ref a) H := ⟨a, rfl, ⟨xs, h⟩, q⟩
theorem rd_iT1 {a : Addr} {xs : List V} (h : SqT K H a xs) (q : S (Itt K a) H) : rItT K S (.ref a) H := ⟨a, rfl, ⟨xs, h⟩, q⟩
/-! ### list comprehensions -/
def lcB (J : It) (g : TG) (tt : TT) (te : TE) (vs : List Nat) (σ : St) (Q : VK) (H1 : Hp) : Prop := ∀ D, H1 D = none → ∃ W : Nat → Nat → Hp → Prop, (∃ m, W 0 m (upd H1 D (.lst []))) ∧ ∀ i m H, W i m H →
  (J.stop i H ∧ Q (.ref D) H) ∨ (J.go i H ∧ ∃ Nx : Hp → Prop, (∀ H', Nx H' → ∃ m', m' < m ∧ W (i + 1) m' H') ∧ ∀ x H', J.yld i H x H' → g x (wipe σ vs) H' fun σ2 H2 => wipe σ2 vs = wipe σ vs ∧ tt σ2 H2 fun b H3 =>
    if b = true then te σ2 H3 fun y H4 => ∃ acc, H4 D = some (.lst acc) ∧ acc.length < sizeLine ∧ Nx (upd H4 D (.lst (acc ++ [y]))) else Nx H3)
theorem rd_lc {wi : TI} {g : TG} {vs : List Nat} (h : wi σ H fun J H1 => lcB J g tt te vs σ Q H1) : tLc wi g tt te vs σ H Q := h
instance st_lc {wi : TI} {g : TG} {vs : List Nat} : Stp (tLc wi g tt te vs σ H Q) (wi σ H fun J H1 => lcB J g tt te vs σ Q H1) := ⟨fun h => rd_lc h⟩
theorem rd_yes {R : Bool → Hp → Prop} (q : R true H) : tYes σ H R := q
instance st_yes {R : Bool → Hp → Prop} : Stp (tYes σ H R) (R true H) := ⟨fun h => rd_yes h⟩
/-- the item that was made goes onto the list; or none does -/
def LcPut (H : Hp) (D : Addr) (l0 l1 : List V) (y : V) (H4 : Hp) : Prop := ∃ acc, H4 D = some (.lst acc) ∧ acc.length < sizeLine ∧ upd H4 D (.lst (acc ++ [y])) = upd H D (.lst l1)
def LcSkip (H : Hp) (D : Addr) (l1 : List V) (H3 : Hp) : Prop := H3 = upd H D (.lst l1)
def resR (p : Nat → Bool) (f : Nat → V) (i : Nat) : List V := ((List.range i).filter p).map f
def resL (p : V → Bool) (f : V → V) (xs : List V) : List V := (xs.filter p).map f
theorem resR_len {p : Nat → Bool} {f : Nat → V} {i : Nat} : (resR p f i).length ≤ i := by
  unfold resR
  rw [List.length_map]
  have z : ((List.range i).filter p).length ≤ (List.range i).length := List.length_filter_le _ _
  rw [List.length_range] at z
  exact z
theorem resL_len {p : V → Bool} {f : V → V} {xs : List V} : (resL p f xs).length ≤ xs.length := by
  unfold resL
  rw [List.length_map]
  exact List.length_filter_le _ _
theorem put_R {D : Addr} {p : Nat → Bool} {f : Nat → V} {i : Nat} {y : V} (hi : i < 1000000) (hp : p i = true) (hy : y = f i) : LcPut H D (resR p f i) (resR p f (i + 1)) y (upd H D (.lst (resR p f i))) := by
  refine ⟨_, upd_same, Nat.lt_of_le_of_lt resR_len (Nat.lt_trans hi (by decide)), ?_⟩
  rw [upd_upd]
  unfold resR
  rw [List.range_succ, List.filter_append, List.map_append, hy]
  simp [hp]
theorem skip_R {D : Addr} {p : Nat → Bool} {f : Nat → V} {i : Nat} (hp : p i = false) : LcSkip H D (resR p f (i + 1)) (upd H D (.lst (resR p f i))) := by
  show upd H D _ = _
  unfold resR
  rw [List.range_succ, List.filter_append, List.map_append]
  simp [hp]
theorem put_L {D : Addr} {p : V → Bool} {f : V → V} {xs : List V} {x y : V} (hi : xs.length < 1000000) (hp : p x = true) (hy : y = f x) : LcPut H D (resL p f xs) (resL p f (xs ++ [x])) y (upd H D (.lst (resL p f xs))) := by
  refine ⟨_, upd_same, Nat.lt_of_le_of_lt resL_len (Nat.lt_trans hi (by decide)), ?_⟩
  rw [upd_upd]
  unfold resL
  rw [List.filter_append, List.map_append, hy]
  simp [hp]
theorem skip_L {D : Addr} {p : V → Bool} {f : V → V} {xs : List V} {x : V} (hp : p x = false) : LcSkip H D (resL p f (xs ++ [x])) (upd H D (.lst (resL p f xs))) := by
  show upd H D _ = _
  unfold resL
  rw [List.filter_append, List.map_append]
  simp [hp]
theorem rd_lcR {lo : Int} {n : Nat} {g : TG} {vs : List Nat} (p : Nat → Bool) (f : Nat → V)
    (hs : ∀ D i, H D = none → i < n → g (.int (lo + i)) (wipe σ vs) (upd H D (.lst (resR p f i))) fun σ2 H2 => wipe σ2 vs = wipe σ vs ∧ tt σ2 H2 fun b H3 => if b = true then te σ2 H3 (LcPut H D (resR p f i) (resR p f (i + 1))) else LcSkip H D (resR p f (i + 1)) H3)
    (q : ∀ D, H D = none → Q (.ref D) (upd H D (.lst (((List.range n).filter p).map f)))) : lcB (Itr lo n) g tt te vs σ Q H := by
  intro D hD
  refine ⟨fun i m H' => m = n - i ∧ i ≤ n ∧ H' = upd H D (.lst (resR p f i)), ⟨n, by simp, Nat.zero_le _, rfl⟩, ?_⟩
  rintro i m H' ⟨rfl, hi, rfl⟩
  by_cases hlt : i < n
  · refine .inr ⟨hlt, fun H' => H' = upd H D (.lst (resR p f (i + 1))), fun H' p' => ⟨n - (i + 1), by omega, rfl, hlt, p'⟩, fun x H' y => ?_⟩
    obtain ⟨e, y⟩ := y
    subst e y
    exact hs D i hD hlt
  · have e : i = n := by omega
    subst e
    exact .inl ⟨Nat.le_refl _, q D hD⟩
theorem rd_lcL {a : Addr} {xs : List V} {g : TG} {vs : List Nat} (p : V → Bool) (f : V → V) (hS : SqL K H a xs)
    (hs : ∀ D l x r, H D = none → xs = l ++ x :: r → g x (wipe σ vs) (upd H D (.lst (resL p f l))) fun σ2 H2 => wipe σ2 vs = wipe σ vs ∧ tt σ2 H2 fun b H3 => if b = true then te σ2 H3 (LcPut H D (resL p f l) (resL p f (l ++ [x]))) else LcSkip H D (resL p f (l ++ [x])) H3)
    (q : ∀ D, H D = none → Q (.ref D) (upd H D (.lst ((xs.filter p).map f)))) : lcB (Itl K a) g tt te vs σ Q H := by
  intro D hD
  refine ⟨fun i m H' => m = xs.length - i ∧ i ≤ xs.length ∧ H' = upd H D (.lst (resL p f (xs.take i))), ⟨xs.length, by simp, Nat.zero_le _, rfl⟩, ?_⟩
  rintro i m H' ⟨rfl, hi, rfl⟩
  have hS' : SqL K (upd H D (.lst (resL p f (xs.take i)))) a xs := (same_new hD).seq hS
  by_cases hlt : i < xs.length
  · have hx : xs[i]? = some xs[i] := by simp [hlt]
    have er : xs.take (i + 1) = xs.take i ++ [xs[i]] := by rw [List.take_add_one, hx]; rfl
    refine .inr ⟨⟨xs, xs[i], hS', hx⟩, fun H' => H' = upd H D (.lst (resL p f (xs.take (i + 1)))), fun H' p' => ⟨xs.length - (i + 1), by omega, rfl, hlt, p'⟩, fun x H' y => ?_⟩
    obtain ⟨e, y⟩ := y
    subst e
    have ex : x = xs[i] := Option.some.inj ((y xs hS').symm.trans hx)
    subst ex
    have z := hs D (xs.take i) xs[i] (xs.drop (i + 1)) hD (by rw [List.getElem_cons_drop, List.take_append_drop])
    rw [← er] at z
    exact z
  · have e : i = xs.length := by omega
    subst e
    rw [List.take_length]
    exact .inl ⟨⟨xs, (same_new hD).seq hS, Nat.le_refl _⟩, q D hD⟩
/-! ### deep equality -/
theorem rd_eqD {d e : PyData} (h1 : Dp K H x d) (h2 : Dp K H y e) (s1 : SeqAt.shaped d = true) (s2 : SeqAt.shaped e = true) (q : Q (.bl (PyData.eqv d e)) H) : rEqD K x y H Q := ⟨d, e, h1, h2, s1, s2, q⟩
theorem rd_neD {d e : PyData} (h1 : Dp K H x d) (h2 : Dp K H y e) (s1 : SeqAt.shaped d = true) (s2 : SeqAt.shaped e = true) (q : Q (.bl (!PyData.eqv d e)) H) : rNeD K x y H Q := ⟨d, e, h1, h2, s1, s2, q⟩
end
section
variable {K : PySem.W.Frag} {H : Hp}
theorem dpAll_ints : ∀ ns : List Int, DpAll K H (ns.map V.int) (ns.map PyData.int)
  | [] => .nil
  | n :: r => .cons (.int n) (dpAll_ints r)
theorem dpAll_bls : ∀ ns : List Bool, DpAll K H (ns.map V.bl) (ns.map PyData.bool)
  | [] => .nil
  | n :: r => .cons (.bl n) (dpAll_bls r)
theorem dp_ints {a : Addr} {ns : List Int} (h : SqL K H a (ns.map V.int)) : Dp K H (.ref a) (.list (ns.map PyData.int)) := .lst h (dpAll_ints ns)
theorem dp_bls {a : Addr} {ns : List Bool} (h : SqL K H a (ns.map V.bl)) : Dp K H (.ref a) (.list (ns.map PyData.bool)) := .lst h (dpAll_bls ns)
end
theorem lay_ints : ∀ ns : List Int, PyData.canLayAll0 (ns.map PyData.int) = true
  | [] => rfl
  | n :: r => by
    rw [List.map_cons]
    simp [PyData.canLayAll0, lay_ints r, PyData.canLay0]
theorem eqv_ints : ∀ ns ms : List Int, PyData.eqvAll (ns.map PyData.int) (ms.map PyData.int) = decide (ns = ms)
  | [], [] => rfl
  | [], _ :: _ => rfl
  | _ :: _, [] => rfl
  | n :: r, m :: s => by
    rw [List.map_cons, List.map_cons, PyData.eqvAll, eqv_ints r s]
    by_cases h : n = m
    · subst h
      simp [PyData.eqv]
    · have : (n == m) = false := by simpa using h
      simp [PyData.eqv, this, h]
theorem eqv_bls : ∀ ns ms : List Bool, PyData.eqvAll (ns.map PyData.bool) (ms.map PyData.bool) = decide (ns = ms)
  | [], [] => rfl
  | [], _ :: _ => rfl
  | _ :: _, [] => rfl
  | n :: r, m :: s => by
    rw [List.map_cons, List.map_cons, PyData.eqvAll, eqv_bls r s]
    by_cases h : n = m
    · subst h
      simp [PyData.eqv]
    · have : (n == m) = false := by simpa using h
      simp [PyData.eqv, this, h]
/-! ### a clause of a try -/
section
variable {σ : St} {H : Hp} {K : PySem.W.Frag} {nx : St → Hp → Prop} {rt : VK} {bk ct : St → Hp → Prop} {Q : VK} {te : TE}
theorem rd_was {c cls : Value} {i : Nat} {ts : Addr → Value → Option Addr → TS} {Wout : WX} {d : Option Addr} (hx : PySem.W.exmOne K cls c = some true)
    (q : ∀ a, H a = none → ts a cls d ⟨fun σ' H' => nx (σ'.set i none) H', rt, fun σ' H' => bk (σ'.set i none) H', fun σ' H' => ct (σ'.set i none) H'⟩ (σ.set i (some (.ref a))) H) : WE (wAs K c i ts Wout ⟨nx, rt, bk, ct⟩) σ cls d H :=
  ⟨true, hx, fun _ a h => q a h, fun h => nomatch h⟩
theorem rd_wonly {c cls : Value} {ts : Addr → Value → Option Addr → TS} {Wout : WX} {d : Option Addr} (hx : PySem.W.exmOne K cls c = some true)
    (q : ∀ a, H a = none → ts a cls d ⟨nx, rt, bk, ct⟩ σ H) : WE (wOnly K c ts Wout ⟨nx, rt, bk, ct⟩) σ cls d H :=
  ⟨true, hx, fun _ a h => q a h, fun h => nomatch h⟩
def XfB (a : Addr) (cls : Value) (d : Option Addr) (C : Addr) (f : Str) (x : V) (H1 : Hp) (Q : VK) : Prop := x = .ref a ∧ cls = .ref C ∧ ∃ (dd : Addr) (fs : List (Str × V)) (v : V), d = some dd ∧ H1 dd = some (.xd fs) ∧ fs.lookup f = some v ∧ Q v H1
theorem rd_xf {a C : Addr} {cls : Value} {d : Option Addr} {f : Str} (h : te σ H fun x H1 => XfB a cls d C f x H1 Q) : tXf a cls d C f te σ H Q := h
instance st_xf {a C : Addr} {cls : Value} {d : Option Addr} {f : Str} : Stp (tXf a cls d C f te σ H Q) (te σ H fun x H1 => XfB a cls d C f x H1 Q) := ⟨fun h => rd_xf h⟩
theorem rd_xfb {a C dd : Addr} {f : Str} {fs : List (Str × V)} {v : V} (h : H dd = some (.xd fs)) (hl : fs.lookup f = some v) (q : Q v H) : XfB a (.ref C) (some dd) C f (.ref a) H Q := ⟨rfl, rfl, dd, fs, v, rfl, h, hl, q⟩
end
end L2

namespace L2
open PySem PySem.Spec PyProof.Rows
section
variable {σ : St} {H : Hp} {Q : VK} {K : PySem.W.Frag} {N : St → Hp → Prop}
theorem rd_isiII {i : Int} (q : Q (.bl true) H) : rIsi K [.int i, .ty "int"] H Q := ⟨_, _, _, _, true, rfl, .ty _, .base (.int i), kit_ty (by decide +kernel), q⟩
instance st_isiII {i : Int} : Stp (rIsi K [.int i, .ty "int"] H Q) (Q (.bl true) H) := ⟨fun h => rd_isiII h⟩
theorem rd_isiIB {i : Int} (q : Q (.bl false) H) : rIsi K [.int i, .ty "bool"] H Q := ⟨_, _, _, _, false, rfl, .ty _, .base (.int i), kit_ty (by decide +kernel), q⟩
instance st_isiIB {i : Int} : Stp (rIsi K [.int i, .ty "bool"] H Q) (Q (.bl false) H) := ⟨fun h => rd_isiIB h⟩
theorem rd_isiBB {b : Bool} (q : Q (.bl true) H) : rIsi K [.bl b, .ty "bool"] H Q := ⟨_, _, _, _, true, rfl, .ty _, .base (.bl b), kit_ty (by decide +kernel), q⟩
instance st_isiBB {b : Bool} : Stp (rIsi K [.bl b, .ty "bool"] H Q) (Q (.bl true) H) := ⟨fun h => rd_isiBB h⟩
theorem rd_unl {a : Addr} {xs : List V} {n : Nat} {t : TGs} (h : SqL K H a xs) (hn : xs.length = n) (q : t xs σ H N) : gUnl K n t (.ref a) σ H N := ⟨a, xs, rfl, h, hn, q⟩
theorem rd_slL {a : Addr} {xs : List V} {lo hi : Option Int} (h : SqL K H a xs) (q : ∀ p, H p = none → Q (.ref p) (upd H p (.lst (cutV xs lo hi)))) : rSlL K (.ref a) lo hi H Q := ⟨a, xs, rfl, h, q⟩
theorem rd_sl {r : V → Option Int → Option Int → Hp → VK → Prop} {te : TE} {tl th : TO} (h : te σ H fun x H1 => tl σ H1 fun l H2 => th σ H2 fun u H3 => r x l u H3 Q) : tSl r te tl th σ H Q := h
instance st_sl {r : V → Option Int → Option Int → Hp → VK → Prop} {te : TE} {tl th : TO} : Stp (tSl r te tl th σ H Q) (te σ H fun x H1 => tl σ H1 fun l H2 => th σ H2 fun u H3 => r x l u H3 Q) := ⟨fun h => rd_sl h⟩
theorem rd_noPart {R : Option Int → Hp → Prop} (q : R none H) : tNoPart σ H R := q
instance st_noPart {R : Option Int → Hp → Prop} : Stp (tNoPart σ H R) (R none H) := ⟨fun h => rd_noPart h⟩
def rPart (R : Option Int → Hp → Prop) (x : V) (H : Hp) : Prop := ∃ i, x = .int i ∧ R (some i) H
theorem rd_part {te : TE} {R : Option Int → Hp → Prop} (h : te σ H (rPart R)) : tPart te σ H R := h
instance st_part {te : TE} {R : Option Int → Hp → Prop} : Stp (tPart te σ H R) (te σ H (rPart R)) := ⟨fun h => rd_part h⟩
theorem rd_part1 {i : Int} {R : Option Int → Hp → Prop} (q : R (some i) H) : rPart R (.int i) H := ⟨i, rfl, q⟩
instance st_part1 {i : Int} {R : Option Int → Hp → Prop} : Stp (rPart R (.int i) H) (R (some i) H) := ⟨fun h => rd_part1 h⟩
theorem rd_cat {l b : Addr} {xs zs : List V} (h1 : H l = some (.lst xs)) (h2 : H b = some (.lst zs)) (h3 : xs.length + zs.length ≤ sizeLine) (q : ∀ p, H p = none → Q (.ref p) (upd H p (.lst (xs ++ zs)))) : rCat (.ref l) (.ref b) H Q := ⟨l, b, xs, zs, rfl, rfl, h1, h2, h3, q⟩
end
end L2
namespace L2
theorem lt_pow_of {i : Int} {k : Nat} (h1 : -(2 ^ k) < i) (h2 : i < 2 ^ k) : i.natAbs < 2 ^ k := by
  have e : ((2 ^ k : Nat) : Int) = 2 ^ k := by rw [Int.natCast_pow]; rfl
  omega
theorem CMulB.wide {i j : Int} (h1 : -(2 ^ 250) < i ∧ i < 2 ^ 250) (h2 : -(2 ^ 250) < j ∧ j < 2 ^ 250) : CMulB i j :=
  .inr (wide_mul (lt_pow_of h1.1 h1.2) (lt_pow_of h2.1 h2.2) (by decide) (by decide) (by decide))
end L2
namespace L2
open PySem PySem.Spec PyProof.Rows
section
variable {H : Hp} {Q : VK} {K : PySem.W.Frag} {p : Addr}
theorem rd_in2L {i a b : Int} (q : Q (.bl (decide (i = a ∨ i = b))) (upd H p (.lst [.int a, .int b]))) : rIn K false (.int i) (.ref p) (upd H p (.lst [.int a, .int b])) Q :=
  ⟨p, _, rfl, .inl (SqL.of upd_same), rfl, rfl, by
    show Q (.bl (inV (.int i) [.int a, .int b])) _
    rw [inV2]
    exact q⟩
instance st_in2L {i a b : Int} : Stp (rIn K false (.int i) (.ref p) (upd H p (.lst [.int a, .int b])) Q) (Q (.bl (decide (i = a ∨ i = b))) (upd H p (.lst [.int a, .int b]))) := ⟨fun h => rd_in2L h⟩
theorem rd_nin2L {i a b : Int} (q : Q (.bl (!decide (i = a ∨ i = b))) (upd H p (.lst [.int a, .int b]))) : rIn K true (.int i) (.ref p) (upd H p (.lst [.int a, .int b])) Q :=
  ⟨p, _, rfl, .inl (SqL.of upd_same), rfl, rfl, by
    show Q (.bl (!inV (.int i) [.int a, .int b])) _
    rw [inV2]
    exact q⟩
instance st_nin2L {i a b : Int} : Stp (rIn K true (.int i) (.ref p) (upd H p (.lst [.int a, .int b])) Q) (Q (.bl (!decide (i = a ∨ i = b))) (upd H p (.lst [.int a, .int b]))) := ⟨fun h => rd_nin2L h⟩
theorem rd_nin2 {i a b : Int} (q : Q (.bl (!decide (i = a ∨ i = b))) (upd H p (.tup [.int a, .int b]))) : rIn K true (.int i) (.ref p) (upd H p (.tup [.int a, .int b])) Q :=
  ⟨p, _, rfl, .inr (SqT.of upd_same), rfl, rfl, by
    show Q (.bl (!inV (.int i) [.int a, .int b])) _
    rw [inV2]
    exact q⟩
instance st_nin2 {i a b : Int} : Stp (rIn K true (.int i) (.ref p) (upd H p (.tup [.int a, .int b])) Q) (Q (.bl (!decide (i = a ∨ i = b))) (upd H p (.tup [.int a, .int b]))) := ⟨fun h => rd_nin2 h⟩
theorem beq_str {a s : Str} : (a == s) = decide (s = a) := by
  rw [Bool.beq_eq_decide_eq]
  exact decide_eq_decide.mpr eq_comm
theorem inVs4 {s a b c d : Str} : inV (.str s) [.str a, .str b, .str c, .str d] = decide (s = a ∨ s = b ∨ s = c ∨ s = d) := by
  simp only [inV, eqV, List.any_cons, List.any_nil, Bool.or_false, Bool.decide_or, beq_str]
theorem rd_ninS4 {s a b c d : Str} (q : Q (.bl (!decide (s = a ∨ s = b ∨ s = c ∨ s = d))) (upd H p (.lst [.str a, .str b, .str c, .str d]))) : rIn K true (.str s) (.ref p) (upd H p (.lst [.str a, .str b, .str c, .str d])) Q :=
  ⟨p, _, rfl, .inl (SqL.of upd_same), rfl, rfl, by
    show Q (.bl (!inV (.str s) [.str a, .str b, .str c, .str d])) _
    rw [inVs4]
    exact q⟩
instance st_ninS4 {s a b c d : Str} : Stp (rIn K true (.str s) (.ref p) (upd H p (.lst [.str a, .str b, .str c, .str d])) Q) (Q (.bl (!decide (s = a ∨ s = b ∨ s = c ∨ s = d))) (upd H p (.lst [.str a, .str b, .str c, .str d]))) := ⟨fun h => rd_ninS4 h⟩
end
end L2
namespace L2
open PySem PySem.Spec PyProof.Rows
theorem lay_all : ∀ {ds : List PyData}, (∀ d ∈ ds, d.canLay0 = true ∧ d.depth ≤ 60) → PyData.canLayAll0 ds = true ∧ PyData.depthAll ds ≤ 60
  | [], _ => ⟨rfl, Nat.zero_le _⟩
  | d :: ds, h => by
    obtain ⟨a, b⟩ := lay_all (ds := ds) fun e he => h e (List.mem_cons_of_mem _ he)
    obtain ⟨c, e⟩ := h d (List.mem_cons_self ..)
    simp only [PyData.canLayAll0, PyData.depthAll]
    exact ⟨by rw [c, a]; rfl, Nat.max_le.mpr ⟨e, b⟩⟩
theorem shaped_list {ds : List PyData} (h : ∀ d ∈ ds, d.canLay0 = true ∧ d.depth ≤ 60) : SeqAt.shaped (.list ds) = true := by
  obtain ⟨a, b⟩ := lay_all h
  unfold SeqAt.shaped
  have : (PyData.list ds).canLay0 = true := a
  rw [this, Bool.true_and, decide_eq_true_eq]
  show PyData.depthAll ds + 1 ≤ 64
  omega
theorem shaped_ints (ns : List Int) : SeqAt.shaped (.list (ns.map PyData.int)) = true := shaped_list fun d hd => by
  obtain ⟨n, _, rfl⟩ := List.mem_map.mp hd
  exact ⟨rfl, by simp [PyData.depth]⟩
theorem shaped_bls (ns : List Bool) : SeqAt.shaped (.list (ns.map PyData.bool)) = true := shaped_list fun d hd => by
  obtain ⟨n, _, rfl⟩ := List.mem_map.mp hd
  exact ⟨rfl, by simp [PyData.depth]⟩
section
variable {H : Hp} {Q : VK} {K : PySem.W.Frag} {a b p : Addr}
/-- two lists of whole numbers -/
theorem rd_eqInts {ns ms : List Int} (h1 : SqL K H a (ns.map V.int)) (h2 : SqL K H b (ms.map V.int)) (q : Q (.bl (decide (ns = ms))) H) : rEqD K (.ref a) (.ref b) H Q :=
  ⟨_, _, dp_ints h1, dp_ints h2, shaped_ints _, shaped_ints _, by rw [PyData.eqv, eqv_ints]; exact q⟩
theorem rd_neInts {ns ms : List Int} (h1 : SqL K H a (ns.map V.int)) (h2 : SqL K H b (ms.map V.int)) (q : Q (.bl (!decide (ns = ms))) H) : rNeD K (.ref a) (.ref b) H Q :=
  ⟨_, _, dp_ints h1, dp_ints h2, shaped_ints _, shaped_ints _, by rw [PyData.eqv, eqv_ints]; exact q⟩
/-- equal data -/
theorem rd_neSame {x y : V} {d : PyData} (h1 : Dp K H x d) (h2 : Dp K H y d) (s : SeqAt.shaped d = true) (q : Q (.bl false) H) : rNeD K x y H Q :=
  ⟨d, d, h1, h2, s, s, by rw [SeqAt.eqv_refl d (SeqAt.canLay_of_shaped s)]; exact q⟩
theorem rd_eqSame {x y : V} {d : PyData} (h1 : Dp K H x d) (h2 : Dp K H y d) (s : SeqAt.shaped d = true) (q : Q (.bl true) H) : rEqD K x y H Q :=
  ⟨d, d, h1, h2, s, s, by rw [SeqAt.eqv_refl d (SeqAt.canLay_of_shaped s)]; exact q⟩
theorem rd_isiL {xs : List V} (h : H a = some (.lst xs)) (q : Q (.bl true) H) : rIsi K [.ref a, .ty "list"] H Q := ⟨_, _, _, _, true, rfl, .ty _, .base (.lst h), kit_ty (by decide +kernel), q⟩
theorem rd_isiT {xs : List V} (h : H a = some (.tup xs)) (q : Q (.bl true) H) : rIsi K [.ref a, .ty "tuple"] H Q := ⟨_, _, _, _, true, rfl, .ty _, .base (.tup h), kit_ty (by decide +kernel), q⟩
end
end L2

namespace L2
open PySem PySem.Spec PyProof.Rows
theorem Same.lst {K : PySem.W.Frag} {H0 H : Hp} {a : Addr} {xs : List V} (e : Same H0 H) (h : H0 a = some (.lst xs)) : SqL K H a xs := SqL.of (e _ _ h)
theorem ne_self {α : Type} [DecidableEq α] (a : α) : (!decide (a = a)) = false := by simp
end L2
namespace L2
theorem rd_neF {p A B : Prop} [Decidable p] (h : p) (q : B) : if (!decide p) = true then A else B := by
  rw [decide_eq_true h]
  exact q
theorem rd_eqT {p A B : Prop} [Decidable p] (h : p) (q : A) : if decide p = true then A else B := by
  rw [decide_eq_true h]
  exact q
end L2
namespace L2
open PySem PySem.Spec PyProof.Rows
theorem inV_ints {x : Int} : ∀ {ns : List Int}, inV (.int x) (ns.map V.int) = decide (x ∈ ns)
  | [] => by simp [inV]
  | n :: ns => by
    have := inV_ints (x := x) (ns := ns)
    unfold inV at *
    rw [List.map_cons, List.any_cons, this, eqV, Bool.beq_eq_decide_eq, ← Bool.decide_or]
    refine decide_eq_decide.mpr ?_
    rw [List.mem_cons]
    exact or_congr eq_comm Iff.rfl
theorem flat_ints : ∀ {ns : List Int}, (ns.map V.int).all flatV = true
  | [] => rfl
  | _ :: ns => by
    rw [List.map_cons, List.all_cons, flat_ints (ns := ns)]
    rfl
section
variable {σ : St} {H : Hp} {Q : VK} {K : PySem.W.Frag} {p : Addr} {te : TE} {tt : TC}
theorem rd_inIs {x : Int} {ns : List Int} (h : SqL K H p (ns.map V.int)) (q : Q (.bl (decide (x ∈ ns))) H) : rIn K false (.int x) (.ref p) H Q :=
  rd_inL h rfl flat_ints (by rw [inV_ints]; exact q)
theorem rd_ninIs {x : Int} {ns : List Int} (h : SqL K H p (ns.map V.int)) (q : Q (.bl (!decide (x ∈ ns))) H) : rIn K true (.int x) (.ref p) H Q :=
  ⟨p, _, rfl, .inl h, rfl, flat_ints, by rw [inV_ints]; exact q⟩
theorem all_map {n : Nat} {g : Nat → Int} : ((List.range n).filter (fun _ => true)).map (fun i => V.int (g i)) = ((List.range n).map g).map V.int := by
  rw [List.filter_eq_self.mpr (fun _ _ => rfl), List.map_map]
  rfl
end
end L2
namespace L2
open PySem PySem.Spec PyProof.Rows
section
variable {σ : St} {H : Hp} {Q : VK} {K : PySem.W.Frag} {te : TE} {tt : TT}
/-- a list comprehension over a range whose items come from what stands in the heap -/
theorem rd_lcRG {lo : Int} {n : Nat} {g : TG} {vs : List Nat} (J : Addr → Nat → List V → Hp → Prop) (h0 : ∀ D, H D = none → J D 0 [] (upd H D (.lst [])))
    (hs : ∀ D i ys H', H D = none → i < n → H' D = some (.lst ys) → J D i ys H' → g (.int (lo + i)) (wipe σ vs) H' fun σ2 H2 => wipe σ2 vs = wipe σ vs ∧ tt σ2 H2 fun b H3 => if b = true then te σ2 H3 (fun y H4 => ∃ acc, H4 D = some (.lst acc) ∧ acc.length < sizeLine ∧ ∃ ys, (upd H4 D (.lst (acc ++ [y]))) D = some (.lst ys) ∧ J D (i + 1) ys (upd H4 D (.lst (acc ++ [y])))) else ∃ ys, H3 D = some (.lst ys) ∧ J D (i + 1) ys H3)
    (q : ∀ D ys H', H D = none → H' D = some (.lst ys) → J D n ys H' → Q (.ref D) H') : lcB (Itr lo n) g tt te vs σ Q H := by
  intro D hD
  refine ⟨fun i m H' => m = n - i ∧ i ≤ n ∧ ∃ ys, H' D = some (.lst ys) ∧ J D i ys H', ⟨n, by simp, Nat.zero_le _, _, upd_same, h0 D hD⟩, ?_⟩
  rintro i m H' ⟨rfl, hi, ys, hy, hj⟩
  by_cases hlt : i < n
  · refine .inr ⟨hlt, fun H' => ∃ ys, H' D = some (.lst ys) ∧ J D (i + 1) ys H', fun H' p' => ⟨n - (i + 1), by omega, rfl, hlt, p'⟩, fun x H' y => ?_⟩
    obtain ⟨e, y⟩ := y
    subst e y
    exact hs D i ys _ hD hlt hy hj
  · have e : i = n := by omega
    subst e
    exact .inl ⟨Nat.le_refl _, q D ys H' hD hy hj⟩
theorem put_G {J : Addr → Nat → List V → Hp → Prop} {D : Addr} {i : Nat} {H4 : Hp} {acc : List V} {y : V} (h : H4 D = some (.lst acc)) (hl : acc.length < sizeLine) (j : J D (i + 1) (acc ++ [y]) (upd H4 D (.lst (acc ++ [y])))) :
    ∃ acc, H4 D = some (.lst acc) ∧ acc.length < sizeLine ∧ ∃ ys, (upd H4 D (.lst (acc ++ [y]))) D = some (.lst ys) ∧ J D (i + 1) ys (upd H4 D (.lst (acc ++ [y]))) := ⟨acc, h, hl, _, upd_same, j⟩
end
end L2

namespace L2
open PySem PySem.Spec PyProof.Rows
/-! ### classes of the text: fields, methods, making, ==, calls -/
structure MethAt (K : PySem.W.Frag) (C : Addr) (m qual : Str) (st : Stmt) (ps : List Str) : Prop where
  ex : ∃ (f : Addr) (fd : FuncData), Fun K m qual st f fd ∧ Meth K C m f ∧ Binds K fd ps []
structure MDef (P : Program) (w : World) (K : PySem.W.Frag) (mg : Str → Option Value) (base : Heap) (k : Nat) (C : Addr) (m : Str) (ps : List Str) (sp : Sp) : Prop where
  ex : ∃ (f : Addr) (fd : FuncData), FnOk P w K mg base (L2.CX P w) k f fd ps sp ∧ Meth K C m f ∧ Binds K fd ps []
structure MkAt (K : PySem.W.Frag) (mg : Str → Option Value) (x : Str) (C : Addr) (qual : Str) (st : Stmt) (ps : List Str) : Prop where
  ex : ∃ (f : Addr) (fd : FuncData), Fun K "__init__" qual st f fd ∧ Mk K C f ∧ Binds K fd ps []
  g : mg x = some (.ref C)
structure MkDef (P : Program) (w : World) (K : PySem.W.Frag) (mg : Str → Option Value) (base : Heap) (k : Nat) (x : Str) (C : Addr) (ps : List Str) (sp : Sp) : Prop where
  ex : ∃ (f : Addr) (fd : FuncData), FnOk P w K mg base (L2.CX P w) k f fd ps sp ∧ Mk K C f ∧ Binds K fd ps []
  g : mg x = some (.ref C)
section
variable {P : Program} {w : World} {K : PySem.W.Frag} {mg : Str → Option Value} {base : Heap}
theorem MethAt.ok {C : Addr} {m qual : Str} {st : Stmt} {N ps : List Str} {k : Nat} {sp : Sp} (D : MethAt K C m qual st ps) (S : FnScope N ps (defScope st)) (len : ∀ vs H Q E, sp vs H Q E → vs.length = ps.length)
    (hbody : ∀ (f : Addr) (cdv : Value) (A : Around) (outer : List Env) (s : Shared) (H : Hp) (vs : List V) (Q : VK) (E : XK), Room k (A.deeper (envOfC qual (defScope st) s.heap.objs.size f cdv)) → sp vs H Q E →
      ∃ t, PSs (cxOf (L2.CX P w) P w K mg base N qual (defScope st) f cdv A outer s H E) (defBody st) t ∧ t ⟨fun _ H' => Q .non H', Q, fun _ _ => False, fun _ _ => False⟩ (start N vs) H) : MDef P w K mg base (k + 1) C m ps sp := by
  obtain ⟨f, fd, F, g, b⟩ := D.ex
  exact ⟨f, fd, F.okX S len fun cdv A outer s H vs Q E hr h => hbody f cdv A outer s H vs Q E hr h, g, b⟩
theorem MkAt.ok {x : Str} {C : Addr} {qual : Str} {st : Stmt} {N ps : List Str} {k : Nat} {sp : Sp} (D : MkAt K mg x C qual st ps) (S : FnScope N ps (defScope st)) (len : ∀ vs H Q E, sp vs H Q E → vs.length = ps.length)
    (hbody : ∀ (f : Addr) (cdv : Value) (A : Around) (outer : List Env) (s : Shared) (H : Hp) (vs : List V) (Q : VK) (E : XK), Room k (A.deeper (envOfC qual (defScope st) s.heap.objs.size f cdv)) → sp vs H Q E →
      ∃ t, PSs (cxOf (L2.CX P w) P w K mg base N qual (defScope st) f cdv A outer s H E) (defBody st) t ∧ t ⟨fun _ H' => Q .non H', Q, fun _ _ => False, fun _ _ => False⟩ (start N vs) H) : MkDef P w K mg base (k + 1) x C ps sp := by
  obtain ⟨f, fd, F, g, b⟩ := D.ex
  exact ⟨⟨f, fd, F.okX S len fun cdv A outer s H vs Q E hr h => hbody f cdv A outer s H vs Q E hr h, g, b⟩, D.g⟩
theorem MDef.imp {k : Nat} {C : Addr} {m : Str} {ps : List Str} {sp sp' : Sp} (D : MDef P w K mg base k C m ps sp) (h : ∀ vs H Q E, sp' vs H Q E → sp vs H Q E) : MDef P w K mg base k C m ps sp' := by
  obtain ⟨f, fd, F, g, b⟩ := D.ex
  exact ⟨f, fd, F.imp h, g, b⟩
theorem MDef.mono {j k : Nat} {C : Addr} {m : Str} {ps : List Str} {sp : Sp} (D : MDef P w K mg base j C m ps sp) (h : j ≤ k) : MDef P w K mg base k C m ps sp := by
  obtain ⟨f, fd, F, g, b⟩ := D.ex
  exact ⟨f, fd, F.mono h, g, b⟩
theorem MDef.forget {k : Nat} {C : Addr} {m : Str} {ps : List Str} {sp : Sp} (D : MDef P w K mg base k C m ps sp) : MDef P w K mg base k C m ps (fun vs H Q E => NoT H ∧ sp vs H (fun v H' => Same H H' ∧ Q v H) E) := by
  obtain ⟨f, fd, F, g, b⟩ := D.ex
  exact ⟨f, fd, fn_forget F, g, b⟩
end
def tFldC (C : Addr) (ta : TE) (f : Str) : TE := fun σ H Q => ta σ H fun x H1 => ∃ a dx fs v, x = .ref a ∧ H1 a = some (.ins C dx fs) ∧ fs.lookup f = some v ∧ Q v H1
def sFldC (C : Addr) (ta tv : TE) (f : Str) : TS := fun D σ H => tv σ H fun y H1 => ta σ H1 fun x H2 => ∃ a dx fs, x = .ref a ∧ H2 a = some (.ins C dx fs) ∧ fs.length < 1000 ∧ D.nx σ (upd H2 a (.ins C dx (putF f y fs)))
def tCallC (C : Addr) (sp : Sp) (E : XK) (tf : TE) (t : TA) : TE := fun σ H Q => tf σ H fun y H1 => ∃ a, y = V.ref a ∧ t σ H1 fun vs H2 => (∃ dx fs, H2 a = some (.ins C dx fs)) ∧ sp (V.ref a :: vs) H2 Q E
def rEqO (K : PySem.W.Frag) (C : Addr) (sp : Sp) (E : XK) : R2 := fun x y H Q => ∃ a dx fs ty, x = .ref a ∧ H a = some (.ins C dx fs) ∧ TyX K H y ty ∧ PySem.W.notFirst K C ty = true ∧ sp [.ref a, y] H (fun v H' => (∃ b, v = .bl b) ∧ Q v H') E
section
variable {X : Cx} {o e value : Expr} {es : List Expr} {f : Str} {pos pos' tpos apos p : Pos} {ta tv : TE} {t : TA} {C : Addr}
theorem pe_fldC (he : PE X e ta) (c : Cls X.K C) (n : NoAttr X.K C f) (hb : attributeBase e f X.env (eval e X.env) = eval e X.env := by rfl) : PE X (.Attribute e f pos) (tFldC C ta f) := by
  refine ⟨fun pins s σ H Q I h => ?_⟩
  refine attr_of hb (thn (he.run pins s σ H _ I h) fun u s1 ⟨x, H1, I1, rx, a, dx, fs, v, ex, ea, l, q⟩ => ?_)
  subst ex
  obtain rfl : u = Value.ref a := rx
  exact getattr_ok I1 ea c n l fun u' s2 I2 ru => ⟨v, H1, I2, ru, q⟩
theorem ps_fldC (ha : PE X o ta) (hv : PE X value tv) (c : Cls X.K C) (n : NoAttr X.K C f) (hs : swapsWith value (some (.Attribute o f pos')) pos.line X.env = pure false := by rfl) : PS X (.Assign [.Attribute o f pos'] value pos) (sFldC C ta tv f) := by
  refine ⟨fun pins s σ H D I h => ?_⟩
  refine plainObj_wpAny_Assign_Attribute (thn (hv.run pins s σ H _ I h) fun u s1 ⟨y, H1, I1, ry, q⟩ => thn (ha.run pins s1 σ H1 _ I1 q) fun ov s2 ⟨x, H2, I2, rx, a, dx, fs, ex, ea, l, q2⟩ => ?_) hs
  subst ex
  obtain rfl : ov = Value.ref a := rx
  exact setattr_ok I2 ea c n l ry fun s3 I3 => ⟨σ, _, I3, q2⟩
theorem pe_md {k : Nat} {m : Str} {ps : List Str} {sp : Sp} {E : XK} {pl : Sem Bool} (D : MDef X.prog X.w X.K X.mg X.base k C m ps sp) (he : PE X o ta) (c : Cls X.K C) (hr : Room k X.A) (hx : Passes (L2.CX X.prog X.w) X E) (ha : PA X (e :: es) t)
    (hst : starEach (e :: es) X.env = (false, eval e X.env) :: starEach es X.env := by rfl) (hpl : (backTo pos (starEach es X.env)).any (·.1) = false := by rfl)
    (ht : eval (.Call (.Attribute o m apos) (e :: es) [] pos) X.env = (do
      let ov ← eval o X.env
      standAt apos.atName
      let (f, first) ← holding [ov] (getMethod ov m pl)
      callWith pos f first (backTo pos (starEach (e :: es) X.env)) (backToKw pos (keywordEach [] X.env))) := by rfl) :
    PE X (.Call (.Attribute o m apos) (e :: es) [] pos) (tMeth C m sp [] E ta t) := by
  obtain ⟨f, fd, F, g, b⟩ := D.ex
  exact pe_meth he c g F hr b .nil hx ha hst hpl ht
theorem pe_md0 {k : Nat} {m : Str} {ps : List Str} {sp : Sp} {E : XK} {pl : Sem Bool} (D : MDef X.prog X.w X.K X.mg X.base k C m ps sp) (he : PE X o ta) (c : Cls X.K C) (hr : Room k X.A) (hx : Passes (L2.CX X.prog X.w) X E)
    (ht : eval (.Call (.Attribute o m apos) [] [] pos) X.env = (do
      let ov ← eval o X.env
      standAt apos.atName
      let (f, first) ← holding [ov] (getMethod ov m pl)
      callWith pos f first (backTo pos (starEach [] X.env)) (backToKw pos (keywordEach [] X.env))) := by rfl) :
    PE X (.Call (.Attribute o m apos) [] [] pos) (tMeth C m sp [] E ta tNil) := by
  obtain ⟨f, fd, F, g, b⟩ := D.ex
  exact pe_meth0 he c g F hr b .nil hx ht
theorem pe_mkd {k : Nat} {x : Str} {ps : List Str} {sp : Sp} {E : XK} (D : MkDef X.prog X.w X.K X.mg X.base k x C ps sp) (hr : Room (k + 1) X.A) (hx : Passes (L2.CX X.prog X.w) X E) (ha : PA X (e :: es) t) (hg : Gl X x := by rfl)
    (hdb : (x == ("__debug__" : Str)) = false := by decide) (he : starEach (e :: es) X.env = (false, eval e X.env) :: starEach es X.env := by rfl) (hpl : (backTo pos (starEach es X.env)).any (·.1) = false := by rfl) :
    PE X (.Call (.Name x p) (e :: es) [] pos) (tMake C sp [] E t) := by
  obtain ⟨f, fd, F, M, b⟩ := D.ex
  exact pe_make M F hr hg D.g b .nil hx ha hdb he hpl
theorem pe_mkd0 {k : Nat} {x : Str} {ps : List Str} {sp : Sp} {E : XK} (D : MkDef X.prog X.w X.K X.mg X.base k x C ps sp) (hr : Room (k + 1) X.A) (hx : Passes (L2.CX X.prog X.w) X E) (hg : Gl X x := by rfl)
    (hdb : (x == ("__debug__" : Str)) = false := by decide) :
    PE X (.Call (.Name x p) [] [] pos) (tMake C sp [] E tNil) := by
  obtain ⟨f, fd, F, M, b⟩ := D.ex
  exact pe_make0 M F hr hg D.g b .nil hx hdb
theorem pe_mcall {k : Nat} {ps : List Str} {sp : Sp} {E : XK} {fe : Expr} {tf : TE} (D : MDef X.prog X.w X.K X.mg X.base k C "__call__" ps sp) (fi : ∀ g, PySem.W.findIn X.K (.ref C) "__call__" = some (some (.ref g)) → PySem.W.fnIn X.K g = true) (hf : PE X fe tf) (hr : Room k X.A) (hx : Passes (L2.CX X.prog X.w) X E) (ha : PA X (e :: es) t)
    (ht : eval (.Call fe (e :: es) [] pos) X.env = (do callWith pos (← eval fe X.env) [] (backTo pos (starEach (e :: es) X.env)) (backToKw pos (keywordEach [] X.env))) := by rfl)
    (he : starEach (e :: es) X.env = (false, eval e X.env) :: starEach es X.env := by rfl) (hpl : (backTo pos (starEach es X.env)).any (·.1) = false := by rfl) :
    PE X (.Call fe (e :: es) [] pos) (tCallC C sp E tf t) := by
  obtain ⟨f, fd, F, g, b⟩ := D.ex
  refine ⟨fun pins s σ H Q I h => ?_⟩
  refine Call_ (thn (hf.run pins s σ H _ I h) fun u s1 ⟨y, H1, I1, ry, a, ey, q⟩ => ?_) ht
  subst ey
  obtain rfl : u = Value.ref a := ry
  refine StX.callO_with (thn (ha.run pos pins s1 σ H1 _ I1 q) fun us s2 ⟨vs, H2, I2, r, hi, q2⟩ => ?_) he hpl
  obtain ⟨ox, od, J, hd⟩ := StX.insC_at I2 (.inr hi)
  refine ⟨⟨C, ox, od, J, hd⟩, StX.run_callO (sp := fun vs H Q E => sp (vs ++ []) H Q E) ⟨g.at_, g.fn, fi f g.at_⟩ (F.raw b .nil) hr hx I2 (.inr hi) r ?_⟩
  rw [List.append_nil]
  exact q2
/-- x == y, x an instance of C with an own __eq__ -/
theorem op_eqO {k : Nat} {ps : List Str} {sp : Sp} {E : XK} (D : MDef X.prog X.w X.K X.mg X.base k C "__eq__" ps sp) (hr : Room k X.A) (hu : X.A.units < cLine) (hx : Passes (L2.CX X.prog X.w) X E) : OpR X (compareOp .Eq) (rEqO X.K C sp E) := by
  intro pins s σ H x y v u Q I rx ry h
  obtain ⟨f, fd, F, g, b⟩ := D.ex
  obtain ⟨a, dx, fs, ty, rfl, ha, hty, hn, hsp⟩ := h
  cases (show v = Value.ref a from rx)
  obtain ⟨mA, J, _⟩ := ins_get I.hok ha
  obtain ⟨od, J, _⟩ := J.look
  obtain ⟨m, hF⟩ := I.fr
  obtain ⟨P, Z, hp, _⟩ := kit_of I ry hty
  show wpAny (model X.prog X.w) X.A (richCompare .Eq (.ref a) u) (EP X pins σ Q) X.xe s
  refine PySem.W.cmp_K (op := .Eq) (tb := ty) hu hF I.ok.mod.kin J (Z.ty _ s.heap I.kIn hp) hn g.at_ g.fn ?_
  have hl := F.len _ _ _ _ hsp
  refine wpAny_mono (run_fn (dvs := []) (ds := []) (us := [.ref a, u]) (vs := [.ref a, y]) F hr b .nil hx I (.cons rfl (.cons ry .nil)) hsp) (fun r s' q => ?_) fun _ _ z => z
  obtain ⟨z, H', I', rz, ⟨bb, rfl⟩, q⟩ := q
  cases (show r = Value.bool bb from rz)
  exact ⟨.bl bb, H', I', rfl, q⟩
end
section
variable {σ : St} {H : Hp} {Q : VK} {C p : Addr} {ta tv : TE} {t : TA} {f m : Str} {v : V} {nx : St → Hp → Prop} {rt : VK} {bk ct : St → Hp → Prop} {sp : Sp} {E : XK}
theorem rd_fldC (h : ta σ H fun x H1 => ∃ a dx fs v, x = .ref a ∧ H1 a = some (.ins C dx fs) ∧ fs.lookup f = some v ∧ Q v H1) : tFldC C ta f σ H Q := h
instance st_fldC  : Stp (tFldC C ta f σ H Q) (ta σ H fun x H1 => ∃ a dx fs v, x = .ref a ∧ H1 a = some (.ins C dx fs) ∧ fs.lookup f = some v ∧ Q v H1) := ⟨fun h => rd_fldC h⟩
theorem rd_fld1 {dx : Addr} {fs : List (Str × V)} {S : V → Prop} (h : H p = some (.ins C dx fs)) (l : fs.lookup f = some v) (q : S v) : ∃ a dx fs v, V.ref p = .ref a ∧ H a = some (.ins C dx fs) ∧ fs.lookup f = some v ∧ S v := ⟨p, dx, fs, v, rfl, h, l, q⟩
theorem rd_sfldC (h : tv σ H fun y H1 => ta σ H1 fun x H2 => ∃ a dx fs, x = .ref a ∧ H2 a = some (.ins C dx fs) ∧ fs.length < 1000 ∧ nx σ (upd H2 a (.ins C dx (putF f y fs)))) : sFldC C ta tv f ⟨nx, rt, bk, ct⟩ σ H := h
instance st_sfldC  : Stp (sFldC C ta tv f ⟨nx, rt, bk, ct⟩ σ H) (tv σ H fun y H1 => ta σ H1 fun x H2 => ∃ a dx fs, x = .ref a ∧ H2 a = some (.ins C dx fs) ∧ fs.length < 1000 ∧ nx σ (upd H2 a (.ins C dx (putF f y fs)))) := ⟨fun h => rd_sfldC h⟩
theorem rd_sfld1 {dx : Addr} {fs : List (Str × V)} {S : Addr → Addr → List (Str × V) → Prop} (h : H p = some (.ins C dx fs)) (l : fs.length < 1000) (q : S p dx fs) : ∃ a dx fs, V.ref p = .ref a ∧ H a = some (.ins C dx fs) ∧ fs.length < 1000 ∧ S a dx fs := ⟨p, dx, fs, rfl, h, l, q⟩
theorem rd_meth (h : ta σ H fun x H1 => ∃ a dx fs, x = .ref a ∧ H1 a = some (.ins C dx fs) ∧ fs.lookup m = none ∧ t σ H1 fun vs H2 => sp (x :: vs) H2 Q E) : tMeth C m sp [] E ta t σ H Q := by
  show ta σ H fun x H1 => ∃ a dx fs, x = .ref a ∧ H1 a = some (.ins C dx fs) ∧ fs.lookup m = none ∧ t σ H1 fun vs H2 => sp (x :: (vs ++ [])) H2 Q E
  simp only [List.append_nil]
  exact h
instance st_meth  : Stp (tMeth C m sp [] E ta t σ H Q) (ta σ H fun x H1 => ∃ a dx fs, x = .ref a ∧ H1 a = some (.ins C dx fs) ∧ fs.lookup m = none ∧ t σ H1 fun vs H2 => sp (x :: vs) H2 Q E) := ⟨fun h => rd_meth h⟩
theorem rd_meth1 {dx : Addr} {fs : List (Str × V)} {S : Prop} (h : H p = some (.ins C dx fs)) (l : fs.lookup m = none) (q : S) : ∃ a dx fs, V.ref p = .ref a ∧ H a = some (.ins C dx fs) ∧ fs.lookup m = none ∧ S := ⟨p, dx, fs, rfl, h, l, q⟩
theorem rd_make (h : t σ H fun vs H1 => ∀ x dx, H1 x = none → H1 dx = none → dx ≠ x → sp (.ref x :: vs) (upd (upd H1 dx (.own x)) x (.ins C dx [])) (fun v H2 => v = .non ∧ Q (.ref x) H2) E) : tMake C sp [] E t σ H Q := by
  show t σ H fun vs H1 => ∀ x dx, H1 x = none → H1 dx = none → dx ≠ x → sp (.ref x :: (vs ++ [])) (upd (upd H1 dx (.own x)) x (.ins C dx [])) (fun v H2 => v = .non ∧ Q (.ref x) H2) E
  simp only [List.append_nil]
  exact h
instance st_make  : Stp (tMake C sp [] E t σ H Q) (t σ H fun vs H1 => ∀ x dx, H1 x = none → H1 dx = none → dx ≠ x → sp (.ref x :: vs) (upd (upd H1 dx (.own x)) x (.ins C dx [])) (fun v H2 => v = .non ∧ Q (.ref x) H2) E) := ⟨fun h => rd_make h⟩
theorem rd_callC (h : ta σ H fun y H1 => ∃ a, y = V.ref a ∧ t σ H1 fun vs H2 => (∃ dx fs, H2 a = some (.ins C dx fs)) ∧ sp (V.ref a :: vs) H2 Q E) : tCallC C sp E ta t σ H Q := h
instance st_callC : Stp (tCallC C sp E ta t σ H Q) (ta σ H fun y H1 => ∃ a, y = V.ref a ∧ t σ H1 fun vs H2 => (∃ dx fs, H2 a = some (.ins C dx fs)) ∧ sp (V.ref a :: vs) H2 Q E) := ⟨fun h => rd_callC h⟩
theorem rd_callO1 {S : Addr → Prop} (q : S p) : ∃ a, V.ref p = V.ref a ∧ S a := ⟨p, rfl, q⟩
instance st_callO1 {S : Addr → Prop} : Stp (∃ a, V.ref p = V.ref a ∧ S a) (S p) := ⟨fun q => rd_callO1 q⟩
theorem rd_callO2 {dx : Addr} {fs : List (Str × V)} {S : Prop} (h : H p = some (.ins C dx fs)) (q : S) : (∃ dx fs, H p = some (.ins C dx fs)) ∧ S := ⟨⟨dx, fs, h⟩, q⟩
theorem rd_isB {a b : Bool} (q : Q (.bl (decide (a = b))) H) : rIsB (.bl a) (.bl b) H Q := ⟨a, b, rfl, rfl, q⟩
instance st_isB {a b : Bool} : Stp (rIsB (.bl a) (.bl b) H Q) (Q (.bl (decide (a = b))) H) := ⟨fun h => rd_isB h⟩
theorem rd_notB {a b : Bool} (q : Q (.bl (!decide (a = b))) H) : rNotB (.bl a) (.bl b) H Q := ⟨a, b, rfl, rfl, q⟩
instance st_notB {a b : Bool} : Stp (rNotB (.bl a) (.bl b) H Q) (Q (.bl (!decide (a = b))) H) := ⟨fun h => rd_notB h⟩
theorem rd_isNone {x : V} (q : Q (.bl (decide (x = .non))) H) : (V.non = V.non) ∧ Q (.bl (decide (x = .non))) H := ⟨rfl, q⟩
instance st_isNone {x : V} : Stp ((V.non = V.non) ∧ Q (.bl (decide (x = .non))) H) (Q (.bl (decide (x = .non))) H) := ⟨fun h => rd_isNone h⟩
end
theorem kit_self {K : PySem.W.Frag} {C : Addr} : PySem.W.kitOne K (.ref C) (.ref C) = some true := if_pos (by simp)
theorem sub_ty {K : PySem.W.Frag} {C : Addr} {T : String} {l : List Value} (h : fastBuiltinMro T = some l) (hl : l.contains (.ref C) = false) : PySem.W.subIn K (.type T) (.ref C) = some false := by
  show (fastBuiltinMro T).map (·.contains (.ref C)) = some false
  rw [h, Option.map_some, hl]
theorem sub_list {K : PySem.W.Frag} {C : Addr} : PySem.W.subIn K (.type "list") (.ref C) = some false := rfl
theorem kit_list {K : PySem.W.Frag} {C : Addr} (h1 : PySem.W.isClsIn K C = true) (h2 : PySem.W.typeIn K (.ref C) = some (.type "type")) : PySem.W.kitOne K (.type "list") (.ref C) = some false := by
  have e : ((PySem.W.clsIn K C).isSome && PySem.W.typeIn K (.ref C) == some (.type "type")) = true := by
    have h1' : (PySem.W.clsIn K C).isSome = true := h1
    rw [h1', h2] <;> rfl
  show (if (Value.type "list" == Value.ref C) = true then some true else if ((PySem.W.clsIn K C).isSome && PySem.W.typeIn K (.ref C) == some (.type "type")) = true then PySem.W.subIn K (.type "list") (.ref C) else none) = some false
  rw [if_neg (by intro z; cases z), if_pos e]
  exact sub_list
theorem notFirst_list {K : PySem.W.Frag} {C : Addr} : PySem.W.notFirst K C (.type "list") = true := by
  unfold PySem.W.notFirst
  rw [sub_list]
  rfl
end L2

namespace L2
open PySem PySem.Spec PyProof.Rows
/-! ### data without bools: what == tells is equality -/
mutual
def okD : PyData → Nat → Bool
  | .none, _ => true
  | .int _, _ => true
  | .str s, _ => PyData.strOk s
  | .list xs, n => decide (0 < n) && okDs xs (n - 1)
  | .tuple xs, n => decide (0 < n) && okDs xs (n - 1)
  | .bool _, _ => false
  | .dict _, _ => false
def okDs : List PyData → Nat → Bool
  | [], _ => true
  | x :: xs, n => okD x n && okDs xs n
end
mutual
theorem okD_lay : ∀ (d : PyData) (n : Nat), okD d n = true → d.canLay0 = true ∧ d.depth ≤ n
  | .none, _, _ => ⟨rfl, by simp [PyData.depth]⟩
  | .int _, _, _ => ⟨rfl, by simp [PyData.depth]⟩
  | .str s, _, h => ⟨by simpa [okD, PyData.canLay0] using h, by simp [PyData.depth]⟩
  | .list xs, n, h => by
    simp only [okD, Bool.and_eq_true, decide_eq_true_eq] at h
    obtain ⟨a, b⟩ := okDs_lay xs (n - 1) h.2
    refine ⟨by rw [PyData.canLay0]; exact a, ?_⟩
    simp only [PyData.depth]
    omega
  | .tuple xs, n, h => by
    simp only [okD, Bool.and_eq_true, decide_eq_true_eq] at h
    obtain ⟨a, b⟩ := okDs_lay xs (n - 1) h.2
    refine ⟨by rw [PyData.canLay0]; exact a, ?_⟩
    simp only [PyData.depth]
    omega
  | .bool _, _, h => by simp [okD] at h
  | .dict _, _, h => by simp [okD] at h
theorem okDs_lay : ∀ (ds : List PyData) (n : Nat), okDs ds n = true → PyData.canLayAll0 ds = true ∧ PyData.depthAll ds ≤ n
  | [], _, _ => ⟨rfl, Nat.zero_le _⟩
  | d :: ds, n, h => by
    simp only [okDs, Bool.and_eq_true] at h
    obtain ⟨a, b⟩ := okD_lay d n h.1
    obtain ⟨c, e⟩ := okDs_lay ds n h.2
    simp only [PyData.canLayAll0, PyData.depthAll]
    exact ⟨by rw [a, c]; rfl, Nat.max_le.mpr ⟨b, e⟩⟩
end
theorem okD_shaped {d : PyData} (h : okD d 60 = true) : SeqAt.shaped d = true := by
  obtain ⟨a, b⟩ := okD_lay d 60 h
  unfold SeqAt.shaped
  rw [a, Bool.true_and, decide_eq_true_eq]
  omega
mutual
theorem okD_eqv : ∀ (d e : PyData) (n m : Nat), okD d n = true → okD e m = true → (PyData.eqv d e = true ↔ d = e)
  | .none, e, _, _, _, h => by cases e <;> simp [PyData.eqv, okD] at h ⊢
  | .int i, e, _, _, _, h => by cases e <;> simp [PyData.eqv, okD] at h ⊢
  | .str s, e, _, _, _, h => by cases e <;> simp [PyData.eqv, okD] at h ⊢
  | .list xs, e, n, m, h1, h => by
    cases e with
    | list ys =>
      simp only [okD, Bool.and_eq_true, decide_eq_true_eq] at h1 h
      rw [PyData.eqv, okDs_eqv xs ys _ _ h1.2 h.2]
      simp
    | _ => simp [PyData.eqv, okD] at h ⊢
  | .tuple xs, e, n, m, h1, h => by
    cases e with
    | tuple ys =>
      simp only [okD, Bool.and_eq_true, decide_eq_true_eq] at h1 h
      rw [PyData.eqv, okDs_eqv xs ys _ _ h1.2 h.2]
      simp
    | _ => simp [PyData.eqv, okD] at h ⊢
  | .bool _, _, _, _, h1, _ => by simp [okD] at h1
  | .dict _, _, _, _, h1, _ => by simp [okD] at h1
theorem okDs_eqv : ∀ (ds es : List PyData) (n m : Nat), okDs ds n = true → okDs es m = true → (PyData.eqvAll ds es = true ↔ ds = es)
  | [], es, _, _, _, _ => by cases es <;> simp [PyData.eqvAll]
  | d :: ds, es, n, m, h1, h2 => by
    cases es with
    | nil => simp [PyData.eqvAll]
    | cons e es =>
      simp only [okDs, Bool.and_eq_true] at h1 h2
      rw [PyData.eqvAll, Bool.and_eq_true, okD_eqv d e n m h1.1 h2.1, okDs_eqv ds es n m h1.2 h2.2]
      simp
end
theorem okD_dec {d e : PyData} [Decidable (d = e)] (h1 : okD d 60 = true) (h2 : okD e 60 = true) : PyData.eqv d e = decide (d = e) := by
  rw [Bool.eq_iff_iff, okD_eqv d e 60 60 h1 h2, decide_eq_true_iff]
theorem okDs_map {α : Type} {f : α → PyData} {n : Nat} : ∀ {l : List α}, (∀ x ∈ l, okD (f x) n = true) → okDs (l.map f) n = true
  | [], _ => rfl
  | x :: l, h => by
    rw [List.map_cons, okDs, h x (List.mem_cons_self ..), okDs_map fun y hy => h y (List.mem_cons_of_mem _ hy)]
    rfl
open Classical in
noncomputable instance decD (d e : PyData) : Decidable (d = e) := Classical.propDecidable _
section
variable {K : PySem.W.Frag} {H H' : Hp} {Q : VK} {x y : V} {d e : PyData}
theorem rd_eqP {p : Prop} [Decidable p] (h1 : Dp K H x d) (h2 : Dp K H y e) (o1 : okD d 60 = true) (o2 : okD e 60 = true) (hp : d = e ↔ p) (q : Q (.bl (decide p)) H) : rEqD K x y H Q :=
  ⟨d, e, h1, h2, okD_shaped o1, okD_shaped o2, by rw [okD_dec o1 o2, decide_eq_decide.mpr hp]; exact q⟩
theorem rd_neP {p : Prop} [Decidable p] (h1 : Dp K H x d) (h2 : Dp K H y e) (o1 : okD d 60 = true) (o2 : okD e 60 = true) (hp : d = e ↔ p) (q : Q (.bl (!decide p)) H) : rNeD K x y H Q :=
  ⟨d, e, h1, h2, okD_shaped o1, okD_shaped o2, by rw [okD_dec o1 o2, decide_eq_decide.mpr hp]; exact q⟩
theorem Same.seqT {K : PySem.W.Frag} {H H' : Hp} {a : Addr} {xs : List V} (e : Same H H') (h : SqT K H a xs) : SqT K H' a xs := by
  rcases h with (h | ⟨o, h⟩) | h
  · exact .inl (.inl (e _ _ h))
  · exact .inl (.inr ⟨o, e _ _ h⟩)
  · exact .inr h
mutual
theorem Dp.same (s : Same H H') : ∀ {v : V} {d : PyData}, Dp K H v d → Dp K H' v d
  | _, _, .non => .non
  | _, _, .bl b => .bl b
  | _, _, .int i => .int i
  | _, _, .str x => .str x
  | _, _, .lst h a => .lst (s.seq h) (DpAll.same s a)
  | _, _, .tup h a => .tup (Same.seqT s h) (DpAll.same s a)
theorem DpAll.same (s : Same H H') : ∀ {vs : List V} {ds : List PyData}, DpAll K H vs ds → DpAll K H' vs ds
  | _, _, .nil => .nil
  | _, _, .cons h a => .cons (Dp.same s h) (DpAll.same s a)
end
theorem DpAll.len : ∀ {vs : List V} {ds : List PyData}, DpAll K H vs ds → vs.length = ds.length
  | _, _, .nil => rfl
  | _, _, .cons _ a => by rw [List.length_cons, List.length_cons, DpAll.len a]
theorem DpAll.at : ∀ {vs : List V} {ds : List PyData} {i : Nat} {v : V}, DpAll K H vs ds → vs[i]? = some v → ∃ d, ds[i]? = some d ∧ Dp K H v d
  | _, _, i, _, .nil, e => by cases e
  | _, _, 0, _, .cons (d := d) h _, e => ⟨d, rfl, by cases e; exact h⟩
  | _, _, i + 1, _, .cons _ a, e => DpAll.at (i := i) a e
theorem DpAll.snoc : ∀ {vs : List V} {ds : List PyData} {v : V} {d : PyData}, DpAll K H vs ds → Dp K H v d → DpAll K H (vs ++ [v]) (ds ++ [d])
  | _, _, _, _, .nil, h => .cons h .nil
  | _, _, _, _, .cons a r, h => .cons a (DpAll.snoc r h)
theorem Dp.int_inv {n : Int} (h : Dp K H x (.int n)) : x = .int n := by
  cases h
  rfl
theorem Dp.str_inv {n : Str} (h : Dp K H x (.str n)) : x = .str n := by
  cases h
  rfl
theorem Dp.tup_inv {ds : List PyData} (h : Dp K H x (.tuple ds)) : ∃ a xs, x = .ref a ∧ SqT K H a xs ∧ DpAll K H xs ds := by
  cases h with
  | tup a b => exact ⟨_, _, rfl, a, b⟩
theorem Dp.lst_inv {ds : List PyData} (h : Dp K H x (.list ds)) : ∃ a xs, x = .ref a ∧ SqL K H a xs ∧ DpAll K H xs ds := by
  cases h with
  | lst a b => exact ⟨_, _, rfl, a, b⟩
theorem DpAll.ints : ∀ {ns : List Int} {vs : List V}, DpAll K H vs (ns.map PyData.int) → vs = ns.map V.int
  | [], _, .nil => rfl
  | n :: ns, _, .cons h a => by rw [Dp.int_inv h, DpAll.ints a]; rfl
theorem DpAll.nil_inv {vs : List V} (h : DpAll K H vs []) : vs = [] := by
  cases h
  rfl
theorem DpAll.cons_inv {vs : List V} {ds : List PyData} (h : DpAll K H vs (d :: ds)) : ∃ v vs', vs = v :: vs' ∧ Dp K H v d ∧ DpAll K H vs' ds := by
  cases h with
  | cons a b => exact ⟨_, _, rfl, a, b⟩
end
/-! ### loops that leave the heap -/
section
variable {σ : St} {H : Hp} {K : PySem.W.Frag} {t : TS} {nx : St → Hp → Prop} {rt : VK}
theorem rd_forRs {lo : Int} {n : Nat} {g : TG} (Pv : Nat → St → Prop) (h0 : Pv 0 σ)
    (hs : ∀ i σ, i < n → Pv i σ → g (.int (lo + i)) σ H fun σ2 H2 => t ⟨fun σ' H' => H = H' ∧ Pv (i + 1) σ', rt, nx, fun σ' H' => H = H' ∧ Pv (i + 1) σ'⟩ σ2 H2) (hd : ∀ σ, Pv n σ → nx σ H) : fBody (Itr lo n) g t nx rt σ H :=
  rd_forR (fun i σ' H' => H = H' ∧ Pv i σ') ⟨rfl, h0⟩ (fun i σ' H' hi p => by obtain ⟨rfl, p⟩ := p; exact hs i σ' hi p) fun σ' H' p => by obtain ⟨rfl, p⟩ := p; exact hd σ' p
theorem rd_forLs {a : Addr} {xs : List V} {g : TG} (Pv : Nat → St → Prop) (hl : SqL K H a xs) (h0 : Pv 0 σ)
    (hs : ∀ i x σ, xs[i]? = some x → Pv i σ → g x σ H fun σ2 H2 => t ⟨fun σ' H' => H = H' ∧ Pv (i + 1) σ', rt, nx, fun σ' H' => H = H' ∧ Pv (i + 1) σ'⟩ σ2 H2) (hd : ∀ σ, Pv xs.length σ → nx σ H) : fBody (Itl K a) g t nx rt σ H :=
  rd_forL (fun i σ' H' => H = H' ∧ Pv i σ') ⟨rfl, h0⟩ (fun i σ' H' _ p => by obtain ⟨rfl, _⟩ := p; exact hl) (fun i x σ' H' hi p => by obtain ⟨rfl, p⟩ := p; exact hs i x σ' hi p) fun σ' H' p => by obtain ⟨rfl, p⟩ := p; exact hd σ' p
theorem rd_forTs {a : Addr} {xs : List V} {g : TG} (Pv : Nat → St → Prop) (hl : SqT K H a xs) (h0 : Pv 0 σ)
    (hs : ∀ i x σ, xs[i]? = some x → Pv i σ → g x σ H fun σ2 H2 => t ⟨fun σ' H' => H = H' ∧ Pv (i + 1) σ', rt, nx, fun σ' H' => H = H' ∧ Pv (i + 1) σ'⟩ σ2 H2) (hd : ∀ σ, Pv xs.length σ → nx σ H) : fBody (Itt K a) g t nx rt σ H :=
  rd_forT (fun i σ' H' => H = H' ∧ Pv i σ') ⟨rfl, h0⟩ (fun i σ' H' _ p => by obtain ⟨rfl, _⟩ := p; exact hl) (fun i x σ' H' hi p => by obtain ⟨rfl, p⟩ := p; exact hs i x σ' hi p) fun σ' H' p => by obtain ⟨rfl, p⟩ := p; exact hd σ' p
end
section
theorem rd_eqF {p A B : Prop} [Decidable p] (h : ¬ p) (q : B) : if decide p = true then A else B := by
  rw [decide_eq_false h]
  exact q
theorem rd_neT {p A B : Prop} [Decidable p] (h : ¬ p) (q : A) : if (!decide p) = true then A else B := by
  rw [decide_eq_false h]
  exact q
end
instance st_non {P : Prop} : Stp (V.non = V.non ∧ P) P := ⟨fun h => ⟨rfl, h⟩⟩
theorem non_int {k : Int} : ¬ V.int k = V.non := fun z => V.noConfusion z
theorem non_ref {k : Addr} : ¬ V.ref k = V.non := fun z => V.noConfusion z
theorem upd_at {H : Hp} {p q : Addr} {o u : HO} (h : H p = some o) (n : H p = some o → p ≠ q) : upd H q u p = some o := (upd_ne (n h)).trans h
end L2

namespace L2
open PySem PySem.Spec PyProof.Rows
/-! ### sizes of whole numbers, by bits -/
structure Bd (n : Nat) (x : Int) : Prop where
  h : x.natAbs < 2 ^ n
theorem Bd.mono {n m : Nat} {x : Int} (h : Bd n x) (hm : n ≤ m) : Bd m x := ⟨Nat.lt_of_lt_of_le h.h (Nat.pow_le_pow_right (by decide) hm)⟩
theorem Bd.mul {n m : Nat} {x y : Int} (h : Bd n x) (k : Bd m y) : Bd (n + m) (x * y) := ⟨wide_lt h.h k.h⟩
theorem Bd.neg {n : Nat} {x : Int} (h : Bd n x) : Bd n (-x) := ⟨by
  rw [Int.natAbs_neg]
  exact h.h⟩
theorem Bd.add {n m : Nat} {x y : Int} (h : Bd n x) (k : Bd m y) : Bd (max n m + 1) (x + y) := ⟨by
  have a := (Bd.mono h (Nat.le_max_left n m)).h
  have b := (Bd.mono k (Nat.le_max_right n m)).h
  have := Int.natAbs_add_le x y
  rw [Nat.pow_succ]
  omega⟩
theorem Bd.sub {n m : Nat} {x y : Int} (h : Bd n x) (k : Bd m y) : Bd (max n m + 1) (x - y) := by
  rw [Int.sub_eq_add_neg]
  exact Bd.add h k.neg
theorem Bd.lt {n : Nat} {x : Int} (h : Bd n x) : -(2 ^ n) < x ∧ x < 2 ^ n := by
  have e : ((2 ^ n : Nat) : Int) = 2 ^ n := by rw [Int.natCast_pow]; rfl
  have := h.h
  omega
theorem Bd.of {n : Nat} {x : Int} (h : -(2 ^ n) < x) (k : x < 2 ^ n) : Bd n x := ⟨by
  have e : ((2 ^ n : Nat) : Int) = 2 ^ n := by rw [Int.natCast_pow]; rfl
  omega⟩
theorem Bd.le {n : Nat} {x y : Int} (h : Bd n y) (h1 : x.natAbs ≤ y.natAbs) : Bd n x := ⟨Nat.lt_of_le_of_lt h1 h.h⟩
theorem Bd.div {n : Nat} {x y : Int} (h : Bd n x) (hy : 0 < y) : Bd (n + 1) (x / y) := by
  have l := h.lt
  have p0 : (0 : Int) < 2 ^ n := Int.pow_pos (by decide)
  have e := Int.mul_ediv_add_emod x y
  have r0 := Int.emod_nonneg x (show y ≠ 0 by omega)
  have r1 := Int.emod_lt_of_pos x hy
  refine Bd.of ?_ ?_
  · rw [Int.pow_succ]
    have : -(2 ^ n) ≤ x / y := by
      refine Int.le_ediv_of_mul_le hy ?_
      have : (2 : Int) ^ n * 1 ≤ 2 ^ n * y := Int.mul_le_mul_of_nonneg_left (by omega) (by omega)
      rw [Int.neg_mul]
      omega
    omega
  · rw [Int.pow_succ]
    by_cases hx : 0 ≤ x
    · have := Int.ediv_le_self y hx
      omega
    · have := Int.ediv_neg_of_neg_of_pos (show x < 0 by omega) hy
      omega
theorem Bd.lit {x : Int} {n : Nat} (h : x.natAbs < 2 ^ 64) (hn : 64 ≤ n) : Bd n x := Bd.mono ⟨h⟩ hn
theorem Bd.mulN {n : Nat} {x y : Int} (h : Bd (n / 2) x) (k : Bd (n / 2) y) : Bd n (x * y) := (h.mul k).mono (by omega)
theorem Bd.addN {n : Nat} {x y : Int} (h : Bd (n - 1) x) (k : Bd (n - 1) y) (hn : 0 < n) : Bd n (x + y) := (h.add k).mono (by omega)
theorem Bd.subN {n : Nat} {x y : Int} (h : Bd (n - 1) x) (k : Bd (n - 1) y) (hn : 0 < n) : Bd n (x - y) := (h.sub k).mono (by omega)
theorem CMulB.bd {x y : Int} (h : Bd 9000 x) (k : Bd 9000 y) : CMulB x y := .inr (wide_mul h.h k.h (by decide) (by decide) (by decide))
end L2
namespace L2
open PySem PySem.Spec PyProof.Rows
/-! ### texts of whole numbers, str(o) of an own __str__ -/
def txI (i : Int) : Str := Str.ofString (toString i)
theorem txI_len {i : Int} {n : Nat} (h : Bd n i) (hn : n ≤ 1000) : (txI i).length ≤ 1001 ∧ i.natAbs.log2 < 1000 := by
  have l : i.natAbs.log2 < 1000 := PySem.Flt.log2_lt_of (by decide) (h.mono hn).h
  have e := int_text_length_le (k := 1000) (by decide) l
  unfold txI
  rw [PySem.ofString_length]
  exact ⟨e, l⟩
def rStrO (C : Addr) (sp : Sp) (E : XK) : List V → Hp → VK → Prop := fun xs H Q => ∃ a dx fs, xs = [.ref a] ∧ H a = some (.ins C dx fs) ∧ sp [.ref a] H (fun v H' => ∃ z, v = .str z ∧ Q (.str z) H') E
def rStrI : List V → Hp → VK → Prop := fun xs H Q => ∃ i, xs = [.int i] ∧ i.natAbs.log2 < 1920 ∧ Q (.str (txI i)) H
section
variable {X : Cx}
theorem call_strI : CallR X (.type "str") rStrI := call_str_int
theorem call_strO {k : Nat} {C : Addr} {ps : List Str} {sp : Sp} {E : XK} (D : MDef X.prog X.w X.K X.mg X.base k C "__str__" ps sp) (hr : Room (k + 2) X.A) (hx : Passes (L2.CX X.prog X.w) X E) : CallR X (.type "str") (rStrO C sp E) := by
  intro pins s σ H xs us Q I r h
  obtain ⟨f, fd, F, g, b⟩ := D.ex
  obtain ⟨a, dx, fs, rfl, ha, hsp⟩ := h
  obtain ⟨u, rfl, hu⟩ := vals1 r
  cases (show u = Value.ref a from hu)
  obtain ⟨mA, J, _⟩ := ins_get I.hok ha
  obtain ⟨od, J, _⟩ := J.look
  refine PySem.W.kso_call hr.in1.in1.units0 I.kIn J g.at_ g.fn ?_
  have e0 : Env0 X.prog X.w X.K X.mg X.base X.A.in1.in1 X.stack s H := by
    have e := I.env0
    exact ⟨e.frames, e.mod, e.bs, e.bsz, e.funs, e.frf, e.hok, e.bare⟩
  have hl := F.len _ _ _ _ hsp
  have r2 : Vals [V.ref a] [Value.ref a] := .cons rfl .nil
  refine wpAny_call (codeAny_mono (F.run X.A.in1.in1 X.stack s H ⟨[.ref a], []⟩ [.ref a] [.ref a] _ E hr.in1.in1 e0 (by
    have := b s [.ref a] I.kIn (by simpa using hl)
    simpa using this) r2 hsp) fun r s' hq => ?_)
  cases r with
  | error e => exact hx pins σ H s e s' I hq
  | ok fl =>
    cases fl with
    | ret w =>
      obtain ⟨z, H', I', rz, y, ez, q⟩ := I.after hq
      subst ez
      obtain ⟨t, rfl⟩ := rz
      exact ⟨.str y, H', I', ⟨t, rfl⟩, q⟩
    | next => exact False.elim hq
    | brk => exact False.elim hq
    | cont => exact False.elim hq
end
section
variable {σ : St} {H : Hp} {Q : VK} {te : TE} {ts : List TE} {acc : Str} {R : Str → Hp → Prop}
def rFmt (Q : VK) : V → Hp → Prop := fun x H1 => (∃ y : Str, x = .str y ∧ y.length ≤ sizeLine ∧ Q (.str y) H1) ∨ ∃ i : Int, x = .int i ∧ i.natAbs.log2 < 1920 ∧ Q (.str (toString i)) H1
instance st_fmt : Stp (tFmt te σ H Q) (te σ H (rFmt Q)) := ⟨fun h => h⟩
theorem rd_fmtI {i : Int} (h : i.natAbs.log2 < 1920) (q : Q (.str (txI i)) H) : rFmt Q (.int i) H := .inr ⟨i, rfl, h, q⟩
instance st_jsN : Stp (tJs [] acc σ H R) (R acc H) := ⟨fun h => h⟩
def rJs (ts : List TE) (acc : Str) (σ : St) (R : Str → Hp → Prop) : V → Hp → Prop := fun x H1 => ∃ y : Str, x = .str y ∧ (acc ++ y).length ≤ sizeLine ∧ tJs ts (acc ++ y) σ H1 R
instance st_jsC : Stp (tJs (te :: ts) acc σ H R) (te σ H (rJs ts acc σ R)) := ⟨fun h => h⟩
theorem rd_js {y : Str} (h : (acc ++ y).length ≤ sizeLine) (q : tJs ts (acc ++ y) σ H R) : rJs ts acc σ R (.str y) H := ⟨y, rfl, h, q⟩
theorem rd_strI {i : Int} (h : i.natAbs.log2 < 1920) (q : Q (.str (txI i)) H) : rStrI [.int i] H Q := ⟨i, rfl, h, q⟩
end
end L2

namespace L2
open PySem PySem.Spec PyProof.Rows
/-! ### walks of other kinds -/
section
variable {σ : St} {H : Hp} {K : PySem.W.Frag} {t : TS} {nx : St → Hp → Prop} {rt : VK} {Q : VK} {tr : TA} {te : TE} {tt : TT} {S : It → Hp → Prop} {J : It} {n : Nat} {G : Hp → Prop} {Y : Nat → Hp → V → Hp → Prop}
theorem rd_forW (w : Walk J n G Y) {g : TG} (Pv : Nat → St → Hp → Prop) (h0 : Pv 0 σ H) (hG : ∀ i σ H, i ≤ n → Pv i σ H → G H)
    (hs : ∀ i x σ H H', i < n → Pv i σ H → Y i H x H' → g x σ H' fun σ2 H2 => t ⟨Pv (i + 1), rt, nx, Pv (i + 1)⟩ σ2 H2) (hd : ∀ σ H, Pv n σ H → nx σ H) : fBody J g t nx rt σ H :=
  for_it (D := ⟨nx, rt, fun _ _ => False, fun _ _ => False⟩) w Pv h0 hG hs hd
def rIRev (K : PySem.W.Frag) (S : It → Hp → Prop) (vs : List V) (H : Hp) : Prop := ∃ (a : Addr) (xs : List V), vs = [.ref a] ∧ SqL K H a xs ∧ S (Itv K a xs.length) H
instance st_iRev : Stp (iRev K tr σ H S) (tr σ H (rIRev K S)) := ⟨fun h => h⟩
theorem rd_iRev1 {a : Addr} {xs : List V} (h : SqL K H a xs) (q : S (Itv K a xs.length) H) : rIRev K S [.ref a] H := ⟨a, xs, rfl, h, q⟩
theorem rd_forV {a : Addr} {xs : List V} {g : TG} (Pv : Nat → St → Hp → Prop) (h0 : Pv 0 σ H) (hl : ∀ i σ H, i ≤ xs.length → Pv i σ H → SqL K H a xs)
    (hs : ∀ i x σ H, xs.reverse[i]? = some x → Pv i σ H → g x σ H fun σ2 H2 => t ⟨Pv (i + 1), rt, nx, Pv (i + 1)⟩ σ2 H2) (hd : ∀ σ H, Pv xs.length σ H → nx σ H) : fBody (Itv K a xs.length) g t nx rt σ H :=
  rd_forW (walk_rev (K := K) (a := a) (xs := xs)) Pv h0 hl (fun i x σ H H' hi p y => by
    obtain ⟨rfl, y⟩ := y
    refine hs i x σ _ ?_ p
    rw [List.getElem?_reverse hi]
    exact y) hd
theorem rd_forVs {a : Addr} {xs : List V} {g : TG} (Pv : Nat → St → Prop) (hl : SqL K H a xs) (h0 : Pv 0 σ)
    (hs : ∀ i x σ, xs.reverse[i]? = some x → Pv i σ → g x σ H fun σ2 H2 => t ⟨fun σ' H' => H = H' ∧ Pv (i + 1) σ', rt, nx, fun σ' H' => H = H' ∧ Pv (i + 1) σ'⟩ σ2 H2) (hd : ∀ σ, Pv xs.length σ → nx σ H) : fBody (Itv K a xs.length) g t nx rt σ H :=
  rd_forV (fun i σ' H' => H = H' ∧ Pv i σ') ⟨rfl, h0⟩ (fun i σ' H' _ p => by obtain ⟨rfl, _⟩ := p; exact hl) (fun i x σ' H' hi p => by obtain ⟨rfl, p⟩ := p; exact hs i x σ' hi p) fun σ' H' p => by obtain ⟨rfl, p⟩ := p; exact hd σ' p
/-- a comprehension over a list; each turn only makes new things -/
theorem rd_lcP {a : Addr} {xs : List V} {g : TG} {vs : List Nat} (P : Nat → List V → Prop) (hS : SqL K H a xs) (nt : NoT H) (h0 : P 0 [])
    (hs : ∀ D i ys x H', xs[i]? = some x → Same H H' → NoT H' → H D = none → H' D = some (.lst ys) → P i ys → g x (wipe σ vs) H' fun σ2 H2 => wipe σ2 vs = wipe σ vs ∧ tt σ2 H2 fun b H3 =>
      if b = true then te σ2 H3 (fun y H4 => ∃ acc, H4 D = some (.lst acc) ∧ acc.length < sizeLine ∧ ∃ ys, upd H4 D (.lst (acc ++ [y])) D = some (.lst ys) ∧ Same H (upd H4 D (.lst (acc ++ [y]))) ∧ NoT (upd H4 D (.lst (acc ++ [y]))) ∧ P (i + 1) ys)
      else ∃ ys, H3 D = some (.lst ys) ∧ Same H H3 ∧ NoT H3 ∧ P (i + 1) ys)
    (q : ∀ D ys H', H D = none → H' D = some (.lst ys) → Same H H' → NoT H' → P xs.length ys → Q (.ref D) H') : lcB (Itl K a) g tt te vs σ Q H := by
  intro D hD
  refine lc_it (walk_list (K := K) (a := a) (xs := xs)) (fun i H' => ∃ ys, H' D = some (.lst ys) ∧ Same H H' ∧ NoT H' ∧ P i ys) ⟨[], upd_same, same_new hD, NoT.upd nt rfl, h0⟩ (fun i H' _ ⟨ys, _, s, _⟩ => s.seq hS) ?_ (fun H' ⟨ys, h1, s, n, p⟩ => q D ys H' hD h1 s n p)
  rintro i x H' H'' hi ⟨ys, h1, s, n, p⟩ ⟨rfl, hx⟩
  exact hs D i ys x _ hx s n hD h1 p
theorem put_P {P : List V → Prop} {D : Addr} {H H4 : Hp} {acc : List V} {y : V} (h : H4 D = some (.lst acc)) (hl : acc.length < sizeLine) (sm : Same H H4) (hD : H D = none) (n : NoT H4) (p : P (acc ++ [y])) :
    ∃ acc, H4 D = some (.lst acc) ∧ acc.length < sizeLine ∧ ∃ ys, upd H4 D (.lst (acc ++ [y])) D = some (.lst ys) ∧ Same H (upd H4 D (.lst (acc ++ [y]))) ∧ NoT (upd H4 D (.lst (acc ++ [y]))) ∧ P ys :=
  ⟨acc, h, hl, _, upd_same, same_upd2 sm hD, NoT.upd n rfl, p⟩
/-- the same over a range -/
theorem rd_lcRP {lo : Int} {m : Nat} {g : TG} {vs : List Nat} (P : Nat → List V → Prop) (nt : NoT H) (h0 : P 0 [])
    (hs : ∀ D i ys H', i < m → Same H H' → NoT H' → H D = none → H' D = some (.lst ys) → P i ys → g (.int (lo + i)) (wipe σ vs) H' fun σ2 H2 => wipe σ2 vs = wipe σ vs ∧ tt σ2 H2 fun b H3 =>
      if b = true then te σ2 H3 (fun y H4 => ∃ acc, H4 D = some (.lst acc) ∧ acc.length < sizeLine ∧ ∃ ys, upd H4 D (.lst (acc ++ [y])) D = some (.lst ys) ∧ Same H (upd H4 D (.lst (acc ++ [y]))) ∧ NoT (upd H4 D (.lst (acc ++ [y]))) ∧ P (i + 1) ys)
      else ∃ ys, H3 D = some (.lst ys) ∧ Same H H3 ∧ NoT H3 ∧ P (i + 1) ys)
    (q : ∀ D ys H', H D = none → H' D = some (.lst ys) → Same H H' → NoT H' → P m ys → Q (.ref D) H') : lcB (Itr lo m) g tt te vs σ Q H := by
  intro D hD
  refine lc_it (walk_range (lo := lo) (n := m)) (fun i H' => ∃ ys, H' D = some (.lst ys) ∧ Same H H' ∧ NoT H' ∧ P i ys) ⟨[], upd_same, same_new hD, NoT.upd nt rfl, h0⟩ (fun i H' _ _ => trivial) ?_ (fun H' ⟨ys, h1, s, n, p⟩ => q D ys H' hD h1 s n p)
  rintro i x H' H'' hi ⟨ys, h1, s, n, p⟩ ⟨rfl, hx⟩
  subst hx
  exact hs D i ys _ hi s n hD h1 p
end
def rAddS : R2 := fun x y H Q => ∃ i j, x = .str i ∧ y = .str j ∧ i.length + j.length ≤ sizeLine ∧ Q (.str (i ++ j)) H
theorem op_addS {X : Cx} : OpR X (binaryOp .Add) rAddS := op_add_str
theorem rd_addS {H : Hp} {Q : VK} {i j : Str} (h : i.length + j.length ≤ sizeLine) (q : Q (.str (i ++ j)) H) : rAddS (.str i) (.str j) H Q := ⟨i, j, rfl, rfl, h, q⟩
def rRevV (K : PySem.W.Frag) (Q : VK) : V → Hp → Prop := fun x H1 => ∃ a xs, x = .ref a ∧ SqL K H1 a xs ∧ ∀ p, H1 p = none → Q (.ref p) (upd H1 p (.lst xs.reverse))
instance st_revL {K : PySem.W.Frag} {te : TE} {σ : St} {H : Hp} {Q : VK} : Stp (tRevL K te σ H Q) (te σ H (rRevV K Q)) := ⟨fun h => h⟩
theorem rd_revV {K : PySem.W.Frag} {H : Hp} {Q : VK} {a : Addr} {xs : List V} (h : SqL K H a xs) (q : ∀ p, H p = none → Q (.ref p) (upd H p (.lst xs.reverse))) : rRevV K Q (.ref a) H := ⟨a, xs, rfl, h, q⟩
theorem room2 {xs zs : List V} {n m : Nat} (h1 : xs.length ≤ n) (h2 : zs.length ≤ m) (h : n + m ≤ 1000000) : xs.length + zs.length ≤ sizeLine := Nat.le_trans (Nat.add_le_add h1 h2) (Nat.le_trans h (by decide))
theorem len_one {v : V} : [v].length ≤ 1 := Nat.le_refl 1
theorem len_app {xs ys : List V} {n m : Nat} (h1 : xs.length ≤ n) (h2 : ys.length ≤ m) : (xs ++ ys).length ≤ n + m := by
  rw [List.length_append]
  exact Nat.add_le_add h1 h2
theorem len_rev {xs : List V} {n : Nat} (h : xs.length ≤ n) : xs.reverse.length ≤ n := by
  rw [List.length_reverse]
  exact h
theorem same_upd3 {H H' : Hp} {p : Addr} {o : HO} (h : Same H H') (hp : H' p = none) : Same H (upd H' p o) := same_upd2 h (h.free hp)
section
variable {H : Hp} {Q : VK} {i : Int}
theorem rd_eqNN (q : Q (.bl true) H) : rEq .non .non H Q := ⟨rfl, by simpa using q⟩
instance st_eqNN : Stp (rEq .non .non H Q) (Q (.bl true) H) := ⟨fun h => rd_eqNN h⟩
theorem rd_neNN (q : Q (.bl false) H) : rNe .non .non H Q := ⟨rfl, by simpa using q⟩
instance st_neNN : Stp (rNe .non .non H Q) (Q (.bl false) H) := ⟨fun h => rd_neNN h⟩
theorem rd_eqNI (q : Q (.bl false) H) : rEq .non (.int i) H Q := ⟨rfl, by simpa using q⟩
instance st_eqNI : Stp (rEq .non (.int i) H Q) (Q (.bl false) H) := ⟨fun h => rd_eqNI h⟩
theorem rd_neNI (q : Q (.bl true) H) : rNe .non (.int i) H Q := ⟨rfl, by simpa using q⟩
instance st_neNI : Stp (rNe .non (.int i) H Q) (Q (.bl true) H) := ⟨fun h => rd_neNI h⟩
theorem rd_eqIN (q : Q (.bl false) H) : rEq (.int i) .non H Q := ⟨rfl, by simpa using q⟩
instance st_eqIN : Stp (rEq (.int i) .non H Q) (Q (.bl false) H) := ⟨fun h => rd_eqIN h⟩
theorem rd_neIN (q : Q (.bl true) H) : rNe (.int i) .non H Q := ⟨rfl, by simpa using q⟩
instance st_neIN : Stp (rNe (.int i) .non H Q) (Q (.bl true) H) := ⟨fun h => rd_neIN h⟩
end
end L2

namespace L2
open PySem PySem.Spec PyProof.Rows
/-! ### sets of ints -/
section
variable {P : Program} {w : World} {K : PySem.W.Frag} {mg : Str → Option Value} {base : Heap}
/-- a def whose text asks of its code object -/
theorem DefAt.okC {x : Str} {st : Stmt} {N ps : List Str} {k : Nat} {sp : Sp} (D : DefAt K mg x st ps) (S : FnScope N ps (defScope st)) (len : ∀ vs H Q E, sp vs H Q E → vs.length = ps.length)
    (body : ∀ (f : Addr) (cdv : Value) (hcd : PySem.W.kdsCode K cdv = true) (A : Around) (outer : List Env) (s : Shared) (H : Hp) (vs : List V) (Q : VK) (E : XK), Room k (A.deeper (envOfC x (defScope st) s.heap.objs.size f cdv)) → sp vs H Q E →
      ∃ t, PSs (cxOf (L2.CX P w) P w K mg base N x (defScope st) f cdv A outer s H E) (defBody st) t ∧ t ⟨fun _ H' => Q .non H', Q, fun _ _ => False, fun _ _ => False⟩ (start N vs) H) : Def P w K mg base (k + 1) x ps sp := by
  obtain ⟨f, fd, F, g, b⟩ := D.ex
  have kp := F.kp
  obtain ⟨c0, d0, v1, v2, v3, v4, cdv, v5, sl, rfl, lk, hcd⟩ := F.ex
  exact ⟨f, _, fn_of lk hcd S len fun A outer s H vs Q E r h => body f cdv (kdsCode_of hcd) A outer s H vs Q E r h, g, kp, b⟩
end
section
variable {X : Cx}
def setNo : Int → Bool := fun _ => false
/-- two ints in braces -/
def tSet2 (w : World) (t1 t2 : TE) : TE := fun σ H Q => ∀ D, H D = none → t1 σ (upd H D (SetO w D setNo 0)) fun x H1 => t2 σ H1 fun y H2 => ∃ i j : Int, x = .int i ∧ y = .int j ∧ H2 D = some (SetO w D setNo 0) ∧
  Q (.ref D) (upd H2 D (SetO w D (fun k => decide (k = i ∨ k = j)) (if i = j then 1 else 2)))
theorem setAdd_int {pins : List (Addr × Obj)} {σ : St} {H : Hp} {s : Shared} {D : Addr} {S : Int → Bool} {n : Nat} {k : Int} {u : Value} {A : Around} {E : Value → Shared → Prop} {Q : Bool → Shared → Prop} (I : Inv X pins σ H s) (hD : H D = some (SetO X.w D S n)) (hn : n + 1 < scanBound) (hu : RelV (.int k) u)
    (q : ∀ s', Inv X pins σ (upd H D (SetO X.w D (fun j => S j || decide (j = k)) (if S k = true then n else n + 1))) s' → ∀ b, Q b s') : wpAny (model X.prog X.w) A (setAdd D u) Q E s := by
  obtain ⟨tk, rfl⟩ := hu
  have R := setO_get I hD
  unfold setAdd
  refine wpAny_holding (wpAny_bind ((intKind X.prog X.w).pyHash (intKind_is X.prog X.w k tk) ?_))
  refine setR_add_hashed (s := { s with toks := s.toks + 1 }) R hn fun h' sb new => q _ ?_ _
  have there : ∃ o, h'.get? D = some o := by
    obtain ⟨o, _, _, _, ho, _⟩ := new
    exact ⟨o, ho⟩
  exact I.write (e := D) (t' := s.toks + 1) (by rw [hD]; trivial) (.inl rfl) (fun b o ne ho => (sb.2 b ne).trans ho) there (setO_new new)
theorem pe_set2 {e1 e2 : Expr} {t1 t2 : TE} {pos : Pos} (h1 : PE X e1 t1) (h2 : PE X e2 t2) (hcd : PySem.W.kdsCode X.K X.env.code = true)
    (hs : starEach [e1, e2] X.env = [(false, eval e1 X.env), (false, eval e2 X.env)] := by rfl) : PE X (.Set [e1, e2] 0 pos) (tSet2 X.w t1 t2) := by
  refine ⟨fun pins s σ H Q I h => ?_⟩
  rw [arm_eval_Set, hs]
  refine wpAny_bind (wpAny_standAt (wpAny_bind (PySem.W.kds_main I.kIn hcd fun b => ?_)))
  show wpAny _ _ (setDisplay .oneByOne b [(false, eval e1 X.env >>= fun v => standAt pos >>= fun _ => pure v), (false, eval e2 X.env >>= fun v => standAt pos >>= fun _ => pure v)]) _ _ _
  unfold setDisplay
  rw [if_neg (by decide)]
  refine wpAny_bind (PpSet.newSet_ok ?_)
  have I1 : Inv X pins σ (upd H s.heap.objs.size (SetO X.w s.heap.objs.size setNo 0)) _ := I.laid (t' := s.toks) (fun b o z => Heap.get?_push_of_some _ z) (Nat.le_refl _) (setO_new (setR_fresh X.w))
  replace h := h s.heap.objs.size (I.hok.fresh (Nat.le_refl _))
  generalize s.heap.objs.size = D at *
  refine wpAny_bind (wpAny_holding (wpAny_bind ?_))
  show wpAny _ _ (evalAll [eval e1 X.env >>= fun v => standAt pos >>= fun _ => pure v, eval e2 X.env >>= fun v => standAt pos >>= fun _ => pure v]) _ _ _
  refine wpAny_bind (wpAny_bind (thn (h1.run pins _ σ _ _ I1 h) fun u1 s1 ⟨x, H1, I2, r1, g⟩ => wpAny_bind (wpAny_standAt (wpAny_pure ?_))))
  refine wpAny_bind (wpAny_holding (wpAny_bind (wpAny_bind (thn (h2.run pins _ σ _ _ I2 g) fun u2 s2 ⟨y, H2, I3, r2, i, j, ex, ey, hD, q⟩ => wpAny_bind (wpAny_standAt (wpAny_pure ?_))))))
  subst ex ey
  refine wpAny_bind (wpAny_holding (wpAny_pure (wpAny_pure (wpAny_pure ?_))))
  refine wpAny_bind (wpAny_holding (wpAny_bind ?_))
  rw [List.forIn_cons]
  refine wpAny_bind (wpAny_bind (setAdd_int I3 hD (by decide) r1 fun s3 I4 _ => wpAny_pure ?_))
  dsimp only
  rw [List.forIn_cons]
  refine wpAny_bind (wpAny_bind (setAdd_int I4 upd_same (by show 0 + 1 + 1 < scanBound; decide) r2 fun s4 I5 _ => wpAny_pure ?_))
  dsimp only
  rw [List.forIn_nil, if_neg (by decide)]
  refine wpAny_pure (wpAny_pure (wpAny_pure ?_))
  rw [upd_upd] at I5
  have e1 : (fun l => setNo l || decide (l = i) || decide (l = j)) = fun k : Int => decide (k = i ∨ k = j) := by
    funext l
    simp [setNo]
  have e2 : (if (setNo j || decide (j = i)) = true then if setNo i = true then 0 else 0 + 1 else (if setNo i = true then 0 else 0 + 1) + 1) = if i = j then 1 else 2 := by
    by_cases z : i = j
    · simp [setNo, z]
    · have z2 : ¬ j = i := fun y => z y.symm
      simp [setNo, z, z2]
  rw [e1, e2] at I5
  exact wpAny_pure ⟨.ref D, _, I5, rfl, q⟩
instance st_set2 {w : World} {t1 t2 : TE} {σ : St} {H : Hp} {Q : VK} : Stp (tSet2 w t1 t2 σ H Q) (∀ D, H D = none → t1 σ (upd H D (SetO w D setNo 0)) fun x H1 => t2 σ H1 fun y H2 => ∃ i j : Int, x = .int i ∧ y = .int j ∧ H2 D = some (SetO w D setNo 0) ∧
  Q (.ref D) (upd H2 D (SetO w D (fun k => decide (k = i ∨ k = j)) (if i = j then 1 else 2)))) := ⟨fun h => h⟩
instance st_par3 {i j l : Nat} {ta : TA} {σ : St} {H : Hp} {nx : St → Hp → Prop} {rt : VK} {bk ct : St → Hp → Prop} : Stp (tPar3 i j l ta ⟨nx, rt, bk, ct⟩ σ H) (ta σ H fun vs H1 => ∃ u v w, vs = [u, v, w] ∧ nx (((σ.set i (some u)).set j (some v)).set l (some w)) H1) := ⟨fun h => h⟩
instance st_par3e {u v w : V} {nx : V → V → V → Prop} : Stp (∃ u' v' w', [u, v, w] = [u', v', w'] ∧ nx u' v' w') (nx u v w) := ⟨fun h => ⟨u, v, w, rfl, h⟩⟩
/-- sorted of two ints in braces -/
theorem rd_sortSet2 {w : World} {D : Addr} {i j : Int} {n : Nat} {H : Hp} {Q : VK} (hD : H D = some (SetO w D (fun k => decide (k = i ∨ k = j)) n)) (hn : n < 64)
    (q : ∀ p, H p = none → Q (.ref p) (upd H p (.lst ((if i < j then [i, j] else if j < i then [j, i] else [i]).map V.int)))) : rSortedSet w [.ref D] H Q := by
  refine ⟨D, _, n, rfl, hD, hn, fun ns p h1 h2 _ hp => ?_⟩
  have e : ns = if i < j then [i, j] else if j < i then [j, i] else [i] := by
    have mem : ∀ k, k ∈ ns ↔ k = i ∨ k = j := fun k => by rw [h2 k]; simp
    match ns, h1, mem with
    | [], _, mem => exact absurd ((mem i).mpr (.inl rfl)) List.not_mem_nil
    | [a], _, mem =>
      have a1 := List.mem_singleton.mp ((mem i).mpr (.inl rfl))
      have a2 := List.mem_singleton.mp ((mem j).mpr (.inr rfl))
      subst a1
      subst a2
      rw [if_neg (by omega), if_neg (by omega)]
    | a :: b :: l, h1, mem =>
      obtain ⟨p1, p2⟩ := List.pairwise_cons.mp h1
      have hab := p1 b List.mem_cons_self
      have ha := (mem a).mp List.mem_cons_self
      have hb := (mem b).mp (List.mem_cons_of_mem _ List.mem_cons_self)
      have hl : l = [] := by
        cases l with
        | nil => rfl
        | cons c l =>
          have hc := (mem c).mp (List.mem_cons_of_mem _ (List.mem_cons_of_mem _ List.mem_cons_self))
          have h3 := p1 c (List.mem_cons_of_mem _ List.mem_cons_self)
          have h4 := (List.pairwise_cons.mp p2).1 c List.mem_cons_self
          omega
      subst hl
      rcases ha with rfl | rfl
      · rcases hb with rfl | rfl
        · omega
        · rw [if_pos hab]
      · rcases hb with rfl | rfl
        · rw [if_neg (by omega), if_pos hab]
        · omega
  rw [e]
  exact q p hp
end
end L2

namespace L2
open PySem PySem.Spec PyProof.Rows
theorem setPut_int {X : Cx} {pins : List (Addr × Obj)} {σ : St} {H : Hp} {s : Shared} {E : Value → Shared → Prop} {D : Addr} {S : Int → Bool} {n : Nat} {k : Int} {u : Value} {Q : Value → Shared → Prop} (I : Inv X pins σ H s) (at_ : H D = some (SetO X.w D S n)) (roomy : n + 1 < scanBound) (hu : RelV (.int k) u)
    (q : ∀ s', Inv X pins σ (upd H D (SetO X.w D (fun j => S j || decide (j = k)) (if S k = true then n else n + 1))) s' → Q .none s') : wpAny (model X.prog X.w) X.A (call (.builtin "set.add") [.ref D, u]) Q E s := by
  obtain ⟨tk, rfl⟩ := hu
  refine setR_add (setO_get I at_) roomy fun h' sb new => q _ ?_
  have there : ∃ o, h'.get? D = some o := by
    obtain ⟨o, _, _, _, ho, _⟩ := new
    exact ⟨o, ho⟩
  exact I.write (e := D) (t' := s.toks + 1) (by rw [at_]; trivial) (.inl rfl) (fun b o ne ho => (sb.2 b ne).trans ho) there (setO_new new)
section
variable {X : Cx}
/-- a set of whol, made by a comprehension: D the new set, Z what each turn keeps -/
def tScI (w : World) (wi : TI) (g : TG) (tt : TT) (te : TE) (vs : List Nat) : TE := fun σ H Q => wi σ H fun J H1 => ∀ D, H1 D = none → ∃ Z : Nat → Nat → Hp → Prop, (∃ m, Z 0 m (upd H1 D (SetO w D setNo 0))) ∧ ∀ i m G, Z i m G →
  (J.stop i G ∧ Q (.ref D) G) ∨ (J.go i G ∧ ∃ Y : Hp → Prop, (∀ G', Y G' → ∃ l, l < m ∧ Z (i + 1) l G') ∧ ∀ x G', J.yld i G x G' → g x (wipe σ vs) G' fun σ2 G2 => wipe σ2 vs = wipe σ vs ∧ tt σ2 G2 fun b G3 =>
    if b = true then te σ2 G3 fun y G4 => ∃ (c : Int) (S : Int → Bool) (n : Nat), y = .int c ∧ G4 D = some (SetO w D S n) ∧ n + 1 < scanBound ∧ Y (upd G4 D (SetO w D (fun j => S j || decide (j = c)) (if S c = true then n else n + 1))) else Y G3)
theorem scI_gen {pins : List (Addr × Obj)} {s : Shared} {σ : St} {H : Hp} {Q : VK} {use : Option (Value → Sem Unit)} {Qf : Value → Shared → Prop} {pos2 : Pos} {elt tg iter : Expr} {ifs : List Expr} {scope : Scope} {own : List (PySem.Str × Nat)} {pos : Pos} {wi : TI} {g : TG} {tt : TT} {te : TE} (calm : X.calm = true) (nd : X.N.Nodup) (it0 : PI X tg iter wi) (ok : BlkOk X.N X.env.scope scope own)
    (pg0 : ∀ (s0 : Shared) (G : Hp) (C : Addr) (cl : List (PySem.Str × Addr)) (fp : List Addr), PG (X.blk s0 G scope (compEnvC scope cl C X.env) fp) tg g)
    (pt0 : ∀ (s0 : Shared) (G : Hp) (C : Addr) (cl : List (PySem.Str × Addr)) (fp : List Addr), PTs (X.blk s0 G scope (compEnvC scope cl C X.env) fp) ifs tt)
    (pe0 : ∀ (s0 : Shared) (G : Hp) (C : Addr) (cl : List (PySem.Str × Addr)) (fp : List Addr), PE (X.blk s0 G scope (compEnvC scope cl C X.env) fp) elt te) (fold : ∀ x, foldedSetIterable iter X.env x = pure x)
    (I0 : Inv X pins σ H s) (want : (tScI X.w wi g tt te (own.map (·.2))) σ H Q)
    (last : ∀ D C s' m H', Inv X pins σ H' s' → Q (.ref D) H' → s'.heap.Ns C m → FpOk X pins H' C → compPost (model X.prog X.w) X.A X.xe use Qf (.ref D) C (.ok .next) s') :
    wpAny (model X.prog X.w) X.A (comprehension (.SetComp elt [⟨tg, iter, ifs, 0⟩] scope pos) scope X.env pos2 (newSet (.type "set")) false (eval iter X.env) use) Qf X.xe s := by
  have clo : ∀ y ∈ scope.names, y.2 = .free → ∃ c, X.env.cells.lookup y.1 = some c := fun y hy e => I0.ok.has _ ((ok.free y hy e).elim .inl .inr)
  refine wpAny_comprehension_free (use := use) rfl fold (closure_ok clo) ok.kind (fun y hy e => by rw [ok.uniq y hy, e]) (thn (it0.run pins s σ H _ I0 want) fun _ _ hx => thn hx fun _ s2 got => ?_)
  obtain ⟨it, fp, tn, J, H2, rfl, I2, T, st2, f2, q⟩ := got
  refine PpSet.newSet_ok (newEnv_comp ?_)
  obtain ⟨Z, ⟨m0, z0⟩, turn⟩ := q s2.heap.objs.size (I2.hok.fresh (Nat.le_refl _))
  have I3 : Inv X pins σ (upd H2 s2.heap.objs.size (SetO X.w s2.heap.objs.size setNo 0)) _ := I2.laid (t' := s2.toks) (fun b o e => Heap.get?_push_of_some _ e) (Nat.le_refl _) (setO_new (setR_fresh X.w))
  have old : ∀ b ∈ fp, b < s2.heap.objs.size := fun b hb => let ⟨_, e, _⟩ := T.obj _ _ st2 b hb; Heap.lt_size e
  generalize hs3 : ({ s2 with heap := s2.heap.push { cls := .type "set", dict := none, data := .set #[] 0 (.fresh 0 0 (!X.w.params.followText "set-order")) } } : Shared) = s3 at *
  have grown : ∀ b o, s2.heap.get? b = some o → s3.heap.get? b = some o := fun b o e => by rw [← hs3]; exact Heap.get?_push_of_some _ e
  have wider : s3.heap.objs.size = s2.heap.objs.size + 1 := by rw [← hs3]; exact Heap.size_push _ _
  have f3 : ∀ b ∈ fp, FpOk X pins (upd H2 s2.heap.objs.size (SetO X.w s2.heap.objs.size setNo 0)) b ∧ b < s3.heap.objs.size := fun b hb =>
    ⟨⟨by rw [upd_ne (Nat.ne_of_lt (old b hb))]; exact (f2 b hb).1, (f2 b hb).2⟩, by rw [wider]; exact Nat.lt_succ_of_lt (old b hb)⟩
  generalize s2.heap.objs.size = D at *
  have st3 := T.keep _ _ _ st2 fun b _ o e => grown b o e
  have I4 := block_start I3 ok nd f3
  generalize hH3 : upd H2 D (SetO X.w D setNo 0) = H3 at *
  have pg := pg0 s3 H3 s3.heap.objs.size (cellsFrom (s3.heap.objs.size + 1) scope.names (cloFrom X.env.cells scope.names [])) fp
  have pt := pt0 s3 H3 s3.heap.objs.size (cellsFrom (s3.heap.objs.size + 1) scope.names (cloFrom X.env.cells scope.names [])) fp
  have pe := pe0 s3 H3 s3.heap.objs.size (cellsFrom (s3.heap.objs.size + 1) scope.names (cloFrom X.env.cells scope.names [])) fp
  generalize hS4 : ({ s3 with heap := pushCells (s3.heap.push { cls := .type "dict", data := .dict #[] }) scope.names } : Shared) = s4 at *
  generalize hce : compEnvC scope (cellsFrom (s3.heap.objs.size + 1) scope.names (cloFrom X.env.cells scope.names [])) s3.heap.objs.size X.env = ce at *
  have place : ce.locals = s3.heap.objs.size := by rw [← hce]; rfl
  show codeAny _ _ (.compStart (.SetComp elt [⟨tg, iter, ifs, 0⟩] scope pos) 0 (.ref it) (.ref D) (compEnvC scope (cellsFrom (s3.heap.objs.size + 1) scope.names (cloFrom X.env.cells scope.names [])) s3.heap.objs.size X.env)) (compPost (model X.prog X.w) X.A X.xe use Qf (.ref D) s3.heap.objs.size) s4
  rw [hce]
  have st4 := T.keep _ _ s4.heap st3 fun b _ o e => by rw [← hS4]; exact pushCells_keeps _ _ _ _ (Heap.get?_push_of_some _ e)
  have none3 : ∀ b ∈ fp, H3 b = none := fun b hb => (f3 b hb).1.1
  -- an object of the walk may be met again inside the block
  have meet : ∀ {τ : L2.St} {G : Hp} {t : Shared}, Inv (X.blk s3 H3 scope ce fp) [] τ G t → (∀ b ∈ fp, G b = none) → ∀ b ∈ fp, FpOk (X.blk s3 H3 scope ce fp) [] G b := fun {τ G t} V no b hb =>
    ⟨no b hb, (V.ok.exf b hb).1, V.ok.exfs b hb, .inl hb, fun x c e => (V.ok.exf b hb).2 x c e, fun p hp => absurd (show p ∈ ([] : List (Addr × Obj)) ++ [] from hp) (by simp)⟩
  have around : codeAny (model X.prog X.w) X.A (.compLoop (.SetComp elt [⟨tg, iter, ifs, 0⟩] scope pos) 0 (.ref it) (.ref D) ce) (compPost (model X.prog X.w) X.A X.xe use Qf (.ref D) s3.heap.objs.size) s4 := by
    refine PpSet.compLoopS_any (fun m t => ∃ i G, Inv (X.blk s3 H3 scope ce fp) [] (wipe σ (own.map (·.2))) G t ∧ tn i t.heap ∧ (∀ b ∈ fp, G b = none) ∧ Z i m G) ?_ m0 ⟨0, H3, I4, st4, none3, z0⟩
    rintro m t5 ⟨i, G5, V5, w5, no5, z5⟩
    rcases turn i m G5 z5 with ⟨halt, want5⟩ | ⟨more, Y, fewer, step⟩
    · refine thnF (T.done (X.blk s3 H3 scope ce fp) rfl rfl rfl calm i [] t5 _ G5 (fun _ _ => False) V5 (meet V5 no5) w5 halt) fun r t6 ⟨er, V6⟩ => ?_
      subst er
      have V7 : Inv X pins σ G5 t6 := I3.call' (ch := fp) V6.os V6.base V6.hok V6.bare fun b hb => ⟨(f3 b hb).1.2.2.2.1, (f3 b hb).1.2.1, (f3 b hb).1.2.2.2.2.1, (f3 b hb).1.2.2.2.2.2⟩
      have gone : G5 s3.heap.objs.size = none := place ▸ (show G5 ce.locals = none from V6.free)
      obtain ⟨nm, ns6, _⟩ := V6.loc
      replace ns6 : t6.heap.Ns s3.heap.objs.size nm := place ▸ ns6
      exact last D s3.heap.objs.size t6 nm G5 V7 want5 ns6 (I3.fpOk (Nat.le_refl _) gone)
    · refine thnF (T.item (X.blk s3 H3 scope ce fp) rfl rfl rfl calm i [] t5 _ G5 (fun _ _ => False) V5 (meet V5 no5) w5 more) fun r t6 ⟨u, er, rest⟩ => ?_
      subst er
      refine thnF rest fun _ t7 ⟨x, G7, V7, r7, y7, w7, no7⟩ => ?_
      refine thnF (pg.run _ t7 _ G7 x u _ (V7.pinned (meet V7 no7) (T.obj _ _ w7)) r7 (step x G7 y7)) fun _ t8 ⟨τ, G8, V8, same8, q8⟩ => ?_
      refine thnF (pt.run _ t8 τ G8 _ V8 q8) fun b t9 ⟨G9, V9, q9⟩ => ?_
      have wend : ∀ {tz : Shared} {Gz : Hp}, Inv (X.blk s3 H3 scope ce fp) ([] ++ pinsAt fp t7.heap) τ Gz tz → Y Gz → ∃ l, l < m ∧ ∃ i G, Inv (X.blk s3 H3 scope ce fp) [] (wipe σ (own.map (·.2))) G tz ∧ tn i tz.heap ∧ (∀ b ∈ fp, G b = none) ∧ Z i l G := fun {tz Gz} Vz yz => by
        obtain ⟨l, lt, zl⟩ := fewer Gz yz
        have kept : ∀ b ∈ fp, ∀ o, t7.heap.get? b = some o → tz.heap.get? b = some o ∧ Gz b = none := fun b hb o e =>
          let k := Vz.pin (b, o) (List.mem_append_right _ (List.mem_append_right _ (mem_pinsAt hb e)))
          ⟨k.1, k.2.1⟩
        refine ⟨l, lt, i + 1, Gz, (Vz.unpinned (pins := [])).weak (by rw [← same8, wipe_length]) (fun j v e => (wipe_some (same8 ▸ e)).1), T.keep _ _ _ w7 fun b hb o e => (kept b hb o e).1, fun b hb => ?_, zl⟩
        obtain ⟨o, e, _⟩ := T.obj _ _ w7 b hb
        exact (kept b hb o e).2
      cases b with
      | false => exact wend V9 q9
      | true =>
        refine thnF (pe.run _ t9 τ G9 _ V9 q9) fun z t10 ⟨yv, G10, V10, r10, c, S0, n0, ey, at10, roomy, nxt⟩ => ?_
        subst ey
        exact setPut_int (X := X.blk s3 H3 scope ce fp) V10 at10 roomy r10 fun t11 V11 => wend V11 nxt
  exact PpSet.codeAny_compStart_set around (T.self X.A 0 _ _ _ st4 around)
theorem pe_scI {elt tg iter : Expr} {ifs : List Expr} {scope : Scope} {own : List (PySem.Str × Nat)} {pos : Pos} {wi : TI} {g : TG} {tt : TT} {te : TE} (calm : X.calm = true) (nd : X.N.Nodup) (it0 : PI X tg iter wi) (ok : BlkOk X.N X.env.scope scope own)
    (pg0 : ∀ (s0 : Shared) (G : Hp) (C : Addr) (cl : List (PySem.Str × Addr)) (fp : List Addr), PG (X.blk s0 G scope (compEnvC scope cl C X.env) fp) tg g)
    (pt0 : ∀ (s0 : Shared) (G : Hp) (C : Addr) (cl : List (PySem.Str × Addr)) (fp : List Addr), PTs (X.blk s0 G scope (compEnvC scope cl C X.env) fp) ifs tt)
    (pe0 : ∀ (s0 : Shared) (G : Hp) (C : Addr) (cl : List (PySem.Str × Addr)) (fp : List Addr), PE (X.blk s0 G scope (compEnvC scope cl C X.env) fp) elt te) (fold : ∀ x, foldedSetIterable iter X.env x = pure x := by intro _; rfl) :
    PE X (.SetComp elt [⟨tg, iter, ifs, 0⟩] scope pos) (tScI X.w wi g tt te (own.map (·.2))) := by
  refine ⟨fun pins s σ H Q I0 want => ?_⟩
  rw [PpSet.eval_SetComp]
  refine scI_gen calm nd it0 ok pg0 pt0 pe0 fold  I0 want fun D C s' m H' J q ns f => ⟨m, ns, fun h'' sb => ?_⟩
  obtain ⟨g0, g1, g2, g3, g4, g5⟩ := f
  exact ⟨.ref D, H', J.turned (t' := s'.toks) (fun b o ne e => (sb.2 b ne).trans e) g0 g1 g3 g4 g5, rfl, q⟩
theorem ps_scI {i : Nat} {y : PySem.Str} {py spos : Pos} {elt tg iter : Expr} {ifs : List Expr} {scope : Scope} {own : List (PySem.Str × Nat)} {pos : Pos} {wi : TI} {g : TG} {tt : TT} {te : TE} (calm : X.calm = true) (nd : X.N.Nodup) (hy : X.N[i]? = some y) (loc : X.env.scope.names.lookup y = some .local) (swap : swapsWith (.SetComp elt [⟨tg, iter, ifs, 0⟩] scope pos) (some (.Name y py)) spos.line X.env = pure true) (it0 : PI X tg iter wi) (ok : BlkOk X.N X.env.scope scope own)
    (pg0 : ∀ (s0 : Shared) (G : Hp) (C : Addr) (cl : List (PySem.Str × Addr)) (fp : List Addr), PG (X.blk s0 G scope (compEnvC scope cl C X.env) fp) tg g)
    (pt0 : ∀ (s0 : Shared) (G : Hp) (C : Addr) (cl : List (PySem.Str × Addr)) (fp : List Addr), PTs (X.blk s0 G scope (compEnvC scope cl C X.env) fp) ifs tt)
    (pe0 : ∀ (s0 : Shared) (G : Hp) (C : Addr) (cl : List (PySem.Str × Addr)) (fp : List Addr), PE (X.blk s0 G scope (compEnvC scope cl C X.env) fp) elt te) (fold : ∀ x, foldedSetIterable iter X.env x = pure x := by intro _; rfl) :
    PS X (.Assign [.Name y py] (.SetComp elt [⟨tg, iter, ifs, 0⟩] scope pos) spos) (tAsg (tScI X.w wi g tt te (own.map (·.2))) (gName i)) := by
  refine ⟨fun pins s σ H D I0 want => ?_⟩
  rw [exec_Assign_Name_used _ _ _ _ swap]
  refine wpAny_bind (wpAny_standAt (wpAny_bind ?_))
  show wpAny _ X.A (do let _ ← comprehension (.SetComp elt [⟨tg, iter, ifs, 0⟩] scope pos) scope X.env (firstIterPos [⟨tg, iter, ifs, 0⟩] pos) (newSet (.type "set")) false (eval iter X.env) (some (assign (.Name y py) X.env))) _ _ s
  replace want : (tScI X.w wi g tt te (own.map (·.2))) σ H (fun x G => gName i x σ G D.nx) := want
  refine wpAny_bind (thn (scI_gen (Qf := fun _ t => SP X pins D .next t) calm nd it0 ok pg0 pt0 pe0 fold  I0 want fun L C t m G J q ns f => ?_) fun _ t hq => wpAny_pure (wpAny_pure hq))
  show wpAny _ _ (assign (.Name y py) X.env (.ref L)) _ _ _
  refine wpAny_assign_Name (store_ok2 (v := V.ref L) J nd hy (.inl loc) rfl (fun t2 J2 ⟨a, sb, ha⟩ => ?_) (.inr loc))
  obtain ⟨g0, g1, g2, g3, g4, g5⟩ := f
  have away : C ≠ a := by
    rcases ha with z | z
    · exact z ▸ g1
    · exact fun e => g4 y a z e.symm
  exact ⟨m, ns.sameBut sb away, fun h3 sb3 => ⟨_, G, J2.turned (t' := t2.toks) (fun b o ne e => (sb3.2 b ne).trans e) g0 g1 g3 g4 g5, q⟩⟩
theorem sw_set {elt : Expr} {gs : List Comprehension} {scope : Scope} {pos py : Pos} {y : PySem.Str} {l : Nat} {env : Env} (kind : env.scope.kind = .function) (loc : env.scope.names.lookup y = some .local) (line : (py.line == pos.line) = true)
    (other : (scope.names.any fun (n, k) => n == y && (k == .local || k == .cell)) = false) : swapsWith (.SetComp elt gs scope pos) (some (.Name y py)) l env = pure true := by
  have k1 : env.kindOf y = some .local := loc
  have k2 : env.blockKind = .function := by unfold Env.blockKind; rw [kind]; rfl
  unfold swapsWith
  simp only [k2, k1, other, Expr.pos, line]
  rfl
end
/-! ### sorted of a set of whol, of any size -/
theorem sortSet_go {P : Program} {w : World} {A : Around} {E : Value → Shared → Prop} {s : Shared} {a : Addr} {S : Int → Bool} {n : Nat} {Q : Value → Shared → Prop} (R : SetR w s.heap a S n) (calm : A.handled = none)
    (go : ∀ s' p (out : List Value) (c : Nat) (ns : List Int), (∀ b o, s.heap.get? b = some o → s'.heap.get? b = some o) → s'.gens = s.gens → s'.os = s.os → s.heap.objs.size ≤ p →
      s'.heap.get? p = some (seqObj "list" out.toArray c) → IntsAre out ns → ns.Pairwise (· < ·) → (∀ k, k ∈ ns ↔ S k = true) → ns.length = n → n < scanBound → Q (.ref p) s') :
    wpAny (model P w) A (call (.builtin "sorted") [.ref a]) Q E s := by
  obtain ⟨ob, cs, cn, tb, atOb, exOb, dOb, good, dis, mem, few, fit, num, ris, led⟩ := R
  refine Calls.call_function_entry kind_sorted plain_sorted entry_sorted (args_sorted1 _) ?_
  unfold Builtin.«sorted»
  refine wpAny_bind (m := checkCount "sorted" 1 1 _) (wpAny_pure ?_)
  refine wpAny_bind (collect_set (A := A.in1) calm ⟨ob, atOb, exOb.1, dOb⟩ fit few ris led fun t vs keep size gens os pm => ?_)
  have lvs : vs.length = n := by rw [pm.length_eq, List.length_map, Array.length_toList, num]
  have small : vs.length ≤ sizeLine := by
    rw [lvs, sizeLine_eq]
    have b1 : cs.size < 4096 := few
    omega
  have whol : IntsAre vs (vs.map Builtin.Re.reRawOf) := ints_of vs fun v hv => by
    obtain ⟨e, he, rfl⟩ := List.mem_map.mp (pm.mem_iff.mp hv)
    obtain ⟨k, tk, h1, _⟩ := good e he
    exact ⟨k, tk, h1⟩
  have keys : (vs.map Builtin.Re.reRawOf).Perm (cs.toList.map keyOf) := by
    have z := pm.map Builtin.Re.reRawOf
    rwa [List.map_map] at z
  refine wpAny_bind (wpAny_newList ?_ small)
  have atL : (t.heap.push (seqObj "list" vs.toArray 0)).get? t.heap.objs.size = some (seqObj "list" vs.toArray 0) := Heap.get?_push_size _ rfl
  refine wpAny_bind (wpAny_holding (wpAny_call_entry slot_list_sort ⟨_, atL, rfl⟩ entry_list_sort (SrtO.list_sort_ord SrtO.swo_int atL small (fun h2 => SrtO.ints_sortable whol h2) fun out h1 h2 => ⟨_, rfl, ?_⟩) (args_list_sort _)))
  obtain ⟨k1, k2, k3⟩ := SrtO.ints_out whol h1 h2
  obtain ⟨c, atS⟩ := sortedHeap_at (vs := vs) (out := out.toArray) atL
  have pn : (out.map SrtO.iv).Perm (cs.toList.map keyOf) := k2.trans keys
  refine wpAny_pure ⟨_, rfl, go _ t.heap.objs.size out c (out.map SrtO.iv) (fun b u e => ?_) gens os size atS k1 (lt_of_le_nodup _ k3 (pn.nodup_iff.mpr dis)) (fun k => by rw [pn.mem_iff, ← mem k]) ?_ (by rw [← num]; exact few)⟩
  · have z := keep b u e
    have lt := Heap.lt_size z
    show (sortedHeap (t.heap.push (seqObj "list" vs.toArray 0)) t.heap.objs.size vs out.toArray).get? b = some u
    rw [sortedHeap_old (Nat.ne_of_lt lt) (by rw [size_push']; exact Nat.lt_succ_of_lt lt)]
    exact Heap.get?_push_of_some _ z
  · rw [pn.length_eq, List.length_map, Array.length_toList, num]
def rSortSetN (w : World) : List V → Hp → VK → Prop := fun vs H Q => ∃ (a : Addr) (S : Int → Bool) (n : Nat), vs = [V.ref a] ∧ H a = some (SetO w a S n) ∧
  ∀ (ns : List Int) (p : Addr), ns.Pairwise (· < ·) → (∀ k : Int, k ∈ ns ↔ S k = true) → ns.length = n → H p = none → Q (.ref p) (upd H p (.lst (ns.map V.int)))
theorem cr_sortSetN {X : Cx} (calm : X.calm = true) : CallR X (.builtin "sorted") (rSortSetN X.w) := by
  intro pins s σ H vs us Q I r ⟨a, S, n, ev, at_, q⟩
  subst ev
  have R := setO_get I at_
  rw [Vals.ref1 r]
  refine sortSet_go R (I.ok.hd calm) fun s' p out c ns k g o hp hg hi hs hm hl few => ?_
  have fits : (ns.map V.int).length ≤ sizeLine := by
    rw [List.length_map, hl, sizeLine_eq]
    have b1 : n < 4096 := few
    omega
  have J : Inv X pins σ (upd H p (.lst (ns.map V.int))) { s with heap := s'.heap, gens := s'.gens, drawn := s'.drawn, toks := s'.toks } :=
    I.call (ch := []) (Un.laid k hp (I.hok.fresh hp)) (I.hok.laid k hp ⟨fits, out, c, vals_of_ints hi, hg⟩) (by rw [g]; exact I.bare) (fun _ z => nomatch z)
  have e : s' = { s with heap := s'.heap, gens := s'.gens, drawn := s'.drawn, toks := s'.toks } := by
    cases s'
    cases s
    cases o
    rfl
  rw [e]
  exact ⟨.ref p, _, J, rfl, q ns p hs hm hl (I.hok.fresh hp)⟩
/-! ### readings -/
section
variable {w : World} {σ : St} {H : Hp} {Q : VK} {K : PySem.W.Frag} {te : TE} {tt : TT}
def inS (l : List Int) : Int → Bool := fun k => decide (k ∈ l)
theorem inS_nil : inS [] = setNo := by
  funext k
  simp [inS, setNo]
theorem inS_snoc {l : List Int} {c : Int} : (fun j => inS l j || decide (j = c)) = inS (l ++ [c]) := by
  funext k
  simp [inS]
def scB (w : World) (J : It) (g : TG) (tt : TT) (te : TE) (vs : List Nat) (σ : St) (Q : VK) (H1 : Hp) : Prop := ∀ D, H1 D = none → ∃ Z : Nat → Nat → Hp → Prop, (∃ m, Z 0 m (upd H1 D (SetO w D setNo 0))) ∧ ∀ i m G, Z i m G →
  (J.stop i G ∧ Q (.ref D) G) ∨ (J.go i G ∧ ∃ Y : Hp → Prop, (∀ G', Y G' → ∃ l, l < m ∧ Z (i + 1) l G') ∧ ∀ x G', J.yld i G x G' → g x (wipe σ vs) G' fun σ2 G2 => wipe σ2 vs = wipe σ vs ∧ tt σ2 G2 fun b G3 =>
    if b = true then te σ2 G3 fun y G4 => ∃ (c : Int) (S : Int → Bool) (n : Nat), y = .int c ∧ G4 D = some (SetO w D S n) ∧ n + 1 < scanBound ∧ Y (upd G4 D (SetO w D (fun j => S j || decide (j = c)) (if S c = true then n else n + 1))) else Y G3)
instance st_scI {wi : TI} {g : TG} {vs : List Nat} : Stp (tScI w wi g tt te vs σ H Q) (wi σ H fun J H1 => scB w J g tt te vs σ Q H1) := ⟨fun h => h⟩
/-- what is put in: the set then tells l, of at most m members -/
def ScPut (w : World) (H : Hp) (D : Addr) (l : List Int) (m : Nat) : VK := fun y G => ∃ (c : Int) (S : Int → Bool) (n : Nat), y = .int c ∧ G D = some (SetO w D S n) ∧ n + 1 < scanBound ∧
  ∃ k, k ≤ m ∧ upd G D (SetO w D (fun j => S j || decide (j = c)) (if S c = true then n else n + 1)) = upd H D (SetO w D (inS l) k)
theorem put_S {D : Addr} {l l' : List Int} {k m : Nat} {c : Int} {y : V} (hy : y = .int c) (hk : k ≤ m) (hm : m + 1 < 4096) (hl : l' = l ++ [c]) : ScPut w H D l' (m + 1) y (upd H D (SetO w D (inS l) k)) := by
  refine ⟨c, _, _, hy, upd_same, Nat.lt_of_le_of_lt (Nat.succ_le_succ hk) hm, if inS l c = true then k else k + 1, ?_, ?_⟩
  · split <;> omega
  · rw [upd_upd, inS_snoc, hl]
theorem rd_scR {lo : Int} {n : Nat} {g : TG} {vs : List Nat} (f : Nat → Int)
    (hs : ∀ D i k, H D = none → i < n → k ≤ i → g (.int (lo + i)) (wipe σ vs) (upd H D (SetO w D (inS ((List.range i).map f)) k)) fun σ2 H2 => wipe σ2 vs = wipe σ vs ∧ te σ2 H2 (ScPut w H D ((List.range (i + 1)).map f) (i + 1)))
    (q : ∀ D k, H D = none → k ≤ n → Q (.ref D) (upd H D (SetO w D (inS ((List.range n).map f)) k))) : scB w (Itr lo n) g tYes te vs σ Q H := by
  intro D hD
  refine ⟨fun i m G => m = n - i ∧ i ≤ n ∧ ∃ k, k ≤ i ∧ G = upd H D (SetO w D (inS ((List.range i).map f)) k), ⟨n, by simp, Nat.zero_le _, 0, Nat.le_refl _, by rw [← inS_nil]; rfl⟩, ?_⟩
  rintro i m G ⟨rfl, hi, k, hk, rfl⟩
  by_cases lt : i < n
  · refine .inr ⟨lt, fun G' => ∃ k, k ≤ i + 1 ∧ G' = upd H D (SetO w D (inS ((List.range (i + 1)).map f)) k), fun G' ⟨k', a, b⟩ => ⟨n - (i + 1), by omega, rfl, lt, k', a, b⟩, fun x G' y => ?_⟩
    obtain ⟨e, y⟩ := y
    subst e y
    exact hs D i k hD lt hk
  · have e : i = n := by omega
    subst e
    exact .inl ⟨Nat.le_refl _, q D k hD hk⟩
theorem range_snoc {f : Nat → Int} {i : Nat} : (List.range (i + 1)).map f = (List.range i).map f ++ [f i] := by
  rw [List.range_succ, List.map_append]
  rfl
/-- sorted of a set that tells l -/
theorem rd_sortSetN {D : Addr} {l : List Int} {n : Nat} (hD : H D = some (SetO w D (inS l) n)) (q : ∀ (ns : List Int) (p : Addr), ns.Pairwise (· < ·) → (∀ k, k ∈ ns ↔ k ∈ l) → H p = none → Q (.ref p) (upd H p (.lst (ns.map V.int)))) : rSortSetN w [.ref D] H Q :=
  ⟨D, _, n, rfl, hD, fun ns p h1 h2 _ hp => q ns p h1 (fun k => by rw [h2 k]; simp [inS]) hp⟩
end
end L2

namespace L2
open PySem PySem.Spec PyProof.Rows
/-! ### a set of ints by a comprehension of two clauses -/
section
variable {P : Program} {w : World} {A : Around} {R : Result → Shared → Prop} {s : Shared} {e tA fA tB fB : Expr} {cA cB : List Expr} {sc : Scope} {ps : Pos} {src dst : Value} {en : Env}
theorem sc2_turnA (e tA fA tB fB : Expr) (cA cB : List Expr) (sc : Scope) (ps : Pos) (src dst : Value) (en : Env) :
    compTurn (.SetComp e [⟨tA, fA, cA, 0⟩, ⟨tB, fB, cB, 0⟩] sc ps) 0 src dst en = (do
      standAt fA.pos
      match ← pyNext src with
      | none => pure (.done .next)
      | some item =>
        letOwnedTupleGo tA src item
        assign tA en item
        let mut good := true
        for cond in cA do
          if good then good ← isTrue cond en (eval cond en)
        if good then
          let inner ← eval fB en
          standAt fB.pos
          let inner ← foldedSetIterable fB en inner
          let _ ← runOwn (.compStart (.SetComp e [⟨tA, fA, cA, 0⟩, ⟨tB, fB, cB, 0⟩] sc ps) 1 (← holding [inner] (pyIter inner)) dst en) en
        again (.compLoop (.SetComp e [⟨tA, fA, cA, 0⟩, ⟨tB, fB, cB, 0⟩] sc ps) 0 src dst en)) := by rfl
theorem sc2_turnB (e tA fA tB fB : Expr) (cA cB : List Expr) (sc : Scope) (ps : Pos) (src dst : Value) (en : Env) :
    compTurn (.SetComp e [⟨tA, fA, cA, 0⟩, ⟨tB, fB, cB, 0⟩] sc ps) 1 src dst en = (do
      standAt fB.pos
      match ← pyNext src with
      | none => pure (.done .next)
      | some item =>
        letOwnedTupleGo tB src item
        assign tB en item
        let mut good := true
        for cond in cB do
          if good then good ← isTrue cond en (eval cond en)
        if good then
          (do let member ← eval e en; standAt e.pos; let _ ← call (.builtin "set.add") [dst, member])
        again (.compLoop (.SetComp e [⟨tA, fA, cA, 0⟩, ⟨tB, fB, cB, 0⟩] sc ps) 1 src dst en)) := by rfl
/-- what is asked of the tests -/
abbrev sc2_tests (cs : List Expr) (en : Env) : Sem Bool := forIn cs true fun c r => if r = true then do let ok ← isTrue c en (eval c en); pure (ForInStep.yield ok) else pure (ForInStep.yield r)
abbrev sc2_bad (P : Program) (w : World) (A : Around) (R : Result → Shared → Prop) (en : Env) : Value → Shared → Prop := notedBy (model P w) A en fun x t => R (.error x) t
theorem sc2_loopA (plain : ∀ x, foldedSetIterable fB en x = pure x) (Z : Nat → Shared → Prop)
    (turn : ∀ m t, Z m t → wpAny (model P w) A (pyNext src) (fun r t1 => match r with
      | none => R (.ok .next) t1
      | some u => wpAny (model P w) A (letOwnedTupleGo tA src u) (fun _ t2 => wpAny (model P w) A (assign tA en u) (fun _ t3 =>
          wpAny (model P w) A (sc2_tests cA en) (fun good t4 =>
            if good = true then wpAny (model P w) A (eval fB en) (fun x t5 => wpAny (model P w) A (pyIter x) (fun src1 t6 =>
              codeAny (model P w) A (.compStart (.SetComp e [⟨tA, fA, cA, 0⟩, ⟨tB, fB, cB, 0⟩] sc ps) 1 src1 dst en) (fun r t7 => match r with
                | .ok _ => ∃ l, l < m ∧ Z l t7
                | .error _ => False) t6) (sc2_bad P w A R en) t5) (sc2_bad P w A R en) t4
            else ∃ l, l < m ∧ Z l t4) (sc2_bad P w A R en) t3) (sc2_bad P w A R en) t2) (sc2_bad P w A R en) t1) (sc2_bad P w A R en) t)
    (m : Nat) (z : Z m s) :
    codeAny (model P w) A (.compLoop (.SetComp e [⟨tA, fA, cA, 0⟩, ⟨tB, fB, cB, 0⟩] sc ps) 0 src dst en) R s := by
  refine codeAny_loop rfl Z (fun m t hz => ?_) m z
  show wpAny _ A ((compTurn (.SetComp e [⟨tA, fA, cA, 0⟩, ⟨tB, fB, cB, 0⟩] sc ps) 0 src dst en).onRaise (fun x => do noteFrame x en; theTreesLotGoes x)) _ _ t
  refine wpAny_noted ?_
  rw [sc2_turnA]
  refine wpAny_bind (wpAny_standAt (wpAny_bind (wpAny_mono (turn m t hz) (fun r t1 k1 => ?_) fun _ _ z => z)))
  cases r with
  | none => exact wpAny_pure k1
  | some u =>
    refine wpAny_bind (wpAny_mono k1 (fun _ t2 k2 => wpAny_bind (wpAny_mono k2 (fun _ t3 k3 => wpAny_bind (wpAny_mono k3 (fun good t4 k4 => ?_) fun _ _ z => z)) fun _ _ z => z)) fun _ _ z => z)
    cases good with
    | false => exact wpAny_pure ⟨rfl, k4⟩
    | true =>
      refine wpAny_bind (wpAny_mono k4 (fun x t5 k5 => ?_) fun _ _ z => z)
      refine wpAny_bind (wpAny_standAt (wpAny_bind (wpAny_of_eq (plain x) (wpAny_bind (wpAny_holding (wpAny_mono k5 (fun src1 t6 k6 => wpAny_bind (wpAny_runOwn ?_)) fun _ _ z => z))))))
      rw [Around.mark_none]
      refine codeAny_mono k6 fun r t7 k7 => ?_
      cases r with
      | ok f =>
        first
          | exact wpAny_pure ⟨rfl, k7⟩
          | exact wpAny_bind (wpAny_pure (wpAny_pure ⟨rfl, k7⟩))
      | error x => exact k7.elim
theorem sc2_loopB (Z : Nat → Shared → Prop)
    (turn : ∀ m t, Z m t → wpAny (model P w) A (pyNext src) (fun r t1 => match r with
      | none => R (.ok .next) t1
      | some u => wpAny (model P w) A (letOwnedTupleGo tB src u) (fun _ t2 => wpAny (model P w) A (assign tB en u) (fun _ t3 =>
          wpAny (model P w) A (sc2_tests cB en) (fun good t4 =>
            if good = true then wpAny (model P w) A (eval e en) (fun x t5 =>
              wpAny (model P w) A (call (.builtin "set.add") [dst, x]) (fun _ t6 => ∃ l, l < m ∧ Z l t6) (sc2_bad P w A R en) t5) (sc2_bad P w A R en) t4
            else ∃ l, l < m ∧ Z l t4) (sc2_bad P w A R en) t3) (sc2_bad P w A R en) t2) (sc2_bad P w A R en) t1) (sc2_bad P w A R en) t)
    (m : Nat) (z : Z m s) :
    codeAny (model P w) A (.compLoop (.SetComp e [⟨tA, fA, cA, 0⟩, ⟨tB, fB, cB, 0⟩] sc ps) 1 src dst en) R s := by
  refine codeAny_loop rfl Z (fun m t hz => ?_) m z
  show wpAny _ A ((compTurn (.SetComp e [⟨tA, fA, cA, 0⟩, ⟨tB, fB, cB, 0⟩] sc ps) 1 src dst en).onRaise (fun x => do noteFrame x en; theTreesLotGoes x)) _ _ t
  refine wpAny_noted ?_
  rw [sc2_turnB]
  refine wpAny_bind (wpAny_standAt (wpAny_bind (wpAny_mono (turn m t hz) (fun r t1 k1 => ?_) fun _ _ z => z)))
  cases r with
  | none => exact wpAny_pure k1
  | some u =>
    refine wpAny_bind (wpAny_mono k1 (fun _ t2 k2 => wpAny_bind (wpAny_mono k2 (fun _ t3 k3 => wpAny_bind (wpAny_mono k3 (fun good t4 k4 => ?_) fun _ _ z => z)) fun _ _ z => z)) fun _ _ z => z)
    cases good with
    | false => exact wpAny_pure ⟨rfl, k4⟩
    | true =>
      exact wpAny_bind (wpAny_bind (wpAny_mono k4 (fun x t5 k5 => wpAny_bind (wpAny_standAt (wpAny_bind (wpAny_mono k5 (fun _ t6 k6 => wpAny_pure (wpAny_pure ⟨rfl, k6⟩)) fun _ _ z => z)))) fun _ _ z => z))
theorem sc2_startB (here : codeAny (model P w) A (.compLoop (.SetComp e [⟨tA, fA, cA, 0⟩, ⟨tB, fB, cB, 0⟩] sc ps) 1 src dst en) R s)
    (again_ : wpAny (model P w) A (pyIter src) (fun src1 t => codeAny (model P w) A (.compLoop (.SetComp e [⟨tA, fA, cA, 0⟩, ⟨tB, fB, cB, 0⟩] sc ps) 1 src1 dst en) R t) (sc2_bad P w A R en) s) :
    codeAny (model P w) A (.compStart (.SetComp e [⟨tA, fA, cA, 0⟩, ⟨tB, fB, cB, 0⟩] sc ps) 1 src dst en) R s := by
  refine codeAny_of_tree ?_
  show wpAny _ _ ((compStart (.SetComp e [⟨tA, fA, cA, 0⟩, ⟨tB, fB, cB, 0⟩] sc ps) 1 src dst en).onRaise (fun x => do noteFrame x en; standAt theWindowsPlace)) _ _ s
  refine wpAny_notedAt ?_
  unfold compStart
  show wpAny _ _ (ask >>= _) _ _ s
  refine wpAny_bind (wpAny_askSetting (wpAny_ite ?_))
  split
  · first
      | exact wpAny_bind (wpAny_pure (wpAny_pure (And.intro rfl here)))
      | exact wpAny_pure (And.intro rfl here)
  · first
      | exact wpAny_bind (wpAny_rule (wpAny_bind (wpAny_standAt (wpAny_bind (wpAny_mono again_ (fun src1 t k => wpAny_pure (And.intro rfl k)) fun _ _ x => x)))))
      | (refine wpAny_bind (wpAny_rule ?_); show wpAny _ _ (standAt fB.pos >>= _) _ _ s; exact wpAny_bind (wpAny_standAt (wpAny_bind (wpAny_mono again_ (fun src1 t k => wpAny_pure (And.intro rfl k)) fun _ _ x => x))))
end
section
variable {X : Cx}
/-- the inner clause's own loop, from which Y is reached -/
def sc2_inner (w : World) (D : Addr) (g1 : TG) (tt1 : TT) (te : TE) (vs1 : List Nat) (σ2 : St) (Y : Hp → Prop) (J1 : It) (G4 : Hp) : Prop := ∃ Z1 : Nat → Nat → Hp → Prop, (∃ m, Z1 0 m G4) ∧ ∀ j k G, Z1 j k G →
  (J1.stop j G ∧ Y G) ∨ (J1.go j G ∧ ∃ Y1 : Hp → Prop, (∀ G', Y1 G' → ∃ l, l < k ∧ Z1 (j + 1) l G') ∧ ∀ x G', J1.yld j G x G' → g1 x (wipe σ2 vs1) G' fun σ3 G5 => wipe σ3 vs1 = wipe σ2 vs1 ∧ tt1 σ3 G5 fun b G6 =>
    if b = true then te σ3 G6 fun y G7 => ∃ (c : Int) (S : Int → Bool) (n : Nat), y = .int c ∧ G7 D = some (SetO w D S n) ∧ n + 1 < scanBound ∧ Y1 (upd G7 D (SetO w D (fun j => S j || decide (j = c)) (if S c = true then n else n + 1))) else Y1 G6)
def tScI2 (w : World) (wi : TI) (g : TG) (tt : TT) (wi1 : TI) (g1 : TG) (tt1 : TT) (te : TE) (vs vs1 : List Nat) : TE := fun σ H Q => wi σ H fun J H1 => ∀ D, H1 D = none → ∃ Z : Nat → Nat → Hp → Prop, (∃ m, Z 0 m (upd H1 D (SetO w D setNo 0))) ∧ ∀ i m G, Z i m G →
  (J.stop i G ∧ Q (.ref D) G) ∨ (J.go i G ∧ ∃ Y : Hp → Prop, (∀ G', Y G' → ∃ l, l < m ∧ Z (i + 1) l G') ∧ ∀ x G', J.yld i G x G' → g x (wipe σ vs) G' fun σ2 G2 => wipe σ2 vs = wipe σ vs ∧ tt σ2 G2 fun b G3 =>
    if b = true then wi1 σ2 G3 (sc2_inner w D g1 tt1 te vs1 σ2 Y) else Y G3)
theorem scI2_gen {pins : List (Addr × Obj)} {s : Shared} {σ : St} {H : Hp} {Q : VK} {use : Option (Value → Sem Unit)} {Qf : Value → Shared → Prop} {pos2 : Pos} {elt tg iter tg1 iter1 : Expr} {ifs ifs1 : List Expr} {scope : Scope} {own : List (PySem.Str × Nat)} {vs1 : List Nat} {pos : Pos} {wi wi1 : TI} {g g1 : TG} {tt tt1 : TT} {te : TE} (calm : X.calm = true) (nd : X.N.Nodup) (it0 : PI X tg iter wi) (ok : BlkOk X.N X.env.scope scope own) (less : ∀ i ∈ vs1, i ∈ own.map (·.2))
    (pg0 : ∀ (s0 : Shared) (G : Hp) (C : Addr) (cl : List (PySem.Str × Addr)) (fp : List Addr), PG (X.blk s0 G scope (compEnvC scope cl C X.env) fp) tg g)
    (pt0 : ∀ (s0 : Shared) (G : Hp) (C : Addr) (cl : List (PySem.Str × Addr)) (fp : List Addr), PTs (X.blk s0 G scope (compEnvC scope cl C X.env) fp) ifs tt)
    (pi1 : ∀ (s0 : Shared) (G : Hp) (C : Addr) (cl : List (PySem.Str × Addr)) (fp : List Addr), PI (X.blk s0 G scope (compEnvC scope cl C X.env) fp) tg1 iter1 wi1)
    (pg1 : ∀ (s0 : Shared) (G : Hp) (C : Addr) (cl : List (PySem.Str × Addr)) (fp : List Addr), PG (X.blk s0 G scope (compEnvC scope cl C X.env) fp) tg1 g1)
    (pt1 : ∀ (s0 : Shared) (G : Hp) (C : Addr) (cl : List (PySem.Str × Addr)) (fp : List Addr), PTs (X.blk s0 G scope (compEnvC scope cl C X.env) fp) ifs1 tt1)
    (pe0 : ∀ (s0 : Shared) (G : Hp) (C : Addr) (cl : List (PySem.Str × Addr)) (fp : List Addr), PE (X.blk s0 G scope (compEnvC scope cl C X.env) fp) elt te) (fold : ∀ x, foldedSetIterable iter X.env x = pure x) (fold1 : ∀ en x, foldedSetIterable iter1 en x = pure x)
    (I0 : Inv X pins σ H s) (want : (tScI2 X.w wi g tt wi1 g1 tt1 te (own.map (·.2)) vs1) σ H Q)
    (last : ∀ D C s' m H', Inv X pins σ H' s' → Q (.ref D) H' → s'.heap.Ns C m → FpOk X pins H' C → compPost (model X.prog X.w) X.A X.xe use Qf (.ref D) C (.ok .next) s') :
    wpAny (model X.prog X.w) X.A (comprehension (.SetComp elt [⟨tg, iter, ifs, 0⟩, ⟨tg1, iter1, ifs1, 0⟩] scope pos) scope X.env pos2 (newSet (.type "set")) false (eval iter X.env) use) Qf X.xe s := by
  have clo : ∀ y ∈ scope.names, y.2 = .free → ∃ c, X.env.cells.lookup y.1 = some c := fun y hy e => I0.ok.has _ ((ok.free y hy e).elim .inl .inr)
  refine wpAny_comprehension_free (use := use) rfl fold (closure_ok clo) ok.kind (fun y hy e => by rw [ok.uniq y hy, e]) (thn (it0.run pins s σ H _ I0 want) fun _ _ hx => thn hx fun _ s2 got => ?_)
  obtain ⟨it, fp, tn, J, H2, rfl, I2, T, st2, f2, q⟩ := got
  refine PpSet.newSet_ok (newEnv_comp ?_)
  obtain ⟨Z, ⟨m0, z0⟩, turn⟩ := q s2.heap.objs.size (I2.hok.fresh (Nat.le_refl _))
  have I3 : Inv X pins σ (upd H2 s2.heap.objs.size (SetO X.w s2.heap.objs.size setNo 0)) _ := I2.laid (t' := s2.toks) (fun b o e => Heap.get?_push_of_some _ e) (Nat.le_refl _) (setO_new (setR_fresh X.w))
  have old : ∀ b ∈ fp, b < s2.heap.objs.size := fun b hb => let ⟨_, e, _⟩ := T.obj _ _ st2 b hb; Heap.lt_size e
  generalize hs3 : ({ s2 with heap := s2.heap.push { cls := .type "set", dict := none, data := .set #[] 0 (.fresh 0 0 (!X.w.params.followText "set-order")) } } : Shared) = s3 at *
  have grown : ∀ b o, s2.heap.get? b = some o → s3.heap.get? b = some o := fun b o e => by rw [← hs3]; exact Heap.get?_push_of_some _ e
  have wider : s3.heap.objs.size = s2.heap.objs.size + 1 := by rw [← hs3]; exact Heap.size_push _ _
  have f3 : ∀ b ∈ fp, FpOk X pins (upd H2 s2.heap.objs.size (SetO X.w s2.heap.objs.size setNo 0)) b ∧ b < s3.heap.objs.size := fun b hb =>
    ⟨⟨by rw [upd_ne (Nat.ne_of_lt (old b hb))]; exact (f2 b hb).1, (f2 b hb).2⟩, by rw [wider]; exact Nat.lt_succ_of_lt (old b hb)⟩
  generalize s2.heap.objs.size = D at *
  have st3 := T.keep _ _ _ st2 fun b _ o e => grown b o e
  have I4 := block_start I3 ok nd f3
  generalize hH3 : upd H2 D (SetO X.w D setNo 0) = H3 at *
  replace pg0 := pg0 s3 H3 s3.heap.objs.size (cellsFrom (s3.heap.objs.size + 1) scope.names (cloFrom X.env.cells scope.names [])) fp
  replace pt0 := pt0 s3 H3 s3.heap.objs.size (cellsFrom (s3.heap.objs.size + 1) scope.names (cloFrom X.env.cells scope.names [])) fp
  replace pe0 := pe0 s3 H3 s3.heap.objs.size (cellsFrom (s3.heap.objs.size + 1) scope.names (cloFrom X.env.cells scope.names [])) fp
  replace pi1 := pi1 s3 H3 s3.heap.objs.size (cellsFrom (s3.heap.objs.size + 1) scope.names (cloFrom X.env.cells scope.names [])) fp
  replace pg1 := pg1 s3 H3 s3.heap.objs.size (cellsFrom (s3.heap.objs.size + 1) scope.names (cloFrom X.env.cells scope.names [])) fp
  replace pt1 := pt1 s3 H3 s3.heap.objs.size (cellsFrom (s3.heap.objs.size + 1) scope.names (cloFrom X.env.cells scope.names [])) fp
  generalize hS4 : ({ s3 with heap := pushCells (s3.heap.push { cls := .type "dict", data := .dict #[] }) scope.names } : Shared) = s4 at *
  generalize hce : compEnvC scope (cellsFrom (s3.heap.objs.size + 1) scope.names (cloFrom X.env.cells scope.names [])) s3.heap.objs.size X.env = ce at *
  have place : ce.locals = s3.heap.objs.size := by rw [← hce]; rfl
  show codeAny _ _ (.compStart (.SetComp elt [⟨tg, iter, ifs, 0⟩, ⟨tg1, iter1, ifs1, 0⟩] scope pos) 0 (.ref it) (.ref D) (compEnvC scope (cellsFrom (s3.heap.objs.size + 1) scope.names (cloFrom X.env.cells scope.names [])) s3.heap.objs.size X.env)) (compPost (model X.prog X.w) X.A X.xe use Qf (.ref D) s3.heap.objs.size) s4
  rw [hce]
  have st4 := T.keep _ _ s4.heap st3 fun b _ o e => by rw [← hS4]; exact pushCells_keeps _ _ _ _ (Heap.get?_push_of_some _ e)
  have none3 : ∀ b ∈ fp, H3 b = none := fun b hb => (f3 b hb).1.1
  have meet : ∀ {τ : L2.St} {G : Hp} {t : Shared}, Inv (X.blk s3 H3 scope ce fp) [] τ G t → (∀ b ∈ fp, G b = none) → ∀ b ∈ fp, FpOk (X.blk s3 H3 scope ce fp) [] G b := fun {τ G t} V no b hb =>
    ⟨no b hb, (V.ok.exf b hb).1, V.ok.exfs b hb, .inl hb, fun x c e => (V.ok.exf b hb).2 x c e, fun p hp => absurd (show p ∈ ([] : List (Addr × Obj)) ++ [] from hp) (by simp)⟩
  have around : codeAny (model X.prog X.w) X.A (.compLoop (.SetComp elt [⟨tg, iter, ifs, 0⟩, ⟨tg1, iter1, ifs1, 0⟩] scope pos) 0 (.ref it) (.ref D) ce) (compPost (model X.prog X.w) X.A X.xe use Qf (.ref D) s3.heap.objs.size) s4 := by
    refine sc2_loopA (fold1 ce) (fun m t => ∃ i G, Inv (X.blk s3 H3 scope ce fp) [] (wipe σ (own.map (·.2))) G t ∧ tn i t.heap ∧ (∀ b ∈ fp, G b = none) ∧ Z i m G) ?_ m0 ⟨0, H3, I4, st4, none3, z0⟩
    rintro m t5 ⟨i, G5, V5, w5, no5, z5⟩
    rcases turn i m G5 z5 with ⟨halt, want5⟩ | ⟨more, Y, fewer, step⟩
    · refine thnF (T.done (X.blk s3 H3 scope ce fp) rfl rfl rfl calm i [] t5 _ G5 (fun _ _ => False) V5 (meet V5 no5) w5 halt) fun r t6 ⟨er, V6⟩ => ?_
      subst er
      have V7 : Inv X pins σ G5 t6 := I3.call' (ch := fp) V6.os V6.base V6.hok V6.bare fun b hb => ⟨(f3 b hb).1.2.2.2.1, (f3 b hb).1.2.1, (f3 b hb).1.2.2.2.2.1, (f3 b hb).1.2.2.2.2.2⟩
      have gone : G5 s3.heap.objs.size = none := place ▸ (show G5 ce.locals = none from V6.free)
      obtain ⟨nm, ns6, _⟩ := V6.loc
      replace ns6 : t6.heap.Ns s3.heap.objs.size nm := place ▸ ns6
      exact last D s3.heap.objs.size t6 nm G5 V7 want5 ns6 (I3.fpOk (Nat.le_refl _) gone)
    · refine thnF (T.item (X.blk s3 H3 scope ce fp) rfl rfl rfl calm i [] t5 _ G5 (fun _ _ => False) V5 (meet V5 no5) w5 more) fun r t6 ⟨u, er, rest⟩ => ?_
      subst er
      refine thnF rest fun _ t7 ⟨x, G7, V7, r7, y7, w7, no7⟩ => ?_
      refine thnF (pg0.run _ t7 _ G7 x u _ (V7.pinned (meet V7 no7) (T.obj _ _ w7)) r7 (step x G7 y7)) fun _ t8 ⟨τ, G8, V8, same8, q8⟩ => ?_
      refine thnF (pt0.run _ t8 τ G8 _ V8 q8) fun b t9 ⟨G9, V9, q9⟩ => ?_
      have wend : ∀ {τ' : St} {tz : Shared} {Gz : Hp}, Inv (X.blk s3 H3 scope ce fp) ([] ++ pinsAt fp t7.heap) τ' Gz tz → (wipe σ (own.map (·.2))).length = τ'.length → (∀ (j : Nat) v, (wipe σ (own.map (·.2)))[j]? = some (some v) → τ'[j]? = some (some v)) → Y Gz →
          ∃ l, l < m ∧ ∃ i G, Inv (X.blk s3 H3 scope ce fp) [] (wipe σ (own.map (·.2))) G tz ∧ tn i tz.heap ∧ (∀ b ∈ fp, G b = none) ∧ Z i l G := fun {τ' tz Gz} Vz long kn yz => by
        obtain ⟨l, lt, zl⟩ := fewer Gz yz
        have kept : ∀ b ∈ fp, ∀ o, t7.heap.get? b = some o → tz.heap.get? b = some o ∧ Gz b = none := fun b hb o e =>
          let k := Vz.pin (b, o) (List.mem_append_right _ (List.mem_append_right _ (mem_pinsAt hb e)))
          ⟨k.1, k.2.1⟩
        refine ⟨l, lt, i + 1, Gz, (Vz.unpinned (pins := [])).weak long kn, T.keep _ _ _ w7 fun b hb o e => (kept b hb o e).1, fun b hb => ?_, zl⟩
        obtain ⟨o, e, _⟩ := T.obj _ _ w7 b hb
        exact (kept b hb o e).2
      have long8 : (wipe σ (own.map (·.2))).length = τ.length := by rw [← same8, wipe_length]
      have kn8 : ∀ (j : Nat) v, (wipe σ (own.map (·.2)))[j]? = some (some v) → τ[j]? = some (some v) := fun j v e => (wipe_some (same8 ▸ e)).1
      have kn9 : ∀ (j : Nat) v, (wipe σ (own.map (·.2)))[j]? = some (some v) → (wipe τ vs1)[j]? = some (some v) := fun j v e => by
        obtain ⟨e1, e2⟩ := wipe_some (same8 ▸ e)
        rwa [wipe_out fun z => e2 (less j z)]
      cases b with
      | false => exact wend V9 long8 kn8 q9
      | true =>
        refine thnF (pi1.run _ t9 τ G9 _ V9 q9) fun _ ta hx => thnF hx fun _ tb got1 => ?_
        obtain ⟨it1, fp1, tn1, J1, Gb, rfl, Vb, T1, stb, fb, Z1, ⟨m1, z1⟩, turn1⟩ := got1
        have meet1 : ∀ {G : Hp}, (∀ b ∈ fp1, G b = none) → ∀ b ∈ fp1, FpOk (X.blk s3 H3 scope ce fp) ([] ++ pinsAt fp t7.heap) G b := fun no b hb => ⟨no b hb, (fb b hb).2⟩
        have inside : codeAny (model X.prog X.w) X.A (.compLoop (.SetComp elt [⟨tg, iter, ifs, 0⟩, ⟨tg1, iter1, ifs1, 0⟩] scope pos) 1 (.ref it1) (.ref D) ce)
            (fun r tz => match r with
              | .ok _ => ∃ l, l < m ∧ ∃ i G, Inv (X.blk s3 H3 scope ce fp) [] (wipe σ (own.map (·.2))) G tz ∧ tn i tz.heap ∧ (∀ b ∈ fp, G b = none) ∧ Z i l G
              | .error _ => False) tb := by
          refine sc2_loopB (fun k t => ∃ j G, Inv (X.blk s3 H3 scope ce fp) ([] ++ pinsAt fp t7.heap) (wipe τ vs1) G t ∧ tn1 j t.heap ∧ (∀ b ∈ fp1, G b = none) ∧ Z1 j k G) ?_ m1 ⟨0, Gb, Vb.weak (wipe_length _ _) (fun j v e => (wipe_some e).1), stb, fun b hb => (fb b hb).1, z1⟩
          rintro k tc ⟨j, Gc, Vc, stc, noc, zc⟩
          rcases turn1 j k Gc zc with ⟨halt1, y1⟩ | ⟨more1, Y1, fewer1, step1⟩
          · refine thnF (T1.done (X.blk s3 H3 scope ce fp) rfl rfl rfl calm j _ tc (wipe τ vs1) Gc (fun _ _ => False) Vc (meet1 noc) stc halt1) fun r td ⟨er, Vd⟩ => ?_
            subst er
            exact wend Vd (long8.trans (wipe_length τ vs1).symm) kn9 y1
          · refine thnF (T1.item (X.blk s3 H3 scope ce fp) rfl rfl rfl calm j _ tc (wipe τ vs1) Gc (fun _ _ => False) Vc (meet1 noc) stc more1) fun r td ⟨u1, er, rest1⟩ => ?_
            subst er
            refine thnF rest1 fun _ tf ⟨x1, Gf, Vf, rf, yf, stf, nof⟩ => ?_
            refine thnF (pg1.run _ tf (wipe τ vs1) Gf x1 u1 _ (Vf.pinned (meet1 nof) (T1.obj _ _ stf)) rf (step1 x1 Gf yf)) fun _ tg ⟨τ1, Gg, Vg, sameg, qg⟩ => ?_
            refine thnF (pt1.run _ tg τ1 Gg _ Vg qg) fun b1 th ⟨Gh, Vh, qh⟩ => ?_
            have wend1 : ∀ {tz : Shared} {Gz : Hp}, Inv (X.blk s3 H3 scope ce fp) (([] ++ pinsAt fp t7.heap) ++ pinsAt fp1 tf.heap) τ1 Gz tz → Y1 Gz → ∃ l, l < k ∧ ∃ j G, Inv (X.blk s3 H3 scope ce fp) ([] ++ pinsAt fp t7.heap) (wipe τ vs1) G tz ∧ tn1 j tz.heap ∧ (∀ b ∈ fp1, G b = none) ∧ Z1 j l G := fun {tz Gz} Vz yz => by
              obtain ⟨l, lt, zl⟩ := fewer1 Gz yz
              have kept : ∀ b ∈ fp1, ∀ o, tf.heap.get? b = some o → tz.heap.get? b = some o ∧ Gz b = none := fun b hb o e =>
                let k := Vz.pin (b, o) (List.mem_append_right _ (List.mem_append_right _ (mem_pinsAt hb e)))
                ⟨k.1, k.2.1⟩
              refine ⟨l, lt, j + 1, Gz, Vz.unpinned.weak (by rw [← sameg, wipe_length]) (fun j v e => (wipe_some (sameg ▸ e)).1), T1.keep _ _ _ stf fun b hb o e => (kept b hb o e).1, fun b hb => ?_, zl⟩
              obtain ⟨o, e, _⟩ := T1.obj _ _ stf b hb
              exact (kept b hb o e).2
            cases b1 with
            | false => exact wend1 Vh qh
            | true =>
              refine thnF (pe0.run _ th τ1 Gh _ Vh qh) fun z ti ⟨yv, Gi, Vi, ri, c, S0, n0, ey, at_, roomy, nxt⟩ => ?_
              subst ey
              exact setPut_int (X := X.blk s3 H3 scope ce fp) Vi at_ roomy ri fun tj Vj => wend1 Vj nxt
        exact sc2_startB inside (T1.self X.A 0 _ _ _ stb inside)
  exact PpSet.codeAny_compStart_set around (T.self X.A 0 _ _ _ st4 around)
theorem pe_scI2 {elt tg iter tg1 iter1 : Expr} {ifs ifs1 : List Expr} {scope : Scope} {own : List (PySem.Str × Nat)} {vs1 : List Nat} {pos : Pos} {wi wi1 : TI} {g g1 : TG} {tt tt1 : TT} {te : TE} (calm : X.calm = true) (nd : X.N.Nodup) (it0 : PI X tg iter wi) (ok : BlkOk X.N X.env.scope scope own) (less : ∀ i ∈ vs1, i ∈ own.map (·.2))
    (pg0 : ∀ (s0 : Shared) (G : Hp) (C : Addr) (cl : List (PySem.Str × Addr)) (fp : List Addr), PG (X.blk s0 G scope (compEnvC scope cl C X.env) fp) tg g)
    (pt0 : ∀ (s0 : Shared) (G : Hp) (C : Addr) (cl : List (PySem.Str × Addr)) (fp : List Addr), PTs (X.blk s0 G scope (compEnvC scope cl C X.env) fp) ifs tt)
    (pi1 : ∀ (s0 : Shared) (G : Hp) (C : Addr) (cl : List (PySem.Str × Addr)) (fp : List Addr), PI (X.blk s0 G scope (compEnvC scope cl C X.env) fp) tg1 iter1 wi1)
    (pg1 : ∀ (s0 : Shared) (G : Hp) (C : Addr) (cl : List (PySem.Str × Addr)) (fp : List Addr), PG (X.blk s0 G scope (compEnvC scope cl C X.env) fp) tg1 g1)
    (pt1 : ∀ (s0 : Shared) (G : Hp) (C : Addr) (cl : List (PySem.Str × Addr)) (fp : List Addr), PTs (X.blk s0 G scope (compEnvC scope cl C X.env) fp) ifs1 tt1)
    (pe0 : ∀ (s0 : Shared) (G : Hp) (C : Addr) (cl : List (PySem.Str × Addr)) (fp : List Addr), PE (X.blk s0 G scope (compEnvC scope cl C X.env) fp) elt te) (fold : ∀ x, foldedSetIterable iter X.env x = pure x := by intro _; rfl) (fold1 : ∀ en x, foldedSetIterable iter1 en x = pure x := by intro _ _; rfl) :
    PE X (.SetComp elt [⟨tg, iter, ifs, 0⟩, ⟨tg1, iter1, ifs1, 0⟩] scope pos) (tScI2 X.w wi g tt wi1 g1 tt1 te (own.map (·.2)) vs1) := by
  refine ⟨fun pins s σ H Q I0 want => ?_⟩
  rw [PpSet.eval_SetComp]
  refine scI2_gen calm nd it0 ok less pg0 pt0 pi1 pg1 pt1 pe0 fold fold1  I0 want fun D C s' m H' J q ns f => ⟨m, ns, fun h'' sb => ?_⟩
  obtain ⟨g0, g1, g2, g3, g4, g5⟩ := f
  exact ⟨.ref D, H', J.turned (t' := s'.toks) (fun b o ne e => (sb.2 b ne).trans e) g0 g1 g3 g4 g5, rfl, q⟩
theorem ps_scI2 {i : Nat} {y : PySem.Str} {py spos : Pos} {elt tg iter tg1 iter1 : Expr} {ifs ifs1 : List Expr} {scope : Scope} {own : List (PySem.Str × Nat)} {vs1 : List Nat} {pos : Pos} {wi wi1 : TI} {g g1 : TG} {tt tt1 : TT} {te : TE} (calm : X.calm = true) (nd : X.N.Nodup) (hy : X.N[i]? = some y) (loc : X.env.scope.names.lookup y = some .local) (swap : swapsWith (.SetComp elt [⟨tg, iter, ifs, 0⟩, ⟨tg1, iter1, ifs1, 0⟩] scope pos) (some (.Name y py)) spos.line X.env = pure true) (it0 : PI X tg iter wi) (ok : BlkOk X.N X.env.scope scope own) (less : ∀ i ∈ vs1, i ∈ own.map (·.2))
    (pg0 : ∀ (s0 : Shared) (G : Hp) (C : Addr) (cl : List (PySem.Str × Addr)) (fp : List Addr), PG (X.blk s0 G scope (compEnvC scope cl C X.env) fp) tg g)
    (pt0 : ∀ (s0 : Shared) (G : Hp) (C : Addr) (cl : List (PySem.Str × Addr)) (fp : List Addr), PTs (X.blk s0 G scope (compEnvC scope cl C X.env) fp) ifs tt)
    (pi1 : ∀ (s0 : Shared) (G : Hp) (C : Addr) (cl : List (PySem.Str × Addr)) (fp : List Addr), PI (X.blk s0 G scope (compEnvC scope cl C X.env) fp) tg1 iter1 wi1)
    (pg1 : ∀ (s0 : Shared) (G : Hp) (C : Addr) (cl : List (PySem.Str × Addr)) (fp : List Addr), PG (X.blk s0 G scope (compEnvC scope cl C X.env) fp) tg1 g1)
    (pt1 : ∀ (s0 : Shared) (G : Hp) (C : Addr) (cl : List (PySem.Str × Addr)) (fp : List Addr), PTs (X.blk s0 G scope (compEnvC scope cl C X.env) fp) ifs1 tt1)
    (pe0 : ∀ (s0 : Shared) (G : Hp) (C : Addr) (cl : List (PySem.Str × Addr)) (fp : List Addr), PE (X.blk s0 G scope (compEnvC scope cl C X.env) fp) elt te) (fold : ∀ x, foldedSetIterable iter X.env x = pure x := by intro _; rfl) (fold1 : ∀ en x, foldedSetIterable iter1 en x = pure x := by intro _ _; rfl) :
    PS X (.Assign [.Name y py] (.SetComp elt [⟨tg, iter, ifs, 0⟩, ⟨tg1, iter1, ifs1, 0⟩] scope pos) spos) (tAsg (tScI2 X.w wi g tt wi1 g1 tt1 te (own.map (·.2)) vs1) (gName i)) := by
  refine ⟨fun pins s σ H D I0 want => ?_⟩
  rw [exec_Assign_Name_used _ _ _ _ swap]
  refine wpAny_bind (wpAny_standAt (wpAny_bind ?_))
  show wpAny _ X.A (do let _ ← comprehension (.SetComp elt [⟨tg, iter, ifs, 0⟩, ⟨tg1, iter1, ifs1, 0⟩] scope pos) scope X.env (firstIterPos [⟨tg, iter, ifs, 0⟩, ⟨tg1, iter1, ifs1, 0⟩] pos) (newSet (.type "set")) false (eval iter X.env) (some (assign (.Name y py) X.env))) _ _ s
  replace want : (tScI2 X.w wi g tt wi1 g1 tt1 te (own.map (·.2)) vs1) σ H (fun x G => gName i x σ G D.nx) := want
  refine wpAny_bind (thn (scI2_gen (Qf := fun _ t => SP X pins D .next t) calm nd it0 ok less pg0 pt0 pi1 pg1 pt1 pe0 fold fold1  I0 want fun L C t m G J q ns f => ?_) fun _ t hq => wpAny_pure (wpAny_pure hq))
  show wpAny _ _ (assign (.Name y py) X.env (.ref L)) _ _ _
  refine wpAny_assign_Name (store_ok2 (v := V.ref L) J nd hy (.inl loc) rfl (fun t2 J2 ⟨a, sb, ha⟩ => ?_) (.inr loc))
  obtain ⟨g0, g1, g2, g3, g4, g5⟩ := f
  have away : C ≠ a := by
    rcases ha with z | z
    · exact z ▸ g1
    · exact fun e => g4 y a z e.symm
  exact ⟨m, ns.sameBut sb away, fun h3 sb3 => ⟨_, G, J2.turned (t' := t2.toks) (fun b o ne e => (sb3.2 b ne).trans e) g0 g1 g3 g4 g5, q⟩⟩
end
end L2
/-! ### a set of ints as what was put in, in order -/
namespace L2
open PySem PySem.Spec PyProof.Rows
def insL (l : List Int) (c : Int) : List Int := if c ∈ l then l else l ++ [c]
def ofL (xs : List Int) : List Int := xs.foldl insL []
theorem ofL_snoc {xs : List Int} {c : Int} : ofL (xs ++ [c]) = insL (ofL xs) c := by
  unfold ofL
  rw [List.foldl_append]
  rfl
theorem mem_insL {l : List Int} {c k : Int} : k ∈ insL l c ↔ k ∈ l ∨ k = c := by
  unfold insL
  split
  · rename_i h
    exact ⟨.inl, fun z => z.elim id fun e => e ▸ h⟩
  · simp
theorem mem_foldl : ∀ {xs l : List Int} {k : Int}, k ∈ xs.foldl insL l ↔ k ∈ l ∨ k ∈ xs
  | [], l, k => by simp
  | c :: xs, l, k => by
    rw [List.foldl_cons, mem_foldl (xs := xs), mem_insL, List.mem_cons]
    constructor
    · rintro ((h | h) | h)
      · exact .inl h
      · exact .inr (.inl h)
      · exact .inr (.inr h)
    · rintro (h | h | h)
      · exact .inl (.inl h)
      · exact .inl (.inr h)
      · exact .inr h
theorem mem_ofL {xs : List Int} {k : Int} : k ∈ ofL xs ↔ k ∈ xs := by
  unfold ofL
  rw [mem_foldl]
  simp
theorem nodup_insL {l : List Int} {c : Int} (h : l.Nodup) : (insL l c).Nodup := by
  unfold insL
  split
  · exact h
  · rename_i hc
    refine List.nodup_append.mpr ⟨h, by simp, ?_⟩
    intro a ha b hb e
    rw [List.mem_singleton] at hb
    exact hc (hb ▸ e ▸ ha)
theorem nodup_foldl : ∀ {xs l : List Int}, l.Nodup → (xs.foldl insL l).Nodup
  | [], _, h => h
  | _ :: xs, _, h => nodup_foldl (xs := xs) (nodup_insL h)
theorem nodup_ofL {xs : List Int} : (ofL xs).Nodup := nodup_foldl List.nodup_nil
theorem len_insL {l : List Int} {c : Int} : (insL l c).length ≤ l.length + 1 := by
  unfold insL
  split
  · exact Nat.le_succ _
  · simp
theorem len_foldl : ∀ {xs l : List Int}, (xs.foldl insL l).length ≤ l.length + xs.length
  | [], _ => Nat.le_refl _
  | c :: xs, l => by
    have a := len_foldl (xs := xs) (l := insL l c)
    have b := len_insL (l := l) (c := c)
    rw [List.foldl_cons, List.length_cons]
    omega
theorem len_ofL {xs : List Int} : (ofL xs).length ≤ xs.length := by
  have := len_foldl (xs := xs) (l := [])
  unfold ofL
  simpa using this
/-- distinct ints from 0 on below M are at most M -/
theorem nodup_le : ∀ {M : Nat} {l : List Int}, l.Nodup → (∀ x ∈ l, 0 ≤ x ∧ x < (M : Int)) → l.length ≤ M
  | 0, l, _, h => by
    cases l with
    | nil => exact Nat.le_refl _
    | cons a l => have := h a List.mem_cons_self; omega
  | M + 1, l, nd, h => by
    have e1 : (l.filter (fun x => decide (x ≠ (M : Int)))).length ≤ M := nodup_le (nd.filter _) fun x hx => by
      obtain ⟨a, b⟩ := List.mem_filter.mp hx
      have := h x a
      have := of_decide_eq_true b
      omega
    have e2 : (l.filter (fun x => decide (x = (M : Int)))).length ≤ 1 := by
      match hf : l.filter (fun x => decide (x = (M : Int))) with
      | [] => exact Nat.zero_le _
      | [_] => exact Nat.le_refl _
      | a :: b :: r =>
        have n2 : (a :: b :: r).Nodup := hf ▸ nd.filter _
        have ha : a ∈ l.filter (fun x => decide (x = (M : Int))) := by rw [hf]; exact List.mem_cons_self
        have hb : b ∈ l.filter (fun x => decide (x = (M : Int))) := by rw [hf]; exact List.mem_cons_of_mem _ List.mem_cons_self
        have ea := of_decide_eq_true (List.mem_filter.mp ha).2
        have eb := of_decide_eq_true (List.mem_filter.mp hb).2
        have := (List.nodup_cons.mp n2).1
        rw [ea, eb] at this
        exact absurd List.mem_cons_self this
    have e3 : l.length = (l.filter (fun x => decide (x = (M : Int)))).length + (l.filter (fun x => decide (x ≠ (M : Int)))).length := by
      clear h e1 e2 nd
      induction l with
      | nil => rfl
      | cons a l ih =>
        by_cases z : a = (M : Int)
        · simp [z, ih]
          omega
        · simp [z, ih]
          omega
    omega
theorem ofL_le {M : Nat} {xs : List Int} (h : ∀ x ∈ xs, 0 ≤ x ∧ x < (M : Int)) : (ofL xs).length ≤ M := nodup_le nodup_ofL fun x hx => h x (mem_ofL.mp hx)
section
variable {w : World} {σ : St} {H : Hp} {Q : VK} {K : PySem.W.Frag} {te : TE} {tt : TT}
/-- the heap with the set of what stands in xs at D -/
def SetL (w : World) (H : Hp) (D : Addr) (xs : List Int) : Hp := upd H D (SetO w D (inS (ofL xs)) (ofL xs).length)
theorem SetL.at {D : Addr} {xs : List Int} : SetL w H D xs D = some (SetO w D (inS (ofL xs)) (ofL xs).length) := upd_same
theorem SetL.same {D : Addr} {xs : List Int} (h : H D = none) : Same H (SetL w H D xs) := same_new h
theorem SetL.nt {D : Addr} {xs : List Int} (h : NoT H) : NoT (SetL w H D xs) := NoT.upd h rfl
theorem SetL.nil {D : Addr} : upd H D (SetO w D setNo 0) = SetL w H D [] := by rw [← inS_nil]; rfl
theorem SetL.put {D : Addr} {xs : List Int} {c : Int} : upd (SetL w H D xs) D (SetO w D (fun j => inS (ofL xs) j || decide (j = c)) (if inS (ofL xs) c = true then (ofL xs).length else (ofL xs).length + 1)) = SetL w H D (xs ++ [c]) := by
  unfold SetL
  rw [upd_upd, ofL_snoc, inS_snoc]
  by_cases h : c ∈ ofL xs
  · have e1 : inS (ofL xs) c = true := decide_eq_true h
    have e2 : inS (ofL xs ++ [c]) = inS (ofL xs) := by
      funext k
      refine decide_eq_decide.mpr ?_
      rw [List.mem_append, List.mem_singleton]
      exact ⟨fun z => z.elim id fun e => e ▸ h, .inl⟩
    rw [if_pos e1, e2, show insL (ofL xs) c = ofL xs from if_pos h]
  · have e1 : ¬ inS (ofL xs) c = true := fun z => h (of_decide_eq_true z)
    rw [if_neg e1, show insL (ofL xs) c = ofL xs ++ [c] from if_neg h, List.length_append]
    rfl
/-- what is put in: the set then holds xs -/
def ScP (w : World) (H : Hp) (D : Addr) (xs : List Int) : VK := fun y G => ∃ (c : Int) (S : Int → Bool) (n : Nat), y = .int c ∧ G D = some (SetO w D S n) ∧ n + 1 < scanBound ∧
  upd G D (SetO w D (fun j => S j || decide (j = c)) (if S c = true then n else n + 1)) = SetL w H D xs
theorem put_P2 {D : Addr} {xs ys : List Int} {c : Int} {y : V} (hy : y = .int c) (hm : (ofL xs).length < 4095) (hl : ys = xs ++ [c]) : ScP w H D ys y (SetL w H D xs) :=
  ⟨c, _, _, hy, upd_same, Nat.succ_lt_succ hm, by rw [hl]; exact SetL.put⟩
theorem rd_scRL {lo : Int} {n : Nat} {g : TG} {vs : List Nat} (f : Nat → Int)
    (hs : ∀ D i, H D = none → i < n → g (.int (lo + i)) (wipe σ vs) (SetL w H D ((List.range i).map f)) fun σ2 H2 => wipe σ2 vs = wipe σ vs ∧ te σ2 H2 (ScP w H D ((List.range (i + 1)).map f)))
    (q : ∀ D, H D = none → Q (.ref D) (SetL w H D ((List.range n).map f))) : scB w (Itr lo n) g tYes te vs σ Q H := by
  intro D hD
  refine ⟨fun i m G => m = n - i ∧ i ≤ n ∧ G = SetL w H D ((List.range i).map f), ⟨n, by simp, Nat.zero_le _, SetL.nil⟩, ?_⟩
  rintro i m G ⟨rfl, hi, rfl⟩
  by_cases lt : i < n
  · refine .inr ⟨lt, fun G' => G' = SetL w H D ((List.range (i + 1)).map f), fun G' e => ⟨n - (i + 1), by omega, rfl, lt, e⟩, fun x G' y => ?_⟩
    obtain ⟨e, y⟩ := y
    subst e y
    exact hs D i hD lt
  · have e : i = n := by omega
    subst e
    exact .inl ⟨Nat.le_refl _, q D hD⟩
/-- over a list that stands still -/
theorem rd_scLL {a : Addr} {vsx : List V} {g : TG} {vs : List Nat} (f : V → Int) (hS : SqL K H a vsx)
    (hs : ∀ D l x r, H D = none → vsx = l ++ x :: r → g x (wipe σ vs) (SetL w H D (l.map f)) fun σ2 H2 => wipe σ2 vs = wipe σ vs ∧ te σ2 H2 (ScP w H D ((l ++ [x]).map f)))
    (q : ∀ D, H D = none → Q (.ref D) (SetL w H D (vsx.map f))) : scB w (Itl K a) g tYes te vs σ Q H := by
  intro D hD
  refine ⟨fun i m G => m = vsx.length - i ∧ i ≤ vsx.length ∧ G = SetL w H D ((vsx.take i).map f), ⟨vsx.length, by simp, Nat.zero_le _, SetL.nil⟩, ?_⟩
  rintro i m G ⟨rfl, hi, rfl⟩
  have hS' : SqL K (SetL w H D ((vsx.take i).map f)) a vsx := (SetL.same hD).seq hS
  by_cases hlt : i < vsx.length
  · have hx : vsx[i]? = some vsx[i] := by simp [hlt]
    have er : vsx.take (i + 1) = vsx.take i ++ [vsx[i]] := by rw [List.take_add_one, hx]; rfl
    refine .inr ⟨⟨vsx, vsx[i], hS', hx⟩, fun G' => G' = SetL w H D ((vsx.take (i + 1)).map f), fun G' e => ⟨vsx.length - (i + 1), by omega, rfl, hlt, e⟩, fun x G' y => ?_⟩
    obtain ⟨e, y⟩ := y
    subst e
    have ex : x = vsx[i] := Option.some.inj ((y vsx hS').symm.trans hx)
    subst ex
    have z := hs D (vsx.take i) vsx[i] (vsx.drop (i + 1)) hD (by rw [List.getElem_cons_drop, List.take_append_drop])
    rw [← er] at z
    exact z
  · have e : i = vsx.length := by omega
    subst e
    rw [List.take_length]
    exact .inl ⟨⟨vsx, (SetL.same hD).seq hS, Nat.le_refl _⟩, q D hD⟩
/-- two clauses -/
def sc2B (w : World) (J : It) (g : TG) (tt : TT) (wi1 : TI) (g1 : TG) (tt1 : TT) (te : TE) (vs vs1 : List Nat) (σ : St) (Q : VK) (H1 : Hp) : Prop := ∀ D, H1 D = none → ∃ Z : Nat → Nat → Hp → Prop, (∃ m, Z 0 m (upd H1 D (SetO w D setNo 0))) ∧ ∀ i m G, Z i m G →
  (J.stop i G ∧ Q (.ref D) G) ∨ (J.go i G ∧ ∃ Y : Hp → Prop, (∀ G', Y G' → ∃ l, l < m ∧ Z (i + 1) l G') ∧ ∀ x G', J.yld i G x G' → g x (wipe σ vs) G' fun σ2 G2 => wipe σ2 vs = wipe σ vs ∧ tt σ2 G2 fun b G3 =>
    if b = true then wi1 σ2 G3 (sc2_inner w D g1 tt1 te vs1 σ2 Y) else Y G3)
instance st_scI2 {wi wi1 : TI} {g g1 : TG} {tt1 : TT} {vs vs1 : List Nat} : Stp (tScI2 w wi g tt wi1 g1 tt1 te vs vs1 σ H Q) (wi σ H fun J H1 => sc2B w J g tt wi1 g1 tt1 te vs vs1 σ Q H1) := ⟨fun h => h⟩
def rowsL (f : Nat → Nat → Int) (m : Nat) : Nat → List Int
  | 0 => []
  | i + 1 => rowsL f m i ++ (List.range m).map (f i)
theorem mem_rowsL {f : Nat → Nat → Int} {m : Nat} {k : Int} : ∀ {n : Nat}, k ∈ rowsL f m n ↔ ∃ i j, i < n ∧ j < m ∧ f i j = k
  | 0 => by simp [rowsL]
  | n + 1 => by
    rw [rowsL, List.mem_append, mem_rowsL (n := n), List.mem_map]
    constructor
    · rintro (⟨i, j, a, b, c⟩ | ⟨j, a, b⟩)
      · exact ⟨i, j, by omega, b, c⟩
      · exact ⟨n, j, by omega, List.mem_range.mp a, b⟩
    · rintro ⟨i, j, a, b, c⟩
      by_cases e : i = n
      · subst e
        exact .inr ⟨j, List.mem_range.mpr b, c⟩
      · exact .inl ⟨i, j, by omega, b, c⟩
theorem rd_sc2R {lo : Int} {n m : Nat} {g g1 : TG} {wi1 : TI} {vs vs1 : List Nat} (f : Nat → Nat → Int)
    (hs : ∀ D i, H D = none → i < n → g (.int (lo + i)) (wipe σ vs) (SetL w H D (rowsL f m i)) fun σ2 H2 => wipe σ2 vs = wipe σ vs ∧ wi1 σ2 H2 (sc2_inner w D g1 tYes te vs1 σ2 fun G => G = SetL w H D (rowsL f m (i + 1))))
    (q : ∀ D, H D = none → Q (.ref D) (SetL w H D (rowsL f m n))) : sc2B w (Itr lo n) g tYes wi1 g1 tYes te vs vs1 σ Q H := by
  intro D hD
  refine ⟨fun i m' G => m' = n - i ∧ i ≤ n ∧ G = SetL w H D (rowsL f m i), ⟨n, by simp, Nat.zero_le _, SetL.nil⟩, ?_⟩
  rintro i m' G ⟨rfl, hi, rfl⟩
  by_cases lt : i < n
  · refine .inr ⟨lt, fun G' => G' = SetL w H D (rowsL f m (i + 1)), fun G' e => ⟨n - (i + 1), by omega, rfl, lt, e⟩, fun x G' y => ?_⟩
    obtain ⟨e, y⟩ := y
    subst e y
    exact hs D i hD lt
  · have e : i = n := by omega
    subst e
    exact .inl ⟨Nat.le_refl _, q D hD⟩
theorem rd_sc2in {lo : Int} {m : Nat} {g1 : TG} {vs1 : List Nat} {D : Addr} {xs zs : List Int} {H0 : Hp} (f : Nat → Int) (hz : zs = xs ++ (List.range m).map f)
    (hs : ∀ j, j < m → g1 (.int (lo + j)) (wipe σ vs1) (SetL w H0 D (xs ++ (List.range j).map f)) fun σ3 H5 => wipe σ3 vs1 = wipe σ vs1 ∧ te σ3 H5 (ScP w H0 D (xs ++ (List.range (j + 1)).map f))) :
    sc2_inner w D g1 tYes te vs1 σ (fun G => G = SetL w H0 D zs) (Itr lo m) (SetL w H0 D xs) := by
  subst hz
  refine ⟨fun j k G => k = m - j ∧ j ≤ m ∧ G = SetL w H0 D (xs ++ (List.range j).map f), ⟨m, by simp, Nat.zero_le _, by simp⟩, ?_⟩
  rintro j k G ⟨rfl, hj, rfl⟩
  by_cases lt : j < m
  · refine .inr ⟨lt, fun G' => G' = SetL w H0 D (xs ++ (List.range (j + 1)).map f), fun G' e => ⟨m - (j + 1), by omega, rfl, lt, e⟩, fun x G' y => ?_⟩
    obtain ⟨e, y⟩ := y
    subst e y
    exact hs j lt
  · have e : j = m := by omega
    subst e
    exact .inl ⟨Nat.le_refl _, rfl⟩
theorem row_snoc {xs : List Int} {f : Nat → Int} {j : Nat} : xs ++ (List.range (j + 1)).map f = (xs ++ (List.range j).map f) ++ [f j] := by
  rw [range_snoc, List.append_assoc]
/-- sorted of the set of xs -/
theorem rd_sortSL {D : Addr} {xs : List Int} {H' : Hp} (hD : H' D = some (SetO w D (inS (ofL xs)) (ofL xs).length)) (q : ∀ (ns : List Int) (p : Addr), ns.Pairwise (· < ·) → (∀ k, k ∈ ns ↔ k ∈ xs) → H' p = none → Q (.ref p) (upd H' p (.lst (ns.map V.int)))) : rSortSetN w [.ref D] H' Q :=
  rd_sortSetN hD fun ns p h1 h2 hp => q ns p h1 (fun k => by rw [h2 k, mem_ofL]) hp
end
end L2
namespace L2
open PySem PySem.Spec PyProof.Rows
/-! ### list comprehensions over a list of ints -/
section
variable {σ : St} {H : Hp} {Q : VK} {K : PySem.W.Frag} {te : TE} {tt : TT}
def resI (p : Int → Bool) (f : Int → V) (ns : List Int) : List V := (ns.filter p).map f
theorem resI_len {p : Int → Bool} {f : Int → V} {ns : List Int} : (resI p f ns).length ≤ ns.length := by
  unfold resI
  rw [List.length_map]
  exact List.length_filter_le _ _
theorem put_I {D : Addr} {p : Int → Bool} {f : Int → V} {l : List Int} {x : Int} {y : V} (hi : l.length < 1000000) (hp : p x = true) (hy : y = f x) : LcPut H D (resI p f l) (resI p f (l ++ [x])) y (upd H D (.lst (resI p f l))) := by
  refine ⟨_, upd_same, Nat.lt_of_le_of_lt resI_len (Nat.lt_trans hi (by decide)), ?_⟩
  rw [upd_upd]
  unfold resI
  rw [List.filter_append, List.map_append, hy]
  simp [hp]
theorem skip_I {D : Addr} {p : Int → Bool} {f : Int → V} {l : List Int} {x : Int} (hp : p x = false) : LcSkip H D (resI p f (l ++ [x])) (upd H D (.lst (resI p f l))) := by
  show upd H D _ = _
  unfold resI
  rw [List.filter_append, List.map_append]
  simp [hp]
theorem rd_lcI {a : Addr} {ns : List Int} {g : TG} {vs : List Nat} (p : Int → Bool) (f : Int → V) (hS : SqL K H a (ns.map V.int))
    (hs : ∀ D l x r, H D = none → ns = l ++ x :: r → g (.int x) (wipe σ vs) (upd H D (.lst (resI p f l))) fun σ2 H2 => wipe σ2 vs = wipe σ vs ∧ tt σ2 H2 fun b H3 => if b = true then te σ2 H3 (LcPut H D (resI p f l) (resI p f (l ++ [x]))) else LcSkip H D (resI p f (l ++ [x])) H3)
    (q : ∀ D, H D = none → Q (.ref D) (upd H D (.lst ((ns.filter p).map f)))) : lcB (Itl K a) g tt te vs σ Q H := by
  intro D hD
  refine ⟨fun i m H' => m = ns.length - i ∧ i ≤ ns.length ∧ H' = upd H D (.lst (resI p f (ns.take i))), ⟨ns.length, by simp, Nat.zero_le _, rfl⟩, ?_⟩
  rintro i m H' ⟨rfl, hi, rfl⟩
  have hS' : SqL K (upd H D (.lst (resI p f (ns.take i)))) a (ns.map V.int) := (same_new hD).seq hS
  by_cases hlt : i < ns.length
  · have hx : (ns.map V.int)[i]? = some (.int ns[i]) := by simp [hlt]
    have er : ns.take (i + 1) = ns.take i ++ [ns[i]] := by rw [List.take_add_one, List.getElem?_eq_getElem hlt]; rfl
    refine .inr ⟨⟨_, _, hS', hx⟩, fun H' => H' = upd H D (.lst (resI p f (ns.take (i + 1)))), fun H' p' => ⟨ns.length - (i + 1), by omega, rfl, hlt, p'⟩, fun x H' y => ?_⟩
    obtain ⟨e, y⟩ := y
    subst e
    have ex : x = .int ns[i] := Option.some.inj ((y _ hS').symm.trans hx)
    subst ex
    have z := hs D (ns.take i) ns[i] (ns.drop (i + 1)) hD (by rw [List.getElem_cons_drop, List.take_append_drop])
    rw [← er] at z
    exact z
  · have e : i = ns.length := by omega
    subst e
    rw [List.take_length]
    exact .inl ⟨⟨_, (same_new hD).seq hS, by rw [List.length_map]; exact Nat.le_refl _⟩, q D hD⟩
end
end L2

namespace L2
open PySem PySem.Spec PyProof.Rows
/-! ### making and methods within a try -/
section
variable {X : Cx} {k : Nat} {f C : Addr} {fd : FuncData} {ps : List PySem.Str} {sp : Sp} {x m : PySem.Str} {p pos apos : Pos} {e o : Expr} {es : List Expr} {ta : TE} {t : TA} {W : WX}
def tMakeT (C : Addr) (sp : Sp) (E : St → XK) (t : TA) : TE := fun σ H Q => t σ H fun vs H1 => ∀ x dx, H1 x = none → H1 dx = none → dx ≠ x → sp (.ref x :: vs) (upd (upd H1 dx (.own x)) x (.ins C dx [])) (fun v H2 => v = .non ∧ Q (.ref x) H2) (E σ)
theorem run_mkS {pins : List (Addr × Obj)} {σ : St} {H : Hp} {s : Shared} {Q : VK} {us : List Value} {vs : List V} (M : Mk X.K C f) (F : FnOk X.prog X.w X.K X.mg X.base (L2.CX X.prog X.w) k f fd ps sp) (hr : Room (k + 1) X.A) (hb : Binds X.K fd ps []) (tk : Takes X W) (I : Inv X pins σ H s) (r : Vals vs us)
    (h : ∀ x dx, H x = none → H dx = none → dx ≠ x → sp (.ref x :: vs) (upd (upd H dx (.own x)) x (.ins C dx [])) (fun v H2 => v = .non ∧ Q (.ref x) H2) (WE W σ)) :
    wpAny (model X.prog X.w) X.A (call (.ref C) us) (EP X pins σ Q) X.xe s := by
  have go := h (s.heap.objs.size + 1) s.heap.objs.size (I.hok.fresh (Nat.le_succ _)) (I.hok.fresh (Nat.le_refl _)) (Nat.ne_of_lt (Nat.lt_succ_self _))
  have J := Inv.made (C := C) I
  have rr : Vals (V.ref (s.heap.objs.size + 1) :: vs) (Value.ref (s.heap.objs.size + 1) :: us) := .cons rfl r
  have len : (Value.ref (s.heap.objs.size + 1) :: us).length = ps.length := rr.length.symm.trans (F.len _ _ _ _ go)
  have bs := hb _ (Value.ref (s.heap.objs.size + 1) :: us) J.kIn (by rw [List.append_nil]; exact len)
  rw [List.append_nil] at bs
  refine wpAny_call (make_map (f := f) I.kIn M.makes M.init (beq_iff_eq.mp M.fn) (codeAny_mono (F.run _ X.stack _ _ ⟨Value.ref (s.heap.objs.size + 1) :: us, []⟩ _ _ _ _ (hr.make C us []) (J.env0.make C us []) bs rr go) fun res t done => ?_))
  cases res with
  | error x => exact passAt tk σ pins _ _ x t J done
  | ok fl =>
    cases fl with
    | ret u =>
      obtain ⟨v, H', I3, rv, ev, q3⟩ := J.after done
      subst ev
      exact ⟨rv, V.ref (s.heap.objs.size + 1), H', I3, rfl, q3⟩
    | next => exact done.elim
    | brk => exact done.elim
    | cont => exact done.elim
theorem pe_mkdS (D : MkDef X.prog X.w X.K X.mg X.base k x C ps sp) (hr : Room (k + 1) X.A) (tk : Takes X W) (ha : PA X (e :: es) t) (hg : Gl X x := by rfl)
    (hdb : (x == ("__debug__" : PySem.Str)) = false := by decide) (he : starEach (e :: es) X.env = (false, eval e X.env) :: starEach es X.env := by rfl) (hpl : (backTo pos (starEach es X.env)).any (·.1) = false := by rfl) :
    PE X (.Call (.Name x p) (e :: es) [] pos) (tMakeT C sp (WE W) t) := by
  obtain ⟨f, fd, F, M, b⟩ := D.ex
  refine ⟨fun pins s σ H Q I h => wpAny_Call_Name_kw (ld_glob I hg D.g ?_ hdb)⟩
  exact PySem.W.callWith_K (h₀ := X.base) I.ok.mod.kin M.kp (thn (ha.run pos pins s σ H _ I h) fun us s1 ⟨vs, H1, I1, r, q⟩ => ⟨I1.kIn, run_mkS M F hr b tk I1 r q⟩) he hpl
instance st_makeS {σ : St} {H : Hp} {Q : VK} {E : St → XK} : Stp (tMakeT C sp E t σ H Q) (t σ H fun vs H1 => ∀ x dx, H1 x = none → H1 dx = none → dx ≠ x → sp (.ref x :: vs) (upd (upd H1 dx (.own x)) x (.ins C dx [])) (fun v H2 => v = .non ∧ Q (.ref x) H2) (E σ)) := ⟨fun h => h⟩
/-- o.m(e, ..) within a try -/
def tMethT (C : Addr) (m : PySem.Str) (sp : Sp) (E : St → XK) (ta : TE) (t : TA) : TE := fun σ H Q => ta σ H fun x H1 => ∃ a dx fs, x = .ref a ∧ H1 a = some (.ins C dx fs) ∧ fs.lookup m = none ∧ t σ H1 fun vs H2 => sp (x :: vs) H2 Q (E σ)
theorem pe_mdS {pl : Sem Bool} (D : MDef X.prog X.w X.K X.mg X.base k C m ps sp) (he : PE X o ta) (c : Cls X.K C) (hr : Room k X.A) (tk : Takes X W) (ha : PA X (e :: es) t)
    (hst : starEach (e :: es) X.env = (false, eval e X.env) :: starEach es X.env := by rfl) (hpl : (backTo pos (starEach es X.env)).any (·.1) = false := by rfl)
    (ht : eval (.Call (.Attribute o m apos) (e :: es) [] pos) X.env = (do
      let self ← eval o X.env
      standAt apos.atName
      let (g, ahead) ← holding [self] (getMethod self m pl)
      callWith pos g ahead (backTo pos (starEach (e :: es) X.env)) (backToKw pos (keywordEach [] X.env))) := by rfl) :
    PE X (.Call (.Attribute o m apos) (e :: es) [] pos) (tMethT C m sp (WE W) ta t) := by
  obtain ⟨f, fd, F, g, b⟩ := D.ex
  refine ⟨fun pins s σ H Q I h => PySem.W.methodCall_KW (pl := pl) (thn (he.run pins s σ H _ I h) fun u s1 ⟨x, H1, I1, rx, a, dx, fs, ex, at_, no, q⟩ => ?_) ht⟩
  subst ex
  obtain rfl : u = Value.ref a := rx
  refine getmeth_ok I1 at_ c g no ?_
  refine PySem.W.callWith_K (first := [.ref a]) (h₀ := X.base) I1.ok.mod.kin g.kp (thn (ha.run pos pins s1 σ H1 _ I1 q) fun us s2 ⟨vs, H2, I2, r, q2⟩ => ⟨I2.kIn, ?_⟩) hst hpl
  exact run_fnS (E := WE W) (us := .ref a :: us) (vs := .ref a :: vs) F hr b (passAt tk σ) I2 (.cons rfl r) q2
theorem pe_md0S {pl : Sem Bool} (D : MDef X.prog X.w X.K X.mg X.base k C m ps sp) (he : PE X o ta) (c : Cls X.K C) (hr : Room k X.A) (tk : Takes X W)
    (ht : eval (.Call (.Attribute o m apos) [] [] pos) X.env = (do
      let self ← eval o X.env
      standAt apos.atName
      let (g, ahead) ← holding [self] (getMethod self m pl)
      callWith pos g ahead (backTo pos (starEach [] X.env)) (backToKw pos (keywordEach [] X.env))) := by rfl) :
    PE X (.Call (.Attribute o m apos) [] [] pos) (tMethT C m sp (WE W) ta tNil) := by
  obtain ⟨f, fd, F, g, b⟩ := D.ex
  refine ⟨fun pins s σ H Q I h => PySem.W.methodCall_KW (pl := pl) (thn (he.run pins s σ H _ I h) fun u s1 ⟨x, H1, I1, rx, a, dx, fs, ex, at_, no, q⟩ => ?_) ht⟩
  subst ex
  obtain rfl : u = Value.ref a := rx
  refine getmeth_ok I1 at_ c g no ?_
  exact PySem.W.callWith_K0 (first := [.ref a]) I1.kIn g.kp (run_fnS (E := WE W) (us := [.ref a]) (vs := [.ref a]) F hr b (passAt tk σ) I1 (.cons rfl .nil) q)
instance st_methT {σ : St} {H : Hp} {Q : VK} {E : St → XK} : Stp (tMethT C m sp E ta t σ H Q) (ta σ H fun x H1 => ∃ a dx fs, x = .ref a ∧ H1 a = some (.ins C dx fs) ∧ fs.lookup m = none ∧ t σ H1 fun vs H2 => sp (x :: vs) H2 Q (E σ)) := ⟨fun h => h⟩
end
end L2
namespace L2
open PySem PySem.Spec PyProof.Rows
theorem upd_id {H : Hp} {p : Addr} {o : HO} (h : H p = some o) : upd H p o = H := funext fun b => by
  by_cases e : b = p
  · subst e
    rw [upd_same, h]
  · rw [upd_ne e]
section
variable {H : Hp} {Q : VK} {K : PySem.W.Frag} {a : Addr}
theorem rd_sortedI {ns : List Int} (h : SqL K H a (ns.map V.int)) (q : ∀ (ms : List Int) (p : Addr), ms.Perm ns → ms.Pairwise (· ≤ ·) → H p = none → Q (.ref p) (upd H p (.lst (ms.map V.int)))) : rSortedI K [.ref a] H Q := ⟨a, ns, rfl, h, q⟩
end
end L2

namespace L2
open PySem PySem.Spec PyProof.Rows
/-! ### dicts with ints as keys -/
section
variable {σ : St} {H : Hp} {Q : VK} {K : PySem.W.Frag} {v x y : V} {td ty tv : TE} {a : Addr} {i : Int} {kvs : List (Key × V)} {nx : St → Hp → Prop} {rt : VK} {bk ct : St → Hp → Prop}
instance st_dnewK : Stp (tDNewK σ H Q) (∀ p, H p = none → Q (.ref p) (upd H p (.dK []))) := ⟨fun h => h⟩
def rDGetV (Q : VK) : V → V → Hp → Prop := fun x y H => ∃ a v, x = .ref a ∧ DGet H a y (some v) ∧ Q v H
def rDInV (Q : VK) : V → V → Hp → Prop := fun x y H => ∃ a o, x = .ref a ∧ DGet H a y o ∧ Q (.bl o.isSome) H
def rDNinV (Q : VK) : V → V → Hp → Prop := fun x y H => ∃ a o, x = .ref a ∧ DGet H a y o ∧ Q (.bl (!o.isSome)) H
def rDPutV (S : Hp → Prop) : V → V → V → Hp → Prop := fun x y v H => ∃ a H4, x = .ref a ∧ DPut H a y v H4 ∧ S H4
instance st_dget : Stp (tDGet td ty σ H Q) (td σ H fun x H1 => ty σ H1 fun y H2 => rDGetV Q x y H2) := ⟨fun h => h⟩
instance st_din : Stp (tDIn ty td σ H Q) (ty σ H fun y H1 => td σ H1 fun x H2 => rDInV Q x y H2) := ⟨fun h => h⟩
instance st_dnotin : Stp (tDNotIn ty td σ H Q) (ty σ H fun y H1 => td σ H1 fun x H2 => rDNinV Q x y H2) := ⟨fun h => h⟩
instance st_dput : Stp (sDPut td ty tv ⟨nx, rt, bk, ct⟩ σ H) (tv σ H fun v H1 => td σ H1 fun x H2 => ty σ H2 fun y H3 => rDPutV (nx σ) x y v H3) := ⟨fun h => h⟩
theorem rd_dget1 (h : H a = some (.dK kvs)) (hv : valV kvs (.inl i) = some v) (q : Q v H) : rDGetV Q (.ref a) (.int i) H := ⟨a, v, rfl, hv ▸ DGet.k (k := .inl i) h, q⟩
theorem rd_din1 {b : Bool} (h : H a = some (.dK kvs)) (hb : (valV kvs (.inl i)).isSome = b) (q : Q (.bl b) H) : rDInV Q (.ref a) (.int i) H := ⟨a, _, rfl, DGet.k (k := .inl i) h, by rw [hb]; exact q⟩
theorem rd_dnotin1 {b : Bool} (h : H a = some (.dK kvs)) (hb : (valV kvs (.inl i)).isSome = b) (q : Q (.bl (!b)) H) : rDNinV Q (.ref a) (.int i) H := ⟨a, _, rfl, DGet.k (k := .inl i) h, by rw [hb]; exact q⟩
theorem rd_dput1 {S : Hp → Prop} (h : H a = some (.dK kvs)) (hl : kvs.length < sizeLine) (q : S (upd H a (.dK (putK kvs (.inl i) v)))) : rDPutV S (.ref a) (.int i) v H := ⟨a, _, rfl, DPut.k (k := .inl i) h hl, q⟩
/-! dicts of flags: {k: True for ..}; ks the keys, in order -/
def dFl (ks : List Int) : List (Key × V) := ks.map fun k => (.inl k, .bl true)
abbrev DFl (ks : List Int) : HO := .dK (dFl ks)
theorem dFl_len {ks : List Int} : (dFl ks).length = ks.length := List.length_map ..
theorem dFl_val {i : Int} : ∀ {ks : List Int}, (valV (dFl ks) (.inl i)).isSome = decide (i ∈ ks)
  | [] => by simp [dFl, valV]
  | k :: ks => by
    have ih := dFl_val (i := i) (ks := ks)
    by_cases e : k = i
    · subst e
      have : valV (dFl (k :: ks)) (.inl k) = some (.bl true) := valV_pos (p := ((Sum.inl k : Key), V.bl true)) (r := dFl ks) (k := Sum.inl k) rfl
      rw [this]
      simp
    · have : valV (dFl (k :: ks)) (.inl i) = valV (dFl ks) (.inl i) := valV_neg (p := ((Sum.inl k : Key), V.bl true)) (r := dFl ks) (k := Sum.inl i) fun z => e (Sum.inl.inj z)
      rw [this, ih]
      refine decide_eq_decide.mpr ?_
      rw [List.mem_cons]
      exact ⟨.inr, fun z => z.elim (fun z => absurd z.symm e) id⟩
theorem dFl_put {ks : List Int} {i : Int} : putK (dFl ks) (.inl i) (.bl true) = dFl (insL ks i) := by
  unfold insL
  by_cases h : i ∈ ks
  · rw [if_pos h]
    unfold putK
    rw [if_pos (by rw [valV_any, dFl_val, decide_eq_true h])]
    unfold dFl
    rw [List.map_map]
    refine List.map_congr_left fun k _ => ?_
    by_cases e : k = i
    · subst e
      simp
    · simp [e]
  · rw [if_neg h]
    have hn : valV (dFl ks) (.inl i) = none := by
      have := dFl_val (i := i) (ks := ks)
      rw [decide_eq_false h] at this
      cases hv : valV (dFl ks) (.inl i) with
      | none => rfl
      | some _ => rw [hv] at this; cases this
    rw [putK_new _ hn]
    unfold dFl
    rw [List.map_append]
    rfl
theorem dFl_keys {ks : List Int} : ((dFl ks).map fun kv => kV kv.1) = ks.map V.int := by
  unfold dFl
  rw [List.map_map]
  rfl
theorem rd_dinF {ks : List Int} (h : H a = some (DFl ks)) (q : Q (.bl (decide (i ∈ ks))) H) : rDInV Q (.ref a) (.int i) H := rd_din1 h dFl_val q
theorem rd_dnotinF {ks : List Int} (h : H a = some (DFl ks)) (q : Q (.bl (!decide (i ∈ ks))) H) : rDNinV Q (.ref a) (.int i) H := rd_dnotin1 h dFl_val q
theorem rd_dputF {ks : List Int} {S : Hp → Prop} (h : H a = some (DFl ks)) (hl : ks.length < 1000000) (q : S (upd H a (DFl (insL ks i)))) : rDPutV S (.ref a) (.int i) (.bl true) H :=
  rd_dput1 h (by rw [dFl_len]; exact Nat.lt_trans hl (by decide)) (by rw [dFl_put]; exact q)
def rListD : List V → Hp → VK → Prop := fun xs H Q => ∃ (a : Addr) (kvs : List (Key × V)), xs = [.ref a] ∧ Rd H a (.dK kvs) ∧ ∀ p, H p = none → Q (.ref p) (upd H p (.lst (kvs.map fun kv => kV kv.1)))
theorem c_listD {X : Cx} (calm : X.calm = true) : CallR X (.type "list") rListD := call_listD calm
theorem rd_listF {ks : List Int} (h : H a = some (DFl ks)) (q : ∀ p, H p = none → Q (.ref p) (upd H p (.lst (ks.map V.int)))) : rListD [.ref a] H Q := ⟨a, dFl ks, rfl, .inl h, by rw [dFl_keys]; exact q⟩
/-- y in xs, data of any depth -/
theorem rd_inDp {d : PyData} {ds : List PyData} {p : Prop} [Decidable p] (h1 : Dp K H x d) (h2 : Dp K H y (.list ds)) (o1 : okD d 60 = true) (o2 : okDs ds 59 = true) (hp : d ∈ ds ↔ p) (q : Q (.bl (decide p)) H) : rInD K x y H Q := by
  have s2 : okD (.list ds) 60 = true := by simp [okD, o2]
  refine ⟨d, ds, h1, h2, okD_shaped o1, okD_shaped s2, ?_⟩
  have e : (ds.any fun z => PyData.eqv z d) = decide p := by
    rw [Bool.eq_iff_iff, List.any_eq_true, decide_eq_true_iff, ← hp]
    constructor
    · rintro ⟨z, hz, e⟩
      have oz : okD z 59 = true := by
        clear h2 hp s2 q
        induction ds with
        | nil => cases hz
        | cons b ds ih =>
          simp only [okDs, Bool.and_eq_true] at o2
          rcases List.mem_cons.mp hz with rfl | hz
          · exact o2.1
          · exact ih o2.2 hz
      rw [(okD_eqv z d 59 60 oz o1).mp e] at hz
      exact hz
    · intro hz
      have := (okD_eqv d d 60 60 o1 o1).mpr rfl
      exact ⟨d, hz, this⟩
  rw [e]
  exact q
theorem rd_notInDp {d : PyData} {ds : List PyData} {p : Prop} [Decidable p] (h1 : Dp K H x d) (h2 : Dp K H y (.list ds)) (o1 : okD d 60 = true) (o2 : okDs ds 59 = true) (hp : d ∈ ds ↔ p) (q : Q (.bl (!decide p)) H) : rNotInD K x y H Q := by
  obtain ⟨d', ds', a1, a2, a3, a4, a5⟩ := rd_inDp (Q := fun v H => ∃ b, v = .bl b ∧ Q (.bl (!b)) H) h1 h2 o1 o2 hp ⟨_, rfl, q⟩
  obtain ⟨b, e, q'⟩ := a5
  refine ⟨d', ds', a1, a2, a3, a4, ?_⟩
  rw [V.bl.inj e]
  exact q'
end
end L2
namespace L2
open PySem PySem.Spec PyProof.Rows
theorem room65 {k : Nat} {A : Around} (r : Room k A) : A.units + 65 < cLine := by
  have := r.un
  omega
end L2

namespace L2
open PySem PySem.Spec PyProof.Rows
/-! ### two roads for one expression -/
def tAlt (t u : TE) : TE := fun σ H Q => t σ H Q ∨ u σ H Q
def tAltT (t u : TT) : TT := fun σ H Q => t σ H Q ∨ u σ H Q
def iAlt (t u : TI) : TI := fun σ H S => t σ H S ∨ u σ H S
section
variable {X : Cx} {e tg : Expr}
theorem pe_alt {t u : TE} (h : PE X e t) (k : PE X e u) : PE X e (tAlt t u) := ⟨fun pins s σ H Q I z => z.elim (h.run pins s σ H Q I) (k.run pins s σ H Q I)⟩
theorem pt_alt {t u : TT} (h : PT X e t) (k : PT X e u) : PT X e (tAltT t u) := ⟨fun pins s σ H Q I z => z.elim (h.run pins s σ H Q I) (k.run pins s σ H Q I)⟩
theorem pi_alt {t u : TI} (h : PI X tg e t) (k : PI X tg e u) : PI X tg e (iAlt t u) := ⟨fun pins s σ H S I z => z.elim (h.run pins s σ H S I) (k.run pins s σ H S I)⟩
end
/-! ### operators of own classes -/
def rInO (C : Addr) (sp : Sp) (E : XK) : R2 := fun x y H Q => ∃ a dx fs, y = .ref a ∧ H a = some (.ins C dx fs) ∧ sp [.ref a, x] H (fun v H' => ∃ b, v = .bl b ∧ Q (.bl b) H') E
def rNinO (C : Addr) (sp : Sp) (E : XK) : R2 := fun x y H Q => ∃ a dx fs, y = .ref a ∧ H a = some (.ins C dx fs) ∧ sp [.ref a, x] H (fun v H' => ∃ b, v = .bl b ∧ Q (.bl (!b)) H') E
def rBinO (C : Addr) (sp : Sp) (E : XK) : R2 := fun x y H Q => ∃ a b dx fs dy gs, x = .ref a ∧ y = .ref b ∧ H a = some (.ins C dx fs) ∧ H b = some (.ins C dy gs) ∧ sp [.ref a, .ref b] H (fun v H' => ∃ r, v = .ref r ∧ Q (.ref r) H') E
def rUnO (C : Addr) (sp : Sp) (E : XK) : V → Hp → VK → Prop := fun x H Q => ∃ a dx fs, x = .ref a ∧ H a = some (.ins C dx fs) ∧ sp [.ref a] H Q E
/-- an own instance's truth -/
def rTruO (C : Addr) (sp : Sp) (E : XK) (R : Bool → Hp → Prop) (x : V) (H : Hp) : Prop := ∃ a dx fs, x = .ref a ∧ H a = some (.ins C dx fs) ∧ sp [.ref a] H (fun v H' => ∃ b, v = .bl b ∧ R b H') E
section
variable {X : Cx} {k : Nat} {C : Addr} {ps : List PySem.Str} {sp : Sp} {E : XK} {m : PySem.Str}
theorem own_at {pins : List (Addr × Obj)} {σ : St} {H : Hp} {s : Shared} {a dx : Addr} {fs : List (PySem.Str × V)} (I : Inv X pins σ H s) (ha : H a = some (.ins C dx fs)) : ∃ ox od, PySem.W.InstAt s.heap a ox C (some od) := by
  obtain ⟨mA, J, _⟩ := ins_get I.hok ha
  obtain ⟨od, J, _⟩ := J.look
  exact ⟨_, od, J⟩
theorem op_inO (D : MDef X.prog X.w X.K X.mg X.base k C "__contains__" ps sp) (hr : Room k X.A) (hx : Passes (L2.CX X.prog X.w) X E) : OpR X (compareOp .In) (rInO C sp E) := by
  intro pins s σ H x y v u Q I rx ry ⟨a, dx, fs, ey, ha, go⟩
  subst ey
  cases (show u = Value.ref a from ry)
  obtain ⟨f, fd, F, g, b⟩ := D.ex
  obtain ⟨ox, od, J⟩ := own_at I ha
  obtain ⟨m, hF⟩ := I.fr
  refine PySem.W.in_K hF I.ok.mod.kin J g.at_ g.fn (wpAny_mono (run_fn (dvs := []) (ds := []) (us := [.ref a, v]) (vs := [.ref a, x]) F hr b .nil hx I (.cons rfl (.cons rx .nil)) go) (fun r t done => ?_) fun _ _ z => z)
  obtain ⟨z, H', I', rz, bb, ez, q⟩ := done
  subst ez
  cases (show r = Value.bool bb from rz)
  exact wpAny_truthy_bool ⟨.bl bb, H', I', rfl, q⟩
theorem op_notInO (D : MDef X.prog X.w X.K X.mg X.base k C "__contains__" ps sp) (hr : Room k X.A) (hx : Passes (L2.CX X.prog X.w) X E) : OpR X (compareOp .NotIn) (rNinO C sp E) := by
  intro pins s σ H x y v u Q I rx ry ⟨a, dx, fs, ey, ha, go⟩
  subst ey
  cases (show u = Value.ref a from ry)
  obtain ⟨f, fd, F, g, b⟩ := D.ex
  obtain ⟨ox, od, J⟩ := own_at I ha
  obtain ⟨m, hF⟩ := I.fr
  refine PySem.W.notIn_K hF I.ok.mod.kin J g.at_ g.fn (wpAny_mono (run_fn (dvs := []) (ds := []) (us := [.ref a, v]) (vs := [.ref a, x]) F hr b .nil hx I (.cons rfl (.cons rx .nil)) go) (fun r t done => ?_) fun _ _ z => z)
  obtain ⟨z, H', I', rz, bb, ez, q⟩ := done
  subst ez
  cases (show r = Value.bool bb from rz)
  exact wpAny_truthy_bool ⟨.bl (!bb), H', I', rfl, q⟩
theorem op_binO {op : Operator} (D : MDef X.prog X.w X.K X.mg X.base k C m ps sp) (hm : PySem.dunder op.info.2 = m) (first : PySem.W.selfFirst X.K C = true) (ty : ∀ (H : Hp) (a dx : Addr) (fs : List (PySem.Str × V)), H a = some (.ins C dx fs) → TyX X.K H (.ref a) (.ref C)) (hr : Room k X.A) (hx : Passes (L2.CX X.prog X.w) X E) :
    OpR X (binaryOp op) (rBinO C sp E) := by
  intro pins s σ H x y v u Q I rx ry ⟨a, b, dx, fs, dy, gs, ex, ey, ha, hb, go⟩
  subst ex ey hm
  cases (show v = Value.ref a from rx)
  cases (show u = Value.ref b from ry)
  obtain ⟨f, fd, F, g, bd⟩ := D.ex
  obtain ⟨ox, od, J⟩ := own_at I ha
  obtain ⟨m, hF⟩ := I.fr
  obtain ⟨P, Z, hp, _⟩ := kit_of I (show RelV (V.ref b) (Value.ref b) from rfl) (ty H b dy gs hb)
  refine PySem.W.binop_K hF I.ok.mod.kin J (Z.ty _ s.heap I.kIn hp) first g.at_ g.fn (wpAny_mono (run_fn (dvs := []) (ds := []) (us := [.ref a, .ref b]) (vs := [.ref a, .ref b]) F hr bd .nil hx I (.cons rfl (.cons rfl .nil)) go) (fun r t done => ?_) fun _ _ z => z)
  obtain ⟨z, H', I', rz, rr, ez, q⟩ := done
  subst ez
  cases (show r = Value.ref rr from rz)
  exact ⟨.ref rr, H', I', rfl, q⟩
theorem un_invO (D : MDef X.prog X.w X.K X.mg X.base k C "__invert__" ps sp) (hr : Room k X.A) (hx : Passes (L2.CX X.prog X.w) X E) : UnR X (unaryOp .Invert) (rUnO C sp E) := by
  intro pins s σ H x v Q I rx ⟨a, dx, fs, ex, ha, go⟩
  subst ex
  cases (show v = Value.ref a from rx)
  obtain ⟨f, fd, F, g, b⟩ := D.ex
  obtain ⟨ox, od, J⟩ := own_at I ha
  obtain ⟨m, hF⟩ := I.fr
  exact PySem.W.ksp_inv hF I.ok.mod.kin J g.at_ g.fn (run_fn (dvs := []) (ds := []) (us := [.ref a]) (vs := [.ref a]) F hr b .nil hx I (.cons rfl .nil) go)
theorem un_negO (D : MDef X.prog X.w X.K X.mg X.base k C "__neg__" ps sp) (hr : Room k X.A) (hx : Passes (L2.CX X.prog X.w) X E) : UnR X (unaryOp .USub) (rUnO C sp E) := by
  intro pins s σ H x v Q I rx ⟨a, dx, fs, ex, ha, go⟩
  subst ex
  cases (show v = Value.ref a from rx)
  obtain ⟨f, fd, F, g, b⟩ := D.ex
  obtain ⟨ox, od, J⟩ := own_at I ha
  obtain ⟨m, hF⟩ := I.fr
  exact PySem.W.ksp_neg hF I.ok.mod.kin J g.at_ g.fn (run_fn (dvs := []) (ds := []) (us := [.ref a]) (vs := [.ref a]) F hr b .nil hx I (.cons rfl .nil) go)
theorem truO_ok {pins : List (Addr × Obj)} {σ : St} {H : Hp} {s : Shared} {x : V} {v : Value} {R : Bool → Hp → Prop} (D : MDef X.prog X.w X.K X.mg X.base k C "__bool__" ps sp) (hr : Room k X.A) (hx : Passes (L2.CX X.prog X.w) X E) (I : Inv X pins σ H s) (rx : RelV x v) (h : rTruO C sp E R x H) :
    wpAny (model X.prog X.w) X.A (truthy v) (fun b t => ∃ H', Inv X pins σ H' t ∧ R b H') X.xe s := by
  obtain ⟨a, dx, fs, ex, ha, go⟩ := h
  subst ex
  cases (show v = Value.ref a from rx)
  obtain ⟨f, fd, F, g, b⟩ := D.ex
  obtain ⟨ox, od, J⟩ := own_at I ha
  obtain ⟨m, hF⟩ := I.fr
  refine PySem.W.truthy_K hF I.ok.mod.kin J g.at_ g.fn (wpAny_mono (run_fn (dvs := []) (ds := []) (us := [.ref a]) (vs := [.ref a]) F hr b .nil hx I (.cons rfl .nil) go) (fun r t done => ?_) fun _ _ z => z)
  obtain ⟨z, H', I', rz, bb, ez, q⟩ := done
  subst ez
  cases (show r = Value.bool bb from rz)
  exact ⟨H', I', q⟩
variable {a : Expr} {ta : TE} {pos : Pos}
/-- an instance as a test -/
def tTruO (C : Addr) (sp : Sp) (E : XK) (ta : TE) : TT := fun σ H R => ta σ H (rTruO C sp E R)
theorem pt_truO (D : MDef X.prog X.w X.K X.mg X.base k C "__bool__" ps sp) (hr : Room k X.A) (hx : Passes (L2.CX X.prog X.w) X E) (ha : PE X a ta) (he : ∀ whole, isTrue a X.env whole = (do let v ← whole; standAt a.pos; holding [v] (truthy v))) : PT X a (tTruO C sp E ta) :=
  ⟨fun pins s σ H R I h => isTrue_plain (thn (ha.run pins s σ H _ I h) fun v s1 ⟨x, H1, I1, r1, q1⟩ => truO_ok D hr hx I1 r1 q1) (he _)⟩
/-- not of an instance, as a value -/
def tNotO (C : Addr) (sp : Sp) (E : XK) (ta : TE) : TE := fun σ H Q => ta σ H (rTruO C sp E fun b H' => Q (.bl (!b)) H')
theorem pe_notO (D : MDef X.prog X.w X.K X.mg X.base k C "__bool__" ps sp) (hr : Room k X.A) (hx : Passes (L2.CX X.prog X.w) X E) (ha : PE X a ta) : PE X (.UnaryOp .Not a pos) (tNotO C sp E ta) :=
  ⟨fun pins s σ H Q I h => UnaryOp_ (thn (ha.run pins s σ H _ I h) fun v s1 ⟨x, H1, I1, r1, q1⟩ => not_of (thn (truO_ok D hr hx I1 r1 q1) fun b t ⟨H', I', q⟩ => ⟨.bl (!b), H', I', rfl, q⟩))⟩
end
section
variable {σ : St} {H : Hp} {Q : VK} {R : Bool → Hp → Prop} {C a b dx dy : Addr} {fs gs : List (PySem.Str × V)} {sp : Sp} {E : XK} {x : V} {ta te : TE} {t u : TE}
instance st_tTruO : Stp (tTruO C sp E ta σ H R) (ta σ H (rTruO C sp E R)) := ⟨fun h => h⟩
instance st_tNotO : Stp (tNotO C sp E ta σ H Q) (ta σ H (rTruO C sp E fun b H' => Q (.bl (!b)) H')) := ⟨fun h => h⟩
theorem rd_inO (h : H a = some (.ins C dx fs)) (q : sp [.ref a, x] H (fun v H' => ∃ b, v = .bl b ∧ Q (.bl b) H') E) : rInO C sp E x (.ref a) H Q := ⟨a, dx, fs, rfl, h, q⟩
theorem rd_ninO (h : H a = some (.ins C dx fs)) (q : sp [.ref a, x] H (fun v H' => ∃ b, v = .bl b ∧ Q (.bl (!b)) H') E) : rNinO C sp E x (.ref a) H Q := ⟨a, dx, fs, rfl, h, q⟩
theorem rd_binO (h : H a = some (.ins C dx fs)) (k : H b = some (.ins C dy gs)) (q : sp [.ref a, .ref b] H (fun v H' => ∃ r, v = .ref r ∧ Q (.ref r) H') E) : rBinO C sp E (.ref a) (.ref b) H Q := ⟨a, b, dx, fs, dy, gs, rfl, rfl, h, k, q⟩
theorem rd_unO (h : H a = some (.ins C dx fs)) (q : sp [.ref a] H Q E) : rUnO C sp E (.ref a) H Q := ⟨a, dx, fs, rfl, h, q⟩
theorem rd_truO (h : H a = some (.ins C dx fs)) (q : sp [.ref a] H (fun v H' => ∃ b, v = .bl b ∧ R b H') E) : rTruO C sp E R (.ref a) H := ⟨a, dx, fs, rfl, h, q⟩
end
/-! ### bool(o) -/
section
variable {X : Cx} {k : Nat} {C : Addr} {ps : List PySem.Str} {sp : Sp} {E : XK}
def rBoolO (C : Addr) (sp : Sp) (E : XK) : List V → Hp → VK → Prop := fun xs H Q => ∃ x, xs = [x] ∧ rTruO C sp E (fun b H' => Q (.bl b) H') x H
end
/-! ### classmethods -/
structure CMAt (K : PySem.W.Frag) (C : Addr) (m qual : PySem.Str) (st : Stmt) : Prop where
  ex : ∃ (mc : Value) (p g : Addr) (fd : FuncData), ClX.CRead K C mc ∧ ClX.CMet K C mc m p g ∧ Fun K m qual st g fd
structure CMDef (P : Program) (w : World) (K : PySem.W.Frag) (mg : PySem.Str → Option Value) (base : Heap) (k : Nat) (C : Addr) (m : PySem.Str) (sp : Sp) : Prop where
  ex : ∃ (mc : Value) (p g : Addr), ClX.CRead K C mc ∧ ClX.CMet K C mc m p g ∧ FnR P w K mg base (L2.CX P w) k g sp
section
variable {P : Program} {w : World} {K : PySem.W.Frag} {mg : PySem.Str → Option Value} {base : Heap}
theorem CMDef.imp {k : Nat} {C : Addr} {m : PySem.Str} {sp sp' : Sp} (D : CMDef P w K mg base k C m sp) (h : ∀ vs H Q E, sp' vs H Q E → sp vs H Q E) : CMDef P w K mg base k C m sp' := by
  obtain ⟨mc, p, g, a, b, F⟩ := D.ex
  exact ⟨mc, p, g, a, b, F.imp h⟩
theorem FnR.forget {k : Nat} {f : Addr} {sp : Sp} (F : FnR P w K mg base (L2.CX P w) k f sp) : FnR P w K mg base (L2.CX P w) k f (fun vs H Q E => NoT H ∧ sp vs H (fun v H' => Same H H' ∧ Q v H) E) := by
  intro A outer s H us vs Q E hr he r q
  refine codeAny_mono (F A outer s H us vs _ E hr he r q.2) fun res t done => ?_
  cases res with
  | error er => exact done
  | ok fl =>
    cases fl with
    | ret u =>
      obtain ⟨v, H2, os2, bare2, un2, hok2, rv, sm, q2⟩ := done
      exact ⟨v, H, os2, bare2, ⟨un2.keep, un2.slot, fun _ _ _ n _ => n, un2.there, fun _ _ q => q, fun _ _ _ q => q, fun _ ps q => ⟨#[], by rw [q]; simp⟩⟩, hok_back q.1 hok2 he.hok sm, rv, q2⟩
    | next => exact done
    | brk => exact done
    | cont => exact done
theorem CMDef.forget {k : Nat} {C : Addr} {m : PySem.Str} {sp : Sp} (D : CMDef P w K mg base k C m sp) : CMDef P w K mg base k C m (fun vs H Q E => NoT H ∧ sp vs H (fun v H' => Same H H' ∧ Q v H) E) := by
  obtain ⟨mc, p, g, a, b, F⟩ := D.ex
  exact ⟨mc, p, g, a, b, FnR.forget F⟩
/-- a classmethod with plain parameters -/
theorem CMAt.ok {C : Addr} {m qual : PySem.Str} {st : Stmt} {N ps : List PySem.Str} {k : Nat} {sp : Sp} (D : CMAt K C m qual st) (S : FnScope N ps (defScope st)) (len : ∀ vs H Q E, sp vs H Q E → vs.length = ps.length)
    (binds : ∀ (f : Addr) (fd : FuncData), Fun K m qual st f fd → Binds K fd ps [])
    (hbody : ∀ (f : Addr) (cdv : Value) (A : Around) (outer : List Env) (s : Shared) (H : Hp) (vs : List V) (Q : VK) (E : XK), Room k (A.deeper (envOfC qual (defScope st) s.heap.objs.size f cdv)) → sp vs H Q E →
      ∃ t, PSs (cxOf (L2.CX P w) P w K mg base N qual (defScope st) f cdv A outer s H E) (defBody st) t ∧ t ⟨fun _ H' => Q .non H', Q, fun _ _ => False, fun _ _ => False⟩ (start N vs) H) : CMDef P w K mg base (k + 1) C m sp := by
  obtain ⟨mc, p, g, fd, a, b, F⟩ := D.ex
  refine ⟨mc, p, g, a, b, FnR.imp (FnOk.raw (F.okX S len fun cdv A outer s H vs Q E hr h => hbody g cdv A outer s H vs Q E hr h) (binds g fd F) .nil) fun vs H Q E h => ?_⟩
  rw [List.append_nil]
  exact h
/-- a classmethod with a star parameter behind the plain ones -/
theorem CMAt.okStar {C : Addr} {m qual pv : PySem.Str} {st : Stmt} {N ps : List PySem.Str} {k : Nat} {sp : Sp} (D : CMAt K C m qual st) (S : FnScope N (ps ++ [pv]) (defScope st))
    (binds : ∀ (kV doc pm cdv ct : Value) (an : Option Addr) (us rest : List Value), us.length = ps.length → bindArgs (PySem.W.fnOf m qual (defArgs st) (defBody st) (defScope st) .none kV doc pm an cdv ct) ⟨us ++ rest, []⟩ = (newTuple rest >>= fun t => pure (ps.zip us ++ [(pv, t)])))
    (hbody : ∀ (f : Addr) (cdv : Value) (A : Around) (outer : List Env) (s : Shared) (H : Hp) (vs : List V) (Q : VK) (E : XK), Room k (A.deeper (envOfC qual (defScope st) s.heap.objs.size f cdv)) → sp vs H Q E →
      ∃ t, PSs (cxOf (L2.CX P w) P w K mg base N qual (defScope st) f cdv A outer s H E) (defBody st) t ∧ t ⟨fun _ H' => Q .non H', Q, fun _ _ => False, fun _ _ => False⟩ (start N vs) H) :
    CMDef P w K mg base (k + 1) C m (fun vs H Q E => ∃ ws rest, vs = ws ++ rest ∧ ws.length = ps.length ∧ rest.length ≤ sizeLine ∧ ∀ p, H p = none → sp (ws ++ [V.ref p]) (upd H p (.tup rest)) Q E) := by
  obtain ⟨mc, p, g, fd, a, b, F⟩ := D.ex
  obtain ⟨c0, d0, kV, doc, pm, an, cdv, ct, sl, rfl, lk, hcd⟩ := F.ex
  exact ⟨mc, p, g, a, b, StX.fn_star lk hcd S StX.cxUp (binds kV doc pm cdv ct an) fun A outer s H vs Q E hr h => hbody g cdv A outer s H vs Q E hr h⟩
end
section
variable {X : Cx} {k : Nat} {C : Addr} {m : PySem.Str} {sp : Sp} {E : XK} {o e : Expr} {es : List Expr} {ta : TE} {t : TA} {pos apos : Pos}
theorem pe_cm {pl : Sem Bool} (D : CMDef X.prog X.w X.K X.mg X.base k C m sp) (he : PE X o ta) (hr : Room k X.A) (hx : Passes (L2.CX X.prog X.w) X E) (ha : PA X (e :: es) t)
    (hst : starEach (e :: es) X.env = (false, eval e X.env) :: starEach es X.env := by rfl) (hpl : (backTo pos (starEach es X.env)).any (·.1) = false := by rfl)
    (ht : eval (.Call (.Attribute o m apos) (e :: es) [] pos) X.env = (do
      let self ← eval o X.env
      standAt apos.atName
      let (g, ahead) ← holding [self] (getMethod self m pl)
      callWith pos g ahead (backTo pos (starEach (e :: es) X.env)) (backToKw pos (keywordEach [] X.env))) := by rfl) :
    PE X (.Call (.Attribute o m apos) (e :: es) [] pos) (ClX.tCMeth C sp E ta t) := by
  obtain ⟨mc, p, g, a, b, F⟩ := D.ex
  exact ClX.pe_cmeth he a b F hr hx ha hst hpl ht
theorem pe_cm0 {pl : Sem Bool} (D : CMDef X.prog X.w X.K X.mg X.base k C m sp) (he : PE X o ta) (hr : Room k X.A) (hx : Passes (L2.CX X.prog X.w) X E)
    (ht : eval (.Call (.Attribute o m apos) [] [] pos) X.env = (do
      let self ← eval o X.env
      standAt apos.atName
      let (g, ahead) ← holding [self] (getMethod self m pl)
      callWith pos g ahead (backTo pos (starEach [] X.env)) (backToKw pos (keywordEach [] X.env))) := by rfl) :
    PE X (.Call (.Attribute o m apos) [] [] pos) (ClX.tCMeth C sp E ta tNil) := by
  obtain ⟨mc, p, g, a, b, F⟩ := D.ex
  refine ⟨fun pins s σ H Q I h => PySem.W.methodCall_KW (pl := pl) (thn (he.run pins s σ H _ I h) fun u s1 ⟨x, H1, I1, rx, ex, q⟩ => ?_) ht⟩
  subst ex
  obtain rfl : u = Value.ref C := rx
  refine ClX.getmethcm_ok I1 a b fun s2 I2 => ?_
  exact PySem.W.callWith_M0 (first := []) ⟨ClX.pin_at I2, I2.kIn⟩ b.fi (ClX.run_cm (us := []) F hr hx I2 .nil q)
instance st_cm {σ : St} {H : Hp} {Q : VK} : Stp (ClX.tCMeth C sp E ta t σ H Q) (ta σ H fun x H1 => x = .ref C ∧ t σ H1 fun vs H2 => sp (.ref C :: vs) H2 Q E) := ⟨fun h => h⟩
instance st_cm1 {P : Prop} : Stp (V.ref C = V.ref C ∧ P) P := ⟨fun h => ⟨rfl, h⟩⟩
/-- cls(..), the class in a name -/
def tMakeL (C : Addr) (sp : Sp) (E : XK) (tf : TE) (t : TA) : TE := fun σ H Q => tf σ H fun y H1 => y = .ref C ∧ t σ H1 fun vs H2 => ∀ x dx, H2 x = none → H2 dx = none → dx ≠ x → sp (.ref x :: vs) (upd (upd H2 dx (.own x)) x (.ins C dx [])) (fun v H3 => v = .non ∧ Q (.ref x) H3) E
instance st_makeL {σ : St} {H : Hp} {Q : VK} {tf : TE} : Stp (tMakeL C sp E tf t σ H Q) (tf σ H fun y H1 => y = .ref C ∧ t σ H1 fun vs H2 => ∀ x dx, H2 x = none → H2 dx = none → dx ≠ x → sp (.ref x :: vs) (upd (upd H2 dx (.own x)) x (.ins C dx [])) (fun v H3 => v = .non ∧ Q (.ref x) H3) E) := ⟨fun h => h⟩
theorem pe_mkL {x : PySem.Str} {ps : List PySem.Str} {fe : Expr} {tf : TE} (D : MkDef X.prog X.w X.K X.mg X.base k x C ps sp) (hf : PE X fe tf) (hr : Room (k + 1) X.A) (hx : Passes (L2.CX X.prog X.w) X E) (ha : PA X (e :: es) t)
    (ht : eval (.Call fe (e :: es) [] pos) X.env = (do callWith pos (← eval fe X.env) [] (backTo pos (starEach (e :: es) X.env)) (backToKw pos (keywordEach [] X.env))) := by rfl)
    (he : starEach (e :: es) X.env = (false, eval e X.env) :: starEach es X.env := by rfl) (hpl : (backTo pos (starEach es X.env)).any (·.1) = false := by rfl) :
    PE X (.Call fe (e :: es) [] pos) (tMakeL C sp E tf t) := by
  obtain ⟨f, fd, F, M, b⟩ := D.ex
  refine ⟨fun pins s σ H Q I h => Call_ (thn (hf.run pins s σ H _ I h) fun u s1 ⟨y, H1, I1, ry, ey, q⟩ => ?_) ht⟩
  subst ey
  obtain rfl : u = Value.ref C := ry
  refine PySem.W.callWith_K (h₀ := X.base) I1.ok.mod.kin M.kp (thn (ha.run pos pins s1 σ H1 _ I1 q) fun us s2 ⟨vs, H2, I2, r, q2⟩ => ⟨I2.kIn, ?_⟩) he hpl
  refine run_make (dvs := []) M F hr b .nil hx I2 r ?_
  rw [List.append_nil]
  exact q2
end
end L2
namespace L2
open PySem PySem.Spec PyProof.Rows
/-! ### bool(t), a tuple -/
theorem meets_boolT (a : Addr) (its : Array Value) (small : (its.size : Int) < 2 ^ 63) :
    Meets (Builtin.«bool.__new__» ⟨[.type "bool", .ref a], []⟩) (fun _ R s => IsTup s.heap a its ∧ R (.ok (.ret (.bool (!its.isEmpty)))) { s with toks := s.toks + 1 + 1 }) :=
  Meets.of_wp fun prog w A R s both => by
    obtain ⟨isT, q⟩ := both
    obtain ⟨hp, g, d, tk, os⟩ := s
    have k1 := PySem.F.conv_sub_bool
    repeat (any_goals (first | assumption | (with_reducible refine truthy_tuple isT small ?_) | wp_step | fail))
    all_goals first | exact ⟨_, rfl, q⟩ | exact q | skip
def rBoolT (K : PySem.W.Frag) : List V → Hp → VK → Prop := fun xs H Q => ∃ (a : Addr) (zs : List V), xs = [.ref a] ∧ SqT K H a zs ∧ Q (.bl (!zs.isEmpty)) H
theorem c_boolT {X : Cx} : CallR X (.type "bool") (rBoolT X.K) := by
  intro pins s σ H xs us Q I r ⟨a, zs, ex, isT, q⟩
  subst ex
  obtain rfl := Vals.ref1 r
  obtain ⟨its, rv, pl, hz⟩ := I.tuple isT
  have b1 := line63
  have b2 := rv.length
  refine call_bool_1 (meets_boolT a its.toArray (by simp only [List.size_toArray]; omega)) ⟨pl, rfl, ?_⟩
  exact ⟨.bl (!zs.isEmpty), H, I.tok _, by rw [isEmpty_of rv]; rfl, q⟩
theorem rd_boolT {K : PySem.W.Frag} {H : Hp} {Q : VK} {a : Addr} {zs : List V} (h : SqT K H a zs) (q : Q (.bl (!zs.isEmpty)) H) : rBoolT K [.ref a] H Q := ⟨a, zs, rfl, h, q⟩
end L2
namespace L2
open PySem PySem.Spec PyProof.Rows
/-! ### a def under a second name -/
structure DefAtA (K : PySem.W.Frag) (mg : PySem.Str → Option Value) (y x : PySem.Str) (st : Stmt) (ps : List PySem.Str) : Prop where
  ex : ∃ (f : Addr) (fd : FuncData), Fun K x x st f fd ∧ mg y = some (.ref f) ∧ Binds K fd ps []
theorem DefAtA.ok {P : Program} {w : World} {K : PySem.W.Frag} {mg : PySem.Str → Option Value} {base : Heap} {y x : PySem.Str} {st : Stmt} {N ps : List PySem.Str} {k : Nat} {sp : Sp} (D : DefAtA K mg y x st ps) (S : FnScope N ps (defScope st)) (len : ∀ vs H Q E, sp vs H Q E → vs.length = ps.length)
    (body : ∀ (f : Addr) (cdv : Value) (A : Around) (outer : List Env) (s : Shared) (H : Hp) (vs : List V) (Q : VK) (E : XK), Room k (A.deeper (envOfC x (defScope st) s.heap.objs.size f cdv)) → sp vs H Q E →
      ∃ t, PSs (cxOf (L2.CX P w) P w K mg base N x (defScope st) f cdv A outer s H E) (defBody st) t ∧ t ⟨fun _ H' => Q .non H', Q, fun _ _ => False, fun _ _ => False⟩ (start N vs) H) : Def P w K mg base (k + 1) y ps sp := by
  obtain ⟨f, fd, F, g, b⟩ := D.ex
  exact ⟨f, fd, F.okX S len fun cdv A outer s H vs Q E hr h => body f cdv A outer s H vs Q E hr h, g, F.kp, b⟩
/-! ### {k: v for ..} given to a name -/
theorem ps_setDc {X : Cx} {i : Nat} {y : PySem.Str} {py spos : Pos} {kx vx tg iter : Expr} {ifs : List Expr} {scope : Scope} {own : List (PySem.Str × Nat)} {pos : Pos} {wi : TI} {g : TG} {tt : TT} {tk tv : TE} (calm : X.calm = true) (nd : X.N.Nodup) (hy : X.N[i]? = some y) (loc : X.env.scope.names.lookup y = some .local)
    (swap : swapsWith (.DictComp kx vx [⟨tg, iter, ifs, 0⟩] scope pos) (some (.Name y py)) spos.line X.env = pure true) (it0 : PI X tg iter wi) (ok : BlkOk X.N X.env.scope scope own)
    (pg0 : ∀ (s0 : Shared) (G : Hp) (C : Addr) (cl : List (PySem.Str × Addr)) (fp : List Addr), PG (X.blk s0 G scope (compEnvC scope cl C X.env) fp) tg g)
    (pt0 : ∀ (s0 : Shared) (G : Hp) (C : Addr) (cl : List (PySem.Str × Addr)) (fp : List Addr), PTs (X.blk s0 G scope (compEnvC scope cl C X.env) fp) ifs tt)
    (pk0 : ∀ (s0 : Shared) (G : Hp) (C : Addr) (cl : List (PySem.Str × Addr)) (fp : List Addr), PE (X.blk s0 G scope (compEnvC scope cl C X.env) fp) kx tk)
    (pe0 : ∀ (s0 : Shared) (G : Hp) (C : Addr) (cl : List (PySem.Str × Addr)) (fp : List Addr), PE (X.blk s0 G scope (compEnvC scope cl C X.env) fp) vx tv) (fold : ∀ x, foldedSetIterable iter X.env x = pure x := by intro _; rfl) :
    PS X (.Assign [.Name y py] (.DictComp kx vx [⟨tg, iter, ifs, 0⟩] scope pos) spos) (tAsg (tDc wi g tt tk tv (own.map (·.2))) (gName i)) := by
  refine ⟨fun pins s σ H D I0 want => ?_⟩
  rw [exec_Assign_Name_used _ _ _ _ swap]
  refine wpAny_bind (wpAny_standAt (wpAny_bind ?_))
  show wpAny _ X.A (do let _ ← comprehension (.DictComp kx vx [⟨tg, iter, ifs, 0⟩] scope pos) scope X.env (firstIterPos [⟨tg, iter, ifs, 0⟩] pos) newDict false (eval iter X.env) (some (assign (.Name y py) X.env))) _ _ s
  replace want : tDc wi g tt tk tv (own.map (·.2)) σ H (fun x G => gName i x σ G D.nx) := want
  refine wpAny_bind (thn (dc_core (Qf := fun _ t => SP X pins D .next t) calm nd I0 it0 ok pg0 pt0 pk0 pe0 fold want fun L C t m G J q ns f => ?_) fun _ t hq => wpAny_pure (wpAny_pure hq))
  show wpAny _ _ (assign (.Name y py) X.env (.ref L)) _ _ _
  refine wpAny_assign_Name (store_ok2 (v := V.ref L) J nd hy (.inl loc) rfl (fun t2 J2 ⟨a, sb, ha⟩ => ?_) (.inr loc))
  obtain ⟨g0, g1, g2, g3, g4, g5⟩ := f
  have away : C ≠ a := by
    rcases ha with z | z
    · exact z ▸ g1
    · exact fun e => g4 y a z e.symm
  exact ⟨m, ns.sameBut sb away, fun h3 sb3 => ⟨_, G, J2.turned (t' := t2.toks) (fun b o ne e => (sb3.2 b ne).trans e) g0 g1 g3 g4 g5, q⟩⟩
theorem sw_dc {kx vx : Expr} {gs : List Comprehension} {scope : Scope} {pos py : Pos} {y : PySem.Str} {l : Nat} {env : Env} (kind : env.scope.kind = .function) (loc : env.scope.names.lookup y = some .local) (line : (py.line == pos.line) = true)
    (other : (scope.names.any fun (n, k) => n == y && (k == .local || k == .cell)) = false) : swapsWith (.DictComp kx vx gs scope pos) (some (.Name y py)) l env = pure true := by
  have k1 : env.kindOf y = some .local := loc
  have k2 : env.blockKind = .function := by unfold Env.blockKind; rw [kind]; rfl
  unfold swapsWith
  simp only [k2, k1, other, Expr.pos, line]
  rfl
/-- {x: True for x in xs}, xs a list or tuple of ints -/
def dcB (J : It) (g : TG) (tt : TT) (tk tv : TE) (vs : List Nat) (σ : St) (Q : VK) (H1 : Hp) : Prop := ∀ D, H1 D = none → ∃ W : Nat → Nat → Hp → Prop, (∃ m, W 0 m (upd H1 D (.dK []))) ∧ ∀ i m H, W i m H →
  (J.stop i H ∧ Q (.ref D) H) ∨ (J.go i H ∧ ∃ Nx : Hp → Prop, (∀ H', Nx H' → ∃ m', m' < m ∧ W (i + 1) m' H') ∧ ∀ x H', J.yld i H x H' → g x (wipe σ vs) H' fun σ2 H2 => wipe σ2 vs = wipe σ vs ∧ tt σ2 H2 fun b H3 =>
    if b = true then tk σ2 H3 fun y H4 => tv σ2 H4 fun z H5 => ∃ kvs k, y = kV k ∧ H5 D = some (.dK kvs) ∧ kvs.length < sizeLine ∧ Nx (upd H5 D (.dK (putK kvs k z))) else Nx H3)
section
variable {σ : St} {H : Hp} {Q : VK} {K : PySem.W.Frag} {tk tv : TE} {tt : TT}
instance st_dc {wi : TI} {g : TG} {vs : List Nat} : Stp (tDc wi g tt tk tv vs σ H Q) (wi σ H fun J H1 => dcB J g tt tk tv vs σ Q H1) := ⟨fun h => h⟩
def DcPut (H : Hp) (D : Addr) (xs : List Int) (y z : V) (H5 : Hp) : Prop := ∃ kvs k, y = kV k ∧ H5 D = some (.dK kvs) ∧ kvs.length < sizeLine ∧ upd H5 D (.dK (putK kvs k z)) = upd H D (DFl (ofL xs))
theorem put_F {D : Addr} {xs ys : List Int} {c : Int} (few : xs.length < 100000) (e : ys = xs ++ [c]) : DcPut H D ys (.int c) (.bl true) (upd H D (DFl (ofL xs))) := by
  refine ⟨_, .inl c, rfl, upd_same, ?_, ?_⟩
  · rw [dFl_len]
    exact Nat.lt_trans (Nat.lt_of_le_of_lt len_ofL few) (by decide)
  · rw [upd_upd, dFl_put, e, ofL_snoc]
theorem rd_dcLF {a : Addr} {ns : List Int} {g : TG} {vs : List Nat} (hS : SqL K H a (ns.map V.int))
    (hs : ∀ D l x r, H D = none → ns = l ++ x :: r → g (.int x) (wipe σ vs) (upd H D (DFl (ofL l))) fun σ2 H2 => wipe σ2 vs = wipe σ vs ∧ tk σ2 H2 fun y H4 => tv σ2 H4 fun z H5 => DcPut H D (l ++ [x]) y z H5)
    (q : ∀ D, H D = none → Q (.ref D) (upd H D (DFl (ofL ns)))) : dcB (Itl K a) g tYes tk tv vs σ Q H := by
  intro D hD
  refine ⟨fun i m G => m = ns.length - i ∧ i ≤ ns.length ∧ G = upd H D (DFl (ofL (ns.take i))), ⟨ns.length, by simp, Nat.zero_le _, rfl⟩, ?_⟩
  rintro i m G ⟨rfl, hi, rfl⟩
  have hS' : SqL K (upd H D (DFl (ofL (ns.take i)))) a (ns.map V.int) := (same_new hD).seq hS
  by_cases hlt : i < ns.length
  · have hx : (ns.map V.int)[i]? = some (.int ns[i]) := by simp [hlt]
    have er : ns.take (i + 1) = ns.take i ++ [ns[i]] := by rw [List.take_add_one, List.getElem?_eq_getElem hlt]; rfl
    refine .inr ⟨⟨_, _, hS', hx⟩, fun G' => G' = upd H D (DFl (ofL (ns.take (i + 1)))), fun G' e => ⟨ns.length - (i + 1), by omega, rfl, hlt, e⟩, fun x G' y => ?_⟩
    obtain ⟨e, y⟩ := y
    subst e
    have ex : x = .int ns[i] := Option.some.inj ((y _ hS').symm.trans hx)
    subst ex
    have z := hs D (ns.take i) ns[i] (ns.drop (i + 1)) hD (by rw [List.getElem_cons_drop, List.take_append_drop])
    rw [← er] at z
    exact z
  · have e : i = ns.length := by omega
    subst e
    rw [List.take_length]
    exact .inl ⟨⟨_, (same_new hD).seq hS, by rw [List.length_map]; exact Nat.le_refl _⟩, q D hD⟩
theorem rd_dcTF {a : Addr} {ns : List Int} {g : TG} {vs : List Nat} (hS : SqT K H a (ns.map V.int))
    (hs : ∀ D l x r, H D = none → ns = l ++ x :: r → g (.int x) (wipe σ vs) (upd H D (DFl (ofL l))) fun σ2 H2 => wipe σ2 vs = wipe σ vs ∧ tk σ2 H2 fun y H4 => tv σ2 H4 fun z H5 => DcPut H D (l ++ [x]) y z H5)
    (q : ∀ D, H D = none → Q (.ref D) (upd H D (DFl (ofL ns)))) : dcB (Itt K a) g tYes tk tv vs σ Q H := by
  intro D hD
  refine ⟨fun i m G => m = ns.length - i ∧ i ≤ ns.length ∧ G = upd H D (DFl (ofL (ns.take i))), ⟨ns.length, by simp, Nat.zero_le _, rfl⟩, ?_⟩
  rintro i m G ⟨rfl, hi, rfl⟩
  have hS' : SqT K (upd H D (DFl (ofL (ns.take i)))) a (ns.map V.int) := (same_new hD).seqT hS
  by_cases hlt : i < ns.length
  · have hx : (ns.map V.int)[i]? = some (.int ns[i]) := by simp [hlt]
    have er : ns.take (i + 1) = ns.take i ++ [ns[i]] := by rw [List.take_add_one, List.getElem?_eq_getElem hlt]; rfl
    refine .inr ⟨⟨_, _, hS', hx⟩, fun G' => G' = upd H D (DFl (ofL (ns.take (i + 1)))), fun G' e => ⟨ns.length - (i + 1), by omega, rfl, hlt, e⟩, fun x G' y => ?_⟩
    obtain ⟨e, y⟩ := y
    subst e
    have ex : x = .int ns[i] := Option.some.inj ((y _ hS').symm.trans hx)
    subst ex
    have z := hs D (ns.take i) ns[i] (ns.drop (i + 1)) hD (by rw [List.getElem_cons_drop, List.take_append_drop])
    rw [← er] at z
    exact z
  · have e : i = ns.length := by omega
    subst e
    rw [List.take_length]
    exact .inl ⟨⟨_, (same_new hD).seqT hS, by rw [List.length_map]; exact Nat.le_refl _⟩, q D hD⟩
end
end L2
namespace L2
open PySem PySem.Spec PyProof.Rows
theorem rd_catA {K : PySem.W.Frag} {H : Hp} {Q : VK} {a b : Addr} {xs ys : List V} (h1 : SqT K H a xs) (h2 : SqT K H b ys) (h3 : xs.length + ys.length ≤ sizeLine) (q : ∀ p H', Same H H' → (NoT H → NoT H') → SqT K H' p (xs ++ ys) → Q (.ref p) H') : rCatA K (.ref a) (.ref b) H Q :=
  ⟨a, b, xs, ys, rfl, rfl, h1, h2, h3, fun e => q b H (Same.refl H) id (by rw [e]; exact h2), fun _ e => q a H (Same.refl H) id (by rw [e, List.append_nil]; exact h1), fun _ _ p hp => q p _ (same_new hp) (fun nt => NoT.upd nt rfl) (SqT.of upd_same)⟩
end L2
namespace PySem.W
open PySem PySem.Spec PySem.Calls PyProof.Rows
section
variable {prog : Program} {w : World} {A : Around} {E : Value → Shared → Prop} {s : Shared} {K : Frag} {x C f : Addr} {ox : Obj} {od : Option Obj}
theorem kbo_truthy {M : Model} {A : Around} {Q : Bool → Shared → Prop} (X : K.In s.heap) (I : InstAt s.heap x ox C od) (hs : findIn K (.ref C) "__bool__" = some (some (.ref f))) (hf : isFn K (.ref f) = true)
    (h : wpAny M A (call (.ref f) [.ref x]) (BoolBack Q) E s) : wpAny M A (truthy (.ref x)) Q E s := by
  unfold truthy
  refine wpAny_bind (m := callSpecial? (.ref x) (Str.ofString "__bool__")) (special_fn X I hs (beq_iff_eq.mp hf) (wpAny_mono h (fun r s' hr => ?_) fun _ _ y => y))
  cases r <;> first | exact hr.elim | skip
  exact wpAny_pure hr
theorem kbo_call {Q : Value → Shared → Prop} (X : K.In s.heap) (I : InstAt s.heap x ox C od) (hs : findIn K (.ref C) "__bool__" = some (some (.ref f))) (hf : isFn K (.ref f) = true)
    (h : wpAny (model prog w) A.in1.in1 (call (.ref f) [.ref x]) (BoolBack fun b => Q (.bool b)) E s) : wpAny (model prog w) A (call (.type "bool") [.ref x]) Q E s := by
  refine callType_codes (T := "bool") (Bi := Builtin.«object.__init__») (Q₁ := fun r s₁ => ∃ b, r = .bool b ∧ Q r s₁) PySem.F.called_bool (PySem.F.typeCall_bool_1 _) PySem.F.entry_object_init ?_ ?_
  · refine codeAny_of_tree ?_
    show wpAny _ A.in1.in1 (do checkBuiltinCall "bool.__new__" ⟨[.type "bool", .ref x], []⟩; again (.builtin "bool.__new__" ⟨[.type "bool", .ref x], []⟩)) _ _ s
    refine wpAny_bind (wpAny_of_eq (PySem.F.newCall_bool_1 _) (wpAny_pure ⟨plainId_quiet (by decide +kernel) _, codeAny_builtin PySem.F.entry_bool_new ?_⟩))
    rw [Around.under_plainId (by decide +kernel) _]
    unfold Builtin.«bool.__new__»
    have k1 := PySem.F.conv_sub_bool
    refine wpAny_bind (wpAny_pure ?_)
    dsimp only
    rw [if_neg (by decide)]
    refine wpAny_bind (wpAny_of_eq k1 ?_)
    rw [if_neg (by decide)]
    refine wpAny_bind (m := someArgs "bool" 0 1 _) (wpAny_pure ?_)
    dsimp only
    refine wpAny_bind (kbo_truthy X I hs hf (wpAny_mono h (fun r s' hr => ?_) fun _ _ y => y))
    cases r <;> first | exact hr.elim | skip
    exact wpAny_pure ⟨_, rfl, hr⟩
  · rintro obj s₁ ⟨b, rfl, hq⟩
    exact ⟨typeIs_bool _ _, PySem.F.args_object_init_2 _ _, object_init_meets PySem.F.called_bool.init.lookup PySem.F.called_bool.made (by decide) prog w A.in1 _ s₁ ⟨typeIs_bool _ _, rfl, hq⟩⟩
end
end PySem.W
namespace L2
open PySem PySem.Spec PyProof.Rows
theorem call_boolO {X : Cx} {k : Nat} {C : Addr} {ps : List PySem.Str} {sp : Sp} {E : XK} (D : MDef X.prog X.w X.K X.mg X.base k C "__bool__" ps sp) (hr : Room (k + 2) X.A) (hx : Passes (L2.CX X.prog X.w) X E) : CallR X (.type "bool") (rBoolO C sp E) := by
  intro pins s σ H xs us Q I r h
  obtain ⟨x, rfl, h⟩ := h
  obtain ⟨f, fd, F, g, b⟩ := D.ex
  obtain ⟨a, dx, fs, rfl, ha, hsp⟩ := h
  obtain ⟨u, rfl, hu⟩ := vals1 r
  cases (show u = Value.ref a from hu)
  obtain ⟨mA, J, _⟩ := ins_get I.hok ha
  obtain ⟨od, J, _⟩ := J.look
  refine PySem.W.kbo_call I.kIn J g.at_ g.fn ?_
  have e0 : Env0 X.prog X.w X.K X.mg X.base X.A.in1.in1 X.stack s H := by
    have e := I.env0
    exact ⟨e.frames, e.mod, e.bs, e.bsz, e.funs, e.frf, e.hok, e.bare⟩
  have hl := F.len _ _ _ _ hsp
  have r2 : Vals [V.ref a] [Value.ref a] := .cons rfl .nil
  refine wpAny_call (codeAny_mono (F.run X.A.in1.in1 X.stack s H ⟨[.ref a], []⟩ [.ref a] [.ref a] _ E hr.in1.in1 e0 (by
    have := b s [.ref a] I.kIn (by simpa using hl)
    simpa using this) r2 hsp) fun r s' hq => ?_)
  cases r with
  | error e => exact hx pins σ H s e s' I hq
  | ok fl =>
    cases fl with
    | ret w =>
      obtain ⟨z, H', I', rz, y, ez, q⟩ := I.after hq
      subst ez
      cases (show w = Value.bool y from rz)
      exact ⟨.bl y, H', I', rfl, q⟩
    | next => exact hq.elim
    | brk => exact hq.elim
    | cont => exact hq.elim
section
variable {C a dx : Addr} {fs : List (PySem.Str × V)} {sp : Sp} {E : XK} {H : Hp} {Q : VK}
theorem rd_boolO (h : H a = some (.ins C dx fs)) (q : sp [.ref a] H (fun v H' => ∃ b, v = .bl b ∧ Q (.bl b) H') E) : rBoolO C sp E [.ref a] H Q := ⟨.ref a, rfl, a, dx, fs, rfl, h, q⟩
end
end L2
namespace L2
open PySem PySem.Spec PyProof.Rows
section
variable {σ : St} {H : Hp} {Q : VK} {K : PySem.W.Frag} {te : TE} {tt : TT}
/-- a list comprehension over a list whose tests and items change the heap -/
theorem rd_lcLG {a : Addr} {xs : List V} {g : TG} {vs : List Nat} (J : Addr → Nat → List V → Hp → Prop) (hl : ∀ D i ys H', J D i ys H' → SqL K H' a xs) (h0 : ∀ D, H D = none → J D 0 [] (upd H D (.lst [])))
    (hs : ∀ D i ys x H', H D = none → xs[i]? = some x → H' D = some (.lst ys) → J D i ys H' → g x (wipe σ vs) H' fun σ2 H2 => wipe σ2 vs = wipe σ vs ∧ tt σ2 H2 fun b H3 => if b = true then te σ2 H3 (fun y H4 => ∃ acc, H4 D = some (.lst acc) ∧ acc.length < sizeLine ∧ ∃ ys, (upd H4 D (.lst (acc ++ [y]))) D = some (.lst ys) ∧ J D (i + 1) ys (upd H4 D (.lst (acc ++ [y])))) else ∃ ys, H3 D = some (.lst ys) ∧ J D (i + 1) ys H3)
    (q : ∀ D ys H', H D = none → H' D = some (.lst ys) → J D xs.length ys H' → Q (.ref D) H') : lcB (Itl K a) g tt te vs σ Q H := by
  intro D hD
  refine lc_it (walk_list (K := K) (a := a) (xs := xs)) (fun i H' => ∃ ys, H' D = some (.lst ys) ∧ J D i ys H') ⟨[], upd_same, h0 D hD⟩ (fun i H' _ ⟨ys, _, j⟩ => hl D i ys H' j) ?_ (fun H' ⟨ys, h1, j⟩ => q D ys H' hD h1 j)
  rintro i x H' H'' hi ⟨ys, h1, j⟩ ⟨rfl, hx⟩
  exact hs D i ys x _ hD hx h1 j
end
end L2

namespace L2
open PySem PySem.Spec PyProof.Rows
/-! ### a view of the heap: what is kept of an earlier one, what is ours to change, what stands besides, what no list decides -/
def rigid : HO → Bool
  | .ins _ _ _ => true
  | .tup _ => true
  | _ => false
/-- all that is no list, dict or the like still stands -/
def Keeps (G G' : Hp) : Prop := ∀ b o, rigid o = true → G b = some o → G' b = some o
theorem Keeps.refl (G : Hp) : Keeps G G := fun _ _ _ h => h
theorem Keeps.trans {G G' G'' : Hp} (a : Keeps G G') (b : Keeps G' G'') : Keeps G G'' := fun c o r h => b c o r (a c o r h)
theorem Keeps.of {G G' : Hp} (s : Same G G') : Keeps G G' := fun b o _ h => s b o h
theorem Keeps.put {G : Hp} {x : Addr} {o u : HO} (h : G x = some o) (r : rigid o = false) : Keeps G (upd G x u) := fun b v rv hb => by
  by_cases e : b = x
  · subst e
    rw [h] at hb
    cases hb
    rw [r] at rv
    cases rv
  · rw [upd_ne e]
    exact hb
def Rig (P : Hp → Prop) (G : Hp) : Prop := ∀ G', Keeps G G' → P G'
structure Hv (X : Addr → Prop) (H : Hp) (M L : List (Addr × HO)) (Z : List (Hp → Prop)) (G : Hp) : Prop where
  old : ∀ b o, ¬ X b → H b = some o → G b = some o
  nt : NoT G
  m : ∀ q ∈ M, G q.1 = some q.2 ∧ (X q.1 ∨ H q.1 = none) ∧ rigid q.2 = false
  l : ∀ q ∈ L, G q.1 = some q.2
  nd : M.Pairwise fun q r => q.1 ≠ r.1
  ml : ∀ q ∈ M, ∀ r ∈ L, q.1 ≠ r.1
  z : ∀ P ∈ Z, Rig P G
def noX : Addr → Prop := fun _ => False
/-- nothing but x has changed -/
def But (x : Addr) (H H' : Hp) : Prop := ∀ b o, b ≠ x → H b = some o → H' b = some o
theorem But.of {x : Addr} {H H' : Hp} (h : Same H H') : But x H H' := fun b o _ e => h b o e
theorem But.new {x p : Addr} {H G : Hp} {o : HO} (h : But x H G) (hp : G p = none) : But x H (upd G p o) := fun b o1 n e => upd_keep (h b o1 n e) hp
theorem But.put {x : Addr} {H G : Hp} {o : HO} (h : But x H G) : But x H (upd G x o) := fun b o1 n e => by
  rw [upd_ne n]
  exact h b o1 n e
theorem But.refl {x : Addr} {H : Hp} : But x H H := fun _ _ _ e => e
theorem But.trans {x : Addr} {H G L : Hp} (a : But x H G) (b : But x G L) : But x H L := fun c o n e => b c o n (a c o n e)
theorem But.same {x : Addr} {H G L : Hp} (a : But x H G) (b : Same G L) : But x H L := fun c o n e => b c o (a c o n e)
/-- what stood ahead of x still stands -/
theorem But.old {x : Addr} {H0 H G : Hp} (a : But x H G) (s : Same H0 H) (f : H0 x = none) : Same H0 G := fun c o e => a c o (fun z => by
  rw [z, f] at e
  cases e) (s c o e)
theorem But.fresh {x D : Addr} {H G : Hp} {o : HO} (h : But x H G) (f : H D = none) : But x H (upd G D o) := fun b o1 n e => by
  rw [upd_ne (ne_of_none e f)]
  exact h b o1 n e
theorem but_none {x D : Addr} {H G : Hp} (h : But x H G) (n : D ≠ x) (f : G D = none) : H D = none := by
  cases e : H D with
  | none => rfl
  | some o => rw [h D o n e] at f; cases f
section
variable {X : Addr → Prop} {H G G' : Hp} {M L : List (Addr × HO)} {Z : List (Hp → Prop)} {a b D p x y : Addr} {o u v : HO} {P : Hp → Prop} {xs : List V}
theorem Hv.start (nt : NoT H) : Hv noX H [] [] [] H := ⟨fun _ _ _ h => h, nt, fun _ h => absurd h List.not_mem_nil, fun _ h => absurd h List.not_mem_nil, List.Pairwise.nil, fun _ h => absurd h List.not_mem_nil, fun _ h => absurd h List.not_mem_nil⟩
theorem Hv.pool (nt : NoT H) (h : H p = some (.lst xs)) : Hv (· = p) H [(p, .lst xs)] [] [] H := ⟨fun _ _ _ h => h, nt, fun q hq => by
  rw [List.mem_singleton.mp hq]
  exact ⟨h, .inl rfl, rfl⟩, fun _ h => absurd h List.not_mem_nil, List.pairwise_singleton .., fun _ _ _ h => absurd h List.not_mem_nil, fun _ h => absurd h List.not_mem_nil⟩
theorem Hv.same (B : Hv noX H M L Z G) : Same H G := fun b o h => B.old b o id h
theorem Hv.but1 (B : Hv (· = p) H M L Z G) : But p H G := fun b o n h => B.old b o n h
theorem Hv.mAt (B : Hv X H M L Z G) (h : (a, o) ∈ M) : G a = some o := (B.m _ h).1
theorem Hv.lAt (B : Hv X H M L Z G) (h : (a, o) ∈ L) : G a = some o := B.l _ h
theorem Hv.zAt (B : Hv X H M L Z G) (h : P ∈ Z) : P G := B.z P h G (Keeps.refl G)
theorem Hv.oAt (B : Hv noX H M L Z G) (h : H a = some o) : G a = some o := B.old a o id h
theorem Hv.oAtX (B : Hv (· = p) H M L Z G) (h : H a = some o) (n : a ≠ p) : G a = some o := B.old a o n h
theorem Hv.fr (B : Hv noX H M L Z G) (h : (a, o) ∈ M) : H a = none := (B.m _ h).2.1.elim False.elim id
theorem Hv.frX (B : Hv (· = p) H M L Z G) (h : (a, o) ∈ M) (n : a ≠ p) : H a = none := (B.m _ h).2.1.elim (fun e => absurd e n) id
theorem Hv.free (B : Hv noX H M L Z G) (h : G D = none) : H D = none := B.same.free h
theorem Hv.freeX (B : Hv (· = p) H ((p, o) :: M) L Z G) (h : G D = none) : H D = none := by
  have hp := (B.m _ List.mem_cons_self).1
  cases e : H D with
  | none => rfl
  | some u =>
    have n : D ≠ p := fun z => by
      subst z
      rw [h] at hp
      cases hp
    rw [B.old D u n e] at h
    cases h
theorem Hv.away (B : Hv X H M L Z G) (h : G D = none) : ∀ q ∈ M, q.1 ≠ D := fun q hq e => by
  have := (B.m q hq).1
  rw [e, h] at this
  cases this
theorem Hv.away1 (B : Hv X H ((p, o) :: M) L Z G) (h : G D = none) : ∀ q ∈ (p, u) :: M, q.1 ≠ D := fun q hq => (List.mem_cons.mp hq).elim (fun e => by
  rw [e]
  exact B.away h (p, o) List.mem_cons_self) fun hq => B.away h q (List.mem_cons_of_mem _ hq)
theorem Hv.next (B : Hv X H M L Z G) (s : Same G G') (n : NoT G') : Hv X H M L Z G' := ⟨fun b o h e => s b o (B.old b o h e), n, fun q hq => ⟨s _ _ (B.m q hq).1, (B.m q hq).2⟩, fun q hq => s _ _ (B.l q hq), B.nd, B.ml, fun P hP G2 k => B.z P hP G2 ((Keeps.of s).trans k)⟩
theorem Hv.newG (B : Hv X H M L Z G) (h : G D = none) (f : X D ∨ H D = none) (r : rigid o = false) (hn : noT o = true) : Hv X H ((D, o) :: M) L Z (upd G D o) := by
  have C := B.next (same_new (o := o) h) (NoT.upd B.nt hn)
  refine ⟨C.old, C.nt, fun q hq => ?_, C.l, List.pairwise_cons.mpr ⟨fun q hq => (B.away h q hq).symm, C.nd⟩, fun q hq q2 h2 => ?_, C.z⟩
  · rcases List.mem_cons.mp hq with e | hq
    · subst e
      exact ⟨upd_same, f, r⟩
    · exact C.m q hq
  · rcases List.mem_cons.mp hq with e | hq
    · subst e
      exact fun e => by
        have := B.l q2 h2
        rw [← e, h] at this
        cases this
    · exact C.ml q hq q2 h2
/-- a new thing, ours -/
theorem Hv.new (B : Hv noX H M L Z G) (h : G D = none) (r : rigid o = false := by rfl) (hn : noT o = true := by rfl) : Hv noX H ((D, o) :: M) L Z (upd G D o) := B.newG h (.inr (B.free h)) r hn
theorem Hv.newX (B : Hv (· = p) H ((p, u) :: M) L Z G) (h : G D = none) (r : rigid o = false := by rfl) (hn : noT o = true := by rfl) : Hv (· = p) H ((p, u) :: (D, o) :: M) L Z (upd G D o) := by
  have C := B.newG (o := o) h (.inr (B.freeX h)) r hn
  refine ⟨C.old, C.nt, fun q hq => C.m q ?_, C.l, ?_, fun q hq => C.ml q ?_, C.z⟩
  · simp only [List.mem_cons] at hq ⊢
    exact hq.elim (fun e => .inr (.inl e)) fun e => e.elim .inl fun e => .inr (.inr e)
  · obtain ⟨h1, h2⟩ := List.pairwise_cons.mp C.nd
    obtain ⟨h3, h4⟩ := List.pairwise_cons.mp h2
    exact List.pairwise_cons.mpr ⟨fun q hq => (List.mem_cons.mp hq).elim (fun e => by rw [e]; exact (h1 _ List.mem_cons_self).symm) (h3 q), List.pairwise_cons.mpr ⟨fun q hq => h1 q (List.mem_cons_of_mem _ hq), h4⟩⟩
  · simp only [List.mem_cons] at hq ⊢
    exact hq.elim (fun e => .inr (.inl e)) fun e => e.elim .inl fun e => .inr (.inr e)
/-- a new thing that stays as it is -/
theorem Hv.newL (B : Hv X H M L Z G) (h : G D = none) (hn : noT o = true := by rfl) : Hv X H M ((D, o) :: L) Z (upd G D o) := by
  have C := B.next (same_new (o := o) h) (NoT.upd B.nt hn)
  refine ⟨C.old, C.nt, C.m, fun q hq => ?_, C.nd, fun q hq q2 h2 => ?_, C.z⟩
  · rcases List.mem_cons.mp hq with e | hq
    · subst e
      exact upd_same
    · exact C.l q hq
  · rcases List.mem_cons.mp h2 with e | h2
    · subst e
      exact B.away h q hq
    · exact C.ml q hq q2 h2
/-- what stands besides -/
theorem Hv.add (B : Hv X H M L Z G) (h : G a = some o) (n : ∀ q ∈ M, q.1 ≠ a) : Hv X H M ((a, o) :: L) Z G := ⟨B.old, B.nt, B.m, fun q hq => (List.mem_cons.mp hq).elim (fun e => by rw [e]; exact h) (B.l q), B.nd, fun q hq q2 h2 => (List.mem_cons.mp h2).elim (fun e => by rw [e]; exact n q hq) (B.ml q hq q2), B.z⟩
/-- what a call has made: at D, free ahead of it -/
theorem Hv.got (B : Hv X H M L Z G) (s : Same G G') (n : NoT G') (f : G D = none) (h : G' D = some o) : Hv X H M ((D, o) :: L) Z G' := (B.next s n).add h (B.away f)
theorem Hv.gotM (B : Hv noX H M L Z G) (s : Same G G') (n : NoT G') (f : G D = none) (h : G' D = some o) (r : rigid o = false := by rfl) : Hv noX H ((D, o) :: M) L Z G' := by
  have C := B.next s n
  refine ⟨C.old, C.nt, fun q hq => (List.mem_cons.mp hq).elim (fun e => by rw [e]; exact ⟨h, .inr (B.free f), r⟩) (C.m q), C.l, List.pairwise_cons.mpr ⟨fun q hq => (B.away f q hq).symm, C.nd⟩, fun q hq q2 h2 => (List.mem_cons.mp hq).elim (fun e => ?_) fun hq => C.ml q hq q2 h2, C.z⟩
  rw [e]
  exact fun z => by
    have := B.l q2 h2
    rw [← z, f] at this
    cases this
/-- rigid things -/
theorem Hv.rig (B : Hv X H M L Z G) (h : Rig P G) : Hv X H M L (P :: Z) G := ⟨B.old, B.nt, B.m, B.l, B.nd, B.ml, fun Q hQ => (List.mem_cons.mp hQ).elim (fun e => by rw [e]; exact h) (B.z Q)⟩
/-- ours has changed -/
theorem Hv.but (B : Hv X H ((p, o) :: M) L Z G) (b : But p G G') (n : NoT G') (h : G' p = some u) (r : rigid u = false := by rfl) : Hv X H ((p, u) :: M) L Z G' := by
  obtain ⟨h1, h2, h3⟩ := B.m _ List.mem_cons_self
  obtain ⟨n1, n2⟩ := List.pairwise_cons.mp B.nd
  refine ⟨fun c w hc e => ?_, n, fun q hq => ?_, fun q hq => b _ _ (fun e => B.ml _ List.mem_cons_self q hq e.symm) (B.l q hq), List.pairwise_cons.mpr ⟨fun q hq => n1 q hq, n2⟩, fun q hq q2 k2 => ?_, fun P hP G2 k => B.z P hP G2 (Keeps.trans (fun c w rw hc => ?_) k)⟩
  · by_cases e2 : c = p
    · subst e2
      exact (h2.elim hc fun z => by rw [z] at e; cases e).elim
    · exact b c w e2 (B.old c w hc e)
  · rcases List.mem_cons.mp hq with e | hq
    · subst e
      exact ⟨h, h2, r⟩
    · obtain ⟨k1, k2⟩ := B.m q (List.mem_cons_of_mem _ hq)
      exact ⟨b _ _ (fun e => n1 q hq e.symm) k1, k2⟩
  · rcases List.mem_cons.mp hq with e | hq
    · subst e
      exact B.ml _ List.mem_cons_self q2 k2
    · exact B.ml _ (List.mem_cons_of_mem _ hq) q2 k2
  · refine b c w (fun e => ?_) hc
    subst e
    have : some o = some w := h1.symm.trans hc
    cases this
    have h3' : rigid o = false := h3
    rw [h3'] at rw
    cases rw
theorem Hv.put (B : Hv X H ((x, o) :: M) L Z G) (r : rigid u = false := by rfl) (hn : noT u = true := by rfl) : Hv X H ((x, u) :: M) L Z (upd G x u) := B.but (fun b w n e => by rw [upd_ne n]; exact e) (NoT.upd B.nt hn) upd_same r
theorem Hv.perm {M' : List (Addr × HO)} (B : Hv X H M L Z G) (h : ∀ q ∈ M', q ∈ M) (n : M'.Pairwise fun q r => q.1 ≠ r.1) : Hv X H M' L Z G := ⟨B.old, B.nt, fun q hq => B.m q (h q hq), B.l, n, fun q hq => B.ml q (h q hq), B.z⟩
theorem Hv.swap {q r : Addr × HO} (B : Hv X H (q :: r :: M) L Z G) : Hv X H (r :: q :: M) L Z G := by
  obtain ⟨h1, h2⟩ := List.pairwise_cons.mp B.nd
  obtain ⟨h3, h4⟩ := List.pairwise_cons.mp h2
  refine B.perm (fun k hk => ?_) (List.pairwise_cons.mpr ⟨fun k hk => (List.mem_cons.mp hk).elim (fun e => by rw [e]; exact (h1 _ List.mem_cons_self).symm) (h3 k), List.pairwise_cons.mpr ⟨fun k hk => h1 k (List.mem_cons_of_mem _ hk), h4⟩⟩)
  simp only [List.mem_cons] at hk ⊢
  exact hk.elim (fun e => .inr (.inl e)) fun e => e.elim .inl fun e => .inr (.inr e)
/-- the second of ours to the front, the third -/
theorem Hv.put1 {q : Addr × HO} (B : Hv X H (q :: (x, o) :: M) L Z G) (r : rigid u = false := by rfl) (hn : noT u = true := by rfl) : Hv X H (q :: (x, u) :: M) L Z (upd G x u) := (B.swap.put r hn).swap
theorem Hv.rot {q r t : Addr × HO} (B : Hv X H (q :: r :: t :: M) L Z G) : Hv X H (t :: q :: r :: M) L Z G := by
  obtain ⟨h1, h2⟩ := List.pairwise_cons.mp B.nd
  obtain ⟨h3, h4⟩ := List.pairwise_cons.mp h2
  obtain ⟨h5, h6⟩ := List.pairwise_cons.mp h4
  have e1 := h1 r List.mem_cons_self
  have e2 := h1 t (List.mem_cons_of_mem _ List.mem_cons_self)
  have e3 := h3 t List.mem_cons_self
  refine B.perm (fun k hk => ?_) (List.pairwise_cons.mpr ⟨fun k hk => ?_, List.pairwise_cons.mpr ⟨fun k hk => ?_, List.pairwise_cons.mpr ⟨fun k hk => h3 k (List.mem_cons_of_mem _ hk), h6⟩⟩⟩)
  · simp only [List.mem_cons] at hk ⊢
    rcases hk with e | e | e | e
    · exact .inr (.inr (.inl e))
    · exact .inl e
    · exact .inr (.inl e)
    · exact .inr (.inr (.inr e))
  · rcases List.mem_cons.mp hk with e | hk
    · rw [e]; exact e2.symm
    · rcases List.mem_cons.mp hk with e | hk
      · rw [e]; exact e3.symm
      · exact h5 k hk
  · rcases List.mem_cons.mp hk with e | hk
    · rw [e]; exact e1
    · exact h1 k (List.mem_cons_of_mem _ (List.mem_cons_of_mem _ hk))
theorem Hv.drop {q : Addr × HO} (B : Hv X H (q :: M) L Z G) : Hv X H M L Z G := B.perm (fun k hk => List.mem_cons_of_mem _ hk) (List.pairwise_cons.mp B.nd).2
theorem Hv.drop1 {q r : Addr × HO} (B : Hv X H (q :: r :: M) L Z G) : Hv X H (q :: M) L Z G := B.swap.drop
/-- ours no more to change -/
theorem Hv.fix {q : Addr × HO} (B : Hv X H (q :: M) L Z G) : Hv X H M (q :: L) Z G := by
  obtain ⟨h1, h2⟩ := List.pairwise_cons.mp B.nd
  exact B.drop.add (B.m q List.mem_cons_self).1 fun k hk => (h1 k hk).symm
theorem Hv.ne_m (B : Hv X H M L Z G) (h : (x, o) ∈ M) (k : (y, u) ∈ L) : y ≠ x := fun e => B.ml _ h _ k e.symm
theorem Hv.ne_o (B : Hv noX H M L Z G) (h : (x, o) ∈ M) (k : H y = some u) : y ≠ x := fun e => by
  have := B.fr h
  rw [← e, k] at this
  cases this
theorem sub_nil {α : Type _} {L : List α} : ∀ q ∈ ([] : List α), q ∈ L := fun _ h => absurd h List.not_mem_nil
theorem sub_cons {α : Type _} {a : α} {L L' : List α} (h : a ∈ L) (k : ∀ q ∈ L', q ∈ L) : ∀ q ∈ a :: L', q ∈ L := fun q hq => (List.mem_cons.mp hq).elim (fun e => by rw [e]; exact h) (k q)
theorem Hv.sub {L' : List (Addr × HO)} {Z' : List (Hp → Prop)} (B : Hv X H M L Z G) (h : ∀ q ∈ L', q ∈ L) (k : ∀ q ∈ Z', q ∈ Z) : Hv X H M L' Z' G := ⟨B.old, B.nt, B.m, fun q hq => B.l q (h q hq), B.nd, fun q hq r hr => B.ml q hq r (h r hr), fun P hP => B.z P (k P hP)⟩
/-- the heap by a letter -/
@[elab_as_elim] theorem Hv.gen {motive : Hp → Prop} (B : Hv X H M L Z G) (k : ∀ G', Hv X H M L Z G' → motive G') : motive G := k G B
theorem Hv.weaken (B : Hv X H M L Z G) : Hv X H [] [] [] G := ⟨B.old, B.nt, fun _ h => absurd h List.not_mem_nil, fun _ h => absurd h List.not_mem_nil, List.Pairwise.nil, fun _ h => absurd h List.not_mem_nil, fun _ h => absurd h List.not_mem_nil⟩
end
/-- tuple(xs) -/
abbrev rTupOf (K : PySem.W.Frag) : List V → Hp → VK → Prop := fun xs H Q => ∃ p ys, xs = [.ref p] ∧ ((SqL K H p ys ∧ ∀ l, H l = none → Q (.ref l) (upd H l (.tup ys))) ∨ (SqT K H p ys ∧ Q (.ref p) H))
theorem call_tupN {X : Cx} : CallR X (.type "tuple") (rTupOf X.K) := call_tuple_of
section
variable {K : PySem.W.Frag} {H : Hp} {p : Addr} {ys : List V} {Q : VK}
theorem rd_tupL (h : SqL K H p ys) (q : ∀ l, H l = none → Q (.ref l) (upd H l (.tup ys))) : rTupOf K [.ref p] H Q := ⟨p, ys, rfl, .inl ⟨h, q⟩⟩
theorem rd_tupT (h : SqT K H p ys) (q : Q (.ref p) H) : rTupOf K [.ref p] H Q := ⟨p, ys, rfl, .inr ⟨h, q⟩⟩
end
end L2

namespace L2
open PySem PySem.Spec PyProof.Rows
/-! ### comprehensions over a tuple of ints -/
section
variable {σ : St} {H : Hp} {Q : VK} {K : PySem.W.Frag} {te : TE} {tt : TT}
theorem rd_lcIT {a : Addr} {ns : List Int} {g : TG} {vs : List Nat} (p : Int → Bool) (f : Int → V) (hS : SqT K H a (ns.map V.int))
    (hs : ∀ D l x r, H D = none → ns = l ++ x :: r → g (.int x) (wipe σ vs) (upd H D (.lst (resI p f l))) fun σ2 H2 => wipe σ2 vs = wipe σ vs ∧ tt σ2 H2 fun b H3 => if b = true then te σ2 H3 (LcPut H D (resI p f l) (resI p f (l ++ [x]))) else LcSkip H D (resI p f (l ++ [x])) H3)
    (q : ∀ D, H D = none → Q (.ref D) (upd H D (.lst ((ns.filter p).map f)))) : lcB (Itt K a) g tt te vs σ Q H := by
  intro D hD
  refine ⟨fun i m H' => m = ns.length - i ∧ i ≤ ns.length ∧ H' = upd H D (.lst (resI p f (ns.take i))), ⟨ns.length, by simp, Nat.zero_le _, rfl⟩, ?_⟩
  rintro i m H' ⟨rfl, hi, rfl⟩
  have hS' : SqT K (upd H D (.lst (resI p f (ns.take i)))) a (ns.map V.int) := (same_new hD).seqT hS
  by_cases hlt : i < ns.length
  · have hx : (ns.map V.int)[i]? = some (.int ns[i]) := by simp [hlt]
    have er : ns.take (i + 1) = ns.take i ++ [ns[i]] := by rw [List.take_add_one, List.getElem?_eq_getElem hlt]; rfl
    refine .inr ⟨⟨_, _, hS', hx⟩, fun H' => H' = upd H D (.lst (resI p f (ns.take (i + 1)))), fun H' p' => ⟨ns.length - (i + 1), by omega, rfl, hlt, p'⟩, fun x H' y => ?_⟩
    obtain ⟨e, y⟩ := y
    subst e
    have ex : x = .int ns[i] := Option.some.inj ((y _ hS').symm.trans hx)
    subst ex
    have z := hs D (ns.take i) ns[i] (ns.drop (i + 1)) hD (by rw [List.getElem_cons_drop, List.take_append_drop])
    rw [← er] at z
    exact z
  · have e : i = ns.length := by omega
    subst e
    rw [List.take_length]
    exact .inl ⟨⟨_, (same_new hD).seqT hS, by rw [List.length_map]; exact Nat.le_refl _⟩, q D hD⟩
theorem rd_inTs {x : Int} {ns : List Int} {p : Addr} (h : SqT K H p (ns.map V.int)) (q : Q (.bl (decide (x ∈ ns))) H) : rIn K false (.int x) (.ref p) H Q :=
  rd_inT h rfl flat_ints (by rw [inV_ints]; exact q)
theorem rd_ninTs {x : Int} {ns : List Int} {p : Addr} (h : SqT K H p (ns.map V.int)) (q : Q (.bl (!decide (x ∈ ns))) H) : rIn K true (.int x) (.ref p) H Q :=
  rd_ninT h rfl flat_ints (by rw [inV_ints]; exact q)
theorem rd_extend {l b : Addr} {xs zs : List V} (h : H l = some (.lst xs)) (k : H b = some (.lst zs)) (z : xs.length + zs.length ≤ sizeLine) (q : Q .non (upd H l (.lst (xs ++ zs)))) : rExtend (.ref l) [.ref b] H Q := ⟨l, b, xs, zs, rfl, rfl, h, k, z, q⟩
/-- sep.join(words) -/
abbrev rJoin (K : PySem.W.Frag) : V → List V → Hp → VK → Prop := fun x xs H Q => ∃ a p, ∃ ys : List Str, x = .str a ∧ xs = [.ref p] ∧ (SqL K H p (ys.map V.str) ∨ SqT K H p (ys.map V.str)) ∧ (ys.map (·.length)).sum + ys.length * a.length ≤ 16777216 ∧ Q (.str (Txt.join a ys)) H
theorem rd_join {a : Str} {p : Addr} {ys : List Str} (h : SqL K H p (ys.map V.str)) (z : (ys.map (·.length)).sum + ys.length * a.length ≤ 16777216) (q : Q (.str (Txt.join a ys)) H) : rJoin K (.str a) [.ref p] H Q := ⟨a, p, ys, rfl, rfl, .inl h, z, q⟩
instance st_m1 {r : V → List V → Hp → VK → Prop} {ta tb : TE} : Stp (tM1 r ta tb σ H Q) (ta σ H fun x H1 => (∃ a, x = .str a) ∧ tb σ H1 fun y H2 => r x [y] H2 Q) := ⟨fun h => h⟩
/-! ### ranges with a step -/
def rRng3 (S : It → Hp → Prop) : List V → Hp → Prop := fun vs H1 => ∃ (i j c : Int) (n : Nat), vs = [.int i, .int j, .int c] ∧ RgC i j c n ∧ S (Itc i c n) H1
instance st_iRng3 {ta : TA} {S : It → Hp → Prop} : Stp (iRng3 ta σ H S) (ta σ H (rRng3 S)) := ⟨fun h => h⟩
theorem rd_r3 {S : It → Hp → Prop} {i j c : Int} {n : Nat} (h : RgC i j c n) (q : S (Itc i c n) H) : rRng3 S [.int i, .int j, .int c] H := ⟨i, j, c, n, rfl, h, q⟩
theorem rd_lcC {lo c : Int} {n : Nat} {g : TG} {vs : List Nat} (p : Nat → Bool) (f : Nat → V)
    (hs : ∀ D i, H D = none → i < n → g (.int (lo + (i : Nat) * c)) (wipe σ vs) (upd H D (.lst (resR p f i))) fun σ2 H2 => wipe σ2 vs = wipe σ vs ∧ tt σ2 H2 fun b H3 => if b = true then te σ2 H3 (LcPut H D (resR p f i) (resR p f (i + 1))) else LcSkip H D (resR p f (i + 1)) H3)
    (q : ∀ D, H D = none → Q (.ref D) (upd H D (.lst (((List.range n).filter p).map f)))) : lcB (Itc lo c n) g tt te vs σ Q H := by
  intro D hD
  refine ⟨fun i m H' => m = n - i ∧ i ≤ n ∧ H' = upd H D (.lst (resR p f i)), ⟨n, by simp, Nat.zero_le _, rfl⟩, ?_⟩
  rintro i m H' ⟨rfl, hi, rfl⟩
  by_cases hlt : i < n
  · refine .inr ⟨hlt, fun H' => H' = upd H D (.lst (resR p f (i + 1))), fun H' p' => ⟨n - (i + 1), by omega, rfl, hlt, p'⟩, fun x H' y => ?_⟩
    obtain ⟨e, y⟩ := y
    subst e y
    exact hs D i hD hlt
  · have e : i = n := by omega
    subst e
    exact .inl ⟨Nat.le_refl _, q D hD⟩
end
end L2

namespace My
open PySem PySem.Spec PyProof.Rows L2
/-! one step of a reading, by its head -/
local macro_rules | `(tactic| wtm_at "r") => `(tactic| first
  | (with_reducible refine rd_var rfl ?_)
  | (with_reducible refine Stp.mp ?_)
  | (with_reducible first
    | refine rd_I ?_ ?_
    | refine rd_augC rfl ?_
    | refine rd_augG rfl ?_
    | refine rd_r1 ?_ ?_ ?_
    | refine rd_r2 ?_ ?_
    | refine rd_pure ?_ ?_
    | refine rd_pureT ?_ ?_
    | refine rd_back (by assumption) ?_
    | fail)
  | fail)
/-! branch -/
local macro_rules | `(tactic| wtm_at "i") => `(tactic| (with_reducible first
  | refine rd_ite (fun _ => ?_) (fun _ => ?_)
  | refine rd_iteN (fun _ => ?_) (fun _ => ?_)
  | refine rd_iteb (fun _ => ?_) (fun _ => ?_)))
/-! the view of the heap (PreS): membership -/
local macro_rules | `(tactic| wtm_at "mem") => `(tactic| first
  | (with_reducible exact List.mem_cons_self)
  | ((with_reducible refine List.mem_cons_of_mem _ ?_); wtm_at "mem")
  | fail)
local macro_rules | `(tactic| wtm_at "vsub") => `(tactic| first
  | (with_reducible exact sub_nil)
  | ((with_reducible refine sub_cons ?h1 ?h2); (case h1 => wtm_at "mem"); (case h2 => wtm_at "vsub"))
  | fail)
/-! where something stands in the heap; two places differ -/
local macro_rules | `(tactic| wtm_at "ne") => `(tactic| with_reducible first
  | assumption
  | exact Ne.symm (by assumption)
  | exact ne_of_none (by assumption) (by assumption)
  | exact Ne.symm (ne_of_none (by assumption) (by assumption))
  | fail)
local macro_rules | `(tactic| wtm_at "h") => `(tactic| first
  | with_reducible assumption
  | with_reducible exact upd_same
  | ((with_reducible rw [upd_upd]); wtm_at "h")
  | ((with_reducible refine upd_at ?h1 ?h2); (case h1 => wtm_at "h"); (case h2 => intro hh; first | with_reducible exact ne_of_none hh (by assumption) | wtm_at "ne" | fail))
  | (with_reducible exact Hv.mAt (by assumption) (by wtm_at "mem"))
  | (with_reducible exact Hv.lAt (by assumption) (by wtm_at "mem"))
  | (with_reducible exact Hv.oAt (by assumption) (by assumption))
  | (with_reducible exact Hv.oAtX (by assumption) (by assumption) (by wtm_at "ne"))
  | fail)
/-! what was tracked stands -/
local macro_rules | `(tactic| wtm_at "sm") => `(tactic| first
  | with_reducible assumption
  | (with_reducible exact Same.refl _)
  | ((with_reducible refine same_upd3 ?_ (by with_reducible assumption)); wtm_at "sm")
  | ((with_reducible refine same_upd2 ?_ (by with_reducible assumption)); wtm_at "sm")
  | (refine same_upd2 ?_ (by first | with_reducible assumption | (refine Same.free ?_ (by with_reducible assumption); wtm_at "sm") | fail); wtm_at "sm")
  | (refine Same.trans ?_ (by with_reducible assumption); wtm_at "sm")
  | (refine Same.trans (by with_reducible assumption) ?_; wtm_at "sm")
  | (with_reducible exact Hv.same (by assumption))
  | fail)
local macro_rules | `(tactic| wtm_at "q") => `(tactic| first
  | with_reducible assumption
  | ((with_reducible refine SqL.of ?h1); (case h1 => wtm_at "h"))
  | ((with_reducible refine SqT.of ?h1); (case h1 => wtm_at "h"))
  | ((with_reducible refine Same.seq ?_ (by assumption)); wtm_at "sm")
  | ((with_reducible refine Same.seqT ?_ (by assumption)); wtm_at "sm")
  | ((with_reducible refine Same.lst ?_ (by assumption)); wtm_at "sm")
  | assumption
  | fail)
/-! data, read off the heap -/
local macro_rules | `(tactic| wtm_at "dp") => `(tactic| first
  | with_reducible assumption
  | exact Dp.int _
  | exact Dp.bl _
  | exact Dp.str _
  | exact Dp.non
  | exact DpAll.nil
  | (with_reducible exact dpAll_ints _)
  | (with_reducible exact dpAll_bls _)
  | ((with_reducible refine DpAll.cons (d := ?d) (ds := ?ds) ?h1 ?h2); (case h1 => wtm_at "dp"); (case h2 => wtm_at "dp"))
  | ((with_reducible refine Dp.lst (xs := ?xs) (ds := ?ds) ?h1 ?h2); (case h1 => wtm_at "q"); (case h2 => wtm_at "dp"))
  | ((with_reducible refine Dp.tup (xs := ?xs) (ds := ?ds) ?h1 ?h2); (case h1 => wtm_at "q"); (case h2 => wtm_at "dp"))
  | ((with_reducible refine Dp.same ?_ (by assumption)); wtm_at "sm")
  | fail)
/-! no dict with tuple keys -/
local macro_rules | `(tactic| wtm_at "nt") => `(tactic| first
  | with_reducible assumption
  | ((with_reducible refine NoT.upd ?_ rfl); wtm_at "nt")
  | (with_reducible exact Hv.nt (by assumption))
  | fail)
/-! what is asked on the side -/
local macro_rules | `(tactic| wtm_at "s") => `(tactic| first
  | ((with_reducible show NoT _); wtm_at "nt")
  | ((with_reducible show (_ : Int) < _); omega)
  | ((with_reducible show CMulB _ _); assumption)
  | ((with_reducible show CMulB _ _); exact Or.inl (Or.inl ⟨by omega, by omega⟩))
  | ((with_reducible show CMulB _ _); exact Or.inl (Or.inr ⟨by omega, by omega⟩))
  | ((with_reducible show CMulB _ _); exact CMulB.wide ⟨by omega, by omega⟩ ⟨by omega, by omega⟩)
  | ((with_reducible show CDivB _ _); exact ⟨by omega, by omega⟩)
  | ((with_reducible refine rd_powN ?h1 ?h2 ?h3 ?_); (case h1 => rfl); (case h2 => decide); (case h3 => first | decide | omega))
  | ((with_reducible refine rd_setL (xs := ?xs) (j := ?j) ?h1 ?h2 ?_); (case h1 => wtm_at "h"); (case h2 => rfl))
  | ((with_reducible refine rd_ixL (xs := ?xs) (v := ?v) ?h1 ?h2 ?_); (case h1 => wtm_at "q"); (case h2 => rfl))
  | ((with_reducible refine rd_ixT (xs := ?xs) (v := ?v) ?h1 ?h2 ?_); (case h1 => wtm_at "q"); (case h2 => rfl))
  | ((with_reducible show -2 ^ 62 ≤ (_ : Int)); omega)
  | ((with_reducible show (_ : Int) ≤ _); omega)
  | ((with_reducible show (_ : Int) ≤ _ ∧ _); exact ⟨by omega, by omega, by omega, by omega⟩)
  | ((with_reducible refine rd_iL1 (xs := ?xs) ?h1 ?_); (case h1 => wtm_at "q"))
  | ((with_reducible refine rd_iT1 (xs := ?xs) ?h1 ?_); (case h1 => wtm_at "q"))
  | ((with_reducible refine rd_eqD (d := ?d) (e := ?e) ?h1 ?h2 ?h3 ?h4 ?_); (case h1 => wtm_at "dp"); (case h2 => wtm_at "dp"); (case h3 => rfl); (case h4 => rfl))
  | ((with_reducible refine rd_neD (d := ?d) (e := ?e) ?h1 ?h2 ?h3 ?h4 ?_); (case h1 => wtm_at "dp"); (case h2 => wtm_at "dp"); (case h3 => rfl); (case h4 => rfl))
  | ((with_reducible refine rd_xfb (fs := ?fs) (v := ?v) ?h1 ?h2 ?_); (case h1 => wtm_at "h"); (case h2 => rfl))
  | ((with_reducible refine rd_append (xs := ?xs) ?h1 ?h2 ?_); (case h1 => wtm_at "h"); (case h2 => first | assumption | exact Nat.le_of_ble_eq_true rfl | (refine Nat.lt_of_le_of_lt (m := 1000000) ?_ (by decide); omega)))
  | ((with_reducible refine rd_lenL (ys := ?ys) ?h1 ?_); (case h1 => wtm_at "q"))
  | ((with_reducible refine rd_lenT (ys := ?ys) ?h1 ?_); (case h1 => wtm_at "q"))
  | ((with_reducible refine rd_new ?h1 ?_); (case h1 => exact Nat.le_of_ble_eq_true rfl); intro p hp)
  | ((with_reducible refine rd_tyL (xs := ?xs) ?h1 ?_); (case h1 => wtm_at "h"))
  | ((with_reducible refine rd_gtup (xs := ?xs) ?h1 ?h2 ?_); (case h1 => wtm_at "q"); (case h2 => rfl))
  | ((with_reducible refine rd_unl (xs := ?xs) ?h1 ?h2 ?_); (case h1 => wtm_at "q"); (case h2 => rfl))
  | ((with_reducible refine rd_slL (xs := ?xs) ?h1 ?_); (case h1 => wtm_at "q"); intro p hp)
  | ((with_reducible refine rd_cat (xs := ?xs) (zs := ?zs) ?h1 ?h2 ?h3 ?_); (case h1 => wtm_at "h"); (case h2 => wtm_at "h"); (case h3 => first | assumption | exact Nat.le_of_ble_eq_true rfl); intro p hp)
  | ((with_reducible refine rd_isiL (xs := ?xs) ?h1 ?_); (case h1 => wtm_at "h"))
  | ((with_reducible refine rd_isiT (xs := ?xs) ?h1 ?_); (case h1 => wtm_at "h"))
  | ((with_reducible refine rd_mk1 ?h1 ?h2 ?_); (case h1 => rfl); (case h2 => decide)))
local macro_rules | `(tactic| wtm_at "s") => `(tactic| first
  | ((with_reducible refine rd_neF ?h1 ?_); (case h1 => first | with_reducible rfl | assumption | fail))
  | ((with_reducible refine rd_eqT ?h1 ?_); (case h1 => first | with_reducible rfl | assumption | fail))
  | ((with_reducible refine rd_neT ?h1 ?_); (case h1 => first | assumption | exact non_int | exact non_ref | exact Bool.false_ne_true | exact Bool.false_ne_true.symm | fail))
  | ((with_reducible refine rd_eqF ?h1 ?_); (case h1 => first | assumption | exact non_int | exact non_ref | exact Bool.false_ne_true | exact Bool.false_ne_true.symm | fail))
  | fail)
local macro_rules | `(tactic| wtm_at "bd") => `(tactic| first
  | with_reducible assumption
  | exact Bd.mono (by with_reducible assumption) (by decide)
  | exact Bd.lit (by decide) (by decide)
  | ((with_reducible refine Bd.mulN ?_ ?_) <;> wtm_at "bd")
  | ((with_reducible refine Bd.addN ?h1 ?h2 ?h3); (case h1 => wtm_at "bd"); (case h2 => wtm_at "bd"); (case h3 => decide))
  | ((with_reducible refine Bd.subN ?h1 ?h2 ?h3); (case h1 => wtm_at "bd"); (case h2 => wtm_at "bd"); (case h3 => decide))
  | ((with_reducible refine Bd.neg ?h1); (case h1 => wtm_at "bd"))
  | fail)
local macro_rules | `(tactic| wtm_at "s") => `(tactic| first
  | ((with_reducible refine rd_fld1 (dx := ?dx) (fs := ?fs) (v := ?v) ?h1 ?h2 ?_); (case h1 => wtm_at "h"); (case h2 => rfl))
  | ((with_reducible refine rd_meth1 (dx := ?dx) (fs := ?fs) ?h1 ?h2 ?_); (case h1 => wtm_at "h"); (case h2 => rfl))
  | ((with_reducible refine rd_sfld1 (dx := ?dx) (fs := ?fs) ?h1 ?h2 ?_); (case h1 => wtm_at "h"); (case h2 => exact Nat.le_of_ble_eq_true rfl))
  | ((with_reducible refine rd_fmtI ?h1 ?_); (case h1 => exact Nat.lt_trans (txI_len (n := 1000) (by wtm_at "bd") (Nat.le_refl _)).2 (by decide)))
  | ((with_reducible refine rd_strI ?h1 ?_); (case h1 => exact Nat.lt_trans (txI_len (n := 1000) (by wtm_at "bd") (Nat.le_refl _)).2 (by decide)))
  | ((with_reducible refine rd_eqInts (ns := ?ns) (ms := ?ms) ?h1 ?h2 ?_); (case h1 => wtm_at "q"); (case h2 => wtm_at "q"))
  | ((with_reducible refine rd_neInts (ns := ?ns) (ms := ?ms) ?h1 ?h2 ?_); (case h1 => wtm_at "q"); (case h2 => wtm_at "q"))
  | ((with_reducible refine rd_listOfL (ys := ?ys) ?h1 ?_); (case h1 => wtm_at "q"); intro l hl)
  | ((with_reducible refine rd_revV (xs := ?xs) ?h1 ?_); (case h1 => wtm_at "q"); intro p hp)
  | ((with_reducible refine rd_iRev1 (xs := ?xs) ?h1 ?_); (case h1 => wtm_at "q"))
  | ((with_reducible refine rd_callO2 (dx := ?dx) (fs := ?fs) ?h1 ?_); (case h1 => wtm_at "h"))
  | ((with_reducible show CMulB _ _); refine CMulB.bd ?_ ?_ <;> wtm_at "bd")
  | fail)
local macro_rules | `(tactic| wtm_at "s") => `(tactic| first
  | ((with_reducible refine rd_dinF (ks := ?ks) ?h1 ?_); (case h1 => wtm_at "h"))
  | ((with_reducible refine rd_dnotinF (ks := ?ks) ?h1 ?_); (case h1 => wtm_at "h"))
  | ((with_reducible refine rd_listF (ks := ?ks) ?h1 ?_); (case h1 => wtm_at "h"); intro l hl)
  | ((with_reducible refine rd_sortedI (ns := ?ns) ?h1 ?_); (case h1 => wtm_at "q"))
  | fail)
local macro_rules | `(tactic| wtm_at "tp") => `(tactic| first
  | ((with_reducible refine rd_tupL (ys := ?ys) ?h1 ?_); (case h1 => wtm_at "q"); intro l hl)
  | ((with_reducible refine rd_tupT (ys := ?ys) ?h1 ?_); (case h1 => wtm_at "q"))
  | fail)
/-! a test that omega answers -/
local macro_rules | `(tactic| wtm_at "o") => `(tactic| first
  | ((with_reducible refine rd_neF ?h1 ?_); (case h1 => omega))
  | ((with_reducible refine rd_eqT ?h1 ?_); (case h1 => omega))
  | ((with_reducible refine rd_neT ?h1 ?_); (case h1 => omega))
  | ((with_reducible refine rd_eqF ?h1 ?_); (case h1 => omega))
  | fail)
/-! steps while there is one way -/
local macro_rules | `(tactic| wtm_at "rs") => `(tactic| repeat' (first | wtm_at "r" | wtm_at "s" | fail))
/-! all ways -/
local macro_rules | `(tactic| wtm_at "ra") => `(tactic| repeat' (first | wtm_at "r" | wtm_at "s" | wtm_at "i" | fail))
local macro_rules | `(tactic| wtm_at "ro") => `(tactic| repeat' (first | wtm_at "r" | wtm_at "s" | wtm_at "o" | fail))
local macro_rules | `(tactic| wtm_at "rao") => `(tactic| repeat' (first | wtm_at "r" | wtm_at "s" | wtm_at "o" | wtm_at "i" | fail))

/-! ## mathematics -/
/-! part m_prime -/
namespace QR
def Pm (p : Int) : Prop := 2 ≤ p ∧ ∀ d : Int, 2 ≤ d → d < p → ¬ d ∣ p
theorem split_le {n d e : Int} (h2 : 2 ≤ d) (hdn : d < n) (he : n = d * e) : (d * d ≤ n ∨ e * e ≤ n) ∧ 2 ≤ e := by
  have e0 : 2 ≤ e := by
    rcases Int.lt_or_le e 2 with z | z
    · exfalso
      have : d * e ≤ d * 1 := Int.mul_le_mul_of_nonneg_left (by omega) (by omega)
      omega
    · exact z
  refine ⟨?_, e0⟩
  rcases Int.le_total d e with z | z
  · left
    have : d * d ≤ d * e := Int.mul_le_mul_of_nonneg_left z (by omega)
    omega
  · right
    have : e * e ≤ d * e := Int.mul_le_mul_of_nonneg_right z (by omega)
    omega
theorem pm_of_trial {n k : Int} (h2 : 2 ≤ n) (hk0 : 0 ≤ k) (hk : n < k * k) (h : ∀ d : Int, 2 ≤ d → d < k → ¬ d ∣ n) : Pm n := by
  refine ⟨h2, fun d hd hn hdv => ?_⟩
  obtain ⟨e, he⟩ := hdv
  have lt : ∀ x : Int, 0 ≤ x → x * x ≤ n → x < k := fun x hx hxx => by
    rcases Int.lt_or_le x k with z | z
    · exact z
    · exfalso
      have a : k * k ≤ x * k := Int.mul_le_mul_of_nonneg_right z hk0
      have b : x * k ≤ x * x := Int.mul_le_mul_of_nonneg_left z hx
      omega
  obtain ⟨a, b⟩ := split_le hd hn he
  rcases a with a | a
  · exact h d hd (lt d (by omega) a) ⟨e, he⟩
  · exact h e b (lt e (by omega) a) ⟨d, by rw [he, Int.mul_comm]⟩
theorem pm_of_odd_trial {n k : Int} (h3 : 3 ≤ n) (ho : n % 2 = 1) (hk0 : 0 ≤ k) (hk : n < k * k) (h : ∀ d : Int, 3 ≤ d → d % 2 = 1 → d < k → ¬ d ∣ n) : Pm n := by
  refine pm_of_trial (by omega) hk0 hk fun d hd hdk hdv => ?_
  have : d % 2 = 1 := by
    obtain ⟨e, he⟩ := hdv
    rcases Int.emod_two_eq d with z | z
    · exfalso
      rw [he, Int.mul_emod, z, Int.zero_mul] at ho
      simp at ho
    · exact z
  exact h d (by omega) this hdk hdv
theorem not_pm {n k : Int} (h2 : 2 ≤ k) (hk : k * k ≤ n) (hd : n % k = 0) : ¬ Pm n := fun hp => by
  have : k < k * k := by
    have : k * 2 ≤ k * k := Int.mul_le_mul_of_nonneg_left h2 (by omega)
    omega
  exact hp.2 k h2 (by omega) (Int.dvd_of_emod_eq_zero hd)
theorem no_dvd_step {n k : Int} (h : ∀ d : Int, 2 ≤ d → d < k → ¬ d ∣ n) (hd : n % k ≠ 0) : ∀ d : Int, 2 ≤ d → d < k + 1 → ¬ d ∣ n := fun d h2 hk z => by
  by_cases e : d = k
  · rw [e] at z
    exact hd (Int.emod_eq_zero_of_dvd z)
  · exact h d h2 (by omega) z
theorem no_dvd_step2 {n k : Int} (hk : k % 2 = 1) (h : ∀ d : Int, 3 ≤ d → d % 2 = 1 → d < k → ¬ d ∣ n) (hd : n % k ≠ 0) : ∀ d : Int, 3 ≤ d → d % 2 = 1 → d < k + 2 → ¬ d ∣ n := fun d h2 ho hk z => by
  by_cases e : d = k
  · rw [e] at z
    exact hd (Int.emod_eq_zero_of_dvd z)
  · exact h d h2 ho (by omega) z
theorem sq_bound {k n : Int} (h0 : 0 ≤ k) (hk : k * k ≤ n) (hn : n < 2 ^ 120) : k < 2 ^ 60 := by
  rcases Int.lt_or_le k (2 ^ 60) with z | z
  · exact z
  · exfalso
    have a : (2 : Int) ^ 60 * 2 ^ 60 ≤ k * 2 ^ 60 := Int.mul_le_mul_of_nonneg_right z (by decide)
    have b : k * 2 ^ 60 ≤ k * k := Int.mul_le_mul_of_nonneg_left z h0
    have c : (2 : Int) ^ 60 * 2 ^ 60 = 2 ^ 120 := by decide
    omega
theorem le_sq {k : Int} (h : 1 ≤ k) : k ≤ k * k := by
  have : k * 1 ≤ k * k := Int.mul_le_mul_of_nonneg_left h (by omega)
  omega
/-- an odd prime -/
def OP (n : Int) : Prop := Pm n ∧ n % 2 = 1
theorem OP.three {n : Int} (h : OP n) : 3 ≤ n := by
  have := h.1.1
  have := h.2
  omega
theorem pm_two : Pm 2 := ⟨by omega, fun d h1 h2 => by omega⟩
theorem pm_odd {n : Int} (h : Pm n) (h3 : 3 ≤ n) : n % 2 = 1 := by
  rcases Int.emod_two_eq n with z | z
  · exact absurd (Int.dvd_of_emod_eq_zero z) (h.2 2 (by omega) (by omega))
  · exact z
/-- a prime, by looking at all divisors up to a side -/
theorem op_by {n : Nat} (k : Nat) (h3 : 3 ≤ n) (ho : n % 2 = 1) (hk : n < k * k) (h : (List.range k).all (fun d => d < 2 || n % d != 0) = true) : OP n := by
  refine ⟨pm_of_trial (k := k) (by omega) (by omega) (by exact_mod_cast hk) fun d h2 hd hv => ?_, by omega⟩
  have := List.all_eq_true.mp h d.toNat (List.mem_range.mpr (by omega))
  have hz : n % d.toNat = 0 := by
    have e := Int.emod_eq_zero_of_dvd hv
    rw [show d = ((d.toNat : Nat) : Int) by omega, ← Int.natCast_emod] at e
    exact_mod_cast e
  have h2' : ¬ d.toNat < 2 := by omega
  simp [hz, h2'] at this
open Classical in
noncomputable instance decPm (n : Int) : Decidable (Pm n) := Classical.propDecidable _
noncomputable instance decOP (n : Int) : Decidable (OP n) := instDecidableAnd
end QR
/-! part m_pool -/
/-- a pool of draws, at most j of them made -/
def PoolAt (H : Hp) (p : Addr) (j : Int) : Prop := ∃ c k b, H p = some (.lst [.int c, .int k, .bl b]) ∧ 0 ≤ k ∧ k ≤ j
theorem PoolAt.new {H : Hp} {p : Addr} {n : Int} {b : Bool} : PoolAt (upd H p (.lst [.int n, .int 0, .bl b])) p 0 := ⟨_, _, _, upd_same, by omega, by omega⟩
/-! part m_rows -/
/-- the list that a list of tuples holds -/
def RowsAt (H : Hp) : List Addr → List (List V) → Prop
  | [], [] => True
  | t :: ts, l :: ls => H t = some (.tup l) ∧ RowsAt H ts ls
  | _, _ => False
theorem RowsAt.mono {H H' : Hp} (s : Same H H') : ∀ {ts : List Addr} {ls : List (List V)}, RowsAt H ts ls → RowsAt H' ts ls
  | [], [], _ => trivial
  | _ :: _, _ :: _, h => ⟨s _ _ h.1, RowsAt.mono s h.2⟩
  | [], _ :: _, h => h.elim
  | _ :: _, [], h => h.elim
theorem RowsAt.len {H : Hp} : ∀ {ts : List Addr} {ls : List (List V)}, RowsAt H ts ls → ts.length = ls.length
  | [], [], _ => rfl
  | _ :: _, _ :: _, h => by rw [List.length_cons, List.length_cons, RowsAt.len h.2]
  | [], _ :: _, h => h.elim
  | _ :: _, [], h => h.elim
theorem RowsAt.snoc {H : Hp} {t : Addr} {l : List V} (ht : H t = some (.tup l)) : ∀ {ts : List Addr} {ls : List (List V)}, RowsAt H ts ls → RowsAt H (ts ++ [t]) (ls ++ [l])
  | [], [], _ => ⟨ht, trivial⟩
  | _ :: _, _ :: _, h => ⟨h.1, RowsAt.snoc ht h.2⟩
  | [], _ :: _, h => h.elim
  | _ :: _, [], h => h.elim
theorem RowsAt.other {H : Hp} {p : Addr} {xs : List V} {o : HO} (hp : H p = some (.lst xs)) : ∀ {ts : List Addr} {ls : List (List V)}, RowsAt H ts ls → RowsAt (upd H p o) ts ls
  | [], [], _ => trivial
  | t :: _, _ :: _, h => ⟨by
      rw [upd_ne (ne_of h.1 hp (by intro z; cases z))]
      exact h.1, RowsAt.other hp h.2⟩
  | [], _ :: _, h => h.elim
  | _ :: _, [], h => h.elim
theorem RowsAt.at {H : Hp} : ∀ {ts : List Addr} {ls : List (List V)} {i : Nat} {v : V}, RowsAt H ts ls → (ts.map V.ref)[i]? = some v → ∃ (t : Addr) (l : List V), v = .ref t ∧ H t = some (.tup l) ∧ ls[i]? = some l
  | t :: ts, l :: ls, 0, v, h, e => ⟨t, l, (Option.some.inj e).symm, h.1, rfl⟩
  | t :: ts, l :: ls, i + 1, v, h, e => RowsAt.at h.2 (i := i) e
  | [], _, _, _, _, e => by cases e
  | _ :: _, [], _, _, h, _ => h.elim
theorem RowsAt.rig {H : Hp} {ts : List Addr} {ls : List (List V)} (h : RowsAt H ts ls) : Rig (fun G => RowsAt G ts ls) H := fun G k => by
  induction ts generalizing ls with
  | nil => cases ls with
    | nil => trivial
    | cons l ls => exact h.elim
  | cons t ts ih => cases ls with
    | nil => exact h.elim
    | cons l ls => exact ⟨k _ _ rfl h.1, ih h.2⟩
/-! part m_but -/
theorem ix_in {ns : List Int} {i : Int} (h0 : 0 ≤ i) (h1 : i < ns.length) : ∃ z ∈ ns, atI (ns.map V.int) i = some (.int z) := by
  obtain ⟨n, rfl⟩ : ∃ n : Nat, i = n := ⟨i.toNat, by omega⟩
  have hn : n < ns.length := by omega
  refine ⟨ns[n], List.getElem_mem hn, atI_nat ?_⟩
  rw [List.getElem?_map, List.getElem?_eq_getElem hn]
  rfl
/-- a loop over a list or tuple that a name holds -/
theorem rd_forS {K : PySem.W.Frag} {σ : L2.St} {H : Hp} {i : Nat} {a : Addr} {xs : List V} {g : TG} {t : TS} {nx : L2.St → Hp → Prop} {rt : VK} (hv : σ[i]? = some (some (.ref a))) (hS : SqL K H a xs ∨ SqT K H a xs) (Pv : Nat → L2.St → Prop) (h0 : Pv 0 σ)
    (hs : ∀ i x σ, xs[i]? = some x → Pv i σ → g x σ H fun σ2 H2 => t ⟨fun σ' H' => H = H' ∧ Pv (i + 1) σ', rt, nx, fun σ' H' => H = H' ∧ Pv (i + 1) σ'⟩ σ2 H2) (hd : ∀ σ, Pv xs.length σ → nx σ H) :
    iAlt (iList K (tVar i)) (iTup K (tVar i)) σ H fun J H1 => fBody J g t nx rt σ H1 :=
  hS.elim (fun h => .inl (rd_var hv ⟨a, rfl, ⟨_, h⟩, rd_forLs Pv h h0 hs hd⟩)) fun h => .inr (rd_var hv ⟨a, rfl, ⟨_, h⟩, rd_forTs Pv h h0 hs hd⟩)
/-- {x: True for x in xs}, xs a list or tuple of ints that a name holds -/
theorem rd_dcS {K : PySem.W.Frag} {σ : L2.St} {H : Hp} {Q : VK} {tk tv : TE} {i : Nat} {a : Addr} {ns : List Int} {g : TG} {vs : List Nat} (hv : σ[i]? = some (some (.ref a))) (hS : SqL K H a (ns.map V.int) ∨ SqT K H a (ns.map V.int))
    (hs : ∀ D l x r, H D = none → ns = l ++ x :: r → g (.int x) (wipe σ vs) (upd H D (DFl (ofL l))) fun σ2 H2 => wipe σ2 vs = wipe σ vs ∧ tk σ2 H2 fun y H4 => tv σ2 H4 fun z H5 => DcPut H D (l ++ [x]) y z H5)
    (q : ∀ D, H D = none → Q (.ref D) (upd H D (DFl (ofL ns)))) : iAlt (iList K (tVar i)) (iTup K (tVar i)) σ H fun J H1 => dcB J g tYes tk tv vs σ Q H1 :=
  hS.elim (fun h => .inl (rd_var hv ⟨a, rfl, ⟨_, h⟩, rd_dcLF h hs q⟩)) fun h => .inr (rd_var hv ⟨a, rfl, ⟨_, h⟩, rd_dcTF h hs q⟩)
/-! part m_rowv -/
/-! a list that is changed place by place -/
def rowV (n : Nat) (f : Nat → Int) : List V := (List.range n).map fun i => V.int (f i)
theorem rowV_len {n : Nat} {f : Nat → Int} : (rowV n f).length = n := by simp [rowV]
theorem rowV_at {n j : Nat} {f : Nat → Int} (h : j < n) : atI (rowV n f) ((j : Nat) : Int) = some (.int (f j)) := atI_nat (by
  unfold rowV
  rw [List.getElem?_map, List.getElem?_range h]
  rfl)
theorem rowV_ix {n j : Nat} {f : Nat → Int} (h : j < n) : ixN (rowV n f).length ((j : Nat) : Int) = some j := by
  unfold ixN
  rw [rowV_len, if_pos (by omega), if_pos (by omega)]
  simp
theorem rowV_set {n j : Nat} {f g : Nat → Int} {v : Int} (h : j < n) (e : g j = v) (o : ∀ i, i < n → i ≠ j → g i = f i) : (rowV n f).set j (.int v) = rowV n g := by
  refine List.ext_getElem? fun i => ?_
  unfold rowV
  rw [List.getElem?_set, List.getElem?_map, List.getElem?_map, List.length_map, List.length_range]
  by_cases hi : i < n
  · rw [List.getElem?_range hi]
    by_cases c : j = i
    · subst c
      rw [if_pos rfl, if_pos hi]
      simp [e]
    · rw [if_neg c]
      simp [o i hi fun z => c z.symm]
  · have : (List.range n)[i]? = none := by simp; omega
    rw [this]
    by_cases c : j = i
    · subst c
      simp [hi]
    · simp [c]
theorem rowV_congr {n : Nat} {f g : Nat → Int} (h : ∀ i, i < n → f i = g i) : rowV n f = rowV n g := by
  unfold rowV
  exact List.map_congr_left fun i hi => by rw [h i (List.mem_range.mp hi)]
theorem rowV_rep {n : Nat} : List.replicate n (V.int 0) = rowV n fun _ => 0 := by
  refine List.ext_getElem? fun i => ?_
  unfold rowV
  rw [List.getElem?_map, List.getElem?_replicate]
  by_cases hi : i < n
  · rw [if_pos hi, List.getElem?_range hi]
    rfl
  · rw [if_neg hi]
    have : (List.range n)[i]? = none := by simp; omega
    rw [this]
    rfl
theorem rowV_ints {n : Nat} {f : Nat → Int} : rowV n f = ((List.range n).map f).map V.int := by
  unfold rowV
  rw [List.map_map]
  rfl
/-! part m_signs -/
def factorOf (rule : Str) (n m : Int) : Int :=
  if rule = "two" ∧ (m % 8 = 3 ∨ m % 8 = 5) then -1
  else if rule = "minus" ∧ m % 4 = 3 then -1
  else if rule = "turn" ∧ n % 4 = 3 ∧ m % 4 = 3 then -1
  else 1
theorem factorOf_pm (rule : Str) (n m : Int) : factorOf rule n m = 1 ∨ factorOf rule n m = -1 := by
  unfold factorOf
  split
  · exact .inr rfl
  · split
    · exact .inr rfl
    · split
      · exact .inr rfl
      · exact .inl rfl
def facT (m : Nat) : Int := if m % 8 = 3 ∨ m % 8 = 5 then -1 else 1
def facR (n m : Nat) : Int := if n % 4 = 3 ∧ m % 4 = 3 then -1 else 1
theorem str_ne1 : ¬ (("turn" : Str) = "two") := by decide +kernel
theorem str_ne2 : ¬ (("turn" : Str) = "minus") := by decide +kernel
theorem str_ne3 : ¬ (("two" : Str) = "minus") := by decide +kernel
theorem str_ne4 : ¬ (("two" : Str) = "turn") := by decide +kernel
theorem str_ne5 : ¬ (("rest" : Str) = "two") := by decide +kernel
theorem str_ne6 : ¬ (("rest" : Str) = "minus") := by decide +kernel
theorem str_ne7 : ¬ (("rest" : Str) = "turn") := by decide +kernel
theorem str_ne8 : ¬ (("two" : Str) = "rest") := by decide +kernel
theorem str_ne9 : ¬ (("turn" : Str) = "rest") := by decide +kernel
theorem str_ne10 : ¬ (("minus" : Str) = "rest") := by decide +kernel
theorem str_ne11 : ¬ (("minus" : Str) = "two") := by decide +kernel
theorem str_ne12 : ¬ (("minus" : Str) = "turn") := by decide +kernel
theorem factorOf_two (n m : Int) (hm : 0 < m) : factorOf "two" n m = facT m.toNat := by
  unfold factorOf facT
  have e : (m % 8 = 3 ∨ m % 8 = 5) ↔ (m.toNat % 8 = 3 ∨ m.toNat % 8 = 5) := by omega
  by_cases h : m % 8 = 3 ∨ m % 8 = 5
  · rw [if_pos ⟨rfl, h⟩, if_pos (e.mp h)]
  · rw [if_neg (fun z => h z.2), if_neg (fun z => str_ne3 z.1), if_neg (fun z => str_ne4 z.1), if_neg (fun z => h (e.mpr z))]
theorem factorOf_turn (n m : Int) (hn : 0 ≤ n) (hm : 0 < m) : factorOf "turn" n m = facR n.toNat m.toNat := by
  unfold factorOf facR
  have e : (n % 4 = 3 ∧ m % 4 = 3) ↔ (n.toNat % 4 = 3 ∧ m.toNat % 4 = 3) := by omega
  by_cases h : n % 4 = 3 ∧ m % 4 = 3
  · rw [if_neg (fun z => str_ne1 z.1), if_neg (fun z => str_ne2 z.1), if_pos ⟨rfl, h⟩, if_pos (e.mp h)]
  · rw [if_neg (fun z => str_ne1 z.1), if_neg (fun z => str_ne2 z.1), if_neg (fun z => h z.2), if_neg (fun z => h (e.mpr z))]
/-- the sign, by the program's own steps -/
def jac (n m : Nat) : Int :=
  if _h : n = 0 then (if m = 1 then 1 else 0)
  else if n % 2 = 0 then facT m * jac (n / 2) m
  else facR n m * jac (m % n) n
termination_by n
decreasing_by
  · omega
  · exact Nat.mod_lt _ (by omega)
theorem jac_zero (m : Nat) : jac 0 m = if m = 1 then 1 else 0 := by
  rw [jac]
  simp
theorem jac_two {n m : Nat} (h0 : n ≠ 0) (h : n % 2 = 0) : jac n m = facT m * jac (n / 2) m := by
  rw [jac, dif_neg h0, if_pos h]
theorem jac_turn {n m : Nat} (h : n % 2 = 1) : jac n m = facR n m * jac (m % n) n := by
  rw [jac, dif_neg (by omega), if_neg (by omega)]
def sgn (n m : Int) : Int := jac (n % m).toNat m.toNat
/-! part m_qr -/
namespace QR
def Pr : Nat → (Nat → Int) → Int
  | 0, _ => 1
  | n + 1, f => Pr n f * f n
theorem P_mul : ∀ (n : Nat) (f g : Nat → Int), Pr n (fun i => f i * g i) = Pr n f * Pr n g
  | 0, _, _ => rfl
  | n + 1, f, g => by
    simp only [Pr, P_mul n]
    grind
theorem P_congr : ∀ (n : Nat) {f g : Nat → Int}, (∀ i, i < n → f i = g i) → Pr n f = Pr n g
  | 0, _, _, _ => rfl
  | n + 1, f, g, h => by
    simp only [Pr]
    rw [P_congr n fun i hi => h i (by omega), h n (by omega)]
theorem P_one : ∀ n : Nat, Pr n (fun _ => 1) = 1
  | 0 => rfl
  | n + 1 => by
    simp only [Pr, P_one n]
    rfl
theorem P_neg : ∀ n : Nat, Pr n (fun _ => -1) = if n % 2 = 0 then 1 else -1
  | 0 => rfl
  | n + 1 => by
    simp only [Pr, P_neg n]
    split <;> split <;> omega
theorem P_swap (k : Nat) (f : Nat → Nat → Int) : ∀ h : Nat, Pr h (fun x => Pr k (fun y => f x y)) = Pr k (fun y => Pr h (fun x => f x y))
  | 0 => by simp only [Pr, P_one]
  | h + 1 => by
    simp only [Pr]
    rw [P_swap k f h, ← P_mul]
theorem P_zero : ∀ (n : Nat) (f : Nat → Int) (i : Nat), i < n → f i = 0 → Pr n f = 0
  | 0, _, _, h, _ => by omega
  | n + 1, f, i, h, e => by
    simp only [Pr]
    by_cases hi : i = n
    · rw [← hi, e, Int.mul_zero]
    · rw [P_zero n f i (by omega) e, Int.zero_mul]
theorem P_pm : ∀ (n : Nat) (f : Nat → Int), (∀ i, i < n → f i = 1 ∨ f i = -1) → Pr n f = 1 ∨ Pr n f = -1
  | 0, _, _ => .inl rfl
  | n + 1, f, h => by
    simp only [Pr]
    rcases P_pm n f (fun i hi => h i (by omega)) with a | a <;> rcases h n (by omega) with b | b <;> rw [a, b] <;> decide
def pl : List Int → Int
  | [] => 1
  | x :: l => x * pl l
theorem pl_append : ∀ l k : List Int, pl (l ++ k) = pl l * pl k
  | [], k => by simp [pl]
  | x :: l, k => by
    simp only [List.cons_append, pl, pl_append l k, Int.mul_assoc]
theorem pl_perm {l k : List Int} (h : l.Perm k) : pl l = pl k := by
  induction h with
  | nil => rfl
  | cons x _ ih => simp only [pl, ih]
  | swap x y l => simp only [pl]; grind
  | trans _ _ a b => exact a.trans b
theorem P_pl : ∀ (n : Nat) (f : Nat → Int), Pr n f = pl ((List.range n).map f)
  | 0, _ => rfl
  | n + 1, f => by
    rw [List.range_succ, List.map_append, pl_append, ← P_pl n f]
    simp [Pr, pl]
theorem perm_of : ∀ (l k : List Nat), l.Nodup → (∀ x, x ∈ l → x ∈ k) → k.length ≤ l.length → l.Perm k
  | [], k, _, _, h => by
    have : k = [] := List.eq_nil_of_length_eq_zero (by simpa using h)
    rw [this]
  | x :: l, k, hn, hs, hl => by
    have hx : x ∈ k := hs x (List.mem_cons_self ..)
    have hp := List.perm_cons_erase hx
    have hn' := List.nodup_cons.mp hn
    have hlen : (k.erase x).length + 1 = k.length := by
      rw [List.length_erase_of_mem hx]
      have := List.length_pos_of_mem hx
      omega
    refine List.Perm.trans (List.Perm.cons x (perm_of l (k.erase x) hn'.2 (fun y hy => ?_) ?_)) hp.symm
    · refine (List.mem_erase_of_ne ?_).mpr (hs y (List.mem_cons_of_mem _ hy))
      rintro rfl
      exact hn'.1 hy
    · simp only [List.length_cons] at hl
      omega
theorem nodup_map {f : Nat → Nat} : ∀ l : List Nat, l.Nodup → (∀ x, x ∈ l → ∀ y, y ∈ l → f x = f y → x = y) → (l.map f).Nodup
  | [], _, _ => List.nodup_nil
  | x :: l, hn, hi => by
    have hn' := List.nodup_cons.mp hn
    rw [List.map_cons, List.nodup_cons]
    refine ⟨fun hm => ?_, nodup_map l hn'.2 fun a ha b hb => hi a (List.mem_cons_of_mem _ ha) b (List.mem_cons_of_mem _ hb)⟩
    obtain ⟨y, hy, e⟩ := List.mem_map.mp hm
    have := hi y (List.mem_cons_of_mem _ hy) x (List.mem_cons_self ..) e
    rw [this] at hy
    exact hn'.1 hy
theorem perm_range {n : Nat} {π : Nat → Nat} (h1 : ∀ i, i < n → π i < n) (h2 : ∀ i, i < n → ∀ j, j < n → π i = π j → i = j) : ((List.range n).map π).Perm (List.range n) := by
  refine perm_of _ _ (nodup_map _ List.nodup_range fun x hx y hy => h2 x (List.mem_range.mp hx) y (List.mem_range.mp hy)) (fun x hx => ?_) (by simp)
  obtain ⟨i, hi, rfl⟩ := List.mem_map.mp hx
  exact List.mem_range.mpr (h1 i (List.mem_range.mp hi))
theorem P_perm {n : Nat} {π : Nat → Nat} (f : Nat → Int) (h1 : ∀ i, i < n → π i < n) (h2 : ∀ i, i < n → ∀ j, j < n → π i = π j → i = j) : Pr n (fun i => f (π i)) = Pr n f := by
  rw [P_pl, P_pl]
  have := pl_perm ((perm_range h1 h2).map f)
  rw [List.map_map] at this
  exact this
theorem P_flip (n : Nat) (f : Nat → Int) : Pr n (fun i => f (n - 1 - i)) = Pr n f :=
  P_perm (π := fun i => n - 1 - i) f (fun i hi => by show n - 1 - i < n; omega) (fun i hi j hj h => by
    have h : n - 1 - i = n - 1 - j := h
    omega)
/-- one mark in a row -/
theorem P_mark (c : Nat) (p : Prop) [Decidable p] : ∀ k : Nat, Pr k (fun y => if y = c ∧ p then -1 else 1) = if c < k ∧ p then -1 else 1
  | 0 => by simp [Pr]
  | k + 1 => by
    simp only [Pr]
    rw [P_mark c p k]
    by_cases hp : p
    · simp only [hp, and_true]
      by_cases h1 : c < k
      · rw [if_pos h1, if_neg (by omega), if_pos (by omega)]
        rfl
      · by_cases h2 : k = c
        · rw [if_neg h1, if_pos h2, if_pos (by omega)]
          rfl
        · rw [if_neg h1, if_neg h2, if_neg (by omega)]
          rfl
    · simp [hp]
/-- the sign of the absolutely least rest, to the modulus 2 h + 1 -/
def sg (h : Nat) (a : Int) : Int :=
  if a % (2 * h + 1) = 0 then 0 else if a % (2 * h + 1) ≤ h then 1 else -1
theorem rem_lo (h : Nat) (a : Int) : 0 ≤ a % (2 * h + 1) := Int.emod_nonneg a (by omega)
theorem rem_hi (h : Nat) (a : Int) : a % (2 * h + 1) ≤ 2 * h := by
  have := Int.emod_lt_of_pos a (show (0 : Int) < 2 * h + 1 by omega)
  omega
theorem dvd_rem (h : Nat) (a : Int) : (2 * (h : Int) + 1) ∣ a - a % (2 * h + 1) := ⟨a / (2 * h + 1), by
  have := Int.mul_ediv_add_emod a (2 * (h : Int) + 1)
  omega⟩
theorem sgv {h : Nat} {a r : Int} (hd : (2 * (h : Int) + 1) ∣ a - r) (h0 : 0 ≤ r) (h1 : r ≤ 2 * h) : sg h a = if r = 0 then 0 else if r ≤ h then 1 else -1 := by
  have e : a % (2 * h + 1) = r := by
    have := Int.emod_eq_emod_iff_emod_sub_eq_zero.mpr (Int.emod_eq_zero_of_dvd hd)
    rw [this, Int.emod_eq_of_lt h0 (by omega)]
  unfold sg
  rw [e]
theorem sg_congr {h : Nat} {a b : Int} (hd : (2 * (h : Int) + 1) ∣ a - b) : sg h a = sg h b := by
  unfold sg
  rw [Int.emod_eq_emod_iff_emod_sub_eq_zero.mpr (Int.emod_eq_zero_of_dvd hd)]
theorem sg_neg (h : Nat) (a : Int) : sg h (-a) = -sg h a := by
  have h0 := rem_lo h a
  have h1 := rem_hi h a
  obtain ⟨k, hk⟩ := dvd_rem h a
  rw [sgv (a := a) (dvd_rem h a) h0 h1]
  by_cases hz : a % (2 * h + 1) = 0
  · rw [sgv (r := 0) ⟨-k, by grind⟩ (by omega) (by omega), if_pos rfl, if_pos hz]
    rfl
  · rw [sgv (r := 2 * h + 1 - a % (2 * h + 1)) ⟨-k - 1, by grind⟩ (by omega) (by omega), if_neg (by omega), if_neg hz]
    split <;> split <;> omega
theorem sg_smul {h : Nat} {s : Int} (hs : s = 1 ∨ s = -1) (a : Int) : sg h (s * a) = s * sg h a := by
  rcases hs with rfl | rfl
  · rw [Int.one_mul, Int.one_mul]
  · rw [Int.neg_mul, Int.one_mul, sg_neg, Int.neg_mul, Int.one_mul]
theorem sg_pm {h : Nat} {a : Int} (ha : a % (2 * h + 1) ≠ 0) : sg h a = 1 ∨ sg h a = -1 := by
  unfold sg
  rw [if_neg ha]
  split
  · exact .inl rfl
  · exact .inr rfl
/-- the absolutely least rest, less one -/
def al (h : Nat) (a : Int) : Nat := if a % (2 * h + 1) ≤ h then (a % (2 * h + 1) - 1).toNat else (2 * h - a % (2 * h + 1)).toNat
theorem al_lt {h : Nat} {a : Int} (ha : a % (2 * h + 1) ≠ 0) : al h a < h := by
  have h0 := rem_lo h a
  have h1 := rem_hi h a
  unfold al
  split <;> omega
theorem al_dvd {h : Nat} {a : Int} (ha : a % (2 * h + 1) ≠ 0) : (2 * (h : Int) + 1) ∣ a - sg h a * (al h a + 1) := by
  have h0 := rem_lo h a
  have h1 := rem_hi h a
  obtain ⟨k, hk⟩ := dvd_rem h a
  unfold sg al
  rw [if_neg ha]
  by_cases hr : a % (2 * h + 1) ≤ h
  · rw [if_pos hr, if_pos hr, show (((a % (2 * h + 1) - 1).toNat : Int)) = a % (2 * h + 1) - 1 by omega]
    exact ⟨k, by omega⟩
  · rw [if_neg hr, if_neg hr, show (((2 * h - a % (2 * h + 1)).toNat : Int)) = 2 * h - a % (2 * h + 1) by omega]
    exact ⟨k + 1, by grind⟩
theorem small_dvd {m x : Int} (hd : m ∣ x) (h1 : -m < x) (h2 : x < m) : x = 0 := by
  rcases Int.lt_trichotomy x 0 with h | h | h
  · have := Int.le_of_dvd (show 0 < -x by omega) (Int.dvd_neg.mpr hd)
    omega
  · exact h
  · have := Int.le_of_dvd h hd
    omega
theorem cop_dvd {b m : Int} (hc : Int.gcd b m = 1) {x : Int} (hd : m ∣ b * x) : m ∣ x := by
  have h1 : m.natAbs ∣ b.natAbs * x.natAbs := by
    rw [← Int.natAbs_mul]
    exact Int.natAbs_dvd_natAbs.mpr hd
  have h2 : m.natAbs.Coprime b.natAbs := by
    unfold Nat.Coprime
    rw [Nat.gcd_comm]
    exact hc
  exact Int.natAbs_dvd_natAbs.mp (h2.dvd_of_dvd_mul_left h1)
def G (a : Int) (h : Nat) : Int := Pr h (fun i => sg h (a * ((i : Int) + 1)))
theorem cop_ne {b : Int} {h : Nat} (hc : Int.gcd b (2 * h + 1) = 1) {i : Nat} (hi : i < h) : (b * ((i : Int) + 1)) % (2 * h + 1) ≠ 0 := by
  intro z
  have := small_dvd (cop_dvd hc (Int.dvd_of_emod_eq_zero z)) (by omega) (by omega)
  omega
theorem G_congr {h : Nat} {a b : Int} (hd : (2 * (h : Int) + 1) ∣ a - b) : G a h = G b h := by
  refine P_congr h fun i hi => sg_congr ?_
  rw [← Int.sub_mul]
  exact Int.dvd_mul_of_dvd_left hd
theorem G_pm {h : Nat} {a : Int} (hc : Int.gcd a (2 * h + 1) = 1) : G a h = 1 ∨ G a h = -1 :=
  P_pm h _ fun i hi => sg_pm (cop_ne hc hi)
theorem G_zero {h : Nat} {a : Int} (hc : Int.gcd a (2 * h + 1) ≠ 1) : G a h = 0 := by
  obtain ⟨k, hk⟩ := Int.gcd_dvd_right a (2 * (h : Int) + 1)
  obtain ⟨l, hl⟩ := Int.gcd_dvd_left a (2 * (h : Int) + 1)
  generalize hg : Int.gcd a (2 * h + 1) = g at *
  have g0 : g ≠ 0 := by
    rintro rfl
    simp at hk
    omega
  have g2 : g ≠ 2 := by
    rintro rfl
    simp at hk
    omega
  have k0 : 0 < k := by
    rcases Int.lt_trichotomy k 0 with z | z | z
    · have := Int.mul_neg_of_pos_of_neg (show (0 : Int) < g by omega) z
      omega
    · rw [z] at hk
      omega
    · exact z
  have k1 : 3 * k ≤ g * k := Int.mul_le_mul_of_nonneg_right (by omega) (by omega)
  refine P_zero h _ (k - 1).toNat (by omega) ?_
  have e : (((k - 1).toNat : Int)) + 1 = k := by omega
  rw [e]
  unfold sg
  rw [if_pos]
  refine Int.emod_eq_zero_of_dvd ⟨l, ?_⟩
  rw [hk]
  conv => lhs; rw [hl]
  grind
theorem G_mul (a b : Int) (h : Nat) : G (a * b) h = G a h * G b h := by
  by_cases hc : Int.gcd b (2 * h + 1) = 1
  · have hp : Pr h (fun i => sg h (a * ((al h (b * ((i : Int) + 1)) : Int) + 1))) = Pr h (fun i => sg h (a * ((i : Int) + 1))) := by
      refine P_perm (π := fun i => al h (b * ((i : Int) + 1))) (fun i => sg h (a * ((i : Int) + 1))) (fun i hi => al_lt (cop_ne hc hi)) (fun i hi j hj e => ?_)
      have e : al h (b * ((i : Int) + 1)) = al h (b * ((j : Int) + 1)) := e
      obtain ⟨u, hu⟩ := al_dvd (cop_ne hc hi)
      obtain ⟨v, hv⟩ := al_dvd (cop_ne hc hj)
      rw [e] at hu
      rcases sg_pm (cop_ne hc hi) with s | s <;> rcases sg_pm (cop_ne hc hj) with t | t <;> rw [s] at hu <;> rw [t] at hv
      · have := small_dvd (cop_dvd (x := (i : Int) - j) hc ⟨u - v, by grind⟩) (by omega) (by omega)
        omega
      · have := small_dvd (cop_dvd (x := (i : Int) + j + 2) hc ⟨u + v, by grind⟩) (by omega) (by omega)
        omega
      · have := small_dvd (cop_dvd (x := (i : Int) + j + 2) hc ⟨u + v, by grind⟩) (by omega) (by omega)
        omega
      · have := small_dvd (cop_dvd (x := (i : Int) - j) hc ⟨u - v, by grind⟩) (by omega) (by omega)
        omega
    have e : G (a * b) h = Pr h (fun i => sg h (a * ((al h (b * ((i : Int) + 1)) : Int) + 1)) * sg h (b * ((i : Int) + 1))) := by
      refine P_congr h fun i hi => ?_
      rw [Int.mul_comm _ (sg h (b * ((i : Int) + 1))), ← sg_smul (sg_pm (cop_ne hc hi))]
      refine sg_congr ?_
      obtain ⟨u, hu⟩ := al_dvd (cop_ne hc hi)
      exact ⟨a * u, by grind⟩
    rw [e, P_mul, hp]
    rfl
  · rw [G_zero hc, Int.mul_zero, G_zero]
    intro z
    apply hc
    have h1 : Int.gcd b (2 * h + 1) ∣ Int.gcd (a * b) (2 * h + 1) := Int.dvd_gcd (Int.dvd_mul_of_dvd_right (Int.gcd_dvd_left ..)) (Int.gcd_dvd_right ..)
    rw [z] at h1
    exact Nat.dvd_one.mp h1

def tq (h k x y : Nat) : Int := (2 * k + 1) * ((x : Int) + 1) - (2 * h + 1) * ((y : Int) + 1)
def eqq (h k x y : Nat) : Int := if tq h k x y < 0 ∧ -(h : Int) ≤ tq h k x y then -1 else 1
theorem tq_comm (h k x y : Nat) : tq k h y x = -tq h k x y := by
  unfold tq
  omega
theorem q_in {h k x : Nat} (hx : x < h) (hr : (h : Int) < ((2 * k + 1) * ((x : Int) + 1)) % (2 * h + 1)) : ((2 * k + 1) * ((x : Int) + 1)) / (2 * h + 1) < k := by
  have e := Int.mul_ediv_add_emod ((2 * (k : Int) + 1) * ((x : Int) + 1)) (2 * (h : Int) + 1)
  generalize ((2 * (k : Int) + 1) * ((x : Int) + 1)) / (2 * (h : Int) + 1) = q at *
  have h1 : (2 * (k : Int) + 1) * ((x : Int) + 1) ≤ (2 * (k : Int) + 1) * h := Int.mul_le_mul_of_nonneg_left (by omega) (by omega)
  have h2 : (2 * (h : Int) + 1) * (q + 1) < (2 * (h : Int) + 1) * (k + 1) := by grind
  have := Int.lt_of_mul_lt_mul_left h2 (by omega)
  omega
theorem inner {h k x : Nat} (hc : Int.gcd (2 * k + 1) (2 * h + 1) = 1) (hx : x < h) : Pr k (fun y => eqq h k x y) = sg h ((2 * k + 1) * ((x : Int) + 1)) := by
  have hne := cop_ne hc hx
  have h0 := rem_lo h ((2 * k + 1) * ((x : Int) + 1))
  have h1 := rem_hi h ((2 * k + 1) * ((x : Int) + 1))
  have e := Int.mul_ediv_add_emod ((2 * (k : Int) + 1) * ((x : Int) + 1)) (2 * (h : Int) + 1)
  have q0 : 0 ≤ ((2 * (k : Int) + 1) * ((x : Int) + 1)) / (2 * (h : Int) + 1) := Int.ediv_nonneg (Int.mul_nonneg (by omega) (by omega)) (by omega)
  have qi := @q_in h k x hx
  unfold sg
  rw [if_neg hne]
  have hm : ∀ y, y < k → eqq h k x y = if y = (((2 * (k : Int) + 1) * ((x : Int) + 1)) / (2 * (h : Int) + 1)).toNat ∧ ¬ ((2 * (k : Int) + 1) * ((x : Int) + 1)) % (2 * h + 1) ≤ h then -1 else 1 := by
    intro y hy
    unfold eqq tq
    generalize ((2 * (k : Int) + 1) * ((x : Int) + 1)) / (2 * (h : Int) + 1) = q at *
    generalize ((2 * (k : Int) + 1) * ((x : Int) + 1)) % (2 * (h : Int) + 1) = r at *
    rw [← e]
    have hz : (2 * (h : Int) + 1) * q + r - (2 * (h : Int) + 1) * ((y : Int) + 1) = (2 * (h : Int) + 1) * (q - y - 1) + r := by grind
    rw [hz]
    congr 1
    refine propext ⟨fun ⟨a, b⟩ => ?_, fun ⟨a, b⟩ => ?_⟩
    · rcases Int.lt_trichotomy (q - y) 0 with z | z | z
      · have : (2 * (h : Int) + 1) * (q - y - 1) ≤ (2 * (h : Int) + 1) * (-2) := Int.mul_le_mul_of_nonneg_left (by omega) (by omega)
        omega
      · have z : q - y - 1 = -1 := by omega
        rw [z] at a b
        omega
      · have : 0 ≤ (2 * (h : Int) + 1) * (q - y - 1) := Int.mul_nonneg (by omega) (by omega)
        omega
    · have z : q - y - 1 = -1 := by omega
      rw [z]
      omega
  rw [P_congr k hm, P_mark]
  by_cases hr : ((2 * (k : Int) + 1) * ((x : Int) + 1)) % (2 * h + 1) ≤ h
  · rw [if_neg (fun z => z.2 hr), if_pos hr]
  · rw [if_pos ⟨by have := qi (by omega); omega, hr⟩, if_neg hr]
theorem tq_ne {h k x y : Nat} (hc : Int.gcd (2 * k + 1) (2 * h + 1) = 1) (hx : x < h) : tq h k x y ≠ 0 := by
  intro z
  apply cop_ne hc hx
  unfold tq at z
  exact Int.emod_eq_zero_of_dvd ⟨(y : Int) + 1, by omega⟩
theorem PP_pm (h k : Nat) (f : Nat → Nat → Int) (hf : ∀ x y, f x y = 1 ∨ f x y = -1) : Pr h (fun x => Pr k (fun y => f x y)) = 1 ∨ Pr h (fun x => Pr k (fun y => f x y)) = -1 :=
  P_pm h _ fun x _ => P_pm k _ fun y _ => hf x y
theorem PP_flip (h k : Nat) (f : Nat → Nat → Int) : Pr h (fun x => Pr k (fun y => f (h - 1 - x) (k - 1 - y))) = Pr h (fun x => Pr k (fun y => f x y)) := by
  rw [P_congr h fun x _ => P_flip k (fun y => f (h - 1 - x) y)]
  exact P_flip h (fun x => Pr k (fun y => f x y))
def bq (h k x y : Nat) : Int := if tq h k x y < -(h : Int) then -1 else 1
def cq (h k x y : Nat) : Int := if (k : Int) < tq h k x y then -1 else 1
theorem bc (h k : Nat) : Pr h (fun x => Pr k (fun y => bq h k x y)) = Pr h (fun x => Pr k (fun y => cq h k x y)) := by
  rw [← PP_flip h k (fun x y => cq h k x y)]
  refine P_congr h fun x hx => P_congr k fun y hy => ?_
  unfold bq cq
  have e : tq h k (h - 1 - x) (k - 1 - y) = k - h - tq h k x y := by
    unfold tq
    rw [show (((h - 1 - x : Nat) : Int)) = h - 1 - x by omega, show (((k - 1 - y : Nat) : Int)) = k - 1 - y by omega]
    grind
  rw [e]
  split <;> split <;> omega
theorem recip0 {h k : Nat} (hc : Int.gcd (2 * k + 1) (2 * h + 1) = 1) : G (2 * k + 1) h * G (2 * h + 1) k = if h % 2 = 1 ∧ k % 2 = 1 then -1 else 1 := by
  have e1 : G (2 * k + 1) h = Pr h (fun x => Pr k (fun y => eqq h k x y)) := P_congr h fun x hx => (inner hc hx).symm
  have e2 : G (2 * h + 1) k = Pr h (fun x => Pr k (fun y => eqq k h y x)) := by
    rw [P_swap]
    exact P_congr k fun y hy => (inner (by rw [Int.gcd_comm]; exact hc) hy).symm
  have e3 : Pr h (fun x => Pr k (fun y => eqq h k x y * eqq k h y x * (bq h k x y * cq h k x y))) = Pr h (fun _ => Pr k (fun _ => -1)) := by
    refine P_congr h fun x hx => P_congr k fun y hy => ?_
    have := tq_ne (y := y) hc hx
    unfold eqq bq cq
    rw [tq_comm h k x y]
    generalize tq h k x y = t at *
    split <;> split <;> split <;> split <;> omega
  have e4 : Pr h (fun x => Pr k (fun y => eqq h k x y * eqq k h y x * (bq h k x y * cq h k x y))) = Pr h (fun x => Pr k (fun y => eqq h k x y)) * Pr h (fun x => Pr k (fun y => eqq k h y x)) * (Pr h (fun x => Pr k (fun y => bq h k x y)) * Pr h (fun x => Pr k (fun y => cq h k x y))) := by
    simp only [P_mul]
  rw [bc, ← e1, ← e2, e3] at e4
  have hb : Pr h (fun x => Pr k (fun y => cq h k x y)) * Pr h (fun x => Pr k (fun y => cq h k x y)) = 1 := by
    rcases PP_pm h k (fun x y => cq h k x y) (fun x y => by unfold cq; split <;> omega) with z | z <;> rw [z] <;> rfl
  rw [hb, Int.mul_one] at e4
  rw [← e4]
  simp only [P_neg]
  split
  · rw [P_one, if_neg (by omega)]
  · rw [P_neg]
    split <;> split <;> omega
def RR (h k : Nat) : Int := if h % 2 = 1 ∧ k % 2 = 1 then -1 else 1
theorem recip (h k : Nat) : G (2 * k + 1) h = RR h k * G (2 * h + 1) k := by
  by_cases hc : Int.gcd (2 * k + 1) (2 * h + 1) = 1
  · have e := recip0 hc
    have h1 : Int.gcd (2 * h + 1) (2 * k + 1) = 1 := by rw [Int.gcd_comm]; exact hc
    unfold RR
    rw [← e, Int.mul_assoc]
    rcases G_pm h1 with z | z <;> rw [z] <;> simp
  · rw [G_zero hc, G_zero (a := 2 * h + 1) (h := k) (by rw [Int.gcd_comm]; exact hc), Int.mul_zero]
theorem P_cut (c : Nat) : ∀ n : Nat, Pr n (fun i => if i < c then 1 else -1) = if (n - c) % 2 = 0 then 1 else -1
  | 0 => by simp [Pr]
  | n + 1 => by
    simp only [Pr]
    rw [P_cut c n]
    split <;> split <;> split <;> omega
theorem G_neg1 (h : Nat) : G (-1) h = if h % 2 = 0 then 1 else -1 := by
  rw [← P_neg]
  refine P_congr h fun i hi => ?_
  rw [Int.neg_mul, Int.one_mul, sg_neg, sgv (r := (i : Int) + 1) ⟨0, by omega⟩ (by omega) (by omega), if_neg (by omega), if_pos (by omega)]
theorem G_two (h : Nat) : G 2 h = if (2 * h + 1) % 8 = 3 ∨ (2 * h + 1) % 8 = 5 then -1 else 1 := by
  have e : G 2 h = Pr h (fun i => if i < h / 2 then 1 else -1) := by
    refine P_congr h fun i hi => ?_
    rw [sgv (r := 2 * ((i : Int) + 1)) ⟨0, by omega⟩ (by omega) (by omega), if_neg (by omega)]
    split <;> split <;> omega
  rw [e, P_cut]
  split <;> split <;> omega
theorem G_one (h : Nat) : G 1 h = 1 := by
  refine Eq.trans (P_congr h fun i hi => ?_) (P_one h)
  rw [Int.one_mul, sgv (r := (i : Int) + 1) ⟨0, by omega⟩ (by omega) (by omega), if_neg (by omega), if_pos (by omega)]
theorem G_at0 (h : Nat) : G 0 h = if h = 0 then 1 else 0 := by
  by_cases hh : h = 0
  · rw [if_pos hh, hh]
    rfl
  · rw [if_neg hh]
    refine P_zero h _ 0 (by omega) ?_
    rw [Int.zero_mul]
    rfl
/-- an odd positive number of the same rest -/
theorem odd_rep (a : Int) (H : Nat) : ∃ k : Nat, (2 * (H : Int) + 1) ∣ a - (2 * (k : Int) + 1) := by
  have h0 := rem_lo H a
  obtain ⟨u, hu⟩ := dvd_rem H a
  by_cases he : a % (2 * H + 1) % 2 = 1
  · refine ⟨((a % (2 * H + 1) - 1) / 2).toNat, u, ?_⟩
    rw [show 2 * ((((a % (2 * H + 1) - 1) / 2).toNat : Int)) + 1 = a % (2 * H + 1) by omega]
    exact hu
  · refine ⟨((a % (2 * H + 1) + 2 * H) / 2).toNat, u - 1, ?_⟩
    rw [show 2 * ((((a % (2 * H + 1) + 2 * H) / 2).toNat : Int)) + 1 = a % (2 * H + 1) + (2 * H + 1) by omega]
    grind
theorem G_mod_mul (a : Int) {h h' H : Nat} (hH : (2 * (H : Int) + 1) = (2 * h + 1) * (2 * h' + 1)) : G a H = G a h * G a h' := by
  obtain ⟨k, u, hu⟩ := odd_rep a H
  rw [G_congr (h := H) ⟨u, hu⟩, G_congr (h := h) (a := a) (b := 2 * k + 1) ⟨(2 * h' + 1) * u, by rw [hu, hH, Int.mul_assoc]⟩, G_congr (h := h') (a := a) (b := 2 * k + 1) ⟨(2 * h + 1) * u, by rw [hu, hH]; grind⟩,
    recip, recip h k, recip h' k, hH, G_mul]
  have e : (H : Int) = 2 * (h * h') + h + h' := by grind
  have e' : H = 2 * (h * h') + h + h' := by exact_mod_cast e
  have er : RR H k = RR h k * RR h' k := by
    unfold RR
    generalize h * h' = z at *
    split <;> split <;> split <;> omega
  rw [er]
  grind
theorem G_eq_zero {a : Int} {h : Nat} : G a h = 0 ↔ Int.gcd a (2 * h + 1) ≠ 1 := by
  constructor
  · intro z hc
    rcases G_pm hc with e | e <;> rw [e] at z <;> cases z
  · exact G_zero
end QR
section
open QR
theorem jac_G : ∀ (n h : Nat), jac n (2 * h + 1) = G n h := by
  intro n
  induction n using Nat.strongRecOn with
  | ind n ih =>
    intro h
    by_cases h0 : n = 0
    · subst h0
      rw [jac_zero, show ((0 : Nat) : Int) = 0 from rfl, G_at0]
      split <;> split <;> omega
    · by_cases h2 : n % 2 = 0
      · rw [jac_two h0 h2, ih (n / 2) (by omega) h, show (n : Int) = 2 * ((n / 2 : Nat) : Int) by omega, G_mul, G_two]
        rfl
      · obtain ⟨k, rfl⟩ : ∃ k, n = 2 * k + 1 := ⟨n / 2, by omega⟩
        rw [jac_turn (by omega), ih ((2 * h + 1) % (2 * k + 1)) (Nat.mod_lt _ (by omega)) k]
        have e : G (((2 * k + 1 : Nat) : Int)) h = RR h k * G (2 * h + 1) k := by
          rw [← recip]
          rfl
        rw [e]
        have e2 : G (((2 * h + 1) % (2 * k + 1) : Nat) : Int) k = G (2 * h + 1) k := by
          refine G_congr ⟨-((2 * (h : Int) + 1) / (2 * k + 1)), ?_⟩
          have := Int.mul_ediv_add_emod (2 * (h : Int) + 1) (2 * k + 1)
          rw [Int.natCast_emod, show ((2 * h + 1 : Nat) : Int) = 2 * (h : Int) + 1 by omega, show ((2 * k + 1 : Nat) : Int) = 2 * (k : Int) + 1 by omega, Int.mul_neg]
          omega
        rw [e2]
        congr 1
        unfold facR RR
        split <;> split <;> omega
theorem sgn_G (n : Int) (h : Nat) : sgn n (2 * h + 1) = G n h := by
  unfold sgn
  rw [show (2 * (h : Int) + 1).toNat = 2 * h + 1 by omega, jac_G]
  have h0 := rem_lo h n
  rw [Int.toNat_of_nonneg h0]
  obtain ⟨u, hu⟩ := dvd_rem h n
  exact G_congr ⟨-u, by rw [Int.mul_neg, ← hu]; omega⟩
theorem odd_half {m : Int} (h1 : 1 ≤ m) (h2 : m % 2 = 1) : ∃ h : Nat, m = 2 * h + 1 := ⟨(m / 2).toNat, by omega⟩
end
section
open QR
variable {m : Int} (h1 : 1 ≤ m) (h2 : m % 2 = 1)
include h1 h2
theorem sgn_mul (a b : Int) : sgn (a * b) m = sgn a m * sgn b m := by
  obtain ⟨h, rfl⟩ := odd_half h1 h2
  rw [sgn_G, sgn_G, sgn_G, G_mul]
theorem sgn_mod_mul (a : Int) {t : Int} (h3 : 1 ≤ t) (h4 : t % 2 = 1) : sgn a (m * t) = sgn a m * sgn a t := by
  obtain ⟨h, rfl⟩ := odd_half h1 h2
  obtain ⟨k, rfl⟩ := odd_half h3 h4
  have e : (2 * (h : Int) + 1) * (2 * k + 1) = 2 * ((2 * (h * k) + h + k : Nat) : Int) + 1 := by
    push_cast
    grind
  rw [e, sgn_G, sgn_G, sgn_G, G_mod_mul a e.symm]
theorem sgn_congr {a b : Int} (hd : m ∣ a - b) : sgn a m = sgn b m := by
  obtain ⟨h, rfl⟩ := odd_half h1 h2
  rw [sgn_G, sgn_G, G_congr hd]
theorem sgn_neg1 : sgn (-1) m = 2 - m % 4 := by
  obtain ⟨h, rfl⟩ := odd_half h1 h2
  rw [sgn_G, G_neg1]
  split <;> omega
theorem sgn_two : sgn 2 m = if m % 8 = 3 ∨ m % 8 = 5 then -1 else 1 := by
  obtain ⟨h, rfl⟩ := odd_half h1 h2
  rw [sgn_G, G_two]
  split <;> split <;> omega
theorem sgn_turn {t : Int} (h3 : 1 ≤ t) (h4 : t % 2 = 1) : sgn t m = (if m % 4 = 3 ∧ t % 4 = 3 then -1 else 1) * sgn m t := by
  obtain ⟨h, rfl⟩ := odd_half h1 h2
  obtain ⟨k, rfl⟩ := odd_half h3 h4
  rw [sgn_G, sgn_G, recip]
  congr 1
  unfold RR
  split <;> split <;> omega
theorem sgn_zero {a : Int} : sgn a m = 0 ↔ Int.gcd a m ≠ 1 := by
  obtain ⟨h, rfl⟩ := odd_half h1 h2
  rw [sgn_G, G_eq_zero]
theorem sgn_pm {a : Int} (hc : Int.gcd a m = 1) : sgn a m = 1 ∨ sgn a m = -1 := by
  obtain ⟨h, rfl⟩ := odd_half h1 h2
  rw [sgn_G]
  exact G_pm hc
theorem sgn_sq (a : Int) : sgn a m * sgn a m = if Int.gcd a m = 1 then 1 else 0 := by
  by_cases hc : Int.gcd a m = 1
  · rw [if_pos hc]
    rcases sgn_pm h1 h2 hc with e | e <;> rw [e] <;> rfl
  · rw [if_neg hc, (sgn_zero h1 h2).mpr hc]
    rfl
end
/-! part m_euler -/
namespace QR
theorem al_inj {b : Int} {h : Nat} (hc : Int.gcd b (2 * h + 1) = 1) : ∀ i, i < h → ∀ j, j < h → al h (b * ((i : Int) + 1)) = al h (b * ((j : Int) + 1)) → i = j := by
  intro i hi j hj e
  obtain ⟨u, hu⟩ := al_dvd (cop_ne hc hi)
  obtain ⟨v, hv⟩ := al_dvd (cop_ne hc hj)
  rw [e] at hu
  rcases sg_pm (cop_ne hc hi) with s | s <;> rcases sg_pm (cop_ne hc hj) with t | t <;> rw [s] at hu <;> rw [t] at hv
  · have := small_dvd (cop_dvd (x := (i : Int) - j) hc ⟨u - v, by grind⟩) (by omega) (by omega)
    omega
  · have := small_dvd (cop_dvd (x := (i : Int) + j + 2) hc ⟨u + v, by grind⟩) (by omega) (by omega)
    omega
  · have := small_dvd (cop_dvd (x := (i : Int) + j + 2) hc ⟨u + v, by grind⟩) (by omega) (by omega)
    omega
  · have := small_dvd (cop_dvd (x := (i : Int) - j) hc ⟨u - v, by grind⟩) (by omega) (by omega)
    omega
theorem Pm.cop {p : Int} (hp : Pm p) {x : Int} (hx : ¬ p ∣ x) : Int.gcd x p = 1 := by
  have hd := Int.gcd_dvd_right x p
  have hl := Int.gcd_dvd_left x p
  have h2 := hp.1
  have hle := Int.le_of_dvd (by omega) hd
  generalize hg : Int.gcd x p = g at *
  by_cases h1 : (g : Int) = p
  · rw [h1] at hl
    exact absurd hl hx
  · by_cases h0 : g = 0
    · rw [h0] at hd
      have := Int.zero_dvd.mp hd
      omega
    · have := hp.2 g
      by_cases hz : g = 1
      · exact hz
      · exact absurd hd (this (by omega) (by omega))
theorem Pm.dvd_mul {p : Int} (hp : Pm p) {x y : Int} (h : p ∣ x * y) : p ∣ x ∨ p ∣ y := by
  by_cases hx : p ∣ x
  · exact .inl hx
  · exact .inr (cop_dvd (hp.cop hx) h)
theorem Pr_dvd {m : Int} : ∀ (n : Nat) (f g : Nat → Int), (∀ i, i < n → m ∣ f i - g i) → m ∣ Pr n f - Pr n g
  | 0, _, _, _ => ⟨0, by simp [Pr]⟩
  | n + 1, f, g, h => by
    obtain ⟨u, hu⟩ := Pr_dvd n f g fun i hi => h i (by omega)
    obtain ⟨v, hv⟩ := h n (by omega)
    exact ⟨u * f n + Pr n g * v, by simp only [Pr]; grind⟩
theorem Pr_cancel {m : Int} : ∀ (n : Nat) (f : Nat → Int) (x : Int), (∀ i, i < n → Int.gcd (f i) m = 1) → m ∣ Pr n f * x → m ∣ x
  | 0, _, x, _, h => by simpa [Pr] using h
  | n + 1, f, x, hc, h => by
    simp only [Pr] at h
    rw [Int.mul_assoc] at h
    exact cop_dvd (hc n (by omega)) (Pr_cancel n f _ (fun i hi => hc i (by omega)) h)
theorem Pr_const (a : Int) (f : Nat → Int) : ∀ n : Nat, Pr n (fun i => a * f i) = a ^ n * Pr n f
  | 0 => by simp [Pr]
  | n + 1 => by
    simp only [Pr]
    rw [Pr_const a f n, Int.pow_succ]
    grind
theorem Pr_first (f : Nat → Int) : ∀ n : Nat, Pr (n + 1) f = f 0 * Pr n (fun i => f (i + 1))
  | 0 => by simp [Pr]
  | n + 1 => by
    have := Pr_first f n
    simp only [Pr] at *
    rw [this]
    grind
theorem gauss {h : Nat} (hp : Pm (2 * h + 1)) {a : Int} (ha : ¬ (2 * (h : Int) + 1) ∣ a) : (2 * (h : Int) + 1) ∣ a ^ h - G a h := by
  have hc := hp.cop ha
  have h1 : (2 * (h : Int) + 1) ∣ Pr h (fun i => a * ((i : Int) + 1)) - Pr h (fun i => sg h (a * ((i : Int) + 1)) * ((al h (a * ((i : Int) + 1)) : Int) + 1)) :=
    Pr_dvd h _ _ fun i hi => al_dvd (cop_ne hc hi)
  have h2 : Pr h (fun i => (al h (a * ((i : Int) + 1)) : Int) + 1) = Pr h (fun i => (i : Int) + 1) :=
    P_perm (π := fun i => al h (a * ((i : Int) + 1))) (fun i => (i : Int) + 1) (fun i hi => al_lt (cop_ne hc hi)) (al_inj hc)
  rw [Pr_const, P_mul, h2] at h1
  refine Pr_cancel h (fun i => (i : Int) + 1) _ (fun i hi => hp.cop fun z => ?_) ?_
  · have := Int.le_of_dvd (by omega) z
    omega
  · obtain ⟨u, hu⟩ := h1
    exact ⟨u, by unfold G; grind⟩
theorem solve {h : Nat} {x : Int} (hc : Int.gcd x (2 * h + 1) = 1) {a : Int} (ha : ¬ (2 * (h : Int) + 1) ∣ a) : ∃ j, j < 2 * h ∧ (2 * (h : Int) + 1) ∣ x * ((j : Int) + 1) - a := by
  have hne : ∀ j : Nat, j < 2 * h → (x * ((j : Int) + 1)) % (2 * h + 1) ≠ 0 := by
    intro j hj z
    have := Int.le_of_dvd (by omega) (cop_dvd hc (Int.dvd_of_emod_eq_zero z))
    omega
  have hp := perm_range (n := 2 * h) (π := fun j => ((x * ((j : Int) + 1)) % (2 * h + 1) - 1).toNat) (fun j hj => by
    have h0 := rem_lo h (x * ((j : Int) + 1))
    have h1 := rem_hi h (x * ((j : Int) + 1))
    have := hne j hj
    show ((x * ((j : Int) + 1)) % (2 * h + 1) - 1).toNat < 2 * h
    omega) (fun i hi j hj e => by
    have e : ((x * ((i : Int) + 1)) % (2 * h + 1) - 1).toNat = ((x * ((j : Int) + 1)) % (2 * h + 1) - 1).toNat := e
    have h0 := rem_lo h (x * ((j : Int) + 1))
    have h1 := rem_lo h (x * ((i : Int) + 1))
    have n0 := hne i hi
    have n1 := hne j hj
    obtain ⟨u, hu⟩ := dvd_rem h (x * ((i : Int) + 1))
    obtain ⟨v, hv⟩ := dvd_rem h (x * ((j : Int) + 1))
    have e2 : (x * ((i : Int) + 1)) % (2 * h + 1) = (x * ((j : Int) + 1)) % (2 * h + 1) := by omega
    have := small_dvd (cop_dvd (x := (i : Int) - j) hc ⟨u - v, by grind⟩) (by omega) (by omega)
    omega)
  have h0 := rem_lo h a
  have h1 := rem_hi h a
  have h2 : a % (2 * h + 1) ≠ 0 := fun z => ha (Int.dvd_of_emod_eq_zero z)
  have hm : (a % (2 * h + 1) - 1).toNat ∈ List.range (2 * h) := List.mem_range.mpr (by omega)
  obtain ⟨j, hj, e⟩ := List.mem_map.mp (hp.mem_iff.mpr hm)
  have hj := List.mem_range.mp hj
  have k0 := rem_lo h (x * ((j : Int) + 1))
  have k1 := hne j hj
  have e2 : (x * ((j : Int) + 1)) % (2 * h + 1) = a % (2 * h + 1) := by omega
  obtain ⟨u, hu⟩ := dvd_rem h (x * ((j : Int) + 1))
  obtain ⟨v, hv⟩ := dvd_rem h a
  exact ⟨j, hj, u - v, by grind⟩
theorem pairs {m a : Int} : ∀ (n : Nat) (L : List Int), L.length ≤ n → L.Nodup → (∀ x, x ∈ L → ∃ y, y ∈ L ∧ y ≠ x ∧ m ∣ x * y - a) → (∀ x, x ∈ L → ∀ y, y ∈ L → ∀ z, z ∈ L → m ∣ x * y - a → m ∣ x * z - a → y = z) → m ∣ pl L - a ^ (L.length / 2) := by
  intro n
  induction n with
  | zero =>
    intro L hl _ _ _
    have : L = [] := List.eq_nil_of_length_eq_zero (by omega)
    subst this
    exact ⟨0, by simp [pl]⟩
  | succ n ih =>
    intro L hl hn hx hu
    match L, hl, hn, hx, hu with
    | [], _, _, _, _ => exact ⟨0, by simp [pl]⟩
    | x :: T, hl, hn, hx, hu =>
      have hn' := List.nodup_cons.mp hn
      obtain ⟨y, hy, yx, hd⟩ := hx x (List.mem_cons_self ..)
      have hyT : y ∈ T := by
        rcases List.mem_cons.mp hy with z | z
        · exact absurd z yx
        · exact z
      have hp := List.perm_cons_erase hyT
      have hlen : (T.erase y).length + 1 = T.length := by
        rw [List.length_erase_of_mem hyT]
        have := List.length_pos_of_mem hyT
        omega
      have hnd : (y :: T.erase y).Nodup := hp.nodup hn'.2
      have hnd' := List.nodup_cons.mp hnd
      have sub : ∀ z, z ∈ T.erase y → z ∈ T := fun z hz => hp.mem_iff.mpr (List.mem_cons_of_mem _ hz)
      have hI := ih (T.erase y) (by simp only [List.length_cons] at hl; omega) hnd'.2 (fun z hz => by
        have hzT := sub z hz
        have hzL := List.mem_cons_of_mem x hzT
        obtain ⟨w, hw, wz, hd2⟩ := hx z hzL
        have wx : w ≠ x := by
          rintro rfl
          have : z = y := hu w (List.mem_cons_self ..) z hzL y hy (by rw [Int.mul_comm]; exact hd2) hd
          rw [this] at hz
          exact hnd'.1 hz
        have wy : w ≠ y := by
          rintro rfl
          have : z = x := hu w hy z hzL x (List.mem_cons_self ..) (by rw [Int.mul_comm]; exact hd2) (by rw [Int.mul_comm]; exact hd)
          rw [this] at hzT
          exact hn'.1 hzT
        refine ⟨w, ?_, wz, hd2⟩
        rcases List.mem_cons.mp hw with q | q
        · exact absurd q wx
        · rcases List.mem_cons.mp (hp.mem_iff.mp q) with q | q
          · exact absurd q wy
          · exact q) (fun z hz w hw v hv => hu z (List.mem_cons_of_mem _ (sub z hz)) w (List.mem_cons_of_mem _ (sub w hw)) v (List.mem_cons_of_mem _ (sub v hv)))
      obtain ⟨s, hs⟩ := hI
      obtain ⟨t, ht⟩ := hd
      have e : pl (x :: T) = x * (y * pl (T.erase y)) := by
        rw [pl, pl_perm hp]
        rfl
      have e2 : (x :: T).length / 2 = (T.erase y).length / 2 + 1 := by
        simp only [List.length_cons]
        omega
      rw [e, e2, Int.pow_succ]
      exact ⟨t * pl (T.erase y) + a * s, by grind⟩
theorem nodup_mapI {f : Nat → Int} : ∀ l : List Nat, l.Nodup → (∀ x y, f x = f y → x = y) → (l.map f).Nodup
  | [], _, _ => List.nodup_nil
  | x :: l, hn, hi => by
    have hn' := List.nodup_cons.mp hn
    rw [List.map_cons, List.nodup_cons]
    refine ⟨fun hm => ?_, nodup_mapI l hn'.2 hi⟩
    obtain ⟨y, hy, e⟩ := List.mem_map.mp hm
    rw [hi y x e] at hy
    exact hn'.1 hy
theorem mem_row {n : Nat} {c x : Int} : x ∈ (List.range n).map (fun i : Nat => (i : Int) + c) ↔ c ≤ x ∧ x < n + c := by
  constructor
  · intro hx
    obtain ⟨i, hi, rfl⟩ := List.mem_map.mp hx
    have := List.mem_range.mp hi
    omega
  · intro ⟨a, b⟩
    exact List.mem_map.mpr ⟨(x - c).toNat, List.mem_range.mpr (by omega), by omega⟩
section
variable {h : Nat} (hp : Pm (2 * h + 1))
include hp
theorem uniq {a x y z : Int} (hx : ¬ (2 * (h : Int) + 1) ∣ x) (h1 : (2 * (h : Int) + 1) ∣ x * y - a) (h2 : (2 * (h : Int) + 1) ∣ x * z - a) (hy : 0 < y ∧ y ≤ 2 * h) (hz : 0 < z ∧ z ≤ 2 * h) : y = z := by
  obtain ⟨u, hu⟩ := h1
  obtain ⟨v, hv⟩ := h2
  have := small_dvd (cop_dvd (x := y - z) (hp.cop hx) ⟨u - v, by grind⟩) (by omega) (by omega)
  omega
theorem not_dvd {x : Int} (h1 : 0 < x) (h2 : x ≤ 2 * h) : ¬ (2 * (h : Int) + 1) ∣ x := fun z => by
  have := Int.le_of_dvd h1 z
  omega
theorem all_prod {a : Int} (ha : ¬ (2 * (h : Int) + 1) ∣ a) (hn : ∀ x : Int, ¬ (2 * (h : Int) + 1) ∣ x * x - a) : (2 * (h : Int) + 1) ∣ Pr (2 * h) (fun i => (i : Int) + 1) - a ^ h := by
  have := pairs (m := 2 * h + 1) (a := a) _ ((List.range (2 * h)).map fun i : Nat => (i : Int) + 1) (Nat.le_refl _) (nodup_mapI _ List.nodup_range fun x y e => by omega) (fun x hx => by
    have hx := mem_row.mp hx
    have nx := not_dvd hp (x := x) (by omega) (by omega)
    obtain ⟨j, hj, hd⟩ := solve (hp.cop nx) ha
    refine ⟨(j : Int) + 1, mem_row.mpr (by omega), ?_, hd⟩
    intro e
    rw [e] at hd
    exact hn x hd) (fun x hx y hy z hz h1 h2 => by
    have hx := mem_row.mp hx
    have hy := mem_row.mp hy
    have hz := mem_row.mp hz
    exact uniq hp (not_dvd hp (by omega) (by omega)) h1 h2 (by omega) (by omega))
  rw [← P_pl] at this
  simpa using this
theorem wilson : (2 * (h : Int) + 1) ∣ Pr (2 * h) (fun i => (i : Int) + 1) + 1 := by
  have h3 := hp.1
  obtain ⟨g, rfl⟩ : ∃ g, h = g + 1 := ⟨h - 1, by omega⟩
  have n1 : ¬ (2 * ((g + 1 : Nat) : Int) + 1) ∣ 1 := not_dvd hp (by omega) (by omega)
  have := pairs (m := 2 * ((g + 1 : Nat) : Int) + 1) (a := 1) _ ((List.range (2 * g)).map fun i : Nat => (i : Int) + 2) (Nat.le_refl _) (nodup_mapI _ List.nodup_range fun x y e => by omega) (fun x hx => by
    have hx := mem_row.mp hx
    have nx := not_dvd hp (x := x) (by omega) (by omega)
    obtain ⟨j, hj, hd⟩ := solve (hp.cop nx) n1
    refine ⟨(j : Int) + 1, mem_row.mpr ?_, ?_, hd⟩
    · by_cases j0 : j = 0
      · subst j0
        have := small_dvd (x := x - 1) (by simpa using hd) (by omega) (by omega)
        omega
      · by_cases j1 : j = 2 * g + 1
        · subst j1
          obtain ⟨u, hu⟩ := hd
          have := small_dvd (m := 2 * ((g + 1 : Nat) : Int) + 1) (x := -x - 1 + (2 * ((g + 1 : Nat) : Int) + 1)) ⟨u - x + 1, by grind⟩ (by omega) (by omega)
          omega
        · omega
    · intro e
      rw [e] at hd
      have hd2 : (2 * ((g + 1 : Nat) : Int) + 1) ∣ (x - 1) * (x + 1) := by
        rw [show (x - 1) * (x + 1) = x * x - 1 by grind]
        exact hd
      rcases hp.dvd_mul hd2 with q | q
      · exact not_dvd hp (by omega) (by omega) q
      · exact not_dvd hp (by omega) (by omega) q) (fun x hx y hy z hz h1 h2 => by
    have hx := mem_row.mp hx
    have hy := mem_row.mp hy
    have hz := mem_row.mp hz
    exact uniq hp (not_dvd hp (by omega) (by omega)) h1 h2 (by omega) (by omega))
  rw [← P_pl, Int.one_pow] at this
  obtain ⟨u, hu⟩ := this
  rw [show 2 * (g + 1) = 2 * g + 1 + 1 by omega]
  have e : Pr (2 * g + 1 + 1) (fun i => (i : Int) + 1) = Pr (2 * g) (fun i => (i : Int) + 2) * (2 * g + 2) := by
    rw [Pr, Pr_first]
    have : Pr (2 * g) (fun i => ((i + 1 : Nat) : Int) + 1) = Pr (2 * g) (fun i => (i : Int) + 2) := P_congr _ fun i _ => by omega
    rw [this]
    simp
    grind
  rw [e]
  exact ⟨u * (2 * g + 2) + 1, by push_cast at *; grind⟩
/-- the sign to a prime modulus is by squares -/
theorem euler {a : Int} (ha : ¬ (2 * (h : Int) + 1) ∣ a) : G a h = 1 ↔ ∃ x : Int, (2 * (h : Int) + 1) ∣ x * x - a := by
  constructor
  · intro hg
    refine Classical.byContradiction fun hn => ?_
    obtain ⟨u, hu⟩ := all_prod hp ha fun x hx => hn ⟨x, hx⟩
    obtain ⟨v, hv⟩ := wilson hp
    obtain ⟨w, hw⟩ := gauss hp ha
    rw [hg] at hw
    have : (2 * (h : Int) + 1) ∣ 2 := ⟨v - u - w, by grind⟩
    have := Int.le_of_dvd (by omega) this
    have := hp.1
    omega
  · rintro ⟨x, hx⟩
    rw [← G_congr hx, G_mul]
    have hc : Int.gcd x (2 * h + 1) = 1 := hp.cop fun z => ha (by
      have := Int.dvd_sub (Int.dvd_mul_of_dvd_left z (c := x)) hx
      rw [show x * x - (x * x - a) = a by omega] at this
      exact this)
    rcases G_pm hc with e | e <;> rw [e] <;> rfl
end
end QR
/-! part m_sq -/
open QR in
theorem sq_mem {p n : Int} (hp : QR.OP p) (hn : ¬ n % p = 0) : (n % p ∈ (List.range (p - 1).toNat).map (fun i : Nat => (1 + (i : Int)) * (1 + (i : Int)) % p)) ↔ sgn n p = 1 := by
  have p3 := hp.three
  obtain ⟨h, rfl⟩ := odd_half (by omega) hp.2
  rw [sgn_G, euler hp.1 (fun z => hn (Int.emod_eq_zero_of_dvd z)), List.mem_map]
  constructor
  · rintro ⟨i, _, e⟩
    exact ⟨1 + i, Int.dvd_of_emod_eq_zero (Int.emod_eq_emod_iff_emod_sub_eq_zero.mp e)⟩
  · rintro ⟨x, hx⟩
    have h0 := rem_lo h x
    have h1 := rem_hi h x
    have hz : x % (2 * (h : Int) + 1) ≠ 0 := by
      intro z
      obtain ⟨u, hu⟩ := Int.dvd_of_emod_eq_zero z
      obtain ⟨v, hv⟩ := hx
      exact hn (Int.emod_eq_zero_of_dvd ⟨u * x - v, by grind⟩)
    refine ⟨(x % (2 * h + 1) - 1).toNat, List.mem_range.mpr (by omega), ?_⟩
    rw [show 1 + (((x % (2 * h + 1) - 1).toNat : Nat) : Int) = x % (2 * h + 1) by omega]
    obtain ⟨u, hu⟩ := dvd_rem h x
    obtain ⟨v, hv⟩ := hx
    refine Int.emod_eq_emod_iff_emod_sub_eq_zero.mpr (Int.emod_eq_zero_of_dvd ⟨v - u * x - u * (x % (2 * h + 1)), ?_⟩)
    grind
theorem sgn_away {p n : Int} (hp : QR.OP p) (hn : ¬ n % p = 0) : sgn n p = 1 ∨ sgn n p = -1 :=
  sgn_pm (by have := hp.three; omega) hp.2 (hp.1.cop fun z => hn (Int.emod_eq_zero_of_dvd z))
theorem sgn_at0 {p n : Int} (hp : QR.OP p) (hn : n % p = 0) : sgn n p = 0 :=
  (sgn_zero (by have := hp.three; omega) hp.2).mpr fun z => by
    have := hp.three
    have hd := Int.dvd_of_emod_eq_zero hn
    have h1 : p ∣ ((Int.gcd n p : Nat) : Int) := Int.dvd_coe_gcd hd (Int.dvd_refl p)
    rw [z] at h1
    have := Int.le_of_dvd (by decide) h1
    omega
theorem cut_ints (ns : List Int) (lo hi : Option Int) : ∃ ms : List Int, cutV (ns.map V.int) lo hi = ms.map V.int := by
  unfold cutV
  exact ⟨_, by rw [← List.map_drop, ← List.map_take]⟩
theorem sgn_b {n p : Int} (hp : QR.OP p) : -1 ≤ sgn n p ∧ sgn n p ≤ 1 := by
  by_cases h : n % p = 0
  · rw [sgn_at0 hp h]
    decide
  · rcases sgn_away hp h with e | e <;> rw [e] <;> decide
theorem sgn_1 (n : Int) : sgn n 1 = 1 := by
  unfold sgn
  rw [Int.emod_one, show (0 : Int).toNat = 0 from rfl, show (1 : Int).toNat = 1 from rfl, jac_zero, if_pos rfl]
/-! part m_cip -/
namespace QR
/-! binomial numbers, and that a prime divides the inner ones -/
def ch : Nat → Nat → Int
  | _, 0 => 1
  | 0, _ + 1 => 0
  | n + 1, k + 1 => ch n k + ch n (k + 1)
theorem ch_zero (n : Nat) : ch n 0 = 1 := by cases n <;> rfl
theorem ch_succ (n k : Nat) : ch (n + 1) (k + 1) = ch n k + ch n (k + 1) := rfl
theorem ch_out : ∀ (n k : Nat), n < k → ch n k = 0
  | 0, k + 1, _ => rfl
  | n + 1, k + 1, h => by rw [ch_succ, ch_out n k (by omega), ch_out n (k + 1) (by omega)]; rfl
  | _, 0, h => by omega
theorem ch_self : ∀ n : Nat, ch n n = 1
  | 0 => rfl
  | n + 1 => by rw [ch_succ, ch_self n, ch_out n (n + 1) (by omega)]; rfl
theorem ch_mul : ∀ (n k : Nat), ((k : Int) + 1) * ch (n + 1) (k + 1) = ((n : Int) + 1) * ch n k
  | 0, 0 => rfl
  | 0, k + 1 => by rw [ch_out 1 (k + 2) (by omega), ch_out 0 (k + 1) (by omega)]; simp
  | n + 1, 0 => by
    have h := ch_mul n 0
    have e : ch (n + 1 + 1) (0 + 1) = ch (n + 1) 0 + ch (n + 1) (0 + 1) := rfl
    rw [e, ch_zero, Int.mul_add, h, ch_zero]
    push_cast
    omega
  | n + 1, k + 1 => by
    have h1 := ch_mul n k
    have h2 := ch_mul n (k + 1)
    rw [ch_succ (n + 1) (k + 1)]
    rw [ch_succ n k] at *
    have e1 : (((k + 1 : Nat) : Int)) = (k : Int) + 1 := by omega
    have e2 : (((n + 1 : Nat) : Int)) = (n : Int) + 1 := by omega
    rw [e1] at *
    rw [e2]
    grind
theorem ch_dvd {p : Nat} (hp : Pm p) {k : Nat} (h : k + 1 < p) : (p : Int) ∣ ch p (k + 1) := by
  obtain ⟨n, rfl⟩ : ∃ n, p = n + 1 := ⟨p - 1, by omega⟩
  have e := ch_mul n k
  have hd : (((n + 1 : Nat) : Int)) ∣ ((k : Int) + 1) * ch (n + 1) (k + 1) := ⟨ch n k, by rw [e]; push_cast; rfl⟩
  rcases hp.dvd_mul hd with z | z
  · have := Int.le_of_dvd (by omega) z
    omega
  · exact z
def Sm : Nat → (Nat → Int) → Int
  | 0, _ => 0
  | n + 1, f => Sm n f + f n
theorem Sm_congr : ∀ (n : Nat) {f g : Nat → Int}, (∀ i, i < n → f i = g i) → Sm n f = Sm n g
  | 0, _, _, _ => rfl
  | n + 1, f, g, h => by rw [Sm, Sm, Sm_congr n fun i hi => h i (by omega), h n (by omega)]
theorem Sm_add (f g : Nat → Int) : ∀ n : Nat, Sm n (fun i => f i + g i) = Sm n f + Sm n g
  | 0 => rfl
  | n + 1 => by
    rw [Sm, Sm, Sm, Sm_add f g n]
    omega
theorem Sm_mul (c : Int) (f : Nat → Int) : ∀ n : Nat, Sm n (fun i => c * f i) = c * Sm n f
  | 0 => by simp [Sm]
  | n + 1 => by rw [Sm, Sm, Sm_mul c f n, Int.mul_add]
theorem Sm_first (f : Nat → Int) : ∀ n : Nat, Sm (n + 1) f = f 0 + Sm n (fun i => f (i + 1))
  | 0 => by simp [Sm]
  | n + 1 => by
    rw [Sm, Sm_first f n, Sm]
    omega
theorem Sm_dvd {m : Int} : ∀ (n : Nat) (f : Nat → Int), (∀ i, i < n → m ∣ f i) → m ∣ Sm n f
  | 0, _, _ => ⟨0, by simp [Sm]⟩
  | n + 1, f, h => Int.dvd_add (Sm_dvd n f fun i hi => h i (by omega)) (h n (by omega))
/-- the n-th power of t and a step -/
def Fb (t : Int) : Nat → (Nat → Int) → Int
  | 0, s => s 0
  | n + 1, s => t * Fb t n s + Fb t n (fun k => s (k + 1))
theorem Fb_sum (t : Int) : ∀ (n : Nat) (s : Nat → Int), Fb t n s = Sm (n + 1) (fun k => ch n k * t ^ (n - k) * s k)
  | 0, s => by simp [Fb, Sm, ch]
  | n + 1, s => by
    rw [Fb, Fb_sum t n s, Fb_sum t n, Sm_first _ (n + 1), ← Sm_mul]
    have e1 : Sm (n + 1) (fun k => t * (ch n k * t ^ (n - k) * s k)) = t ^ (n + 1) * s 0 + Sm (n + 1) (fun k => ch n (k + 1) * t ^ (n - k) * s (k + 1)) := by
      rw [Sm_first _ n]
      conv => rhs; rw [Sm]
      rw [ch_out n (n + 1) (by omega), ch_zero]
      have e2 : Sm n (fun i => t * (ch n (i + 1) * t ^ (n - (i + 1)) * s (i + 1))) = Sm n (fun k => ch n (k + 1) * t ^ (n - k) * s (k + 1)) := by
        refine Sm_congr n fun i hi => ?_
        have : n - i = (n - (i + 1)) + 1 := by omega
        rw [this, Int.pow_succ]
        grind
      rw [e2, Nat.sub_zero, Int.pow_succ]
      grind
    rw [e1, ch_zero, Nat.sub_zero]
    have e3 : Sm (n + 1) (fun i => ch (n + 1) (i + 1) * t ^ (n + 1 - (i + 1)) * s (i + 1)) = Sm (n + 1) (fun k => ch n (k + 1) * t ^ (n - k) * s (k + 1)) + Sm (n + 1) (fun k => ch n k * t ^ (n - k) * s (k + 1)) := by
      rw [← Sm_add]
      refine Sm_congr _ fun i hi => ?_
      rw [ch_succ, show n + 1 - (i + 1) = n - i by omega]
      grind
    rw [e3]
    grind
theorem Fb_frob {p : Nat} (hp : Pm p) (t : Int) (s : Nat → Int) : (p : Int) ∣ Fb t p s - (t ^ p * s 0 + s p) := by
  have h2 := hp.1
  obtain ⟨n, rfl⟩ : ∃ n, p = n + 1 := ⟨p - 1, by omega⟩
  rw [Fb_sum, Sm_first, Sm]
  rw [ch_zero, ch_self, Nat.sub_zero, Nat.sub_self, Int.pow_zero]
  have : (((n + 1 : Nat)) : Int) ∣ Sm n (fun i => ch (n + 1) (i + 1) * t ^ (n + 1 - (i + 1)) * s (i + 1)) := Sm_dvd n _ fun i hi => by
    obtain ⟨c, hc⟩ := ch_dvd hp (k := i) (by omega)
    exact ⟨c * t ^ (n + 1 - (i + 1)) * s (i + 1), by rw [hc]; grind⟩
  obtain ⟨c, hc⟩ := this
  exact ⟨c, by rw [hc]; grind⟩
/-! sums of an integer and a multiple of a root of w -/
def mulQ (w : Int) (x y : Int × Int) : Int × Int := (x.1 * y.1 + x.2 * y.2 * w, x.1 * y.2 + x.2 * y.1)
def powQ (w : Int) (x : Int × Int) : Nat → Int × Int
  | 0 => (1, 0)
  | n + 1 => mulQ w (powQ w x n) x
theorem mulQ_assoc (w : Int) (x y z : Int × Int) : mulQ w (mulQ w x y) z = mulQ w x (mulQ w y z) := by
  simp only [mulQ, Prod.mk.injEq]
  constructor <;> grind
theorem mulQ_comm (w : Int) (x y : Int × Int) : mulQ w x y = mulQ w y x := by
  simp only [mulQ, Prod.mk.injEq]
  constructor <;> grind
theorem mulQ_one (w : Int) (x : Int × Int) : mulQ w x (1, 0) = x := by
  simp [mulQ]
theorem powQ_add (w : Int) (x : Int × Int) (m : Nat) : ∀ n : Nat, powQ w x (m + n) = mulQ w (powQ w x m) (powQ w x n)
  | 0 => (mulQ_one w _).symm
  | n + 1 => by
    rw [← Nat.add_assoc, powQ, powQ_add w x m n, powQ, mulQ_assoc]
theorem powQ_sq (w : Int) (x : Int × Int) (n : Nat) : powQ w (mulQ w x x) n = powQ w x (2 * n) := by
  induction n with
  | zero => rfl
  | succ n ih =>
    rw [powQ, ih, show 2 * (n + 1) = 2 * n + 1 + 1 by omega, powQ, powQ, mulQ_assoc]
def sE (w : Int) (k : Nat) : Int := if k % 2 = 0 then w ^ (k / 2) else 0
def sO (w : Int) (k : Nat) : Int := if k % 2 = 0 then 0 else w ^ (k / 2)
theorem Fb_mul (t c : Int) : ∀ (n : Nat) (s : Nat → Int), Fb t n (fun k => c * s k) = c * Fb t n s
  | 0, s => rfl
  | n + 1, s => by
    rw [Fb, Fb, Fb_mul t c n s, Fb_mul t c n fun k => s (k + 1)]
    grind
theorem powQ_Fb (w t : Int) : ∀ n : Nat, powQ w (t, 1) n = (Fb t n (sE w), Fb t n (sO w))
  | 0 => by simp [powQ, Fb, sE, sO]
  | n + 1 => by
    have h1 : (fun k => sE w (k + 1)) = fun k => w * sO w k := by
      funext k
      unfold sE sO
      rcases Nat.mod_two_eq_zero_or_one k with h | h
      · rw [if_neg (by omega), if_pos h, Int.mul_zero]
      · rw [if_pos (by omega), if_neg (by omega), show (k + 1) / 2 = k / 2 + 1 by omega, Int.pow_succ, Int.mul_comm]
    have h2 : (fun k => sO w (k + 1)) = fun k => sE w k := by
      funext k
      unfold sE sO
      rcases Nat.mod_two_eq_zero_or_one k with h | h
      · rw [if_neg (by omega), if_pos h, show (k + 1) / 2 = k / 2 by omega]
      · rw [if_pos (by omega), if_neg (by omega)]
    rw [powQ, powQ_Fb w t n, Fb, Fb, h1, h2, Fb_mul]
    simp only [mulQ, Prod.mk.injEq]
    constructor <;> grind
section
variable {h : Nat}
theorem G_eq_dvd {a : Int} : G a h = 0 ↔ Int.gcd a (2 * h + 1) ≠ 1 := G_eq_zero
theorem fermat (hp : Pm (2 * (h : Int) + 1)) (t : Int) : (2 * (h : Int) + 1) ∣ t ^ (2 * h + 1) - t := by
  by_cases ht : (2 * (h : Int) + 1) ∣ t
  · obtain ⟨c, hc⟩ := ht
    refine ⟨t ^ (2 * h) * c - c, ?_⟩
    rw [Int.pow_succ]
    generalize t ^ (2 * h) = X
    rw [hc]
    grind
  · obtain ⟨c, hc⟩ := gauss hp ht
    have hg := G_pm (hp.cop ht)
    have hgg : G t h * G t h = 1 := by rcases hg with e | e <;> rw [e] <;> rfl
    have e : t ^ h = (2 * (h : Int) + 1) * c + G t h := by omega
    have e2 : t ^ (2 * h + 1) = t ^ h * t ^ h * t := by
      rw [Int.pow_succ, show 2 * h = h + h by omega, Int.pow_add]
    exact ⟨((2 * (h : Int) + 1) * c * c + 2 * c * G t h) * t, by rw [e2, e]; grind⟩
/-- the power with the exponent p + 1 is the norm -/
theorem frob (hp : Pm (2 * (h : Int) + 1)) {w t : Int} (hw : G w h = -1) : (2 * (h : Int) + 1) ∣ (powQ w (t, 1) (2 * h + 2)).1 - (t * t - w) ∧ (2 * (h : Int) + 1) ∣ (powQ w (t, 1) (2 * h + 2)).2 := by
  have hp' : Pm (((2 * h + 1 : Nat)) : Int) := by
    have : (((2 * h + 1 : Nat)) : Int) = 2 * (h : Int) + 1 := by omega
    rw [this]
    exact hp
  have wd : ¬ (2 * (h : Int) + 1) ∣ w := fun z => by
    have : G w h = 0 := by
      have h2 := hp.1
      obtain ⟨c, hc⟩ := z
      rw [G_congr (b := 0) ⟨c, by rw [hc]; omega⟩]
      rw [G_at0, if_neg (by omega)]
    rw [this] at hw
    exact absurd hw (by decide)
  obtain ⟨c1, e1⟩ := Fb_frob hp' t (sE w)
  obtain ⟨c2, e2⟩ := Fb_frob hp' t (sO w)
  obtain ⟨c3, e3⟩ := fermat hp t
  obtain ⟨c4, e4⟩ := gauss hp wd
  have cst : (((2 * h + 1 : Nat)) : Int) = 2 * (h : Int) + 1 := by omega
  rw [cst] at e1 e2
  have s1 : sE w 0 = 1 := by simp [sE]
  have s2 : sE w (2 * h + 1) = 0 := if_neg (by omega)
  have s3 : sO w 0 = 0 := by simp [sO]
  have s4 : sO w (2 * h + 1) = w ^ h := by
    unfold sO
    rw [if_neg (by omega), show (2 * h + 1) / 2 = h by omega]
  rw [s1, s2] at e1
  rw [s3, s4] at e2
  rw [hw] at e4
  rw [show 2 * h + 2 = 2 * h + 1 + 1 from rfl, powQ, powQ_Fb]
  simp only [mulQ]
  generalize Fb t (2 * h + 1) (sE w) = A at *
  generalize Fb t (2 * h + 1) (sO w) = B at *
  generalize t ^ (2 * h + 1) = T at *
  generalize w ^ h = W at *
  generalize 2 * (h : Int) + 1 = p at *
  have eA : A = t + p * (c1 + c3) := by rw [Int.mul_add]; omega
  have eB : B = -1 + p * (c2 + c4) := by rw [Int.mul_add]; omega
  exact ⟨⟨(c1 + c3) * t + (c2 + c4) * w, by rw [eA, eB]; grind⟩, ⟨c1 + c3 + (c2 + c4) * t, by rw [eA, eB]; grind⟩⟩
/-- the half power is a root -/
theorem cipolla (hp : Pm (2 * (h : Int) + 1)) {n w t : Int} (hw : G w h = -1) (hn : G n h = 1) (hwn : (2 * (h : Int) + 1) ∣ t * t - n - w) {r : Int × Int} (hr1 : (2 * (h : Int) + 1) ∣ r.1 - (powQ w (t, 1) (h + 1)).1) (hr2 : (2 * (h : Int) + 1) ∣ r.2 - (powQ w (t, 1) (h + 1)).2) : (2 * (h : Int) + 1) ∣ r.1 * r.1 - n := by
  obtain ⟨⟨d1, f1⟩, ⟨d2, f2⟩⟩ := frob hp (t := t) hw
  rw [show 2 * h + 2 = (h + 1) + (h + 1) by omega, powQ_add] at f1 f2
  simp only [mulQ] at f1 f2
  generalize (powQ w (t, 1) (h + 1)).1 = a at *
  generalize (powQ w (t, 1) (h + 1)).2 = b at *
  have h2 := hp.1
  have h3 : Pm (2 * (h : Int) + 1) := hp
  have hd2 : (2 * (h : Int) + 1) ∣ 2 * (a * b) := ⟨d2, by rw [← f2]; grind⟩
  have n2 : ¬ (2 * (h : Int) + 1) ∣ 2 := fun z => by
    have := Int.le_of_dvd (by decide) z
    omega
  have hab : (2 * (h : Int) + 1) ∣ a * b := (hp.dvd_mul hd2).resolve_left n2
  obtain ⟨g, hg⟩ := hwn
  obtain ⟨k1, hk1⟩ := hr1
  generalize hpp : 2 * (h : Int) + 1 = p at *
  have era : r.1 = a + p * k1 := by omega
  have etn : t * t - w = n + p * g := by omega
  have ef : a * a + b * b * w = n + p * (g + d1) := by rw [Int.mul_add]; omega
  rcases h3.dvd_mul hab with z | z
  · exfalso
    obtain ⟨u, hu⟩ := z
    have hc : p ∣ b * b * w - n := ⟨g + d1 - a * u, by rw [hu] at ef ⊢; grind⟩
    rw [← hpp] at hc
    have e1 := G_congr hc
    rw [G_mul, hw, hn, G_mul] at e1
    have e2 : 0 ≤ G b h * G b h := by
      rcases Int.le_total 0 (G b h) with y | y
      · exact Int.mul_nonneg y y
      · have := Int.mul_nonneg (show 0 ≤ -G b h by omega) (show 0 ≤ -G b h by omega)
        rw [Int.neg_mul_neg] at this
        exact this
    omega
  · obtain ⟨u, hu⟩ := z
    refine ⟨g + d1 - b * u * w + 2 * a * k1 + p * k1 * k1, ?_⟩
    rw [era]
    have : b * b * w = p * (b * u * w) := by rw [hu]; grind
    grind
end
end QR
/-! part m_rt -/
/-! roots on a clock -/
def cg (p a b : Int) : Prop := p ∣ a - b
theorem cg.mulQ1 {p w a b c d a' b' c' d' : Int} (h1 : p ∣ a - a') (h2 : p ∣ b - b') (h3 : p ∣ c - c') (h4 : p ∣ d - d') : p ∣ (a * c + b * d * w) % p - (a' * c' + b' * d' * w) := by
  obtain ⟨x, hx⟩ := h1
  obtain ⟨y, hy⟩ := h2
  obtain ⟨z, hz⟩ := h3
  obtain ⟨u, hu⟩ := h4
  have e := Int.mul_ediv_add_emod (a * c + b * d * w) p
  generalize (a * c + b * d * w) / p = q at *
  generalize (a * c + b * d * w) % p = r at *
  have ea : a = a' + p * x := by omega
  have eb : b = b' + p * y := by omega
  have ec : c = c' + p * z := by omega
  have ed : d = d' + p * u := by omega
  refine ⟨a' * z + x * c' + p * x * z + (b' * u + y * d' + p * y * u) * w - q, ?_⟩
  have : r = a * c + b * d * w - p * q := by omega
  rw [this, ea, eb, ec, ed]
  grind
theorem cg.mulQ2 {p a b c d a' b' c' d' : Int} (h1 : p ∣ a - a') (h2 : p ∣ b - b') (h3 : p ∣ c - c') (h4 : p ∣ d - d') : p ∣ (a * d + b * c) % p - (a' * d' + b' * c') := by
  obtain ⟨x, hx⟩ := h1
  obtain ⟨y, hy⟩ := h2
  obtain ⟨z, hz⟩ := h3
  obtain ⟨u, hu⟩ := h4
  have e := Int.mul_ediv_add_emod (a * d + b * c) p
  generalize (a * d + b * c) / p = q at *
  generalize (a * d + b * c) % p = r at *
  have ea : a = a' + p * x := by omega
  have eb : b = b' + p * y := by omega
  have ec : c = c' + p * z := by omega
  have ed : d = d' + p * u := by omega
  refine ⟨a' * u + x * d' + p * x * u + (b' * z + y * c' + p * y * z) - q, ?_⟩
  have : r = a * d + b * c - p * q := by omega
  rw [this, ea, eb, ec, ed]
  grind
namespace QR
/-- what the loop keeps: the pairs stand for sums, and result times power to the exponent is one and the same -/
def Keep (p w t : Int) (h : Nat) (a b c d : Int) (e : Nat) : Prop := ∃ R S : Int × Int, p ∣ a - R.1 ∧ p ∣ b - R.2 ∧ p ∣ c - S.1 ∧ p ∣ d - S.2 ∧ mulQ w R (powQ w S e) = powQ w (t, 1) h
theorem Keep.start {p w t : Int} {h : Nat} : Keep p w t h 1 0 (t % p) 1 h :=
  ⟨(1, 0), (t, 1), ⟨0, by simp⟩, ⟨0, by simp⟩, ⟨-(t / p), by have := Int.mul_ediv_add_emod t p; rw [Int.mul_neg]; dsimp only; omega⟩, ⟨0, by simp⟩, by rw [mulQ_comm, mulQ_one]⟩
theorem Keep.odd {p w t a b c d : Int} {h e : Nat} (k : Keep p w t h a b c d e) (ho : e % 2 = 1) : Keep p w t h ((a * c + b * d * w) % p) ((a * d + b * c) % p) ((c * c + d * d * w) % p) ((c * d + d * c) % p) (e / 2) := by
  obtain ⟨R, S, h1, h2, h3, h4, he⟩ := k
  refine ⟨mulQ w R S, mulQ w S S, cg.mulQ1 h1 h2 h3 h4, cg.mulQ2 h1 h2 h3 h4, cg.mulQ1 h3 h4 h3 h4, cg.mulQ2 h3 h4 h3 h4, ?_⟩
  rw [powQ_sq, mulQ_assoc, mulQ_comm w S, ← he]
  rw [show e = 2 * (e / 2) + 1 by omega, powQ, show (2 * (e / 2) + 1) / 2 = e / 2 by omega]
theorem Keep.even {p w t a b c d : Int} {h e : Nat} (k : Keep p w t h a b c d e) (ho : e % 2 = 0) : Keep p w t h a b ((c * c + d * d * w) % p) ((c * d + d * c) % p) (e / 2) := by
  obtain ⟨R, S, h1, h2, h3, h4, he⟩ := k
  refine ⟨R, mulQ w S S, h1, h2, cg.mulQ1 h3 h4 h3 h4, cg.mulQ2 h3 h4 h3 h4, ?_⟩
  rw [powQ_sq, ← he, show 2 * (e / 2) = e by omega]
theorem Keep.fin {p n t a b c d : Int} (hp : OP p) (hn : sgn n p = 1) (hw : sgn (t * t - n) p = -1) (k : Keep p ((t * t - n) % p) t ((p + 1) / 2).toNat a b c d 0) : p ∣ a * a - n := by
  obtain ⟨h, rfl⟩ := odd_half (by have := hp.three; omega) hp.2
  rw [sgn_G] at hn hw
  obtain ⟨R, S, h1, h2, h3, h4, he⟩ := k
  rw [powQ, mulQ_one] at he
  subst he
  have e := Int.mul_ediv_add_emod (t * t - n) (2 * (h : Int) + 1)
  have hwn : (2 * (h : Int) + 1) ∣ t * t - n - (t * t - n) % (2 * (h : Int) + 1) := ⟨(t * t - n) / (2 * (h : Int) + 1), by omega⟩
  rw [show ((2 * (h : Int) + 1 + 1) / 2).toNat = h + 1 by omega] at h1 h2
  refine cipolla (r := (a, b)) hp.1 (w := (t * t - n) % (2 * (h : Int) + 1)) (t := t) ?_ hn hwn h1 h2
  rw [← hw]
  exact G_congr ⟨-((t * t - n) / (2 * (h : Int) + 1)), by rw [Int.mul_neg]; omega⟩
theorem has_root {p n : Int} (hp : OP p) (hn : sgn n p ≠ -1) : ∃ r : Int, 0 ≤ r ∧ r < p ∧ p ∣ r * r - n := by
  have h3 := hp.three
  have : ∃ r : Int, p ∣ r * r - n := by
    by_cases h0 : n % p = 0
    · obtain ⟨c, hc⟩ := Int.dvd_of_emod_eq_zero h0
      exact ⟨0, -c, by rw [hc, Int.mul_neg]; omega⟩
    · obtain ⟨h, rfl⟩ := odd_half (by omega) hp.2
      have hd : ¬ (2 * (h : Int) + 1) ∣ n := fun z => h0 (Int.emod_eq_zero_of_dvd z)
      have e := (sgn_away hp h0).resolve_right hn
      rw [sgn_G] at e
      exact (euler hp.1 hd).mp e
  obtain ⟨r, c, hc⟩ := this
  refine ⟨r % p, Int.emod_nonneg _ (by omega), Int.emod_lt_of_pos _ (by omega), ?_⟩
  have e := Int.mul_ediv_add_emod r p
  generalize r / p = q at *
  generalize r % p = s at *
  exact ⟨c - 2 * q * s - p * q * q, by rw [← e] at hc; grind⟩
theorem root_mod {p n x : Int} (h : p ∣ x * x - n % p) : p ∣ x * x - n := by
  obtain ⟨c, hc⟩ := h
  have e := Int.mul_ediv_add_emod n p
  exact ⟨c - n / p, by rw [Int.mul_sub]; omega⟩
theorem root_neg {p n x : Int} (h : p ∣ x * x - n) : p ∣ (p - x) * (p - x) - n := by
  obtain ⟨c, hc⟩ := h
  exact ⟨p - 2 * x + c, by rw [Int.mul_add, ← hc]; grind⟩
theorem root_one {p n x y : Int} (hp : OP p) (hx : 0 ≤ x) (hx2 : 2 * x < p) (hxn : p ∣ x * x - n) (hy : 0 ≤ y) (hy2 : 2 * y < p) (hyn : p ∣ y * y - n) : x = y := by
  have h3 := hp.three
  have : p ∣ (x - y) * (x + y) := by
    obtain ⟨c, hc⟩ := hxn
    obtain ⟨d, hd⟩ := hyn
    exact ⟨c - d, by rw [Int.mul_sub, ← hc, ← hd]; grind⟩
  rcases hp.1.dvd_mul this with z | z
  · rcases Int.lt_trichotomy x y with l | l | l
    · have := Int.le_of_dvd (by omega) (Int.dvd_neg.mpr z)
      omega
    · exact l
    · have := Int.le_of_dvd (by omega) z
      omega
  · by_cases h : x + y = 0
    · omega
    · have := Int.le_of_dvd (by omega) z
      omega
end QR
/-! part m_poly -/
/-! the hours at which a polynomial is 0 -/
namespace QR
def zeroAt (a b c p x : Int) : Prop := p ∣ a * x * x + b * x + c
def rootsL (a b c p : Int) : List Int := ((List.range p.toNat).map fun i : Nat => (i : Int)).filter fun x => decide ((a * x * x + b * x + c) % p = 0)
theorem asc_range (n : Nat) : ((List.range n).map fun i : Nat => (i : Int)).Pairwise (· < ·) := by
  rw [List.pairwise_map]
  refine (List.pairwise_lt_range (n := n)).imp fun h => by omega
theorem rootsL_asc (a b c p : Int) : (rootsL a b c p).Pairwise (· < ·) := (asc_range p.toNat).filter _
theorem rootsL_mem {a b c p x : Int} (hp : 0 < p) : x ∈ rootsL a b c p ↔ 0 ≤ x ∧ x < p ∧ p ∣ a * x * x + b * x + c := by
  unfold rootsL
  rw [List.mem_filter, List.mem_map, decide_eq_true_iff]
  constructor
  · rintro ⟨⟨i, hi, rfl⟩, h⟩
    have := List.mem_range.mp hi
    exact ⟨by omega, by omega, Int.dvd_of_emod_eq_zero h⟩
  · rintro ⟨h0, h1, h⟩
    exact ⟨⟨x.toNat, List.mem_range.mpr (by omega), by omega⟩, Int.emod_eq_zero_of_dvd h⟩
theorem asc_ext : ∀ {xs ys : List Int}, xs.Pairwise (· < ·) → ys.Pairwise (· < ·) → (∀ k, k ∈ xs ↔ k ∈ ys) → xs = ys
  | [], [], _, _, _ => rfl
  | [], y :: ys, _, _, h => absurd ((h y).mpr List.mem_cons_self) List.not_mem_nil
  | x :: xs, [], _, _, h => absurd ((h x).mp List.mem_cons_self) List.not_mem_nil
  | x :: xs, y :: ys, hx, hy, h => by
    obtain ⟨x1, x2⟩ := List.pairwise_cons.mp hx
    obtain ⟨y1, y2⟩ := List.pairwise_cons.mp hy
    have e : x = y := by
      rcases List.mem_cons.mp ((h x).mp List.mem_cons_self) with z | z
      · exact z
      · rcases List.mem_cons.mp ((h y).mpr List.mem_cons_self) with u | u
        · exact u.symm
        · have := y1 x z
          have := x1 y u
          omega
    subst e
    rw [asc_ext x2 y2 fun k => ?_]
    constructor
    · intro hk
      rcases List.mem_cons.mp ((h k).mp (List.mem_cons_of_mem _ hk)) with z | z
      · have := x1 k hk
        omega
      · exact z
    · intro hk
      rcases List.mem_cons.mp ((h k).mpr (List.mem_cons_of_mem _ hk)) with z | z
      · have := y1 k hk
        omega
      · exact z
theorem roots_none {a b c p : Int} (hp : 0 < p) (h : ∀ x, ¬ p ∣ a * x * x + b * x + c) : rootsL a b c p = [] :=
  asc_ext (rootsL_asc ..) .nil fun k => by rw [rootsL_mem hp]; exact ⟨fun z => absurd z.2.2 (h k), fun z => absurd z List.not_mem_nil⟩
theorem roots_flat {a b c p : Int} (hp : 0 < p) (ha : p ∣ a) (hb : p ∣ b) (hc : ¬ p ∣ c) : rootsL a b c p = [] := roots_none hp fun x h => by
  obtain ⟨u, hu⟩ := ha
  obtain ⟨v, hv⟩ := hb
  obtain ⟨w, hw⟩ := h
  exact hc ⟨w - u * x * x - v * x, by rw [Int.mul_sub, Int.mul_sub, ← hw, hu, hv]; grind⟩
/-- what is congruent within the clock is equal -/
theorem same_hour {p x y : Int} (h : p ∣ x - y) (hx : 0 ≤ x) (hx2 : x < p) (hy : 0 ≤ y) (hy2 : y < p) : x = y := by
  obtain ⟨c, hc⟩ := h
  have : x = y + p * c := by omega
  have e1 := Int.emod_eq_of_lt hx hx2
  rw [this, Int.add_mul_emod_self_left, Int.emod_eq_of_lt hy hy2] at e1
  omega
theorem roots_line {a b c p z : Int} (hp : OP p) (ha : p ∣ a) (hz : p ∣ b * z - 1) : rootsL a b c p = [-c * z % p] := by
  have h3 := hp.three
  have m0 := Int.emod_nonneg (-c * z) (show p ≠ 0 by omega)
  have m1 := Int.emod_lt_of_pos (-c * z) (show 0 < p by omega)
  have e := Int.mul_ediv_add_emod (-c * z) p
  generalize -c * z % p = r at *
  generalize -c * z / p = q at *
  obtain ⟨u, hu⟩ := ha
  obtain ⟨v, hv⟩ := hz
  refine asc_ext (rootsL_asc ..) (List.pairwise_singleton _ _) fun k => ?_
  rw [rootsL_mem (by omega), List.mem_singleton]
  constructor
  · rintro ⟨k0, k1, w, hw⟩
    refine same_hour ⟨w * z - u * k * k * z - v * k + q, ?_⟩ k0 k1 m0 m1
    have e1 : r = -c * z - p * q := by omega
    have e2 : c = p * w - a * k * k - b * k := by omega
    rw [e1, e2, hu]
    have e3 : b * z = p * v + 1 := by omega
    clear e e1 e2 hw hu hv
    grind
  · rintro rfl
    refine ⟨m0, m1, u * k * k + -c * v - b * q, ?_⟩
    have e1 : k = -c * z - p * q := by omega
    have e3 : b * z = p * v + 1 := by omega
    have e4 : b * k = -c * (p * v + 1) - p * (b * q) := by rw [← e3, e1]; grind
    rw [e4, hu]
    grind
theorem disc_id (a b c x : Int) : 4 * a * (a * x * x + b * x + c) = (2 * a * x + b) * (2 * a * x + b) - (b * b - 4 * a * c) := by grind
theorem not_two {p : Int} (hp : OP p) : ¬ p ∣ 2 := fun z => by
  have := hp.three
  have := Int.le_of_dvd (by decide) z
  omega
theorem not_2a {p a : Int} (hp : OP p) (ha : ¬ p ∣ a) : ¬ p ∣ 2 * a := fun z => (hp.1.dvd_mul z).elim (not_two hp) ha
theorem roots_no {a b c p : Int} (hp : OP p) (h : sgn (b * b - 4 * a * c) p = -1) : rootsL a b c p = [] := by
  have h3 := hp.three
  refine roots_none (by omega) fun x hx => ?_
  have hd : p ∣ (2 * a * x + b) * (2 * a * x + b) - (b * b - 4 * a * c) := by
    rw [← disc_id]
    exact Int.dvd_mul_of_dvd_right hx
  obtain ⟨k, rfl⟩ := odd_half (by omega) hp.2
  have hn : ¬ (2 * (k : Int) + 1) ∣ b * b - 4 * a * c := fun z => by
    rw [sgn_at0 hp (Int.emod_eq_zero_of_dvd z)] at h
    cases h
  have := (euler hp.1 hn).mpr ⟨_, hd⟩
  rw [sgn_G] at h
  rw [h] at this
  cases this
theorem roots_two {a b c p s z : Int} (hp : OP p) (ha : ¬ p ∣ a) (hs : p ∣ s * s - (b * b - 4 * a * c)) (hz : p ∣ 2 * a * z - 1) (k : Int) : k ∈ rootsL a b c p ↔ k = (-b - s) * z % p ∨ k = (-b + s) * z % p := by
  have h3 := hp.three
  have key : ∀ k : Int, p ∣ a * k * k + b * k + c ↔ p ∣ 2 * a * k + b + s ∨ p ∣ 2 * a * k + b - s := fun k => by
    have e := disc_id a b c k
    obtain ⟨u, hu⟩ := hs
    constructor
    · rintro ⟨v, hv⟩
      have : p ∣ (2 * a * k + b + s) * (2 * a * k + b - s) := ⟨4 * a * v - u, by rw [show p * (4 * a * v - u) = 4 * a * (p * v) - p * u by grind, ← hu, ← hv]; grind⟩
      exact hp.1.dvd_mul this
    · intro h
      have h2 : p ∣ (2 * a * k + b + s) * (2 * a * k + b - s) := h.elim (fun z => Int.dvd_mul_of_dvd_left z) fun z => Int.dvd_mul_of_dvd_right z
      obtain ⟨v, hv⟩ := h2
      have h4 : p ∣ 2 * a * (2 * (a * k * k + b * k + c)) := ⟨v + u, by rw [show p * (v + u) = p * v + p * u from Int.mul_add _ _ _, ← hu, ← hv]; grind⟩
      have h5 := (hp.1.dvd_mul h4).resolve_left (not_2a hp ha)
      exact (hp.1.dvd_mul h5).resolve_left (not_two hp)
  have sol : ∀ t k : Int, 0 ≤ k → k < p → (p ∣ 2 * a * k + b - t ↔ k = (-b + t) * z % p) := fun t k k0 k1 => by
    have m0 := Int.emod_nonneg ((-b + t) * z) (show p ≠ 0 by omega)
    have m1 := Int.emod_lt_of_pos ((-b + t) * z) (show 0 < p by omega)
    have e := Int.mul_ediv_add_emod ((-b + t) * z) p
    generalize (-b + t) * z % p = r at *
    generalize (-b + t) * z / p = q at *
    obtain ⟨u, hu⟩ := hz
    constructor
    · rintro ⟨v, hv⟩
      refine same_hour ⟨v * z - u * k + q, ?_⟩ k0 k1 m0 m1
      have e1 : r = (-b + t) * z - p * q := by omega
      have e2 : -b + t = 2 * a * k - p * v := by omega
      rw [e1, e2]
      have e3 : 2 * a * z = p * u + 1 := by omega
      clear e e1 e2 hv hu
      grind
    · rintro rfl
      refine ⟨(-b + t) * u - 2 * a * q, ?_⟩
      have e1 : k = (-b + t) * z - p * q := by omega
      have e3 : 2 * a * z = p * u + 1 := by omega
      have e4 : 2 * a * k = (-b + t) * (p * u + 1) - p * (2 * a * q) := by rw [← e3, e1]; grind
      rw [e4]
      grind
  rw [rootsL_mem (by omega)]
  have m0 := fun y => Int.emod_nonneg y (show p ≠ 0 by omega)
  have m1 := fun y => Int.emod_lt_of_pos y (show 0 < p by omega)
  constructor
  · rintro ⟨k0, k1, h⟩
    rcases (key k).mp h with y | y
    · exact .inl ((sol (-s) k k0 k1).mp (by rw [Int.sub_neg]; exact y))
    · exact .inr ((sol s k k0 k1).mp y)
  · intro h
    have k0 : 0 ≤ k := by rcases h with e | e <;> rw [e] <;> exact m0 _
    have k1 : k < p := by rcases h with e | e <;> rw [e] <;> exact m1 _
    refine ⟨k0, k1, (key k).mpr (h.elim (fun e => .inl ?_) fun e => .inr ((sol s k k0 k1).mpr e))⟩
    have := (sol (-s) k k0 k1).mpr e
    rw [Int.sub_neg] at this
    exact this
theorem roots_pair {a b c p s z : Int} (hp : OP p) (ha : ¬ p ∣ a) (hs : p ∣ s * s - (b * b - 4 * a * c)) (hz : p ∣ 2 * a * z - 1) :
    (if (-b - s) * z % p < (-b + s) * z % p then [(-b - s) * z % p, (-b + s) * z % p] else if (-b + s) * z % p < (-b - s) * z % p then [(-b + s) * z % p, (-b - s) * z % p] else [(-b - s) * z % p]) = rootsL a b c p := by
  have key := fun k => roots_two hp ha hs hz k
  generalize (-b - s) * z % p = x at *
  generalize (-b + s) * z % p = y at *
  refine asc_ext ?_ (rootsL_asc ..) fun k => ?_
  · split
    · exact List.pairwise_cons.mpr ⟨fun u hu => by rw [List.mem_singleton.mp hu]; assumption, List.pairwise_singleton _ _⟩
    · split
      · exact List.pairwise_cons.mpr ⟨fun u hu => by rw [List.mem_singleton.mp hu]; assumption, List.pairwise_singleton _ _⟩
      · exact List.pairwise_singleton _ _
  · rw [key k]
    split
    · simp
    · split
      · simp [or_comm]
      · have : x = y := by omega
        subst this
        simp
theorem due_eq {a b c p : Int} : ((List.range p.toNat).filter fun i : Nat => decide ((a * (0 + (i : Int)) * (0 + (i : Int)) + b * (0 + (i : Int)) + c) % p = 0)).map (fun i : Nat => L2.V.int (0 + (i : Int))) = (rootsL a b c p).map L2.V.int := by
  unfold rootsL
  rw [List.filter_map, List.map_map]
  simp only [Int.zero_add]
  rfl
theorem roots_all {a b c p : Int} (hp : 0 < p) (ha : a % p = 0) (hb : b % p = 0) (hc : c % p = 0) : ((rootsL a b c p).length : Int) = p := by
  obtain ⟨u, hu⟩ := Int.dvd_of_emod_eq_zero ha
  obtain ⟨v, hv⟩ := Int.dvd_of_emod_eq_zero hb
  obtain ⟨w, hw⟩ := Int.dvd_of_emod_eq_zero hc
  have e : rootsL a b c p = (List.range p.toNat).map fun i : Nat => (i : Int) := by
    unfold rootsL
    refine List.filter_eq_self.mpr fun x _ => decide_eq_true (Int.emod_eq_zero_of_dvd ⟨u * x * x + v * x + w, ?_⟩)
    rw [hu, hv, hw]
    grind
  rw [e, List.length_map, List.length_range]
  omega
theorem rootsL_shift {a b c p : Int} (hp : 0 < p) (d : Int) : rootsL (a + p) (b - p * d) (c + p) p = rootsL a b c p :=
  asc_ext (rootsL_asc ..) (rootsL_asc ..) fun k => by
    have e : (a + p) * k * k + (b - p * d) * k + (c + p) = (a * k * k + b * k + c) + p * (k * k - d * k + 1) := by grind
    rw [rootsL_mem hp, rootsL_mem hp, e]
    have : p ∣ p * (k * k - d * k + 1) := ⟨_, rfl⟩
    exact ⟨fun ⟨h0, h1, h2⟩ => ⟨h0, h1, (Int.dvd_add_left this).mp h2⟩, fun ⟨h0, h1, h2⟩ => ⟨h0, h1, (Int.dvd_add_left this).mpr h2⟩⟩
theorem rests_shift {a b c p : Int} (d : Int) : ((a + p) % p = 0 ∧ (b - p * d) % p = 0 ∧ (c + p) % p = 0) ↔ (a % p = 0 ∧ b % p = 0 ∧ c % p = 0) := by
  have e : b - p * d = b + p * -d := by rw [Int.mul_neg]; omega
  rw [Int.add_emod_right, Int.add_emod_right, e, Int.add_mul_emod_self_left]
end QR
/-! part m_clk -/
/-! odd primes up to 10000019, and Euler's power -/
theorem op_top : QR.OP (10000019 : Int) := QR.op_by (n := 10000019) 3163 (by decide) (by decide) (by decide) (by decide +kernel)
theorem op_nine : ∀ z ∈ ([97, 193, 257, 12289, 40961, 65537, 786433, 5767169, 7340033] : List Int), QR.OP z ∧ z ≤ 10000019 := by
  intro z hz
  simp only [List.mem_cons, List.not_mem_nil, or_false] at hz
  rcases hz with rfl | rfl | rfl | rfl | rfl | rfl | rfl | rfl | rfl
  · exact ⟨QR.op_by (n := 97) 10 (by decide) (by decide) (by decide) (by decide +kernel), by decide⟩
  · exact ⟨QR.op_by (n := 193) 14 (by decide) (by decide) (by decide) (by decide +kernel), by decide⟩
  · exact ⟨QR.op_by (n := 257) 17 (by decide) (by decide) (by decide) (by decide +kernel), by decide⟩
  · exact ⟨QR.op_by (n := 12289) 111 (by decide) (by decide) (by decide) (by decide +kernel), by decide⟩
  · exact ⟨QR.op_by (n := 40961) 203 (by decide) (by decide) (by decide) (by decide +kernel), by decide⟩
  · exact ⟨QR.op_by (n := 65537) 257 (by decide) (by decide) (by decide) (by decide +kernel), by decide⟩
  · exact ⟨QR.op_by (n := 786433) 887 (by decide) (by decide) (by decide) (by decide +kernel), by decide⟩
  · exact ⟨QR.op_by (n := 5767169) 2402 (by decide) (by decide) (by decide) (by decide +kernel), by decide⟩
  · exact ⟨QR.op_by (n := 7340033) 2710 (by decide) (by decide) (by decide) (by decide +kernel), by decide⟩
theorem rest_by {p r Y : Int} (h : p ∣ Y - r) (h0 : 0 ≤ r) (h1 : r < p) : Y % p = r := by
  obtain ⟨c, hc⟩ := h
  rw [show Y = r + p * c by omega, Int.add_mul_emod_self_left, Int.emod_eq_of_lt h0 h1]
theorem euler_pow {n p : Int} (hp : QR.OP p) : n ^ ((p - 1) / 2).toNat % p = p - 1 ↔ sgn n p = -1 := by
  have h3 := hp.three
  obtain ⟨h, rfl⟩ := odd_half (by omega) hp.2
  rw [show ((2 * (h : Int) + 1 - 1) / 2).toNat = h by omega]
  by_cases h0 : n % (2 * (h : Int) + 1) = 0
  · rw [sgn_at0 hp h0]
    obtain ⟨c, hc⟩ := Int.dvd_of_emod_eq_zero h0
    have : n ^ h % (2 * (h : Int) + 1) = 0 := by
      refine Int.emod_eq_zero_of_dvd ?_
      obtain ⟨k, rfl⟩ : ∃ k, h = k + 1 := ⟨h - 1, by omega⟩
      rw [Int.pow_succ]
      exact Int.dvd_mul_of_dvd_right ⟨c, hc⟩
    rw [this]
    omega
  · obtain ⟨c, hc⟩ := QR.gauss hp.1 (a := n) fun z => h0 (Int.emod_eq_zero_of_dvd z)
    rw [sgn_G]
    rcases sgn_away hp h0 with e | e
    · rw [sgn_G] at e
      rw [e] at hc ⊢
      rw [rest_by (r := 1) ⟨c, hc⟩ (by omega) (by omega)]
      omega
    · rw [sgn_G] at e
      rw [e] at hc ⊢
      rw [rest_by (r := 2 * (h : Int) + 1 - 1) ⟨c - 1, by rw [Int.mul_sub]; omega⟩ (by omega) (by omega)]
      omega
theorem sgn_shift {n m p k : Int} (hp : QR.OP p) (e : m = n + p * k) : sgn m p = sgn n p :=
  sgn_congr (by have := hp.three; omega) hp.2 ⟨k, by omega⟩
theorem root_shift {n m p k x : Int} (e : m = n + p * k) (h : p ∣ x * x - m) : p ∣ x * x - n := by
  obtain ⟨c, hc⟩ := h
  exact ⟨c + k, by rw [Int.mul_add]; omega⟩
theorem ix_mem {ns : List Int} {i : Int} (h0 : 0 ≤ i) (h1 : i < ns.length) : ∃ z ∈ ns, L2.atI (ns.map L2.V.int) i = some (.int z) := by
  have hl : i.toNat < ns.length := by omega
  refine ⟨ns[i.toNat]'hl, List.getElem_mem hl, ?_⟩
  have e : i = (i.toNat : Int) := by omega
  refine (congrArg (L2.atI _) e).trans (L2.atI_nat ?_)
  rw [List.getElem?_map, List.getElem?_eq_getElem (by omega)]
  rfl
/-! part m_rtc -/
/-! roots and coefficients -/
namespace QR
theorem root_zero {p n x : Int} (hp : OP p) (h0 : 0 ≤ x) (h1 : 2 * x < p) (hx : p ∣ x * x - n) : x = 0 ↔ sgn n p = 0 := by
  have h3 := hp.three
  obtain ⟨c, hc⟩ := hx
  constructor
  · rintro rfl
    exact sgn_at0 hp (Int.emod_eq_zero_of_dvd ⟨-c, by rw [Int.mul_neg]; omega⟩)
  · intro h
    have hn : n % p = 0 := Classical.byContradiction fun z => by
      rcases sgn_away hp z with e | e <;> rw [e] at h <;> cases h
    obtain ⟨d, hd⟩ := Int.dvd_of_emod_eq_zero hn
    have hxx : p ∣ x * x := ⟨c + d, by rw [Int.mul_add]; omega⟩
    have hx : p ∣ x := (hp.1.dvd_mul hxx).elim id id
    obtain ⟨e, he⟩ := hx
    exact same_hour (p := p) (y := 0) ⟨e, by omega⟩ h0 (by omega) (by omega) (by omega)
/-- the product of two roots, or its other side -/
theorem root_prod {p n k x y r : Int} (hp : OP p) (hx : p ∣ x * x - n) (hy : p ∣ y * y - k) (r0 : 0 ≤ r) (r1 : 2 * r < p) (hr : p ∣ r * r - n * k) : r = if p - x * y % p < x * y % p then p - x * y % p else x * y % p := by
  have h3 := hp.three
  have m0 := Int.emod_nonneg (x * y) (show p ≠ 0 by omega)
  have m1 := Int.emod_lt_of_pos (x * y) (show 0 < p by omega)
  have e := Int.mul_ediv_add_emod (x * y) p
  generalize x * y % p = b at *
  generalize x * y / p = q at *
  have hb : p ∣ b * b - n * k := by
    obtain ⟨u, hu⟩ := hx
    obtain ⟨v, hv⟩ := hy
    have e1 : b = x * y - p * q := by omega
    have e2 : n = x * x - p * u := by omega
    have e3 : k = y * y - p * v := by omega
    exact ⟨u * y * y + v * x * x - p * u * v - 2 * x * y * q + p * q * q, by rw [e1, e2, e3]; grind⟩
  have hodd := hp.2
  split
  · exact root_one hp r0 r1 hr (by omega) (by omega) (root_neg hb)
  · exact root_one hp r0 r1 hr m0 (by omega) hb
theorem roots_ends {a b c p s z : Int} (hp : OP p) (hs : p ∣ s * s - (b * b - 4 * a * c)) (hz : p ∣ 2 * a * z - 1) {x y : Int} (hx : x = (-b - s) * z % p) (hy : y = (-b + s) * z % p) : p ∣ a * (x + y) + b ∧ p ∣ a * x * y - c := by
  have e1 := Int.mul_ediv_add_emod ((-b - s) * z) p
  have e2 := Int.mul_ediv_add_emod ((-b + s) * z) p
  rw [← hx] at e1
  rw [← hy] at e2
  generalize (-b - s) * z / p = q at *
  generalize (-b + s) * z / p = r at *
  obtain ⟨u, hu⟩ := hs
  obtain ⟨v, hv⟩ := hz
  have f1 : x = (-b - s) * z - p * q := by omega
  have f2 : y = (-b + s) * z - p * r := by omega
  have f3 : 2 * a * z = p * v + 1 := by omega
  have f4 : s * s = p * u + b * b - 4 * a * c := by omega
  constructor
  · refine ⟨-b * v - a * q - a * r, ?_⟩
    rw [f1, f2]
    have : a * ((-b - s) * z - p * q + ((-b + s) * z - p * r)) + b = -b * (2 * a * z) - p * (a * q) - p * (a * r) + b := by grind
    rw [this, f3]
    grind
  · have g : a * ((-b - s) * z) * ((-b + s) * z) = c * (2 * a * z) * (2 * a * z) - p * (a * z * z * u) := by
      have : (-b - s) * z * ((-b + s) * z) = (b * b - s * s) * (z * z) := by grind
      rw [Int.mul_assoc, this, f4]
      grind
    refine ⟨c * (v * v * p + 2 * v) - a * z * z * u - a * q * ((-b + s) * z) - a * r * ((-b - s) * z) + p * a * q * r, ?_⟩
    rw [f1, f2]
    have h : a * ((-b - s) * z - p * q) * ((-b + s) * z - p * r) - c = a * ((-b - s) * z) * ((-b + s) * z) - p * (a * q * ((-b + s) * z)) - p * (a * r * ((-b - s) * z)) + p * (p * a * q * r) - c := by grind
    rw [h, g, f3]
    grind
/-- how many, by the sign -/
theorem how_sgn {a b c p z : Int} (hp : OP p) (ha : ¬ p ∣ a) (hz : p ∣ 2 * a * z - 1) : ((rootsL a b c p).length : Int) = 1 + sgn (b * b - 4 * a * c) p := by
  have h3 := hp.three
  by_cases hm : sgn (b * b - 4 * a * c) p = -1
  · rw [roots_no hp hm, hm]
    rfl
  · obtain ⟨r, r0, r1, hr⟩ := has_root hp hm
    obtain ⟨s, s0, s1, hs⟩ : ∃ s, 0 ≤ s ∧ 2 * s < p ∧ p ∣ s * s - (b * b - 4 * a * c) := by
      have hodd := hp.2
      by_cases h : 2 * r < p
      · exact ⟨r, r0, h, hr⟩
      · exact ⟨p - r, by omega, by omega, root_neg hr⟩
    have rz := root_zero hp s0 s1 hs
    rw [← roots_pair hp ha hs hz]
    by_cases hs0 : s = 0
    · rw [rz.mp hs0, hs0, Int.sub_zero, Int.add_zero, if_neg (by omega), if_neg (by omega)]
      rfl
    · have hsg : sgn (b * b - 4 * a * c) p = 1 := by
        by_cases hd : (b * b - 4 * a * c) % p = 0
        · exact absurd (rz.mpr (sgn_at0 hp hd)) hs0
        · exact (sgn_away hp hd).resolve_right hm
      have hne : (-b - s) * z % p ≠ (-b + s) * z % p := fun e => by
        have e1 := Int.mul_ediv_add_emod ((-b - s) * z) p
        have e2 := Int.mul_ediv_add_emod ((-b + s) * z) p
        rw [e] at e1
        generalize (-b - s) * z / p = q at *
        generalize (-b + s) * z / p = t at *
        generalize (-b + s) * z % p = y at *
        have hd : p ∣ 2 * (s * z) := ⟨t - q, by rw [Int.mul_sub]; grind⟩
        rcases hp.1.dvd_mul ((hp.1.dvd_mul hd).resolve_left (not_two hp)) with w | w
        · have := Int.le_of_dvd (by omega) w
          omega
        · obtain ⟨v, hv⟩ := hz
          obtain ⟨w, hw⟩ := w
          have h1 : p ∣ 1 := ⟨2 * a * w - v, by rw [Int.mul_sub, ← hv, hw]; grind⟩
          have := Int.le_of_dvd (by decide) h1
          omega
      rw [hsg]
      split
      · rfl
      · rw [if_pos (by omega)]
        rfl
/-- the least root, or none -/
def rootO (n p : Int) : Option Int := ((List.range ((p.toNat + 1) / 2)).map fun i : Nat => (i : Int)).find? fun x => decide ((x * x - n) % p = 0)
theorem rootO_prop {n p x : Int} (hp : OP p) (h : rootO n p = some x) : 0 ≤ x ∧ 2 * x < p ∧ p ∣ x * x - n := by
  have h3 := hp.three
  have hodd := hp.2
  have h1 := List.find?_some h
  have h2 := List.mem_of_find?_eq_some h
  obtain ⟨i, hi, rfl⟩ := List.mem_map.mp h2
  have := List.mem_range.mp hi
  exact ⟨by omega, by omega, Int.dvd_of_emod_eq_zero (of_decide_eq_true h1)⟩
theorem rootO_some {n p x : Int} (hp : OP p) (h0 : 0 ≤ x) (h1 : 2 * x < p) (hx : p ∣ x * x - n) : rootO n p = some x := by
  have h3 := hp.three
  cases e : rootO n p with
  | none =>
    have := List.find?_eq_none.mp e x (List.mem_map.mpr ⟨x.toNat, List.mem_range.mpr (by omega), by omega⟩)
    exact absurd (decide_eq_true (Int.emod_eq_zero_of_dvd hx)) this
  | some y =>
    obtain ⟨y0, y1, hy⟩ := rootO_prop hp e
    rw [root_one hp y0 y1 hy h0 h1 hx]
theorem rootO_none {n p : Int} (hp : OP p) : rootO n p = none ↔ sgn n p = -1 := by
  have h3 := hp.three
  constructor
  · intro h
    refine Classical.byContradiction fun hs => ?_
    obtain ⟨r, r0, r1, hr⟩ := has_root hp hs
    have hodd := hp.2
    by_cases h2 : 2 * r < p
    · rw [rootO_some hp r0 h2 hr] at h
      cases h
    · rw [rootO_some (x := p - r) hp (by omega) (by omega) (root_neg hr)] at h
      cases h
  · intro h
    cases e : rootO n p with
    | none => rfl
    | some x =>
      obtain ⟨x0, x1, hx⟩ := rootO_prop hp e
      have ho := odd_half (m := p) (by omega) hp.2
      by_cases hz : n % p = 0
      · rw [sgn_at0 hp hz] at h
        cases h
      · obtain ⟨k, rfl⟩ := ho
        have := (euler hp.1 (a := n) fun z => hz (Int.emod_eq_zero_of_dvd z)).mpr ⟨x, hx⟩
        rw [sgn_G] at h
        rw [h] at this
        cases this
/-- the first and the last root -/
theorem roots_lh {a b c p z : Int} (hp : OP p) (ha : ¬ p ∣ a) (hz : p ∣ 2 * a * z - 1) (hl : rootsL a b c p ≠ []) : ∃ x y, (rootsL a b c p = [x, y] ∨ (rootsL a b c p = [x] ∧ x = y)) ∧ 0 ≤ x ∧ x < p ∧ 0 ≤ y ∧ y < p ∧ p ∣ a * (x + y) + b ∧ p ∣ a * x * y - c := by
  have h3 := hp.three
  by_cases hm : sgn (b * b - 4 * a * c) p = -1
  · exact absurd (roots_no hp hm) hl
  · obtain ⟨s, _, _, hs⟩ := has_root hp hm
    have e := roots_pair hp ha hs hz
    obtain ⟨f1, f2⟩ := roots_ends hp hs hz rfl rfl
    have m0 := fun y => Int.emod_nonneg y (show p ≠ 0 by omega)
    have m1 := fun y => Int.emod_lt_of_pos y (show 0 < p by omega)
    have a1 := m0 ((-b - s) * z)
    have a2 := m1 ((-b - s) * z)
    have a3 := m0 ((-b + s) * z)
    have a4 := m1 ((-b + s) * z)
    generalize (-b - s) * z % p = x at *
    generalize (-b + s) * z % p = y at *
    rw [← e]
    by_cases h1 : x < y
    · rw [if_pos h1]
      exact ⟨x, y, .inl rfl, a1, a2, a3, a4, f1, f2⟩
    · rw [if_neg h1]
      by_cases h2 : y < x
      · rw [if_pos h2]
        refine ⟨y, x, .inl rfl, a3, a4, a1, a2, by rw [Int.add_comm y x]; exact f1, by rw [Int.mul_right_comm]; exact f2⟩
      · rw [if_neg h2]
        have hxy : x = y := by omega
        exact ⟨x, y, .inr ⟨rfl, hxy⟩, a1, a2, a3, a4, f1, f2⟩
end QR
/-! part m_cop -/
namespace QR
theorem exists_pm : ∀ (n : Nat), 2 ≤ n → ∃ p : Int, Pm p ∧ p ∣ (n : Int) := by
  intro n
  induction n using Nat.strongRecOn with
  | _ n ih =>
    intro h2
    by_cases hp : Pm (n : Int)
    · exact ⟨n, hp, Int.dvd_refl _⟩
    · have : ∃ d : Int, 2 ≤ d ∧ d < n ∧ d ∣ (n : Int) := Classical.byContradiction fun h => hp ⟨by omega, fun d a b c => h ⟨d, a, b, c⟩⟩
      obtain ⟨d, a, b, c⟩ := this
      obtain ⟨p, q1, q2⟩ := ih d.toNat (by omega) (by omega)
      rw [show ((d.toNat : Nat) : Int) = d by omega] at q2
      exact ⟨p, q1, Int.dvd_trans q2 c⟩
theorem dvd_gcd {d x m : Int} (h : d ∣ x) (k : d ∣ m) : d ∣ ((Int.gcd x m : Nat) : Int) := Int.dvd_coe_gcd h k
/-- coprime: no prime divides both -/
theorem cop_iff {x m : Int} : Int.gcd x m = 1 ↔ ∀ p : Int, Pm p → p ∣ x → ¬ p ∣ m := by
  constructor
  · intro h p hp a b
    have := dvd_gcd a b
    rw [h] at this
    have := Int.le_of_dvd (by decide) this
    have := hp.1
    omega
  · intro h
    rcases Nat.lt_or_ge (Int.gcd x m) 2 with z | z
    · rcases Nat.lt_or_ge 0 (Int.gcd x m) with y | y
      · omega
      · exfalso
        have e : Int.gcd x m = 0 := by omega
        obtain ⟨e1, e2⟩ := Int.gcd_eq_zero_iff.mp e
        subst e1 e2
        exact h 2 pm_two (Int.dvd_zero 2) (Int.dvd_zero 2)
    · obtain ⟨p, hp, hd⟩ := exists_pm _ z
      exact absurd (Int.dvd_trans hd (Int.gcd_dvd_right ..)) (h p hp (Int.dvd_trans hd (Int.gcd_dvd_left ..)))
theorem cop_dvd_right {x m n : Int} (h : Int.gcd x m = 1) (d : n ∣ m) : Int.gcd x n = 1 := cop_iff.mpr fun p hp a b => cop_iff.mp h p hp a (Int.dvd_trans b d)
theorem cop_congr {x y m : Int} (h : m ∣ x - y) : Int.gcd x m = 1 ↔ Int.gcd y m = 1 := by
  have key : ∀ x y : Int, m ∣ x - y → Int.gcd x m = 1 → Int.gcd y m = 1 := fun x y h hx => cop_iff.mpr fun p hp a b => cop_iff.mp hx p hp (by
    have := Int.dvd_add (Int.dvd_trans b h) a
    rwa [Int.sub_add_cancel] at this) b
  refine ⟨key x y h, key y x ?_⟩
  obtain ⟨k, hk⟩ := h
  exact ⟨-k, by rw [Int.mul_neg, ← hk]; omega⟩
theorem dvd_sub_emod (x m : Int) : m ∣ x - x % m := ⟨x / m, by have := Int.mul_ediv_add_emod x m; omega⟩
theorem cop_emod {x m : Int} : Int.gcd (x % m) m = 1 ↔ Int.gcd x m = 1 := (cop_congr (dvd_sub_emod x m)).symm
theorem cop_mul {x m n : Int} (h : Int.gcd x m = 1) (k : Int.gcd x n = 1) : Int.gcd x (m * n) = 1 := cop_iff.mpr fun p hp a b => (Pm.dvd_mul hp b).elim (cop_iff.mp h p hp a) (cop_iff.mp k p hp a)
theorem emod_eq_of_dvd {x y m : Int} (h : m ∣ x - y) : x % m = y % m := Int.emod_eq_emod_iff_emod_sub_eq_zero.mpr (Int.emod_eq_zero_of_dvd h)
theorem dvd_of_emod_eq {x y m : Int} (h : x % m = y % m) : m ∣ x - y := Int.dvd_of_emod_eq_zero (Int.emod_eq_emod_iff_emod_sub_eq_zero.mp h)
theorem pm_cop {p m : Int} (hp : Pm p) : Int.gcd p m = 1 ↔ ¬ p ∣ m := by
  constructor
  · intro h d
    exact cop_iff.mp h p hp (Int.dvd_refl p) d
  · intro h
    refine cop_iff.mpr fun q hq a b => ?_
    have q2 := hq.1
    have hle := Int.le_of_dvd (by have := hp.1; omega) a
    rcases Int.lt_or_eq_of_le hle with z | z
    · exact hp.2 q q2 z a
    · exact h (z ▸ b)
end QR
/-- the ints from 0 on below m coprime to it -/
def uL (m : Int) : List Int := ((List.range m.toNat).map (fun i : Nat => (i : Int))).filter (fun r => decide (Int.gcd r m = 1))
theorem mem_uL {m k : Int} : k ∈ uL m ↔ 0 ≤ k ∧ k < m ∧ Int.gcd k m = 1 := by
  unfold uL
  rw [List.mem_filter, decide_eq_true_iff, List.mem_map]
  constructor
  · rintro ⟨⟨i, hi, rfl⟩, h⟩
    rw [List.mem_range] at hi
    exact ⟨by omega, by omega, h⟩
  · rintro ⟨a, b, h⟩
    exact ⟨⟨k.toNat, List.mem_range.mpr (by omega), by omega⟩, h⟩
theorem uL_inc {m : Int} : (uL m).Pairwise (· < ·) := by
  unfold uL
  refine List.Pairwise.filter _ (List.pairwise_map.mpr ?_)
  exact List.pairwise_lt_range.imp fun h => by omega
theorem uL_len {m : Int} : (uL m).length ≤ m.toNat := by
  unfold uL
  refine Nat.le_trans (List.length_filter_le _ _) ?_
  rw [List.length_map, List.length_range]
  exact Nat.le_refl _
theorem uL_one {m : Int} (h : 1 ≤ m) : (1 % m) ∈ uL m := by
  refine mem_uL.mpr ⟨Int.emod_nonneg _ (by omega), Int.emod_lt_of_pos _ (by omega), ?_⟩
  rw [QR.cop_emod]
  exact Int.one_gcd
theorem uL_pos {m : Int} (h : 1 ≤ m) : 0 < (uL m).length := List.length_pos_of_mem (uL_one h)
theorem uL_nodup {m : Int} : (uL m).Nodup := uL_inc.imp fun h e => by omega
/-! part m_period -/
/-- the sign depends on the clock modulo four times the number -/
theorem sgn_period : ∀ (k : Nat) {n m t : Int}, n.natAbs ≤ k → 1 ≤ n → 1 ≤ m → m % 2 = 1 → 1 ≤ t → t % 2 = 1 → 4 * n ∣ m - t → sgn n m = sgn n t := by
  intro k
  induction k with
  | zero => intro n m t hk h1; omega
  | succ k ih =>
    intro n m t hk h1 m1 m2 t1 t2 hd
    obtain ⟨c, hc⟩ := hd
    rcases Int.emod_two_eq n with e | e
    · have e2 : n = 2 * (n / 2) := by omega
      have hd2 : 4 * (n / 2) ∣ m - t := ⟨2 * c, by rw [hc]; grind⟩
      have h8 : (8 : Int) ∣ m - t := ⟨n / 2 * c, by rw [hc]; grind⟩
      rw [e2, sgn_mul m1 m2, sgn_mul t1 t2, ih (by omega) (by omega) m1 m2 t1 t2 hd2, sgn_two m1 m2, sgn_two t1 t2]
      have : m % 8 = t % 8 := Int.emod_eq_emod_iff_emod_sub_eq_zero.mpr (Int.emod_eq_zero_of_dvd h8)
      rw [this]
    · have h4 : (4 : Int) ∣ m - t := ⟨n * c, by rw [hc]; grind⟩
      have hn : n ∣ m - t := ⟨4 * c, by rw [hc]; grind⟩
      have : m % 4 = t % 4 := Int.emod_eq_emod_iff_emod_sub_eq_zero.mpr (Int.emod_eq_zero_of_dvd h4)
      rw [sgn_turn m1 m2 h1 e, sgn_turn t1 t2 h1 e, this, sgn_congr h1 e hn]
theorem sgn_per {n m t : Int} (h1 : 1 ≤ n) (m1 : 1 ≤ m) (m2 : m % 2 = 1) (t1 : 1 ≤ t) (t2 : t % 2 = 1) (h : 4 * n ∣ m - t) : sgn n m = sgn n t := sgn_period _ (Nat.le_refl _) h1 m1 m2 t1 t2 h
theorem sgn_perN {n m t : Int} (h1 : 1 ≤ n) (m1 : 1 ≤ m) (m2 : m % 2 = 1) (t1 : 1 ≤ t) (t2 : t % 2 = 1) (h : 4 * n ∣ m - t) : sgn (-n) m = sgn (-n) t := by
  have e : m % 4 = t % 4 := by
    obtain ⟨c, hc⟩ := h
    exact Int.emod_eq_emod_iff_emod_sub_eq_zero.mpr (Int.emod_eq_zero_of_dvd ⟨n * c, by rw [hc]; grind⟩)
  rw [show -n = -1 * n by omega, sgn_mul m1 m2, sgn_mul t1 t2, sgn_per h1 m1 m2 t1 t2 h, sgn_neg1 m1 m2, sgn_neg1 t1 t2, e]
/-- a number written by x x + n y y has -n as a square -/
theorem sgn_form {n x y : Int} (n1 : 1 ≤ n) (ho : (x * x + n * (y * y)) % 2 = 1) (hc : Int.gcd (x * x + n * (y * y)) n = 1) : sgn (-n) (x * x + n * (y * y)) = 1 := by
  have nn : ∀ z : Int, 0 ≤ z * z := fun z => by
    rcases Int.le_total 0 z with h | h
    · exact Int.mul_nonneg h h
    · have := Int.mul_nonneg (show 0 ≤ -z by omega) (show 0 ≤ -z by omega)
      rw [Int.neg_mul_neg] at this
      exact this
  have g0 : (Int.gcd x y : Int) ≠ 0 := fun z => by
    have h1 : x = 0 ∧ y = 0 := Int.gcd_eq_zero_iff.mp (by omega)
    rw [h1.1, h1.2] at ho
    simp at ho
  obtain ⟨g, hg⟩ : ∃ g : Int, g = (Int.gcd x y : Int) := ⟨_, rfl⟩
  obtain ⟨u, hu⟩ : g ∣ x := by rw [hg]; exact Int.gcd_dvd_left ..
  obtain ⟨v, hv⟩ : g ∣ y := by rw [hg]; exact Int.gcd_dvd_right ..
  have huv : Int.gcd u v = 1 := by
    have e : Int.gcd (g * u) (g * v) = g.natAbs * Int.gcd u v := Int.gcd_mul_left ..
    rw [← hu, ← hv] at e
    have e2 : g.natAbs = Int.gcd x y := by omega
    rw [e2] at e
    have : Int.gcd x y * 1 = Int.gcd x y * Int.gcd u v := by omega
    exact (Nat.eq_of_mul_eq_mul_left (by omega) this).symm
  have ev : x * x + n * (y * y) = g * (g * (u * u + n * (v * v))) := by
    rw [hu, hv]
    grind
  rw [ev] at ho hc ⊢
  obtain ⟨m, hm⟩ : ∃ m, m = u * u + n * (v * v) := ⟨_, rfl⟩
  rw [← hm] at ho hc ⊢
  have gp : 1 ≤ g := by omega
  have odd2 : ∀ {a b : Int}, (a * b) % 2 = 1 → a % 2 = 1 ∧ b % 2 = 1 := fun {a b} h => by
    rw [Int.mul_emod] at h
    rcases Int.emod_two_eq a with e1 | e1 <;> rcases Int.emod_two_eq b with e2 | e2 <;> rw [e1, e2] at h <;> first | exact ⟨e1, e2⟩ | (exfalso; revert h; decide)
  obtain ⟨go, h2⟩ := odd2 ho
  obtain ⟨_, mo⟩ := odd2 h2
  have m1 : 1 ≤ m := by
    have h1 := nn u
    have h2 := Int.mul_nonneg (show 0 ≤ n by omega) (nn v)
    omega
  have cg : Int.gcd n g = 1 := by
    rw [Int.gcd_comm] at hc
    exact QR.cop_dvd_right hc ⟨g * m, rfl⟩
  have cm : Int.gcd n m = 1 := by
    rw [Int.gcd_comm] at hc
    exact QR.cop_dvd_right hc ⟨g * g, by grind⟩
  have gn : Int.gcd (-n) g = 1 := by rw [Int.neg_gcd]; exact cg
  have mn : Int.gcd (-n) m = 1 := by rw [Int.neg_gcd]; exact cm
  have gm1 : 1 ≤ g * m := by
    have := Int.mul_le_mul gp m1 (by decide) (by omega)
    omega
  have cv : Int.gcd v m = 1 := by
    refine QR.cop_iff.mpr fun p hp h1 h2 => ?_
    have h3 : p ∣ u * u := by
      rw [show u * u = m - n * (v * v) by omega]
      exact Int.dvd_sub h2 (Int.dvd_mul_of_dvd_right (Int.dvd_mul_of_dvd_left h1))
    have h4 : p ∣ u := (hp.dvd_mul h3).elim id id
    exact QR.cop_iff.mp huv p hp h4 h1
  rw [sgn_mod_mul gp go _ gm1 h2, sgn_mod_mul gp go _ m1 mo, ← Int.mul_assoc, sgn_sq gp go, if_pos gn, Int.one_mul]
  have hs : sgn (-n * (v * v)) m = sgn (u * u) m := sgn_congr m1 mo ⟨-1, by rw [hm]; grind⟩
  rw [sgn_mul m1 mo, sgn_mul m1 mo, sgn_mul m1 mo, sgn_sq m1 mo, if_pos cv, Int.mul_one, sgn_sq m1 mo] at hs
  rcases sgn_pm m1 mo mn with e | e
  · exact e
  · rw [e] at hs
    split at hs <;> omega
/-! part m_factors -/
def prodF : List (Int × Nat) → Int
  | [] => 1
  | x :: l => x.1 ^ x.2 * prodF l
def rowF (x : Int × Nat) : List V := [.int x.1, .int x.2]
/-- the primes of a number with their exponents -/
structure FacOk (n : Int) (fs : List (Int × Nat)) : Prop where
  prod : prodF fs = n
  prime : ∀ x, x ∈ fs → QR.Pm x.1 ∧ 1 ≤ x.2
  asc : fs.Pairwise fun a b => a.1 < b.1
theorem prodF_snoc (x : Int × Nat) : ∀ fs : List (Int × Nat), prodF (fs ++ [x]) = prodF fs * x.1 ^ x.2
  | [] => by simp [prodF]
  | y :: l => by
    simp only [List.cons_append, prodF]
    rw [prodF_snoc x l, Int.mul_assoc]
theorem prodF_big : ∀ fs : List (Int × Nat), (∀ x, x ∈ fs → QR.Pm x.1 ∧ 1 ≤ x.2) → (2 : Int) ^ fs.length ≤ prodF fs
  | [], _ => by simp [prodF]
  | x :: l, h => by
    have hx := h x (List.mem_cons_self ..)
    have ih := prodF_big l fun y hy => h y (List.mem_cons_of_mem _ hy)
    have h2 := hx.1.1
    obtain ⟨e, he⟩ : ∃ e, x.2 = e + 1 := ⟨x.2 - 1, by omega⟩
    have p1 : (1 : Int) ≤ x.1 ^ e := Int.pow_pos (by omega)
    have p0 : (0 : Int) < 2 ^ l.length := Int.pow_pos (by decide)
    simp only [prodF, List.length_cons]
    rw [he, Int.pow_succ, Int.pow_succ, Int.mul_comm (2 ^ l.length) 2]
    have p2 : 2 ≤ x.1 ^ e * x.1 := by
      have : 1 * x.1 ≤ x.1 ^ e * x.1 := Int.mul_le_mul_of_nonneg_right p1 (by omega)
      omega
    have a1 : 2 * 2 ^ l.length ≤ (x.1 ^ e * x.1) * 2 ^ l.length := Int.mul_le_mul_of_nonneg_right p2 (by omega)
    have a2 : (x.1 ^ e * x.1) * 2 ^ l.length ≤ (x.1 ^ e * x.1) * prodF l := Int.mul_le_mul_of_nonneg_left ih (by omega)
    omega
/-- while the factors are found: fs so far, n left, d next -/
structure FacInv (n0 n d : Int) (fs : List (Int × Nat)) : Prop where
  pos : 1 ≤ n
  two : 2 ≤ d
  prod : prodF fs * n = n0
  prime : ∀ x, x ∈ fs → QR.Pm x.1 ∧ 1 ≤ x.2 ∧ x.1 < d
  asc : fs.Pairwise fun a b => a.1 < b.1
  none : ∀ e : Int, 2 ≤ e → e < d → ¬ e ∣ n
theorem FacInv.len {n0 n d : Int} {fs : List (Int × Nat)} (h : FacInv n0 n d fs) (hn : n0 < 2 ^ 100) : fs.length < 100 := by
  have a := prodF_big fs fun x hx => ⟨(h.prime x hx).1, (h.prime x hx).2.1⟩
  have p0 : (0 : Int) < 2 ^ fs.length := Int.pow_pos (by decide)
  have b : prodF fs * 1 ≤ prodF fs * n := Int.mul_le_mul_of_nonneg_left h.pos (by omega)
  rw [h.prod] at b
  rcases Nat.lt_or_ge fs.length 100 with z | z
  · exact z
  · exfalso
    have : (2 : Int) ^ 100 ≤ 2 ^ fs.length := by
      have := Nat.pow_le_pow_right (show 0 < 2 by decide) z
      exact_mod_cast this
    omega
theorem FacInv.start {n : Int} (h : 1 ≤ n) : FacInv n n 2 [] :=
  ⟨h, by omega, by simp [prodF], fun _ h => absurd h List.not_mem_nil, List.Pairwise.nil, fun e h1 h2 => by omega⟩
/-- one divisor: n = m * d ^ e with no d left in m -/
theorem FacInv.next0 {n0 n d : Int} {fs : List (Int × Nat)} (h : FacInv n0 n d fs) (hd : ¬ d ∣ n) : FacInv n0 n (d + 1) fs :=
  ⟨h.pos, by have := h.two; omega, h.prod, fun x hx => ⟨(h.prime x hx).1, (h.prime x hx).2.1, by have := (h.prime x hx).2.2; omega⟩, h.asc, fun e h1 h2 z => by
    by_cases he : e = d
    · rw [he] at z
      exact hd z
    · exact h.none e h1 (by omega) z⟩
theorem FacInv.next {n0 n d m : Int} {e : Nat} {fs : List (Int × Nat)} (h : FacInv n0 n d fs) (he : 0 < e) (hm : m * d ^ e = n) (hm0 : 1 ≤ m) (hd : ¬ d ∣ m) : FacInv n0 m (d + 1) (fs ++ [(d, e)]) := by
  have h2 := h.two
  have dn : d ∣ n := by
    obtain ⟨k, rfl⟩ : ∃ k, e = k + 1 := ⟨e - 1, by omega⟩
    exact ⟨m * d ^ k, by rw [← hm, Int.pow_succ]; grind⟩
  have mn : m ∣ n := ⟨d ^ e, hm.symm⟩
  refine ⟨hm0, by omega, ?_, ?_, ?_, ?_⟩
  · rw [prodF_snoc, ← h.prod, ← hm]
    grind
  · intro x hx
    rcases List.mem_append.mp hx with hx | hx
    · exact ⟨(h.prime x hx).1, (h.prime x hx).2.1, by have := (h.prime x hx).2.2; omega⟩
    · rw [List.mem_singleton.mp hx]
      refine ⟨⟨h2, fun c c1 c2 c3 => h.none c c1 c2 (Int.dvd_trans c3 dn)⟩, he, ?_⟩
      show d < d + 1
      omega
  · rw [List.pairwise_append]
    refine ⟨h.asc, List.pairwise_singleton .., fun a ha b hb => ?_⟩
    rw [List.mem_singleton.mp hb]
    exact (h.prime a ha).2.2
  · intro c c1 c2 c3
    by_cases hc : c = d
    · rw [hc] at c3
      exact hd c3
    · exact h.none c c1 (by omega) (Int.dvd_trans c3 mn)
theorem FacInv.done1 {n0 d : Int} {fs : List (Int × Nat)} (h : FacInv n0 1 d fs) : FacOk n0 fs :=
  ⟨by have := h.prod; omega, fun x hx => ⟨(h.prime x hx).1, (h.prime x hx).2.1⟩, h.asc⟩
theorem FacInv.done {n0 n d : Int} {fs : List (Int × Nat)} (h : FacInv n0 n d fs) (hn : 1 < n) (hd : n < d * d) : FacOk n0 (fs ++ [(n, 1)]) := by
  have hp : QR.Pm n := QR.pm_of_trial (by omega) (by have := h.two; omega) hd h.none
  refine ⟨by rw [prodF_snoc, Int.pow_one]; exact h.prod, ?_, ?_⟩
  · intro x hx
    rcases List.mem_append.mp hx with hx | hx
    · exact ⟨(h.prime x hx).1, (h.prime x hx).2.1⟩
    · rw [List.mem_singleton.mp hx]
      exact ⟨hp, Nat.le_refl 1⟩
  · rw [List.pairwise_append]
    refine ⟨h.asc, List.pairwise_singleton .., fun a ha b hb => ?_⟩
    rw [List.mem_singleton.mp hb]
    have := (h.prime a ha).2.2
    show a.1 < n
    rcases Int.lt_or_le n d with z | z
    · exact absurd (Int.dvd_refl n) (h.none n (by omega) z)
    · omega
/-! part m_core -/
def sfL : List (Int × Nat) → Int
  | [] => 1
  | x :: l => (if x.2 % 2 = 1 then x.1 else 1) * sfL l
def sdL : List (Int × Nat) → Int
  | [] => 1
  | x :: l => x.1 ^ (x.2 / 2) * sdL l
theorem sf_sd : ∀ fs : List (Int × Nat), sfL fs * (sdL fs * sdL fs) = prodF fs
  | [] => rfl
  | x :: l => by
    have ih := sf_sd l
    simp only [sfL, sdL, prodF]
    rw [← ih]
    by_cases h : x.2 % 2 = 1
    · rw [if_pos h]
      have e : x.1 ^ x.2 = x.1 * (x.1 ^ (x.2 / 2) * x.1 ^ (x.2 / 2)) := by
        conv => lhs; rw [show x.2 = x.2 / 2 + x.2 / 2 + 1 by omega]
        rw [Int.pow_succ, Int.pow_add, Int.mul_comm]
      rw [e]
      grind
    · rw [if_neg h]
      have e : x.1 ^ x.2 = x.1 ^ (x.2 / 2) * x.1 ^ (x.2 / 2) := by
        conv => lhs; rw [show x.2 = x.2 / 2 + x.2 / 2 by omega]
        rw [Int.pow_add]
      rw [e]
      grind
theorem sfL_pos : ∀ {fs : List (Int × Nat)}, (∀ x, x ∈ fs → QR.Pm x.1 ∧ 1 ≤ x.2) → 1 ≤ sfL fs
  | [], _ => Int.le_refl _
  | x :: l, h => by
    have ih := sfL_pos fun y hy => h y (List.mem_cons_of_mem _ hy)
    have := (h x (List.mem_cons_self ..)).1.1
    simp only [sfL]
    exact Int.mul_pos (by split <;> omega) (by omega)
theorem sdL_pos : ∀ {fs : List (Int × Nat)}, (∀ x, x ∈ fs → QR.Pm x.1 ∧ 1 ≤ x.2) → 1 ≤ sdL fs
  | [], _ => Int.le_refl _
  | x :: l, h => by
    have ih := sdL_pos fun y hy => h y (List.mem_cons_of_mem _ hy)
    have := (h x (List.mem_cons_self ..)).1.1
    simp only [sdL]
    exact Int.mul_pos (Int.pow_pos (by omega)) (by omega)
theorem prime_eq {p q : Int} (hp : QR.Pm p) (hq : QR.Pm q) (h : q ∣ p) : q = p := by
  have := Int.le_of_dvd (by have := hp.1; omega) h
  rcases Int.lt_or_le q p with z | z
  · exact absurd h (hp.2 q hq.1 z)
  · omega
theorem mem_of_dvd {q : Int} (hq : QR.Pm q) : ∀ {fs : List (Int × Nat)}, (∀ x, x ∈ fs → QR.Pm x.1 ∧ 1 ≤ x.2) → q ∣ sfL fs → ∃ x, x ∈ fs ∧ x.1 = q
  | [], _, h => by
    have : q ≤ 1 := Int.le_of_dvd (by decide) h
    have := hq.1
    omega
  | x :: l, hp, h => by
    simp only [sfL] at h
    rcases hq.dvd_mul h with z | z
    · split at z
      · exact ⟨x, List.mem_cons_self .., (prime_eq (hp x (List.mem_cons_self ..)).1 hq z).symm⟩
      · have := Int.le_of_dvd (by decide) z
        have := hq.1
        omega
    · obtain ⟨y, hy, e⟩ := mem_of_dvd hq (fun y hy => hp y (List.mem_cons_of_mem _ hy)) z
      exact ⟨y, List.mem_cons_of_mem _ hy, e⟩
theorem no_sq {q : Int} (hq : QR.Pm q) : ∀ {fs : List (Int × Nat)}, (∀ x, x ∈ fs → QR.Pm x.1 ∧ 1 ≤ x.2) → (fs.Pairwise fun a b => a.1 < b.1) → ¬ q * q ∣ sfL fs
  | [], _, _, h => by
    have : q ≤ 1 := Int.le_of_dvd (by decide) (Int.dvd_trans (Int.dvd_mul_right q q) h)
    have := hq.1
    omega
  | x :: l, hp, ha, h => by
    have hx := (hp x (List.mem_cons_self ..)).1
    have hl := fun y hy => hp y (List.mem_cons_of_mem _ hy)
    have ha' := List.pairwise_cons.mp ha
    simp only [sfL] at h
    by_cases ho : x.2 % 2 = 1
    · rw [if_pos ho] at h
      by_cases hqx : q = x.1
      · obtain ⟨c, hc⟩ := h
        have : q ∣ sfL l := ⟨c, by
          rw [hqx, Int.mul_assoc] at hc
          rw [hqx]
          exact Int.eq_of_mul_eq_mul_left (by have := hx.1; omega) hc⟩
        obtain ⟨y, hy, e⟩ := mem_of_dvd hq hl this
        have := ha'.1 y hy
        omega
      · have nd : ¬ q ∣ x.1 := fun z => hqx (prime_eq hx hq z)
        obtain ⟨c, hc⟩ := h
        have h1 : q ∣ sfL l := by
          rcases hq.dvd_mul (y := sfL l) (x := x.1) ⟨q * c, by rw [hc, Int.mul_assoc]⟩ with z | z
          · exact absurd z nd
          · exact z
        obtain ⟨d, hd⟩ := h1
        have h2 : q ∣ x.1 * d := ⟨c, by
          rw [hd] at hc
          refine Int.eq_of_mul_eq_mul_left (a := q) (by have := hq.1; omega) ?_
          grind⟩
        rcases hq.dvd_mul h2 with z | z
        · exact nd z
        · obtain ⟨g, hg⟩ := z
          exact no_sq hq hl ha'.2 ⟨g, by rw [hd, hg, Int.mul_assoc]⟩
    · rw [if_neg ho, Int.one_mul] at h
      exact no_sq hq hl ha'.2 h
theorem prime_in : ∀ (n : Nat) (k : Int), 2 ≤ k → k ≤ n → ∃ q, QR.Pm q ∧ q ∣ k
  | 0, k, h1, h2 => by omega
  | n + 1, k, h1, h2 => by
    by_cases hp : QR.Pm k
    · exact ⟨k, hp, Int.dvd_refl k⟩
    · have : ∃ d : Int, 2 ≤ d ∧ d < k ∧ d ∣ k := Classical.byContradiction fun hn => hp ⟨h1, fun d a b c => hn ⟨d, a, b, c⟩⟩
      obtain ⟨d, a, b, c⟩ := this
      obtain ⟨q, hq, hd⟩ := prime_in n d a (by omega)
      exact ⟨q, hq, Int.dvd_trans hd c⟩
/-- a number without square divisors, times a square -/
structure CoreOk (n s r : Int) : Prop where
  prod : s * r * r = n
  pos : 1 ≤ r
  free : ∀ k : Int, 2 ≤ k → ¬ k * k ∣ s
theorem core_ok {n : Int} {fs : List (Int × Nat)} (h : FacOk (if n < 0 then -n else n) fs) : CoreOk n ((if n < 0 then -1 else 1) * sfL fs) (sdL fs) := by
  have hs := sf_sd fs
  rw [h.prod] at hs
  refine ⟨?_, sdL_pos h.prime, fun k hk hd => ?_⟩
  · split at hs <;> split <;> grind
  · obtain ⟨q, hq, hqk⟩ := prime_in k.toNat k hk (by omega)
    have h1 : q * q ∣ sfL fs := by
      have h2 : k * k ∣ sfL fs := by
        split at hd
        · rw [Int.neg_mul, Int.one_mul] at hd
          exact Int.dvd_neg.mp hd
        · rw [Int.one_mul] at hd
          exact hd
      exact Int.dvd_trans (Int.mul_dvd_mul hqk hqk) h2
    exact no_sq hq h.prime h.asc h1
theorem pow_le_prod : ∀ {fs : List (Int × Nat)}, (∀ x, x ∈ fs → QR.Pm x.1 ∧ 1 ≤ x.2) → ∀ x, x ∈ fs → x.1 ^ x.2 ≤ prodF fs
  | [], _, _, hx => absurd hx List.not_mem_nil
  | y :: l, h, x, hx => by
    have hy := (h y (List.mem_cons_self ..))
    have hl := fun z hz => h z (List.mem_cons_of_mem _ hz)
    have b := prodF_big l hl
    have p0 : (0 : Int) < 2 ^ l.length := Int.pow_pos (by decide)
    have p1 : (1 : Int) ≤ y.1 ^ y.2 := Int.pow_pos (by have := hy.1.1; omega)
    simp only [prodF]
    rcases List.mem_cons.mp hx with e | e
    · rw [e]
      have : y.1 ^ y.2 * 1 ≤ y.1 ^ y.2 * prodF l := Int.mul_le_mul_of_nonneg_left (by omega) (by omega)
      omega
    · have ih := pow_le_prod hl x e
      have : 1 * prodF l ≤ y.1 ^ y.2 * prodF l := Int.mul_le_mul_of_nonneg_right p1 (by omega)
      omega
theorem fac_small {n : Int} {fs : List (Int × Nat)} (h : FacOk n fs) (hn : n < 2 ^ 60) {x : Int × Nat} (hx : x ∈ fs) : 2 ≤ x.1 ∧ x.1 < 2 ^ 60 ∧ 1 ≤ x.2 ∧ x.2 < 60 := by
  have a := pow_le_prod h.prime x hx
  rw [h.prod] at a
  obtain ⟨p, e⟩ := h.prime x hx
  have p1 := p.1
  refine ⟨p1, ?_, e, ?_⟩
  · obtain ⟨k, hk⟩ : ∃ k, x.2 = k + 1 := ⟨x.2 - 1, by omega⟩
    rw [hk, Int.pow_succ] at a
    have q : (1 : Int) ≤ x.1 ^ k := Int.pow_pos (by omega)
    have : 1 * x.1 ≤ x.1 ^ k * x.1 := Int.mul_le_mul_of_nonneg_right q (by omega)
    omega
  · rcases Nat.lt_or_ge x.2 60 with z | z
    · exact z
    · exfalso
      have b1 : (2 : Int) ^ 60 ≤ 2 ^ x.2 := by
        have := Nat.pow_le_pow_right (show 0 < 2 by decide) z
        exact_mod_cast this
      have b2 : (2 : Int) ^ x.2 ≤ x.1 ^ x.2 := by
        have := Nat.pow_le_pow_left (show 2 ≤ x.1.toNat by omega) x.2
        have e : ((x.1.toNat : Nat) : Int) = x.1 := by omega
        rw [← e]
        exact_mod_cast this
      omega
theorem core_uniq {s r s2 r2 : Int} (hr : 1 ≤ r) (hr2 : 1 ≤ r2) (hf : ∀ k : Int, 2 ≤ k → ¬ k * k ∣ s) (hf2 : ∀ k : Int, 2 ≤ k → ¬ k * k ∣ s2) (e : s * r * r = s2 * r2 * r2) : s = s2 ∧ r = r2 := by
  obtain ⟨a, ha⟩ := Int.gcd_dvd_left r r2
  obtain ⟨b, hb⟩ := Int.gcd_dvd_right r r2
  have g0 : 0 < Int.gcd r r2 := Int.gcd_pos_of_ne_zero_left _ (by omega)
  have hc : Int.gcd a b = 1 := by
    have h1 : Int.gcd ((Int.gcd r r2 : Nat) * a) ((Int.gcd r r2 : Nat) * b) = Int.gcd r r2 := by rw [← ha, ← hb]
    rw [Int.gcd_mul_left] at h1
    have h2 : (((Int.gcd r r2 : Nat)) : Int).natAbs = Int.gcd r r2 := by omega
    rw [h2] at h1
    exact Nat.eq_of_mul_eq_mul_left g0 (by rw [h1, Nat.mul_one])
  generalize hg : (Int.gcd r r2 : Nat) = g at *
  have gp : (0 : Int) < g := by omega
  have a1 : 1 ≤ a := by
    rcases Int.lt_or_le 0 a with z | z
    · exact z
    · have : (g : Int) * a ≤ g * 0 := Int.mul_le_mul_of_nonneg_left z (by omega)
      omega
  have b1 : 1 ≤ b := by
    rcases Int.lt_or_le 0 b with z | z
    · exact z
    · have : (g : Int) * b ≤ g * 0 := Int.mul_le_mul_of_nonneg_left z (by omega)
      omega
  have e2 : s * (a * a) = s2 * (b * b) := by
    refine Int.eq_of_mul_eq_mul_left (a := (g : Int) * g) (by have := Int.mul_pos gp gp; omega) ?_
    rw [ha, hb] at e
    grind
  have hcb : Int.gcd b a = 1 := by rw [Int.gcd_comm]; exact hc
  have da : a * a ∣ s2 := by
    have h1 : a ∣ b * (b * s2) := ⟨s * a, by grind⟩
    obtain ⟨c, hc1⟩ := QR.cop_dvd hcb (QR.cop_dvd hcb h1)
    have h2 : a ∣ b * (b * c) := ⟨s, by
      refine Int.eq_of_mul_eq_mul_left (a := a) (by omega) ?_
      grind⟩
    obtain ⟨d, hd⟩ := QR.cop_dvd hcb (QR.cop_dvd hcb h2)
    exact ⟨d, by rw [hc1, hd, Int.mul_assoc]⟩
  have db : b * b ∣ s := by
    have h1 : b ∣ a * (a * s) := ⟨s2 * b, by grind⟩
    obtain ⟨c, hc1⟩ := QR.cop_dvd hc (QR.cop_dvd hc h1)
    have h2 : b ∣ a * (a * c) := ⟨s2, by
      refine Int.eq_of_mul_eq_mul_left (a := b) (by omega) ?_
      grind⟩
    obtain ⟨d, hd⟩ := QR.cop_dvd hc (QR.cop_dvd hc h2)
    exact ⟨d, by rw [hc1, hd, Int.mul_assoc]⟩
  have ea : a = 1 := by
    rcases Int.lt_or_le a 2 with z | z
    · omega
    · exact absurd da (hf2 a z)
  have eb : b = 1 := by
    rcases Int.lt_or_le b 2 with z | z
    · omega
    · exact absurd db (hf b z)
  subst ea eb
  refine ⟨by omega, by rw [ha, hb]⟩
theorem CoreOk.uniq {n s r s2 r2 : Int} (h : CoreOk n s r) (h2 : CoreOk n s2 r2) : s = s2 ∧ r = r2 := core_uniq h.pos h2.pos h.free h2.free (h.prod.trans h2.prod.symm)
theorem CoreOk.bound {n s r B : Int} (h : CoreOk n s r) (h0 : n ≠ 0) (h1 : -B ≤ n) (h2 : n ≤ B) : s ≠ 0 ∧ -B ≤ s ∧ s ≤ B ∧ r ≤ B := by
  have hp := h.prod
  have hr := h.pos
  have hr2 : 1 ≤ r * r := Int.mul_pos (by omega) (by omega)
  have hr3 : r ≤ r * r := by
    have : r * 1 ≤ r * r := Int.mul_le_mul_of_nonneg_left hr (by omega)
    omega
  rw [Int.mul_assoc] at hp
  rcases Int.lt_trichotomy s 0 with z | z | z
  · have a : 1 * (r * r) ≤ -s * (r * r) := Int.mul_le_mul_of_nonneg_right (by omega) (by omega)
    have b : -s * 1 ≤ -s * (r * r) := Int.mul_le_mul_of_nonneg_left hr2 (by omega)
    simp only [Int.neg_mul] at a b
    omega
  · rw [z, Int.zero_mul] at hp
    omega
  · have a : 1 * (r * r) ≤ s * (r * r) := Int.mul_le_mul_of_nonneg_right (by omega) (by omega)
    have b : s * 1 ≤ s * (r * r) := Int.mul_le_mul_of_nonneg_left hr2 (by omega)
    omega
theorem CoreOk.self {n s r : Int} (h : CoreOk n s r) : CoreOk s s 1 := ⟨by omega, by decide, h.free⟩
theorem CoreOk.four {n s r : Int} (h : CoreOk n s r) : CoreOk (n * 4) s (2 * r) := ⟨by rw [← h.prod]; grind, by have := h.pos; omega, h.free⟩
theorem small_core {n s r : Int} (h : s * r * r = n) (hr : 1 ≤ r) (h0 : s ≠ 0) (h1 : -3 ≤ s) (h2 : s ≤ 3) : CoreOk n s r := ⟨h, hr, fun k hk hd => by
  have h4 : 4 ≤ k * k := by
    have a : 2 * k ≤ k * k := Int.mul_le_mul_of_nonneg_right hk (by omega)
    omega
  have := QR.small_dvd hd (by omega) (by omega)
  exact h0 this⟩
/-! part m_germ -/
/-- rests modulo m tell no less modulo s -/
def Lv (m : Int) (R : List Int) (s : Int) : Prop := ∀ x y : Int, Int.gcd x m = 1 → Int.gcd y m = 1 → s ∣ x - y → (x % m ∈ R ↔ y % m ∈ R)
/-- the same told by a smaller modulus -/
structure Sub (m : Int) (R : List Int) (m' : Int) (R' : List Int) : Prop where
  dvd : m' ∣ m
  same : ∀ x : Int, Int.gcd x m = 1 → (x % m' ∈ R' ↔ x % m ∈ R)
theorem Sub.refl (m : Int) (R : List Int) : Sub m R m R := ⟨Int.dvd_refl m, fun _ _ => Iff.rfl⟩
theorem Sub.trans {m m1 m2 : Int} {R R1 R2 : List Int} (a : Sub m R m1 R1) (b : Sub m1 R1 m2 R2) : Sub m R m2 R2 := ⟨Int.dvd_trans b.dvd a.dvd, fun x h => (b.same x (QR.cop_dvd_right h a.dvd)).trans (a.same x h)⟩
structure Desc (m : Int) (R S : List Int) : Prop where
  pos : 1 ≤ m
  rests : ∀ r ∈ R, 0 ≤ r ∧ r < m ∧ Int.gcd r m = 1
  singles : ∀ p ∈ S, QR.OP p
def toldP (m : Int) (R : List Int) (p : Int) : Prop := ¬ p ∣ m ∧ p % m ∈ R
instance (m : Int) (R : List Int) (p : Int) : Decidable (toldP m R p) := inferInstanceAs (Decidable (¬ p ∣ m ∧ p % m ∈ R))
def memP (m : Int) (R S : List Int) (p : Int) : Prop := ¬ (toldP m R p ↔ p ∈ S)
instance (m : Int) (R S : List Int) (p : Int) : Decidable (memP m R S p) := inferInstanceAs (Decidable (¬ (toldP m R p ↔ p ∈ S)))
/-- what shortening shows -/
structure Short (m : Int) (R : List Int) (s : Int) (L : List Int) : Prop where
  inc : L.Pairwise (· < ·)
  mem : ∀ k ∈ L, k ∈ uL s
  same : ∀ x : Int, Int.gcd x m = 1 → (x % s ∈ L ↔ x % m ∈ R)
def liftsL (r s q : Int) : List Int := (List.range q.toNat).map fun k : Nat => r + (0 + (k : Int)) * s
def lftL (m r s q : Int) : List Int := (liftsL r s q).filter fun l => decide (Int.gcd l m = 1)
section
variable {m s q r : Int} {R : List Int}
theorem mem_lifts {l : Int} : l ∈ liftsL r s q ↔ ∃ k : Int, 0 ≤ k ∧ k < q ∧ l = r + k * s := by
  unfold liftsL
  rw [List.mem_map]
  constructor
  · rintro ⟨k, hk, rfl⟩
    rw [List.mem_range] at hk
    exact ⟨k, by omega, by omega, by rw [Int.zero_add]⟩
  · rintro ⟨k, a, b, rfl⟩
    exact ⟨k.toNat, List.mem_range.mpr (by omega), by rw [Int.zero_add, show ((k.toNat : Nat) : Int) = k by omega]⟩
theorem lift_bound {k : Int} (hs : 0 < s) (hm : m = s * q) (r0 : 0 ≤ r) (r1 : r < s) (k0 : 0 ≤ k) (k1 : k < q) : 0 ≤ r + k * s ∧ r + k * s < m := by
  have a : 0 ≤ k * s := Int.mul_nonneg k0 (by omega)
  have b : k * s ≤ (q - 1) * s := Int.mul_le_mul_of_nonneg_right (by omega) (by omega)
  have c : (q - 1) * s = s * q - s := by grind
  omega
theorem lift_mod {k : Int} (r0 : 0 ≤ r) (r1 : r < s) : (r + k * s) % s = r := by
  rw [Int.add_mul_emod_self_right, Int.emod_eq_of_lt r0 r1]
/-- a coprime lift there is -/
theorem lft_ne (hq : QR.Pm q) (hs : 0 < s) (hm : m = s * q) (hr : r ∈ uL s) : lftL m r s q ≠ [] := by
  obtain ⟨r0, r1, rc⟩ := mem_uL.mp hr
  have q2 := hq.1
  have c0 : ∀ k : Int, Int.gcd (r + k * s) s = 1 := fun k => (QR.cop_congr (y := r) ⟨k, by rw [Int.mul_comm]; omega⟩).mpr rc
  have : ∃ k : Int, 0 ≤ k ∧ k < q ∧ Int.gcd (r + k * s) m = 1 := by
    by_cases a : q ∣ r
    · refine ⟨1, by omega, by omega, ?_⟩
      rw [hm]
      refine QR.cop_mul (c0 1) (QR.cop_iff.mpr fun p hp b c => ?_)
      have pq : p = q := by
        rcases Int.lt_or_eq_of_le (Int.le_of_dvd (by omega) c) with z | z
        · exact absurd c (hq.2 p hp.1 z)
        · exact z
      subst pq
      have d : p ∣ s := by
        have := Int.dvd_sub b a
        rwa [Int.one_mul, Int.add_comm, Int.add_sub_cancel] at this
      exact QR.cop_iff.mp rc p hp a d
    · refine ⟨0, by omega, by omega, ?_⟩
      rw [hm, Int.zero_mul, Int.add_zero]
      refine QR.cop_mul rc (QR.cop_iff.mpr fun p hp b c => ?_)
      have pq : p = q := by
        rcases Int.lt_or_eq_of_le (Int.le_of_dvd (by omega) c) with z | z
        · exact absurd c (hq.2 p hp.1 z)
        · exact z
      exact a (pq ▸ b)
  obtain ⟨k, k0, k1, kc⟩ := this
  intro e
  have : r + k * s ∈ lftL m r s q := List.mem_filter.mpr ⟨mem_lifts.mpr ⟨k, k0, k1, rfl⟩, decide_eq_true kc⟩
  rw [e] at this
  cases this
theorem lft_prop (hs : 0 < s) (hm : m = s * q) (hr : r ∈ uL s) {l : Int} (hl : l ∈ lftL m r s q) : Int.gcd l m = 1 ∧ l % m = l ∧ l % s = r := by
  obtain ⟨r0, r1, rc⟩ := mem_uL.mp hr
  obtain ⟨a, b⟩ := List.mem_filter.mp hl
  obtain ⟨k, k0, k1, rfl⟩ := mem_lifts.mp a
  obtain ⟨b0, b1⟩ := lift_bound hs hm r0 r1 k0 k1
  exact ⟨of_decide_eq_true b, Int.emod_eq_of_lt b0 b1, lift_mod r0 r1⟩
theorem lft_all (hs : 0 < s) (hq : 0 < q) (hm : m = s * q) {x : Int} (hx : Int.gcd x m = 1) (hr : x % s = r) : x % m ∈ lftL m r s q := by
  have m0 : 0 < m := by rw [hm]; exact Int.mul_pos hs hq
  have e0 := Int.emod_nonneg x (show m ≠ 0 by omega)
  have e1 := Int.emod_lt_of_pos x m0
  refine List.mem_filter.mpr ⟨mem_lifts.mpr ⟨x % m / s, ?_, ?_, ?_⟩, decide_eq_true (QR.cop_emod.mpr hx)⟩
  · exact Int.ediv_nonneg e0 (by omega)
  · exact Int.ediv_lt_of_lt_mul hs (by rw [Int.mul_comm]; omega)
  · have e2 : x % m % s = r := by rw [← hr]; exact Int.emod_emod_of_dvd x ⟨q, hm⟩
    have := Int.mul_ediv_add_emod (x % m) s
    rw [e2] at this
    rw [Int.mul_comm (x % m / s)]
    omega
theorem unit_of (h : s ∣ m) {x : Int} (hs : 0 < s) (hx : Int.gcd x m = 1) : x % s ∈ uL s := mem_uL.mpr ⟨Int.emod_nonneg x (by omega), Int.emod_lt_of_pos x hs, QR.cop_emod.mpr (QR.cop_dvd_right hx h)⟩
/-- kept so far: of the units in us -/
structure Kept (m : Int) (R : List Int) (s : Int) (us L : List Int) : Prop where
  inc : L.Pairwise (· < ·)
  mem : ∀ k ∈ L, k ∈ us
  same : ∀ x : Int, Int.gcd x m = 1 → x % s ∈ us → (x % s ∈ L ↔ x % m ∈ R)
theorem Kept.nil : Kept m R s [] [] := ⟨List.Pairwise.nil, fun _ h => absurd h List.not_mem_nil, fun _ _ h => absurd h List.not_mem_nil⟩
theorem Kept.put {us L : List Int} (h : Kept m R s us L) (hlt : ∀ k ∈ us, k < r) (hall : ∀ x : Int, Int.gcd x m = 1 → x % s = r → x % m ∈ R) : Kept m R s (us ++ [r]) (L ++ [r]) := by
  refine ⟨List.pairwise_append.mpr ⟨h.inc, List.pairwise_singleton .., fun a ha b hb => by rw [List.mem_singleton.mp hb]; exact hlt a (h.mem a ha)⟩, fun k hk => ?_, fun x hx hu => ?_⟩
  · rcases List.mem_append.mp hk with hk | hk
    · exact List.mem_append_left _ (h.mem k hk)
    · exact List.mem_append_right _ hk
  · rcases List.mem_append.mp hu with hu | hu
    · rw [List.mem_append, ← h.same x hx hu, List.mem_singleton]
      refine ⟨fun z => z.elim id fun e => ?_, .inl⟩
      have := hlt _ hu
      omega
    · have e := List.mem_singleton.mp hu
      exact ⟨fun _ => hall x hx e, fun _ => List.mem_append_right _ hu⟩
theorem Kept.skip {us L : List Int} (h : Kept m R s us L) (hlt : ∀ k ∈ us, k < r) (hall : ∀ x : Int, Int.gcd x m = 1 → x % s = r → x % m ∉ R) : Kept m R s (us ++ [r]) L := by
  refine ⟨h.inc, fun k hk => List.mem_append_left _ (h.mem k hk), fun x hx hu => ?_⟩
  rcases List.mem_append.mp hu with hu | hu
  · exact h.same x hx hu
  · have e := List.mem_singleton.mp hu
    refine ⟨fun z => ?_, fun z => absurd z (hall x hx e)⟩
    have := hlt _ (h.mem _ z)
    omega
theorem Kept.done {L : List Int} (h : Kept m R s (uL s) L) (hd : s ∣ m) (hs : 0 < s) : Short m R s L := ⟨h.inc, h.mem, fun x hx => h.same x hx (unit_of hd hs hx)⟩
theorem Short.lv {L : List Int} (h : Short m R s L) : Lv m R s := fun x y hx hy d => by
  rw [← h.same x hx, ← h.same y hy, QR.emod_eq_of_dvd d]
theorem Short.sub {L : List Int} (h : Short m R s L) (hd : s ∣ m) : Sub m R s L := ⟨hd, h.same⟩
/-- what stays told no less by a divisor stays so ahead of a shortening -/
theorem Lv.up {m' s' : Int} {R' : List Int} (h : Sub m R m' R') (l : Lv m' R' s') (hd : s' ∣ s) : Lv m R s := fun x y hx hy d => by
  rw [← h.same x hx, ← h.same y hy]
  exact l x y (QR.cop_dvd_right hx h.dvd) (QR.cop_dvd_right hy h.dvd) (Int.dvd_trans hd d)
end
/-- a single prime changes sides -/
def togL (S : List Int) (p : Int) : List Int := if p ∈ S then S.filter (fun o => !decide (o = p)) else S ++ [p]
theorem mem_tog {S : List Int} {p k : Int} : k ∈ togL S p ↔ if k = p then p ∉ S else k ∈ S := by
  unfold togL
  by_cases h : p ∈ S
  · rw [if_pos h]
    by_cases e : k = p
    · subst e
      simp [h]
    · simp [e]
  · rw [if_neg h]
    by_cases e : k = p
    · subst e
      simp [h]
    · simp [e]
theorem tog_nodup {S : List Int} {p : Int} (h : S.Nodup) : (togL S p).Nodup := by
  unfold togL
  split
  · exact h.filter _
  · rename_i hp
    refine List.nodup_append.mpr ⟨h, by simp, fun a ha b hb e => hp ?_⟩
    rw [List.mem_singleton] at hb
    rw [← hb, ← e]
    exact ha
theorem tog_len {S : List Int} {p : Int} : (togL S p).length ≤ S.length + 1 := by
  unfold togL
  split
  · exact Nat.le_succ_of_le (List.length_filter_le _ _)
  · simp
/-- the singles behind a shortening by q -/
def nextS (m : Int) (L S : List Int) (q : Int) : List Int := if q ≠ 2 ∧ toldP m L q then togL S q else S
/-- an odd prime, or coprime to the modulus -/
def PrOk (m p : Int) : Prop := QR.OP p ∨ (2 ≤ p ∧ Int.gcd p m = 1)
theorem PrOk.two {m p : Int} (h : PrOk m p) : 2 ≤ p := h.elim (fun h => h.1.1) (·.1)
theorem PrOk.cop {m p : Int} (h : PrOk m p) (d : ¬ p ∣ m) : Int.gcd p m = 1 := h.elim (fun h => (QR.pm_cop h.1).mpr d) (·.2)
theorem PrOk.dvd {m m' p : Int} (h : PrOk m p) (d : m' ∣ m) : PrOk m' p := h.imp_right fun h => ⟨h.1, QR.cop_dvd_right h.2 d⟩
theorem PrOk.ndvd {m p : Int} (h2 : 2 ≤ p) (h : Int.gcd p m = 1) : ¬ p ∣ m := fun d => by
  have e := QR.dvd_gcd (Int.dvd_refl p) d
  rw [h] at e
  have := Int.le_of_dvd (by decide) e
  omega
theorem memP_next {m q : Int} {R L S : List Int} (hq : QR.Pm q) (hs : 1 ≤ m / q) (hd : q ∣ m) (h : Short m R (m / q) L) {p : Int} (hp : PrOk m p) : memP (m / q) L (nextS (m / q) L S q) p ↔ memP m R S p := by
  have hm : m = m / q * q := (Int.ediv_mul_cancel hd).symm
  unfold memP nextS
  by_cases e : p = q
  · subst e
    have op : QR.OP p := hp.elim id fun z => absurd hd (PrOk.ndvd z.1 z.2)
    have p2 : p ≠ 2 := fun z => by have := op.2; omega
    have t0 : ¬ toldP m R p := fun z => z.1 hd
    by_cases t : toldP (m / p) L p
    · rw [if_pos ⟨p2, t⟩, mem_tog, if_pos rfl]
      simp [t, t0]
    · rw [if_neg fun z => t z.2]
      simp [t, t0]
  · have td : p ∣ m ↔ p ∣ m / q := by
      constructor
      · intro z
        rcases hp with hp | hp
        · rw [hm] at z
          rcases QR.Pm.dvd_mul hp.1 z with z | z
          · exact z
          · exfalso
            have p2 := hp.1.1
            rcases Int.lt_or_eq_of_le (Int.le_of_dvd (by have := hq.1; omega) z) with y | y
            · exact hq.2 p p2 y z
            · exact e y
        · exact absurd z (PrOk.ndvd hp.1 hp.2)
      · intro z
        rw [hm]
        exact Int.dvd_mul_of_dvd_left z
    have t : toldP (m / q) L p ↔ toldP m R p := by
      unfold toldP
      rw [td]
      by_cases z : p ∣ m / q
      · simp [z]
      · have := h.same p (hp.cop fun y => z (td.mp y))
        simp [z, this]
    rw [t]
    have s : p ∈ (if q ≠ 2 ∧ toldP (m / q) L q then togL S q else S) ↔ p ∈ S := by
      split
      · rw [mem_tog, if_neg e]
      · exact Iff.rfl
    rw [s]
/-! part m_facs -/
theorem pow_dvd {p q : Int} (hp : QR.Pm p) (hq : QR.Pm q) : ∀ e : Nat, p ∣ q ^ e → p = q
  | 0, h => by
    rw [Int.pow_zero] at h
    have := Int.le_of_dvd (by decide) h
    have := hp.1
    omega
  | e + 1, h => by
    rw [Int.pow_succ] at h
    rcases QR.Pm.dvd_mul hp h with h | h
    · exact pow_dvd hp hq e h
    · rcases Int.lt_or_eq_of_le (Int.le_of_dvd (by have := hq.1; omega) h) with z | z
      · exact absurd h (hq.2 p hp.1 z)
      · exact z
theorem prodF_dvd {p : Int} (hp : QR.Pm p) : ∀ {fs : List (Int × Nat)}, (∀ x, x ∈ fs → QR.Pm x.1 ∧ 1 ≤ x.2) → (p ∣ prodF fs ↔ ∃ x ∈ fs, x.1 = p)
  | [], _ => by
    constructor
    · intro h
      have := Int.le_of_dvd (by simp [prodF]) h
      have := hp.1
      simp [prodF] at *
      omega
    · rintro ⟨x, h, _⟩
      cases h
  | y :: fs, h => by
    have ih := prodF_dvd hp (fs := fs) fun x hx => h x (List.mem_cons_of_mem _ hx)
    obtain ⟨y1, y2⟩ := h y List.mem_cons_self
    constructor
    · intro d
      rcases QR.Pm.dvd_mul hp (show p ∣ y.1 ^ y.2 * prodF fs from d) with d | d
      · exact ⟨y, List.mem_cons_self, (pow_dvd hp y1 _ d).symm⟩
      · obtain ⟨x, hx, e⟩ := ih.mp d
        exact ⟨x, List.mem_cons_of_mem _ hx, e⟩
    · rintro ⟨x, hx, e⟩
      show p ∣ y.1 ^ y.2 * prodF fs
      rcases List.mem_cons.mp hx with rfl | hx
      · refine Int.dvd_mul_of_dvd_left ?_
        rw [e]
        obtain ⟨k, hk⟩ : ∃ k, x.2 = k + 1 := ⟨x.2 - 1, by omega⟩
        rw [hk, Int.pow_succ]
        exact Int.dvd_mul_left _ _
      · exact Int.dvd_mul_of_dvd_right (ih.mpr ⟨x, hx, e⟩)
theorem FacOk.mem {n p : Int} {fs : List (Int × Nat)} (h : FacOk n fs) : (∃ x ∈ fs, x.1 = p) ↔ QR.Pm p ∧ p ∣ n := by
  constructor
  · rintro ⟨x, hx, rfl⟩
    have hp := (h.prime x hx).1
    exact ⟨hp, by rw [← h.prod]; exact (prodF_dvd hp h.prime).mpr ⟨x, hx, rfl⟩⟩
  · rintro ⟨hp, d⟩
    rw [← h.prod] at d
    exact (prodF_dvd hp h.prime).mp d
theorem FacOk.len {n : Int} {fs : List (Int × Nat)} (h : FacOk n fs) (hn : n < 2 ^ 99) : fs.length < 100 := by
  have := prodF_big fs h.prime
  rw [h.prod] at this
  rcases Nat.lt_or_ge fs.length 100 with z | z
  · exact z
  · exfalso
    have a : (2 : Nat) ^ 100 ≤ 2 ^ fs.length := Nat.pow_le_pow_right (by decide) z
    have b : ((2 ^ fs.length : Nat) : Int) = 2 ^ fs.length := by rw [Int.natCast_pow]; rfl
    have c : (2 : Int) ^ 99 < ((2 ^ 100 : Nat) : Int) := by decide
    omega
/-! part m_least -/
structure LeastOk (m : Int) (R S : List Int) (m' : Int) (R' S' : List Int) : Prop where
  desc : Desc m' R' S'
  sub : Sub m R m' R'
  rn : R'.Nodup
  sn : S'.Nodup
  mem : ∀ p, PrOk m p → (memP m' R' S' p ↔ memP m R S p)
  len : m' * 2 ^ S'.length ≤ m * 2 ^ S.length
  src : ∀ p ∈ S', p ∈ S ∨ p ∣ m
/-- no divisor of the modulus by one of its primes tells as much -/
def LowAt (m : Int) (R : List Int) (q : Int) : Prop := q ∣ m → ¬ Lv m R (m / q)
theorem LeastOk.refl {m : Int} {R S : List Int} (h : Desc m R S) (rn : R.Nodup) (sn : S.Nodup) : LeastOk m R S m R S := ⟨h, Sub.refl m R, rn, sn, fun _ _ => Iff.rfl, Int.le_refl _, fun _ h => .inl h⟩
section
variable {m m' q : Int} {R S R' S' L : List Int}
theorem div_pos_of {m q : Int} (hm : 1 ≤ m) (hq : 2 ≤ q) (hd : q ∣ m) : 1 ≤ m / q ∧ m / q + 1 ≤ m := by
  have e := Int.ediv_mul_cancel hd
  have a : 1 ≤ m / q := by
    rcases Int.lt_or_le 0 (m / q) with z | z
    · exact z
    · have := Int.mul_le_mul_of_nonneg_right z (show 0 ≤ q by omega)
      omega
  refine ⟨a, ?_⟩
  have := Int.mul_le_mul_of_nonneg_left hq (show 0 ≤ m / q by omega)
  omega
theorem pow2_mono {a b : Nat} (h : a ≤ b) : (2 : Int) ^ a ≤ 2 ^ b := by
  have := Nat.pow_le_pow_right (show 0 < 2 by decide) h
  exact_mod_cast this
theorem LeastOk.next (h : LeastOk m R S m' R' S') (hq : QR.Pm q) (hd : q ∣ m') (k : Short m' R' (m' / q) L) : LeastOk m R S (m' / q) L (nextS (m' / q) L S' q) := by
  have q2 := hq.1
  obtain ⟨s1, s2⟩ := div_pos_of h.desc.pos q2 hd
  refine ⟨⟨s1, fun r hr => ?_, fun p hp => ?_⟩, h.sub.trans (k.sub ⟨q, (Int.ediv_mul_cancel hd).symm⟩), k.inc.imp fun h => by omega, ?_, fun p hp => (memP_next hq s1 hd k (hp.dvd h.sub.dvd)).trans (h.mem p hp), ?_, fun p hp => ?_⟩
  · exact mem_uL.mp (k.mem r hr)
  · unfold nextS at hp
    split at hp
    · rename_i z
      rw [mem_tog] at hp
      by_cases e : p = q
      · exact ⟨e ▸ hq, QR.pm_odd (e ▸ hq) (by omega)⟩
      · rw [if_neg e] at hp
        exact h.desc.singles p hp
    · exact h.desc.singles p hp
  · unfold nextS
    split
    · exact tog_nodup h.sn
    · exact h.sn
  · refine Int.le_trans ?_ h.len
    have a : (2 : Int) ^ (nextS (m' / q) L S' q).length ≤ 2 ^ S'.length * 2 := by
      rw [← Int.pow_succ]
      refine pow2_mono ?_
      unfold nextS
      split
      · exact tog_len
      · omega
    refine Int.le_trans (Int.mul_le_mul_of_nonneg_left a (by omega)) ?_
    rw [Int.mul_comm (2 ^ S'.length), ← Int.mul_assoc]
    refine Int.mul_le_mul_of_nonneg_right ?_ (Int.pow_nonneg (by decide))
    have := Int.mul_le_mul_of_nonneg_left q2 (show 0 ≤ m' / q by omega)
    rw [Int.ediv_mul_cancel hd] at this
    exact this
  · unfold nextS at hp
    split at hp
    · rw [mem_tog] at hp
      by_cases e : p = q
      · exact .inr (e ▸ Int.dvd_trans hd h.sub.dvd)
      · rw [if_neg e] at hp
        exact h.src p hp
    · exact h.src p hp
theorem LeastOk.few (h : LeastOk m R S m' R' S') (hm : m ≤ 4000) : S'.length ≤ S.length + 11 := by
  rcases Nat.lt_or_ge (S.length + 11) S'.length with z | z
  · exfalso
    have a := h.len
    have b : (2 : Int) ^ S.length * 2 ^ 12 ≤ 2 ^ S'.length := by
      rw [← Int.pow_add]
      exact pow2_mono (by omega)
    have c : m * 2 ^ S.length ≤ 4000 * 2 ^ S.length := Int.mul_le_mul_of_nonneg_right hm (Int.pow_nonneg (by decide))
    have d := Int.mul_le_mul_of_nonneg_right h.desc.pos (show (0 : Int) ≤ 2 ^ S'.length from Int.pow_nonneg (by decide))
    have p0 : (0 : Int) < 2 ^ S.length := Int.pow_pos (by decide)
    omega
  · exact z
theorem LowAt.next {q0 : Int} (l : LowAt m' R' q0) (hq : QR.Pm q) (hq0 : QR.Pm q0) (p1 : 1 ≤ m') (hd : q ∣ m') (k : Short m' R' (m' / q) L) : LowAt (m' / q) L q0 := by
  intro d z
  have e := (Int.ediv_mul_cancel hd)
  have d' : q0 ∣ m' := by rw [← e]; exact Int.dvd_mul_of_dvd_left d
  have q2 := hq0.1
  have e2 := Int.ediv_mul_cancel d
  have e3 : m' = m' / q / q0 * q * q0 := by rw [Int.mul_assoc, Int.mul_comm q q0, ← Int.mul_assoc, e2, e]
  exact l d' (Lv.up (k.sub ⟨q, e.symm⟩) z ⟨q, Int.ediv_eq_of_eq_mul_left (by omega) e3⟩)
theorem lowAt_of_not (h : ¬ Lv m R (m / q)) : LowAt m R q := fun _ => h
theorem lowAt_nd (h : ¬ q ∣ m) : LowAt m R q := fun z => absurd z h
theorem dvd_next {x : Int} (hx : QR.Pm x) (hq : QR.Pm q) (hd : q ∣ m) (h : x ∣ m) (ne : x ≠ q) : x ∣ m / q := by
  rw [← Int.ediv_mul_cancel hd] at h
  rcases QR.Pm.dvd_mul hx h with z | z
  · exact z
  · exfalso
    rcases Int.lt_or_eq_of_le (Int.le_of_dvd (by have := hq.1; omega) z) with y | y
    · exact hq.2 x hx.1 y z
    · exact ne y
end
/-- a least description, in order -/
structure IsLeast (m : Int) (R S : List Int) : Prop where
  desc : Desc m R S
  ri : R.Pairwise (· < ·)
  si : S.Pairwise (· < ·)
  low : ∀ q, QR.Pm q → LowAt m R q
/-- what making a set gives -/
structure Made (m : Int) (R S : List Int) (m' : Int) (R' S' : List Int) : Prop where
  least : IsLeast m' R' S'
  sub : Sub m R m' R'
  mem : ∀ p, PrOk m p → (memP m' R' S' p ↔ memP m R S p)
  few : S'.length ≤ S.length + 11
  src : ∀ p ∈ S', p ∈ S ∨ p ∣ m
def SameL (a b : List Int) : Prop := ∀ k, k ∈ a ↔ k ∈ b
theorem Lv.congr {m : Int} {R R' : List Int} {s : Int} (h : SameL R R') : Lv m R s ↔ Lv m R' s := by
  unfold Lv
  exact ⟨fun l x y a b c => by rw [← h, ← h]; exact l x y a b c, fun l x y a b c => by rw [h, h]; exact l x y a b c⟩
theorem toldP_congr {m p : Int} {R R' : List Int} (h : SameL R R') : toldP m R p ↔ toldP m R' p := by
  unfold toldP
  rw [h]
theorem memP_congr {m p : Int} {R R' S S' : List Int} (h : SameL R R') (k : SameL S S') : memP m R S p ↔ memP m R' S' p := by
  unfold memP
  rw [toldP_congr h, k]
theorem LeastOk.made {m : Int} {R S R0 S0 : List Int} {m' : Int} {R1 S1 R' S' : List Int} (h : LeastOk m R0 S0 m' R1 S1) (low : ∀ q, QR.Pm q → LowAt m' R1 q) (hm : m ≤ 4000) (e1 : SameL R0 R) (e2 : SameL S0 S) (l0 : S0.length ≤ S.length) (e3 : SameL R' R1) (e4 : SameL S' S1) (l1 : S'.length ≤ S1.length) (r : R'.Pairwise (· < ·)) (s : S'.Pairwise (· < ·)) : Made m R S m' R' S' := by
  refine ⟨⟨⟨h.desc.pos, fun x hx => h.desc.rests x ((e3 x).mp hx), fun x hx => h.desc.singles x ((e4 x).mp hx)⟩, r, s, fun q hq d z => low q hq d ((Lv.congr e3).mp z)⟩, ⟨h.sub.dvd, fun x hx => ?_⟩, fun p hp => ?_, ?_, fun p hp => ?_⟩
  · rw [e3, h.sub.same x hx, e1]
  · rw [memP_congr e3 e4, h.mem p hp, memP_congr e1 e2]
  · have := h.few hm
    omega
  · exact (h.src p ((e4 p).mp hp)).imp_left (e2 p).mp
theorem nodup_sub_len : ∀ {l s : List Int}, l.Nodup → (∀ k ∈ l, k ∈ s) → l.length ≤ s.length
  | [], _, _, _ => Nat.zero_le _
  | k :: l, s, h, hs => by
    have hk := hs k List.mem_cons_self
    obtain ⟨h1, h2⟩ := List.nodup_cons.mp h
    have := nodup_sub_len (l := l) (s := s.erase k) h2 fun j hj => (List.mem_erase_of_ne fun (e : j = k) => h1 (e ▸ hj)).mpr (hs j (List.mem_cons_of_mem _ hj))
    rw [List.length_erase_of_mem hk] at this
    have := List.length_pos_of_mem hk
    rw [List.length_cons]
    omega
/-- a unit of a divisor comes from a unit -/
theorem unit_lift : ∀ (n : Nat) {m s r : Int}, 0 < s → m = s * n → 0 < n → r ∈ uL s → ∃ x, Int.gcd x m = 1 ∧ x % s = r := by
  intro n
  induction n using Nat.strongRecOn with
  | _ n ih =>
    intro m s r hs hm hn hr
    rcases Nat.lt_or_ge n 2 with h | h
    · obtain ⟨r0, r1, rc⟩ := mem_uL.mp hr
      have : n = 1 := by omega
      subst this
      refine ⟨r, ?_, Int.emod_eq_of_lt r0 r1⟩
      rw [hm, show s * ((1 : Nat) : Int) = s by simp]
      exact rc
    · obtain ⟨q, hq, hd⟩ := QR.exists_pm n h
      have q2 := hq.1
      obtain ⟨l, hl⟩ := List.exists_mem_of_ne_nil _ (lft_ne (m := s * q) hq hs rfl hr)
      obtain ⟨c, e1, e2⟩ := lft_prop hs rfl hr hl
      obtain ⟨k, hk⟩ := hd
      have sq : 0 < s * q := Int.mul_pos hs (by omega)
      have k0 : 0 < k := by
        rcases Int.lt_or_le 0 k with z | z
        · exact z
        · have := Int.mul_le_mul_of_nonneg_left z (show 0 ≤ q by omega)
          omega
      have hu : l ∈ uL (s * q) := mem_uL.mpr ⟨by rw [← e1]; exact Int.emod_nonneg _ (by omega), by rw [← e1]; exact Int.emod_lt_of_pos _ sq, c⟩
      have kn : k.toNat < n := by
        have := Int.mul_le_mul_of_nonneg_right q2 (show 0 ≤ k by omega)
        omega
      obtain ⟨x, x1, x2⟩ := ih k.toNat kn sq (show m = s * q * ((k.toNat : Nat) : Int) by rw [hm, hk, show ((k.toNat : Nat) : Int) = k by omega, Int.mul_assoc, Int.mul_comm q k]) (by omega) hu
      refine ⟨x, x1, ?_⟩
      have : x % (s * q) % s = x % s := Int.emod_emod_of_dvd x ⟨q, rfl⟩
      rw [← this, x2, e2]
theorem Sub.lift {m m' : Int} {R R' : List Int} (h : Sub m R m' R') (m1 : 1 ≤ m) (m2 : 1 ≤ m') {r : Int} (hr : r ∈ uL m') : ∃ x, Int.gcd x m = 1 ∧ x % m' = r := by
  obtain ⟨k, hk⟩ := h.dvd
  have k0 : 0 < k := by
    rcases Int.lt_or_le 0 k with z | z
    · exact z
    · have := Int.mul_le_mul_of_nonneg_left z (show 0 ≤ m' by omega)
      omega
  exact unit_lift k.toNat (by omega) (by rw [hk, show ((k.toNat : Nat) : Int) = k by omega]) (by omega) hr
theorem Made.nil_iff {m m' : Int} {R S R' S' : List Int} (h : Made m R S m' R' S') (m1 : 1 ≤ m) (hR : ∀ r ∈ R, 0 ≤ r ∧ r < m ∧ Int.gcd r m = 1) : R' = [] ↔ R = [] := by
  constructor
  · intro e
    refine List.eq_nil_iff_forall_not_mem.mpr fun r hr => ?_
    obtain ⟨r0, r1, rc⟩ := hR r hr
    have := (h.sub.same r rc).mpr (by rw [Int.emod_eq_of_lt r0 r1]; exact hr)
    rw [e] at this
    cases this
  · intro e
    refine List.eq_nil_iff_forall_not_mem.mpr fun r hr => ?_
    obtain ⟨x, x1, x2⟩ := h.sub.lift m1 h.least.desc.pos (mem_uL.mpr (h.least.desc.rests r hr))
    have := (h.sub.same x x1).mp (by rw [x2]; exact hr)
    rw [e] at this
    cases this
/-- no rests, and no singles but those told -/
theorem Made.nil_sing {m m' : Int} {S R' S' : List Int} (h : Made m [] S m' R' S') (m1 : 1 ≤ m) : R' = [] ∧ ∀ p, QR.OP p → (p ∈ S' ↔ p ∈ S) := by
  have e := (h.nil_iff m1 fun r hr => absurd hr List.not_mem_nil).mpr rfl
  refine ⟨e, fun p hp => ?_⟩
  have := h.mem p (.inl hp)
  subst e
  simpa [memP, toldP] using this
/-! part m_can -/
theorem bez : ∀ (b a : Nat), ∃ u v : Int, (a : Int) * u + b * v = (Nat.gcd a b : Nat) := by
  intro b
  induction b using Nat.strongRecOn with
  | _ b ih =>
    intro a
    rcases Nat.eq_zero_or_pos b with h | h
    · subst h
      exact ⟨1, 0, by simp⟩
    · obtain ⟨u, v, e⟩ := ih (a % b) (Nat.mod_lt _ h) b
      refine ⟨v, u - (a / b : Nat) * v, ?_⟩
      have g : Nat.gcd a b = Nat.gcd b (a % b) := by rw [Nat.gcd_comm a b, Nat.gcd_rec b a, Nat.gcd_comm]
      rw [g, ← e]
      have d : (a : Int) = b * (a / b : Nat) + (a % b : Nat) := by
        have := Nat.div_add_mod a b
        omega
      generalize ((a / b : Nat) : Int) = q at *
      generalize ((a % b : Nat) : Int) = r at *
      rw [d]
      grind
theorem crt {s t x y : Int} (hs : 0 ≤ s) (ht : 0 ≤ t) (h : ((Int.gcd s t : Nat) : Int) ∣ x - y) : ∃ z, s ∣ z - x ∧ t ∣ z - y := by
  obtain ⟨u, v, e⟩ := bez t.toNat s.toNat
  obtain ⟨k, hk⟩ := h
  have g : Nat.gcd s.toNat t.toNat = Int.gcd s t := by
    rw [Int.gcd]
    congr 1 <;> omega
  rw [g, show ((s.toNat : Nat) : Int) = s by omega, show ((t.toNat : Nat) : Int) = t by omega] at e
  rw [← e] at hk
  exact ⟨x - s * u * k, ⟨-(u * k), by grind⟩, ⟨v * k, by grind⟩⟩
theorem lift_of_dvd {m L z : Int} (m1 : 1 ≤ m) (L0 : 0 ≤ L) (d : L ∣ m) (h : Int.gcd z L = 1) : ∃ w, Int.gcd w m = 1 ∧ L ∣ w - z := by
  obtain ⟨k, hk⟩ := d
  have L1 : 0 < L := by
    rcases Int.lt_or_eq_of_le L0 with c | c
    · exact c
    · rw [← c, Int.zero_mul] at hk
      omega
  have k0 : 0 < k := by
    rcases Int.lt_or_le 0 k with c | c
    · exact c
    · have := Int.mul_le_mul_of_nonneg_left c (show 0 ≤ L by omega)
      omega
  obtain ⟨w, w1, w2⟩ := unit_lift k.toNat (m := m) (r := z % L) L1 (by rw [hk, show ((k.toNat : Nat) : Int) = k by omega]) (by omega) (mem_uL.mpr ⟨Int.emod_nonneg _ (by omega), Int.emod_lt_of_pos _ L1, QR.cop_emod.mpr h⟩)
  exact ⟨w, w1, QR.dvd_of_emod_eq w2⟩
section
variable {m s t : Int} {R : List Int}
/-- a unit of the whole with given rests, where they agree -/
theorem meet {x y : Int} (m1 : 1 ≤ m) (s1 : 1 ≤ s) (t1 : 1 ≤ t) (hs : s ∣ m) (ht : t ∣ m) (hx : Int.gcd x m = 1) (hy : Int.gcd y m = 1) (d : ((Int.gcd s t : Nat) : Int) ∣ x - y) : ∃ z, Int.gcd z m = 1 ∧ s ∣ z - x ∧ t ∣ z - y := by
  obtain ⟨z, zx, zy⟩ := crt (by omega) (by omega) d
  have hL : ((Int.lcm s t : Nat) : Int) ∣ m := Int.coe_lcm_dvd hs ht
  have sL : s ∣ ((Int.lcm s t : Nat) : Int) := Int.dvd_lcm_left ..
  have tL : t ∣ ((Int.lcm s t : Nat) : Int) := Int.dvd_lcm_right ..
  have Lst : ((Int.lcm s t : Nat) : Int) ∣ s * t := Int.coe_lcm_dvd (Int.dvd_mul_right ..) (Int.dvd_mul_left ..)
  have lcm0 : (0 : Int) ≤ ((Int.lcm s t : Nat) : Int) := by omega
  generalize ((Int.lcm s t : Nat) : Int) = L at *
  have cz : Int.gcd z L = 1 := QR.cop_iff.mpr fun p hp a b => by
    rcases QR.Pm.dvd_mul hp (Int.dvd_trans b Lst) with c | c
    · refine QR.cop_iff.mp hx p hp ?_ (Int.dvd_trans c hs)
      have := Int.dvd_sub a (Int.dvd_trans c zx)
      rwa [show z - (z - x) = x by omega] at this
    · refine QR.cop_iff.mp hy p hp ?_ (Int.dvd_trans c ht)
      have := Int.dvd_sub a (Int.dvd_trans c zy)
      rwa [show z - (z - y) = y by omega] at this
  obtain ⟨w, w1, w2⟩ := lift_of_dvd m1 lcm0 hL cz
  refine ⟨w, w1, ?_, ?_⟩
  · have := Int.dvd_add (Int.dvd_trans sL w2) zx
    rwa [show w - z + (z - x) = w - x by omega] at this
  · have := Int.dvd_add (Int.dvd_trans tL w2) zy
    rwa [show w - z + (z - y) = w - y by omega] at this
/-- what two divisors tell, their common divisor tells -/
theorem Lv.gcd (m1 : 1 ≤ m) (s1 : 1 ≤ s) (t1 : 1 ≤ t) (hs : s ∣ m) (ht : t ∣ m) (a : Lv m R s) (b : Lv m R t) : Lv m R ((Int.gcd s t : Nat) : Int) := by
  intro x y hx hy d
  obtain ⟨w, w1, w2, w3⟩ := meet m1 s1 t1 hs ht hx hy d
  exact (a w x w1 hx w2).symm.trans (b w y w1 hy w3)
theorem Lv.mono (h : Lv m R s) (d : s ∣ t) : Lv m R t := fun x y hx hy e => h x y hx hy (Int.dvd_trans d e)
/-- told ahead of a shortening, told behind it -/
theorem Lv.down {m' : Int} {R' : List Int} (h : Sub m R m' R') (m1 : 1 ≤ m) (p1 : 1 ≤ m') (l : Lv m R s) (d : s ∣ m') : Lv m' R' s := fun x y hx hy e => by
  obtain ⟨u, u1, u2⟩ := lift_of_dvd m1 (by omega) h.dvd hx
  obtain ⟨v, v1, v2⟩ := lift_of_dvd m1 (by omega) h.dvd hy
  have := l u v u1 v1 (by
    have a := Int.dvd_sub (Int.dvd_add (Int.dvd_trans d u2) e) (Int.dvd_trans d v2)
    rwa [show u - x + (x - y) - (v - y) = u - v by omega] at a)
  rw [← h.same u u1, ← h.same v v1, QR.emod_eq_of_dvd u2, QR.emod_eq_of_dvd v2] at this
  exact this
/-- a least modulus divides each that tells as much -/
theorem low_dvd {m' : Int} {R' : List Int} (h : Sub m R m' R') (m1 : 1 ≤ m) (p1 : 1 ≤ m') (low : ∀ q, QR.Pm q → LowAt m' R' q) (t1 : 1 ≤ t) (ht : t ∣ m) (l : Lv m R t) : m' ∣ t := by
  have lm : Lv m R m' := fun x y hx hy e => by rw [← h.same x hx, ← h.same y hy, QR.emod_eq_of_dvd e]
  have lg := Lv.gcd m1 p1 t1 h.dvd ht lm l
  have gd : ((Int.gcd m' t : Nat) : Int) ∣ m' := Int.gcd_dvd_left ..
  have gt : ((Int.gcd m' t : Nat) : Int) ∣ t := Int.gcd_dvd_right ..
  have g0 : 0 ≤ ((Int.gcd m' t : Nat) : Int) := by omega
  generalize ((Int.gcd m' t : Nat) : Int) = g at *
  obtain ⟨k, hk⟩ := gd
  have k1 : 1 ≤ k := by
    rcases Int.lt_or_le 0 k with c | c
    · omega
    · have := Int.mul_le_mul_of_nonneg_left c g0
      omega
  rcases Int.lt_or_le k 2 with c | c
  · have : k = 1 := by omega
    rw [this, Int.mul_one] at hk
    exact hk ▸ gt
  · exfalso
    obtain ⟨q, hq, qd⟩ := QR.exists_pm k.toNat (by omega)
    rw [show ((k.toNat : Nat) : Int) = k by omega] at qd
    obtain ⟨j, hj⟩ := qd
    have q2 := hq.1
    have e : m' = g * j * q := by rw [hk, hj, Int.mul_assoc, Int.mul_comm q j]
    have md : q ∣ m' := ⟨g * j, by rw [e, Int.mul_comm]⟩
    have mq : m' / q = g * j := Int.ediv_eq_of_eq_mul_left (by omega) e
    refine low q hq md (Lv.down h m1 p1 (Lv.mono lg ⟨j, mq⟩) ⟨q, ?_⟩)
    rw [mq]
    exact e
end
theorem inc_same : ∀ {a b : List Int}, a.Pairwise (· < ·) → b.Pairwise (· < ·) → (∀ k, k ∈ a ↔ k ∈ b) → a = b
  | [], [], _, _, _ => rfl
  | [], y :: b, _, _, h => absurd ((h y).mpr List.mem_cons_self) List.not_mem_nil
  | x :: a, [], _, _, h => absurd ((h x).mp List.mem_cons_self) List.not_mem_nil
  | x :: a, y :: b, ha, hb, h => by
    obtain ⟨a1, a2⟩ := List.pairwise_cons.mp ha
    obtain ⟨b1, b2⟩ := List.pairwise_cons.mp hb
    have e : x = y := by
      rcases List.mem_cons.mp ((h x).mp List.mem_cons_self) with e | m1
      · exact e
      · rcases List.mem_cons.mp ((h y).mpr List.mem_cons_self) with e | m2
        · exact e.symm
        · have := b1 x m1
          have := a1 y m2
          omega
    subst e
    rw [inc_same a2 b2 fun k => ?_]
    constructor
    · intro hk
      rcases List.mem_cons.mp ((h k).mp (List.mem_cons_of_mem _ hk)) with e | z
      · have := a1 k hk
        omega
      · exact z
    · intro hk
      rcases List.mem_cons.mp ((h k).mpr (List.mem_cons_of_mem _ hk)) with e | z
      · have := b1 k hk
        omega
      · exact z
/-- two least descriptions with the same germ and members are one -/
theorem least_unique {M m1 m2 : Int} {R1 R2 S1 S2 : List Int} (M1 : 1 ≤ M) (d1 : m1 ∣ M) (d2 : m2 ∣ M) (l1 : IsLeast m1 R1 S1) (l2 : IsLeast m2 R2 S2) (g : ∀ x, Int.gcd x M = 1 → (x % m1 ∈ R1 ↔ x % m2 ∈ R2)) (mem : ∀ p, QR.OP p → (memP m1 R1 S1 p ↔ memP m2 R2 S2 p)) : m1 = m2 ∧ R1 = R2 ∧ S1 = S2 := by
  have p1 := l1.desc.pos
  have p2 := l2.desc.pos
  have s1 : Sub M ((uL M).filter fun u => decide (u % m1 ∈ R1)) m1 R1 := ⟨d1, fun x hx => by
    rw [List.mem_filter, decide_eq_true_iff, Int.emod_emod_of_dvd x d1]
    exact ⟨fun h => ⟨unit_of (Int.dvd_refl M) (by omega) hx, h⟩, fun h => h.2⟩⟩
  have s2 : Sub M ((uL M).filter fun u => decide (u % m1 ∈ R1)) m2 R2 := ⟨d2, fun x hx => by
    rw [← g x hx, s1.same x hx]⟩
  have lv : ∀ {m' : Int} {R' : List Int}, Sub M ((uL M).filter fun u => decide (u % m1 ∈ R1)) m' R' → Lv M ((uL M).filter fun u => decide (u % m1 ∈ R1)) m' := fun h x y hx hy e => by rw [← h.same x hx, ← h.same y hy, QR.emod_eq_of_dvd e]
  have e : m1 = m2 := Int.le_antisymm (Int.le_of_dvd (by omega) (low_dvd s1 M1 p1 l1.low p2 d2 (lv s2))) (Int.le_of_dvd (by omega) (low_dvd s2 M1 p2 l2.low p1 d1 (lv s1)))
  subst e
  have eR : R1 = R2 := inc_same l1.ri l2.ri fun r => by
    constructor
    · intro hr
      obtain ⟨x, x1, x2⟩ := s1.lift M1 p1 (mem_uL.mpr (l1.desc.rests r hr))
      have := (g x x1).mp (by rw [x2]; exact hr)
      rwa [x2] at this
    · intro hr
      obtain ⟨x, x1, x2⟩ := s1.lift M1 p1 (mem_uL.mpr (l2.desc.rests r hr))
      have := (g x x1).mpr (by rw [x2]; exact hr)
      rwa [x2] at this
  subst eR
  refine ⟨rfl, rfl, inc_same l1.si l2.si fun p => ?_⟩
  by_cases hp : QR.OP p
  · have := mem p hp
    unfold memP at this
    by_cases t : toldP m1 R1 p <;> by_cases a : p ∈ S1 <;> by_cases b : p ∈ S2 <;> simp [t, a, b] at this ⊢
  · exact ⟨fun h => absurd (l1.desc.singles p h) hp, fun h => absurd (l2.desc.singles p h) hp⟩
/-! part m_k41 -/
def bigS : List Int := [3, 5, 7, 11, 13, 29, 7919, 99991]
theorem bigS_op : ∀ p ∈ bigS, QR.OP p ∧ p < 2 ^ 120 := by
  intro p h
  simp only [bigS, List.mem_cons, List.not_mem_nil, or_false] at h
  rcases h with rfl | rfl | rfl | rfl | rfl | rfl | rfl | rfl
  · exact ⟨QR.op_by (n := 3) 2 (by decide) (by decide) (by decide) (by decide +kernel), by decide⟩
  · exact ⟨QR.op_by (n := 5) 3 (by decide) (by decide) (by decide) (by decide +kernel), by decide⟩
  · exact ⟨QR.op_by (n := 7) 3 (by decide) (by decide) (by decide) (by decide +kernel), by decide⟩
  · exact ⟨QR.op_by (n := 11) 4 (by decide) (by decide) (by decide) (by decide +kernel), by decide⟩
  · exact ⟨QR.op_by (n := 13) 4 (by decide) (by decide) (by decide) (by decide +kernel), by decide⟩
  · exact ⟨QR.op_by (n := 29) 6 (by decide) (by decide) (by decide) (by decide +kernel), by decide⟩
  · exact ⟨QR.op_by (n := 7919) 90 (by decide) (by decide) (by decide) (by decide +kernel), by decide⟩
  · exact ⟨QR.op_by (n := 99991) 320 (by decide) (by decide) (by decide) (by decide +kernel), by decide⟩
theorem cop_all (n : Nat) (h : (List.range 4001).all (fun m => m == 0 || Nat.gcd n m == 1) = true) (m : Int) (m1 : 1 ≤ m) (m2 : m ≤ 4000) : Int.gcd (n : Int) m = 1 := by
  have := List.all_eq_true.mp h m.toNat (List.mem_range.mpr (by omega))
  rw [Bool.or_eq_true, beq_iff_eq, beq_iff_eq] at this
  rcases this with z | z
  · omega
  · have e : Int.gcd (n : Int) m = Nat.gcd n m.toNat := by
      rw [Int.gcd, Int.natAbs_natCast]
      congr 1
      omega
    rw [e]
    exact z
theorem cop_m61 (m : Int) (m1 : 1 ≤ m) (m2 : m ≤ 4000) : Int.gcd 2305843009213693951 m = 1 := cop_all 2305843009213693951 (by decide +kernel) m m1 m2
theorem cop_e9 (m : Int) (m1 : 1 ≤ m) (m2 : m ≤ 4000) : Int.gcd 1000000007 m = 1 := cop_all 1000000007 (by decide +kernel) m m1 m2
/-- good for every modulus -/
def GoodP (p : Int) : Prop := 2 ≤ p ∧ ∀ m : Int, 1 ≤ m → m ≤ 4000 → PrOk m p
theorem goodP_op {p : Int} (h : QR.OP p) : GoodP p := ⟨h.1.1, fun _ _ _ => .inl h⟩
theorem goodP_tail {q : Int} (h : QR.OP q) : ∀ p ∈ [q, 7919, 99991, 1000000007, 2305843009213693951], GoodP p := by
  intro p hp
  simp only [List.mem_cons, List.not_mem_nil, or_false] at hp
  rcases hp with rfl | rfl | rfl | rfl | rfl
  · exact goodP_op h
  · exact goodP_op (bigS_op _ (by decide)).1
  · exact goodP_op (bigS_op _ (by decide)).1
  · exact ⟨by decide, fun m a b => .inr ⟨by decide, cop_e9 m a b⟩⟩
  · exact ⟨by decide, fun m a b => .inr ⟨by decide, cop_m61 m a b⟩⟩
theorem mem_every {p : Int} (h : 2 ≤ p) : memP 1 [0] [] p := by
  have : ¬ p ∣ 1 := fun d => by
    have := Int.le_of_dvd (by decide) d
    omega
  simp [memP, toldP, this, Int.emod_one]
theorem mem_none {p : Int} : ¬ memP 1 [] [] p := by simp [memP, toldP]
theorem mem_only {p : Int} {S : List Int} : memP 1 [] S p ↔ p ∈ S := by simp [memP, toldP]
theorem ints_pool {R : List Int} {u v : V} {b : Bool} : R.map V.int ≠ [u, v, .bl b] := fun h => by
  have : V.bl b ∈ R.map V.int := by rw [h]; simp
  obtain ⟨_, _, e⟩ := List.mem_map.mp this
  cases e
theorem ints_row {R : List Int} {u v : V} {b : Addr} : R.map V.int ≠ [u, v, .ref b] := fun h => by
  have : V.ref b ∈ R.map V.int := by rw [h]; simp
  obtain ⟨_, _, e⟩ := List.mem_map.mp this
  cases e
theorem ne_lst {H : Hp} {a p : Addr} {xs ys : List V} (ha : H a = some (.lst xs)) (hp : H p = some (.lst ys)) (n : xs ≠ ys) : a ≠ p := fun z => by
  rw [z, hp] at ha
  exact n (by injection ha with e; injection e with e; exact e.symm)
theorem cut1 {xs : List V} : cutV xs none (some 1) = xs.take 1 := by
  cases xs <;> simp [cutV, HT.sIx]
theorem mem_pass {R : List Int} {r : Int} : r ∈ R.reverse ++ R.take 1 ↔ r ∈ R := by
  rw [List.mem_append, List.mem_reverse]
  exact ⟨fun h => h.elim id List.mem_of_mem_take, .inl⟩
theorem len_pass {R : List Int} {n : Nat} (h : R.length ≤ n) : (R.reverse ++ R.take 1).length ≤ n + 1 := by
  rw [List.length_append, List.length_reverse, List.length_take]
  omega
theorem dp_ints {K : PySem.W.Frag} {H : Hp} : ∀ (ns : List Int), DpAll K H (ns.map V.int) (ns.map PyData.int)
  | [] => .nil
  | n :: ns => .cons (.int n) (dp_ints ns)
theorem okD_ints {ns : List Int} {n : Nat} : okD (.list (ns.map PyData.int)) (n + 1) = true := by
  have : okDs (ns.map PyData.int) n = true := okDs_map fun x _ => by simp [okD]
  simp [okD, this]
theorem okD_two {ns ms : List Int} : okD (.list [.list (ns.map PyData.int), .list (ms.map PyData.int)]) 60 = true := by
  simp only [okD, okDs, Bool.and_true, Bool.and_eq_true]
  have a := @okD_ints ns 58
  have b := @okD_ints ms 58
  simp only [okD, Bool.and_eq_true] at a b
  exact ⟨by decide, a, b⟩
def RowsOk (ys : List V) (n : Nat) : Prop := ∃ ns : List Int, ys = ns.map V.int ∧ (∀ p ∈ ns, QR.OP p) ∧ ns.length ≤ n
theorem RowsOk.nil : RowsOk [] 0 := ⟨[], rfl, fun p h => absurd h List.not_mem_nil, Nat.le_refl _⟩
theorem RowsOk.put {ys : List V} {n : Nat} {p : Int} (h : RowsOk ys n) (hp : QR.OP p) : RowsOk (ys ++ [.int p]) (n + 1) := by
  obtain ⟨ns, rfl, h1, h2⟩ := h
  refine ⟨ns ++ [p], by rw [List.map_append]; rfl, fun q hq => ?_, by rw [List.length_append, List.length_singleton]; omega⟩
  rcases List.mem_append.mp hq with hq | hq
  · exact h1 q hq
  · rw [List.mem_singleton.mp hq]
    exact hp
theorem RowsOk.skip {ys : List V} {n : Nat} (h : RowsOk ys n) : RowsOk ys (n + 1) := by
  obtain ⟨ns, e, h1, h2⟩ := h
  exact ⟨ns, e, h1, by omega⟩
theorem op_1e5 : QR.OP 100003 := QR.op_by (n := 100003) 320 (by decide) (by decide) (by decide) (by decide +kernel)
theorem goodP_rows {rs : List Int} {q : Int} (h : ∀ p ∈ rs, QR.OP p) (hq : QR.OP q) : ∀ p ∈ rs ++ [q, 7919, 99991, 1000000007, 2305843009213693951], GoodP p := fun p hp =>
  (List.mem_append.mp hp).elim (fun z => goodP_op (h p z)) (goodP_tail hq p)
theorem sub_op {S : List Int} (h : ∀ p ∈ S, p ∈ bigS) : ∀ p ∈ S, QR.OP p ∧ p < 2 ^ 120 := fun p hp => bigS_op p (h p hp)
theorem only3 : ∀ p ∈ ([3, 7, 11] : List Int), QR.OP p ∧ p < 2 ^ 120 := sub_op (by decide)
theorem only5 : ∀ p ∈ ([5] : List Int), QR.OP p ∧ p < 2 ^ 120 := sub_op (by decide)
theorem only13 : ∀ p ∈ ([13] : List Int), QR.OP p ∧ p < 2 ^ 120 := sub_op (by decide)
theorem only0 : ∀ p ∈ ([] : List Int), QR.OP p ∧ p < 2 ^ 120 := sub_op (by decide)
theorem memP_only {m' t : Int} {R' S' S : List Int} (md : Made 1 [] S m' R' S') (h : PrOk 1 t) : decide (memP m' R' S' t) = decide (t ∈ S) := decide_eq_decide.mpr ((md.mem t h).trans mem_only)
theorem memP_every {m' t : Int} {R' S' : List Int} (md : Made 1 [0] [] m' R' S') (h : PrOk 1 t) : decide (memP m' R' S' t) = true := decide_eq_true ((md.mem t h).mpr (mem_every h.two))
theorem memP_none {m' t : Int} {R' S' : List Int} (md : Made 1 [] [] m' R' S') (h : PrOk 1 t) : decide (memP m' R' S' t) = false := decide_eq_false fun z => mem_none ((md.mem t h).mp z)
theorem memP_found {m m' t : Int} {R S R' S' : List Int} (md : Made m (R.reverse ++ R.take 1) (S.reverse ++ S.take 1) m' R' S') (h : PrOk m t) : decide (memP m' R' S' t) = decide (memP m R S t) := decide_eq_decide.mpr ((md.mem t h).trans (memP_congr (fun _ => mem_pass) fun _ => mem_pass))
theorem Made.lenR {m m' : Int} {R S R' S' : List Int} (h : Made m R S m' R' S') (m1 : 1 ≤ m) (m2 : m ≤ 4000) : R'.length ≤ 4000 := by
  have := Int.le_of_dvd (by omega) h.sub.dvd
  exact nodup_le (M := 4000) (h.least.ri.imp fun h => by omega) fun r hr => by
    have := h.least.desc.rests r hr
    omega
theorem pass_nil {R : List Int} : R.reverse ++ R.take 1 = [] ↔ R = [] := by
  cases R <;> simp
theorem found_nil {m m' : Int} {R S R' S' : List Int} (md : Made m (R.reverse ++ R.take 1) (S.reverse ++ S.take 1) m' R' S') (m1 : 1 ≤ m) (hR : ∀ r ∈ R, r ∈ uL m) : R' = [] ↔ R = [] :=
  (md.nil_iff m1 fun r hr => mem_uL.mp (hR r (mem_pass.mp hr))).trans pass_nil
theorem eqv_nil {R : List Int} : PyData.eqv (.list (R.map PyData.int)) (.list []) = decide (R = []) := by
  cases R <;> simp [PyData.eqv, PyData.eqvAll]
theorem every_ne {m' : Int} {R' S' : List Int} (md : Made 1 [0] [] m' R' S') : ¬ R' = [] := fun e => by
  have := (md.nil_iff (by decide) fun r hr => by rw [List.mem_singleton.mp hr]; exact ⟨by decide, by decide, by decide⟩).mp e
  cases this
theorem only13_ne {m' : Int} {R' S' : List Int} (md : Made 1 [] [13] m' R' S') : ¬ (R' = [] ∧ S' = []) := fun e => by
  have := ((md.nil_sing (by decide)).2 13 (only13 13 (by decide)).1).mpr (by decide)
  rw [e.2] at this
  cases this
theorem none_nil {m' : Int} {R' S' : List Int} (md : Made 1 [] [] m' R' S') : R' = [] ∧ S' = [] := by
  obtain ⟨a, b⟩ := md.nil_sing (by decide)
  refine ⟨a, List.eq_nil_iff_forall_not_mem.mpr fun p hp => ?_⟩
  have := (b p (md.least.desc.singles p hp)).mp hp
  cases this
/-! part m_join -/
/-- a set by what it holds: its modulus divides M, its rests go by g, its primes by P -/
structure Fits (M : Int) (g P : Int → Bool) (m : Int) (R S : List Int) : Prop where
  least : IsLeast m R S
  dvd : m ∣ M
  germ : ∀ x, Int.gcd x M = 1 → decide (x % m ∈ R) = g x
  mem : ∀ p, QR.OP p → decide (memP m R S p) = P p
theorem dec_iff {a b : Prop} [Decidable a] [Decidable b] : decide a = decide b ↔ (a ↔ b) := decide_eq_decide
theorem Fits.eq {M : Int} {g P g' P' : Int → Bool} {m m' : Int} {R S R' S' : List Int} (M1 : 1 ≤ M) (a : Fits M g P m R S) (b : Fits M g' P' m' R' S') (hg : ∀ x, g x = g' x) (hP : ∀ p, P p = P' p) : m = m' ∧ R = R' ∧ S = S' :=
  least_unique M1 a.dvd b.dvd a.least b.least (fun x hx => dec_iff.mp ((a.germ x hx).trans ((hg x).trans (b.germ x hx).symm))) fun p hp => dec_iff.mp ((a.mem p hp).trans ((hP p).trans (b.mem p hp).symm))
/-- two sets joined by a rule -/
structure Comb (J : Bool → Bool → Bool) (m1 : Int) (R1 S1 : List Int) (m2 : Int) (R2 S2 : List Int) (m' : Int) (R' S' : List Int) : Prop where
  least : IsLeast m' R' S'
  dvd : m' ∣ ((Int.lcm m1 m2 : Nat) : Int)
  germ : ∀ x, Int.gcd x ((Int.lcm m1 m2 : Nat) : Int) = 1 → decide (x % m' ∈ R') = J (decide (x % m1 ∈ R1)) (decide (x % m2 ∈ R2))
  mem : ∀ p, QR.OP p → decide (memP m' R' S' p) = J (decide (memP m1 R1 S1 p)) (decide (memP m2 R2 S2 p))
  few : S'.length ≤ S1.length + S2.length + 111
  src : ∀ p ∈ S', p ∈ S1 ∨ p ∈ S2 ∨ p ∣ ((Int.lcm m1 m2 : Nat) : Int)
theorem Comb.fits {J : Bool → Bool → Bool} {M : Int} {g1 P1 g2 P2 : Int → Bool} {m1 m2 m' : Int} {R1 S1 R2 S2 R' S' : List Int} (c : Comb J m1 R1 S1 m2 R2 S2 m' R' S') (a : Fits M g1 P1 m1 R1 S1) (b : Fits M g2 P2 m2 R2 S2) : Fits M (fun x => J (g1 x) (g2 x)) (fun p => J (P1 p) (P2 p)) m' R' S' := by
  have d : ((Int.lcm m1 m2 : Nat) : Int) ∣ M := Int.coe_lcm_dvd a.dvd b.dvd
  exact ⟨c.least, Int.dvd_trans c.dvd d, fun x hx => by rw [c.germ x (QR.cop_dvd_right hx d), a.germ x hx, b.germ x hx], fun p hp => by rw [c.mem p hp, a.mem p hp, b.mem p hp]⟩
/-- the others -/
structure Inv (m : Int) (R S : List Int) (m' : Int) (R' S' : List Int) : Prop where
  least : IsLeast m' R' S'
  dvd : m' ∣ m
  germ : ∀ x, Int.gcd x m = 1 → decide (x % m' ∈ R') = !decide (x % m ∈ R)
  mem : ∀ p, QR.OP p → decide (memP m' R' S' p) = !decide (memP m R S p)
  few : S'.length ≤ S.length + 111
  src : ∀ p ∈ S', p ∈ S ∨ p ∣ m
theorem Inv.fits {M : Int} {g P : Int → Bool} {m m' : Int} {R S R' S' : List Int} (c : Inv m R S m' R' S') (a : Fits M g P m R S) : Fits M (fun x => !g x) (fun p => !P p) m' R' S' :=
  ⟨c.least, Int.dvd_trans c.dvd a.dvd, fun x hx => by rw [c.germ x (QR.cop_dvd_right hx a.dvd), a.germ x hx], fun p hp => by rw [c.mem p hp, a.mem p hp]⟩
theorem Made.fits {M m m' : Int} {R S R' S' : List Int} (h : Made m R S m' R' S') (d : m ∣ M) : Fits M (fun x => decide (x % m ∈ R)) (fun p => decide (memP m R S p)) m' R' S' :=
  ⟨h.least, Int.dvd_trans h.sub.dvd d, fun x hx => dec_iff.mpr (h.sub.same x (QR.cop_dvd_right hx d)), fun p hp => dec_iff.mpr (h.mem p (.inl hp))⟩
theorem IsLeast.fits {M m : Int} {R S : List Int} (h : IsLeast m R S) (d : m ∣ M) : Fits M (fun x => decide (x % m ∈ R)) (fun p => decide (memP m R S p)) m R S := ⟨h, d, fun _ _ => rfl, fun _ _ => rfl⟩
theorem every_fits {M m' : Int} {R' S' : List Int} (h : Made 1 [0] [] m' R' S') : Fits M (fun _ => true) (fun _ => true) m' R' S' := by
  have z := h.fits (M := M) (Int.one_dvd M)
  refine ⟨z.least, z.dvd, fun x hx => ?_, fun p hp => ?_⟩
  · rw [z.germ x hx]
    simp
  · rw [z.mem p hp]
    exact decide_eq_true (mem_every hp.1.1)
theorem none_fits {M m' : Int} {R' S' : List Int} (h : Made 1 [] [] m' R' S') : Fits M (fun _ => false) (fun _ => false) m' R' S' := by
  have z := h.fits (M := M) (Int.one_dvd M)
  refine ⟨z.least, z.dvd, fun x hx => ?_, fun p hp => ?_⟩
  · rw [z.germ x hx]
    simp
  · rw [z.mem p hp]
    exact decide_eq_false mem_none
/-- the rests and singles that joining works out -/
def jR (J : Bool → Bool → Bool) (L m1 : Int) (R1 : List Int) (m2 : Int) (R2 : List Int) : List Int := (uL L).filter fun r => J (decide (r % m1 ∈ R1)) (decide (r % m2 ∈ R2))
/-- a prime whose side rests do not tell -/
def jT (J : Bool → Bool → Bool) (L m1 : Int) (R1 S1 : List Int) (m2 : Int) (R2 S2 : List Int) (p : Int) : Bool := J (decide (memP m1 R1 S1 p)) (decide (memP m2 R2 S2 p)) != decide (toldP L (jR J L m1 R1 m2 R2) p)
section
variable {J : Bool → Bool → Bool} {L m1 m2 m' : Int} {R1 S1 R2 S2 R' S' C : List Int}
theorem lcm_quot {a b : Int} (ha : 1 ≤ a) (hb : 1 ≤ b) : a * b / ((Int.gcd a b : Nat) : Int) = ((Int.lcm a b : Nat) : Int) := by
  have e : ((Int.gcd a b : Nat) : Int) * ((Int.lcm a b : Nat) : Int) = a * b := by
    have := Int.gcd_mul_lcm a b
    rw [← Int.natCast_mul, this, Int.natCast_mul]
    congr 1 <;> omega
  have g : (0 : Int) < ((Int.gcd a b : Nat) : Int) := by
    have : Int.gcd a b ≠ 0 := fun z => by
      have := (Int.gcd_eq_zero_iff.mp z).1
      omega
    omega
  rw [← e, Int.mul_ediv_cancel_left _ (by omega)]
theorem lcm_pos {a b : Int} (ha : 1 ≤ a) (hb : 1 ≤ b) : 1 ≤ ((Int.lcm a b : Nat) : Int) := by
  have : Int.lcm a b ≠ 0 := by
    intro z
    rw [Int.lcm_eq_zero_iff] at z
    omega
  omega
theorem mem_jR {r : Int} : r ∈ jR J L m1 R1 m2 R2 ↔ r ∈ uL L ∧ J (decide (r % m1 ∈ R1)) (decide (r % m2 ∈ R2)) = true := by
  unfold jR
  rw [List.mem_filter]
theorem emod_div {x a L : Int} (d : a ∣ L) : x % L % a = x % a := Int.emod_emod_of_dvd x d
theorem memP_off {m p : Int} {R S : List Int} (d : ¬ p ∣ m) (s : p ∉ S) : decide (memP m R S p) = decide (p % m ∈ R) := by
  refine dec_iff.mpr ?_
  unfold memP toldP
  simp [d, s]
/-- joining by a common multiple: C holds the primes that rests may not decide -/
theorem comb_of (hL : L = ((Int.lcm m1 m2 : Nat) : Int)) (p1 : 1 ≤ m1) (p2 : 1 ≤ m2) (hC : ∀ p, QR.OP p → (p ∈ C ↔ p ∣ L ∨ p ∈ S1 ∨ p ∈ S2))
    (md : Made L (jR J L m1 R1 m2 R2) (C.filter (jT J L m1 R1 S1 m2 R2 S2)) m' R' S')
    (hc : ∀ p ∈ C, QR.OP p) (few : C.length ≤ S1.length + S2.length + 100) : Comb J m1 R1 S1 m2 R2 S2 m' R' S' := by
  have L1 : 1 ≤ L := by rw [hL]; exact lcm_pos p1 p2
  have d1 : m1 ∣ L := by rw [hL]; exact Int.dvd_lcm_left ..
  have d2 : m2 ∣ L := by rw [hL]; exact Int.dvd_lcm_right ..
  have gj : ∀ x, Int.gcd x L = 1 → decide (x % L ∈ jR J L m1 R1 m2 R2) = J (decide (x % m1 ∈ R1)) (decide (x % m2 ∈ R2)) := fun x hx => by
    have u : x % L ∈ uL L := mem_uL.mpr ⟨Int.emod_nonneg _ (by omega), Int.emod_lt_of_pos _ (by omega), QR.cop_emod.mpr hx⟩
    have e : (x % L ∈ jR J L m1 R1 m2 R2) ↔ J (decide (x % m1 ∈ R1)) (decide (x % m2 ∈ R2)) = true := by
      rw [mem_jR, emod_div d1, emod_div d2]
      exact ⟨fun z => z.2, fun z => ⟨u, z⟩⟩
    cases h : J (decide (x % m1 ∈ R1)) (decide (x % m2 ∈ R2)) with
    | true => exact decide_eq_true (e.mpr h)
    | false => exact decide_eq_false fun z => by rw [e.mp z] at h; cases h
  refine ⟨md.least, by rw [← hL]; exact md.sub.dvd, fun x hx => ?_, fun p hp => ?_, ?_, fun p hp => ?_⟩
  · rw [← hL] at hx
    rw [dec_iff.mpr (md.sub.same x hx), gj x hx]
  · rw [dec_iff.mpr (md.mem p (.inl hp))]
    by_cases c : p ∈ C
    · have e : (p ∈ C.filter (jT J L m1 R1 S1 m2 R2 S2)) ↔ (J (decide (memP m1 R1 S1 p)) (decide (memP m2 R2 S2 p)) != decide (toldP L (jR J L m1 R1 m2 R2) p)) = true := by
        rw [List.mem_filter]
        exact ⟨fun z => z.2, fun z => ⟨c, z⟩⟩
      have e2 : decide (memP L (jR J L m1 R1 m2 R2) (C.filter (jT J L m1 R1 S1 m2 R2 S2)) p) = decide (¬ (toldP L (jR J L m1 R1 m2 R2) p ↔ (J (decide (memP m1 R1 S1 p)) (decide (memP m2 R2 S2 p)) != decide (toldP L (jR J L m1 R1 m2 R2) p)) = true)) := dec_iff.mpr (not_congr (iff_congr Iff.rfl e))
      rw [e2]
      clear e e2
      generalize J (decide (memP m1 R1 S1 p)) (decide (memP m2 R2 S2 p)) = j
      by_cases t : toldP L (jR J L m1 R1 m2 R2) p <;> cases j <;> simp [t]
    · have n := fun z => c ((hC p hp).mpr z)
      have dL : ¬ p ∣ L := fun z => n (.inl z)
      rw [memP_off dL fun z => c (List.mem_filter.mp z).1, memP_off (fun z => dL (Int.dvd_trans z d1)) fun z => n (.inr (.inl z)), memP_off (fun z => dL (Int.dvd_trans z d2)) fun z => n (.inr (.inr z)), gj p ((QR.pm_cop hp.1).mpr dL)]
  · have a := md.few
    have b := List.length_filter_le (jT J L m1 R1 S1 m2 R2 S2) C
    omega
  · rw [← hL]
    rcases md.src p hp with z | z
    · have c := (List.mem_filter.mp z).1
      rcases (hC p (hc p c)).mp c with y | y | y
      · exact .inr (.inr y)
      · exact .inl y
      · exact .inr (.inl y)
    · exact .inr (.inr z)
end
/-- a set as a least description of fair size -/
structure SetOk (m : Int) (R S : List Int) : Prop where
  least : IsLeast m R S
  le : m ≤ 4000
  few : S.length ≤ 1000
  small : ∀ p ∈ S, p < 2 ^ 120
theorem least_len {m : Int} {R S : List Int} (h : IsLeast m R S) (le : m ≤ 4000) : R.length ≤ 4000 := by
  refine nodup_le (M := 4000) (h.ri.imp fun h => by omega) fun k hk => ?_
  have := h.desc.rests k hk
  omega
theorem filt_snoc_t {α : Type} {p : α → Bool} {l : List α} {x : α} (h : p x = true) : (l ++ [x]).filter p = l.filter p ++ [x] := by simp [h]
theorem filt_snoc_f {α : Type} {p : α → Bool} {l : List α} {x : α} (h : p x = false) : (l ++ [x]).filter p = l.filter p := by simp [h]
theorem dec_bl_ne {a b : Bool} : (!decide (V.bl a = V.bl b)) = (a != b) := by cases a <;> cases b <;> simp

/-- Fits, of a fair size -/
structure Pf (M : Int) (n : Nat) (g P : Int → Bool) (m : Int) (R S : List Int) : Prop where
  fits : Fits M g P m R S
  few : S.length ≤ n
  small : ∀ p ∈ S, p < 2 ^ 120
section
variable {M m1 m2 m' m : Int} {n n1 n2 : Nat} {g P g1 P1 g2 P2 : Int → Bool} {R S R1 S1 R2 S2 R' S' : List Int}
theorem Pf.ok (h : Pf M n g P m R S) (M1 : 1 ≤ M) (M4 : M ≤ 4000) (hn : n ≤ 1000) : SetOk m R S :=
  ⟨h.fits.least, Int.le_trans (Int.le_of_dvd (by omega) h.fits.dvd) M4, Nat.le_trans h.few hn, h.small⟩
theorem lcm_le (M1 : 1 ≤ M) (a : m1 ∣ M) (b : m2 ∣ M) : ((Int.lcm m1 m2 : Nat) : Int) ≤ M := Int.le_of_dvd (by omega) (Int.coe_lcm_dvd a b)
theorem Comb.pf {J : Bool → Bool → Bool} (c : Comb J m1 R1 S1 m2 R2 S2 m' R' S') (a : Pf M n1 g1 P1 m1 R1 S1) (b : Pf M n2 g2 P2 m2 R2 S2) (M1 : 1 ≤ M) (M4 : M ≤ 4000) : Pf M (n1 + n2 + 111) (fun x => J (g1 x) (g2 x)) (fun p => J (P1 p) (P2 p)) m' R' S' := by
  refine ⟨c.fits a.fits b.fits, ?_, fun p hp => ?_⟩
  · have := c.few
    have := a.few
    have := b.few
    omega
  · have l := lcm_le M1 a.fits.dvd b.fits.dvd
    have p1 := lcm_pos a.fits.least.desc.pos b.fits.least.desc.pos
    rcases c.src p hp with z | z | z
    · exact a.small p z
    · exact b.small p z
    · have := Int.le_of_dvd (by omega) z
      omega
theorem Inv.pf (c : Inv m R S m' R' S') (a : Pf M n g P m R S) (M1 : 1 ≤ M) (M4 : M ≤ 4000) : Pf M (n + 111) (fun x => !g x) (fun p => !P p) m' R' S' := by
  refine ⟨c.fits a.fits, ?_, fun p hp => ?_⟩
  · have := c.few
    have := a.few
    omega
  · have l := Int.le_of_dvd (by omega) a.fits.dvd
    have p1 := a.fits.least.desc.pos
    rcases c.src p hp with z | z
    · exact a.small p z
    · have := Int.le_of_dvd (by omega) z
      omega
theorem Made.pf (h : Made m R S m' R' S') (d : m ∣ M) (m1 : 1 ≤ m) (m4 : m ≤ 4000) (few : S.length ≤ n) (small : ∀ p ∈ S, p < 2 ^ 120) : Pf M (n + 11) (fun x => decide (x % m ∈ R)) (fun p => decide (memP m R S p)) m' R' S' := by
  refine ⟨h.fits d, ?_, fun p hp => ?_⟩
  · have := h.few
    omega
  · rcases h.src p hp with z | z
    · exact small p z
    · have := Int.le_of_dvd (by omega) z
      omega
theorem Pf.imp {g' P' : Int → Bool} (h : Pf M n g P m R S) (hg : ∀ x, Int.gcd x M = 1 → g x = g' x) (hP : ∀ p, QR.OP p → P p = P' p) : Pf M n g' P' m R S := ⟨⟨h.fits.least, h.fits.dvd, fun x hx => (h.fits.germ x hx).trans (hg x hx), fun p hp => (h.fits.mem p hp).trans (hP p hp)⟩, h.few, h.small⟩
theorem every_pf (h : Made 1 [0] [] m' R' S') : Pf M 11 (fun _ => true) (fun _ => true) m' R' S' := by
  refine ⟨every_fits h, ?_, fun p hp => ?_⟩
  · simpa using h.few
  · rcases h.src p hp with z | z
    · cases z
    · have := Int.le_of_dvd (by decide) z
      omega
theorem none_pf (h : Made 1 [] [] m' R' S') : Pf M 11 (fun _ => false) (fun _ => false) m' R' S' := by
  refine ⟨none_fits h, ?_, fun p hp => ?_⟩
  · simpa using h.few
  · rcases h.src p hp with z | z
    · cases z
    · have := Int.le_of_dvd (by decide) z
      omega
theorem Pf.eq (M1 : 1 ≤ M) (a : Pf M n1 g1 P1 m1 R1 S1) (b : Pf M n2 g2 P2 m2 R2 S2) (hg : ∀ x, g1 x = g2 x) (hP : ∀ p, P1 p = P2 p) : decide (m1 = m2 ∧ R1 = R2 ∧ S1 = S2) = true := decide_eq_true (a.fits.eq M1 b.fits hg hP)
theorem least_nil : IsLeast 1 [] [] := ⟨⟨by decide, fun r h => absurd h List.not_mem_nil, fun p h => absurd h List.not_mem_nil⟩, List.Pairwise.nil, List.Pairwise.nil, fun q hq d => by
  have := Int.le_of_dvd (by decide) d
  have := hq.1
  omega⟩
/-- nothing is in it: no rests, no singles -/
theorem Pf.nil (M1 : 1 ≤ M) (a : Pf M n g P m R S) (hg : ∀ x, g x = false) (hP : ∀ p, P p = false) : R = [] ∧ S = [] := by
  have b : Fits M (fun _ => false) (fun _ => false) 1 [] [] := ⟨least_nil, Int.one_dvd _, fun x _ => by simp, fun p _ => decide_eq_false mem_none⟩
  exact (a.fits.eq M1 b hg hP).2
end
/-! part m_k42 -/
def pLst : List Int := [3, 5, 7, 11, 13, 17, 19, 23, 29, 31, 37, 41, 43, 47, 53, 59]
/-- the least description, as this law finds it -/
structure LowRow (m : Int) (R S : List Int) (d : Int) (L T : List Int) : Prop where
  dvd : d ∣ m
  pos : 1 ≤ d
  first : ∀ e, 1 ≤ e → e < d → e ∣ m → ¬ Lv m R e
  short : Short m R d L
  odd : ∀ p, p ∈ T ↔ p ∈ pLst ∧ ¬ (memP m R S p ↔ toldP d L p)
  inc : T.Pairwise (· < ·)
/-- the same set by a multiple of the modulus -/
structure WideRow (m : Int) (R S : List Int) (f : Int) (L T : List Int) : Prop where
  rests : L = (uL (m * f)).filter fun u => decide (u % m ∈ R)
  odd : ∀ p, p ∈ T ↔ p ∈ pLst ∧ ¬ (memP m R S p ↔ toldP (m * f) L p)
  inc : T.Pairwise (· < ·)
  len : T.length ≤ 16
theorem op3 {p : Int} (hp : QR.OP p) : 3 ≤ p := by
  have := hp.1.1
  have := hp.2
  omega
theorem pLst_all {p : Int} (hp : QR.OP p) (h : p ≤ 60) : p ∈ pLst := by
  have h3 := op3 hp
  have key : ∀ n : Nat, n < 61 → 3 ≤ n → (n : Int) ∈ pLst ∨ n % 2 = 0 ∨ ∃ q, q < n ∧ 2 ≤ q ∧ n % q = 0 := by decide
  obtain ⟨n, rfl⟩ : ∃ n : Nat, p = n := ⟨p.toNat, by omega⟩
  rcases key n (by omega) (by omega) with z | z | ⟨q, q1, q2, q3⟩
  · exact z
  · have := hp.2
    omega
  · exact absurd (Int.ofNat_dvd.mpr (Nat.dvd_of_mod_eq_zero q3)) (hp.1.2 (q : Int) (by omega) (by omega))
theorem pLst_op : ∀ p ∈ pLst, QR.OP p := by
  have q : ∀ p ∈ pLst, p = ((p.toNat : Nat) : Int) ∧ 3 ≤ p.toNat ∧ p.toNat % 2 = 1 ∧ ((List.range 9).any fun k => p.toNat < k * k && (List.range k).all fun d => d < 2 || p.toNat % d != 0) = true := by decide +kernel
  intro p hp
  obtain ⟨e, a, b, c⟩ := q p hp
  obtain ⟨k, _, hk⟩ := List.any_eq_true.mp c
  rw [Bool.and_eq_true] at hk
  rw [e]
  exact QR.op_by k a b (of_decide_eq_true hk.1) hk.2
section
variable {m m' d f r : Int} {R S R' S' L T R2 S2 : List Int}
theorem Sub.rests (a : Sub m R m' R') (b : Sub m R m' L) (m1 : 1 ≤ m) (p1 : 1 ≤ m') (ha : R'.Pairwise (· < ·)) (hb : L.Pairwise (· < ·)) (u : ∀ r ∈ R', r ∈ uL m') (v : ∀ r ∈ L, r ∈ uL m') : R' = L := inc_same ha hb fun r => by
  constructor
  · intro hr
    obtain ⟨x, x1, x2⟩ := a.lift m1 p1 (u r hr)
    have := (b.same x x1).mpr ((a.same x x1).mp (by rw [x2]; exact hr))
    rwa [x2] at this
  · intro hr
    obtain ⟨x, x1, x2⟩ := a.lift m1 p1 (v r hr)
    have := (a.same x x1).mpr ((b.same x x1).mp (by rw [x2]; exact hr))
    rwa [x2] at this
theorem Sub.lv (h : Sub m R m' R') : Lv m R m' := fun x y hx hy e => by rw [← h.same x hx, ← h.same y hy, QR.emod_eq_of_dvd e]
theorem Made.low (h : Made m R S m' R' S') (l : LowRow m R S d L T) (m1 : 1 ≤ m) (m6 : m ≤ 60) (hS : ∀ p ∈ S, p ∈ pLst) : m' = d ∧ R' = L ∧ S' = T := by
  have p1 := h.least.desc.pos
  have e : m' = d := by
    have a := Int.le_of_dvd (by have := l.pos; omega) (low_dvd h.sub m1 p1 h.least.low l.pos l.dvd l.short.lv)
    rcases Int.lt_or_eq_of_le a with z | z
    · exact absurd h.sub.lv (l.first m' p1 z h.sub.dvd)
    · exact z
  subst e
  have eR : R' = L := Sub.rests h.sub (l.short.sub l.dvd) m1 p1 h.least.ri l.short.inc (fun r hr => mem_uL.mpr (h.least.desc.rests r hr)) l.short.mem
  subst eR
  refine ⟨rfl, rfl, inc_same h.least.si l.inc fun p => ?_⟩
  rw [l.odd]
  constructor
  · intro hp
    have op := h.least.desc.singles p hp
    refine ⟨(h.src p hp).elim (hS p) fun z => pLst_all op (by have := Int.le_of_dvd (by omega) z; omega), ?_⟩
    rw [← h.mem p (.inl op)]
    simp [memP, hp]
  · rintro ⟨hp, z⟩
    rw [← h.mem p (.inl (pLst_op p hp))] at z
    unfold memP at z
    by_cases t : toldP m' R' p <;> by_cases s : p ∈ S' <;> simp [t, s] at z ⊢
theorem memP_wide (w : WideRow m R S f L T) (m1 : 1 ≤ m) (f1 : 1 ≤ f) (m6 : m ≤ 60) (f6 : f ≤ 12) (hS : ∀ p ∈ S, p ∈ pLst) {p : Int} (hp : QR.OP p) : memP (m * f) L T p ↔ memP m R S p := by
  by_cases c : p ∈ pLst
  · have := w.odd p
    unfold memP at this ⊢
    by_cases t : toldP (m * f) L p <;> by_cases s : p ∈ T <;> by_cases u : toldP m R p <;> by_cases v : p ∈ S <;> simp [t, s, u, v, c] at this ⊢
  · have h60 : 60 < p := by
      rcases Int.lt_or_le 60 p with z | z
      · exact z
      · exact absurd (pLst_all hp z) c
    have nT : p ∉ T := fun z => c ((w.odd p).mp z).1
    have nS : p ∉ S := fun z => c (hS p z)
    have nm : ¬ p ∣ m := fun z => by have := Int.le_of_dvd (by omega) z; omega
    have nf : ¬ p ∣ f := fun z => by have := Int.le_of_dvd (by omega) z; omega
    have nmf : ¬ p ∣ m * f := fun z => (QR.Pm.dvd_mul hp.1 z).elim nm nf
    have mf : 1 ≤ m * f := Int.mul_pos (show 0 < m by omega) (show 0 < f by omega)
    have cu : p % (m * f) ∈ uL (m * f) := unit_of (Int.dvd_refl _) (by omega) ((QR.pm_cop hp.1).mpr nmf)
    have eT : toldP (m * f) L p ↔ toldP m R p := by
      unfold toldP
      rw [w.rests, List.mem_filter, decide_eq_true_iff, Int.emod_emod_of_dvd p ⟨f, rfl⟩]
      simp [nm, nmf, cu]
    unfold memP
    rw [eT]
    simp [nT, nS]
theorem WideRow.made {m2 : Int} (w : WideRow m R S f L T) (h : Made m R S m' R' S') (k : Made (m * f) L T m2 R2 S2) (m1 : 1 ≤ m) (f1 : 1 ≤ f) (m6 : m ≤ 60) (f6 : f ≤ 12) (hS : ∀ p ∈ S, p ∈ pLst) : m' = m2 ∧ R' = R2 ∧ S' = S2 := by
  have mf : 1 ≤ m * f := Int.mul_pos (show 0 < m by omega) (show 0 < f by omega)
  refine least_unique mf (Int.dvd_trans h.sub.dvd ⟨f, rfl⟩) k.sub.dvd h.least k.least (fun x hx => ?_) fun p hp => ?_
  · rw [h.sub.same x (QR.cop_dvd_right hx ⟨f, rfl⟩), k.sub.same x hx, w.rests, List.mem_filter, decide_eq_true_iff, Int.emod_emod_of_dvd x ⟨f, rfl⟩]
    exact ⟨fun z => ⟨unit_of (Int.dvd_refl _) (by omega) hx, z⟩, fun z => z.2⟩
  · rw [h.mem p (.inl hp), k.mem p (.inl hp), memP_wide w m1 f1 m6 f6 hS hp]
theorem WideRow.unit (w : WideRow m R S f L T) : ∀ r ∈ L, r ∈ uL (m * f) := fun r hr => by
  rw [w.rests] at hr
  exact (List.mem_filter.mp hr).1
theorem WideRow.op (w : WideRow m R S f L T) : ∀ p ∈ T, QR.OP p ∧ p < 2 ^ 120 := fun p hp => by
  have h := ((w.odd p).mp hp).1
  refine ⟨pLst_op p h, ?_⟩
  have : ∀ p ∈ pLst, p < (2 : Int) ^ 120 := by decide +kernel
  exact this p h
/-- a least modulus is never twice an odd number -/
theorem IsLeast.no2 (h : IsLeast m R S) : m % 4 ≠ 2 := fun e => by
  have p1 := h.desc.pos
  refine h.low 2 QR.pm_two ⟨m / 2, by omega⟩ fun x y hx hy hd => ?_
  have odd : ∀ x : Int, Int.gcd x m = 1 → x % 2 = 1 := fun x hx => by
    rcases Int.emod_two_eq x with z | z
    · exfalso
      have := QR.dvd_gcd (Int.dvd_of_emod_eq_zero z) (show (2 : Int) ∣ m from ⟨m / 2, by omega⟩)
      rw [hx] at this
      omega
    · exact z
  have a := odd x hx
  have b := odd y hy
  obtain ⟨k, hk⟩ := hd
  rw [QR.emod_eq_of_dvd (show m ∣ x - y from ⟨k / 2, ?_⟩)]
  generalize hh : m / 2 = h at *
  have hm : m = 2 * h := by omega
  have ho : h % 2 = 1 := by omega
  have ke : k % 2 = 0 := by
    rcases Int.emod_two_eq k with z | z
    · exact z
    · exfalso
      have : (h * k) % 2 = 1 := by rw [Int.mul_emod, ho, z]; rfl
      omega
  rw [hk, hm, Int.mul_assoc, Int.mul_comm 2, Int.mul_assoc, show k / 2 * 2 = k by omega]
/-- another rest, another set -/
theorem Made.rest_ne (h : Made m R S m' R' S') (k : Made m R2 S2 m' R' S') (m1 : 1 ≤ m) (hr : r ∈ uL m) : r ∈ R ↔ r ∈ R2 := by
  obtain ⟨r0, r1, rc⟩ := mem_uL.mp hr
  have a := h.sub.same r rc
  have b := k.sub.same r rc
  rw [Int.emod_eq_of_lt r0 r1] at a b
  rw [← a, b]
theorem Made.sing_ne {p : Int} (h : Made m R S m' R' S') (k : Made m R S2 m' R' S') (hp : QR.OP p) : p ∈ S ↔ p ∈ S2 := by
  have a := h.mem p (.inl hp)
  have b := k.mem p (.inl hp)
  rw [a] at b
  unfold memP at b
  by_cases t : toldP m R p <;> by_cases s : p ∈ S <;> by_cases u : p ∈ S2 <;> simp [t, s, u] at b ⊢
/-- the same rests and singles, the same set -/
theorem Made.same {m2 : Int} {R0 S0 : List Int} (h : Made m R S m' R' S') (k : Made m R2 S2 m2 R0 S0) (m1 : 1 ≤ m) (e1 : SameL R R2) (e2 : SameL S S2) : m' = m2 ∧ R' = R0 ∧ S' = S0 :=
  least_unique m1 h.sub.dvd k.sub.dvd h.least k.least (fun x hx => by rw [h.sub.same x hx, k.sub.same x hx, e1]) fun p hp => by
    rw [h.mem p (.inl hp), k.mem p (.inl hp), memP_congr e1 e2]
/-- one rest changed -/
def flipR (R : List Int) (r : Int) : List Int := if r ∈ R then R.filter (fun o => !decide (o = r)) else R ++ [r]
theorem flip_in (h : r ∈ R) : flipR R r = R.filter (fun o => !decide (o = r)) := if_pos h
theorem flip_out (h : r ∉ R) : flipR R r = R ++ [r] := if_neg h
theorem mem_flip : ¬ (r ∈ R ↔ r ∈ flipR R r) := by
  unfold flipR
  by_cases h : r ∈ R <;> simp [h]
theorem flip_sub {k : Int} (h : k ∈ flipR R r) : k ∈ R ∨ k = r := by
  unfold flipR at h
  by_cases c : r ∈ R
  · rw [if_pos c, List.mem_filter] at h
    exact .inl h.1
  · rw [if_neg c, List.mem_append, List.mem_singleton] at h
    exact h
theorem flip_len : (flipR R r).length ≤ R.length + 1 := by
  unfold flipR
  split
  · exact Nat.le_succ_of_le (List.length_filter_le _ _)
  · simp
end
def rowD (m : Int) (R S : List Int) : PyData := .list [.int m, .list (R.map PyData.int), .list (S.map PyData.int)]
theorem rowD_ok {m : Int} {R S : List Int} : okD (rowD m R S) 60 = true := by
  have a : ∀ ns : List Int, okDs (ns.map PyData.int) 58 = true := fun ns => okDs_map fun x _ => by simp [okD]
  simp [rowD, okD, okDs, a R, a S]
theorem rowD_inj {m m' : Int} {R S R' S' : List Int} : rowD m R S = rowD m' R' S' ↔ m = m' ∧ R = R' ∧ S = S' := by
  have h : ∀ {a b : List Int}, a.map PyData.int = b.map PyData.int ↔ a = b := fun {a b} => ⟨fun h => (List.map_inj_right (fun x y e => by cases e; rfl)).mp h, fun h => by rw [h]⟩
  simp [rowD, h]
theorem dp_row {K : PySem.W.Frag} {H : Hp} {F D G : Addr} {m : Int} {R S : List Int} (h1 : H F = some (.lst [.int m, .ref D, .ref G])) (h2 : H D = some (.lst (R.map V.int))) (h3 : H G = some (.lst (S.map V.int))) : Dp K H (.ref F) (rowD m R S) :=
  have a : ∀ ns : List Int, DpAll K H (ns.map V.int) (ns.map PyData.int) := fun ns => by
    induction ns with
    | nil => exact .nil
    | cons n ns ih => exact .cons (.int n) ih
  .lst (SqL.of h1) (.cons (.int _) (.cons (.lst (SqL.of h2) (a R)) (.cons (.lst (SqL.of h3) (a S)) .nil)))
theorem rd_neRow {K : PySem.W.Frag} {H : Hp} {Q : VK} {x y : V} {m m' : Int} {R S R' S' : List Int} (h1 : Dp K H x (rowD m R S)) (h2 : Dp K H y (rowD m' R' S')) (q : Q (.bl (!decide (m = m' ∧ R = R' ∧ S = S'))) H) : rNeD K x y H Q := by
  refine rd_neD h1 h2 (okD_shaped rowD_ok) (okD_shaped rowD_ok) ?_
  rw [okD_dec rowD_ok rowD_ok, decide_eq_decide.mpr rowD_inj]
  exact q
/-! part m_chi -/
/-- the modulus on which the sign of a number without square divisors depends -/
def cond (s : Int) : Int := if s % 4 = 1 then (s.natAbs : Int) else 4 * (s.natAbs : Int)
def oddOf (D r : Int) : Int := if r % 2 = 0 then r + D else r
def chi (s D r : Int) : Int := sgn s (oddOf D r)
section
variable {s a b D x : Int}
theorem cond_pos (h : s ≠ 0) : 1 ≤ cond s := by
  unfold cond
  split <;> omega
theorem sgn_flip {t m : Int} (t1 : 1 ≤ t) (t2 : t % 4 = 3) (m1 : 1 ≤ m) (m2 : m % 2 = 1) : sgn (-t) m = sgn m t := by
  rw [show -t = -1 * t by omega, sgn_mul m1 m2, sgn_neg1 m1 m2, sgn_turn m1 m2 t1 (by omega)]
  have : m % 4 = 1 ∨ m % 4 = 3 := by omega
  rcases this with h | h
  · rw [h, if_neg (by omega)]
    omega
  · rw [h, if_pos ⟨rfl, t2⟩]
    omega
theorem sgn_keep {t m : Int} (t1 : 1 ≤ t) (t2 : t % 4 = 1) (m1 : 1 ≤ m) (m2 : m % 2 = 1) : sgn t m = sgn m t := by
  rw [sgn_turn m1 m2 t1 (by omega), if_neg (by omega)]
  omega
/-- the sign depends on the clock modulo the conductor -/
theorem sgn_cond (h : s ≠ 0) (a1 : 1 ≤ a) (a2 : a % 2 = 1) (b1 : 1 ≤ b) (b2 : b % 2 = 1) (d : cond s ∣ a - b) : sgn s a = sgn s b := by
  unfold cond at d
  rcases Int.lt_or_le 0 s with p | p
  · rw [show (s.natAbs : Int) = s by omega] at d
    split at d
    · rename_i e
      rw [sgn_keep (by omega) e a1 a2, sgn_keep (by omega) e b1 b2]
      exact sgn_congr (by omega) (by omega) d
    · exact sgn_per (by omega) a1 a2 b1 b2 d
  · rw [show (s.natAbs : Int) = -s by omega] at d
    have e0 : s = -(-s) := by omega
    split at d
    · rename_i e
      rw [e0, sgn_flip (by omega) (by omega) a1 a2, sgn_flip (by omega) (by omega) b1 b2]
      exact sgn_congr (by omega) (by omega) d
    · rw [e0]
      exact sgn_perN (by omega) a1 a2 b1 b2 d
theorem cond_odd (h : ¬ cond s % 2 = 0) : s % 4 = 1 := by
  unfold cond at h
  split at h
  · assumption
  · omega
theorem oddOf_odd (x : Int) (o : x % 2 = 1 ∨ cond s % 2 = 1) : oddOf (cond s) (x % cond s) % 2 = 1 := by
  unfold oddOf
  by_cases e : cond s % 2 = 0
  · have : x % cond s % 2 = 1 := by
      have d : (2 : Int) ∣ cond s := Int.dvd_of_emod_eq_zero e
      rw [Int.emod_emod_of_dvd x d]
      omega
    rw [if_neg (by omega)]
    exact this
  · split <;> omega
theorem oddOf_pos (h : s ≠ 0) (o : x % 2 = 1 ∨ cond s % 2 = 1) : 1 ≤ oddOf (cond s) (x % cond s) := by
  have c := cond_pos h
  have a := oddOf_odd (s := s) x o
  have b := Int.emod_nonneg x (show cond s ≠ 0 by omega)
  unfold oddOf at *
  split at a <;> split <;> omega
theorem oddOf_dvd (x : Int) : cond s ∣ x - oddOf (cond s) (x % cond s) := by
  have e := QR.dvd_sub_emod x (cond s)
  unfold oddOf
  split
  · rw [show x - (x % cond s + cond s) = x - x % cond s - cond s by omega]
    exact Int.dvd_sub e (Int.dvd_refl _)
  · exact e
theorem chi_eq (h : s ≠ 0) (x1 : 1 ≤ x) (x2 : x % 2 = 1) : chi s (cond s) (x % cond s) = sgn s x :=
  (sgn_cond h x1 x2 (oddOf_pos h (.inl x2)) (oddOf_odd x (.inl x2)) (oddOf_dvd x)).symm
theorem cond_dvd (s : Int) : s ∣ cond s := by
  have : s ∣ (s.natAbs : Int) := Int.dvd_natAbs.mpr (Int.dvd_refl s)
  unfold cond
  split
  · exact this
  · exact Int.dvd_mul_of_dvd_right this
theorem cop_odd (c : Int.gcd x (cond s) = 1) : x % 2 = 1 ∨ cond s % 2 = 1 := by
  rcases Int.emod_two_eq x with e | e
  · right
    rcases Int.emod_two_eq (cond s) with e2 | e2
    · exfalso
      exact QR.cop_iff.mp c 2 QR.pm_two (Int.dvd_of_emod_eq_zero e) (Int.dvd_of_emod_eq_zero e2)
    · exact e2
  · exact .inl e
/-- a unit has a sign -/
theorem chi_pm (h : s ≠ 0) (c : Int.gcd x (cond s) = 1) : chi s (cond s) (x % cond s) = 1 ∨ chi s (cond s) (x % cond s) = -1 := by
  have o := cop_odd c
  refine sgn_pm (oddOf_pos h o) (oddOf_odd x o) ?_
  have c2 : Int.gcd (oddOf (cond s) (x % cond s)) (cond s) = 1 := (QR.cop_congr (oddOf_dvd x)).mp c
  rw [Int.gcd_comm]
  exact QR.cop_dvd_right c2 (cond_dvd s)
/-- a unit as an odd positive number -/
theorem unit_odd (h : s ≠ 0) (x : Int) (c : Int.gcd x (cond s) = 1) : ∃ y, 1 ≤ y ∧ y % 2 = 1 ∧ y % cond s = x % cond s ∧ Int.gcd y (cond s) = 1 := by
  have o := cop_odd c
  refine ⟨oddOf (cond s) (x % cond s), oddOf_pos h o, oddOf_odd x o, (QR.emod_eq_of_dvd (oddOf_dvd x)).symm, (QR.cop_congr (oddOf_dvd x)).mp c⟩
theorem chi_mul (h : s ≠ 0) {y : Int} (c : Int.gcd x (cond s) = 1) (d : Int.gcd y (cond s) = 1) : chi s (cond s) (x * y % cond s) = chi s (cond s) (x % cond s) * chi s (cond s) (y % cond s) := by
  obtain ⟨u, u1, u2, u3, u4⟩ := unit_odd h x c
  obtain ⟨v, v1, v2, v3, v4⟩ := unit_odd h y d
  have p1 : 1 ≤ u * v := Int.mul_pos (by omega) (by omega)
  have p2 : u * v % 2 = 1 := by rw [Int.mul_emod, u2, v2]; rfl
  rw [Int.mul_emod, ← u3, ← v3, ← Int.mul_emod, chi_eq h p1 p2, chi_eq h u1 u2, chi_eq h v1 v2, sgn_mod_mul u1 u2 s v1 v2]
end
/-! part m_chi2 -/
theorem sgn_one1 {m : Int} (m1 : 1 ≤ m) (m2 : m % 2 = 1) : sgn 1 m = 1 := by
  have e := sgn_mul m1 m2 1 1
  rcases sgn_pm m1 m2 (a := 1) (by simp) with h | h
  · exact h
  · rw [Int.one_mul, h] at e
    omega
theorem sgn_per1 {u y : Int} (h : u ≠ 0) (y1 : 1 ≤ y) (y2 : y % 2 = 1) (d : 4 * (u.natAbs : Int) ∣ y - 1) : sgn u y = 1 := by
  rcases Int.lt_or_le 0 u with p | p
  · rw [sgn_per (by omega) y1 y2 (show (1 : Int) ≤ 1 by decide) rfl (by rwa [show (u.natAbs : Int) = u by omega] at d), sgn_1]
  · rw [show u = -(-u) by omega, sgn_perN (by omega) y1 y2 (show (1 : Int) ≤ 1 by decide) rfl (by rwa [show (u.natAbs : Int) = -u by omega] at d), sgn_1]
/-- there is a number that is no square -/
theorem nonres {p : Int} (hp : QR.OP p) : ∃ t, sgn t p = -1 := by
  have p3 := hp.three
  obtain ⟨h, rfl⟩ := odd_half (by omega) hp.2
  refine Classical.byContradiction fun no => ?_
  have all : ∀ n : Int, ¬ n % (2 * (h : Int) + 1) = 0 → n % (2 * (h : Int) + 1) ∈ (List.range h).map fun i : Nat => (1 + (i : Int)) * (1 + (i : Int)) % (2 * (h : Int) + 1) := fun n hn => by
    rcases sgn_away hp hn with e | e
    · obtain ⟨i, hi, e2⟩ := List.mem_map.mp ((sq_mem hp hn).mpr e)
      rw [List.mem_range] at hi
      rw [List.mem_map]
      by_cases c : i < h
      · exact ⟨i, List.mem_range.mpr c, e2⟩
      · refine ⟨2 * h - 1 - i, List.mem_range.mpr (by omega), ?_⟩
        rw [← e2, show ((2 * h - 1 - i : Nat) : Int) = 2 * h - 1 - i by omega]
        refine QR.emod_eq_of_dvd ⟨2 * h + 1 - 2 - 2 * i, ?_⟩
        grind
    · exact absurd ⟨n, e⟩ no
  have nd : ((List.range (2 * h)).map fun i : Nat => 1 + (i : Int)).Nodup := List.pairwise_map.mpr (List.nodup_range.imp fun h e => h (by omega))
  have l := nodup_sub_len nd (s := (List.range h).map fun i : Nat => (1 + (i : Int)) * (1 + (i : Int)) % (2 * (h : Int) + 1)) fun k hk => by
    obtain ⟨i, hi, rfl⟩ := List.mem_map.mp hk
    rw [List.mem_range] at hi
    have e : (1 + (i : Int)) % (2 * (h : Int) + 1) = 1 + i := Int.emod_eq_of_lt (by omega) (by omega)
    have := all (1 + i) (by rw [e]; omega)
    rwa [e] at this
  rw [List.length_map, List.length_map, List.length_range, List.length_range] at l
  omega
theorem sgn_keep' {q y : Int} (hq : QR.OP q) (y1 : 1 ≤ y) (y4 : y % 4 = 1) : sgn q y = sgn y q := by
  have := hq.three
  rw [sgn_turn y1 (by omega) (by omega) hq.2, if_neg (by omega)]
  omega
section
variable {s q : Int}
/-- the conductor is least: by each of its primes there is a unit that the rest tells to be like 1, with the sign -1 -/
theorem prim_odd (h : s ≠ 0) (sf : ∀ k : Int, 2 ≤ k → ¬ k * k ∣ s) (hq : QR.OP q) (hd : q ∣ cond s) : ∃ y, 1 ≤ y ∧ y % 2 = 1 ∧ Int.gcd y (cond s) = 1 ∧ cond s / q ∣ y - 1 ∧ sgn s y = -1 := by
  have q3 := hq.three
  have qs : q ∣ s := by
    have four : ¬ q ∣ 4 := fun z => by
      rcases QR.Pm.dvd_mul hq.1 (show q ∣ 2 * 2 from z) with y | y <;> (have := Int.le_of_dvd (by decide) y; omega)
    unfold cond at hd
    split at hd
    · exact Int.dvd_natAbs.mp hd
    · rcases QR.Pm.dvd_mul hq.1 hd with z | z
      · exact absurd z four
      · exact Int.dvd_natAbs.mp z
  obtain ⟨u, rfl⟩ := qs
  have u0 : u ≠ 0 := fun z => h (by rw [z, Int.mul_zero])
  have qu : ¬ q ∣ u := fun z => sf q (by omega) (by obtain ⟨c, rfl⟩ := z; exact ⟨c, by rw [Int.mul_assoc]⟩)
  obtain ⟨N, hN⟩ : ∃ N, N = 4 * (u.natAbs : Int) := ⟨_, rfl⟩
  have N4 : 4 ≤ N := by omega
  have qN : Int.gcd N q = 1 := by
    rw [Int.gcd_comm]
    refine (QR.pm_cop hq.1).mpr fun z => ?_
    rw [hN] at z
    rcases QR.Pm.dvd_mul hq.1 z with y | y
    · rcases QR.Pm.dvd_mul hq.1 (show q ∣ 2 * 2 from y) with y | y <;> (have := Int.le_of_dvd (by decide) y; omega)
    · exact qu (Int.dvd_natAbs.mp y)
  obtain ⟨t, ht⟩ := nonres hq
  obtain ⟨z, z1, z2⟩ := crt (s := N) (t := q) (x := 1) (y := t) (by omega) (by omega) (by rw [qN]; exact Int.one_dvd _)
  have Nq : 0 < N * q := Int.mul_pos (by omega) (by omega)
  obtain ⟨y, hy⟩ : ∃ y, y = z % (N * q) := ⟨_, rfl⟩
  have yd : N * q ∣ z - y := by rw [hy]; exact QR.dvd_sub_emod ..
  have y0 : 0 ≤ y := by rw [hy]; exact Int.emod_nonneg _ (by omega)
  have yN : N ∣ y - 1 := by
    have := Int.dvd_sub z1 (Int.dvd_trans ⟨q, rfl⟩ yd)
    rwa [show z - 1 - (z - y) = y - 1 by omega] at this
  have yq : q ∣ y - t := by
    have := Int.dvd_sub z2 (Int.dvd_trans ⟨N, Int.mul_comm ..⟩ yd)
    rwa [show z - t - (z - y) = y - t by omega] at this
  have y4 : y % 4 = 1 := by
    obtain ⟨c, hc⟩ := yN
    rw [hN, Int.mul_assoc] at hc
    omega
  have y1 : 1 ≤ y := by omega
  have sq : sgn y q = -1 := by rw [sgn_congr (by omega) hq.2 yq, ht]
  refine ⟨y, y1, by omega, ?_, ?_, ?_⟩
  · have c1 : Int.gcd y N = 1 := (QR.cop_congr yN).mpr (by simp)
    have c2 : Int.gcd y q = 1 := by
      refine Classical.byContradiction fun e => ?_
      rw [(sgn_zero (by omega) hq.2).mpr e] at sq
      omega
    refine QR.cop_dvd_right (QR.cop_mul c1 c2) ?_
    rw [hN]
    unfold cond
    rw [Int.natAbs_mul, Int.natCast_mul, show (q.natAbs : Int) = q by omega]
    split
    · exact ⟨4, by grind⟩
    · exact ⟨1, by grind⟩
  · refine Int.dvd_trans ?_ yN
    rw [hN]
    unfold cond
    rw [Int.natAbs_mul, Int.natCast_mul, show (q.natAbs : Int) = q by omega]
    split
    · rw [Int.mul_ediv_cancel_left _ (by omega)]
      exact ⟨4, by grind⟩
    · rw [show 4 * (q * (u.natAbs : Int)) = q * (4 * (u.natAbs : Int)) by grind, Int.mul_ediv_cancel_left _ (by omega)]
      exact Int.dvd_refl _
  · rw [sgn_mul y1 (by omega), sgn_per1 u0 y1 (by omega) (by rw [← hN]; exact yN), sgn_keep' hq y1 y4, sq]
    rfl
end
/-! part m_sums -/
/-! sums over all hours of a clock -/
namespace QR
def suL : List Int → Int
  | [] => 0
  | x :: l => x + suL l
theorem suL_append : ∀ l k : List Int, suL (l ++ k) = suL l + suL k
  | [], k => by simp [suL]
  | x :: l, k => by simp only [List.cons_append, suL, suL_append l k]; omega
theorem suL_perm {l k : List Int} (h : l.Perm k) : suL l = suL k := by
  induction h with
  | nil => rfl
  | cons x _ ih => simp only [suL, ih]
  | swap x y l => simp only [suL]; omega
  | trans _ _ h1 h2 => rw [h1, h2]
theorem Sm_suL : ∀ (n : Nat) (f : Nat → Int), Sm n f = suL ((List.range n).map f)
  | 0, _ => rfl
  | n + 1, f => by
    rw [Sm, Sm_suL n f, List.range_succ, List.map_append, suL_append]
    simp [suL]
theorem Sm_perm {n : Nat} {π : Nat → Nat} (f : Nat → Int) (h1 : ∀ i, i < n → π i < n) (h2 : ∀ i, i < n → ∀ j, j < n → π i = π j → i = j) : Sm n (fun i => f (π i)) = Sm n f := by
  rw [Sm_suL, Sm_suL, show (fun i => f (π i)) = f ∘ π from rfl, ← List.map_map]
  exact suL_perm ((perm_range h1 h2).map f)
theorem Sm_cst (c : Int) : ∀ n : Nat, Sm n (fun _ => c) = n * c
  | 0 => by simp [Sm]
  | n + 1 => by rw [Sm, Sm_cst c n]; push_cast; rw [Int.add_mul, Int.one_mul]
theorem Sm_swp (k : Nat) (f : Nat → Nat → Int) : ∀ h : Nat, Sm h (fun x => Sm k (fun y => f x y)) = Sm k (fun y => Sm h (fun x => f x y))
  | 0 => by
    simp only [Sm]
    rw [Sm_cst]
    simp
  | h + 1 => by
    simp only [Sm]
    rw [Sm_swp k f h, ← Sm_add]
theorem Sm_count (P : Nat → Bool) : ∀ n : Nat, Sm n (fun i => if P i = true then 1 else 0) = (((List.range n).filter P).length : Int)
  | 0 => rfl
  | n + 1 => by
    rw [Sm, Sm_count P n, List.range_succ, List.filter_append, List.length_append]
    by_cases h : P n = true
    · simp [h]
    · simp [h]
theorem Sm_one {n j : Nat} (f : Nat → Int) (hj : j < n) (h : ∀ i, i < n → i ≠ j → f i = 0) : Sm n f = f j := by
  induction n with
  | zero => omega
  | succ n ih =>
    rw [Sm]
    by_cases e : j = n
    · subst e
      have : Sm j f = Sm j (fun _ => 0) := Sm_congr j fun i hi => h i (by omega) (by omega)
      rw [this, Sm_cst]
      omega
    · rw [ih (by omega) fun i hi => h i (by omega), h n (by omega) (by omega)]
      omega
end QR
/-- the sum over the hours of a clock -/
def SP (p : Int) (f : Int → Int) : Int := QR.Sm p.toNat fun i => f (i : Int)
section
variable {p a b c k A C n : Int} {f g : Int → Int}
theorem SP.congr (h : ∀ x, 0 ≤ x → x < p → f x = g x) : SP p f = SP p g := QR.Sm_congr _ fun i hi => h i (by omega) (by omega)
theorem SP.same (h : ∀ x, f x = g x) : SP p f = SP p g := SP.congr fun x _ _ => h x
theorem SP.add : SP p (fun x => f x + g x) = SP p f + SP p g := QR.Sm_add ..
theorem SP.mul : SP p (fun x => c * f x) = c * SP p f := QR.Sm_mul ..
theorem SP.const (h : 0 ≤ p) : SP p (fun _ => c) = p * c := by
  unfold SP
  rw [QR.Sm_cst, Int.toNat_of_nonneg h]
theorem SP.swap {F : Int → Int → Int} : SP p (fun x => SP p (fun y => F x y)) = SP p (fun y => SP p (fun x => F x y)) := QR.Sm_swp ..
def Per (p : Int) (f : Int → Int) : Prop := ∀ x, f (x % p) = f x
theorem Per.of (h : ∀ x y, p ∣ x - y → f x = f y) : Per p f := fun x => h _ _ ⟨-(x / p), by have := Int.mul_ediv_add_emod x p; rw [Int.mul_neg]; omega⟩
theorem SP.reix (op : QR.OP p) (ha : ¬ p ∣ a) (hf : Per p f) : SP p (fun x => f (a * x + c)) = SP p f := by
  have h3 := op.three
  have m1 := fun z => Int.emod_nonneg z (show p ≠ 0 by omega)
  have m2 := fun z => Int.emod_lt_of_pos z (show 0 < p by omega)
  have e : SP p (fun x => f (a * x + c)) = QR.Sm p.toNat (fun i => (fun j : Nat => f (j : Int)) (((a * (i : Int) + c) % p).toNat)) := QR.Sm_congr _ fun i hi => by
    show f (a * (i : Int) + c) = f ((((a * (i : Int) + c) % p).toNat : Nat) : Int)
    rw [Int.toNat_of_nonneg (m1 _), hf]
  rw [e]
  refine QR.Sm_perm (fun j : Nat => f (j : Int)) (fun i hi => by have := m2 (a * (i : Int) + c); have := m1 (a * (i : Int) + c); omega) fun i hi j hj z => ?_
  have z1 : (a * (i : Int) + c) % p = (a * (j : Int) + c) % p := by
    have := m1 (a * (i : Int) + c)
    have := m1 (a * (j : Int) + c)
    omega
  have d : p ∣ a * ((i : Int) - j) := by
    have := Int.dvd_of_emod_eq_zero (Int.emod_eq_emod_iff_emod_sub_eq_zero.mp z1)
    rwa [show a * (i : Int) + c - (a * (j : Int) + c) = a * ((i : Int) - j) by rw [Int.mul_sub]; omega] at this
  have := QR.small_dvd ((op.1.dvd_mul d).resolve_left ha) (by omega) (by omega)
  omega
theorem SP.shift (op : QR.OP p) (hf : Per p f) : SP p (fun x => f (x + c)) = SP p f := by
  have := SP.reix (a := 1) (c := c) op (fun z => by have := Int.le_of_dvd (by decide) z; have := op.three; omega) hf
  simpa using this
theorem SP.scale (op : QR.OP p) (ha : ¬ p ∣ a) (hf : Per p f) : SP p (fun x => f (a * x)) = SP p f := by
  have := SP.reix (c := 0) op ha hf
  simpa using this
/-- one if so, none if not -/
def ind (P : Prop) [Decidable P] : Int := if P then 1 else 0
theorem ind_iff {P Q : Prop} [Decidable P] [Decidable Q] (h : P ↔ Q) : ind P = ind Q := by
  unfold ind
  by_cases p : P
  · rw [if_pos p, if_pos (h.mp p)]
  · rw [if_neg p, if_neg fun q => p (h.mpr q)]
theorem ind_y {P : Prop} [Decidable P] (h : P) : ind P = 1 := if_pos h
theorem ind_n {P : Prop} [Decidable P] (h : ¬ P) : ind P = 0 := if_neg h
theorem dvd_congr {x y : Int} (h : p ∣ x - y) : p ∣ x ↔ p ∣ y := by
  constructor
  · intro d
    have := Int.dvd_sub d h
    rwa [show x - (x - y) = y by omega] at this
  · intro d
    have := Int.dvd_add h d
    rwa [show x - y + y = x by omega] at this
theorem SP.zero_one (op : QR.OP p) : SP p (fun x => ind (p ∣ x)) = 1 := by
  have h3 := op.three
  unfold SP
  rw [QR.Sm_one (j := 0) _ (by omega) fun i hi hn => ind_n fun z => by
    have := Int.le_of_dvd (by omega) z
    omega]
  exact ind_y (Int.dvd_zero p)
theorem SP.lin (op : QR.OP p) (ha : ¬ p ∣ a) : SP p (fun x => ind (p ∣ a * x + c)) = 1 := by
  rw [SP.reix (f := fun x => ind (p ∣ x)) op ha (Per.of fun x y h => ind_iff (dvd_congr h)), SP.zero_one op]
theorem inv_hour (op : QR.OP p) (ha : ¬ p ∣ a) : ∃ z, p ∣ a * z - 1 := by
  have h3 := op.three
  obtain ⟨h, rfl⟩ := odd_half (by omega) op.2
  obtain ⟨j, _, hj⟩ := QR.solve (op.1.cop ha) (a := 1) fun z => by
    have := Int.le_of_dvd (by decide) z
    omega
  exact ⟨(j : Int) + 1, hj⟩
theorem n2_of (op : QR.OP p) : ¬ p ∣ 2 := fun z => by
  have := Int.le_of_dvd (by decide) z
  have := op.three
  omega
theorem SP.ofRoots (h : 0 < p) : SP p (fun x => ind ((a * x * x + b * x + c) % p = 0)) = ((QR.rootsL a b c p).length : Int) := by
  unfold SP QR.rootsL ind
  rw [List.filter_map, List.length_map, ← QR.Sm_count]
  refine QR.Sm_congr _ fun i hi => ?_
  by_cases e : (a * (i : Int) * (i : Int) + b * (i : Int) + c) % p = 0 <;> simp [e]
/-- how many roots a number has -/
theorem SP.root (op : QR.OP p) : SP p (fun x => ind (p ∣ x * x - n)) = 1 + sgn n p := by
  have h3 := op.three
  obtain ⟨z, hz⟩ := inv_hour op (a := 2 * 1) (by rw [Int.mul_one]; exact n2_of op)
  have h1 : ¬ p ∣ 1 := fun z => by have := Int.le_of_dvd (by decide) z; omega
  have e := QR.how_sgn (a := 1) (b := 0) (c := -n) op h1 hz
  rw [← SP.ofRoots (by omega)] at e
  have s4 : sgn (0 * 0 - 4 * 1 * -n) p = sgn n p := by
    rw [show (0 * 0 - 4 * 1 * -n : Int) = 2 * 2 * n by omega, sgn_mul (by omega) op.2, sgn_mul (by omega) op.2, sgn_sq (by omega) op.2, if_pos (op.1.cop (n2_of op)), Int.one_mul]
  rw [s4] at e
  rw [← e]
  refine SP.same fun x => ind_iff ?_
  rw [show 1 * x * x + 0 * x + -n = x * x - n by rw [Int.one_mul]; omega]
  exact ⟨Int.emod_eq_zero_of_dvd, Int.dvd_of_emod_eq_zero⟩
theorem sgn_clk (op : QR.OP p) : Per p (fun x => sgn x p) := Per.of fun x y h => sgn_congr (by have := op.three; omega) op.2 h
theorem SP.sgn0 (op : QR.OP p) : SP p (fun x => sgn x p) = 0 := by
  have h3 := op.three
  obtain ⟨t, ht⟩ := nonres op
  have nt : ¬ p ∣ t := fun z => by
    rw [sgn_at0 op (Int.emod_eq_zero_of_dvd z)] at ht
    exact absurd ht (by decide)
  have e := SP.scale (f := fun x => sgn x p) op nt (sgn_clk op)
  rw [SP.same (g := fun x => -1 * sgn x p) fun x => by rw [sgn_mul (by omega) op.2, ht], SP.mul] at e
  omega
/-- the sum of the signs of the squares and a number -/
theorem SP.sq (op : QR.OP p) (hk : ¬ p ∣ k) : SP p (fun x => sgn (x * x + k) p) = -1 := by
  have h3 := op.three
  have e1 : SP p (fun x => SP p (fun y => ind (p ∣ y * y - (x * x + k)))) = p + SP p (fun x => sgn (x * x + k) p) := by
    rw [SP.same (g := fun x => 1 + sgn (x * x + k) p) fun x => SP.root op, SP.add, SP.const (by omega), Int.mul_one]
  have e2 : SP p (fun x => SP p (fun y => ind (p ∣ y * y - (x * x + k)))) = SP p (fun x => SP p (fun u => ind (p ∣ 2 * u * x + (u * u - k)))) := SP.same fun x => by
    rw [← SP.shift (c := x) (f := fun y => ind (p ∣ y * y - (x * x + k))) op (Per.of fun y z h => ind_iff (dvd_congr (by
      obtain ⟨d, hd⟩ := h
      exact ⟨d * (y + z), by rw [← Int.mul_assoc, ← hd]; grind⟩)))]
    exact SP.same fun u => ind_iff (by rw [show (u + x) * (u + x) - (x * x + k) = 2 * u * x + (u * u - k) by grind])
  rw [e2, SP.swap] at e1
  have e3 : SP p (fun u => SP p (fun x => ind (p ∣ 2 * u * x + (u * u - k)))) = SP p (fun u => 1 + -1 * ind (p ∣ u)) := SP.same fun u => by
    by_cases hu : p ∣ u
    · rw [ind_y hu, SP.same (g := fun _ => 0) fun x => ind_n fun z => hk ?_, SP.const (by omega)]
      · omega
      · obtain ⟨d, rfl⟩ := hu
        obtain ⟨e, he⟩ := z
        exact ⟨2 * d * x + d * (p * d) - e, by rw [Int.mul_sub, ← he]; grind⟩
    · rw [ind_n hu, SP.lin op fun z => (op.1.dvd_mul z).elim (n2_of op) hu]
      rfl
  rw [e3, SP.add, SP.const (by omega), SP.mul, SP.zero_one op] at e1
  omega
theorem sgn_self (op : QR.OP p) (h : ¬ p ∣ a) : sgn a p * sgn a p = 1 := by
  rw [sgn_sq (by have := op.three; omega) op.2, if_pos (op.1.cop h)]
theorem SP.quad (op : QR.OP p) (hA : ¬ p ∣ A) : SP p (fun x => sgn (A * x * x + C) p) = sgn A p * (if p ∣ C then p - 1 else -1) := by
  have h3 := op.three
  have sA := sgn_self op hA
  by_cases hC : p ∣ C
  · rw [if_pos hC]
    rw [SP.same (g := fun x => sgn A p * (1 + -1 * ind (p ∣ x))) fun x => ?_, SP.mul, SP.add, SP.const (by omega), SP.mul, SP.zero_one op]
    · congr 1
      omega
    · rw [show sgn (A * x * x + C) p = sgn (A * (x * x)) p from sgn_congr (by omega) op.2 (by rwa [show A * x * x + C - A * (x * x) = C by rw [Int.mul_assoc]; omega]), sgn_mul (by omega) op.2, sgn_mul (by omega) op.2]
      by_cases hx : p ∣ x
      · rw [ind_y hx, sgn_at0 op (Int.emod_eq_zero_of_dvd hx)]
        rfl
      · rw [ind_n hx, sgn_self op hx]
        rfl
  · rw [if_neg hC]
    have e : SP p (fun x => sgn A p * sgn (A * x * x + C) p) = -1 := by
      rw [SP.same (g := fun x => (fun z => sgn (z * z + A * C) p) (A * x)) fun x => by
        rw [← sgn_mul (by omega) op.2]
        exact congrArg (fun z => sgn z p) (by grind)]
      rw [SP.scale (f := fun z => sgn (z * z + A * C) p) op hA (Per.of fun x y h => sgn_congr (by omega) op.2 (by
        obtain ⟨d, hd⟩ := h
        exact ⟨d * (x + y), by rw [← Int.mul_assoc, ← hd]; grind⟩))]
      exact SP.sq op fun z => (op.1.dvd_mul z).elim hA hC
    rw [SP.mul] at e
    have : sgn A p * (sgn A p * SP p (fun x => sgn (A * x * x + C) p)) = sgn A p * -1 := by rw [e]
    rwa [← Int.mul_assoc, sA, Int.one_mul] at this
/-- the points of a conic -/
def conN (a b c p : Int) : Int := SP p fun x => SP p fun y => ind ((a * x * x + b * y * y - c) % p = 0)
theorem emod_dvd {z : Int} : z % p = 0 ↔ p ∣ z := ⟨Int.dvd_of_emod_eq_zero, Int.emod_eq_zero_of_dvd⟩
/-- how often b y y is a number -/
theorem SP.root2 (op : QR.OP p) (hb : ¬ p ∣ b) : SP p (fun y => ind (p ∣ b * y * y - n)) = 1 + sgn (b * n) p := by
  rw [← SP.root (n := b * n) op, ← SP.scale (f := fun z => ind (p ∣ z * z - b * n)) op hb (Per.of fun y z h => ind_iff (dvd_congr (by
    obtain ⟨d, hd⟩ := h
    exact ⟨d * (y + z), by rw [← Int.mul_assoc, ← hd]; grind⟩)))]
  refine SP.same fun y => ind_iff ?_
  rw [show b * y * (b * y) - b * n = b * (b * y * y - n) by grind]
  exact ⟨fun z => Int.dvd_mul_of_dvd_right z, fun z => (op.1.dvd_mul z).resolve_left hb⟩
theorem conN_swap : conN a b c p = conN b a c p := by
  unfold conN
  rw [SP.swap]
  exact SP.same fun x => SP.same fun y => ind_iff (by rw [show a * y * y + b * x * x - c = b * x * x + a * y * y - c by omega])
theorem conN_00 (op : QR.OP p) (ha : p ∣ a) (hb : p ∣ b) : conN a b c p = if p ∣ c then p * p else 0 := by
  have h3 := op.three
  unfold conN
  have e : ∀ x y : Int, (a * x * x + b * y * y - c) % p = 0 ↔ p ∣ c := fun x y => by
    rw [emod_dvd]
    obtain ⟨d, rfl⟩ := ha
    obtain ⟨e, rfl⟩ := hb
    rw [show p * d * x * x + p * e * y * y - c = p * (d * x * x + e * y * y) + -c by grind]
    constructor
    · rintro ⟨k, hk⟩
      exact ⟨d * x * x + e * y * y - k, by rw [Int.mul_sub, ← hk]; omega⟩
    · rintro ⟨k, hk⟩
      exact ⟨d * x * x + e * y * y - k, by rw [Int.mul_sub, ← hk]; omega⟩
  rw [SP.same (g := fun _ => p * ind (p ∣ c)) fun x => by rw [SP.same (g := fun _ => ind (p ∣ c)) fun y => ind_iff (e x y), SP.const (by omega)], SP.const (by omega)]
  unfold ind
  split
  · rw [Int.mul_one]
  · rw [Int.mul_zero, Int.mul_zero]
theorem conN_0 (op : QR.OP p) (ha : p ∣ a) : conN a b c p = p * ((QR.rootsL b 0 (-c) p).length : Int) := by
  have h3 := op.three
  unfold conN
  rw [← SP.ofRoots (by omega), SP.same (g := fun _ => SP p fun y => ind ((b * y * y + 0 * y + -c) % p = 0)) fun x => SP.same fun y => ind_iff ?_, SP.const (by omega)]
  rw [emod_dvd, emod_dvd]
  obtain ⟨d, rfl⟩ := ha
  exact dvd_congr ⟨d * x * x, by grind⟩
theorem conN_pp (op : QR.OP p) (ha : ¬ p ∣ a) (hb : ¬ p ∣ b) : conN a b c p = if p ∣ c then p + (p - 1) * sgn (-(a * b)) p else p - sgn (-(a * b)) p := by
  have h3 := op.three
  unfold conN
  rw [SP.same (g := fun x => 1 + sgn (-(a * b) * x * x + b * c) p) fun x => ?_, SP.add, SP.const (by omega), SP.quad op (fun z => (op.1.dvd_mul (Int.dvd_neg.mp z)).elim ha hb)]
  · have : p ∣ b * c ↔ p ∣ c := ⟨fun z => (op.1.dvd_mul z).resolve_left hb, fun z => Int.dvd_mul_of_dvd_right z⟩
    by_cases hc : p ∣ c
    · rw [if_pos (this.mpr hc), if_pos hc, Int.mul_one, Int.mul_comm]
    · rw [if_neg fun z => hc (this.mp z), if_neg hc]
      omega
  · rw [SP.same (g := fun y => ind (p ∣ b * y * y - (c - a * x * x))) fun y => ind_iff (by rw [emod_dvd, show a * x * x + b * y * y - c = b * y * y - (c - a * x * x) by omega]), SP.root2 op hb]
    congr 2
    grind
end
/-! part m_jac -/
/-! sums of the signs of x (x x + n) -/
def jacF (p n x : Int) : Int := sgn (x * (x * x + n)) p
def jacS (p n : Int) : Int := SP p fun x => jacF p n x
section
variable {p n m s t : Int}
theorem jacF_clk (op : QR.OP p) (n : Int) : Per p (fun x => jacF p n x) := Per.of fun x y h => sgn_congr (by have := op.three; omega) op.2 (by
  obtain ⟨d, hd⟩ := h
  obtain rfl : x = y + p * d := by omega
  exact ⟨d * (y * y + n) + (y + p * d) * (2 * y * d + p * d * d), by grind⟩)
theorem jacF_n (op : QR.OP p) (h : p ∣ n - m) (x : Int) : jacF p n x = jacF p m x := sgn_congr (by have := op.three; omega) op.2 (by
  obtain ⟨d, hd⟩ := h
  exact ⟨x * d, by rw [Int.mul_left_comm, ← hd]; grind⟩)
theorem jacS_n (op : QR.OP p) (h : p ∣ n - m) : jacS p n = jacS p m := SP.same fun x => jacF_n op h x
theorem jacS_scale (op : QR.OP p) (hs : ¬ p ∣ s) : jacS p (n * s * s) = sgn s p * jacS p n := by
  have h3 := op.three
  have ss := sgn_self op hs
  unfold jacS
  rw [← SP.scale (a := s) op hs (jacF_clk op (n * s * s)), ← SP.mul]
  refine SP.same fun x => ?_
  unfold jacF
  rw [show s * x * (s * x * (s * x) + n * s * s) = s * s * (s * (x * (x * x + n))) by grind, sgn_mul (by omega) op.2, sgn_mul (by omega) op.2 s s, ss, Int.one_mul, sgn_mul (by omega) op.2]
theorem jacF_neg (op : QR.OP p) (x : Int) : jacF p n (-x) = sgn (-1) p * jacF p n x := by
  have h3 := op.three
  unfold jacF
  rw [← sgn_mul (by omega) op.2]
  exact congrArg (fun z => sgn z p) (by grind)
theorem jacS_3 (op : QR.OP p) (h : p % 4 = 3) : jacS p n = 0 := by
  have h3 := op.three
  have n1 : ¬ p ∣ -1 := fun z => by
    have := Int.le_of_dvd (by decide) (Int.dvd_neg.mp z)
    omega
  have e : jacS p n = sgn (-1) p * jacS p n := by
    conv => lhs; unfold jacS
    rw [← SP.scale (a := -1) op n1 (jacF_clk op n)]
    unfold jacS
    rw [← SP.mul]
    exact SP.same fun x => by rw [show (-1 : Int) * x = -x by omega, jacF_neg op]
  rw [sgn_neg1 (by omega) op.2, h] at e
  omega
theorem sgn_m4 (op : QR.OP p) (h : p % 4 = 1) : sgn (-1) p = 1 := by
  have h3 := op.three
  rw [sgn_neg1 (by omega) op.2, h]
  rfl
/-- the sum over the first half of the hours -/
def jacH (p n : Int) : Int := QR.Sm ((p - 1) / 2).toNat fun i => jacF p n ((i : Int) + 1)
theorem Sm_split (f : Nat → Int) (a : Nat) : ∀ b : Nat, QR.Sm (a + b) f = QR.Sm a f + QR.Sm b (fun i => f (a + i))
  | 0 => by simp [QR.Sm]
  | b + 1 => by
    rw [← Nat.add_assoc, QR.Sm, Sm_split f a b, QR.Sm]
    omega
theorem Sm_flip (f : Nat → Int) (n : Nat) : QR.Sm n (fun i => f (n - 1 - i)) = QR.Sm n f := QR.Sm_perm (π := fun i => n - 1 - i) f (fun i hi => by show n - 1 - i < n; omega) fun i hi j hj e => by
  have : n - 1 - i = n - 1 - j := e
  omega
theorem jacS_half (op : QR.OP p) (h : p % 4 = 1) (n : Int) : jacS p n = 2 * jacH p n := by
  have h3 := op.three
  have o2 := op.2
  unfold jacS SP jacH
  obtain ⟨k, hk⟩ : ∃ k : Nat, p = 2 * (k : Int) + 1 := ⟨(p / 2).toNat, by omega⟩
  rw [show p.toNat = (k + k) + 1 by omega, QR.Sm_first, Sm_split _ k k, show ((p - 1) / 2).toNat = k by omega]
  have e0 : jacF p n (((0 : Nat)) : Int) = 0 := by
    unfold jacF
    rw [show (((0 : Nat)) : Int) = 0 from rfl, Int.zero_mul]
    exact sgn_at0 op (Int.zero_emod p)
  have e1 : QR.Sm k (fun i => jacF p n (((k + i + 1 : Nat)) : Int)) = QR.Sm k (fun i => jacF p n ((i : Int) + 1)) := by
    rw [← Sm_flip (fun i => jacF p n (((k + i + 1 : Nat)) : Int))]
    refine QR.Sm_congr k fun i hi => ?_
    show jacF p n (((k + (k - 1 - i) + 1 : Nat)) : Int) = jacF p n ((i : Int) + 1)
    have := jacF_neg (n := n) op ((i : Int) + 1)
    rw [sgn_m4 op h, Int.one_mul] at this
    rw [← this]
    have c : ∀ x, jacF p n (x % p) = jacF p n x := jacF_clk op n
    rw [← c (((k + (k - 1 - i) + 1 : Nat)) : Int), ← c (-((i : Int) + 1))]
    congr 1
    refine Int.emod_eq_emod_iff_emod_sub_eq_zero.mpr (Int.emod_eq_zero_of_dvd ⟨1, by omega⟩)
  have e2 : QR.Sm k (fun i => jacF p n (((i + 1 : Nat)) : Int)) = QR.Sm k (fun i => jacF p n ((i : Int) + 1)) := QR.Sm_congr k fun i _ => by
    rw [show (((i + 1 : Nat)) : Int) = (i : Int) + 1 by omega]
  show jacF p n (((0 : Nat)) : Int) + (QR.Sm k (fun i => jacF p n (((i + 1 : Nat)) : Int)) + QR.Sm k (fun i => jacF p n (((k + i + 1 : Nat)) : Int))) = _
  rw [e0, e1, e2]
  omega
/-- the half for -1 is odd -/
theorem jacH_odd (op : QR.OP p) (h : p % 4 = 1) : jacH p (-1) % 2 = 1 := by
  have h3 := op.three
  have o2 := op.2
  obtain ⟨k, hk⟩ : ∃ k : Nat, p = 4 * (k : Int) + 1 := ⟨(p / 4).toNat, by omega⟩
  unfold jacH
  obtain ⟨j, hj⟩ : ∃ j, ((p - 1) / 2).toNat = j + 1 := ⟨((p - 1) / 2).toNat - 1, by omega⟩
  rw [hj, QR.Sm_first]
  have e0 : jacF p (-1) ((((0 : Nat)) : Int) + 1) = 0 := by
    unfold jacF
    exact sgn_at0 op (by simp)
  rw [e0, Int.zero_add]
  have par : ∀ l : Nat, l ≤ j → (QR.Sm l (fun i => jacF p (-1) (((i + 1 : Nat) : Int) + 1)) - l) % 2 = 0 := by
    intro l
    induction l with
    | zero => intro _; simp [QR.Sm]
    | succ l ih =>
      intro hl
      have ih := ih (by omega)
      rw [QR.Sm]
      generalize QR.Sm l (fun i => jacF p (-1) (((i + 1 : Nat) : Int) + 1)) = S at ih ⊢
      have nz : ¬ p ∣ (((l + 1 : Nat) : Int) + 1) * ((((l + 1 : Nat) : Int) + 1) * (((l + 1 : Nat) : Int) + 1) + -1) := fun z => by
        rcases op.1.dvd_mul z with z | z
        · have := Int.le_of_dvd (by omega) z
          omega
        · rw [show (((l + 1 : Nat) : Int) + 1) * (((l + 1 : Nat) : Int) + 1) + -1 = ((l : Int) + 1) * ((l : Int) + 3) by push_cast; grind] at z
          rcases op.1.dvd_mul z with z | z <;> have := Int.le_of_dvd (by omega) z <;> omega
      have pm : jacF p (-1) (((l + 1 : Nat) : Int) + 1) = 1 ∨ jacF p (-1) (((l + 1 : Nat) : Int) + 1) = -1 := sgn_away op fun z => nz (Int.dvd_of_emod_eq_zero z)
      rcases pm with e | e <;> rw [e] <;> push_cast <;> omega
  have := par j (Nat.le_refl j)
  omega
/-- the sum over all numbers of the squares of the sums -/
theorem jacS_sq (op : QR.OP p) (h : p % 4 = 1) : SP p (fun m => jacS p m * jacS p m) = 2 * p * (p - 1) := by
  have h3 := op.three
  have inner : ∀ x y : Int, SP p (fun m => sgn ((x * x + m) * (y * y + m)) p) = p * ind (p ∣ x * x - y * y) - 1 := fun x y => by
    have e1 : SP p (fun m => sgn ((x * x + m) * (y * y + m)) p) = SP p (fun m => sgn (m * (m + (y * y - x * x))) p) := by
      rw [← SP.shift (c := x * x) (f := fun m => sgn (m * (m + (y * y - x * x))) p) op (Per.of fun u v hh => sgn_congr (by omega) op.2 (by
        obtain ⟨d, hd⟩ := hh
        obtain rfl : u = v + p * d := by omega
        exact ⟨d * (v + (y * y - x * x)) + (v + p * d) * d, by grind⟩))]
      exact SP.same fun m => congrArg (fun z => sgn z p) (by grind)
    rw [e1]
    have e2 : SP p (fun m => sgn (m * (m + (y * y - x * x))) p) = SP p (fun m => sgn (1 * m * m + -((y * y - x * x) * (y * y - x * x))) p) := by
      rw [← SP.reix (a := 2) (c := y * y - x * x) (f := fun m => sgn (1 * m * m + -((y * y - x * x) * (y * y - x * x))) p) op (n2_of op) (Per.of fun u v hh => sgn_congr (by omega) op.2 (by
        obtain ⟨d, hd⟩ := hh
        obtain rfl : u = v + p * d := by omega
        exact ⟨d * (2 * v + p * d), by grind⟩))]
      refine SP.same fun m => ?_
      rw [show 1 * (2 * m + (y * y - x * x)) * (2 * m + (y * y - x * x)) + -((y * y - x * x) * (y * y - x * x)) = 2 * 2 * (m * (m + (y * y - x * x))) by grind, sgn_mul (by omega) op.2 (2 * 2), sgn_mul (by omega) op.2 2 2, sgn_self op (n2_of op), Int.one_mul]
    rw [e2, SP.quad op (fun z => by have := Int.le_of_dvd (by decide) z; omega), sgn_one1 (by omega) op.2, Int.one_mul]
    have : p ∣ -((y * y - x * x) * (y * y - x * x)) ↔ p ∣ x * x - y * y := by
      rw [Int.dvd_neg]
      constructor
      · intro z
        have := (op.1.dvd_mul z).elim id id
        rw [show x * x - y * y = -(y * y - x * x) by omega]
        exact Int.dvd_neg.mpr this
      · intro z
        refine Int.dvd_mul_of_dvd_left ?_
        rw [show y * y - x * x = -(x * x - y * y) by omega]
        exact Int.dvd_neg.mpr z
    by_cases hd : p ∣ x * x - y * y
    · rw [if_pos (this.mpr hd), ind_y hd]
      omega
    · rw [if_neg fun z => hd (this.mp z), ind_n hd]
      omega
  -- both sums told apart
  have e1 : SP p (fun m => jacS p m * jacS p m) = SP p (fun m => SP p (fun x => SP p (fun y => sgn (x * y) p * sgn ((x * x + m) * (y * y + m)) p))) := SP.same fun m => by
    show jacS p m * jacS p m = _
    conv => lhs; rhs; unfold jacS
    rw [← SP.mul]
    rw [SP.swap]
    refine SP.same fun y => ?_
    rw [Int.mul_comm]
    unfold jacS
    rw [← SP.mul]
    refine SP.same fun x => ?_
    unfold jacF
    rw [← sgn_mul (by omega) op.2, ← sgn_mul (by omega) op.2]
    exact congrArg (fun z => sgn z p) (by grind)
  rw [e1, SP.swap]
  have e2 : SP p (fun x => SP p (fun m => SP p (fun y => sgn (x * y) p * sgn ((x * x + m) * (y * y + m)) p))) = SP p (fun x => SP p (fun y => sgn (x * y) p * (p * ind (p ∣ x * x - y * y) - 1))) := SP.same fun x => by
    rw [SP.swap]
    exact SP.same fun y => by rw [SP.mul, inner]
  rw [e2]
  have e3 : ∀ x : Int, SP p (fun y => sgn (x * y) p * (p * ind (p ∣ x * x - y * y) - 1)) = p * SP p (fun y => sgn (x * y) p * ind (p ∣ x * x - y * y)) := fun x => by
    rw [SP.same (g := fun y => p * (sgn (x * y) p * ind (p ∣ x * x - y * y)) + -sgn x p * sgn y p) fun y => by rw [sgn_mul (by omega) op.2]; grind, SP.add, SP.mul, SP.mul, SP.sgn0 op]
    omega
  rw [SP.same (g := fun x => p * SP p (fun y => sgn (x * y) p * ind (p ∣ x * x - y * y))) e3, SP.mul]
  have e4 : SP p (fun x => SP p (fun y => sgn (x * y) p * ind (p ∣ x * x - y * y))) = SP p (fun x => 2 + -2 * ind (p ∣ x)) := SP.congr fun x x0 x1 => by
    by_cases hx : p ∣ x
    · rw [ind_y hx]
      have : x = 0 := QR.small_dvd hx (by omega) (by omega)
      subst this
      rw [SP.same (g := fun _ => 0) fun y => by rw [Int.zero_mul, sgn_at0 op (Int.zero_emod p), Int.zero_mul], SP.const (by omega)]
      omega
    · rw [ind_n hx]
      have xp : 0 < x := by
        rcases Int.lt_or_eq_of_le x0 with z | z
        · exact z
        · exact absurd (by rw [← z]; exact Int.dvd_zero p) hx
      have ev : ∀ y, 0 ≤ y → y < p → sgn (x * y) p * ind (p ∣ x * x - y * y) = ind (y = x) + ind (y = p - x) := fun y y0 y1 => by
        have key : p ∣ x * x - y * y ↔ y = x ∨ y = p - x := by
          rw [show x * x - y * y = (x - y) * (x + y) by grind]
          constructor
          · intro z
            rcases op.1.dvd_mul z with z | z
            · have := QR.small_dvd z (by omega) (by omega)
              omega
            · obtain ⟨d, hd⟩ := z
              have d1 : d = 1 := by
                rcases Int.lt_or_le d 1 with w | w
                · have : p * d ≤ p * 0 := Int.mul_le_mul_of_nonneg_left (by omega) (by omega)
                  omega
                · rcases Int.lt_or_le 1 d with v | v
                  · have : p * 2 ≤ p * d := Int.mul_le_mul_of_nonneg_left (by omega) (by omega)
                    omega
                  · omega
              rw [d1] at hd
              omega
          · rintro (rfl | rfl)
            · exact ⟨0, by grind⟩
            · exact ⟨2 * x - p, by grind⟩
        have par : x ≠ p - x := fun z => by have := op.2; omega
        by_cases a : y = x
        · subst a
          rw [ind_y (key.mpr (.inl rfl)), ind_y rfl, ind_n par, sgn_mul (by omega) op.2, sgn_self op hx]
          rfl
        · by_cases b : y = p - x
          · rw [ind_y (key.mpr (.inr b)), ind_n a, ind_y b, b]
            rw [show sgn (x * (p - x)) p = sgn (-1 * (x * x)) p from sgn_congr (by omega) op.2 ⟨x, by grind⟩, sgn_mul (by omega) op.2, sgn_m4 op h, sgn_mul (by omega) op.2, sgn_self op hx]
            rfl
          · rw [ind_n fun z => (key.mp z).elim a b, ind_n a, ind_n b]
            omega
      rw [SP.congr (g := fun y => ind (y = x) + ind (y = p - x)) ev, SP.add]
      have pk : ∀ j, 0 ≤ j → j < p → SP p (fun y => ind (y = j)) = 1 := fun j j0 j1 => by
        unfold SP
        rw [QR.Sm_one (j := j.toNat) _ (by omega) fun i hi hn => ind_n (by omega)]
        exact ind_y (Int.toNat_of_nonneg j0)
      rw [pk x x0 x1, pk (p - x) (by omega) (by omega)]
      rfl
  rw [e4, SP.add, SP.const (by omega), SP.mul, SP.zero_one op]
  grind
theorem jacS_0 (op : QR.OP p) (hn : p ∣ n) : jacS p n = 0 := by
  have h3 := op.three
  rw [jacS_n op (m := 0) (by rwa [Int.sub_zero])]
  refine Eq.trans (SP.same fun x => ?_) (SP.sgn0 op)
  unfold jacF
  rw [Int.add_zero, sgn_mul (by omega) op.2, sgn_mul (by omega) op.2]
  by_cases hx : p ∣ x
  · rw [sgn_at0 op (Int.emod_eq_zero_of_dvd hx)]
    omega
  · rw [sgn_self op hx]
    omega
theorem jacS_same (op : QR.OP p) (hm : ¬ p ∣ m) (hn : ¬ p ∣ n) (e : sgn m p = sgn n p) : jacS p m * jacS p m = jacS p n * jacS p n := by
  have h3 := op.three
  obtain ⟨z, hz⟩ := inv_hour op hn
  have nz : ¬ p ∣ z := fun y => by
    have : p ∣ 1 := by
      obtain ⟨a, ha⟩ := hz
      obtain ⟨b, rfl⟩ := y
      exact ⟨n * b - a, by rw [Int.mul_sub, ← ha]; grind⟩
    have := Int.le_of_dvd (by decide) this
    omega
  have s1 : sgn (m * z) p = 1 := by
    have : sgn (n * z) p = 1 := by rw [sgn_congr (by omega) op.2 hz, sgn_one1 (by omega) op.2]
    rw [sgn_mul (by omega) op.2] at this ⊢
    rw [e, this]
  have nmz : ¬ p ∣ m * z := fun y => (op.1.dvd_mul y).elim hm nz
  obtain ⟨s, hs⟩ : ∃ s : Int, p ∣ s * s - m * z := by
    obtain ⟨h, rfl⟩ := odd_half (by omega) op.2
    rw [sgn_G, QR.euler op.1 nmz] at s1
    exact s1
  have ns : ¬ p ∣ s := fun y => nmz (by
    have d := Int.dvd_sub (show p ∣ s * s from Int.dvd_mul_of_dvd_left y) hs
    rwa [show s * s - (s * s - m * z) = m * z by omega] at d)
  have ec : jacS p m = jacS p (n * s * s) := jacS_n op (by
    obtain ⟨a, ha⟩ := hz
    obtain ⟨b, hb⟩ := hs
    have e1 : s * s = m * z + p * b := by omega
    have e2 : n * z = 1 + p * a := by omega
    exact ⟨-(m * a + n * b), by
      rw [Int.mul_assoc, e1, show m - n * (m * z + p * b) = m - m * (n * z) - n * (p * b) by grind, e2]
      grind⟩)
  rw [ec, jacS_scale op ns]
  have := sgn_self op ns
  rw [show sgn s p * jacS p n * (sgn s p * jacS p n) = sgn s p * sgn s p * (jacS p n * jacS p n) by grind, this, Int.one_mul]
/-- a square and no square: the sums make four times the prime -/
theorem jacS_prime (op : QR.OP p) (h : p % 4 = 1) (hn : sgn n p = 1) (ht : sgn t p = -1) : jacS p n * jacS p n + jacS p t * jacS p t = 4 * p := by
  have h3 := op.three
  have nn : ¬ p ∣ n := fun z => by
    rw [sgn_at0 op (Int.emod_eq_zero_of_dvd z)] at hn
    exact absurd hn (by decide)
  have nt : ¬ p ∣ t := fun z => by
    rw [sgn_at0 op (Int.emod_eq_zero_of_dvd z)] at ht
    exact absurd ht (by decide)
  have sq := jacS_sq op h
  generalize hN : jacS p n * jacS p n = N at *
  generalize hT : jacS p t * jacS p t = T at *
  have e : SP p (fun m => 2 * (jacS p m * jacS p m)) = SP p (fun m => ((N + T) + (N - T) * sgn m p) + -(N + T) * ind (p ∣ m)) := SP.same fun m => by
    by_cases hm : p ∣ m
    · rw [jacS_0 op hm, ind_y hm, sgn_at0 op (Int.emod_eq_zero_of_dvd hm)]
      grind
    · rw [ind_n hm]
      rcases sgn_away op (fun z => hm (Int.dvd_of_emod_eq_zero z)) with c | c
      · rw [jacS_same op hm nn (c.trans hn.symm), hN, c]
        grind
      · rw [jacS_same op hm nt (c.trans ht.symm), hT, c]
        grind
  rw [SP.mul, sq, SP.add, SP.add, SP.const (by omega), SP.mul, SP.mul, SP.sgn0 op, SP.zero_one op] at e
  have e2 : (p - 1) * (N + T) = (p - 1) * (4 * p) := by grind
  exact Int.eq_of_mul_eq_mul_left (by omega) e2
theorem jacH_prime (op : QR.OP p) (h : p % 4 = 1) (hn : sgn n p = 1) (ht : sgn t p = -1) : jacH p n * jacH p n + jacH p t * jacH p t = p := by
  have e := jacS_prime op h hn ht
  rw [jacS_half op h, jacS_half op h] at e
  have : 4 * (jacH p n * jacH p n + jacH p t * jacH p t) = 4 * p := by
    rw [← e]
    grind
  omega
end
/-! part m_sgl -/
def sgL (m : Nat) (p : Int) (k : Nat) : Int := if k = 0 then 0 else if (k : Int) ∈ (List.range m).map (fun i : Nat => (1 + (i : Int)) * (1 + (i : Int)) % p) then 1 else -1
theorem sgL_full {p : Int} (op : QR.OP p) {k : Nat} (hk : k < p.toNat) : sgL (p - 1).toNat p k = sgn (k : Int) p := by
  have h3 := op.three
  unfold sgL
  by_cases k0 : k = 0
  · subst k0
    rw [if_pos rfl, sgn_at0 op (by simp)]
  · rw [if_neg k0]
    have km : ((k : Int)) % p = k := Int.emod_eq_of_lt (by omega) (by omega)
    have nk : ¬ (k : Int) % p = 0 := by rw [km]; omega
    have := sq_mem op nk
    rw [km] at this
    by_cases c : sgn (k : Int) p = 1
    · rw [if_pos (this.mpr c), c]
    · rw [if_neg fun z => c (this.mp z)]
      exact ((sgn_away op nk).resolve_left c).symm
theorem half_mem {p : Int} (op : QR.OP p) {k : Int} : k ∈ (List.range ((p + 1) / 2 - 1).toNat).map (fun i : Nat => (1 + (i : Int)) * (1 + (i : Int)) % p) ↔ k ∈ (List.range (p - 1).toNat).map (fun i : Nat => (1 + (i : Int)) * (1 + (i : Int)) % p) := by
  have h3 := op.three
  have o2 := op.2
  rw [List.mem_map, List.mem_map]
  constructor
  · rintro ⟨i, hi, e⟩
    exact ⟨i, List.mem_range.mpr (by have := List.mem_range.mp hi; omega), e⟩
  · rintro ⟨i, hi, e⟩
    have hi := List.mem_range.mp hi
    by_cases c : i < ((p + 1) / 2 - 1).toNat
    · exact ⟨i, List.mem_range.mpr c, e⟩
    · refine ⟨(p - 2 - i).toNat, List.mem_range.mpr (by omega), ?_⟩
      rw [← e]
      refine Int.emod_eq_emod_iff_emod_sub_eq_zero.mpr (Int.emod_eq_zero_of_dvd ?_)
      rw [show (((p - 2 - i).toNat : Nat) : Int) = p - 2 - i by omega]
      exact ⟨p - 2 * (1 + (i : Int)), by grind⟩
theorem sgL_half {p : Int} (op : QR.OP p) {k : Nat} (hk : k < p.toNat) : sgL ((p + 1) / 2 - 1).toNat p k = sgn (k : Int) p := by
  rw [← sgL_full op hk]
  unfold sgL
  by_cases k0 : k = 0
  · rw [if_pos k0, if_pos k0]
  · rw [if_neg k0, if_neg k0]
    have := half_mem op (k := (k : Int))
    by_cases c : (k : Int) ∈ (List.range ((p + 1) / 2 - 1).toNat).map (fun i : Nat => (1 + (i : Int)) * (1 + (i : Int)) % p)
    · rw [if_pos c, if_pos (this.mp c)]
    · rw [if_neg c, if_neg fun z => c (this.mpr z)]
theorem sgL_put {m : Nat} {p : Int} {j : Nat} (hj : (1 + (m : Int)) * (1 + (m : Int)) % p = (j : Int)) (j0 : j ≠ 0) : sgL (m + 1) p j = 1 := by
  unfold sgL
  rw [if_neg j0, if_pos]
  rw [List.range_succ, List.map_append, List.mem_append]
  exact .inr (List.mem_singleton.mpr hj.symm)
theorem sgL_keep {m : Nat} {p : Int} {j k : Nat} (hj : (1 + (m : Int)) * (1 + (m : Int)) % p = (j : Int)) (hk : k ≠ j) : sgL (m + 1) p k = sgL m p k := by
  unfold sgL
  by_cases k0 : k = 0
  · rw [if_pos k0, if_pos k0]
  · rw [if_neg k0, if_neg k0]
    have : (k : Int) ∈ (List.range (m + 1)).map (fun i : Nat => (1 + (i : Int)) * (1 + (i : Int)) % p) ↔ (k : Int) ∈ (List.range m).map (fun i : Nat => (1 + (i : Int)) * (1 + (i : Int)) % p) := by
      rw [List.range_succ, List.map_append, List.mem_append]
      refine ⟨fun z => z.resolve_right fun y => ?_, .inl⟩
      have : (k : Int) = (1 + (m : Int)) * (1 + (m : Int)) % p := List.mem_singleton.mp y
      rw [hj] at this
      omega
    by_cases c : (k : Int) ∈ (List.range m).map (fun i : Nat => (1 + (i : Int)) * (1 + (i : Int)) % p)
    · rw [if_pos c, if_pos (this.mpr c)]
    · rw [if_neg c, if_neg fun z => c (this.mp z)]
theorem rowV_repc {n : Nat} {c : Int} : List.replicate n (V.int c) = rowV n fun _ => c := by
  refine List.ext_getElem? fun i => ?_
  unfold rowV
  rw [List.getElem?_map, List.getElem?_replicate]
  by_cases hi : i < n
  · rw [if_pos hi, List.getElem?_range hi]
    rfl
  · rw [if_neg hi]
    have : (List.range n)[i]? = none := by simp; omega
    rw [this]
    rfl
theorem sq_n0 {p : Int} (op : QR.OP p) {i : Nat} (hi : (i : Int) < p - 1) : (1 + (i : Int)) * (1 + (i : Int)) % p ≠ 0 := fun z => by
  have h3 := op.three
  rcases op.1.dvd_mul (Int.dvd_of_emod_eq_zero z) with z | z <;> have := Int.le_of_dvd (by omega) z <;> omega
/-! part m_vopt -/
def vOpt : Option Int → V
  | some z => .int z
  | none => .non
theorem vOpt_some {z : Int} : vOpt (some z) = .int z := rfl
theorem vOpt_none : vOpt none = .non := rfl
/-! part m_form -/
/-- a form's three numbers -/
structure Fm where
  a : Int
  b : Int
  c : Int
deriving DecidableEq
def Fm.D (f : Fm) : Int := f.b * f.b - 4 * f.a * f.c
def Fm.ok (f : Fm) : Prop := 1 ≤ f.a ∧ f.D < 0
def Fm.at (f : Fm) (x y : Int) : Int := f.a * x * x + f.b * x * y + f.c * y * y
def Fm.st (f : Fm) (k : Int) : Fm := if k = 0 then ⟨f.c, -f.b, f.a⟩ else ⟨f.a, f.b + 2 * f.a * k, f.a * k * k + f.b * k + f.c⟩
def Fm.turn (f : Fm) (ks : List Int) : Fm := ks.foldl Fm.st f
def Fm.nx (f : Fm) : Option Int := if ¬ (-f.a < f.b ∧ f.b ≤ f.a) then some ((f.a - f.b) / (2 * f.a)) else if f.c < f.a ∨ f.a = f.c ∧ f.b < 0 then some 0 else none
def Fm.bd (n : Nat) (f : Fm) : Prop := Bd n f.a ∧ Bd n f.b ∧ Bd n f.c
theorem Fm.st_zero (f : Fm) : f.st 0 = ⟨f.c, -f.b, f.a⟩ := if_pos rfl
theorem Fm.st_ne {f : Fm} {k : Int} (h : k ≠ 0) : f.st k = ⟨f.a, f.b + 2 * f.a * k, f.a * k * k + f.b * k + f.c⟩ := if_neg h
theorem Fm.st_D (f : Fm) (k : Int) : (f.st k).D = f.D := by
  unfold Fm.st Fm.D
  split
  · simp only [Int.neg_mul_neg]
    grind
  · grind
theorem sq_nonneg (x : Int) : 0 ≤ x * x := by
  rcases Int.le_total 0 x with h | h
  · exact Int.mul_nonneg h h
  · have := Int.mul_nonneg (show 0 ≤ -x by omega) (show 0 ≤ -x by omega)
    rw [Int.neg_mul_neg] at this
    exact this
theorem Fm.ok.c_pos {f : Fm} (h : f.ok) : 1 ≤ f.c := by
  obtain ⟨h1, h2⟩ := h
  unfold Fm.D at h2
  have := sq_nonneg f.b
  rcases Int.lt_or_le f.c 1 with z | z
  · exfalso
    have : 4 * f.a * f.c ≤ 4 * f.a * 0 := Int.mul_le_mul_of_nonneg_left (by omega) (by omega)
    omega
  · exact z
theorem Fm.at_D (f : Fm) (x y : Int) : 4 * f.a * f.at x y = (2 * f.a * x + f.b * y) * (2 * f.a * x + f.b * y) - f.D * (y * y) := by
  unfold Fm.at Fm.D
  grind
theorem Fm.ok.st {f : Fm} (h : f.ok) (k : Int) : (f.st k).ok := by
  refine ⟨?_, by rw [Fm.st_D]; exact h.2⟩
  unfold Fm.st
  split
  · exact h.c_pos
  · exact h.1
theorem Fm.bd.mono {n m : Nat} {f : Fm} (h : Fm.bd n f) (hm : n ≤ m) : Fm.bd m f := ⟨h.1.mono hm, h.2.1.mono hm, h.2.2.mono hm⟩
theorem Fm.turn_snoc (f : Fm) (ks : List Int) (k : Int) : f.turn (ks ++ [k]) = (f.turn ks).st k := by
  unfold Fm.turn
  rw [List.foldl_append]
  rfl
theorem Fm.turn_D (f : Fm) : ∀ ks : List Int, (f.turn ks).D = f.D
  | [] => rfl
  | k :: ks => by
    show ((f.st k).turn ks).D = f.D
    rw [Fm.turn_D (f.st k) ks, Fm.st_D]
theorem Fm.ok.turn {f : Fm} (h : f.ok) : ∀ ks : List Int, (f.turn ks).ok
  | [] => h
  | k :: ks => Fm.ok.turn (h.st k) ks
theorem sq_le {x y : Int} (h : x.natAbs ≤ y.natAbs) : x * x ≤ y * y := by
  have e : ∀ z : Int, z * z = (z.natAbs : Int) * z.natAbs := fun z => by
    rw [← Int.natCast_mul, Int.natAbs_mul_self]
  rw [e x, e y]
  exact Int.mul_le_mul (by omega) (by omega) (by omega) (by omega)
/-! part m_side -/
open Classical in
/-- the integer from 0 on whose square is given -/
noncomputable def sideO (s : Int) : Option Int := if h : ∃ r : Int, 0 ≤ r ∧ r * r = s then some h.choose else none
theorem sq_inj {r t : Int} (hr : 0 ≤ r) (ht : 0 ≤ t) (e : r * r = t * t) : r = t := by
  rcases Int.lt_trichotomy r t with z | z | z
  · have := Int.mul_self_lt_mul_self hr z
    omega
  · exact z
  · have := Int.mul_self_lt_mul_self ht z
    omega
theorem sideO_some {s r : Int} (hr : 0 ≤ r) (e : r * r = s) : sideO s = some r := by
  unfold sideO
  have h : ∃ r : Int, 0 ≤ r ∧ r * r = s := ⟨r, hr, e⟩
  rw [dif_pos h]
  have := h.choose_spec
  exact congrArg some (sq_inj this.1 hr (by rw [this.2, e]))
theorem sideO_none {s : Int} (h : ∀ r : Int, 0 ≤ r → r * r ≠ s) : sideO s = none := dif_neg fun ⟨r, a, b⟩ => h r a b
theorem sideO_prop {s r : Int} (h : sideO s = some r) : 0 ≤ r ∧ r * r = s := by
  unfold sideO at h
  split at h
  · rename_i z
    have := z.choose_spec
    cases h
    exact this
  · cases h
theorem sideO_no {s r : Int} (h : sideO s = none) (hr : 0 ≤ r) : r * r ≠ s := fun e => by
  rw [sideO_some hr e] at h
  cases h
theorem sq_mono {x y : Int} (hx : 0 ≤ x) (h : x ≤ y) : x * x ≤ y * y := Int.mul_le_mul h h hx (by omega)
theorem nyy_le {n p y : Int} (hn : 1 ≤ n) (hy : 0 ≤ y) (h : n * y * y ≤ p) : y ≤ p := by
  have a := Int.mul_le_mul_of_nonneg_right hn (sq_nonneg y)
  rw [Int.mul_assoc] at h
  have b : y ≤ y * y ∨ y = 0 := by
    rcases Int.lt_or_le 0 y with z | z
    · exact .inl (QR.le_sq (by omega))
    · exact .inr (by omega)
  rcases b with b | b
  · omega
  · subst b
    omega
/-! part m_sidestep -/
theorem side_step {lo hi m : Int} (h0 : 0 ≤ lo) (h1 : hi - lo > 1) (hm : m = (lo + hi) / 2) : lo < m ∧ m < hi := by omega
/-! part m_wr -/
def WrAt (p n x y : Int) : Prop := 0 ≤ x ∧ 0 ≤ y ∧ x * x + n * y * y = p
namespace QR
theorem sq_zero {x : Int} (h : x * x = 0) : x = 0 := by
  rcases Int.mul_eq_zero.mp h with h | h <;> exact h
theorem not_sq_prime {p y : Int} (hp : Pm p) : y * y ≠ p := fun e => by
  have h2 := hp.1
  have a : p ∣ y * y := ⟨1, by omega⟩
  have b : p ∣ y := (Pm.dvd_mul hp a).elim id id
  obtain ⟨k, rfl⟩ := b
  have e1 : p * (k * k * p) = p * 1 := by
    rw [Int.mul_one]
    calc p * (k * k * p) = p * k * (p * k) := by grind
      _ = p := e
  have e2 : k * k * p = 1 := Int.eq_of_mul_eq_mul_left (by omega) e1
  have := sq_nonneg k
  rcases Int.lt_or_le 0 (k * k) with z | z
  · have : 1 * p ≤ k * k * p := Int.mul_le_mul_of_nonneg_right (by omega) (by omega)
    omega
  · have : k * k = 0 := by omega
    rw [this] at e2
    omega
/-- the same way, or (for n = 1) the other way round -/
theorem wr_unique {p n x y u v : Int} (hp : Pm p) (hn : 1 ≤ n) (h1 : WrAt p n x y) (h2 : WrAt p n u v) : (x = u ∧ y = v) ∨ n = 1 ∧ x = v ∧ y = u := by
  obtain ⟨x0, y0, e1⟩ := h1
  obtain ⟨u0, v0, e2⟩ := h2
  have p2 := hp.1
  have same : x * v = u * y → x = u ∧ y = v := fun e => by
    have a : p * (v * v) = p * (y * y) := by
      have : x * v * (x * v) = u * y * (u * y) := by rw [e]
      grind
    have b : v * v = y * y := Int.eq_of_mul_eq_mul_left (by omega) a
    have c : v = y := sq_inj v0 y0 b
    subst c
    exact ⟨sq_inj x0 u0 (by omega), rfl⟩
  have big : ∀ z : Int, p ∣ z → z ≠ 0 → p * p ≤ z * z := fun z ⟨k, hk⟩ hz => by
    subst hk
    have hk0 : k ≠ 0 := fun e => hz (by rw [e, Int.mul_zero])
    have : 1 ≤ k * k := by
      have := sq_nonneg k
      rcases Int.lt_or_le 0 (k * k) with z | z
      · omega
      · exact absurd (sq_zero (show k * k = 0 by omega)) hk0
    have : p * p * 1 ≤ p * p * (k * k) := Int.mul_le_mul_of_nonneg_left this (sq_nonneg p)
    calc p * p ≤ p * p * (k * k) := by omega
      _ = p * k * (p * k) := by grind
  have d : p ∣ (x * v - u * y) * (x * v + u * y) := ⟨v * v - y * y, by grind⟩
  have i1 : p * p = (x * u + n * (y * v)) * (x * u + n * (y * v)) + n * ((x * v - u * y) * (x * v - u * y)) := by
    rw [show p * p = p * (u * u + n * v * v) by rw [e2]]
    rw [show p * (u * u + n * v * v) = (x * x + n * y * y) * (u * u + n * v * v) by rw [e1]]
    grind
  have i2 : p * p = (x * u - n * (y * v)) * (x * u - n * (y * v)) + n * ((x * v + u * y) * (x * v + u * y)) := by
    rw [show p * p = p * (u * u + n * v * v) by rw [e2]]
    rw [show p * (u * u + n * v * v) = (x * x + n * y * y) * (u * u + n * v * v) by rw [e1]]
    grind
  have pp : 0 < p * p := by
    have : 2 * p ≤ p * p := Int.mul_le_mul_of_nonneg_right p2 (by omega)
    omega
  have cut : ∀ s z : Int, p * p = s * s + n * (z * z) → p ∣ z → z ≠ 0 → n = 1 ∧ s = 0 := fun s z e hz h0 => by
    have a := big z hz h0
    have b := sq_nonneg s
    have c : 1 * (z * z) ≤ n * (z * z) := Int.mul_le_mul_of_nonneg_right hn (sq_nonneg z)
    have n1 : n = 1 := by
      rcases Int.lt_or_le 1 n with w | w
      · have : 2 * (z * z) ≤ n * (z * z) := Int.mul_le_mul_of_nonneg_right (by omega) (sq_nonneg z)
        omega
      · omega
    subst n1
    exact ⟨rfl, sq_zero (by omega)⟩
  rcases Pm.dvd_mul hp d with h | h
  · by_cases z : x * v - u * y = 0
    · exact .inl (same (by omega))
    · obtain ⟨rfl, s0⟩ := cut _ _ i1 h z
      exfalso
      have a : 0 ≤ x * u := Int.mul_nonneg x0 u0
      have b : 0 ≤ y * v := Int.mul_nonneg y0 v0
      have c : x * u = 0 := by omega
      rcases Int.mul_eq_zero.mp c with w | w
      · subst w
        exact not_sq_prime hp (y := y) (by rw [Int.one_mul] at e1; omega)
      · subst w
        exact not_sq_prime hp (y := v) (by rw [Int.one_mul] at e2; omega)
  · by_cases z : x * v + u * y = 0
    · have a : 0 ≤ x * v := Int.mul_nonneg x0 v0
      have b : 0 ≤ u * y := Int.mul_nonneg u0 y0
      exact .inl (same (by omega))
    · obtain ⟨rfl, s0⟩ := cut _ _ i2 h z
      refine .inr ⟨rfl, ?_⟩
      have e3 : x * u = y * v := by omega
      have a : p * (x * x) = p * (v * v) := by
        have : x * u * (x * u) = y * v * (y * v) := by rw [e3]
        grind
      have b : x = v := sq_inj x0 v0 (Int.eq_of_mul_eq_mul_left (by omega) a)
      subst b
      exact ⟨rfl, sq_inj y0 u0 (by rw [Int.one_mul] at e1 e2; omega)⟩
end QR
/-! ## the text by places -/
def topS (i : Nat) : Stmt := PySem.Challenge.pw_everyprime_k08_whole_sums_that_make_squa.main.body.getD i (.Pass ⟨0, 0, 0, 0⟩)
abbrev s_law_cell : Stmt := topS 15
theorem sc_law_cell : FnScope ["_law_script", "_law_k"] ["_law_script", "_law_k"] (defScope s_law_cell) := ⟨rfl, rfl, rfl, by decide +kernel, rfl, by decide +kernel, by decide +kernel⟩
abbrev s_law_is_odd_prime : Stmt := topS 16
theorem sc_law_is_odd_prime : FnScope ["_law_n", "_law_k"] ["_law_n"] (defScope s_law_is_odd_prime) := ⟨rfl, rfl, rfl, by decide +kernel, rfl, by decide +kernel, by decide +kernel⟩
abbrev s_law_next_prime : Stmt := topS 17
theorem sc_law_next_prime : FnScope ["_law_n", "_law_found"] ["_law_n"] (defScope s_law_next_prime) := ⟨rfl, rfl, rfl, by decide +kernel, rfl, by decide +kernel, by decide +kernel⟩
abbrev s_law_take : Stmt := topS 14
theorem sc_law_take : FnScope ["_law_pool_here", "_law_limit", "_law_drawn", "_law_mixed"] ["_law_pool_here", "_law_limit"] (defScope s_law_take) := ⟨rfl, rfl, rfl, by decide +kernel, rfl, by decide +kernel, by decide +kernel⟩
abbrev s_law_number : Stmt := topS 22
theorem sc_law_number : FnScope ["_law_pool_here", "_law_script", "_law_k", "_law_p", "_law_n"] ["_law_pool_here", "_law_script", "_law_k", "_law_p"] (defScope s_law_number) := ⟨rfl, rfl, rfl, by decide +kernel, rfl, by decide +kernel, by decide +kernel⟩
abbrev s_law_pool : Stmt := topS 13
theorem sc_law_pool : FnScope ["_law_cell_here"] ["_law_cell_here"] (defScope s_law_pool) := ⟨rfl, rfl, rfl, by decide +kernel, rfl, by decide +kernel, by decide +kernel⟩
abbrev s_is_prime : Stmt := topS 4
theorem sc_is_prime : FnScope ["n", "divisor"] ["n"] (defScope s_is_prime) := ⟨rfl, rfl, rfl, by decide +kernel, rfl, by decide +kernel, by decide +kernel⟩
abbrev s_checked_prime : Stmt := topS 8
theorem sc_checked_prime : FnScope ["p"] ["p"] (defScope s_checked_prime) := ⟨rfl, rfl, rfl, by decide +kernel, rfl, by decide +kernel, by decide +kernel⟩
abbrev s_signs_of_hours : Stmt := topS 9
theorem sc_signs_of_hours : FnScope ["p", "signs", "x"] ["p"] (defScope s_signs_of_hours) := ⟨rfl, rfl, rfl, by decide +kernel, rfl, by decide +kernel, by decide +kernel⟩
abbrev s_sign_sum : Stmt := topS 10
theorem sc_sign_sum : FnScope ["n", "p", "signs", "x"] ["n", "p"] (defScope s_sign_sum) := ⟨rfl, rfl, rfl, by decide +kernel, rfl, by decide +kernel, by decide +kernel⟩
abbrev s_side_of : Stmt := topS 6
theorem sc_side_of : FnScope ["square", "low", "high", "middle"] ["square"] (defScope s_side_of) := ⟨rfl, rfl, rfl, by decide +kernel, rfl, by decide +kernel, by decide +kernel⟩
abbrev s_two_squares : Stmt := topS 11
theorem sc_two_squares : FnScope ["p", "first"] ["p"] (defScope s_two_squares) := ⟨rfl, rfl, rfl, by decide +kernel, rfl, by decide +kernel, by decide +kernel⟩
abbrev s_law_refused : Stmt := topS 20
theorem sc_law_refused : FnScope ["_law_which", "_law_n", "_law_p", "e"] ["_law_which", "_law_n", "_law_p"] (defScope s_law_refused) := ⟨rfl, rfl, rfl, by decide +kernel, rfl, by decide +kernel, by decide +kernel⟩
abbrev s_law_sides : Stmt := topS 21
theorem sc_law_sides : FnScope ["_law_p", "_law_a", "_law_b"] ["_law_p"] (defScope s_law_sides) := ⟨rfl, rfl, rfl, by decide +kernel, rfl, by decide +kernel, by decide +kernel⟩
abbrev s_law_signs : Stmt := topS 18
theorem sc_law_signs : FnScope ["_law_p", "_law_signs_here", "_law_x"] ["_law_p"] (defScope s_law_signs) := ⟨rfl, rfl, rfl, by decide +kernel, rfl, by decide +kernel, by decide +kernel⟩
abbrev s_law_sum : Stmt := topS 19
theorem sc_law_sum : FnScope ["_law_n", "_law_p", "_law_signs_here", "_law_x"] ["_law_n", "_law_p", "_law_signs_here"] (defScope s_law_sum) := ⟨rfl, rfl, rfl, by decide +kernel, rfl, by decide +kernel, by decide +kernel⟩
abbrev s_law : Stmt := topS 23
theorem sc_law : FnScope ["_law_script", "_law_pool_here", "_law_p", "_law_signs_here", "_law_n", "_law_t", "_law_side", "_law_sums", "_law_halves", "_law_bad"] ["_law_script"] (defScope s_law) := ⟨rfl, rfl, rfl, by decide +kernel, rfl, by decide +kernel, by decide +kernel⟩
abbrev s_BadPrime_init : Stmt := inClass (topS 2) 0
/-- the addresses of the classes -/
structure Adr where
  c_BadPrime : Addr
  c_base : Addr
structure Txt (K : PySem.W.Frag) (mg : Str → Option Value) (Ad : Adr) : Prop where
  b_abs : mg "abs" = none
  b_int : mg "int" = none
  b_len : mg "len" = none
  b_max : mg "max" = none
  b_range : mg "range" = none
  b_sum : mg "sum" = none
  d_law_cell : DefAt K mg "_law_cell" s_law_cell ["_law_script", "_law_k"]
  d_law_is_odd_prime : DefAt K mg "_law_is_odd_prime" s_law_is_odd_prime ["_law_n"]
  d_law_next_prime : DefAt K mg "_law_next_prime" s_law_next_prime ["_law_n"]
  d_law_take : DefAt K mg "_law_take" s_law_take ["_law_pool_here", "_law_limit"]
  d_law_number : DefAt K mg "_law_number" s_law_number ["_law_pool_here", "_law_script", "_law_k", "_law_p"]
  d_law_pool : DefAt K mg "_law_pool" s_law_pool ["_law_cell_here"]
  d_is_prime : DefAt K mg "is_prime" s_is_prime ["n"]
  d_checked_prime : DefAt K mg "checked_prime" s_checked_prime ["p"]
  d_signs_of_hours : DefAt K mg "signs_of_hours" s_signs_of_hours ["p"]
  d_sign_sum : DefAt K mg "sign_sum" s_sign_sum ["n", "p"]
  d_side_of : DefAt K mg "side_of" s_side_of ["square"]
  d_two_squares : DefAt K mg "two_squares" s_two_squares ["p"]
  d_law_refused : DefAt K mg "_law_refused" s_law_refused ["_law_which", "_law_n", "_law_p"]
  d_law_sides : DefAt K mg "_law_sides" s_law_sides ["_law_p"]
  d_law_signs : DefAt K mg "_law_signs" s_law_signs ["_law_p"]
  d_law_sum : DefAt K mg "_law_sum" s_law_sum ["_law_n", "_law_p", "_law_signs_here"]
  base : BaseC K mg Ad.c_base
  r_BadPrime : ErrRaw K mg "BadPrime" Ad.c_BadPrime s_BadPrime_init "BadPrime.__init__" ["self", "p"]
  no_BadPrime_p : PySem.W.findIn K (.ref Ad.c_BadPrime) "p" = some none
  triv : True
section
variable {P : Program} {w : World} {K : PySem.W.Frag} {mg : Str → Option Value} {base : Heap} {Ad : Adr}
def fl_BadPrime (ws : List V) : List (Str × V) := match ws with | [v0] => [("p", v0)] | _ => []
theorem sc_BadPrime_init : FnScope ["self", "p"] ["self", "p"] (defScope s_BadPrime_init) := ⟨rfl, rfl, rfl, by decide +kernel, rfl, by decide +kernel, by decide +kernel⟩
theorem Txt.err_BadPrime (T : Txt K mg Ad) : ErrC P w K mg base "BadPrime" 1 fl_BadPrime Ad.c_BadPrime := by
  refine ErrC.of T.r_BadPrime fun fI fd F => ?_
  refine F.okX sc_BadPrime_init (fun vs H Q E h => ?_) (fun cdv A outer s H vs Q E hr h => ?_)
  · obtain ⟨a, ws, rfl, hl, _⟩ := h
    simp [hl]
  · obtain ⟨a, ws, rfl, hl, ha, q⟩ := h
    obtain ⟨v0, rfl⟩ := len_1 hl
    refine ⟨_, pss_cons (ps_expr (pe_ceinit T.base (pa_cons (pv 0) (pa_cons pe_str pa_nil)))) (pss_one (ps_ost (pv 0) (pv 1))), ?_⟩
    refine ⟨.ref a, rfl, a, Ad.c_BadPrime, [.str _], rfl, by show 1 ≤ 1000; decide, T.r_BadPrime.T, ha, ?_⟩
    refine ⟨v0, rfl, .ref a, rfl, a, Ad.c_BadPrime, rfl, T.r_BadPrime.T, T.no_BadPrime_p, .inl ⟨ha, fun dx nd ne => ?_⟩⟩
    exact q dx nd ne
/-! ### _law_cell -/
theorem getD_at {ns : List Int} {i : Nat} (h : i < ns.length) : atI (ns.map V.int) (i : Int) = some (.int (ns.getD i 0)) := by
  refine atI_nat ?_
  rw [List.getElem?_map, List.getElem?_eq_getElem h, List.getD_eq_getElem?_getD, List.getElem?_eq_getElem h]
  rfl
theorem getD_out {ns : List Int} {i : Nat} (h : ¬ i < ns.length) : ns.getD i 0 = 0 := by
  rw [List.getD_eq_getElem?_getD, List.getElem?_eq_none (by omega)]
  rfl
def spCell (K : PySem.W.Frag) : Sp := fun vs H Q _ => ∃ (a : Addr) (ns : List Int) (i : Nat), vs = [.ref a, .int i] ∧ SqL K H a (ns.map V.int) ∧ Q (.int (ns.getD i 0)) H
theorem ok_law_cell (T : Txt K mg Ad) : Def P w K mg base 1 "_law_cell" ["_law_script", "_law_k"] (spCell K) := by
  refine T.d_law_cell.ok sc_law_cell (fun vs H Q E h => ?_) (fun f cdv A outer s H vs Q E hr h => ?_)
  · obtain ⟨a, ns, i, rfl, _⟩ := h
    rfl
  · obtain ⟨a, ns, i, rfl, hS, q⟩ := h
    refine ⟨_, (pss_cons (ps_if (pt_cmpR op_lt (pv 1) (pe_callB c_len (by rfl) T.b_len PySem.boot_len (pa_cons (pv 0) pa_nil)) (nomark _)) (pss_one (ps_ret (pe_ix ix_list (pv 0) (pv 1) (fun _ _ => rfl)))) pss_nil)
      (pss_one (ps_ret pe_int))), ?_⟩
    try dsimp only [cxOf]
    wtm_at "rs"
    wtm_at "i"
    · rename_i h
      rw [List.length_map] at h
      wtm_at "rs"
      exact rd_ixL hS (getD_at (by omega)) q
    · rename_i h
      rw [List.length_map] at h
      rw [getD_out (by omega)] at q
      wtm_at "rs"
      exact q
theorem use_cell {a : Addr} {ns : List Int} {i : Nat} {H : Hp} {Q : VK} {E : XK} {z : Int} (hS : SqL K H a (ns.map V.int)) (hz : z = (i : Int)) (q : Q (.int (ns.getD i 0)) H) : spCell K [.ref a, .int z] H Q E :=
  ⟨a, ns, i, by rw [hz], hS, q⟩
local macro_rules | `(tactic| wtm_at "s") => `(tactic| ((with_reducible refine use_cell (ns := ?ns) (i := ?i) ?h1 ?h2 ?_); (case h1 => wtm_at "q"); (case h2 => first | rfl | exact (Int.zero_add _) | exact (Int.natCast_succ _).symm)))
/-! ### _law_is_odd_prime -/
def spOP : Sp := fun vs H Q _ => ∃ n : Int, vs = [.int n] ∧ n < 2 ^ 120 ∧ Q (.bl (decide (QR.OP n))) H
theorem ok_law_is_odd_prime (T : Txt K mg Ad) : Def P w K mg base 1 "_law_is_odd_prime" ["_law_n"] spOP := by
  refine T.d_law_is_odd_prime.ok sc_law_is_odd_prime (fun vs H Q E h => ?_) (fun f cdv A outer s H vs Q E hr h => ?_)
  · obtain ⟨n, rfl, _⟩ := h
    rfl
  · obtain ⟨n, rfl, hn, q⟩ := h
    refine ⟨_, (pss_cons (ps_if (PW.pt (pw_or (pt_cmpR op_lt (pv 0) pe_int (nomark _)) (pw_or1 (pt_cmpR op_eq (pe_op op_mod (pv 0) pe_int) pe_int (nomark _))))) (pss_one (ps_ret pe_bl)) pss_nil)
      (pss_cons (ps_set (i := 1) sc_law_is_odd_prime.nd rfl (Or.inl rfl) pe_int)
      (pss_cons (ps_while (passes_of rfl) (pt_cmpR op_le (pe_op op_mulB (pv 1) (pv 1)) (pv 0) (nomark _)) (pss_cons (ps_if (pt_cmpR op_eq (pe_op op_mod (pv 0) (pv 1)) pe_int (nomark _)) (pss_one (ps_ret pe_bl)) pss_nil)
      (pss_one (ps_set (i := 1) sc_law_is_odd_prime.nd rfl (Or.inl rfl) (pe_op op_add (pv 1) pe_int)))))
      (pss_one (ps_ret pe_bl))))), ?_⟩
    try dsimp only [cxOf]
    wtm_at "ra"
    · rw [decide_eq_false (fun z : QR.OP n => by have := z.three; omega)] at q
      exact q
    · rw [decide_eq_false (fun z : QR.OP n => by have := z.2; omega)] at q
      exact q
    · refine rd_while (fun μ σ H' => ∃ k : Int, μ = (n + 2 - k).toNat ∧ σ = [some (.int n), some (.int k)] ∧ H = H' ∧ 3 ≤ k ∧ k % 2 = 1 ∧ k < 2 ^ 61 ∧ ∀ d : Int, 3 ≤ d → d % 2 = 1 → d < k → ¬ d ∣ n) (n - 1).toNat
        ⟨3, by omega, rfl, rfl, by omega, by omega, by omega, fun d _ _ _ => by omega⟩ ?_
      rintro μ σ H' ⟨k, rfl, rfl, rfl, hk, hk2, hk3, inv⟩
      wtm_at "ra"
      · rename_i hle hz
        rw [decide_eq_false (fun z : QR.OP n => QR.not_pm (by omega) hle hz z.1)] at q
        exact q
      · rename_i hle hz
        have b := QR.sq_bound (by omega) hle hn
        have c := QR.le_sq (show 1 ≤ k by omega)
        exact ⟨_, by omega, k + 2, rfl, rfl, rfl, by omega, by omega, by omega, QR.no_dvd_step2 hk2 inv hz⟩
      · rename_i hgt
        rw [decide_eq_true (show QR.OP n from ⟨QR.pm_of_odd_trial (by omega) (by omega) (by omega) (by omega) inv, by omega⟩)] at q
        exact q
theorem use_OP {n : Int} {H : Hp} {Q : VK} {E : XK} (h : n < 2 ^ 120) (q : Q (.bl (decide (QR.OP n))) H) : spOP [.int n] H Q E := ⟨n, rfl, h, q⟩
local macro_rules | `(tactic| wtm_at "s") => `(tactic| ((with_reducible refine use_OP ?h1 ?_); (case h1 => omega)))
/-! ### _law_next_prime -/
def spNext : Sp := fun vs H Q _ => ∃ n q : Int, vs = [.int n] ∧ QR.OP q ∧ n ≤ q ∧ q < 2 ^ 100 ∧ ∀ r : Int, QR.OP r → n ≤ r → r ≤ q → Q (.int r) H
theorem ok_law_next_prime (T : Txt K mg Ad) : Def P w K mg base 2 "_law_next_prime" ["_law_n"] spNext := by
  refine T.d_law_next_prime.ok sc_law_next_prime (fun vs H Q E h => ?_) (fun f cdv A outer s H vs Q E hr h => ?_)
  · obtain ⟨n, _, rfl, _⟩ := h
    rfl
  · obtain ⟨n, q, rfl, hq, hn, hb, qo⟩ := h
    refine ⟨_, (pss_cons (ps_set (i := 1) sc_law_next_prime.nd rfl (Or.inl rfl) (pe_callB (c_max2 rfl) (by rfl) T.b_max (by decide +kernel) (pa_cons pe_int (pa_cons (pv 0) pa_nil))))
      (pss_cons (ps_while (passes_of rfl) (pt_not (pt_val (pe_d (ok_law_is_odd_prime T) (hr.mono (by decide)) (passes_call (takes_of rfl rfl rfl rfl) (fun _ _ _ _ h => h)) (pa_cons (pv 1) pa_nil)))) (pss_one (ps_set (i := 1) sc_law_next_prime.nd rfl (Or.inl rfl) (pe_op op_add (pv 1) pe_int))))
      (pss_one (ps_ret (pv 1))))), ?_⟩
    try dsimp only [cxOf]
    have q3 := hq.three
    wtm_at "rs"
    refine rd_while (fun μ σ H' => ∃ r : Int, μ = (q - r).toNat ∧ σ = [some (.int n), some (.int r)] ∧ H = H' ∧ n ≤ r ∧ r ≤ q) _
      ⟨_, rfl, rfl, rfl, by omega, by omega⟩ ?_
    rintro μ σ H' ⟨r, rfl, rfl, rfl, h1, h2⟩
    wtm_at "ra"
    · rename_i hno
      have : r ≠ q := fun z => by
        rw [z] at hno
        exact absurd hq (by simpa using hno)
      exact ⟨_, by omega, r + 1, rfl, rfl, rfl, by omega, by omega⟩
    · rename_i hyes
      exact qo r (by simpa using hyes) h1 h2
/-! ### _law_take -/
def spTake : Sp := fun vs H Q _ => ∃ (p : Addr) (c k lim : Int) (b : Bool), vs = [.ref p, .int lim] ∧ H p = some (.lst [.int c, .int k, .bl b]) ∧ 0 < lim ∧ lim < 2 ^ 240 ∧ 0 ≤ k ∧ k ≤ 1000000 ∧
  ∀ c' r : Int, 0 ≤ r → r < lim → Q (.int r) (upd H p (.lst [.int c', .int (k + 1), .bl b]))
theorem ok_law_take (T : Txt K mg Ad) : Def P w K mg base 1 "_law_take" ["_law_pool_here", "_law_limit"] spTake := by
  refine T.d_law_take.ok sc_law_take (fun vs H Q E h => ?_) (fun f cdv A outer s H vs Q E hr h => ?_)
  · obtain ⟨p, c, k, lim, b, rfl, _⟩ := h
    rfl
  · obtain ⟨p, c, k, lim, b, rfl, hp, l0, l1, k0, k1, q⟩ := h
    refine ⟨_, (pss_cons (ps_asg (pe_op op_add (pe_ix ix_list (pv 0) pe_int (fun _ _ => rfl)) pe_int) (pg_sub (pv 0) pe_int set_list))
      (pss_cons (ps_if (pt_val (pe_ix ix_list (pv 0) pe_int (fun _ _ => rfl))) (pss_cons (ps_set (i := 2) sc_law_take.nd rfl (Or.inl rfl) (pe_op op_mod (pe_callTy c_int1 (by rfl) T.b_int (by decide +kernel) (pa_cons (pe_ix ix_list (pv 0) pe_int (fun _ _ => rfl)) pa_nil)) (pv 1)))
      (pss_cons (ps_asg (pe_op op_fdivB (pe_callTy c_int1 (by rfl) T.b_int (by decide +kernel) (pa_cons (pe_ix ix_list (pv 0) pe_int (fun _ _ => rfl)) pa_nil)) (pv 1)) (pg_sub (pv 0) pe_int set_list))
      (pss_one (ps_ret (pv 2))))) pss_nil)
      (pss_cons (ps_set (i := 3) sc_law_take.nd rfl (Or.inl rfl) (pe_op op_mod (pe_callTy c_int1 (by rfl) T.b_int (by decide +kernel) (pa_cons (pe_op op_add (pe_op op_add (pe_op op_mulB (pe_ix ix_list (pv 0) pe_int (fun _ _ => rfl)) pe_int) (pe_op op_mulB (pe_ix ix_list (pv 0) pe_int (fun _ _ => rfl)) pe_int)) pe_int) pa_nil)) pe_int))
      (pss_one (ps_ret (pe_op op_mod (pe_op op_fdivB (pe_callTy c_int1 (by rfl) T.b_int (by decide +kernel) (pa_cons (pe_op op_mod (pe_op (op_powN 5) (pv 3) pe_int) pe_int) pa_nil)) pe_int) (pv 1))))))), ?_⟩
    try dsimp only [cxOf]
    wtm_at "ra"
    · rw [upd_lst]
      exact q (c / lim) (c % lim) (Int.emod_nonneg _ (by omega)) (Int.emod_lt_of_pos _ l0)
    · exact q c _ (Int.emod_nonneg _ (by omega)) (Int.emod_lt_of_pos _ l0)
theorem use_take {p : Addr} {c k lim : Int} {b : Bool} {H : Hp} {Q : VK} {E : XK} (hp : H p = some (.lst [.int c, .int k, .bl b])) (l0 : 0 < lim) (l1 : lim < 2 ^ 240) (k0 : 0 ≤ k) (k1 : k ≤ 1000000)
    (q : ∀ c' r : Int, 0 ≤ r → r < lim → Q (.int r) (upd H p (.lst [.int c', .int (k + 1), .bl b]))) : spTake [.ref p, .int lim] H Q E := ⟨p, c, k, lim, b, rfl, hp, l0, l1, k0, k1, q⟩
local macro_rules | `(tactic| wtm_at "s") => `(tactic| ((with_reducible refine use_take (c := ?c) (k := ?k) (b := ?b) ?h1 ?h2 ?h3 ?h4 ?h5 ?_); (case h1 => wtm_at "h"); (case h2 => omega); (case h3 => omega); (case h4 => omega); (case h5 => omega); intro c' r hr0 hr1))
/-! ### _law_number -/
def spNum8 (K : PySem.W.Frag) : Sp := fun vs H Q _ => ∃ (pp a : Addr) (ns : List Int) (k p c j : Int) (b : Bool), vs = [.ref pp, .ref a, .int k, .int p] ∧ H pp = some (.lst [.int c, .int j, .bl b]) ∧ (∀ G, But pp H G → SqL K G a (ns.map V.int)) ∧ 0 ≤ k ∧ k ≤ 5 ∧ ns.length ≤ 63 ∧ 0 ≤ j ∧ j ≤ 100 ∧ 2 ≤ p ∧ p < 100000 ∧ NoT H ∧
  ∀ (n c' : Int) H', ¬ p ∣ n → Bd 210 n → But pp H H' → NoT H' → H' pp = some (.lst [.int c', .int (j + 1 + 1), .bl b]) → Q (.int n) H'
theorem ok_law_number (T : Txt K mg Ad) : Def P w K mg base 2 "_law_number" ["_law_pool_here", "_law_script", "_law_k", "_law_p"] (spNum8 K) := by
  refine T.d_law_number.ok sc_law_number (fun vs H Q E h => ?_) (fun f cdv A outer s H vs Q E hr h => ?_)
  · obtain ⟨pp, a, ns, k, p, c, j, b, rfl, _⟩ := h
    rfl
  · obtain ⟨pp, a, ns, k, p, c, j, b, rfl, hpp, ha, k0, k5, hlen, j0, j1, p2, pb, nt, q⟩ := h
    refine ⟨_, (pss_cons (ps_set (i := 4) sc_law_number.nd rfl (Or.inl rfl) (pe_op op_sub (pe_d (ok_law_take T) (hr.mono (by decide)) (passes_call (takes_of rfl rfl rfl rfl) (fun _ _ _ _ h => h)) (pa_cons (pv 0) (pa_cons pe_int pa_nil))) pe_int))
      (C8.pss_cut (ps_if (pt_cmpR op_eq (pe_d (ok_law_take T) (hr.mono (by decide)) (passes_call (takes_of rfl rfl rfl rfl) (fun _ _ _ _ h => h)) (pa_cons (pv 0) (pa_cons pe_int pa_nil))) pe_int (nomark _)) (pss_one (ps_set (i := 4) sc_law_number.nd rfl (Or.inl rfl) (pe_op op_sub (pe_op op_mod (pe_callTy c_int1 (by rfl) T.b_int (by decide +kernel) (pa_cons (pe_d (ok_law_cell T) (hr.mono (by decide)) (passes_call (takes_of rfl rfl rfl rfl) (fun _ _ _ _ h => h)) (pa_cons (pv 1) (pa_cons (pv 2) pa_nil))) pa_nil)) (pe_op (op_powN 60) pe_int pe_int)) (pe_op (op_powN 59) pe_int pe_int)))) pss_nil)
      (C8.pss_cut (ps_if (pt_cmpR op_eq (pe_op op_mod (pe_callTy c_int1 (by rfl) T.b_int (by decide +kernel) (pa_cons (pv 4) pa_nil)) (pv 3)) pe_int (nomark _)) (pss_one (ps_set (i := 4) sc_law_number.nd rfl (Or.inl rfl) (pe_op op_add (pv 4) pe_int))) pss_nil)
      (pss_one (ps_ret (pv 4)))))), ?_⟩
    try dsimp only [cxOf]
    wtm_at "rs"
    rename_i c1 r1 r10 r11
    have B := (Hv.pool nt hpp).put (u := .lst [.int c1, .int (j + 1), .bl b])
    refine B.gen fun G B => ?_
    obtain ⟨k, rfl⟩ : ∃ kk : Nat, k = (kk : Int) := ⟨k.toNat, by omega⟩
    refine rd_cut (fun σ2 G2 => ∃ n c' : Int, σ2 = [some (.ref pp), some (.ref a), some (.int (k : Int)), some (.int p), some (.int n)] ∧ Bd 205 n ∧ Hv (· = pp) H [(pp, .lst [.int c', .int (j + 1 + 1), .bl b])] [] [] G2) ?_ ?_
    · wtm_at "rs"
      rename_i c2 r2 r20 r21
      have B := B.put (u := .lst [.int c2, .int (j + 1 + 1), .bl b])
      refine B.gen fun G B => ?_
      wtm_at "i"
      · wtm_at "rs"
        refine use_cell (ha _ B.but1) rfl ?_
        wtm_at "rs"
        exact ⟨_, c2, rfl, Bd.of (by omega) (by omega), B⟩
      · wtm_at "rs"
        exact ⟨_, c2, rfl, Bd.of (by omega) (by omega), B⟩
    clear B
    rintro σ2 G ⟨n, c2, rfl, bn, B⟩
    refine rd_cut (fun σ2 G2 => ∃ n : Int, σ2 = [some (.ref pp), some (.ref a), some (.int (k : Int)), some (.int p), some (.int n)] ∧ Bd 210 n ∧ ¬ p ∣ n ∧ G2 = G) ?_ ?_
    · wtm_at "rs"
      by_cases h0 : n % p = 0
      · rw [if_pos (decide_eq_true h0)]
        wtm_at "rs"
        refine ⟨_, rfl, (bn.add (Bd.of (n := 205) (by decide) (by decide))).mono (by decide), fun z => ?_, rfl⟩
        have d := Int.dvd_sub z (Int.dvd_of_emod_eq_zero h0)
        rw [show n + 1 - n = 1 by omega] at d
        have := Int.le_of_dvd (by decide) d
        omega
      · rw [if_neg (by rw [decide_eq_true_iff]; exact h0)]
        wtm_at "rs"
        exact ⟨_, rfl, bn.mono (by decide), fun z => h0 (Int.emod_eq_zero_of_dvd z), rfl⟩
    rintro σ2 G2 ⟨n, rfl, bn, nd, rfl⟩
    wtm_at "rs"
    exact q n c2 _ nd bn B.but1 B.nt (B.mAt List.mem_cons_self)
/-! ### _law_pool -/
def spPool : Sp := fun vs H Q _ => ∃ n : Int, vs = [.int n] ∧ ∀ p, H p = none → Q (.ref p) (upd H p (.lst [.int n, .int 0, .bl (decide (10 ^ 18 ≤ n))]))
theorem ok_law_pool (T : Txt K mg Ad) : Def P w K mg base 1 "_law_pool" ["_law_cell_here"] spPool := by
  refine T.d_law_pool.ok sc_law_pool (fun vs H Q E h => ?_) (fun f cdv A outer s H vs Q E hr h => ?_)
  · obtain ⟨n, rfl, _⟩ := h
    rfl
  · obtain ⟨n, rfl, q⟩ := h
    refine ⟨_, (pss_one (ps_ret (pe_lst (pa_cons (pv 0) (pa_cons pe_int (pa_cons (pe_cmpR op_ge (pv 0) (pe_op (op_powN 18) pe_int pe_int) (nomark _)) pa_nil)))))), ?_⟩
    try dsimp only [cxOf]
    wtm_at "rs"
    exact q _ (by assumption)
theorem use_pool {n : Int} {H : Hp} {Q : VK} {E : XK} (q : ∀ p, H p = none → Q (.ref p) (upd H p (.lst [.int n, .int 0, .bl (decide (10 ^ 18 ≤ n))]))) : spPool [.int n] H Q E := ⟨n, rfl, q⟩
local macro_rules | `(tactic| wtm_at "s") => `(tactic| ((with_reducible refine use_pool ?_); intro p hp))
/-! ### is_prime -/
def spPm : Sp := fun vs H Q _ => ∃ n : Int, vs = [.int n] ∧ n < 2 ^ 120 ∧ Q (.bl (decide (QR.Pm n))) H
theorem ok_is_prime (T : Txt K mg Ad) : Def P w K mg base 1 "is_prime" ["n"] spPm := by
  refine T.d_is_prime.ok sc_is_prime (fun vs H Q E h => ?_) (fun f cdv A outer s H vs Q E hr h => ?_)
  · obtain ⟨n, rfl, _⟩ := h
    rfl
  · obtain ⟨n, rfl, hn, q⟩ := h
    refine ⟨_, (pss_cons (ps_if (pt_cmpR op_lt (pv 0) pe_int (nomark _)) (pss_one (ps_ret pe_bl)) pss_nil)
      (pss_cons (ps_set (i := 1) sc_is_prime.nd rfl (Or.inl rfl) pe_int)
      (pss_cons (ps_while (passes_of rfl) (pt_cmpR op_le (pe_op op_mulB (pv 1) (pv 1)) (pv 0) (nomark _)) (pss_cons (ps_if (pt_cmpR op_eq (pe_op op_mod (pv 0) (pv 1)) pe_int (nomark _)) (pss_one (ps_ret pe_bl)) pss_nil)
      (pss_one (ps_aug (i := 1) sc_is_prime.nd rfl (Or.inl rfl) pe_int ip_add))))
      (pss_one (ps_ret pe_bl))))), ?_⟩
    try dsimp only [cxOf]
    wtm_at "ra"
    · rw [decide_eq_false (fun z : QR.Pm n => by have := z.1; omega)] at q
      exact q
    · refine rd_while (fun μ σ H' => ∃ k : Int, μ = (n + 1 - k).toNat ∧ σ = [some (.int n), some (.int k)] ∧ H = H' ∧ 2 ≤ k ∧ k < 2 ^ 61 ∧ ∀ d : Int, 2 ≤ d → d < k → ¬ d ∣ n) (n - 1).toNat
        ⟨2, by omega, rfl, rfl, by omega, by omega, fun d _ _ => by omega⟩ ?_
      rintro μ σ H' ⟨k, rfl, rfl, rfl, hk, hk3, inv⟩
      wtm_at "ra"
      · rename_i hle hz
        rw [decide_eq_false (fun z : QR.Pm n => QR.not_pm (by omega) hle hz z)] at q
        exact q
      · rename_i hle hz
        have b := QR.sq_bound (by omega) hle hn
        have c := QR.le_sq (show 1 ≤ k by omega)
        exact ⟨_, by omega, k + 1, rfl, rfl, rfl, by omega, by omega, QR.no_dvd_step inv hz⟩
      · rename_i hgt
        rw [decide_eq_true (show QR.Pm n from QR.pm_of_trial (by omega) (by omega) (by omega) inv)] at q
        exact q
theorem use_Pm {n : Int} {H : Hp} {Q : VK} {E : XK} (h : n < 2 ^ 120) (q : Q (.bl (decide (QR.Pm n))) H) : spPm [.int n] H Q E := ⟨n, rfl, h, q⟩
local macro_rules | `(tactic| wtm_at "s") => `(tactic| ((with_reducible refine use_Pm ?h1 ?_); (case h1 => omega)))
/-! ### checked_prime -/
def spCkP (C : Addr) : Sp := fun vs H Q E => ∃ p : Int, vs = [.int p] ∧ p < 2 ^ 120 ∧ (¬ QR.OP p → ∀ d, H d = none → E (.ref C) (some d) (upd H d (.xd [("p", .int p)]))) ∧ (QR.OP p → Q .non H)
theorem op_three {p : Int} (h : 3 ≤ p) (hp : QR.Pm p) : QR.OP p := ⟨hp, by
  rcases Int.emod_two_eq p with e | e
  · exact absurd (Int.dvd_of_emod_eq_zero e) (hp.2 2 (by omega) (by omega))
  · exact e⟩
theorem use_ckp {C : Addr} {p : Int} {H : Hp} {Q : VK} {E : XK} (hb : p < 2 ^ 120) (qe : ¬ QR.OP p → ∀ d, H d = none → E (.ref C) (some d) (upd H d (.xd [("p", .int p)]))) (q : QR.OP p → Q .non H) : spCkP C [.int p] H Q E := ⟨p, rfl, hb, qe, q⟩
theorem ok_checked_prime (T : Txt K mg Ad) : Def P w K mg base 3 "checked_prime" ["p"] (spCkP Ad.c_BadPrime) := by
  refine T.d_checked_prime.ok sc_checked_prime (fun vs H Q E h => ?_) (fun f cdv A outer s H vs Q E hr h => ?_)
  · obtain ⟨p, rfl, _⟩ := h
    rfl
  · obtain ⟨p, rfl, hb, qe, qo⟩ := h
    refine ⟨_, (pss_one (ps_if (PW.pt (pw_or (pt_cmpR op_lt (pv 0) pe_int (nomark _)) (pw_or1 (pt_not (pt_val (pe_d (ok_is_prime T) (hr.mono (by decide)) (passes_call (takes_of rfl rfl rfl rfl) (fun _ _ _ _ h => h)) (pa_cons (pv 0) pa_nil))))))) (pss_one (ps_raise rfl (takes_of rfl rfl rfl rfl) (pmk_err (T.err_BadPrime) (hr.mono (by decide)) (pa_cons (pv 0) pa_nil)))) pss_nil)), ?_⟩
    try dsimp only [cxOf]
    wtm_at "ra"
    · exact qe fun z => by have := z.three; omega
    · rename_i h1 h2
      exact qe fun z => by simp [z.1] at h2
    · rename_i h1 h2
      exact qo (op_three (by omega) (by simpa using h2))
/-! ### signs_of_hours -/
def spSgH : Sp := fun vs H Q _ => ∃ p : Int, vs = [.int p] ∧ NoT H ∧ QR.OP p ∧ p < 100000 ∧ ∀ D H', Same H H' → NoT H' → H D = none → H' D = some (.lst (rowV p.toNat fun k => sgn (k : Int) p)) → Q (.ref D) H'
theorem use_sgH {p : Int} {H : Hp} {Q : VK} {E : XK} (nt : NoT H) (op : QR.OP p) (pb : p < 100000) (q : ∀ D H', Same H H' → NoT H' → H D = none → H' D = some (.lst (rowV p.toNat fun k => sgn (k : Int) p)) → Q (.ref D) H') : spSgH [.int p] H Q E := ⟨p, rfl, nt, op, pb, q⟩
theorem ok_signs_of_hours (T : Txt K mg Ad) : Def P w K mg base 1 "signs_of_hours" ["p"] spSgH := by
  refine T.d_signs_of_hours.ok sc_signs_of_hours (fun vs H Q E h => ?_) (fun f cdv A outer s H vs Q E hr h => ?_)
  · obtain ⟨p, rfl, _⟩ := h
    rfl
  · obtain ⟨p, rfl, nt, op, pb, q⟩ := h
    refine ⟨_, (pss_cons (ps_set (i := 1) sc_signs_of_hours.nd rfl (Or.inl rfl) (pe_op op_rep (pe_lst (pa_cons (pe_un un_neg pe_int) pa_nil)) (pv 0)))
      (pss_cons (ps_asg pe_int (pg_sub (pv 1) pe_int set_list))
      (pss_cons (ps_for (passes_of rfl) rfl (pi_range2 (by rfl) T.b_range (pa_cons pe_int (pa_cons (pe_op op_fdivB (pe_op op_add (pv 0) pe_int) pe_int) pa_nil))) (pg_name (i := 2) sc_signs_of_hours.nd rfl (Or.inl rfl)) (pss_one (ps_asg pe_int (pg_sub (pv 1) (pe_op op_mod (pe_op op_mulB (pv 2) (pv 2)) (pv 0)) set_list))))
      (pss_one (ps_ret (pv 1)))))), ?_⟩
    try dsimp only [cxOf]
    have B := Hv.start nt
    have p3 := op.three
    have o2 := op.2
    have m1 := fun z => Int.emod_nonneg z (show p ≠ 0 by omega)
    have m2 := fun z => Int.emod_lt_of_pos z (show 0 < p by omega)
    wtm_at "rs"
    rename_i l0 hl0
    have B := B.newL (o := .lst [.int (-1)]) hl0
    clear hl0
    refine B.gen fun G B => ?_
    refine ⟨l0, p, [.int (-1)], rfl, rfl, B.lAt (a := l0) (by wtm_at "mem"), by omega, by omega, Nat.le_trans (m := 100000) (by simp; omega) (by decide), fun D hD => ?_⟩
    have hD0 := B.free hD
    rw [List.flatten_replicate_singleton, rowV_repc]
    have B := B.new (o := .lst (rowV p.toNat fun _ => -1)) hD
    clear hD
    refine B.gen fun G B => ?_
    wtm_at "rs"
    refine rd_setL (j := 0) (B.mAt (a := D) (by wtm_at "mem")) (rowV_ix (j := 0) (by omega)) ?_
    rw [rowV_set (g := sgL 0 p) (by omega) (by rfl) fun i hi hn => by
      unfold sgL
      rw [if_neg hn, if_neg (by simp)]]
    have B := (B.put (u := .lst (rowV p.toNat (sgL 0 p)))).sub (L' := []) (fun _ h => absurd h List.not_mem_nil) (fun _ h => h)
    refine B.gen fun G B => ?_
    wtm_at "rs"
    refine rd_forR (fun i σ G => ∃ v2 : Option V, σ = [some (.int p), some (.ref D), v2] ∧ Hv noX H [(D, .lst (rowV p.toNat (sgL i p)))] [] [] G) ⟨_, rfl, B⟩ ?_ ?_
    · clear B
      rintro i σ G hi ⟨v2, rfl, B⟩
      have hi2 : (i : Int) < p - 1 := by omega
      have bi : Bd 20 (1 + (i : Int)) := Bd.of (by omega) (by omega)
      obtain ⟨j, hj⟩ : ∃ j : Nat, (1 + (i : Int)) * (1 + (i : Int)) % p = (j : Int) := ⟨((1 + (i : Int)) * (1 + (i : Int)) % p).toNat, by rw [Int.toNat_of_nonneg (m1 _)]⟩
      have hj2 : j < p.toNat := by
        have := m2 ((1 + (i : Int)) * (1 + (i : Int)))
        omega
      have j0 : j ≠ 0 := fun z => sq_n0 op hi2 (by rw [hj, z]; rfl)
      wtm_at "rs"
      rw [hj]
      refine rd_setL (B.mAt (a := D) (by wtm_at "mem")) (rowV_ix hj2) ?_
      rw [rowV_set (g := sgL (i + 1) p) hj2 (sgL_put hj j0) fun k hk hn => sgL_keep hj hn]
      have B := B.put (u := .lst (rowV p.toNat (sgL (i + 1) p)))
      exact ⟨_, rfl, B⟩
    · rintro σ G ⟨v2, rfl, B⟩
      wtm_at "rs"
      refine q D G B.same B.nt hD0 ?_
      rw [B.mAt (a := D) List.mem_cons_self]
      congr 2
      exact rowV_congr fun k hk => sgL_half op hk
/-! ### sign_sum -/
theorem sum_rowS (n : Nat) (f : Nat → Int) : (((List.range n).map f).sum : Int) = QR.Sm n f := by
  induction n with
  | zero => rfl
  | succ n ih =>
    rw [QR.Sm, ← ih, List.range_succ, List.map_append, List.sum_append]
    simp
def spSsm0 (C : Addr) : Sp := fun vs H Q E => ∃ (n p : Int), vs = [.int n, .int p] ∧ NoT H ∧ p < 100000 ∧ Bd 300 n ∧ (¬ (QR.OP p ∧ ¬ p ∣ n) → ∀ d, H d = none → E (.ref C) (some d) (upd H d (.xd [("p", .int p)]))) ∧ (QR.OP p → ¬ p ∣ n → ∀ H', Same H H' → Q (.int (jacS p n)) H')
def spSsm (C : Addr) : Sp := fun vs H Q E => ∃ (n p : Int), vs = [.int n, .int p] ∧ NoT H ∧ p < 100000 ∧ Bd 300 n ∧ (¬ (QR.OP p ∧ ¬ p ∣ n) → ∀ d, H d = none → E (.ref C) (some d) (upd H d (.xd [("p", .int p)]))) ∧ (QR.OP p → ¬ p ∣ n → Q (.int (jacS p n)) H)
theorem use_ssm {C : Addr} {n p : Int} {H : Hp} {Q : VK} {E : XK} (nt : NoT H) (op : QR.OP p) (pb : p < 100000) (bn : Bd 300 n) (nd : ¬ p ∣ n) (q : Q (.int (jacS p n)) H) : spSsm C [.int n, .int p] H Q E := ⟨n, p, rfl, nt, pb, bn, fun z => absurd ⟨op, nd⟩ z, fun _ _ => q⟩
theorem ok_sign_sum0 (T : Txt K mg Ad) : Def P w K mg base 4 "sign_sum" ["n", "p"] (spSsm0 Ad.c_BadPrime) := by
  refine T.d_sign_sum.ok sc_sign_sum (fun vs H Q E h => ?_) (fun f cdv A outer s H vs Q E hr h => ?_)
  · obtain ⟨n, p, rfl, _⟩ := h
    rfl
  · obtain ⟨n, p, rfl, nt, pb, bn, qe, q⟩ := h
    refine ⟨_, (pss_cons (ps_expr (pe_d (ok_checked_prime T) (hr.mono (by decide)) (passes_call (takes_of rfl rfl rfl rfl) (fun _ _ _ _ h => h)) (pa_cons (pv 1) pa_nil)))
      (pss_cons (ps_if (pt_cmpR op_eq (pe_op op_mod (pv 0) (pv 1)) pe_int (nomark _)) (pss_one (ps_raise rfl (takes_of rfl rfl rfl rfl) (pmk_err (T.err_BadPrime) (hr.mono (by decide)) (pa_cons (pv 1) pa_nil)))) pss_nil)
      (pss_cons (ps_set (i := 2) sc_sign_sum.nd rfl (Or.inr rfl) (pe_d (ok_signs_of_hours T) (hr.mono (by decide)) (passes_call (takes_of rfl rfl rfl rfl) (fun _ _ _ _ h => h)) (pa_cons (pv 1) pa_nil)))
      (pss_one (ps_ret (pe_callB (cr_sum rfl) (by rfl) T.b_sum (by decide +kernel) (pa_cons (pe_lc (own := [("x", 3)])  (te := (tOp (rIxL K) (tVar 2) (tOp (rI (fun _ j => 0 < j) fun i j => .int (i % j)) (tOp (rI CMulB fun i j => .int (i * j)) (tVar 3) (tOp (rI0 fun i j => .int (i + j)) (tOp (rI CMulB fun i j => .int (i * j)) (tVar 3) (tVar 3)) (tVar 0))) (tVar 1)))) rfl sc_sign_sum.nd  (pi_range1 (by rfl) T.b_range (pa_cons (pv 1) pa_nil)) (blkOk_by (own := [("x", 3)]) (N := ["n", "p", "signs", "x"]) (sc := defScope s_sign_sum) (by decide +kernel)) (fun _ _ _ _ _ => (pg_name (i := 3) sc_sign_sum.nd rfl (Or.inl rfl))) (fun _ _ _ _ _ => pts_nil) (fun _ _ _ _ _ => (pe_ix ix_list (pv 2) (pe_op op_mod (pe_op op_mulB (pv 3) (pe_op op_add (pe_op op_mulB (pv 3) (pv 3)) (pv 0))) (pv 1)) (fun _ _ => rfl)))) pa_nil))))))), ?_⟩
    try dsimp only [cxOf]
    have B := Hv.start nt
    wtm_at "rs"
    refine use_ckp (by omega) (fun z => qe fun y => z y.1) fun op => ?_
    have p3 := op.three
    have m1 := fun z => Int.emod_nonneg z (show p ≠ 0 by omega)
    have m2 := fun z => Int.emod_lt_of_pos z (show 0 < p by omega)
    wtm_at "rs"
    by_cases h0 : n % p = 0
    · rw [if_pos (decide_eq_true h0)]
      wtm_at "rs"
      exact qe fun y => y.2 (Int.dvd_of_emod_eq_zero h0)
    rw [if_neg (by rw [decide_eq_true_iff]; exact h0)]
    replace q := q op fun z => h0 (Int.emod_eq_zero_of_dvd z)
    wtm_at "rs"
    refine use_sgH B.nt op pb fun D H1 sm nt1 hD0 hD => ?_
    have B := B.got sm nt1 hD0 hD
    clear sm nt1 hD0 hD
    refine B.gen fun G B => ?_
    wtm_at "rs"
    refine rd_lcR (fun _ => true) (fun k : Nat => V.int (jacF p n (k : Int))) (fun D2 k hD2 hk => ?_) fun D2 hD2 => ?_
    · have hk2 : k < p.toNat := hk
      have e1 : (0 + (k : Int)) = (k : Int) := by omega
      have bk : Bd 20 (k : Int) := Bd.of (by omega) (by omega)
      obtain ⟨l, hl⟩ : ∃ l : Nat, (k : Int) * ((k : Int) * (k : Int) + n) % p = (l : Int) := ⟨((k : Int) * ((k : Int) * (k : Int) + n) % p).toNat, by rw [Int.toNat_of_nonneg (m1 _)]⟩
      have hl2 : l < p.toNat := by
        have := m2 ((k : Int) * ((k : Int) * (k : Int) + n))
        omega
      have hM := same_new (o := .lst (resR (fun _ => true) (fun k : Nat => V.int (jacF p n (k : Int))) k)) hD2 _ _ (B.lAt (a := D) (by wtm_at "mem"))
      wtm_at "r"
      refine ⟨rfl, ?_⟩
      rw [e1]
      wtm_at "rs"
      rw [hl]
      refine rd_ixL (SqL.of hM) (rowV_at hl2) ?_
      refine put_R (by omega) rfl ?_
      rw [← hl]
      have := sgn_clk op ((k : Int) * ((k : Int) * (k : Int) + n))
      simp only at this
      rw [this]
      rfl
    rw [List.filter_eq_self.mpr fun _ _ => rfl, show (List.range (Int.toNat p)).map (fun k : Nat => V.int (jacF p n (k : Int))) = ((List.range p.toNat).map fun k : Nat => jacF p n (k : Int)).map V.int by rw [List.map_map]; rfl]
    have B := B.newL (o := .lst (((List.range p.toNat).map fun k : Nat => jacF p n (k : Int)).map V.int)) hD2
    clear hD2
    refine B.gen fun G B => ?_
    wtm_at "rs"
    refine ⟨D2, _, rfl, SqL.of (B.lAt (a := D2) (by wtm_at "mem")), ?_⟩
    rw [sum_rowS, show (QR.Sm p.toNat fun k : Nat => jacF p n (k : Int)) = jacS p n from rfl]
    exact q _ B.same
theorem ok_sign_sum (T : Txt K mg Ad) : Def P w K mg base 4 "sign_sum" ["n", "p"] (spSsm Ad.c_BadPrime) :=
  (ok_sign_sum0 T).forget.imp fun vs H Q E ⟨n, p, e, nt, h1, h2, qe, z⟩ => ⟨nt, n, p, e, nt, h1, h2, qe, fun a b H' s => ⟨s, z a b⟩⟩
/-! ### side_of -/
def spSide : Sp := fun vs H Q _ => ∃ s : Int, vs = [.int s] ∧ s < 2 ^ 400 ∧ Q (vOpt (sideO s)) H
theorem ok_side_of (T : Txt K mg Ad) : Def P w K mg base 1 "side_of" ["square"] spSide := by
  refine T.d_side_of.ok sc_side_of (fun vs H Q E h => ?_) (fun f cdv A outer s H vs Q E hr h => ?_)
  · obtain ⟨s, rfl, _⟩ := h
    rfl
  · obtain ⟨s, rfl, hb, q⟩ := h
    refine ⟨_, (pss_cons (ps_set (i := 1) sc_side_of.nd rfl (Or.inl rfl) pe_int)
      (pss_cons (ps_set (i := 2) sc_side_of.nd rfl (Or.inl rfl) (pe_op op_add (pv 0) pe_int))
      (pss_cons (ps_while (passes_of rfl) (pt_cmpR op_gt (pe_op op_sub (pv 2) (pv 1)) pe_int (nomark _)) (pss_cons (ps_set (i := 3) sc_side_of.nd rfl (Or.inl rfl) (pe_op op_fdivB (pe_op op_add (pv 1) (pv 2)) pe_int))
      (pss_one (ps_if (pt_cmpR op_le (pe_op op_mulB (pv 3) (pv 3)) (pv 0) (nomark _)) (pss_one (ps_set (i := 1) sc_side_of.nd rfl (Or.inl rfl) (pv 3))) (pss_one (ps_set (i := 2) sc_side_of.nd rfl (Or.inl rfl) (pv 3)))))))
      (pss_cons (ps_if (pt_cmpR op_eq (pe_op op_mulB (pv 1) (pv 1)) (pv 0) (nomark _)) (pss_one (ps_ret (pv 1))) pss_nil)
      (pss_one (ps_ret pe_non)))))), ?_⟩
    try dsimp only [cxOf]
    wtm_at "rs"
    refine rd_while (fun μ σ H' => ∃ (lo hi : Int) (v3 : Option V), μ = (hi - lo).toNat ∧ σ = [some (.int s), some (.int lo), some (.int hi), v3] ∧ H = H' ∧ 0 ≤ lo ∧ (s < 0 ∧ lo = 0 ∧ hi ≤ 0 ∨ 0 ≤ s ∧ lo < hi ∧ hi ≤ s + 1 ∧ lo * lo ≤ s ∧ s < hi * hi)) _
      ⟨0, s + 1, _, rfl, rfl, rfl, by omega, ?_⟩ ?_
    · by_cases h : s < 0
      · exact .inl ⟨h, rfl, by omega⟩
      · have := QR.le_sq (show 1 ≤ s + 1 by omega)
        exact .inr ⟨by omega, by omega, by omega, by omega, by omega⟩
    · rintro μ σ H' ⟨lo, hi, v3, rfl, rfl, rfl, h0, inv⟩
      have Bl : Bd 400 lo := Bd.of (by omega) (by omega)
      wtm_at "rs"
      wtm_at "i"
      · rename_i h1
        rcases inv with ⟨a, b, c⟩ | ⟨a, b, c, d, e⟩
        · omega
        have Bm : Bd 401 ((lo + hi) / 2) := Bd.of (by omega) (by omega)
        obtain ⟨m0, m1⟩ := side_step h0 h1 rfl
        wtm_at "rs"
        generalize (lo + hi) / 2 = m at *
        wtm_at "i"
        · rename_i h2
          wtm_at "rs"
          exact ⟨_, by omega, m, hi, _, rfl, rfl, rfl, by omega, .inr ⟨a, m1, c, by omega, e⟩⟩
        · rename_i h2
          wtm_at "rs"
          exact ⟨_, by omega, lo, m, _, rfl, rfl, rfl, h0, .inr ⟨a, m0, by omega, d, by omega⟩⟩
      · rename_i h1
        wtm_at "rs"
        wtm_at "i"
        · rename_i h2
          rw [sideO_some h0 h2] at q
          wtm_at "rs"
          exact q
        · rename_i h2
          have : sideO s = none := sideO_none fun r hr e => by
            rcases inv with ⟨a, b, c⟩ | ⟨a, b, c, d, e2⟩
            · have := sq_nonneg r
              omega
            · have h3 : hi = lo + 1 := by omega
              subst h3
              rcases Int.lt_trichotomy r lo with z | z | z
              · have := Int.mul_self_lt_mul_self hr z
                omega
              · rw [z] at e
                exact h2 e
              · have := sq_mono (show 0 ≤ lo + 1 by omega) (show lo + 1 ≤ r by omega)
                omega
          rw [this] at q
          wtm_at "rs"
          exact q
theorem use_side {s : Int} {H : Hp} {Q : VK} {E : XK} (hb : s < 2 ^ 400) (q : Q (vOpt (sideO s)) H) : spSide [.int s] H Q E := ⟨s, rfl, hb, q⟩
/-! ### two_squares -/
def spTwS (C : Addr) : Sp := fun vs H Q E => ∃ p : Int, vs = [.int p] ∧ NoT H ∧ p < 100000 ∧ (¬ QR.OP p → ∀ d, H d = none → E (.ref C) (some d) (upd H d (.xd [("p", .int p)]))) ∧ (QR.OP p → p % 4 = 3 → Q .non H) ∧
  (QR.OP p → p % 4 = 1 → ∀ (b : Int) (t : Addr), 0 ≤ b → jacH p (-1) * jacH p (-1) + b * b = p → H t = none → Q (.ref t) (upd H t (.tup [.int ((jacH p (-1)).natAbs : Int), .int b])))
theorem natAbs_sq (x : Int) : (x.natAbs : Int) * (x.natAbs : Int) = x * x := Int.natAbs_mul_self' x
theorem ok_two_squares (T : Txt K mg Ad) : Def P w K mg base 5 "two_squares" ["p"] (spTwS Ad.c_BadPrime) := by
  refine T.d_two_squares.ok sc_two_squares (fun vs H Q E h => ?_) (fun f cdv A outer s H vs Q E hr h => ?_)
  · obtain ⟨p, rfl, _⟩ := h
    rfl
  · obtain ⟨p, rfl, nt, pb, qe, q3, q1⟩ := h
    refine ⟨_, (pss_cons (ps_expr (pe_d (ok_checked_prime T) (hr.mono (by decide)) (passes_call (takes_of rfl rfl rfl rfl) (fun _ _ _ _ h => h)) (pa_cons (pv 0) pa_nil)))
      (pss_cons (ps_if (pt_cmpR op_eq (pe_op op_mod (pv 0) pe_int) pe_int (nomark _)) (pss_one (ps_ret pe_non)) pss_nil)
      (pss_cons (ps_set (i := 1) sc_two_squares.nd rfl (Or.inl rfl) (pe_op op_fdivB (pe_callB c_abs (by rfl) T.b_abs (by decide +kernel) (pa_cons (pe_d (ok_sign_sum T) (hr.mono (by decide)) (passes_call (takes_of rfl rfl rfl rfl) (fun _ _ _ _ h => h)) (pa_cons (pe_un un_neg pe_int) (pa_cons (pv 0) pa_nil))) pa_nil)) pe_int))
      (pss_one (ps_ret (pe_tup (pa_cons (pv 1) (pa_cons (pe_d (ok_side_of T) (hr.mono (by decide)) (passes_call (takes_of rfl rfl rfl rfl) (fun _ _ _ _ h => h)) (pa_cons (pe_op op_sub (pv 0) (pe_op op_mulB (pv 1) (pv 1))) pa_nil)) pa_nil)))))))), ?_⟩
    try dsimp only [cxOf]
    have B := Hv.start nt
    wtm_at "rs"
    refine use_ckp (by omega) qe fun op => ?_
    replace q3 := q3 op
    replace q1 := q1 op
    have p3 := op.three
    have o2 := op.2
    wtm_at "rs"
    by_cases h4 : p % 4 = 3
    · rw [if_pos (decide_eq_true h4)]
      wtm_at "rs"
      exact q3 h4
    rw [if_neg (by rw [decide_eq_true_iff]; exact h4)]
    have h1 : p % 4 = 1 := by omega
    replace q1 := q1 h1
    wtm_at "rs"
    refine use_ssm B.nt op pb (Bd.of (by decide) (by decide)) (fun z => by
      have := Int.le_of_dvd (by decide) (Int.dvd_neg.mp z)
      omega) ?_
    rw [jacS_half op h1]
    obtain ⟨t, ht⟩ := nonres op
    have hp := jacH_prime op h1 (sgn_m4 op h1) ht
    have sq1 := natAbs_sq (jacH p (-1))
    have sq2 := natAbs_sq (jacH p t)
    have ln : ((jacH p (-1)).natAbs : Int) ≤ p := by
      have a1 : (jacH p (-1)).natAbs ≤ (jacH p (-1)).natAbs * (jacH p (-1)).natAbs := Nat.le_mul_self _
      have a2 : (0 : Int) ≤ jacH p t * jacH p t := by rw [← sq2]; exact Int.mul_nonneg (by omega) (by omega)
      have : (((jacH p (-1)).natAbs * (jacH p (-1)).natAbs : Nat) : Int) = jacH p (-1) * jacH p (-1) := by rw [Int.natCast_mul]; exact Int.natAbs_mul_self' _
      omega
    have ea : (if 2 * jacH p (-1) < 0 then -(2 * jacH p (-1)) else 2 * jacH p (-1)) / 2 = ((jacH p (-1)).natAbs : Int) := by split <;> omega
    have bh : Bd 30 ((jacH p (-1)).natAbs : Int) := Bd.of (by omega) (by omega)
    wtm_at "rs"
    rw [ea]
    wtm_at "rs"
    refine use_side (by
      have : (0 : Int) ≤ ((jacH p (-1)).natAbs : Int) * ((jacH p (-1)).natAbs : Int) := Int.mul_nonneg (by omega) (by omega)
      omega) ?_
    rw [sideO_some (r := ((jacH p t).natAbs : Int)) (by omega) (by rw [sq1, sq2]; omega)]
    wtm_at "rs"
    exact q1 _ _ (by omega) (by rw [sq2]; exact hp) (by assumption)
/-! ### _law_refused -/
def spRef80 : Sp := fun vs H Q _ => ∃ (k n p : Int), vs = [.int k, .int n, .int p] ∧ NoT H ∧ p < 100000 ∧ Bd 300 n ∧ (k = 0 → ¬ (QR.OP p ∧ ¬ p ∣ n)) ∧ (k ≠ 0 → ¬ QR.OP p) ∧ ∀ H', Same H H' → Q (.bl true) H'
def spRef8 : Sp := fun vs H Q _ => ∃ (k n p : Int), vs = [.int k, .int n, .int p] ∧ NoT H ∧ p < 100000 ∧ Bd 300 n ∧ (k = 0 → ¬ (QR.OP p ∧ ¬ p ∣ n)) ∧ (k ≠ 0 → ¬ QR.OP p) ∧ Q (.bl true) H
theorem use_ref8 {k n p : Int} {H : Hp} {Q : VK} {E : XK} (nt : NoT H) (pb : p < 100000) (bn : Bd 300 n) (h0 : k = 0 → ¬ (QR.OP p ∧ ¬ p ∣ n)) (h1 : k ≠ 0 → ¬ QR.OP p) (q : Q (.bl true) H) : spRef8 [.int k, .int n, .int p] H Q E := ⟨k, n, p, rfl, nt, pb, bn, h0, h1, q⟩
theorem ok_law_refused0 (T : Txt K mg Ad) : Def P w K mg base 6 "_law_refused" ["_law_which", "_law_n", "_law_p"] spRef80 := by
  refine T.d_law_refused.ok sc_law_refused (fun vs H Q E h => ?_) (fun f cdv A outer s H vs Q E hr h => ?_)
  · obtain ⟨k, n, p, rfl, _⟩ := h
    rfl
  · obtain ⟨k, n, p, rfl, nt, pb, bn, h0, h1, q⟩ := h
    refine ⟨_, (pss_cons (ps_try_as (i := 3) (tb := fun W => (tIfS (tTest (tOp rEq (tVar 0) (tC (.int 0)))) (tDrop (tCallS ((spSsm Ad.c_BadPrime)) (WE W) (tCons (tVar 1) (tCons (tVar 2) tNil)))) (tDrop (tCallS ((spTwS Ad.c_BadPrime)) (WE W) (tCons (tVar 2) tNil))))) (ts := fun a cls d => (tRet (tOp rEq (tXf a cls d Ad.c_BadPrime "p" (tVar 3)) (tVar 2)))) (Wout := fun cls d _ H => E cls d H) rfl rfl sc_law_refused.nd rfl rfl ⟨rfl, by decide, .inl T.r_BadPrime.g⟩ (takes_of rfl rfl rfl rfl) (fun W pn xe tk _ => (pss_one (ps_if (pt_cmpR op_eq (pv 0) pe_int (nomark _)) (pss_one (ps_expr (by exact (pe_dS (ok_sign_sum T) (hr.mono (by decide)) tk (pa_cons (pv 1) (pa_cons (pv 2) pa_nil)))))) (pss_one (ps_expr (by exact (pe_dS (ok_two_squares T) (hr.mono (by decide)) tk (pa_cons (pv 2) pa_nil)))))))) (fun a oe cls d pn hz hf => (pss_one (ps_ret (pe_cmpR op_eq (pe_xf T.r_BadPrime.X T.no_BadPrime_p hz hf (pv 3)) (pv 2) (nomark _))))))
      (pss_one (ps_ret pe_bl))), ?_⟩
    try dsimp only [cxOf]
    wtm_at "ra"
    · rename_i hk
      refine ⟨n, p, rfl, nt, pb, bn, fun _ d hd => ?_, fun a b => absurd ⟨a, b⟩ (h0 hk)⟩
      refine rd_was T.r_BadPrime.self fun a ha => ?_
      wtm_at "rs"
      rw [decide_eq_true (show p = p from rfl)]
      exact q _ (same_new hd)
    · rename_i hk
      refine ⟨p, rfl, nt, pb, fun _ d hd => ?_, fun z => absurd z (h1 hk), fun z => absurd z (h1 hk)⟩
      refine rd_was T.r_BadPrime.self fun a ha => ?_
      wtm_at "rs"
      rw [decide_eq_true (show p = p from rfl)]
      exact q _ (same_new hd)
theorem ok_law_refused (T : Txt K mg Ad) : Def P w K mg base 6 "_law_refused" ["_law_which", "_law_n", "_law_p"] spRef8 :=
  (ok_law_refused0 T).forget.imp fun vs H Q E ⟨k, n, p, e, nt, a, b, c, d, z⟩ => ⟨nt, k, n, p, e, nt, a, b, c, d, fun H' s => ⟨s, z⟩⟩
/-! ### _law_sides -/
def spSid8 : Sp := fun vs H Q _ => ∃ p a b : Int, vs = [.int p] ∧ QR.OP p ∧ p < 700 ∧ 0 ≤ a ∧ a % 2 = 1 ∧ 0 ≤ b ∧ b ≠ 0 ∧ a * a + b * b = p ∧ ∀ t, H t = none → Q (.ref t) (upd H t (.tup [.int a, .int b]))
theorem rgC2 {p : Int} (h : 3 ≤ p) (hb : p < 100000) (o : p % 2 = 1) : RgC 1 p 2 (p / 2).toNat := by
  have e : Builtin.Range.rangeSize 1 p 2 = (((p / 2).toNat : Nat) : Int) := by
    unfold Builtin.Range.rangeSize
    rw [if_pos (by decide), if_pos (by omega)]
    show (p - 1 - 1) / 2 + 1 = (((p / 2).toNat : Nat) : Int)
    have h1 : 0 ≤ p / 2 := by omega
    rw [Int.toNat_of_nonneg h1]
    omega
  refine ⟨by decide, by decide, ?_, e⟩
  unfold Builtin.Range.small
  rw [e]
  simp only [Builtin.Range.rangeFitsLong, Bool.and_eq_true, Bool.or_eq_true, decide_eq_true_eq, beq_iff_eq]
  rw [if_pos (show (2 : Int) > 0 by decide)]
  simp only [Bool.and_eq_true, decide_eq_true_eq]
  refine ⟨⟨⟨⟨⟨by decide, by decide⟩, by omega, by omega⟩, by decide, by decide⟩, by omega, by omega⟩, Or.inr ⟨by omega, by omega⟩⟩
theorem ok_law_sides (T : Txt K mg Ad) : Def P w K mg base 1 "_law_sides" ["_law_p"] spSid8 := by
  refine T.d_law_sides.ok sc_law_sides (fun vs H Q E h => ?_) (fun f cdv A outer s H vs Q E hr h => ?_)
  · obtain ⟨p, a, b, rfl, _⟩ := h
    rfl
  · obtain ⟨p, a, b, rfl, op, pb, a0, a1, b0, b1, ab, q⟩ := h
    refine ⟨_, (pss_cons (ps_for (passes_of rfl) rfl (pi_range3 (by rfl) T.b_range (pa_cons pe_int (pa_cons (pv 0) (pa_cons pe_int pa_nil)))) (pg_name (i := 1) sc_law_sides.nd rfl (Or.inl rfl)) (pss_cons (ps_for (passes_of rfl) rfl (pi_range3 (by rfl) T.b_range (pa_cons pe_int (pa_cons pe_int (pa_cons pe_int pa_nil)))) (pg_name (i := 2) sc_law_sides.nd rfl (Or.inl rfl)) (pss_one (ps_if (pt_cmpR op_eq (pe_op op_add (pe_op op_mulB (pv 1) (pv 1)) (pe_op op_mulB (pv 2) (pv 2))) (pv 0) (nomark _)) (pss_one (ps_ret (pe_tup (pa_cons (pv 1) (pa_cons (pv 2) pa_nil))))) pss_nil)))
      (pss_one (ps_if (pt_cmpR op_gt (pe_op op_mulB (pv 1) (pv 1)) (pv 0) (nomark _)) (pss_one (ps_ret pe_non)) pss_nil))))
      (pss_one (ps_ret pe_non))), ?_⟩
    try dsimp only [cxOf]
    have p3 := op.three
    have o2 := op.2
    wtm_at "rs"
    refine rd_r3 (n := (p / 2).toNat) (rgC2 (by omega) (by omega) o2) ?_
    have hw : WrAt p 1 a b := ⟨a0, b0, by rw [Int.one_mul]; exact ab⟩
    have uq : ∀ x y : Int, 0 ≤ x → 0 ≤ y → x * x + y * y = p → x % 2 = 1 → y % 2 = 0 → x = a ∧ y = b := fun x y x0 y0 e ox ey => by
      rcases QR.wr_unique op.1 (by decide) hw (show WrAt p 1 x y from ⟨x0, y0, by rw [Int.one_mul]; exact e⟩) with ⟨e1, e2⟩ | ⟨_, e1, e2⟩
      · exact ⟨e1.symm, e2.symm⟩
      · omega
    have be : b % 2 = 0 := by
      have : (a * a) % 2 = 1 := by rw [Int.mul_emod, a1]; rfl
      have hb2 : (b * b) % 2 = 0 := by omega
      rcases Int.emod_two_eq b with z | z
      · exact z
      · rw [Int.mul_emod, z] at hb2
        exact absurd hb2 (by decide)
    have bl : b < 60 := by
      rcases Int.lt_or_le b 60 with z | z
      · exact z
      · have : 60 * 60 ≤ b * b := Int.mul_le_mul z z (by decide) (by omega)
        have : 0 ≤ a * a := Int.mul_nonneg a0 a0
        omega
    have al : a < p := by
      have : a ≤ a * a := by
        rcases Int.lt_or_le 0 a with z | z
        · exact QR.le_sq (by omega)
        · omega
      have : b ≤ b * b := QR.le_sq (by omega)
      omega
    refine rd_forW (walk_rangeC (lo := 1) (c := 2) (n := (p / 2).toNat)) (fun i σ G => ∃ v1 v2 : Option V, σ = [some (.int p), v1, v2] ∧ H = G ∧ 2 * (i : Int) ≤ a) ⟨_, _, rfl, rfl, by omega⟩ (fun _ _ _ _ _ => trivial) ?_ ?_
    · rintro i x σ G G' hi ⟨v1, v2, rfl, rfl, ia⟩ ⟨rfl, rfl⟩
      have bi : Bd 20 (1 + (i : Int) * 2) := Bd.of (by omega) (by omega)
      wtm_at "rs"
      refine rd_r3 (n := 29) ⟨by decide, by decide, by decide, by decide⟩ ?_
      refine rd_forW (walk_rangeC (lo := 2) (c := 2) (n := 29)) (fun j σ G2 => ∃ v2 : Option V, σ = [some (.int p), some (.int (1 + (i : Int) * 2)), v2] ∧ G' = G2 ∧ (1 + (i : Int) * 2 = a → 2 * (j : Int) < b)) ⟨_, rfl, rfl, by omega⟩ (fun _ _ _ _ _ => trivial) ?_ ?_
      · rintro j x σ G2 G3 hj ⟨v2, rfl, rfl, jb⟩ ⟨rfl, rfl⟩
        have bj : Bd 20 (2 + (j : Int) * 2) := Bd.of (by omega) (by omega)
        wtm_at "rs"
        by_cases e : (1 + (i : Int) * 2) * (1 + (i : Int) * 2) + (2 + (j : Int) * 2) * (2 + (j : Int) * 2) = p
        · rw [if_pos (decide_eq_true e)]
          obtain ⟨e1, e2⟩ := uq _ _ (by omega) (by omega) e (by omega) (by omega)
          wtm_at "rs"
          rename_i t ht
          have q := q t ht
          rw [← e1, ← e2] at q
          exact q
        · rw [if_neg (by rw [decide_eq_true_iff]; exact e)]
          wtm_at "rs"
          refine ⟨_, rfl, rfl, fun z => ?_⟩
          have := jb z
          have : 2 + (j : Int) * 2 ≠ b := fun y => e (by rw [z, y]; exact ab)
          omega
      · rintro σ G ⟨v2, rfl, rfl, jb⟩
        have na : 1 + (i : Int) * 2 ≠ a := fun z => by
          have := jb z
          omega
        have lt : 1 + (i : Int) * 2 < a := by omega
        wtm_at "rs"
        rw [if_neg (by
          rw [decide_eq_true_iff]
          intro z
          have : (1 + (i : Int) * 2) * (1 + (i : Int) * 2) ≤ a * a := Int.mul_le_mul (by omega) (by omega) (by omega) (by omega)
          have : 0 ≤ b * b := Int.mul_nonneg b0 b0
          omega)]
        wtm_at "rs"
        exact ⟨_, _, rfl, rfl, by omega⟩
    · rintro σ G ⟨v1, v2, rfl, rfl, ia⟩
      exfalso
      omega
/-! ### _law_signs -/
def spSg8 : Sp := fun vs H Q _ => ∃ p : Int, vs = [.int p] ∧ NoT H ∧ QR.OP p ∧ p < 100000 ∧ ∀ D H', Same H H' → NoT H' → H D = none → H' D = some (.lst (rowV p.toNat fun k => sgn (k : Int) p)) → Q (.ref D) H'
theorem use_sg8 {p : Int} {H : Hp} {Q : VK} {E : XK} (nt : NoT H) (op : QR.OP p) (pb : p < 100000) (q : ∀ D H', Same H H' → NoT H' → H D = none → H' D = some (.lst (rowV p.toNat fun k => sgn (k : Int) p)) → Q (.ref D) H') : spSg8 [.int p] H Q E := ⟨p, rfl, nt, op, pb, q⟩
theorem ok_law_signs (T : Txt K mg Ad) : Def P w K mg base 1 "_law_signs" ["_law_p"] spSg8 := by
  refine T.d_law_signs.ok sc_law_signs (fun vs H Q E h => ?_) (fun f cdv A outer s H vs Q E hr h => ?_)
  · obtain ⟨p, rfl, _⟩ := h
    rfl
  · obtain ⟨p, rfl, nt, op, pb, q⟩ := h
    refine ⟨_, (pss_cons (ps_set (i := 1) sc_law_signs.nd rfl (Or.inl rfl) (pe_op op_rep (pe_lst (pa_cons (pe_un un_neg pe_int) pa_nil)) (pv 0)))
      (pss_cons (ps_asg pe_int (pg_sub (pv 1) pe_int set_list))
      (pss_cons (ps_for (passes_of rfl) rfl (pi_range2 (by rfl) T.b_range (pa_cons pe_int (pa_cons (pv 0) pa_nil))) (pg_name (i := 2) sc_law_signs.nd rfl (Or.inl rfl)) (pss_one (ps_asg pe_int (pg_sub (pv 1) (pe_op op_mod (pe_op op_mulB (pv 2) (pv 2)) (pv 0)) set_list))))
      (pss_one (ps_ret (pv 1)))))), ?_⟩
    try dsimp only [cxOf]
    have B := Hv.start nt
    have p3 := op.three
    have o2 := op.2
    have m1 := fun z => Int.emod_nonneg z (show p ≠ 0 by omega)
    have m2 := fun z => Int.emod_lt_of_pos z (show 0 < p by omega)
    wtm_at "rs"
    rename_i l0 hl0
    have B := B.newL (o := .lst [.int (-1)]) hl0
    clear hl0
    refine B.gen fun G B => ?_
    refine ⟨l0, p, [.int (-1)], rfl, rfl, B.lAt (a := l0) (by wtm_at "mem"), by omega, by omega, Nat.le_trans (m := 100000) (by simp; omega) (by decide), fun D hD => ?_⟩
    have hD0 := B.free hD
    rw [List.flatten_replicate_singleton, rowV_repc]
    have B := B.new (o := .lst (rowV p.toNat fun _ => -1)) hD
    clear hD
    refine B.gen fun G B => ?_
    wtm_at "rs"
    refine rd_setL (j := 0) (B.mAt (a := D) (by wtm_at "mem")) (rowV_ix (j := 0) (by omega)) ?_
    rw [rowV_set (g := sgL 0 p) (by omega) (by rfl) fun i hi hn => by
      unfold sgL
      rw [if_neg hn, if_neg (by simp)]]
    have B := (B.put (u := .lst (rowV p.toNat (sgL 0 p)))).sub (L' := []) (fun _ h => absurd h List.not_mem_nil) (fun _ h => h)
    refine B.gen fun G B => ?_
    wtm_at "rs"
    refine rd_forR (fun i σ G => ∃ v2 : Option V, σ = [some (.int p), some (.ref D), v2] ∧ Hv noX H [(D, .lst (rowV p.toNat (sgL i p)))] [] [] G) ⟨_, rfl, B⟩ ?_ ?_
    · clear B
      rintro i σ G hi ⟨v2, rfl, B⟩
      have hi2 : (i : Int) < p - 1 := by omega
      have bi : Bd 20 (1 + (i : Int)) := Bd.of (by omega) (by omega)
      obtain ⟨j, hj⟩ : ∃ j : Nat, (1 + (i : Int)) * (1 + (i : Int)) % p = (j : Int) := ⟨((1 + (i : Int)) * (1 + (i : Int)) % p).toNat, by rw [Int.toNat_of_nonneg (m1 _)]⟩
      have hj2 : j < p.toNat := by
        have := m2 ((1 + (i : Int)) * (1 + (i : Int)))
        omega
      have j0 : j ≠ 0 := fun z => sq_n0 op hi2 (by rw [hj, z]; rfl)
      wtm_at "rs"
      rw [hj]
      refine rd_setL (B.mAt (a := D) (by wtm_at "mem")) (rowV_ix hj2) ?_
      rw [rowV_set (g := sgL (i + 1) p) hj2 (sgL_put hj j0) fun k hk hn => sgL_keep hj hn]
      have B := B.put (u := .lst (rowV p.toNat (sgL (i + 1) p)))
      exact ⟨_, rfl, B⟩
    · rintro σ G ⟨v2, rfl, B⟩
      wtm_at "rs"
      refine q D G B.same B.nt hD0 ?_
      rw [B.mAt (a := D) List.mem_cons_self]
      congr 2
      exact rowV_congr fun k hk => sgL_full op hk
/-! ### _law_sum -/
theorem sum_rowJ (n : Nat) (f : Nat → Int) : (((List.range n).map f).sum : Int) = QR.Sm n f := by
  induction n with
  | zero => rfl
  | succ n ih =>
    rw [QR.Sm, ← ih, List.range_succ, List.map_append, List.sum_append]
    simp
def spSu80 : Sp := fun vs H Q _ => ∃ (n p : Int) (a : Addr), vs = [.int n, .int p, .ref a] ∧ NoT H ∧ QR.OP p ∧ p < 100000 ∧ Bd 300 n ∧ H a = some (.lst (rowV p.toNat fun k => sgn (k : Int) p)) ∧ ∀ H', Same H H' → Q (.int (jacS p n)) H'
def spSu8 : Sp := fun vs H Q _ => ∃ (n p : Int) (a : Addr), vs = [.int n, .int p, .ref a] ∧ NoT H ∧ QR.OP p ∧ p < 100000 ∧ Bd 300 n ∧ H a = some (.lst (rowV p.toNat fun k => sgn (k : Int) p)) ∧ Q (.int (jacS p n)) H
theorem use_su8 {n p : Int} {a : Addr} {H : Hp} {Q : VK} {E : XK} (nt : NoT H) (op : QR.OP p) (pb : p < 100000) (bn : Bd 300 n) (ha : H a = some (.lst (rowV p.toNat fun k => sgn (k : Int) p))) (q : Q (.int (jacS p n)) H) : spSu8 [.int n, .int p, .ref a] H Q E := ⟨n, p, a, rfl, nt, op, pb, bn, ha, q⟩
theorem ok_law_sum0 (T : Txt K mg Ad) : Def P w K mg base 1 "_law_sum" ["_law_n", "_law_p", "_law_signs_here"] spSu80 := by
  refine T.d_law_sum.ok sc_law_sum (fun vs H Q E h => ?_) (fun f cdv A outer s H vs Q E hr h => ?_)
  · obtain ⟨n, p, a, rfl, _⟩ := h
    rfl
  · obtain ⟨n, p, a, rfl, nt, op, pb, bn, ha, q⟩ := h
    refine ⟨_, (pss_one (ps_ret (pe_callB (cr_sum rfl) (by rfl) T.b_sum (by decide +kernel) (pa_cons (pe_lc (own := [("_law_x", 3)])  (te := (tOp (rIxL K) (tVar 2) (tOp (rI (fun _ j => 0 < j) fun i j => .int (i % j)) (tCB rInt1 (tCons (tOp (rI CMulB fun i j => .int (i * j)) (tVar 3) (tOp (rI0 fun i j => .int (i + j)) (tOp (rI CMulB fun i j => .int (i * j)) (tVar 3) (tVar 3)) (tVar 0))) tNil)) (tVar 1)))) rfl sc_law_sum.nd  (pi_range1 (by rfl) T.b_range (pa_cons (pv 1) pa_nil)) (blkOk_by (own := [("_law_x", 3)]) (N := ["_law_n", "_law_p", "_law_signs_here", "_law_x"]) (sc := defScope s_law_sum) (by decide +kernel)) (fun _ _ _ _ _ => (pg_name (i := 3) sc_law_sum.nd rfl (Or.inl rfl))) (fun _ _ _ _ _ => pts_nil) (fun _ _ _ _ _ => (pe_ix ix_list (pv 2) (pe_op op_mod (pe_callTy c_int1 (by rfl) T.b_int (by decide +kernel) (pa_cons (pe_op op_mulB (pv 3) (pe_op op_add (pe_op op_mulB (pv 3) (pv 3)) (pv 0))) pa_nil)) (pv 1)) (fun _ _ => rfl)))) pa_nil)))), ?_⟩
    try dsimp only [cxOf]
    have B := Hv.start nt
    have p3 := op.three
    have m1 := fun z => Int.emod_nonneg z (show p ≠ 0 by omega)
    have m2 := fun z => Int.emod_lt_of_pos z (show 0 < p by omega)
    wtm_at "rs"
    refine rd_lcR (fun _ => true) (fun k : Nat => V.int (jacF p n (k : Int))) (fun D2 k hD2 hk => ?_) fun D2 hD2 => ?_
    · have hk2 : k < p.toNat := hk
      have e1 : (0 + (k : Int)) = (k : Int) := by omega
      have bk : Bd 20 (k : Int) := Bd.of (by omega) (by omega)
      obtain ⟨l, hl⟩ : ∃ l : Nat, (k : Int) * ((k : Int) * (k : Int) + n) % p = (l : Int) := ⟨((k : Int) * ((k : Int) * (k : Int) + n) % p).toNat, by rw [Int.toNat_of_nonneg (m1 _)]⟩
      have hl2 : l < p.toNat := by
        have := m2 ((k : Int) * ((k : Int) * (k : Int) + n))
        omega
      have hM := same_new (o := .lst (resR (fun _ => true) (fun k : Nat => V.int (jacF p n (k : Int))) k)) hD2 _ _ ha
      wtm_at "r"
      refine ⟨rfl, ?_⟩
      rw [e1]
      wtm_at "rs"
      rw [hl]
      refine rd_ixL (SqL.of hM) (rowV_at hl2) ?_
      refine put_R (by omega) rfl ?_
      rw [← hl]
      have := sgn_clk op ((k : Int) * ((k : Int) * (k : Int) + n))
      simp only at this
      rw [this]
      rfl
    rw [List.filter_eq_self.mpr fun _ _ => rfl, show (List.range (Int.toNat p)).map (fun k : Nat => V.int (jacF p n (k : Int))) = ((List.range p.toNat).map fun k : Nat => jacF p n (k : Int)).map V.int by rw [List.map_map]; rfl]
    have B := B.newL (o := .lst (((List.range p.toNat).map fun k : Nat => jacF p n (k : Int)).map V.int)) hD2
    clear hD2
    refine B.gen fun G B => ?_
    wtm_at "rs"
    refine ⟨D2, _, rfl, SqL.of (B.lAt (a := D2) (by wtm_at "mem")), ?_⟩
    rw [sum_rowJ, show (QR.Sm p.toNat fun k : Nat => jacF p n (k : Int)) = jacS p n from rfl]
    exact q _ B.same
theorem ok_law_sum (T : Txt K mg Ad) : Def P w K mg base 1 "_law_sum" ["_law_n", "_law_p", "_law_signs_here"] spSu8 :=
  (ok_law_sum0 T).forget.imp fun vs H Q E ⟨n, p, a, e, nt, h1, h2, h3, h4, z⟩ => ⟨nt, n, p, a, e, nt, h1, h2, h3, h4, fun H' s => ⟨s, z⟩⟩
/-! ### law -/
theorem two_ways8 {A : Prop} {I P : Hp → Prop} (h1 : (∀ G, I G → P G) → A) (h2 : ∀ G, I G → P G) : A := h1 h2
theorem op_593 : QR.OP (593 : Int) := QR.op_by (n := 593) 30 (by decide) (by decide) (by decide) (by decide +kernel)
theorem seq_on {K : PySem.W.Frag} {H : Hp} {pp a : Addr} {xs : List V} (h : SqL K H a xs) (hn : H pp = none) : ∀ F G, Same H F → But pp F G → SqL K G a xs := fun F G s b => by
  have ne : ∀ o, H a = some o → a ≠ pp := fun o e z => by
    rw [z, hn] at e
    exact absurd e (by simp)
  exact h.imp (fun h => h.imp (fun h => b _ _ (ne _ h) (s _ _ h)) fun ⟨w, h⟩ => ⟨w, b _ _ (ne _ h) (s _ _ h)⟩) id
theorem Sm_b {f : Nat → Int} (h : ∀ i, -1 ≤ f i ∧ f i ≤ 1) : ∀ n : Nat, -(n : Int) ≤ QR.Sm n f ∧ QR.Sm n f ≤ (n : Int) := fun n => by
  induction n with
  | zero => exact ⟨Int.le_refl _, Int.le_refl _⟩
  | succ n ih =>
    rw [QR.Sm]
    have := h n
    omega
theorem jacS_b {p n : Int} (op : QR.OP p) : -p ≤ jacS p n ∧ jacS p n ≤ p := by
  have h := Sm_b (f := fun k : Nat => jacF p n (k : Int)) (fun i => sgn_b op) p.toNat
  have p3 := op.three
  rw [show (QR.Sm p.toNat fun k : Nat => jacF p n (k : Int)) = jacS p n from rfl] at h
  omega
theorem bad8 {p z : Int} (op : QR.OP p) (h : p ≤ 593) (hz : z ∈ [2, 1, 0, -p, 9, 2 * p, 49, 15]) : ¬ QR.OP z ∧ z < 100000 := by
  have p3 := op.three
  simp only [List.mem_cons, List.not_mem_nil, or_false] at hz
  refine ⟨fun o => ?_, by omega⟩
  have o3 := o.three
  have o2 := o.2
  have e : z = 9 ∨ z = 49 ∨ z = 15 := by omega
  rcases e with rfl | rfl | rfl
  · exact o.1.2 3 (by decide) (by decide) ⟨3, rfl⟩
  · exact o.1.2 7 (by decide) (by decide) ⟨7, rfl⟩
  · exact o.1.2 3 (by decide) (by decide) ⟨5, rfl⟩
theorem ok_law {f : Addr} {fd : FuncData} (F : Fun K "law" "law" s_law f fd) (T : Txt K mg Ad) : FnOk P w K mg base (L2.CX P w) 7 f fd ["_law_script"] (spLaw K) := by
  refine F.okX sc_law (fun vs H Q E h => ?_) (fun cdv A outer s H vs Q E hr h => ?_)
  · obtain ⟨a, ns, rfl, _⟩ := h
    rfl
  · obtain ⟨a, ns, rfl, hS, hlen, nt, kq⟩ := h
    refine ⟨_, (pss_cons (ps_set (i := 1) sc_law.nd rfl (Or.inl rfl) (pe_d (ok_law_pool T) (hr.mono (by decide)) (passes_call (takes_of rfl rfl rfl rfl) (fun _ _ _ _ h => h)) (pa_cons (pe_d (ok_law_cell T) (hr.mono (by decide)) (passes_call (takes_of rfl rfl rfl rfl) (fun _ _ _ _ h => h)) (pa_cons (pv 0) (pa_cons pe_int pa_nil))) pa_nil)))
      (pss_cons (ps_set (i := 2) sc_law.nd rfl (Or.inl rfl) (pe_d (ok_law_next_prime T) (hr.mono (by decide)) (passes_call (takes_of rfl rfl rfl rfl) (fun _ _ _ _ h => h)) (pa_cons (pe_op op_add pe_int (pe_d (ok_law_take T) (hr.mono (by decide)) (passes_call (takes_of rfl rfl rfl rfl) (fun _ _ _ _ h => h)) (pa_cons (pv 1) (pa_cons pe_int pa_nil)))) pa_nil)))
      (pss_cons (ps_set (i := 3) sc_law.nd rfl (Or.inl rfl) (pe_d (ok_law_signs T) (hr.mono (by decide)) (passes_call (takes_of rfl rfl rfl rfl) (fun _ _ _ _ h => h)) (pa_cons (pv 2) pa_nil)))
      (pss_cons (ps_set (i := 4) sc_law.nd rfl (Or.inl rfl) (pe_d (ok_law_number T) (hr.mono (by decide)) (passes_call (takes_of rfl rfl rfl rfl) (fun _ _ _ _ h => h)) (pa_cons (pv 1) (pa_cons (pv 0) (pa_cons pe_int (pa_cons (pv 2) pa_nil))))))
      (pss_cons (ps_set (i := 5) sc_law.nd rfl (Or.inl rfl) (pe_d (ok_law_number T) (hr.mono (by decide)) (passes_call (takes_of rfl rfl rfl rfl) (fun _ _ _ _ h => h)) (pa_cons (pv 1) (pa_cons (pv 0) (pa_cons pe_int (pa_cons (pv 2) pa_nil))))))
      (pss_cons (ps_set (i := 6) sc_law.nd rfl (Or.inl rfl) (pe_op op_add pe_int (pe_d (ok_law_take T) (hr.mono (by decide)) (passes_call (takes_of rfl rfl rfl rfl) (fun _ _ _ _ h => h)) (pa_cons (pv 1) (pa_cons (pe_op op_sub (pv 2) pe_int) pa_nil)))))
      (pss_cons (ps_set (i := 7) sc_law.nd rfl (Or.inl rfl) (pe_lst (pa_cons (pe_d (ok_sign_sum T) (hr.mono (by decide)) (passes_call (takes_of rfl rfl rfl rfl) (fun _ _ _ _ h => h)) (pa_cons (pv 4) (pa_cons (pv 2) pa_nil))) (pa_cons (pe_d (ok_sign_sum T) (hr.mono (by decide)) (passes_call (takes_of rfl rfl rfl rfl) (fun _ _ _ _ h => h)) (pa_cons (pv 5) (pa_cons (pv 2) pa_nil))) pa_nil))))
      (pss_cons (ps_if (PW.pt (pw_or (pt_cmpR (op_neD hr.units) (pv 7) (pe_lst (pa_cons (pe_d (ok_law_sum T) (hr.mono (by decide)) (passes_call (takes_of rfl rfl rfl rfl) (fun _ _ _ _ h => h)) (pa_cons (pv 4) (pa_cons (pv 2) (pa_cons (pv 3) pa_nil)))) (pa_cons (pe_d (ok_law_sum T) (hr.mono (by decide)) (passes_call (takes_of rfl rfl rfl rfl) (fun _ _ _ _ h => h)) (pa_cons (pv 5) (pa_cons (pv 2) (pa_cons (pv 3) pa_nil)))) pa_nil))) (nomark _)) (pw_or1 (pt_cmpR op_ne (pe_d (ok_sign_sum T) (hr.mono (by decide)) (passes_call (takes_of rfl rfl rfl rfl) (fun _ _ _ _ h => h)) (pa_cons (pe_op op_mulB (pe_op op_mulB (pv 4) (pv 6)) (pv 6)) (pa_cons (pv 2) pa_nil))) (pe_op op_mulB (pe_ix ix_list (pv 3) (pv 6) (fun _ _ => rfl)) (pe_ix ix_list (pv 7) pe_int (fun _ _ => rfl))) (nomark _))))) (pss_one (ps_ret pe_bl)) pss_nil)
      (pss_cons (ps_if (PW.pt (pw_and (pt_cmpR op_eq (pe_op op_mod (pv 2) pe_int) pe_int (nomark _)) (pw_and1 (PW.pt (pw_or (pt_cmpR (op_neD hr.units) (pv 7) (pe_lst (pa_cons pe_int (pa_cons pe_int pa_nil))) (nomark _)) (pw_or1 (pt_cmpR op_notN (pe_d (ok_two_squares T) (hr.mono (by decide)) (passes_call (takes_of rfl rfl rfl rfl) (fun _ _ _ _ h => h)) (pa_cons (pv 2) pa_nil)) pe_non (nomark _)))))))) (pss_one (ps_ret pe_bl)) pss_nil)
      (C8.pss_cut (ps_if (pt_cmpR op_eq (pe_op op_mod (pv 2) pe_int) pe_int (nomark _)) (pss_cons (ps_set (i := 8) sc_law.nd rfl (Or.inl rfl) (pe_lst (pa_cons (pe_op op_fdivB (pe_ix ix_list (pv 7) pe_int (fun _ _ => rfl)) pe_int) (pa_cons (pe_op op_fdivB (pe_ix ix_list (pv 7) pe_int (fun _ _ => rfl)) pe_int) pa_nil))))
      (pss_cons (ps_if (pt_cmpR (op_neD hr.units) (pv 7) (pe_lst (pa_cons (pe_op op_mulB pe_int (pe_ix ix_list (pv 8) pe_int (fun _ _ => rfl))) (pa_cons (pe_op op_mulB pe_int (pe_ix ix_list (pv 8) pe_int (fun _ _ => rfl))) pa_nil))) (nomark _)) (pss_one (ps_ret pe_bl)) pss_nil)
      (pss_cons (ps_if (PW.pt (pw_and (pt_cmpR op_ne (pe_ix ix_list (pv 3) (pe_op op_mod (pe_callTy c_int1 (by rfl) T.b_int (by decide +kernel) (pa_cons (pv 4) pa_nil)) (pv 2)) (fun _ _ => rfl)) (pe_ix ix_list (pv 3) (pe_op op_mod (pe_callTy c_int1 (by rfl) T.b_int (by decide +kernel) (pa_cons (pv 5) pa_nil)) (pv 2)) (fun _ _ => rfl)) (nomark _)) (pw_and1 (pt_cmpR op_ne (pe_op op_add (pe_op op_mulB (pe_ix ix_list (pv 8) pe_int (fun _ _ => rfl)) (pe_ix ix_list (pv 8) pe_int (fun _ _ => rfl))) (pe_op op_mulB (pe_ix ix_list (pv 8) pe_int (fun _ _ => rfl)) (pe_ix ix_list (pv 8) pe_int (fun _ _ => rfl)))) (pv 2) (nomark _))))) (pss_one (ps_ret pe_bl)) pss_nil)
      (pss_one (ps_if (pt_cmpR (op_neD hr.units) (pe_d (ok_two_squares T) (hr.mono (by decide)) (passes_call (takes_of rfl rfl rfl rfl) (fun _ _ _ _ h => h)) (pa_cons (pv 2) pa_nil)) (pe_d (ok_law_sides T) (hr.mono (by decide)) (passes_call (takes_of rfl rfl rfl rfl) (fun _ _ _ _ h => h)) (pa_cons (pv 2) pa_nil)) (nomark _)) (pss_one (ps_ret pe_bl)) pss_nil))))) pss_nil)
      (pss_cons (ps_set (i := 9) sc_law.nd rfl (Or.inl rfl) (pe_ix ix_list (pe_lst (pa_cons pe_int (pa_cons pe_int (pa_cons pe_int (pa_cons (pe_un un_neg (pv 2)) (pa_cons pe_int (pa_cons (pe_op op_mulB pe_int (pv 2)) (pa_cons pe_int (pa_cons pe_int pa_nil))))))))) (pe_d (ok_law_take T) (hr.mono (by decide)) (passes_call (takes_of rfl rfl rfl rfl) (fun _ _ _ _ h => h)) (pa_cons (pv 1) (pa_cons pe_int pa_nil))) (fun _ _ => rfl)))
      (pss_cons (ps_if (PW.pt (pw_or (pt_not (pt_val (pe_d (ok_law_refused T) (hr.mono (by decide)) (passes_call (takes_of rfl rfl rfl rfl) (fun _ _ _ _ h => h)) (pa_cons pe_int (pa_cons (pv 4) (pa_cons (pv 9) pa_nil)))))) (pw_or1 (pt_not (pt_val (pe_d (ok_law_refused T) (hr.mono (by decide)) (passes_call (takes_of rfl rfl rfl rfl) (fun _ _ _ _ h => h)) (pa_cons pe_int (pa_cons (pv 4) (pa_cons (pv 9) pa_nil))))))))) (pss_one (ps_ret pe_bl)) pss_nil)
      (pss_one (ps_ret (pe_d (ok_law_refused T) (hr.mono (by decide)) (passes_call (takes_of rfl rfl rfl rfl) (fun _ _ _ _ h => h)) (pa_cons pe_int (pa_cons (pe_op op_mulB (pv 2) (pe_d (ok_law_take T) (hr.mono (by decide)) (passes_call (takes_of rfl rfl rfl rfl) (fun _ _ _ _ h => h)) (pa_cons (pv 1) (pa_cons pe_int pa_nil)))) (pa_cons (pv 2) pa_nil)))))))))))))))))), ?_⟩
    try dsimp only [cxOf]
    have B := Hv.start nt
    wtm_at "rs"
    rename_i pp hp c1 e1 e10 e11
    have so := seq_on hS hp
    generalize ns.getD 0 0 = cc at *
    have B := B.new (o := .lst [.int cc, .int 0, .bl (decide (10 ^ 18 ≤ cc))]) hp
    generalize decide (10 ^ 18 ≤ cc) = b at *
    have B := B.put (u := .lst [.int c1, .int (0 + 1), .bl b])
    clear hp
    refine B.gen fun G B => ?_
    refine ⟨3 + e1, 593, rfl, op_593, by omega, by decide, fun p op _ p2 => ?_⟩
    have p3 := op.three
    wtm_at "rs"
    refine use_sg8 B.nt op (by omega) fun D H1 sm nt1 hD0 hD => ?_
    have B := B.got sm nt1 hD0 hD
    clear sm nt1 hD0 hD
    refine B.gen fun G B => ?_
    wtm_at "rs"
    refine ⟨pp, a, ns, 1, p, c1, 0 + 1, b, rfl, B.mAt (a := pp) List.mem_cons_self, fun F b3 => so _ _ B.same b3, by decide, by decide, hlen, by decide, by decide, by omega, by omega, B.nt, fun n c2 G2 dn bn b2 nt2 hp2 => ?_⟩
    have B := B.but b2 nt2 hp2
    clear b2 nt2 hp2
    refine B.gen fun G B => ?_
    wtm_at "rs"
    refine ⟨pp, a, ns, 2, p, c2, 0 + 1 + 1 + 1, b, rfl, B.mAt (a := pp) List.mem_cons_self, fun F b3 => so _ _ B.same b3, by decide, by decide, hlen, by decide, by decide, by omega, by omega, B.nt, fun t c3 G2 dt bt b2 nt2 hp2 => ?_⟩
    have B := B.but b2 nt2 hp2
    clear b2 nt2 hp2
    refine B.gen fun G B => ?_
    wtm_at "rs"
    rename_i c4 e4 e40 e41
    have B := B.put (u := .lst [.int c4, .int (0 + 1 + 1 + 1 + 1 + 1 + 1), .bl b])
    refine B.gen fun G B => ?_
    have bn2 := bn.mono (show 210 ≤ 300 by decide)
    have bt2 := bt.mono (show 210 ≤ 300 by decide)
    refine use_ssm B.nt op (by omega) bn2 dn ?_
    wtm_at "rs"
    refine use_ssm B.nt op (by omega) bt2 dt ?_
    wtm_at "rs"
    rename_i S hS0
    have B := B.newL (o := .lst (([jacS p n, jacS p t] : List Int).map V.int)) hS0
    clear hS0
    refine B.gen fun G B => ?_
    refine use_su8 B.nt op (by omega) bn2 (B.lAt (a := D) (by wtm_at "mem")) ?_
    wtm_at "rs"
    refine use_su8 B.nt op (by omega) bt2 (B.lAt (a := D) (by wtm_at "mem")) ?_
    wtm_at "rs"
    rw [show (PyData.list (List.map PyData.int [jacS p n, jacS p t])).eqv (PyData.list [PyData.int (jacS p n), PyData.int (jacS p t)]) = true from SeqAt.eqv_refl _ (SeqAt.canLay_of_shaped (shaped_ints [jacS p n, jacS p t]))]
    have s0 : 1 ≤ 1 + e4 := by omega
    have s1 : 1 + e4 < p := by omega
    generalize 1 + e4 = sd at *
    have bs : Bd 10 sd := Bd.of (by omega) (by omega)
    have b1 : Bd 220 (n * sd) := bn.mul bs
    have b2 : Bd 230 (n * sd * sd) := b1.mul bs
    have ds : ¬ p ∣ sd := fun z => by
      have := Int.le_of_dvd (by omega) z
      omega
    have dns : ¬ p ∣ n * sd * sd := fun z => (op.1.dvd_mul z).elim (fun z => (op.1.dvd_mul z).elim dn ds) ds
    wtm_at "rs"
    rename_i S2 hS2
    have B := (B.newL (o := .lst [.int (jacS p n), .int (jacS p t)]) hS2).sub (L' := [(S, .lst (([jacS p n, jacS p t] : List Int).map V.int)), (D, .lst (rowV p.toNat fun k => sgn (k : Int) p))]) (by wtm_at "vsub") (fun _ h => h)
    clear hS2
    refine B.gen fun G B => ?_
    refine use_ssm B.nt op (by omega) (b2.mono (by decide)) dns ?_
    have at1 : ∀ x : Int, 0 ≤ x → x < p → atI (rowV p.toNat fun k => sgn (k : Int) p) x = some (.int (sgn x p)) := fun x h1 h2 => by
      obtain ⟨j, rfl⟩ : ∃ j : Nat, x = (j : Int) := ⟨x.toNat, by omega⟩
      exact rowV_at (by omega)
    have jb := fun z => jacS_b (n := z) op
    have sb := fun z => sgn_b (n := z) op
    have bj : ∀ z, Bd 20 (jacS p z) := fun z => by
      have := jb z
      exact Bd.of (by omega) (by omega)
    have bg : ∀ z, Bd 20 (sgn z p) := fun z => by
      have := sb z
      exact Bd.of (by omega) (by omega)
    have bj1 := bj n
    have bg1 := bg sd
    wtm_at "rs"
    refine rd_ixL (SqL.of (B.lAt (a := D) (by wtm_at "mem"))) (at1 _ (by omega) (by omega)) ?_
    wtm_at "rs"
    rw [jacS_scale op ds]
    wtm_at "rs"
    refine two_ways8 (I := fun G => Hv noX H [(pp, .lst [.int c4, .int (0 + 1 + 1 + 1 + 1 + 1 + 1), .bl b])] [(S, .lst (([jacS p n, jacS p t] : List Int).map V.int)), (D, .lst (rowV p.toNat fun k => sgn (k : Int) p))] [] G) (P := ?P2) (fun fin => ?w1) ?w2
    case w1 =>
      by_cases h4 : p % 4 = 3
      · rw [if_pos (decide_eq_true h4)]
        wtm_at "rs"
        rename_i S3 hS3
        have B := (B.newL (o := .lst (([0, 0] : List Int).map V.int)) hS3).sub (L' := [(S3, .lst (([0, 0] : List Int).map V.int)), (S, .lst (([jacS p n, jacS p t] : List Int).map V.int)), (D, .lst (rowV p.toNat fun k => sgn (k : Int) p))]) (by wtm_at "vsub") (fun _ h => h)
        clear hS3
        refine B.gen fun G B => ?_
        rw [show (PyData.list (List.map PyData.int [jacS p n, jacS p t])).eqv (PyData.list [PyData.int 0, PyData.int 0]) = true by rw [jacS_3 op h4, jacS_3 op h4]; exact SeqAt.eqv_refl _ (SeqAt.canLay_of_shaped (shaped_ints [0, 0]))]
        wtm_at "rs"
        refine ⟨p, rfl, B.nt, by omega, fun z => absurd op z, fun _ _ => ?_, fun _ z => absurd z (by omega)⟩
        wtm_at "rs"
        exact fin _ (B.sub (by wtm_at "vsub") (fun _ h => h))
      · rw [if_neg (by rw [decide_eq_true_iff]; exact h4)]
        wtm_at "rs"
        exact fin _ B
    clear B
    intro G B
    wtm_at "rs"
    refine rd_cut (fun σ2 G2 => ∃ v8 : Option V, σ2 = [some (.ref a), some (.ref pp), some (.int p), some (.ref D), some (.int n), some (.int t), some (.int sd), some (.ref S), v8, none] ∧ Hv noX H [(pp, .lst [.int c4, .int (0 + 1 + 1 + 1 + 1 + 1 + 1), .bl b])] [] [] G2) ?_ ?_
    · wtm_at "rs"
      by_cases h4 : p % 4 = 1
      · rw [if_pos (decide_eq_true h4)]
        have hh := jacS_half op h4
        have e1 : jacS p n / 2 = jacH p n := by rw [hh]; omega
        have e2 : jacS p t / 2 = jacH p t := by rw [hh]; omega
        have bh : ∀ z, Bd 20 (jacH p z) := fun z => by
          have := jb z
          have := hh z
          exact Bd.of (by omega) (by omega)
        have bh1 := bh n
        have bh2 := bh t
        wtm_at "rs"
        rw [e1, e2]
        wtm_at "rs"
        rename_i S4 hS4 S5 hS5
        rw [e1, e2] at hS5
        have B := ((B.newL (o := .lst [.int (jacH p n), .int (jacH p t)]) hS4).newL (o := .lst [.int (2 * jacH p n), .int (2 * jacH p t)]) hS5).sub (L' := [(S4, .lst [.int (jacH p n), .int (jacH p t)]), (D, .lst (rowV p.toNat fun k => sgn (k : Int) p))]) (by wtm_at "vsub") (fun _ h => h)
        clear hS4 hS5
        refine B.gen fun G B => ?_
        rw [show (PyData.list (List.map PyData.int [jacS p n, jacS p t])).eqv (PyData.list [PyData.int (2 * jacH p n), PyData.int (2 * jacH p t)]) = true by rw [hh, hh]; exact SeqAt.eqv_refl _ (SeqAt.canLay_of_shaped (shaped_ints [2 * jacH p n, 2 * jacH p t]))]
        wtm_at "rs"
        refine rd_ixL (SqL.of (B.lAt (a := D) (by wtm_at "mem"))) (at1 _ (Int.emod_nonneg _ (by omega)) (Int.emod_lt_of_pos _ (by omega))) ?_
        wtm_at "rs"
        refine rd_ixL (SqL.of (B.lAt (a := D) (by wtm_at "mem"))) (at1 _ (Int.emod_nonneg _ (by omega)) (Int.emod_lt_of_pos _ (by omega))) ?_
        have sc : ∀ x, sgn (x % p) p = sgn x p := fun x => sgn_clk op x
        rw [sc, sc]
        wtm_at "rs"
        refine two_ways8 (I := fun G => Hv noX H [(pp, .lst [.int c4, .int (0 + 1 + 1 + 1 + 1 + 1 + 1), .bl b])] [] [] G) (P := ?P4) (fun fin => ?w5) ?w6
        case w5 =>
          refine B.gen fun G B => ?_
          by_cases es : sgn n p = sgn t p
          · rw [show (!decide (sgn n p = sgn t p)) = false by simp [es]]
            wtm_at "rs"
            exact fin _ (B.sub (fun _ h => absurd h List.not_mem_nil) (fun _ h => h))
          · rw [show (!decide (sgn n p = sgn t p)) = true by simp [es]]
            have an := sgn_away op (fun z => dn (Int.dvd_of_emod_eq_zero z))
            have at2 := sgn_away op (fun z => dt (Int.dvd_of_emod_eq_zero z))
            have hp : jacH p n * jacH p n + jacH p t * jacH p t = p := by
              rcases an with y1 | y1 <;> rcases at2 with y2 | y2
              · exact absurd (y1.trans y2.symm) es
              · exact jacH_prime op h4 y1 y2
              · have := jacH_prime op h4 y2 y1
                omega
              · exact absurd (y1.trans y2.symm) es
            wtm_at "rs"
            exact fin _ (B.sub (fun _ h => absurd h List.not_mem_nil) (fun _ h => h))
        clear B
        intro G B
        wtm_at "rs"
        refine ⟨p, rfl, B.nt, by omega, fun z => absurd op z, fun _ z => absurd z (by omega), fun _ _ r u r0 hr hu => ?_⟩
        have B := B.newL (o := .tup [.int ((jacH p (-1)).natAbs : Int), .int r]) hu
        clear hu
        refine B.gen fun G B => ?_
        wtm_at "rs"
        have ho := jacH_odd op h4
        have hsq : ((jacH p (-1)).natAbs : Int) * ((jacH p (-1)).natAbs : Int) + r * r = p := by
          rw [Int.natAbs_mul_self' (jacH p (-1))]
          exact hr
        have rn : r ≠ 0 := fun z => by
          rw [z, Int.mul_zero, Int.add_zero] at hr
          have d : p ∣ jacH p (-1) := (op.1.dvd_mul (by rw [hr]; exact Int.dvd_refl p)).elim id id
          obtain ⟨c, hc⟩ := d
          rw [hc] at hr
          have e : p * (c * c * p) = p * 1 := by rw [Int.mul_one]; refine Eq.trans ?_ hr; grind
          have e := Int.eq_of_mul_eq_mul_left (by omega) e
          have d : p ∣ 1 := ⟨c * c, by rw [← e, Int.mul_comm]⟩
          have := Int.le_of_dvd (by decide) d
          omega
        refine ⟨p, ((jacH p (-1)).natAbs : Int), r, rfl, op, by omega, by omega, by omega, r0, rn, hsq, fun u2 hu2 => ?_⟩
        have B := B.newL (o := .tup [.int ((jacH p (-1)).natAbs : Int), .int r]) hu2
        clear hu2
        refine B.gen fun G B => ?_
        wtm_at "rs"
        rw [SeqAt.eqv_refl (PyData.tuple [PyData.int ((jacH p (-1)).natAbs : Int), PyData.int r]) (SeqAt.canLay_of_shaped (by first | rfl | simp [SeqAt.shaped]))]
        wtm_at "rs"
        exact ⟨_, rfl, B.sub (fun _ h => absurd h List.not_mem_nil) (fun _ h => h)⟩
      · rw [if_neg (by rw [decide_eq_true_iff]; exact h4)]
        wtm_at "rs"
        exact ⟨_, rfl, B.sub (fun _ h => absurd h List.not_mem_nil) (fun _ h => h)⟩
    clear B
    rintro σ2 G ⟨v8, rfl, B⟩
    wtm_at "rs"
    rename_i p0 hp0 c7 e7 e70 e71
    have B := (B.newL (o := .lst (([2, 1, 0, -p, 9, 2 * p, 49, 15] : List Int).map V.int)) hp0).put (u := .lst [.int c7, .int (0 + 1 + 1 + 1 + 1 + 1 + 1 + 1), .bl b])
    clear hp0
    obtain ⟨z, hz, ez⟩ := ix_in (ns := [2, 1, 0, -p, 9, 2 * p, 49, 15]) e70 e71
    refine rd_ixL (SqL.of (B.lAt (a := p0) (by wtm_at "mem"))) ez ?_
    obtain ⟨nz, zb⟩ := bad8 op p2 hz
    have B := B.sub (L' := []) (fun _ h => absurd h List.not_mem_nil) (fun _ h => h)
    clear ez hz
    refine B.gen fun G B => ?_
    wtm_at "rs"
    refine use_ref8 B.nt zb bn2 (fun _ h => nz h.1) (fun _ => nz) ?_
    wtm_at "rs"
    refine use_ref8 B.nt zb bn2 (fun _ h => nz h.1) (fun _ => nz) ?_
    have bp : Bd 20 p := Bd.of (by omega) (by omega)
    wtm_at "rs"
    rename_i c8 e8 e80 e81
    have B := B.put (u := .lst [.int c8, .int (0 + 1 + 1 + 1 + 1 + 1 + 1 + 1 + 1), .bl b])
    refine use_ref8 B.nt (by omega) ((bp.mul (Bd.of (n := 20) (by omega) (by omega))).mono (by decide)) (fun _ h => h.2 ⟨e8, rfl⟩) (fun h => absurd rfl h) ?_
    exact kq _
end
/-! ## what the top has left, and the end -/
theorem all_mk {P : Program} {w : World} {K : PySem.W.Frag} {h : Heap} {mg : Str → Option Value} {fa : Addr} (X : K.In h) (G : h.Ns mainGlobals mg) (hfa : mg "law" = some (.ref fa))
    {f0 : Addr} {od0 an0 : Option Addr} {sl0 : Array (Option Value)} {oc0 kV0 dc0 pm0 cd0 ct0 : Value}
    {f1 : Addr} {od1 an1 : Option Addr} {sl1 : Array (Option Value)} {oc1 kV1 dc1 pm1 cd1 ct1 : Value}
    {f2 : Addr} {od2 an2 : Option Addr} {sl2 : Array (Option Value)} {oc2 kV2 dc2 pm2 cd2 ct2 : Value}
    {f3 : Addr} {od3 an3 : Option Addr} {sl3 : Array (Option Value)} {oc3 kV3 dc3 pm3 cd3 ct3 : Value}
    {f4 : Addr} {od4 an4 : Option Addr} {sl4 : Array (Option Value)} {oc4 kV4 dc4 pm4 cd4 ct4 : Value}
    {f5 : Addr} {od5 an5 : Option Addr} {sl5 : Array (Option Value)} {oc5 kV5 dc5 pm5 cd5 ct5 : Value}
    {f6 : Addr} {od6 an6 : Option Addr} {sl6 : Array (Option Value)} {oc6 kV6 dc6 pm6 cd6 ct6 : Value}
    {f7 : Addr} {od7 an7 : Option Addr} {sl7 : Array (Option Value)} {oc7 kV7 dc7 pm7 cd7 ct7 : Value}
    {f8 : Addr} {od8 an8 : Option Addr} {sl8 : Array (Option Value)} {oc8 kV8 dc8 pm8 cd8 ct8 : Value}
    {f9 : Addr} {od9 an9 : Option Addr} {sl9 : Array (Option Value)} {oc9 kV9 dc9 pm9 cd9 ct9 : Value}
    {f10 : Addr} {od10 an10 : Option Addr} {sl10 : Array (Option Value)} {oc10 kV10 dc10 pm10 cd10 ct10 : Value}
    {f11 : Addr} {od11 an11 : Option Addr} {sl11 : Array (Option Value)} {oc11 kV11 dc11 pm11 cd11 ct11 : Value}
    {f12 : Addr} {od12 an12 : Option Addr} {sl12 : Array (Option Value)} {oc12 kV12 dc12 pm12 cd12 ct12 : Value}
    {f13 : Addr} {od13 an13 : Option Addr} {sl13 : Array (Option Value)} {oc13 kV13 dc13 pm13 cd13 ct13 : Value}
    {f14 : Addr} {od14 an14 : Option Addr} {sl14 : Array (Option Value)} {oc14 kV14 dc14 pm14 cd14 ct14 : Value}
    {f15 : Addr} {od15 an15 : Option Addr} {sl15 : Array (Option Value)} {oc15 kV15 dc15 pm15 cd15 ct15 : Value}
    {f16 : Addr} {od16 an16 : Option Addr} {sl16 : Array (Option Value)} {oc16 kV16 dc16 pm16 cd16 ct16 : Value}
    {CB : Addr}
    {C0 g0 N0 : Addr} {nm0 qq0 : Str} {bs0 bm0 : List Value} {sn0 : List Str} {sub0 : List Value} {ab0 : Bool} {col0 : Option Bool} {dd0 : Option Addr} {m00 m10 m20 m30 m50 : Option Value} {odE0 anE0 : Option Addr} {slE0 : Array (Option Value)} {ocE0 kVE0 dcE0 pmE0 cdE0 ctE0 : Value}
    (z_abs : PySem.W.nsIn K mainGlobals "abs" = some none)
    (z_int : PySem.W.nsIn K mainGlobals "int" = some none)
    (z_len : PySem.W.nsIn K mainGlobals "len" = some none)
    (z_max : PySem.W.nsIn K mainGlobals "max" = some none)
    (z_range : PySem.W.nsIn K mainGlobals "range" = some none)
    (z_sum : PySem.W.nsIn K mainGlobals "sum" = some none)
    (a0 : PySem.W.nsIn K mainGlobals "_law_cell" = some (some (.ref f0)))
    (l0 : K.lookup f0 = some ⟨oc0, od0, .func (PySem.W.fnOf "_law_cell" "_law_cell" (defArgs s_law_cell) (defBody s_law_cell) (defScope s_law_cell) .none kV0 dc0 pm0 an0 cd0 ct0), sl0⟩)
    (c0 : PySem.W.codeIn K cd0 "_law_cell" = true)
    (k0 : PySem.W.keepIn K (.ref f0) = true)
    (a1 : PySem.W.nsIn K mainGlobals "_law_is_odd_prime" = some (some (.ref f1)))
    (l1 : K.lookup f1 = some ⟨oc1, od1, .func (PySem.W.fnOf "_law_is_odd_prime" "_law_is_odd_prime" (defArgs s_law_is_odd_prime) (defBody s_law_is_odd_prime) (defScope s_law_is_odd_prime) .none kV1 dc1 pm1 an1 cd1 ct1), sl1⟩)
    (c1 : PySem.W.codeIn K cd1 "_law_is_odd_prime" = true)
    (k1 : PySem.W.keepIn K (.ref f1) = true)
    (a2 : PySem.W.nsIn K mainGlobals "_law_next_prime" = some (some (.ref f2)))
    (l2 : K.lookup f2 = some ⟨oc2, od2, .func (PySem.W.fnOf "_law_next_prime" "_law_next_prime" (defArgs s_law_next_prime) (defBody s_law_next_prime) (defScope s_law_next_prime) .none kV2 dc2 pm2 an2 cd2 ct2), sl2⟩)
    (c2 : PySem.W.codeIn K cd2 "_law_next_prime" = true)
    (k2 : PySem.W.keepIn K (.ref f2) = true)
    (a3 : PySem.W.nsIn K mainGlobals "_law_take" = some (some (.ref f3)))
    (l3 : K.lookup f3 = some ⟨oc3, od3, .func (PySem.W.fnOf "_law_take" "_law_take" (defArgs s_law_take) (defBody s_law_take) (defScope s_law_take) .none kV3 dc3 pm3 an3 cd3 ct3), sl3⟩)
    (c3 : PySem.W.codeIn K cd3 "_law_take" = true)
    (k3 : PySem.W.keepIn K (.ref f3) = true)
    (a4 : PySem.W.nsIn K mainGlobals "_law_number" = some (some (.ref f4)))
    (l4 : K.lookup f4 = some ⟨oc4, od4, .func (PySem.W.fnOf "_law_number" "_law_number" (defArgs s_law_number) (defBody s_law_number) (defScope s_law_number) .none kV4 dc4 pm4 an4 cd4 ct4), sl4⟩)
    (c4 : PySem.W.codeIn K cd4 "_law_number" = true)
    (k4 : PySem.W.keepIn K (.ref f4) = true)
    (a5 : PySem.W.nsIn K mainGlobals "_law_pool" = some (some (.ref f5)))
    (l5 : K.lookup f5 = some ⟨oc5, od5, .func (PySem.W.fnOf "_law_pool" "_law_pool" (defArgs s_law_pool) (defBody s_law_pool) (defScope s_law_pool) .none kV5 dc5 pm5 an5 cd5 ct5), sl5⟩)
    (c5 : PySem.W.codeIn K cd5 "_law_pool" = true)
    (k5 : PySem.W.keepIn K (.ref f5) = true)
    (a6 : PySem.W.nsIn K mainGlobals "is_prime" = some (some (.ref f6)))
    (l6 : K.lookup f6 = some ⟨oc6, od6, .func (PySem.W.fnOf "is_prime" "is_prime" (defArgs s_is_prime) (defBody s_is_prime) (defScope s_is_prime) .none kV6 dc6 pm6 an6 cd6 ct6), sl6⟩)
    (c6 : PySem.W.codeIn K cd6 "is_prime" = true)
    (k6 : PySem.W.keepIn K (.ref f6) = true)
    (a7 : PySem.W.nsIn K mainGlobals "checked_prime" = some (some (.ref f7)))
    (l7 : K.lookup f7 = some ⟨oc7, od7, .func (PySem.W.fnOf "checked_prime" "checked_prime" (defArgs s_checked_prime) (defBody s_checked_prime) (defScope s_checked_prime) .none kV7 dc7 pm7 an7 cd7 ct7), sl7⟩)
    (c7 : PySem.W.codeIn K cd7 "checked_prime" = true)
    (k7 : PySem.W.keepIn K (.ref f7) = true)
    (a8 : PySem.W.nsIn K mainGlobals "signs_of_hours" = some (some (.ref f8)))
    (l8 : K.lookup f8 = some ⟨oc8, od8, .func (PySem.W.fnOf "signs_of_hours" "signs_of_hours" (defArgs s_signs_of_hours) (defBody s_signs_of_hours) (defScope s_signs_of_hours) .none kV8 dc8 pm8 an8 cd8 ct8), sl8⟩)
    (c8 : PySem.W.codeIn K cd8 "signs_of_hours" = true)
    (k8 : PySem.W.keepIn K (.ref f8) = true)
    (a9 : PySem.W.nsIn K mainGlobals "sign_sum" = some (some (.ref f9)))
    (l9 : K.lookup f9 = some ⟨oc9, od9, .func (PySem.W.fnOf "sign_sum" "sign_sum" (defArgs s_sign_sum) (defBody s_sign_sum) (defScope s_sign_sum) .none kV9 dc9 pm9 an9 cd9 ct9), sl9⟩)
    (c9 : PySem.W.codeIn K cd9 "sign_sum" = true)
    (k9 : PySem.W.keepIn K (.ref f9) = true)
    (a10 : PySem.W.nsIn K mainGlobals "side_of" = some (some (.ref f10)))
    (l10 : K.lookup f10 = some ⟨oc10, od10, .func (PySem.W.fnOf "side_of" "side_of" (defArgs s_side_of) (defBody s_side_of) (defScope s_side_of) .none kV10 dc10 pm10 an10 cd10 ct10), sl10⟩)
    (c10 : PySem.W.codeIn K cd10 "side_of" = true)
    (k10 : PySem.W.keepIn K (.ref f10) = true)
    (a11 : PySem.W.nsIn K mainGlobals "two_squares" = some (some (.ref f11)))
    (l11 : K.lookup f11 = some ⟨oc11, od11, .func (PySem.W.fnOf "two_squares" "two_squares" (defArgs s_two_squares) (defBody s_two_squares) (defScope s_two_squares) .none kV11 dc11 pm11 an11 cd11 ct11), sl11⟩)
    (c11 : PySem.W.codeIn K cd11 "two_squares" = true)
    (k11 : PySem.W.keepIn K (.ref f11) = true)
    (a12 : PySem.W.nsIn K mainGlobals "_law_refused" = some (some (.ref f12)))
    (l12 : K.lookup f12 = some ⟨oc12, od12, .func (PySem.W.fnOf "_law_refused" "_law_refused" (defArgs s_law_refused) (defBody s_law_refused) (defScope s_law_refused) .none kV12 dc12 pm12 an12 cd12 ct12), sl12⟩)
    (c12 : PySem.W.codeIn K cd12 "_law_refused" = true)
    (k12 : PySem.W.keepIn K (.ref f12) = true)
    (a13 : PySem.W.nsIn K mainGlobals "_law_sides" = some (some (.ref f13)))
    (l13 : K.lookup f13 = some ⟨oc13, od13, .func (PySem.W.fnOf "_law_sides" "_law_sides" (defArgs s_law_sides) (defBody s_law_sides) (defScope s_law_sides) .none kV13 dc13 pm13 an13 cd13 ct13), sl13⟩)
    (c13 : PySem.W.codeIn K cd13 "_law_sides" = true)
    (k13 : PySem.W.keepIn K (.ref f13) = true)
    (a14 : PySem.W.nsIn K mainGlobals "_law_signs" = some (some (.ref f14)))
    (l14 : K.lookup f14 = some ⟨oc14, od14, .func (PySem.W.fnOf "_law_signs" "_law_signs" (defArgs s_law_signs) (defBody s_law_signs) (defScope s_law_signs) .none kV14 dc14 pm14 an14 cd14 ct14), sl14⟩)
    (c14 : PySem.W.codeIn K cd14 "_law_signs" = true)
    (k14 : PySem.W.keepIn K (.ref f14) = true)
    (a15 : PySem.W.nsIn K mainGlobals "_law_sum" = some (some (.ref f15)))
    (l15 : K.lookup f15 = some ⟨oc15, od15, .func (PySem.W.fnOf "_law_sum" "_law_sum" (defArgs s_law_sum) (defBody s_law_sum) (defScope s_law_sum) .none kV15 dc15 pm15 an15 cd15 ct15), sl15⟩)
    (c15 : PySem.W.codeIn K cd15 "_law_sum" = true)
    (k15 : PySem.W.keepIn K (.ref f15) = true)
    (a16 : PySem.W.nsIn K mainGlobals "law" = some (some (.ref f16)))
    (l16 : K.lookup f16 = some ⟨oc16, od16, .func (PySem.W.fnOf "law" "law" (defArgs s_law) (defBody s_law) (defScope s_law) .none kV16 dc16 pm16 an16 cd16 ct16), sl16⟩)
    (c16 : PySem.W.codeIn K cd16 "law" = true)
    (k16 : PySem.W.keepIn K (.ref f16) = true)
    (gB : PySem.W.nsIn K mainGlobals "ClockError" = some (some (.ref CB)))
    (rB : PySem.W.readsIn K CB (.type "type") = true)
    (aB : PySem.W.specialIn K (.ref CB) "__getattribute__" = some (some (.builtin "type.__getattribute__")))
    (iB : PySem.W.findCls K (.ref CB) (.type "type") "__init__" = some (.val (.builtin "ValueError.__init__")))
    (eg0 : PySem.W.nsIn K mainGlobals "BadPrime" = some (some (.ref C0)))
    (ex0 : K.lookup C0 = some (excClassObj nm0 qq0 C0 N0 bs0 bm0 true sn0 sub0 ab0 col0 dd0 m00 m10 m20 m30 m50 "ValueError.__new__"))
    (eb0 : PySem.HandSPX.refsVE bm0 = true)
    (es0 : PySem.W.findIn K (.ref C0) "__setattr__" = some (some (.builtin "object.__setattr__")))
    (ee0 : PySem.W.subIn K (.ref C0) (.type "BaseException") = some true)
    (et0 : PySem.W.typeIn K (.ref C0) = some (.type "type"))
    (ek0 : PySem.W.keepIn K (.ref C0) = true)
    (ega0 : PySem.W.findIn K (.ref C0) "__getattribute__" = some (some (.builtin "BaseException.__getattribute__")))
    (egg0 : PySem.W.findIn K (.ref C0) "__getattr__" = some none)
    (eh0 : PySem.W.hasDictIn K C0 = true)
    (ei0 : PySem.W.isClsIn K C0 = true)
    (eu0 : PySem.W.subIn K (.ref C0) (.ref C0) = some true)
    (ef0 : PySem.W.findIn K (.ref C0) "__init__" = some (some (.ref g0)))
    (ey0 : PySem.W.typeIn K (.ref g0) = some (.type "function"))
    (el0 : K.lookup g0 = some ⟨ocE0, odE0, .func (PySem.W.fnOf "__init__" "BadPrime.__init__" (defArgs s_BadPrime_init) (defBody s_BadPrime_init) (defScope s_BadPrime_init) .none kVE0 dcE0 pmE0 anE0 cdE0 ctE0), slE0⟩)
    (ec0 : PySem.W.codeIn K cdE0 "BadPrime.__init__" = true)
    (ej0 : PySem.W.keepIn K (.ref g0) = true)
    (en0_p : PySem.W.findIn K (.ref C0) "p" = some none) :
    ∃ fd : FuncData, (∀ (s : Shared) (v : Value), BindsTo s fd ⟨[v], []⟩ [("_law_script", v)]) ∧ ∀ base : Heap, K.In base → base.Ns mainGlobals mg → FnOk P w K mg base (L2.CX P w) 7 fa fd ["_law_script"] (spLaw K) := by
  have e := hfa.symm.trans (PySem.W.mg_of X G a16)
  cases e
  have F0 := fun_mk (st := s_law_cell) l0 c0 k0
  have b0 := F0.binds (ps := ["_law_script", "_law_k"]) fun _ _ _ _ _ _ us hl => match us, hl with | [_, _], _ => rfl
  have F1 := fun_mk (st := s_law_is_odd_prime) l1 c1 k1
  have b1 := F1.binds (ps := ["_law_n"]) fun _ _ _ _ _ _ us hl => match us, hl with | [_], _ => rfl
  have F2 := fun_mk (st := s_law_next_prime) l2 c2 k2
  have b2 := F2.binds (ps := ["_law_n"]) fun _ _ _ _ _ _ us hl => match us, hl with | [_], _ => rfl
  have F3 := fun_mk (st := s_law_take) l3 c3 k3
  have b3 := F3.binds (ps := ["_law_pool_here", "_law_limit"]) fun _ _ _ _ _ _ us hl => match us, hl with | [_, _], _ => rfl
  have F4 := fun_mk (st := s_law_number) l4 c4 k4
  have b4 := F4.binds (ps := ["_law_pool_here", "_law_script", "_law_k", "_law_p"]) fun _ _ _ _ _ _ us hl => match us, hl with | [_, _, _, _], _ => rfl
  have F5 := fun_mk (st := s_law_pool) l5 c5 k5
  have b5 := F5.binds (ps := ["_law_cell_here"]) fun _ _ _ _ _ _ us hl => match us, hl with | [_], _ => rfl
  have F6 := fun_mk (st := s_is_prime) l6 c6 k6
  have b6 := F6.binds (ps := ["n"]) fun _ _ _ _ _ _ us hl => match us, hl with | [_], _ => rfl
  have F7 := fun_mk (st := s_checked_prime) l7 c7 k7
  have b7 := F7.binds (ps := ["p"]) fun _ _ _ _ _ _ us hl => match us, hl with | [_], _ => rfl
  have F8 := fun_mk (st := s_signs_of_hours) l8 c8 k8
  have b8 := F8.binds (ps := ["p"]) fun _ _ _ _ _ _ us hl => match us, hl with | [_], _ => rfl
  have F9 := fun_mk (st := s_sign_sum) l9 c9 k9
  have b9 := F9.binds (ps := ["n", "p"]) fun _ _ _ _ _ _ us hl => match us, hl with | [_, _], _ => rfl
  have F10 := fun_mk (st := s_side_of) l10 c10 k10
  have b10 := F10.binds (ps := ["square"]) fun _ _ _ _ _ _ us hl => match us, hl with | [_], _ => rfl
  have F11 := fun_mk (st := s_two_squares) l11 c11 k11
  have b11 := F11.binds (ps := ["p"]) fun _ _ _ _ _ _ us hl => match us, hl with | [_], _ => rfl
  have F12 := fun_mk (st := s_law_refused) l12 c12 k12
  have b12 := F12.binds (ps := ["_law_which", "_law_n", "_law_p"]) fun _ _ _ _ _ _ us hl => match us, hl with | [_, _, _], _ => rfl
  have F13 := fun_mk (st := s_law_sides) l13 c13 k13
  have b13 := F13.binds (ps := ["_law_p"]) fun _ _ _ _ _ _ us hl => match us, hl with | [_], _ => rfl
  have F14 := fun_mk (st := s_law_signs) l14 c14 k14
  have b14 := F14.binds (ps := ["_law_p"]) fun _ _ _ _ _ _ us hl => match us, hl with | [_], _ => rfl
  have F15 := fun_mk (st := s_law_sum) l15 c15 k15
  have b15 := F15.binds (ps := ["_law_n", "_law_p", "_law_signs_here"]) fun _ _ _ _ _ _ us hl => match us, hl with | [_, _, _], _ => rfl
  have F16 := fun_mk (st := s_law) l16 c16 k16
  have G0 := fun_mk (st := s_BadPrime_init) el0 ec0 ej0
  have bG0 := G0.binds (ps := ["self", "p"]) fun _ _ _ _ _ _ us hl => match us, hl with | [_, _], _ => rfl
  have T : Txt K mg ⟨C0, CB⟩ := {
    b_abs := PySem.W.mg_none_of X G z_abs
    b_int := PySem.W.mg_none_of X G z_int
    b_len := PySem.W.mg_none_of X G z_len
    b_max := PySem.W.mg_none_of X G z_max
    b_range := PySem.W.mg_none_of X G z_range
    b_sum := PySem.W.mg_none_of X G z_sum
    d_law_cell := ⟨_, _, F0, PySem.W.mg_of X G a0, b0⟩
    d_law_is_odd_prime := ⟨_, _, F1, PySem.W.mg_of X G a1, b1⟩
    d_law_next_prime := ⟨_, _, F2, PySem.W.mg_of X G a2, b2⟩
    d_law_take := ⟨_, _, F3, PySem.W.mg_of X G a3, b3⟩
    d_law_number := ⟨_, _, F4, PySem.W.mg_of X G a4, b4⟩
    d_law_pool := ⟨_, _, F5, PySem.W.mg_of X G a5, b5⟩
    d_is_prime := ⟨_, _, F6, PySem.W.mg_of X G a6, b6⟩
    d_checked_prime := ⟨_, _, F7, PySem.W.mg_of X G a7, b7⟩
    d_signs_of_hours := ⟨_, _, F8, PySem.W.mg_of X G a8, b8⟩
    d_sign_sum := ⟨_, _, F9, PySem.W.mg_of X G a9, b9⟩
    d_side_of := ⟨_, _, F10, PySem.W.mg_of X G a10, b10⟩
    d_two_squares := ⟨_, _, F11, PySem.W.mg_of X G a11, b11⟩
    d_law_refused := ⟨_, _, F12, PySem.W.mg_of X G a12, b12⟩
    d_law_sides := ⟨_, _, F13, PySem.W.mg_of X G a13, b13⟩
    d_law_signs := ⟨_, _, F14, PySem.W.mg_of X G a14, b14⟩
    d_law_sum := ⟨_, _, F15, PySem.W.mg_of X G a15, b15⟩
    base := ⟨PySem.W.mg_of X G gB, rB, aB, iB⟩
    r_BadPrime := ⟨PySem.W.mg_of X G eg0, ⟨⟨_, _, _, _, _, _, _, _, _, _, _, _, _, _, _, ex0, eb0⟩, es0, ee0, et0, ek0⟩, ⟨ega0, egg0, ee0, eh0⟩, exm_self ee0 ei0 et0 eu0, ⟨_, _, ef0, ey0, G0, bG0⟩⟩
    no_BadPrime_p := en0_p
    triv := trivial }
  exact ⟨_, fun s v => .of_eq rfl, fun base _ _ => ok_law (base := base) F16 T⟩
theorem walk {l : PySem.W.OpenLaw} {q : Program} {loose : List Str} {XP : (Str → Option Value) → Heap → Prop} {YP : World → Heap → Prop} {d : DefRec} {K : Params → PySem.W.Frag} (hn : l.most = some 63) (hdf : d.params.defaults = [])
    (hY : ∀ (w : World) (h : Heap), YP w h → (K w.params).In h)
    (F : ∀ (w : World) (mg : Str → Option Value) (fa : Addr) (h : Heap), (K w.params).In h → h.Ns mainGlobals mg → mg d.name = some (.ref fa) →
      ∃ fd : FuncData, (∀ (s : Shared) (u : Value), BindsTo s fd ⟨[u], []⟩ [("_law_script", u)]) ∧ ∀ base : Heap, (K w.params).In base → base.Ns mainGlobals mg → FnOk l.prog w (K w.params) mg base (L2.CX l.prog w) 7 fa fd ["_law_script"] (spLaw (K w.params))) :
    PySem.W.WalkO q loose XP YP l.row.toRowW d [] (fun f vs => PySem.call f vs) :=
  L2.walk_of (n := 63) (k := 7) (x := "_law_script") (CX := fun w => L2.CX l.prog w) (sp := fun w => spLaw (K w.params)) hn (by decide) hdf ⟨rfl, by decide, by decide⟩ hY F (fun _ _ a ns hl hO hS => ⟨a, ns, rfl, hS, hl, NoT.only hO, fun _ => rfl⟩) fun _ _ _ _ _ h => by
    obtain ⟨_, _, _, _, _, _, _, _, _, _, _, _, z⟩ := h
    exact z.elim
end My
open PySem PySem.W PyProof.Rows
set_option maxRecDepth 100000 in
set_option maxHeartbeats 0 in
theorem PySem.Challenge.cw_everyprime_k08_whole_sums_that_make_squa_holds : PySem.Challenge.rw_everyprime_k08_whole_sums_that_make_squa.Holds := by
  w_on; o_law; k_head; (case hw => w_witness2)
  k_fill
  refine My.walk (l := PySem.Challenge.rw_everyprime_k08_whole_sums_that_make_squa) rfl rfl (fun w h Y => PySem.W.kIn_of Y) ?F
  case F =>
    intro w mg fa h KX G hmg
    refine' My.all_mk KX G hmg ?z_abs ?z_int ?z_len ?z_max ?z_range ?z_sum ?a0 ?l0 ?c0 ?k0 ?a1 ?l1 ?c1 ?k1 ?a2 ?l2 ?c2 ?k2 ?a3 ?l3 ?c3 ?k3 ?a4 ?l4 ?c4 ?k4 ?a5 ?l5 ?c5 ?k5 ?a6 ?l6 ?c6 ?k6 ?a7 ?l7 ?c7 ?k7 ?a8 ?l8 ?c8 ?k8 ?a9 ?l9 ?c9 ?k9 ?a10 ?l10 ?c10 ?k10 ?a11 ?l11 ?c11 ?k11 ?a12 ?l12 ?c12 ?k12 ?a13 ?l13 ?c13 ?k13 ?a14 ?l14 ?c14 ?k14 ?a15 ?l15 ?c15 ?k15 ?a16 ?l16 ?c16 ?k16 ?gB ?rB ?aB ?iB ?eg0 ?ex0 ?eb0 ?es0 ?ee0 ?et0 ?ek0 ?ega0 ?egg0 ?eh0 ?ei0 ?eu0 ?ef0 ?ey0 ?el0 ?ec0 ?ej0 ?en0_p
    (case z_abs => k_is)
    (case z_int => k_is)
    (case z_len => k_is)
    (case z_max => k_is)
    (case z_range => k_is)
    (case z_sum => k_is)
    (case a0 => k_is)
    (case l0 => k_is)
    (case c0 => k_is)
    (case k0 => k_is)
    (case a1 => k_is)
    (case l1 => k_is)
    (case c1 => k_is)
    (case k1 => k_is)
    (case a2 => k_is)
    (case l2 => k_is)
    (case c2 => k_is)
    (case k2 => k_is)
    (case a3 => k_is)
    (case l3 => k_is)
    (case c3 => k_is)
    (case k3 => k_is)
    (case a4 => k_is)
    (case l4 => k_is)
    (case c4 => k_is)
    (case k4 => k_is)
    (case a5 => k_is)
    (case l5 => k_is)
    (case c5 => k_is)
    (case k5 => k_is)
    (case a6 => k_is)
    (case l6 => k_is)
    (case c6 => k_is)
    (case k6 => k_is)
    (case a7 => k_is)
    (case l7 => k_is)
    (case c7 => k_is)
    (case k7 => k_is)
    (case a8 => k_is)
    (case l8 => k_is)
    (case c8 => k_is)
    (case k8 => k_is)
    (case a9 => k_is)
    (case l9 => k_is)
    (case c9 => k_is)
    (case k9 => k_is)
    (case a10 => k_is)
    (case l10 => k_is)
    (case c10 => k_is)
    (case k10 => k_is)
    (case a11 => k_is)
    (case l11 => k_is)
    (case c11 => k_is)
    (case k11 => k_is)
    (case a12 => k_is)
    (case l12 => k_is)
    (case c12 => k_is)
    (case k12 => k_is)
    (case a13 => k_is)
    (case l13 => k_is)
    (case c13 => k_is)
    (case k13 => k_is)
    (case a14 => k_is)
    (case l14 => k_is)
    (case c14 => k_is)
    (case k14 => k_is)
    (case a15 => k_is)
    (case l15 => k_is)
    (case c15 => k_is)
    (case k15 => k_is)
    (case a16 => k_is)
    (case l16 => k_is)
    (case c16 => k_is)
    (case k16 => k_is)
    (case gB => k_is)
    (case rB => k_is)
    (case aB => k_is)
    (case iB => k_is)
    (case eg0 => k_is)
    (case ex0 => k_is)
    (case eb0 => decide +kernel)
    (case es0 => k_is)
    (case ee0 => k_is)
    (case et0 => k_is)
    (case ek0 => k_is)
    (case ega0 => k_is)
    (case egg0 => k_is)
    (case eh0 => k_is)
    (case ei0 => k_is)
    (case eu0 => first | rfl | k_is)
    (case ef0 => k_is)
    (case ey0 => k_is)
    (case el0 => k_is)
    (case ec0 => k_is)
    (case ej0 => k_is)
    (case en0_p => k_is)
#print axioms PySem.Challenge.cw_everyprime_k08_whole_sums_that_make_squa_holds
