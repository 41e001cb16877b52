import PyProof.Rows.All
import Wide.All
import OpenK.AllK
import Wide.FinOn
import HandS.Base
import HandS.Call
import HandS.List
import HandS.Ends
import HandS.Words
import HandS.Wide
import HandS.WordsList
import HandS.Comp
import HandS.Exc
import HandS.ExcOwn
import HandS.TryOnly
import HandS.WordsExc
import HandS.ExcInit
import HandS.ExcField
import HandS.ClsMeth
import HandS.Codes
import HandS.NoneIn
import HandS.IsInst
import HandS.SortInts
import HandS.Style
import HandS.Star
import HandS.FStr
import HandS.Iter
import HandS.Dict
import HandS.Walk
import HandS.Strs
import HandS.SetBool
import HandS.SetIn
import HandS.TryMany
import HandS.More
import HandS.DictComp
import HandS.Deep
import KE.KOpsOwn
import HandS.Small
import HandS.TupAny
import HandS.SetFor
import HandS.SortRule
import PySem.Challenge.RW_everyprime_k98_whole_numbers_of_ways
set_option Elab.async false
set_option linter.all false
set_option maxRecDepth 100000
set_option maxHeartbeats 4000000
namespace L2
open PySem PySem.Spec PyProof.Rows
/-- one step of a reading, found by its head -/
class Stp (G : Prop) (N : outParam Prop) : Prop where
  mp : N → G
/-! ### forgetting what was made on the way -/
/-- no dict with tuple keys is tracked -/
def noT : HO -> Bool
  | .dT _ => false
  | .frz _ u => noT u
  | _ => true
def NoT (H : Hp) : Prop := ∀ a o, H a = some o → noT o = true
theorem NoT.upd {H : Hp} {p : Addr} {o : HO} (n : NoT H) (h : noT o = true) : NoT (upd H p o) := fun a u e => by
  by_cases hb : a = p
  · subst hb
    rw [upd_same] at e
    cases e
    exact h
  · rw [upd_ne hb] at e
    exact n a u e
theorem obj_back {P : Program} {w : World} {H H' : Hp} {h h' : Heap} {a : Addr} : ∀ {o : HO}, noT o = true → ObjOk P w H' h' a o → ObjOk P w H h a o → ObjOk P w H h' a o := by
  intro o
  induction o with
  | dT kvs => intro n; cases n
  | frz ob u ih =>
    intro n x y
    exact ⟨x.1, ih n x.2 y.2⟩
  | ins C dx fs =>
    intro n x y
    exact ⟨y.1, x.2⟩
  | lst xs => intro n x y; exact x
  | tup xs => intro n x y; exact x
  | dK kvs => intro n x y; exact x
  | set S m => intro n x y; exact x
  | own z => intro n x y; exact x
  | xd fs => intro n x y; exact x
  | rng lo hi => intro n x y; exact x
  | tbl ps => intro n x y; exact x
  | met f z => intro n x y; exact x
  | ext phi => intro n x y; exact x
theorem hok_back {P : Program} {w : World} {H H' : Hp} {h h' : Heap} (n : NoT H) (x : HOk P w H' h') (y : HOk P w H h) (e : Same H H') : HOk P w H h' := fun a o q =>
  obj_back (n a o q) (x a o (e a o q)) (y a o q)
theorem Inv.forget {X : Cx} {pins pins' : List (Addr × Obj)} {σ σ' : St} {H H' : Hp} {s s' : Shared} (I : Inv X pins σ H s) (J : Inv X pins' σ' H' s') (e : Same H H') (n : NoT H) : Inv X pins' σ' H s' :=
  ⟨J.ok, J.os, J.bare, ⟨J.base.keep, J.base.slot, I.base.free, J.base.there, I.base.tups, I.base.frzs, I.base.tbls⟩, J.loc, J.cell, I.free, I.freeC,
    fun p hp => let ⟨a, b, c⟩ := J.pin p hp; ⟨a, e.free b, c⟩, hok_back n J.hok I.hok e, J.len⟩
/-- an expression whose making leaves things behind that nobody asks of -/
def tPure (t : TE) : TE := fun σ H Q => NoT H ∧ t σ H fun v H' => Same H H' ∧ Q v H
theorem pe_pure {X : Cx} {e : Expr} {t : TE} (h : PE X e t) : PE X e (tPure t) :=
  ⟨fun pins s σ H Q I ⟨n, q⟩ => thn (h.run pins s σ H _ I q) fun u s' ⟨v, H', J, r, sm, q'⟩ => ⟨v, H, I.forget J sm n, r, q'⟩⟩
def tPureT (t : TT) : TT := fun σ H Q => NoT H ∧ t σ H fun b H' => Same H H' ∧ Q b H
theorem pt_pure {X : Cx} {e : Expr} {t : TT} (h : PT X e t) : PT X e (tPureT t) :=
  ⟨fun pins s σ H Q I ⟨n, q⟩ => thn (h.run pins s σ H _ I q) fun u s' ⟨H', J, sm, q'⟩ => ⟨H, I.forget J sm n, q'⟩⟩
theorem fn_forget {P : Program} {w : World} {K : PySem.W.Frag} {mg : Str → Option Value} {base : Heap} {CX : CXT} {k : Nat} {f : Addr} {fd : FuncData} {ps : List Str} {sp : Sp} (F : FnOk P w K mg base CX k f fd ps sp) :
    FnOk P w K mg base CX k f fd ps (fun vs H Q E => NoT H ∧ sp vs H (fun v H' => Same H H' ∧ Q v H) E) := by
  refine ⟨fun vs H Q E q => F.len vs H _ E q.2, fun A outer s H args us vs Q E hr he hb hv hs => ?_⟩
  refine codeAny_mono (F.run A outer s H args us vs _ E hr he hb hv hs.2) fun r s' q => ?_
  cases r with
  | error er => exact q
  | ok fl =>
    cases fl with
    | ret u =>
      obtain ⟨v, H2, os2, bare2, un2, hok2, rv, sm, q2⟩ := q
      exact ⟨v, H, os2, bare2, ⟨un2.keep, un2.slot, fun _ _ _ n _ => n, un2.there, fun _ _ q => q, fun _ _ _ q => q, fun _ ps q => ⟨#[], by rw [q]; simp⟩⟩, hok_back hs.1 hok2 he.hok sm, rv, q2⟩
    | next => exact q
    | brk => exact q
    | cont => exact q
end L2

namespace L2
open PySem PySem.Spec PyProof.Rows
/-! ### operators in the forms that are used here -/
def CMulB (i j : Int) : Prop := CMul i j ∨ CMulW i j
theorem CMulB.ok {i j : Int} (h : CMulB i j) : IntMulOk i j := by
  rcases h with h | h
  · exact h.ok
  · exact h.ok
def CDivB (_ j : Int) : Prop := 0 < j ∧ j < 2 ^ 250
section
variable {X : Cx}
theorem op_mulB : OpR X (binaryOp .Mult) (rI CMulB fun i j => .int (i * j)) := opI fun _ _ _ _ _ _ _ hc q => mul_int q hc.ok
theorem op_fdivB : OpR X (binaryOp .FloorDiv) (rI CDivB fun i j => .int (i / j)) := fun pins s σ H x y v u Q I rx ry ⟨i, j, e1, e2, hc, q⟩ =>
  op_fdivW pins s σ H x y v u Q I rx ry ⟨i, j, e1, e2, wide_div (b := 250) hc.1 (by
    have h1 := hc.1
    have h2 := hc.2
    have h3 : j = (j.natAbs : Int) := by omega
    have h4 : (j.natAbs : Int) < ((2 ^ 250 : Nat) : Int) := by
      rw [← h3, Int.natCast_pow]
      exact h2
    exact Int.ofNat_lt.mp h4) (by decide) (by decide), q⟩
end
/-! ### the readings, one lemma each -/
section
variable {σ : St} {H : Hp} {Q : VK} {R : Bool → Hp → Prop} {RA : List V → Hp → Prop} {K : PySem.W.Frag} {v x y z : V} {i j : Int} {ta tb tc te : TE} {tt uu : TT} {t t1 t2 u : TS} {tr : TA} {r : R2}
variable {nx : St → Hp → Prop} {rt : VK} {bk ct : St → Hp → Prop}
theorem rd_var {n : Nat} (h : σ[n]? = some (some v)) (q : Q v H) : tVar n σ H Q := ⟨v, h, q⟩
theorem rd_c (q : Q v H) : tC v σ H Q := q
instance st_c  : Stp (tC v σ H Q) (Q v H) := ⟨fun h => rd_c h⟩
theorem rd_op (h : ta σ H fun x H1 => tb σ H1 fun y H2 => r x y H2 Q) : tOp r ta tb σ H Q := h
instance st_op  : Stp (tOp r ta tb σ H Q) (ta σ H fun x H1 => tb σ H1 fun y H2 => r x y H2 Q) := ⟨fun h => rd_op h⟩
theorem rd_un {ru : V → Hp → VK → Prop} (h : ta σ H fun x H1 => ru x H1 Q) : tUn ru ta σ H Q := h
instance st_un {ru : V → Hp → VK → Prop} : Stp (tUn ru ta σ H Q) (ta σ H fun x H1 => ru x H1 Q) := ⟨fun h => rd_un h⟩
theorem rd_I {C : Int → Int → Prop} {g : Int → Int → V} (hc : C i j) (q : Q (g i j) H) : rI C g (.int i) (.int j) H Q := ⟨i, j, rfl, rfl, hc, q⟩
theorem rd_I0 {g : Int → Int → V} (q : Q (g i j) H) : rI0 g (.int i) (.int j) H Q := ⟨i, j, rfl, rfl, q⟩
instance st_I0 {g : Int → Int → V} : Stp (rI0 g (.int i) (.int j) H Q) (Q (g i j) H) := ⟨fun h => rd_I0 h⟩
theorem rd_U {g : Int → V} (q : Q (g i) H) : rU g (.int i) H Q := ⟨i, rfl, q⟩
instance st_U {g : Int → V} : Stp (rU g (.int i) H Q) (Q (g i) H) := ⟨fun h => rd_U h⟩
theorem rd_eqI (q : Q (.bl (decide (i = j))) H) : rEq (.int i) (.int j) H Q := ⟨rfl, by
  have e : decide (V.int i = V.int j) = decide (i = j) := decide_eq_decide.mpr ⟨fun z => V.int.inj z, fun z => by rw [z]⟩
  rw [e]
  exact q⟩
instance st_eqI  : Stp (rEq (.int i) (.int j) H Q) (Q (.bl (decide (i = j))) H) := ⟨fun h => rd_eqI h⟩
theorem rd_neI (q : Q (.bl (!decide (i = j))) H) : rNe (.int i) (.int j) H Q := ⟨rfl, by
  have e : decide (V.int i = V.int j) = decide (i = j) := decide_eq_decide.mpr ⟨fun z => V.int.inj z, fun z => by rw [z]⟩
  rw [e]
  exact q⟩
instance st_neI  : Stp (rNe (.int i) (.int j) H Q) (Q (.bl (!decide (i = j))) H) := ⟨fun h => rd_neI h⟩
theorem rd_eqS {i j : Str} (q : Q (.bl (decide (i = j))) H) : rEq (.str i) (.str j) H Q := ⟨rfl, by
  have e : decide (V.str i = V.str j) = decide (i = j) := decide_eq_decide.mpr ⟨fun z => V.str.inj z, fun z => by rw [z]⟩
  rw [e]
  exact q⟩
instance st_eqS {i j : Str} : Stp (rEq (.str i) (.str j) H Q) (Q (.bl (decide (i = j))) H) := ⟨fun h => rd_eqS h⟩
theorem rd_neS {i j : Str} (q : Q (.bl (!decide (i = j))) H) : rNe (.str i) (.str j) H Q := ⟨rfl, by
  have e : decide (V.str i = V.str j) = decide (i = j) := decide_eq_decide.mpr ⟨fun z => V.str.inj z, fun z => by rw [z]⟩
  rw [e]
  exact q⟩
instance st_neS {i j : Str} : Stp (rNe (.str i) (.str j) H Q) (Q (.bl (!decide (i = j))) H) := ⟨fun h => rd_neS h⟩
theorem rd_eqB {i j : Bool} (q : Q (.bl (decide (i = j))) H) : rEq (.bl i) (.bl j) H Q := ⟨rfl, by
  have e : decide (V.bl i = V.bl j) = decide (i = j) := decide_eq_decide.mpr ⟨fun z => V.bl.inj z, fun z => by rw [z]⟩
  rw [e]
  exact q⟩
instance st_eqB {i j : Bool} : Stp (rEq (.bl i) (.bl j) H Q) (Q (.bl (decide (i = j))) H) := ⟨fun h => rd_eqB h⟩
theorem rd_neB {i j : Bool} (q : Q (.bl (!decide (i = j))) H) : rNe (.bl i) (.bl j) H Q := ⟨rfl, by
  have e : decide (V.bl i = V.bl j) = decide (i = j) := decide_eq_decide.mpr ⟨fun z => V.bl.inj z, fun z => by rw [z]⟩
  rw [e]
  exact q⟩
instance st_neB {i j : Bool} : Stp (rNe (.bl i) (.bl j) H Q) (Q (.bl (!decide (i = j))) H) := ⟨fun h => rd_neB h⟩
theorem rd_eqV (h : scal x y = true) (q : Q (.bl (decide (x = y))) H) : rEq x y H Q := ⟨h, q⟩
theorem rd_test (h : te σ H fun x H' => ∃ k, x = .bl k ∧ R k H') : tTest te σ H R := h
instance st_test  : Stp (tTest te σ H R) (te σ H fun x H' => ∃ k, x = .bl k ∧ R k H') := ⟨fun h => rd_test h⟩
theorem rd_B (h : te σ H fun x H' => ∃ k, x = .bl k ∧ R k H') : tB te σ H R := h
instance st_B  : Stp (tB te σ H R) (te σ H fun x H' => ∃ k, x = .bl k ∧ R k H') := ⟨fun h => rd_B h⟩
theorem rd_k {b : Bool} {P : Bool → Prop} (q : P b) : ∃ k, V.bl b = .bl k ∧ P k := ⟨b, rfl, q⟩
instance st_k {b : Bool} {P : Bool → Prop} : Stp (∃ k, V.bl b = .bl k ∧ P k) (P b) := ⟨fun h => rd_k h⟩
theorem rd_and (h : tt σ H fun c H1 => if c = true then uu σ H1 R else R false H1) : tAnd tt uu σ H R := h
instance st_and  : Stp (tAnd tt uu σ H R) (tt σ H fun c H1 => if c = true then uu σ H1 R else R false H1) := ⟨fun h => rd_and h⟩
theorem rd_or (h : tt σ H fun c H1 => if c = true then R true H1 else uu σ H1 R) : tOr tt uu σ H R := h
instance st_or  : Stp (tOr tt uu σ H R) (tt σ H fun c H1 => if c = true then R true H1 else uu σ H1 R) := ⟨fun h => rd_or h⟩
theorem rd_not (h : tt σ H fun c H1 => R (!c) H1) : tNot tt σ H R := h
instance st_not  : Stp (tNot tt σ H R) (tt σ H fun c H1 => R (!c) H1) := ⟨fun h => rd_not h⟩
theorem rd_andV (h : ta σ H fun x H1 => ∃ c, x = .bl c ∧ if c = true then tb σ H1 Q else Q (.bl false) H1) : tAndV ta tb σ H Q := h
instance st_andV  : Stp (tAndV ta tb σ H Q) (ta σ H fun x H1 => ∃ c, x = .bl c ∧ if c = true then tb σ H1 Q else Q (.bl false) H1) := ⟨fun h => rd_andV h⟩
theorem rd_orV (h : ta σ H fun x H1 => ∃ c, x = .bl c ∧ if c = true then Q (.bl true) H1 else tb σ H1 Q) : tOrV ta tb σ H Q := h
instance st_orV  : Stp (tOrV ta tb σ H Q) (ta σ H fun x H1 => ∃ c, x = .bl c ∧ if c = true then Q (.bl true) H1 else tb σ H1 Q) := ⟨fun h => rd_orV h⟩
theorem rd_notV (h : ta σ H fun x H1 => ∃ c, x = .bl c ∧ Q (.bl (!c)) H1) : tNotV ta σ H Q := h
instance st_notV  : Stp (tNotV ta σ H Q) (ta σ H fun x H1 => ∃ c, x = .bl c ∧ Q (.bl (!c)) H1) := ⟨fun h => rd_notV h⟩
theorem rd_ifx (h : tt σ H fun c H1 => if c = true then ta σ H1 Q else tb σ H1 Q) : tIf tt ta tb σ H Q := h
instance st_ifx  : Stp (tIf tt ta tb σ H Q) (tt σ H fun c H1 => if c = true then ta σ H1 Q else tb σ H1 Q) := ⟨fun h => rd_ifx h⟩
theorem rd_chain {r' : R2} (h : ta σ H fun x H1 => tb σ H1 fun y H2 => r x y H2 fun z H3 => ∃ k, z = .bl k ∧ (if k = true then tc σ H3 fun w' H4 => r' y w' H4 Q else Q (.bl false) H3)) : tChain r r' ta tb tc σ H Q := h
instance st_chain {r' : R2} : Stp (tChain r r' ta tb tc σ H Q) (ta σ H fun x H1 => tb σ H1 fun y H2 => r x y H2 fun z H3 => ∃ k, z = .bl k ∧ (if k = true then tc σ H3 fun w' H4 => r' y w' H4 Q else Q (.bl false) H3)) := ⟨fun h => rd_chain h⟩
theorem rd_nil (q : RA [] H) : tNil σ H RA := q
instance st_nil  : Stp (tNil σ H RA) (RA [] H) := ⟨fun h => rd_nil h⟩
theorem rd_cons (h : ta σ H fun x H1 => tr σ H1 fun xs H2 => RA (x :: xs) H2) : tCons ta tr σ H RA := h
instance st_cons  : Stp (tCons ta tr σ H RA) (ta σ H fun x H1 => tr σ H1 fun xs H2 => RA (x :: xs) H2) := ⟨fun h => rd_cons h⟩
theorem rd_tup (h : tr σ H fun xs H1 => xs.length ≤ sizeLine ∧ ∀ p, H1 p = none → Q (.ref p) (upd H1 p (.tup xs))) : tTup tr σ H Q := h
instance st_tup  : Stp (tTup tr σ H Q) (tr σ H fun xs H1 => xs.length ≤ sizeLine ∧ ∀ p, H1 p = none → Q (.ref p) (upd H1 p (.tup xs))) := ⟨fun h => rd_tup h⟩
theorem rd_lst (h : tr σ H fun xs H1 => xs.length ≤ sizeLine ∧ ∀ p, H1 p = none → Q (.ref p) (upd H1 p (.lst xs))) : tLst tr σ H Q := h
instance st_lst  : Stp (tLst tr σ H Q) (tr σ H fun xs H1 => xs.length ≤ sizeLine ∧ ∀ p, H1 p = none → Q (.ref p) (upd H1 p (.lst xs))) := ⟨fun h => rd_lst h⟩
theorem rd_pure (n : NoT H) (h : te σ H fun v H' => Same H H' ∧ Q v H) : tPure te σ H Q := ⟨n, h⟩
theorem rd_pureT (n : NoT H) (h : tt σ H fun v H' => Same H H' ∧ R v H) : tPureT tt σ H R := ⟨n, h⟩
theorem rd_call {sp : Sp} {E : XK} (h : tr σ H fun vs H1 => sp vs H1 Q E) : tCall sp [] E tr σ H Q := by
  show tr σ H fun vs H1 => sp (vs ++ []) H1 Q E
  simp only [List.append_nil]
  exact h
instance st_call {sp : Sp} {E : XK} : Stp (tCall sp [] E tr σ H Q) (tr σ H fun vs H1 => sp vs H1 Q E) := ⟨fun h => rd_call h⟩
theorem rd_cb {rr : List V → Hp → VK → Prop} (h : tr σ H fun vs H1 => rr vs H1 Q) : tCB rr tr σ H Q := h
instance st_cb {rr : List V → Hp → VK → Prop} : Stp (tCB rr tr σ H Q) (tr σ H fun vs H1 => rr vs H1 Q) := ⟨fun h => rd_cb h⟩
/-! statements -/
theorem rd_seq (h : t ⟨u ⟨nx, rt, bk, ct⟩, rt, bk, ct⟩ σ H) : tSeq t u ⟨nx, rt, bk, ct⟩ σ H := h
instance st_seq  : Stp (tSeq t u ⟨nx, rt, bk, ct⟩ σ H) (t ⟨u ⟨nx, rt, bk, ct⟩, rt, bk, ct⟩ σ H) := ⟨fun h => rd_seq h⟩
theorem rd_next (q : nx σ H) : tNext ⟨nx, rt, bk, ct⟩ σ H := q
instance st_next  : Stp (tNext ⟨nx, rt, bk, ct⟩ σ H) (nx σ H) := ⟨fun h => rd_next h⟩
theorem rd_break (q : bk σ H) : tBreak ⟨nx, rt, bk, ct⟩ σ H := q
instance st_break  : Stp (tBreak ⟨nx, rt, bk, ct⟩ σ H) (bk σ H) := ⟨fun h => rd_break h⟩
theorem rd_cont (q : ct σ H) : tCont ⟨nx, rt, bk, ct⟩ σ H := q
instance st_cont  : Stp (tCont ⟨nx, rt, bk, ct⟩ σ H) (ct σ H) := ⟨fun h => rd_cont h⟩
theorem rd_ret (h : te σ H rt) : tRet te ⟨nx, rt, bk, ct⟩ σ H := h
instance st_ret  : Stp (tRet te ⟨nx, rt, bk, ct⟩ σ H) (te σ H rt) := ⟨fun h => rd_ret h⟩
theorem rd_retN (h : rt .non H) : tRetN ⟨nx, rt, bk, ct⟩ σ H := h
instance st_retN  : Stp (tRetN ⟨nx, rt, bk, ct⟩ σ H) (rt .non H) := ⟨fun h => rd_retN h⟩
theorem rd_drop (h : te σ H fun _ H1 => nx σ H1) : tDrop te ⟨nx, rt, bk, ct⟩ σ H := h
instance st_drop  : Stp (tDrop te ⟨nx, rt, bk, ct⟩ σ H) (te σ H fun _ H1 => nx σ H1) := ⟨fun h => rd_drop h⟩
theorem rd_asg {g : TG} (h : te σ H fun x H1 => g x σ H1 nx) : tAsg te g ⟨nx, rt, bk, ct⟩ σ H := h
instance st_asg {g : TG} : Stp (tAsg te g ⟨nx, rt, bk, ct⟩ σ H) (te σ H fun x H1 => g x σ H1 nx) := ⟨fun h => rd_asg h⟩
theorem rd_gname {n : Nat} {N : St → Hp → Prop} (q : N (σ.set n (some v)) H) : gName n v σ H N := q
instance st_gname {n : Nat} {N : St → Hp → Prop} : Stp (gName n v σ H N) (N (σ.set n (some v)) H) := ⟨fun h => rd_gname h⟩
theorem rd_ifS (h : tt σ H fun b H1 => if b = true then t1 ⟨nx, rt, bk, ct⟩ σ H1 else t2 ⟨nx, rt, bk, ct⟩ σ H1) : tIfS tt t1 t2 ⟨nx, rt, bk, ct⟩ σ H := h
instance st_ifS  : Stp (tIfS tt t1 t2 ⟨nx, rt, bk, ct⟩ σ H) (tt σ H fun b H1 => if b = true then t1 ⟨nx, rt, bk, ct⟩ σ H1 else t2 ⟨nx, rt, bk, ct⟩ σ H1) := ⟨fun h => rd_ifS h⟩
theorem rd_par {m n : Nat} (h : tr σ H fun vs H1 => ∃ v w, vs = [v, w] ∧ nx ((σ.set m (some v)).set n (some w)) H1) : tPar m n tr ⟨nx, rt, bk, ct⟩ σ H := h
instance st_par {m n : Nat} : Stp (tPar m n tr ⟨nx, rt, bk, ct⟩ σ H) (tr σ H fun vs H1 => ∃ v w, vs = [v, w] ∧ nx ((σ.set m (some v)).set n (some w)) H1) := ⟨fun h => rd_par h⟩
theorem rd_par2 {v w : V} {P : V → V → Prop} (q : P v w) : ∃ v' w', [v, w] = [v', w'] ∧ P v' w' := ⟨v, w, rfl, q⟩
instance st_par2 {v w : V} {P : V → V → Prop} : Stp (∃ v' w', [v, w] = [v', w'] ∧ P v' w') (P v w) := ⟨fun h => rd_par2 h⟩
theorem rd_aug {n : Nat} {f : Int → Int → Int} (h : σ[n]? = some (some (.int i))) (q : te σ H fun y H1 => ∃ j, y = .int j ∧ nx (σ.set n (some (.int (f i j)))) H1) (mono : ∀ Q Q' : VK, (∀ v H, Q v H → Q' v H) → te σ H Q → te σ H Q') :
    tAug n te (ipI f) ⟨nx, rt, bk, ct⟩ σ H := ⟨.int i, h, mono _ _ (fun y H1 ⟨j, e, q⟩ => ⟨i, j, rfl, e, q⟩) q⟩
theorem rd_augC {n : Nat} {f : Int → Int → Int} (h : σ[n]? = some (some (.int i))) (q : nx (σ.set n (some (.int (f i j)))) H) : tAug n (tC (.int j)) (ipI f) ⟨nx, rt, bk, ct⟩ σ H := ⟨.int i, h, i, j, rfl, rfl, q⟩
/-! ifs -/
theorem rd_ite {p A B : Prop} [Decidable p] (h1 : p → A) (h2 : ¬ p → B) : if decide p = true then A else B := by
  by_cases h : p
  · rw [if_pos (decide_eq_true h)]
    exact h1 h
  · rw [if_neg (by rw [decide_eq_false h]; decide)]
    exact h2 h
theorem rd_iteN {p A B : Prop} [Decidable p] (h1 : ¬ p → A) (h2 : p → B) : if (!decide p) = true then A else B := by
  by_cases h : p
  · rw [if_neg (by rw [decide_eq_true h]; decide)]
    exact h2 h
  · rw [if_pos (by rw [decide_eq_false h]; decide)]
    exact h1 h
theorem rd_iteb {b : Bool} {A B : Prop} (h1 : b = true → A) (h2 : b = false → B) : if b = true then A else B := by
  cases b with
  | true => exact h1 rfl
  | false => exact h2 rfl
theorem rd_iteNT {A B : Prop} (h : B) : if (!true) = true then A else B := h
instance st_iteNT {A B : Prop} : Stp (if (!true) = true then A else B) (B) := ⟨fun h => rd_iteNT h⟩
theorem rd_iteNF {A B : Prop} (h : A) : if (!false) = true then A else B := h
instance st_iteNF {A B : Prop} : Stp (if (!false) = true then A else B) (A) := ⟨fun h => rd_iteNF h⟩
theorem rd_iteT {A B : Prop} (h : A) : if true = true then A else B := iteT h
instance st_iteT {A B : Prop} : Stp (if true = true then A else B) (A) := ⟨fun h => rd_iteT h⟩
theorem rd_iteF {A B : Prop} (h : B) : if false = true then A else B := iteF h
instance st_iteF {A B : Prop} : Stp (if false = true then A else B) (B) := ⟨fun h => rd_iteF h⟩
/-! while, for -/
def lBody (W : Nat → St → Hp → Prop) (m : Nat) (tb : TS) (nx : St → Hp → Prop) (rt : VK) : St → Hp → Prop := fun σ H =>
  ∃ N : St → Hp → Prop, (∀ σ' H', N σ' H' → ∃ m', m' < m ∧ W m' σ' H') ∧ tb ⟨N, rt, nx, N⟩ σ H
theorem rd_lBody {W : Nat → St → Hp → Prop} {m : Nat} (h : t ⟨fun σ' H' => ∃ m', m' < m ∧ W m' σ' H', rt, nx, fun σ' H' => ∃ m', m' < m ∧ W m' σ' H'⟩ σ H) : lBody W m t nx rt σ H := ⟨_, fun _ _ q => q, h⟩
instance st_lBody {W : Nat → St → Hp → Prop} {m : Nat} : Stp (lBody W m t nx rt σ H) (t ⟨fun σ' H' => ∃ m', m' < m ∧ W m' σ' H', rt, nx, fun σ' H' => ∃ m', m' < m ∧ W m' σ' H'⟩ σ H) := ⟨fun h => rd_lBody h⟩
theorem rd_while (W : Nat → St → Hp → Prop) (m0 : Nat) (h0 : W m0 σ H) (turn : ∀ m σ H, W m σ H → tt σ H fun b H1 => if b = true then lBody W m t nx rt σ H1 else nx σ H1) : tWhile tt t ⟨nx, rt, bk, ct⟩ σ H :=
  ⟨W, ⟨m0, h0⟩, fun m σ H w => turn m σ H w⟩
def fBody (J : It) (g : TG) (tb : TS) (nx : St → Hp → Prop) (rt : VK) : St → Hp → Prop := fun σ H => ∃ W : Nat → Nat → St → Hp → Prop, (∃ m, W 0 m σ H) ∧ ∀ i m σ H, W i m σ H →
  (J.stop i H ∧ nx σ H) ∨ (J.go i H ∧ ∃ N : St → Hp → Prop, (∀ σ' H', N σ' H' → ∃ m', m' < m ∧ W (i + 1) m' σ' H') ∧ ∀ x H', J.yld i H x H' → g x σ H' fun σ2 H2 => tb ⟨N, rt, nx, N⟩ σ2 H2)
theorem rd_for {wi : TI} {g : TG} (h : wi σ H fun J H1 => fBody J g t nx rt σ H1) : tFor wi g t ⟨nx, rt, bk, ct⟩ σ H := h
instance st_for {wi : TI} {g : TG} : Stp (tFor wi g t ⟨nx, rt, bk, ct⟩ σ H) (wi σ H fun J H1 => fBody J g t nx rt σ H1) := ⟨fun h => rd_for h⟩
theorem rd_rng1 {n : Int} {S : It → Hp → Prop} (h1 : -(2 ^ 62) ≤ n) (h2 : n < 2 ^ 62) (q : S (Itr 0 n.toNat) H) : ∃ j : Int, ([.int n] : List V) = [.int j] ∧ -(2 ^ 62) ≤ j ∧ j < 2 ^ 62 ∧ S (Itr 0 j.toNat) H := ⟨n, rfl, h1, h2, q⟩
theorem rd_iRng1 {S : It → Hp → Prop} (h : tr σ H fun vs H1 => ∃ j : Int, vs = [.int j] ∧ -(2 ^ 62) ≤ j ∧ j < 2 ^ 62 ∧ S (Itr 0 j.toNat) H1) : iRng1 tr σ H S := h
theorem rd_iRng2 {S : It → Hp → Prop} (h : tr σ H fun vs H1 => ∃ i j : Int, vs = [.int i, .int j] ∧ (-(2 ^ 62) ≤ i ∧ i < 2 ^ 62 ∧ -(2 ^ 62) ≤ j ∧ j < 2 ^ 62) ∧ S (Itr i (j - i).toNat) H1) : iRng2 tr σ H S := h
theorem rd_rng2 {m n : Int} {S : It → Hp → Prop} (h1 : -(2 ^ 62) ≤ m ∧ m < 2 ^ 62 ∧ -(2 ^ 62) ≤ n ∧ n < 2 ^ 62) (q : S (Itr m (n - m).toNat) H) : ∃ i j : Int, ([.int m, .int n] : List V) = [.int i, .int j] ∧ (-(2 ^ 62) ≤ i ∧ i < 2 ^ 62 ∧ -(2 ^ 62) ≤ j ∧ j < 2 ^ 62) ∧ S (Itr i (j - i).toNat) H := ⟨m, n, rfl, h1, q⟩
theorem rd_forR {lo : Int} {n : Nat} {g : TG} (Pv : Nat → St → Hp → Prop) (h0 : Pv 0 σ H)
    (hs : ∀ i σ H, i < n → Pv i σ H → g (.int (lo + i)) σ H fun σ2 H2 => t ⟨Pv (i + 1), rt, nx, Pv (i + 1)⟩ σ2 H2) (hd : ∀ σ H, Pv n σ H → nx σ H) : fBody (Itr lo n) g t nx rt σ H :=
  for_range (D := ⟨nx, rt, fun _ _ => False, fun _ _ => False⟩) Pv h0 hs hd
theorem rd_forL {a : Addr} {xs : List V} {g : TG} (Pv : Nat → St → Hp → Prop) (h0 : Pv 0 σ H) (hl : ∀ i σ H, i ≤ xs.length → Pv i σ H → SqL K H a xs)
    (hs : ∀ i x σ H, xs[i]? = some x → Pv i σ H → g x σ H fun σ2 H2 => t ⟨Pv (i + 1), rt, nx, Pv (i + 1)⟩ σ2 H2) (hd : ∀ σ H, Pv xs.length σ H → nx σ H) : fBody (Itl K a) g t nx rt σ H :=
  for_list (D := ⟨nx, rt, fun _ _ => False, fun _ _ => False⟩) Pv h0 hl hs hd
theorem rd_forT {a : Addr} {xs : List V} {g : TG} (Pv : Nat → St → Hp → Prop) (h0 : Pv 0 σ H) (hl : ∀ i σ H, i ≤ xs.length → Pv i σ H → SqT K H a xs)
    (hs : ∀ i x σ H, xs[i]? = some x → Pv i σ H → g x σ H fun σ2 H2 => t ⟨Pv (i + 1), rt, nx, Pv (i + 1)⟩ σ2 H2) (hd : ∀ σ H, Pv xs.length σ H → nx σ H) : fBody (Itt K a) g t nx rt σ H :=
  for_tup (D := ⟨nx, rt, fun _ _ => False, fun _ _ => False⟩) Pv h0 hl hs hd
theorem rd_iList {S : It → Hp → Prop} (h : ta σ H fun x H1 => ∃ a, x = .ref a ∧ (∃ xs, SqL K H1 a xs) ∧ S (Itl K a) H1) : iList K ta σ H S := h
theorem rd_iTup {S : It → Hp → Prop} (h : ta σ H fun x H1 => ∃ a, x = .ref a ∧ (∃ xs, SqT K H1 a xs) ∧ S (Itt K a) H1) : iTup K ta σ H S := h
theorem rd_ixL {p : Addr} {xs : List V} (h : SqL K H p xs) (ha : atI xs i = some v) (q : Q v H) : rIxL K (.ref p) (.int i) H Q := ⟨p, xs, i, v, rfl, rfl, h, ha, q⟩
theorem rd_ixT {p : Addr} {xs : List V} (h : SqT K H p xs) (ha : atI xs i = some v) (q : Q v H) : rIxT K (.ref p) (.int i) H Q := ⟨p, xs, i, v, rfl, rfl, h, ha, q⟩
theorem rd_inL {p : Addr} {xs : List V} (h : SqL K H p xs) (hx : flatV x = true) (hf : xs.all flatV = true) (q : Q (.bl (inV x xs)) H) : rIn K false x (.ref p) H Q := ⟨p, xs, rfl, .inl h, hx, hf, q⟩
theorem rd_inT {p : Addr} {xs : List V} (h : SqT K H p xs) (hx : flatV x = true) (hf : xs.all flatV = true) (q : Q (.bl (inV x xs)) H) : rIn K false x (.ref p) H Q := ⟨p, xs, rfl, .inr h, hx, hf, q⟩
theorem rd_ninT {p : Addr} {xs : List V} (h : SqT K H p xs) (hx : flatV x = true) (hf : xs.all flatV = true) (q : Q (.bl (!inV x xs)) H) : rIn K true x (.ref p) H Q := ⟨p, xs, rfl, .inr h, hx, hf, q⟩
end
theorem same_new {H : Hp} {p : Addr} {o : HO} (h : H p = none) : Same H (upd H p o) := fun b x e => by
  rw [upd_ne (ne_of_none e h)]
  exact e
end L2

namespace L2
open PySem PySem.Spec PyProof.Rows
section
variable {σ : St} {H : Hp} {Q : VK} {K : PySem.W.Frag} {v : V} {N : St → Hp → Prop} {S : Hp → Prop}
theorem rd_gsub {to ti : TE} {t : TSet} (h : to σ H fun o H1 => ti σ H1 fun i H2 => t o i v H2 fun H3 => N σ H3) : gSub to ti t v σ H N := h
instance st_gsub {to ti : TE} {t : TSet} : Stp (gSub to ti t v σ H N) (to σ H fun o H1 => ti σ H1 fun i H2 => t o i v H2 fun H3 => N σ H3) := ⟨fun h => rd_gsub h⟩
theorem rd_setL {p : Addr} {xs : List V} {k : Int} {j : Nat} (h : H p = some (.lst xs)) (hj : ixN xs.length k = some j) (q : S (upd H p (.lst (xs.set j v)))) : rSetL (.ref p) (.int k) v H S := ⟨p, xs, k, j, rfl, rfl, h, hj, q⟩
theorem rd_ixH {p : Addr} {xs : List V} {i : Int} (h : H p = some (.lst xs)) (ha : atI xs i = some v) (q : Q v H) : rIxL K (.ref p) (.int i) H Q := ⟨p, xs, i, v, rfl, rfl, SqL.of h, ha, q⟩
end
end L2

namespace L2
open PySem PySem.Spec PyProof.Rows
section
variable {σ : St} {H : Hp} {Q : VK} {K : PySem.W.Frag} {v x y : V} {N : St → Hp → Prop} {S : Hp → Prop} {p : Addr} {o : HO}
theorem rd_new {n : Nat} {F : Addr → Prop} (h : n ≤ sizeLine) (q : ∀ p, H p = none → F p) : n ≤ sizeLine ∧ ∀ p, H p = none → F p := ⟨h, q⟩
theorem rd_back {P : Prop} (hp : H p = none) (q : P) : Same H (upd H p o) ∧ P := ⟨same_new hp, q⟩
theorem rd_backR {P : Prop} (q : P) : Same H H ∧ P := ⟨Same.refl H, q⟩
instance st_backR {P : Prop} : Stp (Same H H ∧ P) (P) := ⟨fun h => rd_backR h⟩
theorem inV2 {i a b : Int} : inV (.int i) [.int a, .int b] = decide (i = a ∨ i = b) := by
  simp only [inV, eqV, List.any_cons, List.any_nil, Bool.or_false]
  by_cases h1 : i = a
  · subst h1
    simp
  · by_cases h2 : i = b
    · subst h2
      simp
    · have e1 : (a == i) = false := by simpa using Ne.symm h1
      have e2 : (b == i) = false := by simpa using Ne.symm h2
      rw [e1, e2]
      simp [h1, h2]
theorem rd_in2 {i a b : Int} (q : Q (.bl (decide (i = a ∨ i = b))) (upd H p (.tup [.int a, .int b]))) : rIn K false (.int i) (.ref p) (upd H p (.tup [.int a, .int b])) Q :=
  ⟨p, _, rfl, .inr (SqT.of upd_same), rfl, rfl, by
    show Q (.bl (inV (.int i) [.int a, .int b])) _
    rw [inV2]
    exact q⟩
instance st_in2 {i a b : Int} : Stp (rIn K false (.int i) (.ref p) (upd H p (.tup [.int a, .int b])) Q) (Q (.bl (decide (i = a ∨ i = b))) (upd H p (.tup [.int a, .int b]))) := ⟨fun h => rd_in2 h⟩
theorem rd_gtup {a : Addr} {xs : List V} {n : Nat} {t : TGs} (h : SqT K H a xs) (hn : xs.length = n) (q : t xs σ H N) : gTup K n t (.ref a) σ H N := ⟨a, xs, rfl, h, hn, q⟩
theorem rd_gcons {t : TG} {u : TGs} {xs : List V} (q : t x σ H fun σ' H' => u xs σ' H' N) : gCons t u (x :: xs) σ H N := ⟨x, xs, rfl, q⟩
instance st_gcons {t : TG} {u : TGs} {xs : List V} : Stp (gCons t u (x :: xs) σ H N) (t x σ H fun σ' H' => u xs σ' H' N) := ⟨fun h => rd_gcons h⟩
theorem rd_gnil (q : N σ H) : gNil [] σ H N := ⟨rfl, q⟩
instance st_gnil  : Stp (gNil [] σ H N) (N σ H) := ⟨fun h => rd_gnil h⟩
theorem rd_bm {T : String} {r : V → List V → Hp → VK → Prop} {to : TE} {t : TA} (h : to σ H fun x H1 => tyV K T x H1 ∧ t σ H1 fun xs H2 => r x xs H2 Q) : tBM K T r to t σ H Q := h
instance st_bm {T : String} {r : V → List V → Hp → VK → Prop} {to : TE} {t : TA} : Stp (tBM K T r to t σ H Q) (to σ H fun x H1 => tyV K T x H1 ∧ t σ H1 fun xs H2 => r x xs H2 Q) := ⟨fun h => rd_bm h⟩
theorem rd_bm0 {T : String} {r : V → List V → Hp → VK → Prop} {to : TE} (h : to σ H fun x H1 => tyV K T x H1 ∧ r x [] H1 Q) : tBM0 K T r to σ H Q := h
instance st_bm0 {T : String} {r : V → List V → Hp → VK → Prop} {to : TE} : Stp (tBM0 K T r to σ H Q) (to σ H fun x H1 => tyV K T x H1 ∧ r x [] H1 Q) := ⟨fun h => rd_bm0 h⟩
theorem rd_tyL {xs : List V} {P : Prop} (h : H p = some (.lst xs)) (q : P) : tyV K "list" (.ref p) H ∧ P := ⟨.inl ⟨rfl, _, SqL.of h⟩, q⟩
theorem rd_append {xs : List V} (h : H p = some (.lst xs)) (hl : xs.length < sizeLine) (q : Q .non (upd H p (.lst (xs ++ [y])))) : rAppend (.ref p) [y] H Q := ⟨p, xs, y, rfl, rfl, h, hl, q⟩
theorem same_upd2 {H' : Hp} {o1 : HO} (h : Same H H') (hp : H p = none) : Same H (upd H' p o1) := fun b x e => by
  rw [upd_ne (ne_of_none e hp)]
  exact h b x e
theorem upd_keep {q : Addr} {u : HO} (h : H p = some o) (hq : H q = none) : upd H q u p = some o := (upd_ne (ne_of_none h hq)).trans h
theorem upd_lst {H : Hp} {p : Addr} {a b : HO} : upd (upd H p a) p b = upd H p b := upd_upd
/-- the raising, its argument read -/
theorem rd_err {C : Addr} {n : Nat} {fl : List V → List (Str × V)} {vs : List V} {Q : XK} (hl : vs.length = n) (hn : n ≤ 1000) (h : ∀ d, H d = none → Q (.ref C) (some d) (upd H d (.xd (fl vs)))) : True := trivial
end
end L2

namespace L2
open PySem PySem.Spec PyProof.Rows
theorem rd_cut {σ : St} {H : Hp} {t u : TS} {nx : St → Hp → Prop} {rt : VK} {bk ct : St → Hp → Prop} (Mid : St → Hp → Prop) (h : t ⟨Mid, rt, bk, ct⟩ σ H) (q : ∀ σ' H', Mid σ' H' → u ⟨nx, rt, bk, ct⟩ σ' H') : C8.tCut t u ⟨nx, rt, bk, ct⟩ σ H := ⟨Mid, h, q⟩
/-! ### built-ins, by name -/
def rLenQ (K : PySem.W.Frag) : List V → Hp → VK → Prop := fun xs H Q => ∃ p ys, xs = [.ref p] ∧ (SqL K H p ys ∨ SqT K H p ys) ∧ Q (.int ys.length) H
def rLenS : List V → Hp → VK → Prop := fun xs H Q => ∃ z, xs = [.str z] ∧ z.length ≤ sizeLine ∧ Q (.int z.length) H
def rAbs : List V → Hp → VK → Prop := fun xs H Q => ∃ i, xs = [.int i] ∧ Q (.int (if i < 0 then -i else i)) H
def rMax2 : List V → Hp → VK → Prop := fun xs H Q => ∃ i j, xs = [.int i, .int j] ∧ Q (.int (if j > i then j else i)) H
def rMin2 : List V → Hp → VK → Prop := fun xs H Q => ∃ i j, xs = [.int i, .int j] ∧ Q (.int (if j < i then j else i)) H
def rInt1 : List V → Hp → VK → Prop := fun xs H Q => (∃ i, xs = [.int i] ∧ Q (.int i) H) ∨ ∃ k, xs = [.bl k] ∧ Q (.int (if k then 1 else 0)) H
def rListOf (K : PySem.W.Frag) : List V → Hp → VK → Prop := fun xs H Q => ∃ p ys, xs = [.ref p] ∧ (SqL K H p ys ∨ SqT K H p ys) ∧ ∀ l, H l = none → Q (.ref l) (upd H l (.lst ys))
section
variable {X : Cx}
theorem c_len : CallR X (.builtin "len") (rLenQ X.K) := call_len_seq
theorem c_lenS : CallR X (.builtin "len") rLenS := call_len_str
theorem c_abs : CallR X (.builtin "abs") rAbs := call_abs
theorem c_max2 (hc : X.calm = true) : CallR X (.builtin "max") rMax2 := call_max2 hc
theorem c_min2 (hc : X.calm = true) : CallR X (.builtin "min") rMin2 := call_min2 hc
theorem c_int1 : CallR X (.type "int") rInt1 := call_int1
theorem c_listOf : CallR X (.type "list") (rListOf X.K) := call_list_of
end
section
variable {H : Hp} {Q : VK} {K : PySem.W.Frag} {i j : Int} {p : Addr} {ys : List V}
theorem rd_abs (q : Q (.int (if i < 0 then -i else i)) H) : rAbs [.int i] H Q := ⟨i, rfl, q⟩
instance st_abs  : Stp (rAbs [.int i] H Q) (Q (.int (if i < 0 then -i else i)) H) := ⟨fun h => rd_abs h⟩
theorem rd_max2 (q : Q (.int (if j > i then j else i)) H) : rMax2 [.int i, .int j] H Q := ⟨i, j, rfl, q⟩
instance st_max2  : Stp (rMax2 [.int i, .int j] H Q) (Q (.int (if j > i then j else i)) H) := ⟨fun h => rd_max2 h⟩
theorem rd_min2 (q : Q (.int (if j < i then j else i)) H) : rMin2 [.int i, .int j] H Q := ⟨i, j, rfl, q⟩
instance st_min2  : Stp (rMin2 [.int i, .int j] H Q) (Q (.int (if j < i then j else i)) H) := ⟨fun h => rd_min2 h⟩
theorem rd_int (q : Q (.int i) H) : rInt1 [.int i] H Q := .inl ⟨i, rfl, q⟩
instance st_int  : Stp (rInt1 [.int i] H Q) (Q (.int i) H) := ⟨fun h => rd_int h⟩
theorem rd_intB {b : Bool} (q : Q (.int (if b then 1 else 0)) H) : rInt1 [.bl b] H Q := .inr ⟨b, rfl, q⟩
instance st_intB {b : Bool} : Stp (rInt1 [.bl b] H Q) (Q (.int (if b then 1 else 0)) H) := ⟨fun h => rd_intB h⟩
theorem rd_lenL (h : SqL K H p ys) (q : Q (.int ys.length) H) : rLenQ K [.ref p] H Q := ⟨p, ys, rfl, .inl h, q⟩
theorem rd_lenT (h : SqT K H p ys) (q : Q (.int ys.length) H) : rLenQ K [.ref p] H Q := ⟨p, ys, rfl, .inr h, q⟩
theorem rd_lenS {z : Str} (h : z.length ≤ sizeLine) (q : Q (.int z.length) H) : rLenS [.str z] H Q := ⟨z, rfl, h, q⟩
theorem rd_listOfL (h : SqL K H p ys) (q : ∀ l, H l = none → Q (.ref l) (upd H l (.lst ys))) : rListOf K [.ref p] H Q := ⟨p, ys, rfl, .inl h, q⟩
theorem rd_listOfT (h : SqT K H p ys) (q : ∀ l, H l = none → Q (.ref l) (upd H l (.lst ys))) : rListOf K [.ref p] H Q := ⟨p, ys, rfl, .inr h, q⟩
end
end L2

namespace L2
open PySem PySem.Spec PyProof.Rows
/-- a power with a written exponent -/
def rPowN (e : Nat) : R2 := fun x y H Q => ∃ i, x = .int i ∧ y = .int (e : Int) ∧ e ≤ 1000000 ∧ i.natAbs < 2 ^ 64 ∧ Q (.int (i ^ e)) H
theorem op_powN {X : Cx} (e : Nat) : OpR X (binaryOp .Pow) (rPowN e) := fun pins s σ H x y v u Q I rx ry ⟨i, e1, e2, h1, h2, q⟩ =>
  op_pow pins s σ H x y v u Q I rx ry ⟨i, (e : Int), e1, e2, ⟨Int.natCast_nonneg _, by omega, h2⟩, q⟩
theorem rd_powN {e : Nat} {i z : Int} {H : Hp} {Q : VK} (hz : z = (e : Int)) (h1 : e ≤ 1000000) (h2 : i.natAbs < 2 ^ 64) (q : Q (.int (i ^ e)) H) : rPowN e (.int i) (.int z) H Q := ⟨i, rfl, by rw [hz], h1, h2, q⟩
end L2

namespace L2
open PySem PySem.Spec PyProof.Rows
/-! ### a def of the text, and what it keeps -/
structure DefAt (K : PySem.W.Frag) (mg : Str → Option Value) (x : Str) (st : Stmt) (ps : List Str) : Prop where
  ex : ∃ (f : Addr) (fd : FuncData), Fun K x x st f fd ∧ mg x = some (.ref f) ∧ Binds K fd ps []
structure Def (P : Program) (w : World) (K : PySem.W.Frag) (mg : Str → Option Value) (base : Heap) (k : Nat) (x : Str) (ps : List Str) (sp : Sp) : Prop where
  ex : ∃ (f : Addr) (fd : FuncData), FnOk P w K mg base (L2.CX P w) k f fd ps sp ∧ mg x = some (.ref f) ∧ PySem.W.keepIn K (.ref f) = true ∧ Binds K fd ps []
section
variable {P : Program} {w : World} {K : PySem.W.Frag} {mg : Str → Option Value} {base : Heap}
theorem DefAt.ok {x : Str} {st : Stmt} {N ps : List Str} {k : Nat} {sp : Sp} (D : DefAt K mg x st ps) (S : FnScope N ps (defScope st)) (len : ∀ vs H Q E, sp vs H Q E → vs.length = ps.length)
    (hbody : ∀ (f : Addr) (cdv : Value) (A : Around) (outer : List Env) (s : Shared) (H : Hp) (vs : List V) (Q : VK) (E : XK), Room k (A.deeper (envOfC x (defScope st) s.heap.objs.size f cdv)) → sp vs H Q E →
      ∃ t, PSs (cxOf (L2.CX P w) P w K mg base N x (defScope st) f cdv A outer s H E) (defBody st) t ∧ t ⟨fun _ H' => Q .non H', Q, fun _ _ => False, fun _ _ => False⟩ (start N vs) H) : Def P w K mg base (k + 1) x ps sp := by
  obtain ⟨f, fd, F, g, b⟩ := D.ex
  exact ⟨f, fd, F.okX S len fun cdv A outer s H vs Q E hr h => hbody f cdv A outer s H vs Q E hr h, g, F.kp, b⟩
theorem Def.imp {k : Nat} {x : Str} {ps : List Str} {sp sp' : Sp} (D : Def P w K mg base k x ps sp) (h : ∀ vs H Q E, sp' vs H Q E → sp vs H Q E) : Def P w K mg base k x ps sp' := by
  obtain ⟨f, fd, F, g, kp, b⟩ := D.ex
  exact ⟨f, fd, F.imp h, g, kp, b⟩
theorem Def.mono {j k : Nat} {x : Str} {ps : List Str} {sp : Sp} (D : Def P w K mg base j x ps sp) (h : j ≤ k) : Def P w K mg base k x ps sp := by
  obtain ⟨f, fd, F, g, kp, b⟩ := D.ex
  exact ⟨f, fd, F.mono h, g, kp, b⟩
theorem Def.forget {k : Nat} {x : Str} {ps : List Str} {sp : Sp} (D : Def P w K mg base k x ps sp) : Def P w K mg base k x ps (fun vs H Q E => NoT H ∧ sp vs H (fun v H' => Same H H' ∧ Q v H) E) := by
  obtain ⟨f, fd, F, g, kp, b⟩ := D.ex
  exact ⟨f, fd, fn_forget F, g, kp, b⟩
end
section
variable {X : Cx}
theorem pe_d {k : Nat} {x : Str} {ps : List Str} {sp : Sp} {E : XK} {p pos : Pos} {e : Expr} {es : List Expr} {t : TA} (D : Def X.prog X.w X.K X.mg X.base k x ps sp) (hr : Room k X.A) (hx : Passes (L2.CX X.prog X.w) X E) (ha : PA X (e :: es) t) (hg : Gl X x := by rfl)
    (hd : (x == ("__debug__" : Str)) = false := by decide) (he : starEach (e :: es) X.env = (false, eval e X.env) :: starEach es X.env := by rfl) (hpl : (backTo pos (starEach es X.env)).any (·.1) = false := by rfl) :
    PE X (.Call (.Name x p) (e :: es) [] pos) (tCall sp [] E t) := by
  obtain ⟨f, fd, F, g, kp, b⟩ := D.ex
  exact pe_call F hr hg g kp b .nil hx ha hd he hpl
theorem pe_d0 {k : Nat} {x : Str} {ps : List Str} {sp : Sp} {E : XK} {p pos : Pos} (D : Def X.prog X.w X.K X.mg X.base k x ps sp) (hr : Room k X.A) (hx : Passes (L2.CX X.prog X.w) X E) (hg : Gl X x := by rfl) (hd : (x == ("__debug__" : Str)) = false := by decide) :
    PE X (.Call (.Name x p) [] [] pos) (tCall sp [] E tNil) := by
  obtain ⟨f, fd, F, g, kp, b⟩ := D.ex
  exact pe_call0 F hr hg g kp b .nil hx hd
/-- within a try's body: what is raised is wished for at the caller's slots -/
theorem pe_dS {k : Nat} {x : Str} {ps : List Str} {sp : Sp} {W : WX} {p pos : Pos} {e : Expr} {es : List Expr} {t : TA} (D : Def X.prog X.w X.K X.mg X.base k x ps sp) (hr : Room k X.A) (tk : Takes X W) (ha : PA X (e :: es) t) (hg : Gl X x := by rfl)
    (hd : (x == ("__debug__" : Str)) = false := by decide) (he : starEach (e :: es) X.env = (false, eval e X.env) :: starEach es X.env := by rfl) (hpl : (backTo pos (starEach es X.env)).any (·.1) = false := by rfl) :
    PE X (.Call (.Name x p) (e :: es) [] pos) (tCallS sp (WE W) t) := by
  obtain ⟨f, fd, F, g, kp, b⟩ := D.ex
  exact pe_callS F hr hg g kp b (fun σ => passAt tk σ) ha hd he hpl
theorem rd_callS {sp : Sp} {W : WX} {tr : TA} {σ : St} {H : Hp} {Q : VK} (h : tr σ H fun vs H1 => sp vs H1 Q (WE W σ)) : tCallS sp (WE W) tr σ H Q := h
instance st_callS {sp : Sp} {W : WX} {tr : TA} {σ : St} {H : Hp} {Q : VK} : Stp (tCallS sp (WE W) tr σ H Q) (tr σ H fun vs H1 => sp vs H1 Q (WE W σ)) := ⟨fun h => rd_callS h⟩
end
/-! ### the program's own errors -/
/-- what the top has written of ClockError, at CC -/
structure BaseC (K : PySem.W.Frag) (mg : Str → Option Value) (CC : Addr) : Prop where
  g : mg "ClockError" = some (.ref CC)
  rd : PySem.W.readsIn K CC (.type "type") = true
  ga : PySem.W.specialIn K (.ref CC) "__getattribute__" = some (some (.builtin "type.__getattribute__"))
  ini : PySem.W.findCls K (.ref CC) (.type "type") "__init__" = some (.val (.builtin "ValueError.__init__"))
section
variable {X : Cx} {e : Expr} {es : List Expr} {ta : TA} {p1 p2 pos : Pos}
theorem pe_ceinit {pl : Sem Bool} {CC : Addr} (B : BaseC X.K X.mg CC) (ha : PA X (e :: es) ta) (hg : Gl X "ClockError" := by rfl)
    (hc : eval (.Call (.Attribute (.Name "ClockError" p1) "__init__" p2) (e :: es) [] pos) X.env = (do
      let ov ← eval (.Name "ClockError" p1) X.env
      standAt p2.atName
      let (f, first) ← holding [ov] (getMethod ov "__init__" pl)
      callWith pos f first (backTo pos (starEach (e :: es) X.env)) (backToKw pos (keywordEach [] X.env))) := by rfl)
    (he : starEach (e :: es) X.env = (false, eval e X.env) :: starEach es X.env := by rfl) (hpl : (backTo pos (starEach es X.env)).any (·.1) = false := by rfl) :
    PE X (.Call (.Attribute (.Name "ClockError" p1) "__init__" p2) (e :: es) [] pos) (tVeI X.K ta) := by
  refine ⟨fun pins s σ H Q I h => ?_⟩
  refine PySem.W.methodCall_KW (ld_glob I hg B.g ?_ (by decide)) hc
  refine PySem.W.method_cls I.kIn B.ga (PySem.W.cls_value I.kIn B.rd B.ini (by decide +kernel) ?_)
  show wpAny _ _ (callWith pos (Value.builtin "ValueError.__init__") [] (backTo pos (starEach (e :: es) X.env)) []) _ _ _
  refine PyProof.Rows.callWith_method1 (thn (ha.run pos pins _ σ H _ (I.tok _) h) fun us s1 ⟨vs, H1, I1, r1, a, C, ws, ev, hl, T, ea, q⟩ => ?_) he hpl
  subst ev
  cases r1 with
  | @cons _ u0 _ ur ra rw' =>
    obtain rfl : u0 = Value.ref a := ra
    have hlen : ur.length ≤ sizeLine := by
      rw [← Paired.length rw', sizeLine_eq]
      omega
    exact oinit_ok T I1 ea hlen fun s' J => ⟨.non, H1, J, rfl, q⟩
end
/-- __init__ of an error with fields: the values ws become fl ws -/
def spErr (C : Addr) (n : Nat) (fl : List V → List (Str × V)) : Sp := fun vs H Q _ => ∃ (a : Addr) (ws : List V), vs = .ref a :: ws ∧ ws.length = n ∧ H a = some (exo a C none) ∧
  ∀ dx, H dx = none → dx ≠ a → Q .non (upd (upd H dx (exd dx (fl ws))) a (exo a C (some dx)))
/-- a class of the program's errors: raised by its name, with n values, the fields fl -/
structure ErrC (P : Program) (w : World) (K : PySem.W.Frag) (mg : Str → Option Value) (base : Heap) (x : Str) (n : Nat) (fl : List V → List (Str × V)) (C : Addr) : Prop where
  g : mg x = some (.ref C)
  T : OexC K C
  X : XfC K C
  self : PySem.W.exmOne K (.ref C) (.ref C) = some true
  ini : ∃ (fI : Addr) (fd : FuncData) (ps : List Str), PySem.W.findIn K (.ref C) "__init__" = some (some (.ref fI)) ∧ PySem.W.typeIn K (.ref fI) = some (.type "function") ∧ FnOk P w K mg base (L2.CX P w) 1 fI fd ps (spErr C n fl) ∧ Binds K fd ps []
theorem pmk_err {X : Cx} {x : Str} {C : Addr} {n : Nat} {fl : List V → List (Str × V)} {e : Expr} {es : List Expr} {ta : TA} {p pos : Pos} (Z : ErrC X.prog X.w X.K X.mg X.base x n fl C) (hr : Room 2 X.A) (ha : PA X (e :: es) ta) (hg : Gl X x := by rfl)
    (hdb : (x == ("__debug__" : Str)) = false := by decide) (he : starEach (e :: es) X.env = (false, eval e X.env) :: starEach es X.env := by rfl) (hpl : (backTo pos (starEach es X.env)).any (·.1) = false := by rfl) :
    PMk X (.Call (.Name x p) (e :: es) [] pos) (tMkO C (spErr C n fl) [] ta) := by
  obtain ⟨fI, fd, ps, iC, tI, F, b⟩ := Z.ini
  exact pmk_oex Z.T iC tI F hr b .nil passL hg Z.g ha hdb he hpl
/-- what the raising asks -/
theorem rd_mk {C : Addr} {n : Nat} {fl : List V → List (Str × V)} {ta : TA} {σ : St} {H : Hp} {Q : XK} (h : ta σ H fun vs H1 => vs.length ≤ 1000 ∧ ∀ a, H1 a = none → spErr C n fl (.ref a :: (vs ++ [])) (upd H1 a (exo a C none))
  (fun v H2 => v = .non ∧ ∃ (d : Addr) (fs : List (Str × V)), H2 a = some (exo a C (some d)) ∧ H2 d = some (exd d fs) ∧ H1 d = none ∧ Q (.ref C) (some d) (upd (del H2 a) d (.xd fs))) (fun _ _ _ => False)) : tMkO C (spErr C n fl) [] ta σ H Q := h
instance st_mk {C : Addr} {n : Nat} {fl : List V → List (Str × V)} {ta : TA} {σ : St} {H : Hp} {Q : XK} : Stp (tMkO C (spErr C n fl) [] ta σ H Q) (ta σ H fun vs H1 => vs.length ≤ 1000 ∧ ∀ a, H1 a = none → spErr C n fl (.ref a :: (vs ++ [])) (upd H1 a (exo a C none))
  (fun v H2 => v = .non ∧ ∃ (d : Addr) (fs : List (Str × V)), H2 a = some (exo a C (some d)) ∧ H2 d = some (exd d fs) ∧ H1 d = none ∧ Q (.ref C) (some d) (upd (del H2 a) d (.xd fs))) (fun _ _ _ => False)) := ⟨fun h => rd_mk h⟩
theorem rd_mk1 {C : Addr} {n : Nat} {fl : List V → List (Str × V)} {vs : List V} {H1 : Hp} {Q : XK} (hl : vs.length = n) (hn : n ≤ 1000) (h : ∀ d, H1 d = none → Q (.ref C) (some d) (upd H1 d (.xd (fl vs)))) :
    vs.length ≤ 1000 ∧ ∀ a, H1 a = none → spErr C n fl (.ref a :: (vs ++ [])) (upd H1 a (exo a C none))
      (fun v H2 => v = .non ∧ ∃ (d : Addr) (fs : List (Str × V)), H2 a = some (exo a C (some d)) ∧ H2 d = some (exd d fs) ∧ H1 d = none ∧ Q (.ref C) (some d) (upd (del H2 a) d (.xd fs))) (fun _ _ _ => False) := by
  refine ⟨by omega, fun a na => ⟨a, vs, by rw [List.append_nil], hl, upd_same, fun dx nd ne => ⟨rfl, dx, fl vs, upd_same, ?_, ?_, ?_⟩⟩⟩
  · rw [upd_ne ne, upd_same]
  · rw [upd_ne ne] at nd
    exact nd
  · have nd' : H1 dx = none := by
      rw [upd_ne ne] at nd
      exact nd
    have z := h dx nd'
    have eq : upd (del (upd (upd (upd H1 a (exo a C none)) dx (exd dx (fl vs))) a (exo a C (some dx))) a) dx (.xd (fl vs)) = upd H1 dx (.xd (fl vs)) := by
      funext b
      by_cases hb : b = dx
      · rw [hb, upd_same, upd_same]
      · rw [upd_ne hb, upd_ne hb]
        by_cases ha : b = a
        · rw [ha, del_same, na]
        · rw [del_ne ha, upd_ne ha, upd_ne hb, upd_ne ha]
    rw [eq]
    exact z
end L2

namespace L2
open PySem PySem.Spec PyProof.Rows
/-- what the top has written of an error's class -/
structure ErrRaw (K : PySem.W.Frag) (mg : Str → Option Value) (x : Str) (C : Addr) (sI : Stmt) (qual : Str) (ps : List Str) : Prop where
  g : mg x = some (.ref C)
  T : OexC K C
  X : XfC K C
  self : PySem.W.exmOne K (.ref C) (.ref C) = some true
  ini : ∃ (fI : Addr) (fd : FuncData), PySem.W.findIn K (.ref C) "__init__" = some (some (.ref fI)) ∧ PySem.W.typeIn K (.ref fI) = some (.type "function") ∧ Fun K "__init__" qual sI fI fd ∧ Binds K fd ps []
theorem ErrC.of {P : Program} {w : World} {K : PySem.W.Frag} {mg : Str → Option Value} {base : Heap} {x : Str} {C : Addr} {sI : Stmt} {qual : Str} {ps : List Str} {n : Nat} {fl : List V → List (Str × V)} (R : ErrRaw K mg x C sI qual ps)
    (h : ∀ (fI : Addr) (fd : FuncData), Fun K "__init__" qual sI fI fd → FnOk P w K mg base (L2.CX P w) 1 fI fd ps (spErr C n fl)) : ErrC P w K mg base x n fl C := by
  obtain ⟨fI, fd, i, t, F, b⟩ := R.ini
  exact ⟨R.g, R.T, R.X, R.self, fI, fd, ps, i, t, h fI fd F, b⟩
/-- an error of the class at S is what «except S» names -/
theorem exm_self {K : PySem.W.Frag} {S : Addr} (h1 : PySem.W.subIn K (.ref S) (.type "BaseException") = some true) (h2 : PySem.W.isClsIn K S = true) (h3 : PySem.W.typeIn K (.ref S) = some (.type "type")) (h4 : PySem.W.subIn K (.ref S) (.ref S) = some true) :
    PySem.W.exmOne K (.ref S) (.ref S) = some true := by
  have e1 : (PySem.W.subIn K (.ref S) (.type "BaseException") == some true) = true := by rw [h1] <;> rfl
  have e2 : ((PySem.W.clsIn K S).isSome && PySem.W.typeIn K (.ref S) == some (.type "type")) = true := by
    have h2' : (PySem.W.clsIn K S).isSome = true := h2
    rw [h2', h3] <;> rfl
  show (if (PySem.W.subIn K (.ref S) (.type "BaseException") == some true) = true then (if ((PySem.W.clsIn K S).isSome && PySem.W.typeIn K (.ref S) == some (.type "type")) = true then PySem.W.subIn K (.ref S) (.ref S) else none) else none) = some true
  rw [if_pos e1, if_pos e2]
  exact h4
theorem NoT.only {H : Hp} (h : Only H) : NoT H := fun a o e => by
  rcases h a with z | ⟨u, xs, z⟩
  · rw [z] at e
    cases e
  · rw [z] at e
    cases e
    rfl
theorem len_1 {α : Type} {ws : List α} (h : ws.length = 1) : ∃ a, ws = [a] := match ws, h with | [a], _ => ⟨a, rfl⟩
theorem len_2 {α : Type} {ws : List α} (h : ws.length = 2) : ∃ a b, ws = [a, b] := match ws, h with | [a, b], _ => ⟨a, b, rfl⟩
theorem len_3 {α : Type} {ws : List α} (h : ws.length = 3) : ∃ a b c, ws = [a, b, c] := match ws, h with | [a, b, c], _ => ⟨a, b, c, rfl⟩
/-- law's: a list of at most 63 ints is handed in, True comes out -/
def spLaw (K : PySem.W.Frag) : Sp := fun vs H Q _ => ∃ (a : Addr) (ns : List Int), vs = [.ref a] ∧ SqL K H a (ns.map V.int) ∧ ns.length ≤ 63 ∧ NoT H ∧ ∀ H', Q (.bl true) H'
end L2

namespace L2
open PySem PySem.Spec PyProof.Rows
/-! ### what is walked, by name -/
def rRng1 (S : It → Hp → Prop) (vs : List V) (H : Hp) : Prop := ∃ j : Int, vs = [.int j] ∧ -(2 ^ 62) ≤ j ∧ j < 2 ^ 62 ∧ S (Itr 0 j.toNat) H
def rRng2 (S : It → Hp → Prop) (vs : List V) (H : Hp) : Prop := ∃ i j : Int, vs = [.int i, .int j] ∧ (-(2 ^ 62) ≤ i ∧ i < 2 ^ 62 ∧ -(2 ^ 62) ≤ j ∧ j < 2 ^ 62) ∧ S (Itr i (j - i).toNat) H
def rItL (K : PySem.W.Frag) (S : It → Hp → Prop) (x : V) (H : Hp) : Prop := ∃ a, x = .ref a ∧ (∃ xs, SqL K H a xs) ∧ S (Itl K a) H
def rItT (K : PySem.W.Frag) (S : It → Hp → Prop) (x : V) (H : Hp) : Prop := ∃ a, x = .ref a ∧ (∃ xs, SqT K H a xs) ∧ S (Itt K a) H
section
variable {σ : St} {H : Hp} {Q : VK} {K : PySem.W.Frag} {v x y : V} {ta te : TE} {tt : TT} {tr : TA} {S : It → Hp → Prop}
theorem rd_iR1 (h : tr σ H (rRng1 S)) : iRng1 tr σ H S := h
instance st_iR1  : Stp (iRng1 tr σ H S) (tr σ H (rRng1 S)) := ⟨fun h => rd_iR1 h⟩
theorem rd_iR2 (h : tr σ H (rRng2 S)) : iRng2 tr σ H S := h
instance st_iR2  : Stp (iRng2 tr σ H S) (tr σ H (rRng2 S)) := ⟨fun h => rd_iR2 h⟩
theorem rd_r1 {n : Int} (h1 : -(2 ^ 62) ≤ n) (h2 : n < 2 ^ 62) (q : S (Itr 0 n.toNat) H) : rRng1 S [.int n] H := ⟨n, rfl, h1, h2, q⟩
theorem rd_r2 {m n : Int} (h1 : -(2 ^ 62) ≤ m ∧ m < 2 ^ 62 ∧ -(2 ^ 62) ≤ n ∧ n < 2 ^ 62) (q : S (Itr m (n - m).toNat) H) : rRng2 S [.int m, .int n] H := ⟨m, n, rfl, h1, q⟩
theorem rd_iL (h : ta σ H (rItL K S)) : iList K ta σ H S := h
instance st_iL  : Stp (iList K ta σ H S) (ta σ H (rItL K S)) := ⟨fun h => rd_iL h⟩
theorem rd_iT (h : ta σ H (rItT K S)) : iTup K ta σ H S := h
instance st_iT  : Stp (iTup K ta σ H S) (ta σ H (rItT K S)) := ⟨fun h => rd_iT h⟩
theorem rd_iL1 {a : Addr} {xs : List V} (h : SqL K H a xs) (q : S (Itl K a) H) : rItL K S (.ref a) H := ⟨a, rfl, ⟨xs, h⟩, q⟩
theorem rd_iT1 {a : Addr} {xs : List V} (h : SqT K H a xs) (q : S (Itt K a) H) : rItT K S (.ref a) H := ⟨a, rfl, ⟨xs, h⟩, q⟩
/-! ### list comprehensions -/
def lcB (J : It) (g : TG) (tt : TT) (te : TE) (vs : List Nat) (σ : St) (Q : VK) (H1 : Hp) : Prop := ∀ D, H1 D = none → ∃ W : Nat → Nat → Hp → Prop, (∃ m, W 0 m (upd H1 D (.lst []))) ∧ ∀ i m H, W i m H →
  (J.stop i H ∧ Q (.ref D) H) ∨ (J.go i H ∧ ∃ Nx : Hp → Prop, (∀ H', Nx H' → ∃ m', m' < m ∧ W (i + 1) m' H') ∧ ∀ x H', J.yld i H x H' → g x (wipe σ vs) H' fun σ2 H2 => wipe σ2 vs = wipe σ vs ∧ tt σ2 H2 fun b H3 =>
    if b = true then te σ2 H3 fun y H4 => ∃ acc, H4 D = some (.lst acc) ∧ acc.length < sizeLine ∧ Nx (upd H4 D (.lst (acc ++ [y]))) else Nx H3)
theorem rd_lc {wi : TI} {g : TG} {vs : List Nat} (h : wi σ H fun J H1 => lcB J g tt te vs σ Q H1) : tLc wi g tt te vs σ H Q := h
instance st_lc {wi : TI} {g : TG} {vs : List Nat} : Stp (tLc wi g tt te vs σ H Q) (wi σ H fun J H1 => lcB J g tt te vs σ Q H1) := ⟨fun h => rd_lc h⟩
theorem rd_yes {R : Bool → Hp → Prop} (q : R true H) : tYes σ H R := q
instance st_yes {R : Bool → Hp → Prop} : Stp (tYes σ H R) (R true H) := ⟨fun h => rd_yes h⟩
/-- the item that was made goes onto the list; or none does -/
def LcPut (H : Hp) (D : Addr) (l0 l1 : List V) (y : V) (H4 : Hp) : Prop := ∃ acc, H4 D = some (.lst acc) ∧ acc.length < sizeLine ∧ upd H4 D (.lst (acc ++ [y])) = upd H D (.lst l1)
def LcSkip (H : Hp) (D : Addr) (l1 : List V) (H3 : Hp) : Prop := H3 = upd H D (.lst l1)
def resR (p : Nat → Bool) (f : Nat → V) (i : Nat) : List V := ((List.range i).filter p).map f
def resL (p : V → Bool) (f : V → V) (xs : List V) : List V := (xs.filter p).map f
theorem resR_len {p : Nat → Bool} {f : Nat → V} {i : Nat} : (resR p f i).length ≤ i := by
  unfold resR
  rw [List.length_map]
  have z : ((List.range i).filter p).length ≤ (List.range i).length := List.length_filter_le _ _
  rw [List.length_range] at z
  exact z
theorem resL_len {p : V → Bool} {f : V → V} {xs : List V} : (resL p f xs).length ≤ xs.length := by
  unfold resL
  rw [List.length_map]
  exact List.length_filter_le _ _
theorem put_R {D : Addr} {p : Nat → Bool} {f : Nat → V} {i : Nat} {y : V} (hi : i < 1000000) (hp : p i = true) (hy : y = f i) : LcPut H D (resR p f i) (resR p f (i + 1)) y (upd H D (.lst (resR p f i))) := by
  refine ⟨_, upd_same, Nat.lt_of_le_of_lt resR_len (Nat.lt_trans hi (by decide)), ?_⟩
  rw [upd_upd]
  unfold resR
  rw [List.range_succ, List.filter_append, List.map_append, hy]
  simp [hp]
theorem skip_R {D : Addr} {p : Nat → Bool} {f : Nat → V} {i : Nat} (hp : p i = false) : LcSkip H D (resR p f (i + 1)) (upd H D (.lst (resR p f i))) := by
  show upd H D _ = _
  unfold resR
  rw [List.range_succ, List.filter_append, List.map_append]
  simp [hp]
theorem put_L {D : Addr} {p : V → Bool} {f : V → V} {xs : List V} {x y : V} (hi : xs.length < 1000000) (hp : p x = true) (hy : y = f x) : LcPut H D (resL p f xs) (resL p f (xs ++ [x])) y (upd H D (.lst (resL p f xs))) := by
  refine ⟨_, upd_same, Nat.lt_of_le_of_lt resL_len (Nat.lt_trans hi (by decide)), ?_⟩
  rw [upd_upd]
  unfold resL
  rw [List.filter_append, List.map_append, hy]
  simp [hp]
theorem skip_L {D : Addr} {p : V → Bool} {f : V → V} {xs : List V} {x : V} (hp : p x = false) : LcSkip H D (resL p f (xs ++ [x])) (upd H D (.lst (resL p f xs))) := by
  show upd H D _ = _
  unfold resL
  rw [List.filter_append, List.map_append]
  simp [hp]
theorem rd_lcR {lo : Int} {n : Nat} {g : TG} {vs : List Nat} (p : Nat → Bool) (f : Nat → V)
    (hs : ∀ D i, H D = none → i < n → g (.int (lo + i)) (wipe σ vs) (upd H D (.lst (resR p f i))) fun σ2 H2 => wipe σ2 vs = wipe σ vs ∧ tt σ2 H2 fun b H3 => if b = true then te σ2 H3 (LcPut H D (resR p f i) (resR p f (i + 1))) else LcSkip H D (resR p f (i + 1)) H3)
    (q : ∀ D, H D = none → Q (.ref D) (upd H D (.lst (((List.range n).filter p).map f)))) : lcB (Itr lo n) g tt te vs σ Q H := by
  intro D hD
  refine ⟨fun i m H' => m = n - i ∧ i ≤ n ∧ H' = upd H D (.lst (resR p f i)), ⟨n, by simp, Nat.zero_le _, rfl⟩, ?_⟩
  rintro i m H' ⟨rfl, hi, rfl⟩
  by_cases hlt : i < n
  · refine .inr ⟨hlt, fun H' => H' = upd H D (.lst (resR p f (i + 1))), fun H' p' => ⟨n - (i + 1), by omega, rfl, hlt, p'⟩, fun x H' y => ?_⟩
    obtain ⟨e, y⟩ := y
    subst e y
    exact hs D i hD hlt
  · have e : i = n := by omega
    subst e
    exact .inl ⟨Nat.le_refl _, q D hD⟩
theorem rd_lcL {a : Addr} {xs : List V} {g : TG} {vs : List Nat} (p : V → Bool) (f : V → V) (hS : SqL K H a xs)
    (hs : ∀ D l x r, H D = none → xs = l ++ x :: r → g x (wipe σ vs) (upd H D (.lst (resL p f l))) fun σ2 H2 => wipe σ2 vs = wipe σ vs ∧ tt σ2 H2 fun b H3 => if b = true then te σ2 H3 (LcPut H D (resL p f l) (resL p f (l ++ [x]))) else LcSkip H D (resL p f (l ++ [x])) H3)
    (q : ∀ D, H D = none → Q (.ref D) (upd H D (.lst ((xs.filter p).map f)))) : lcB (Itl K a) g tt te vs σ Q H := by
  intro D hD
  refine ⟨fun i m H' => m = xs.length - i ∧ i ≤ xs.length ∧ H' = upd H D (.lst (resL p f (xs.take i))), ⟨xs.length, by simp, Nat.zero_le _, rfl⟩, ?_⟩
  rintro i m H' ⟨rfl, hi, rfl⟩
  have hS' : SqL K (upd H D (.lst (resL p f (xs.take i)))) a xs := (same_new hD).seq hS
  by_cases hlt : i < xs.length
  · have hx : xs[i]? = some xs[i] := by simp [hlt]
    have er : xs.take (i + 1) = xs.take i ++ [xs[i]] := by rw [List.take_add_one, hx]; rfl
    refine .inr ⟨⟨xs, xs[i], hS', hx⟩, fun H' => H' = upd H D (.lst (resL p f (xs.take (i + 1)))), fun H' p' => ⟨xs.length - (i + 1), by omega, rfl, hlt, p'⟩, fun x H' y => ?_⟩
    obtain ⟨e, y⟩ := y
    subst e
    have ex : x = xs[i] := Option.some.inj ((y xs hS').symm.trans hx)
    subst ex
    have z := hs D (xs.take i) xs[i] (xs.drop (i + 1)) hD (by rw [List.getElem_cons_drop, List.take_append_drop])
    rw [← er] at z
    exact z
  · have e : i = xs.length := by omega
    subst e
    rw [List.take_length]
    exact .inl ⟨⟨xs, (same_new hD).seq hS, Nat.le_refl _⟩, q D hD⟩
/-! ### deep equality -/
theorem rd_eqD {d e : PyData} (h1 : Dp K H x d) (h2 : Dp K H y e) (s1 : SeqAt.shaped d = true) (s2 : SeqAt.shaped e = true) (q : Q (.bl (PyData.eqv d e)) H) : rEqD K x y H Q := ⟨d, e, h1, h2, s1, s2, q⟩
theorem rd_neD {d e : PyData} (h1 : Dp K H x d) (h2 : Dp K H y e) (s1 : SeqAt.shaped d = true) (s2 : SeqAt.shaped e = true) (q : Q (.bl (!PyData.eqv d e)) H) : rNeD K x y H Q := ⟨d, e, h1, h2, s1, s2, q⟩
end
section
variable {K : PySem.W.Frag} {H : Hp}
theorem dpAll_ints : ∀ ns : List Int, DpAll K H (ns.map V.int) (ns.map PyData.int)
  | [] => .nil
  | n :: r => .cons (.int n) (dpAll_ints r)
theorem dpAll_bls : ∀ ns : List Bool, DpAll K H (ns.map V.bl) (ns.map PyData.bool)
  | [] => .nil
  | n :: r => .cons (.bl n) (dpAll_bls r)
theorem dp_ints {a : Addr} {ns : List Int} (h : SqL K H a (ns.map V.int)) : Dp K H (.ref a) (.list (ns.map PyData.int)) := .lst h (dpAll_ints ns)
theorem dp_bls {a : Addr} {ns : List Bool} (h : SqL K H a (ns.map V.bl)) : Dp K H (.ref a) (.list (ns.map PyData.bool)) := .lst h (dpAll_bls ns)
end
theorem lay_ints : ∀ ns : List Int, PyData.canLayAll0 (ns.map PyData.int) = true
  | [] => rfl
  | n :: r => by
    rw [List.map_cons]
    simp [PyData.canLayAll0, lay_ints r, PyData.canLay0]
theorem eqv_ints : ∀ ns ms : List Int, PyData.eqvAll (ns.map PyData.int) (ms.map PyData.int) = decide (ns = ms)
  | [], [] => rfl
  | [], _ :: _ => rfl
  | _ :: _, [] => rfl
  | n :: r, m :: s => by
    rw [List.map_cons, List.map_cons, PyData.eqvAll, eqv_ints r s]
    by_cases h : n = m
    · subst h
      simp [PyData.eqv]
    · have : (n == m) = false := by simpa using h
      simp [PyData.eqv, this, h]
theorem eqv_bls : ∀ ns ms : List Bool, PyData.eqvAll (ns.map PyData.bool) (ms.map PyData.bool) = decide (ns = ms)
  | [], [] => rfl
  | [], _ :: _ => rfl
  | _ :: _, [] => rfl
  | n :: r, m :: s => by
    rw [List.map_cons, List.map_cons, PyData.eqvAll, eqv_bls r s]
    by_cases h : n = m
    · subst h
      simp [PyData.eqv]
    · have : (n == m) = false := by simpa using h
      simp [PyData.eqv, this, h]
/-! ### a clause of a try -/
section
variable {σ : St} {H : Hp} {K : PySem.W.Frag} {nx : St → Hp → Prop} {rt : VK} {bk ct : St → Hp → Prop} {Q : VK} {te : TE}
theorem rd_was {c cls : Value} {i : Nat} {ts : Addr → Value → Option Addr → TS} {Wout : WX} {d : Option Addr} (hx : PySem.W.exmOne K cls c = some true)
    (q : ∀ a, H a = none → ts a cls d ⟨fun σ' H' => nx (σ'.set i none) H', rt, fun σ' H' => bk (σ'.set i none) H', fun σ' H' => ct (σ'.set i none) H'⟩ (σ.set i (some (.ref a))) H) : WE (wAs K c i ts Wout ⟨nx, rt, bk, ct⟩) σ cls d H :=
  ⟨true, hx, fun _ a h => q a h, fun h => nomatch h⟩
theorem rd_wonly {c cls : Value} {ts : Addr → Value → Option Addr → TS} {Wout : WX} {d : Option Addr} (hx : PySem.W.exmOne K cls c = some true)
    (q : ∀ a, H a = none → ts a cls d ⟨nx, rt, bk, ct⟩ σ H) : WE (wOnly K c ts Wout ⟨nx, rt, bk, ct⟩) σ cls d H :=
  ⟨true, hx, fun _ a h => q a h, fun h => nomatch h⟩
def XfB (a : Addr) (cls : Value) (d : Option Addr) (C : Addr) (f : Str) (x : V) (H1 : Hp) (Q : VK) : Prop := x = .ref a ∧ cls = .ref C ∧ ∃ (dd : Addr) (fs : List (Str × V)) (v : V), d = some dd ∧ H1 dd = some (.xd fs) ∧ fs.lookup f = some v ∧ Q v H1
theorem rd_xf {a C : Addr} {cls : Value} {d : Option Addr} {f : Str} (h : te σ H fun x H1 => XfB a cls d C f x H1 Q) : tXf a cls d C f te σ H Q := h
instance st_xf {a C : Addr} {cls : Value} {d : Option Addr} {f : Str} : Stp (tXf a cls d C f te σ H Q) (te σ H fun x H1 => XfB a cls d C f x H1 Q) := ⟨fun h => rd_xf h⟩
theorem rd_xfb {a C dd : Addr} {f : Str} {fs : List (Str × V)} {v : V} (h : H dd = some (.xd fs)) (hl : fs.lookup f = some v) (q : Q v H) : XfB a (.ref C) (some dd) C f (.ref a) H Q := ⟨rfl, rfl, dd, fs, v, rfl, h, hl, q⟩
end
end L2

namespace L2
open PySem PySem.Spec PyProof.Rows
section
variable {σ : St} {H : Hp} {Q : VK} {K : PySem.W.Frag} {N : St → Hp → Prop}
theorem rd_isiII {i : Int} (q : Q (.bl true) H) : rIsi K [.int i, .ty "int"] H Q := ⟨_, _, _, _, true, rfl, .ty _, .base (.int i), kit_ty (by decide +kernel), q⟩
instance st_isiII {i : Int} : Stp (rIsi K [.int i, .ty "int"] H Q) (Q (.bl true) H) := ⟨fun h => rd_isiII h⟩
theorem rd_isiIB {i : Int} (q : Q (.bl false) H) : rIsi K [.int i, .ty "bool"] H Q := ⟨_, _, _, _, false, rfl, .ty _, .base (.int i), kit_ty (by decide +kernel), q⟩
instance st_isiIB {i : Int} : Stp (rIsi K [.int i, .ty "bool"] H Q) (Q (.bl false) H) := ⟨fun h => rd_isiIB h⟩
theorem rd_isiBB {b : Bool} (q : Q (.bl true) H) : rIsi K [.bl b, .ty "bool"] H Q := ⟨_, _, _, _, true, rfl, .ty _, .base (.bl b), kit_ty (by decide +kernel), q⟩
instance st_isiBB {b : Bool} : Stp (rIsi K [.bl b, .ty "bool"] H Q) (Q (.bl true) H) := ⟨fun h => rd_isiBB h⟩
theorem rd_unl {a : Addr} {xs : List V} {n : Nat} {t : TGs} (h : SqL K H a xs) (hn : xs.length = n) (q : t xs σ H N) : gUnl K n t (.ref a) σ H N := ⟨a, xs, rfl, h, hn, q⟩
theorem rd_slL {a : Addr} {xs : List V} {lo hi : Option Int} (h : SqL K H a xs) (q : ∀ p, H p = none → Q (.ref p) (upd H p (.lst (cutV xs lo hi)))) : rSlL K (.ref a) lo hi H Q := ⟨a, xs, rfl, h, q⟩
theorem rd_sl {r : V → Option Int → Option Int → Hp → VK → Prop} {te : TE} {tl th : TO} (h : te σ H fun x H1 => tl σ H1 fun l H2 => th σ H2 fun u H3 => r x l u H3 Q) : tSl r te tl th σ H Q := h
instance st_sl {r : V → Option Int → Option Int → Hp → VK → Prop} {te : TE} {tl th : TO} : Stp (tSl r te tl th σ H Q) (te σ H fun x H1 => tl σ H1 fun l H2 => th σ H2 fun u H3 => r x l u H3 Q) := ⟨fun h => rd_sl h⟩
theorem rd_noPart {R : Option Int → Hp → Prop} (q : R none H) : tNoPart σ H R := q
instance st_noPart {R : Option Int → Hp → Prop} : Stp (tNoPart σ H R) (R none H) := ⟨fun h => rd_noPart h⟩
def rPart (R : Option Int → Hp → Prop) (x : V) (H : Hp) : Prop := ∃ i, x = .int i ∧ R (some i) H
theorem rd_part {te : TE} {R : Option Int → Hp → Prop} (h : te σ H (rPart R)) : tPart te σ H R := h
instance st_part {te : TE} {R : Option Int → Hp → Prop} : Stp (tPart te σ H R) (te σ H (rPart R)) := ⟨fun h => rd_part h⟩
theorem rd_part1 {i : Int} {R : Option Int → Hp → Prop} (q : R (some i) H) : rPart R (.int i) H := ⟨i, rfl, q⟩
instance st_part1 {i : Int} {R : Option Int → Hp → Prop} : Stp (rPart R (.int i) H) (R (some i) H) := ⟨fun h => rd_part1 h⟩
theorem rd_cat {l b : Addr} {xs zs : List V} (h1 : H l = some (.lst xs)) (h2 : H b = some (.lst zs)) (h3 : xs.length + zs.length ≤ sizeLine) (q : ∀ p, H p = none → Q (.ref p) (upd H p (.lst (xs ++ zs)))) : rCat (.ref l) (.ref b) H Q := ⟨l, b, xs, zs, rfl, rfl, h1, h2, h3, q⟩
end
end L2
namespace L2
theorem lt_pow_of {i : Int} {k : Nat} (h1 : -(2 ^ k) < i) (h2 : i < 2 ^ k) : i.natAbs < 2 ^ k := by
  have e : ((2 ^ k : Nat) : Int) = 2 ^ k := by rw [Int.natCast_pow]; rfl
  omega
theorem CMulB.wide {i j : Int} (h1 : -(2 ^ 250) < i ∧ i < 2 ^ 250) (h2 : -(2 ^ 250) < j ∧ j < 2 ^ 250) : CMulB i j :=
  .inr (wide_mul (lt_pow_of h1.1 h1.2) (lt_pow_of h2.1 h2.2) (by decide) (by decide) (by decide))
end L2
namespace L2
open PySem PySem.Spec PyProof.Rows
section
variable {H : Hp} {Q : VK} {K : PySem.W.Frag} {p : Addr}
theorem rd_in2L {i a b : Int} (q : Q (.bl (decide (i = a ∨ i = b))) (upd H p (.lst [.int a, .int b]))) : rIn K false (.int i) (.ref p) (upd H p (.lst [.int a, .int b])) Q :=
  ⟨p, _, rfl, .inl (SqL.of upd_same), rfl, rfl, by
    show Q (.bl (inV (.int i) [.int a, .int b])) _
    rw [inV2]
    exact q⟩
instance st_in2L {i a b : Int} : Stp (rIn K false (.int i) (.ref p) (upd H p (.lst [.int a, .int b])) Q) (Q (.bl (decide (i = a ∨ i = b))) (upd H p (.lst [.int a, .int b]))) := ⟨fun h => rd_in2L h⟩
theorem rd_nin2L {i a b : Int} (q : Q (.bl (!decide (i = a ∨ i = b))) (upd H p (.lst [.int a, .int b]))) : rIn K true (.int i) (.ref p) (upd H p (.lst [.int a, .int b])) Q :=
  ⟨p, _, rfl, .inl (SqL.of upd_same), rfl, rfl, by
    show Q (.bl (!inV (.int i) [.int a, .int b])) _
    rw [inV2]
    exact q⟩
instance st_nin2L {i a b : Int} : Stp (rIn K true (.int i) (.ref p) (upd H p (.lst [.int a, .int b])) Q) (Q (.bl (!decide (i = a ∨ i = b))) (upd H p (.lst [.int a, .int b]))) := ⟨fun h => rd_nin2L h⟩
theorem rd_nin2 {i a b : Int} (q : Q (.bl (!decide (i = a ∨ i = b))) (upd H p (.tup [.int a, .int b]))) : rIn K true (.int i) (.ref p) (upd H p (.tup [.int a, .int b])) Q :=
  ⟨p, _, rfl, .inr (SqT.of upd_same), rfl, rfl, by
    show Q (.bl (!inV (.int i) [.int a, .int b])) _
    rw [inV2]
    exact q⟩
instance st_nin2 {i a b : Int} : Stp (rIn K true (.int i) (.ref p) (upd H p (.tup [.int a, .int b])) Q) (Q (.bl (!decide (i = a ∨ i = b))) (upd H p (.tup [.int a, .int b]))) := ⟨fun h => rd_nin2 h⟩
theorem beq_str {a s : Str} : (a == s) = decide (s = a) := by
  rw [Bool.beq_eq_decide_eq]
  exact decide_eq_decide.mpr eq_comm
theorem inVs4 {s a b c d : Str} : inV (.str s) [.str a, .str b, .str c, .str d] = decide (s = a ∨ s = b ∨ s = c ∨ s = d) := by
  simp only [inV, eqV, List.any_cons, List.any_nil, Bool.or_false, Bool.decide_or, beq_str]
theorem rd_ninS4 {s a b c d : Str} (q : Q (.bl (!decide (s = a ∨ s = b ∨ s = c ∨ s = d))) (upd H p (.lst [.str a, .str b, .str c, .str d]))) : rIn K true (.str s) (.ref p) (upd H p (.lst [.str a, .str b, .str c, .str d])) Q :=
  ⟨p, _, rfl, .inl (SqL.of upd_same), rfl, rfl, by
    show Q (.bl (!inV (.str s) [.str a, .str b, .str c, .str d])) _
    rw [inVs4]
    exact q⟩
instance st_ninS4 {s a b c d : Str} : Stp (rIn K true (.str s) (.ref p) (upd H p (.lst [.str a, .str b, .str c, .str d])) Q) (Q (.bl (!decide (s = a ∨ s = b ∨ s = c ∨ s = d))) (upd H p (.lst [.str a, .str b, .str c, .str d]))) := ⟨fun h => rd_ninS4 h⟩
end
end L2
namespace L2
open PySem PySem.Spec PyProof.Rows
theorem lay_all : ∀ {ds : List PyData}, (∀ d ∈ ds, d.canLay0 = true ∧ d.depth ≤ 60) → PyData.canLayAll0 ds = true ∧ PyData.depthAll ds ≤ 60
  | [], _ => ⟨rfl, Nat.zero_le _⟩
  | d :: ds, h => by
    obtain ⟨a, b⟩ := lay_all (ds := ds) fun e he => h e (List.mem_cons_of_mem _ he)
    obtain ⟨c, e⟩ := h d (List.mem_cons_self ..)
    simp only [PyData.canLayAll0, PyData.depthAll]
    exact ⟨by rw [c, a]; rfl, Nat.max_le.mpr ⟨e, b⟩⟩
theorem shaped_list {ds : List PyData} (h : ∀ d ∈ ds, d.canLay0 = true ∧ d.depth ≤ 60) : SeqAt.shaped (.list ds) = true := by
  obtain ⟨a, b⟩ := lay_all h
  unfold SeqAt.shaped
  have : (PyData.list ds).canLay0 = true := a
  rw [this, Bool.true_and, decide_eq_true_eq]
  show PyData.depthAll ds + 1 ≤ 64
  omega
theorem shaped_ints (ns : List Int) : SeqAt.shaped (.list (ns.map PyData.int)) = true := shaped_list fun d hd => by
  obtain ⟨n, _, rfl⟩ := List.mem_map.mp hd
  exact ⟨rfl, by simp [PyData.depth]⟩
theorem shaped_bls (ns : List Bool) : SeqAt.shaped (.list (ns.map PyData.bool)) = true := shaped_list fun d hd => by
  obtain ⟨n, _, rfl⟩ := List.mem_map.mp hd
  exact ⟨rfl, by simp [PyData.depth]⟩
section
variable {H : Hp} {Q : VK} {K : PySem.W.Frag} {a b p : Addr}
/-- two lists of whole numbers -/
theorem rd_eqInts {ns ms : List Int} (h1 : SqL K H a (ns.map V.int)) (h2 : SqL K H b (ms.map V.int)) (q : Q (.bl (decide (ns = ms))) H) : rEqD K (.ref a) (.ref b) H Q :=
  ⟨_, _, dp_ints h1, dp_ints h2, shaped_ints _, shaped_ints _, by rw [PyData.eqv, eqv_ints]; exact q⟩
theorem rd_neInts {ns ms : List Int} (h1 : SqL K H a (ns.map V.int)) (h2 : SqL K H b (ms.map V.int)) (q : Q (.bl (!decide (ns = ms))) H) : rNeD K (.ref a) (.ref b) H Q :=
  ⟨_, _, dp_ints h1, dp_ints h2, shaped_ints _, shaped_ints _, by rw [PyData.eqv, eqv_ints]; exact q⟩
/-- equal data -/
theorem rd_neSame {x y : V} {d : PyData} (h1 : Dp K H x d) (h2 : Dp K H y d) (s : SeqAt.shaped d = true) (q : Q (.bl false) H) : rNeD K x y H Q :=
  ⟨d, d, h1, h2, s, s, by rw [SeqAt.eqv_refl d (SeqAt.canLay_of_shaped s)]; exact q⟩
theorem rd_eqSame {x y : V} {d : PyData} (h1 : Dp K H x d) (h2 : Dp K H y d) (s : SeqAt.shaped d = true) (q : Q (.bl true) H) : rEqD K x y H Q :=
  ⟨d, d, h1, h2, s, s, by rw [SeqAt.eqv_refl d (SeqAt.canLay_of_shaped s)]; exact q⟩
theorem rd_isiL {xs : List V} (h : H a = some (.lst xs)) (q : Q (.bl true) H) : rIsi K [.ref a, .ty "list"] H Q := ⟨_, _, _, _, true, rfl, .ty _, .base (.lst h), kit_ty (by decide +kernel), q⟩
theorem rd_isiT {xs : List V} (h : H a = some (.tup xs)) (q : Q (.bl true) H) : rIsi K [.ref a, .ty "tuple"] H Q := ⟨_, _, _, _, true, rfl, .ty _, .base (.tup h), kit_ty (by decide +kernel), q⟩
end
end L2

namespace L2
open PySem PySem.Spec PyProof.Rows
theorem Same.lst {K : PySem.W.Frag} {H0 H : Hp} {a : Addr} {xs : List V} (e : Same H0 H) (h : H0 a = some (.lst xs)) : SqL K H a xs := SqL.of (e _ _ h)
theorem ne_self {α : Type} [DecidableEq α] (a : α) : (!decide (a = a)) = false := by simp
end L2
namespace L2
theorem rd_neF {p A B : Prop} [Decidable p] (h : p) (q : B) : if (!decide p) = true then A else B := by
  rw [decide_eq_true h]
  exact q
theorem rd_eqT {p A B : Prop} [Decidable p] (h : p) (q : A) : if decide p = true then A else B := by
  rw [decide_eq_true h]
  exact q
end L2
namespace L2
open PySem PySem.Spec PyProof.Rows
theorem inV_ints {x : Int} : ∀ {ns : List Int}, inV (.int x) (ns.map V.int) = decide (x ∈ ns)
  | [] => by simp [inV]
  | n :: ns => by
    have := inV_ints (x := x) (ns := ns)
    unfold inV at *
    rw [List.map_cons, List.any_cons, this, eqV, Bool.beq_eq_decide_eq, ← Bool.decide_or]
    refine decide_eq_decide.mpr ?_
    rw [List.mem_cons]
    exact or_congr eq_comm Iff.rfl
theorem flat_ints : ∀ {ns : List Int}, (ns.map V.int).all flatV = true
  | [] => rfl
  | _ :: ns => by
    rw [List.map_cons, List.all_cons, flat_ints (ns := ns)]
    rfl
section
variable {σ : St} {H : Hp} {Q : VK} {K : PySem.W.Frag} {p : Addr} {te : TE} {tt : TC}
theorem rd_inIs {x : Int} {ns : List Int} (h : SqL K H p (ns.map V.int)) (q : Q (.bl (decide (x ∈ ns))) H) : rIn K false (.int x) (.ref p) H Q :=
  rd_inL h rfl flat_ints (by rw [inV_ints]; exact q)
theorem rd_ninIs {x : Int} {ns : List Int} (h : SqL K H p (ns.map V.int)) (q : Q (.bl (!decide (x ∈ ns))) H) : rIn K true (.int x) (.ref p) H Q :=
  ⟨p, _, rfl, .inl h, rfl, flat_ints, by rw [inV_ints]; exact q⟩
theorem all_map {n : Nat} {g : Nat → Int} : ((List.range n).filter (fun _ => true)).map (fun i => V.int (g i)) = ((List.range n).map g).map V.int := by
  rw [List.filter_eq_self.mpr (fun _ _ => rfl), List.map_map]
  rfl
end
end L2
namespace L2
open PySem PySem.Spec PyProof.Rows
section
variable {σ : St} {H : Hp} {Q : VK} {K : PySem.W.Frag} {te : TE} {tt : TT}
/-- a list comprehension over a range whose items come from what stands in the heap -/
theorem rd_lcRG {lo : Int} {n : Nat} {g : TG} {vs : List Nat} (J : Addr → Nat → List V → Hp → Prop) (h0 : ∀ D, H D = none → J D 0 [] (upd H D (.lst [])))
    (hs : ∀ D i ys H', H D = none → i < n → H' D = some (.lst ys) → J D i ys H' → g (.int (lo + i)) (wipe σ vs) H' fun σ2 H2 => wipe σ2 vs = wipe σ vs ∧ tt σ2 H2 fun b H3 => if b = true then te σ2 H3 (fun y H4 => ∃ acc, H4 D = some (.lst acc) ∧ acc.length < sizeLine ∧ ∃ ys, (upd H4 D (.lst (acc ++ [y]))) D = some (.lst ys) ∧ J D (i + 1) ys (upd H4 D (.lst (acc ++ [y])))) else ∃ ys, H3 D = some (.lst ys) ∧ J D (i + 1) ys H3)
    (q : ∀ D ys H', H D = none → H' D = some (.lst ys) → J D n ys H' → Q (.ref D) H') : lcB (Itr lo n) g tt te vs σ Q H := by
  intro D hD
  refine ⟨fun i m H' => m = n - i ∧ i ≤ n ∧ ∃ ys, H' D = some (.lst ys) ∧ J D i ys H', ⟨n, by simp, Nat.zero_le _, _, upd_same, h0 D hD⟩, ?_⟩
  rintro i m H' ⟨rfl, hi, ys, hy, hj⟩
  by_cases hlt : i < n
  · refine .inr ⟨hlt, fun H' => ∃ ys, H' D = some (.lst ys) ∧ J D (i + 1) ys H', fun H' p' => ⟨n - (i + 1), by omega, rfl, hlt, p'⟩, fun x H' y => ?_⟩
    obtain ⟨e, y⟩ := y
    subst e y
    exact hs D i ys _ hD hlt hy hj
  · have e : i = n := by omega
    subst e
    exact .inl ⟨Nat.le_refl _, q D ys H' hD hy hj⟩
theorem put_G {J : Addr → Nat → List V → Hp → Prop} {D : Addr} {i : Nat} {H4 : Hp} {acc : List V} {y : V} (h : H4 D = some (.lst acc)) (hl : acc.length < sizeLine) (j : J D (i + 1) (acc ++ [y]) (upd H4 D (.lst (acc ++ [y])))) :
    ∃ acc, H4 D = some (.lst acc) ∧ acc.length < sizeLine ∧ ∃ ys, (upd H4 D (.lst (acc ++ [y]))) D = some (.lst ys) ∧ J D (i + 1) ys (upd H4 D (.lst (acc ++ [y]))) := ⟨acc, h, hl, _, upd_same, j⟩
end
end L2

namespace L2
open PySem PySem.Spec PyProof.Rows
/-! ### classes of the text: fields, methods, making, ==, calls -/
structure MethAt (K : PySem.W.Frag) (C : Addr) (m qual : Str) (st : Stmt) (ps : List Str) : Prop where
  ex : ∃ (f : Addr) (fd : FuncData), Fun K m qual st f fd ∧ Meth K C m f ∧ Binds K fd ps []
structure MDef (P : Program) (w : World) (K : PySem.W.Frag) (mg : Str → Option Value) (base : Heap) (k : Nat) (C : Addr) (m : Str) (ps : List Str) (sp : Sp) : Prop where
  ex : ∃ (f : Addr) (fd : FuncData), FnOk P w K mg base (L2.CX P w) k f fd ps sp ∧ Meth K C m f ∧ Binds K fd ps []
structure MkAt (K : PySem.W.Frag) (mg : Str → Option Value) (x : Str) (C : Addr) (qual : Str) (st : Stmt) (ps : List Str) : Prop where
  ex : ∃ (f : Addr) (fd : FuncData), Fun K "__init__" qual st f fd ∧ Mk K C f ∧ Binds K fd ps []
  g : mg x = some (.ref C)
structure MkDef (P : Program) (w : World) (K : PySem.W.Frag) (mg : Str → Option Value) (base : Heap) (k : Nat) (x : Str) (C : Addr) (ps : List Str) (sp : Sp) : Prop where
  ex : ∃ (f : Addr) (fd : FuncData), FnOk P w K mg base (L2.CX P w) k f fd ps sp ∧ Mk K C f ∧ Binds K fd ps []
  g : mg x = some (.ref C)
section
variable {P : Program} {w : World} {K : PySem.W.Frag} {mg : Str → Option Value} {base : Heap}
theorem MethAt.ok {C : Addr} {m qual : Str} {st : Stmt} {N ps : List Str} {k : Nat} {sp : Sp} (D : MethAt K C m qual st ps) (S : FnScope N ps (defScope st)) (len : ∀ vs H Q E, sp vs H Q E → vs.length = ps.length)
    (hbody : ∀ (f : Addr) (cdv : Value) (A : Around) (outer : List Env) (s : Shared) (H : Hp) (vs : List V) (Q : VK) (E : XK), Room k (A.deeper (envOfC qual (defScope st) s.heap.objs.size f cdv)) → sp vs H Q E →
      ∃ t, PSs (cxOf (L2.CX P w) P w K mg base N qual (defScope st) f cdv A outer s H E) (defBody st) t ∧ t ⟨fun _ H' => Q .non H', Q, fun _ _ => False, fun _ _ => False⟩ (start N vs) H) : MDef P w K mg base (k + 1) C m ps sp := by
  obtain ⟨f, fd, F, g, b⟩ := D.ex
  exact ⟨f, fd, F.okX S len fun cdv A outer s H vs Q E hr h => hbody f cdv A outer s H vs Q E hr h, g, b⟩
theorem MkAt.ok {x : Str} {C : Addr} {qual : Str} {st : Stmt} {N ps : List Str} {k : Nat} {sp : Sp} (D : MkAt K mg x C qual st ps) (S : FnScope N ps (defScope st)) (len : ∀ vs H Q E, sp vs H Q E → vs.length = ps.length)
    (hbody : ∀ (f : Addr) (cdv : Value) (A : Around) (outer : List Env) (s : Shared) (H : Hp) (vs : List V) (Q : VK) (E : XK), Room k (A.deeper (envOfC qual (defScope st) s.heap.objs.size f cdv)) → sp vs H Q E →
      ∃ t, PSs (cxOf (L2.CX P w) P w K mg base N qual (defScope st) f cdv A outer s H E) (defBody st) t ∧ t ⟨fun _ H' => Q .non H', Q, fun _ _ => False, fun _ _ => False⟩ (start N vs) H) : MkDef P w K mg base (k + 1) x C ps sp := by
  obtain ⟨f, fd, F, g, b⟩ := D.ex
  exact ⟨⟨f, fd, F.okX S len fun cdv A outer s H vs Q E hr h => hbody f cdv A outer s H vs Q E hr h, g, b⟩, D.g⟩
theorem MDef.imp {k : Nat} {C : Addr} {m : Str} {ps : List Str} {sp sp' : Sp} (D : MDef P w K mg base k C m ps sp) (h : ∀ vs H Q E, sp' vs H Q E → sp vs H Q E) : MDef P w K mg base k C m ps sp' := by
  obtain ⟨f, fd, F, g, b⟩ := D.ex
  exact ⟨f, fd, F.imp h, g, b⟩
theorem MDef.mono {j k : Nat} {C : Addr} {m : Str} {ps : List Str} {sp : Sp} (D : MDef P w K mg base j C m ps sp) (h : j ≤ k) : MDef P w K mg base k C m ps sp := by
  obtain ⟨f, fd, F, g, b⟩ := D.ex
  exact ⟨f, fd, F.mono h, g, b⟩
theorem MDef.forget {k : Nat} {C : Addr} {m : Str} {ps : List Str} {sp : Sp} (D : MDef P w K mg base k C m ps sp) : MDef P w K mg base k C m ps (fun vs H Q E => NoT H ∧ sp vs H (fun v H' => Same H H' ∧ Q v H) E) := by
  obtain ⟨f, fd, F, g, b⟩ := D.ex
  exact ⟨f, fd, fn_forget F, g, b⟩
end
def tFldC (C : Addr) (ta : TE) (f : Str) : TE := fun σ H Q => ta σ H fun x H1 => ∃ a dx fs v, x = .ref a ∧ H1 a = some (.ins C dx fs) ∧ fs.lookup f = some v ∧ Q v H1
def sFldC (C : Addr) (ta tv : TE) (f : Str) : TS := fun D σ H => tv σ H fun y H1 => ta σ H1 fun x H2 => ∃ a dx fs, x = .ref a ∧ H2 a = some (.ins C dx fs) ∧ fs.length < 1000 ∧ D.nx σ (upd H2 a (.ins C dx (putF f y fs)))
def tCallC (C : Addr) (sp : Sp) (E : XK) (tf : TE) (t : TA) : TE := fun σ H Q => tf σ H fun y H1 => ∃ a, y = V.ref a ∧ t σ H1 fun vs H2 => (∃ dx fs, H2 a = some (.ins C dx fs)) ∧ sp (V.ref a :: vs) H2 Q E
def rEqO (K : PySem.W.Frag) (C : Addr) (sp : Sp) (E : XK) : R2 := fun x y H Q => ∃ a dx fs ty, x = .ref a ∧ H a = some (.ins C dx fs) ∧ TyX K H y ty ∧ PySem.W.notFirst K C ty = true ∧ sp [.ref a, y] H (fun v H' => (∃ b, v = .bl b) ∧ Q v H') E
section
variable {X : Cx} {o e value : Expr} {es : List Expr} {f : Str} {pos pos' tpos apos p : Pos} {ta tv : TE} {t : TA} {C : Addr}
theorem pe_fldC (he : PE X e ta) (c : Cls X.K C) (n : NoAttr X.K C f) (hb : attributeBase e f X.env (eval e X.env) = eval e X.env := by rfl) : PE X (.Attribute e f pos) (tFldC C ta f) := by
  refine ⟨fun pins s σ H Q I h => ?_⟩
  refine attr_of hb (thn (he.run pins s σ H _ I h) fun u s1 ⟨x, H1, I1, rx, a, dx, fs, v, ex, ea, l, q⟩ => ?_)
  subst ex
  obtain rfl : u = Value.ref a := rx
  exact getattr_ok I1 ea c n l fun u' s2 I2 ru => ⟨v, H1, I2, ru, q⟩
theorem ps_fldC (ha : PE X o ta) (hv : PE X value tv) (c : Cls X.K C) (n : NoAttr X.K C f) (hs : swapsWith value (some (.Attribute o f pos')) pos.line X.env = pure false := by rfl) : PS X (.Assign [.Attribute o f pos'] value pos) (sFldC C ta tv f) := by
  refine ⟨fun pins s σ H D I h => ?_⟩
  refine plainObj_wpAny_Assign_Attribute (thn (hv.run pins s σ H _ I h) fun u s1 ⟨y, H1, I1, ry, q⟩ => thn (ha.run pins s1 σ H1 _ I1 q) fun ov s2 ⟨x, H2, I2, rx, a, dx, fs, ex, ea, l, q2⟩ => ?_) hs
  subst ex
  obtain rfl : ov = Value.ref a := rx
  exact setattr_ok I2 ea c n l ry fun s3 I3 => ⟨σ, _, I3, q2⟩
theorem pe_md {k : Nat} {m : Str} {ps : List Str} {sp : Sp} {E : XK} {pl : Sem Bool} (D : MDef X.prog X.w X.K X.mg X.base k C m ps sp) (he : PE X o ta) (c : Cls X.K C) (hr : Room k X.A) (hx : Passes (L2.CX X.prog X.w) X E) (ha : PA X (e :: es) t)
    (hst : starEach (e :: es) X.env = (false, eval e X.env) :: starEach es X.env := by rfl) (hpl : (backTo pos (starEach es X.env)).any (·.1) = false := by rfl)
    (ht : eval (.Call (.Attribute o m apos) (e :: es) [] pos) X.env = (do
      let ov ← eval o X.env
      standAt apos.atName
      let (f, first) ← holding [ov] (getMethod ov m pl)
      callWith pos f first (backTo pos (starEach (e :: es) X.env)) (backToKw pos (keywordEach [] X.env))) := by rfl) :
    PE X (.Call (.Attribute o m apos) (e :: es) [] pos) (tMeth C m sp [] E ta t) := by
  obtain ⟨f, fd, F, g, b⟩ := D.ex
  exact pe_meth he c g F hr b .nil hx ha hst hpl ht
theorem pe_md0 {k : Nat} {m : Str} {ps : List Str} {sp : Sp} {E : XK} {pl : Sem Bool} (D : MDef X.prog X.w X.K X.mg X.base k C m ps sp) (he : PE X o ta) (c : Cls X.K C) (hr : Room k X.A) (hx : Passes (L2.CX X.prog X.w) X E)
    (ht : eval (.Call (.Attribute o m apos) [] [] pos) X.env = (do
      let ov ← eval o X.env
      standAt apos.atName
      let (f, first) ← holding [ov] (getMethod ov m pl)
      callWith pos f first (backTo pos (starEach [] X.env)) (backToKw pos (keywordEach [] X.env))) := by rfl) :
    PE X (.Call (.Attribute o m apos) [] [] pos) (tMeth C m sp [] E ta tNil) := by
  obtain ⟨f, fd, F, g, b⟩ := D.ex
  exact pe_meth0 he c g F hr b .nil hx ht
theorem pe_mkd {k : Nat} {x : Str} {ps : List Str} {sp : Sp} {E : XK} (D : MkDef X.prog X.w X.K X.mg X.base k x C ps sp) (hr : Room (k + 1) X.A) (hx : Passes (L2.CX X.prog X.w) X E) (ha : PA X (e :: es) t) (hg : Gl X x := by rfl)
    (hdb : (x == ("__debug__" : Str)) = false := by decide) (he : starEach (e :: es) X.env = (false, eval e X.env) :: starEach es X.env := by rfl) (hpl : (backTo pos (starEach es X.env)).any (·.1) = false := by rfl) :
    PE X (.Call (.Name x p) (e :: es) [] pos) (tMake C sp [] E t) := by
  obtain ⟨f, fd, F, M, b⟩ := D.ex
  exact pe_make M F hr hg D.g b .nil hx ha hdb he hpl
theorem pe_mkd0 {k : Nat} {x : Str} {ps : List Str} {sp : Sp} {E : XK} (D : MkDef X.prog X.w X.K X.mg X.base k x C ps sp) (hr : Room (k + 1) X.A) (hx : Passes (L2.CX X.prog X.w) X E) (hg : Gl X x := by rfl)
    (hdb : (x == ("__debug__" : Str)) = false := by decide) :
    PE X (.Call (.Name x p) [] [] pos) (tMake C sp [] E tNil) := by
  obtain ⟨f, fd, F, M, b⟩ := D.ex
  exact pe_make0 M F hr hg D.g b .nil hx hdb
theorem pe_mcall {k : Nat} {ps : List Str} {sp : Sp} {E : XK} {fe : Expr} {tf : TE} (D : MDef X.prog X.w X.K X.mg X.base k C "__call__" ps sp) (fi : ∀ g, PySem.W.findIn X.K (.ref C) "__call__" = some (some (.ref g)) → PySem.W.fnIn X.K g = true) (hf : PE X fe tf) (hr : Room k X.A) (hx : Passes (L2.CX X.prog X.w) X E) (ha : PA X (e :: es) t)
    (ht : eval (.Call fe (e :: es) [] pos) X.env = (do callWith pos (← eval fe X.env) [] (backTo pos (starEach (e :: es) X.env)) (backToKw pos (keywordEach [] X.env))) := by rfl)
    (he : starEach (e :: es) X.env = (false, eval e X.env) :: starEach es X.env := by rfl) (hpl : (backTo pos (starEach es X.env)).any (·.1) = false := by rfl) :
    PE X (.Call fe (e :: es) [] pos) (tCallC C sp E tf t) := by
  obtain ⟨f, fd, F, g, b⟩ := D.ex
  refine ⟨fun pins s σ H Q I h => ?_⟩
  refine Call_ (thn (hf.run pins s σ H _ I h) fun u s1 ⟨y, H1, I1, ry, a, ey, q⟩ => ?_) ht
  subst ey
  obtain rfl : u = Value.ref a := ry
  refine StX.callO_with (thn (ha.run pos pins s1 σ H1 _ I1 q) fun us s2 ⟨vs, H2, I2, r, hi, q2⟩ => ?_) he hpl
  obtain ⟨ox, od, J, hd⟩ := StX.insC_at I2 (.inr hi)
  refine ⟨⟨C, ox, od, J, hd⟩, StX.run_callO (sp := fun vs H Q E => sp (vs ++ []) H Q E) ⟨g.at_, g.fn, fi f g.at_⟩ (F.raw b .nil) hr hx I2 (.inr hi) r ?_⟩
  rw [List.append_nil]
  exact q2
/-- x == y, x an instance of C with an own __eq__ -/
theorem op_eqO {k : Nat} {ps : List Str} {sp : Sp} {E : XK} (D : MDef X.prog X.w X.K X.mg X.base k C "__eq__" ps sp) (hr : Room k X.A) (hu : X.A.units < cLine) (hx : Passes (L2.CX X.prog X.w) X E) : OpR X (compareOp .Eq) (rEqO X.K C sp E) := by
  intro pins s σ H x y v u Q I rx ry h
  obtain ⟨f, fd, F, g, b⟩ := D.ex
  obtain ⟨a, dx, fs, ty, rfl, ha, hty, hn, hsp⟩ := h
  cases (show v = Value.ref a from rx)
  obtain ⟨mA, J, _⟩ := ins_get I.hok ha
  obtain ⟨od, J, _⟩ := J.look
  obtain ⟨m, hF⟩ := I.fr
  obtain ⟨P, Z, hp, _⟩ := kit_of I ry hty
  show wpAny (model X.prog X.w) X.A (richCompare .Eq (.ref a) u) (EP X pins σ Q) X.xe s
  refine PySem.W.cmp_K (op := .Eq) (tb := ty) hu hF I.ok.mod.kin J (Z.ty _ s.heap I.kIn hp) hn g.at_ g.fn ?_
  have hl := F.len _ _ _ _ hsp
  refine wpAny_mono (run_fn (dvs := []) (ds := []) (us := [.ref a, u]) (vs := [.ref a, y]) F hr b .nil hx I (.cons rfl (.cons ry .nil)) hsp) (fun r s' q => ?_) fun _ _ z => z
  obtain ⟨z, H', I', rz, ⟨bb, rfl⟩, q⟩ := q
  cases (show r = Value.bool bb from rz)
  exact ⟨.bl bb, H', I', rfl, q⟩
end
section
variable {σ : St} {H : Hp} {Q : VK} {C p : Addr} {ta tv : TE} {t : TA} {f m : Str} {v : V} {nx : St → Hp → Prop} {rt : VK} {bk ct : St → Hp → Prop} {sp : Sp} {E : XK}
theorem rd_fldC (h : ta σ H fun x H1 => ∃ a dx fs v, x = .ref a ∧ H1 a = some (.ins C dx fs) ∧ fs.lookup f = some v ∧ Q v H1) : tFldC C ta f σ H Q := h
instance st_fldC  : Stp (tFldC C ta f σ H Q) (ta σ H fun x H1 => ∃ a dx fs v, x = .ref a ∧ H1 a = some (.ins C dx fs) ∧ fs.lookup f = some v ∧ Q v H1) := ⟨fun h => rd_fldC h⟩
theorem rd_fld1 {dx : Addr} {fs : List (Str × V)} {S : V → Prop} (h : H p = some (.ins C dx fs)) (l : fs.lookup f = some v) (q : S v) : ∃ a dx fs v, V.ref p = .ref a ∧ H a = some (.ins C dx fs) ∧ fs.lookup f = some v ∧ S v := ⟨p, dx, fs, v, rfl, h, l, q⟩
theorem rd_sfldC (h : tv σ H fun y H1 => ta σ H1 fun x H2 => ∃ a dx fs, x = .ref a ∧ H2 a = some (.ins C dx fs) ∧ fs.length < 1000 ∧ nx σ (upd H2 a (.ins C dx (putF f y fs)))) : sFldC C ta tv f ⟨nx, rt, bk, ct⟩ σ H := h
instance st_sfldC  : Stp (sFldC C ta tv f ⟨nx, rt, bk, ct⟩ σ H) (tv σ H fun y H1 => ta σ H1 fun x H2 => ∃ a dx fs, x = .ref a ∧ H2 a = some (.ins C dx fs) ∧ fs.length < 1000 ∧ nx σ (upd H2 a (.ins C dx (putF f y fs)))) := ⟨fun h => rd_sfldC h⟩
theorem rd_sfld1 {dx : Addr} {fs : List (Str × V)} {S : Addr → Addr → List (Str × V) → Prop} (h : H p = some (.ins C dx fs)) (l : fs.length < 1000) (q : S p dx fs) : ∃ a dx fs, V.ref p = .ref a ∧ H a = some (.ins C dx fs) ∧ fs.length < 1000 ∧ S a dx fs := ⟨p, dx, fs, rfl, h, l, q⟩
theorem rd_meth (h : ta σ H fun x H1 => ∃ a dx fs, x = .ref a ∧ H1 a = some (.ins C dx fs) ∧ fs.lookup m = none ∧ t σ H1 fun vs H2 => sp (x :: vs) H2 Q E) : tMeth C m sp [] E ta t σ H Q := by
  show ta σ H fun x H1 => ∃ a dx fs, x = .ref a ∧ H1 a = some (.ins C dx fs) ∧ fs.lookup m = none ∧ t σ H1 fun vs H2 => sp (x :: (vs ++ [])) H2 Q E
  simp only [List.append_nil]
  exact h
instance st_meth  : Stp (tMeth C m sp [] E ta t σ H Q) (ta σ H fun x H1 => ∃ a dx fs, x = .ref a ∧ H1 a = some (.ins C dx fs) ∧ fs.lookup m = none ∧ t σ H1 fun vs H2 => sp (x :: vs) H2 Q E) := ⟨fun h => rd_meth h⟩
theorem rd_meth1 {dx : Addr} {fs : List (Str × V)} {S : Prop} (h : H p = some (.ins C dx fs)) (l : fs.lookup m = none) (q : S) : ∃ a dx fs, V.ref p = .ref a ∧ H a = some (.ins C dx fs) ∧ fs.lookup m = none ∧ S := ⟨p, dx, fs, rfl, h, l, q⟩
theorem rd_make (h : t σ H fun vs H1 => ∀ x dx, H1 x = none → H1 dx = none → dx ≠ x → sp (.ref x :: vs) (upd (upd H1 dx (.own x)) x (.ins C dx [])) (fun v H2 => v = .non ∧ Q (.ref x) H2) E) : tMake C sp [] E t σ H Q := by
  show t σ H fun vs H1 => ∀ x dx, H1 x = none → H1 dx = none → dx ≠ x → sp (.ref x :: (vs ++ [])) (upd (upd H1 dx (.own x)) x (.ins C dx [])) (fun v H2 => v = .non ∧ Q (.ref x) H2) E
  simp only [List.append_nil]
  exact h
instance st_make  : Stp (tMake C sp [] E t σ H Q) (t σ H fun vs H1 => ∀ x dx, H1 x = none → H1 dx = none → dx ≠ x → sp (.ref x :: vs) (upd (upd H1 dx (.own x)) x (.ins C dx [])) (fun v H2 => v = .non ∧ Q (.ref x) H2) E) := ⟨fun h => rd_make h⟩
theorem rd_callC (h : ta σ H fun y H1 => ∃ a, y = V.ref a ∧ t σ H1 fun vs H2 => (∃ dx fs, H2 a = some (.ins C dx fs)) ∧ sp (V.ref a :: vs) H2 Q E) : tCallC C sp E ta t σ H Q := h
instance st_callC : Stp (tCallC C sp E ta t σ H Q) (ta σ H fun y H1 => ∃ a, y = V.ref a ∧ t σ H1 fun vs H2 => (∃ dx fs, H2 a = some (.ins C dx fs)) ∧ sp (V.ref a :: vs) H2 Q E) := ⟨fun h => rd_callC h⟩
theorem rd_callO1 {S : Addr → Prop} (q : S p) : ∃ a, V.ref p = V.ref a ∧ S a := ⟨p, rfl, q⟩
instance st_callO1 {S : Addr → Prop} : Stp (∃ a, V.ref p = V.ref a ∧ S a) (S p) := ⟨fun q => rd_callO1 q⟩
theorem rd_callO2 {dx : Addr} {fs : List (Str × V)} {S : Prop} (h : H p = some (.ins C dx fs)) (q : S) : (∃ dx fs, H p = some (.ins C dx fs)) ∧ S := ⟨⟨dx, fs, h⟩, q⟩
theorem rd_isB {a b : Bool} (q : Q (.bl (decide (a = b))) H) : rIsB (.bl a) (.bl b) H Q := ⟨a, b, rfl, rfl, q⟩
instance st_isB {a b : Bool} : Stp (rIsB (.bl a) (.bl b) H Q) (Q (.bl (decide (a = b))) H) := ⟨fun h => rd_isB h⟩
theorem rd_notB {a b : Bool} (q : Q (.bl (!decide (a = b))) H) : rNotB (.bl a) (.bl b) H Q := ⟨a, b, rfl, rfl, q⟩
instance st_notB {a b : Bool} : Stp (rNotB (.bl a) (.bl b) H Q) (Q (.bl (!decide (a = b))) H) := ⟨fun h => rd_notB h⟩
theorem rd_isNone {x : V} (q : Q (.bl (decide (x = .non))) H) : (V.non = V.non) ∧ Q (.bl (decide (x = .non))) H := ⟨rfl, q⟩
instance st_isNone {x : V} : Stp ((V.non = V.non) ∧ Q (.bl (decide (x = .non))) H) (Q (.bl (decide (x = .non))) H) := ⟨fun h => rd_isNone h⟩
end
theorem kit_self {K : PySem.W.Frag} {C : Addr} : PySem.W.kitOne K (.ref C) (.ref C) = some true := if_pos (by simp)
theorem sub_ty {K : PySem.W.Frag} {C : Addr} {T : String} {l : List Value} (h : fastBuiltinMro T = some l) (hl : l.contains (.ref C) = false) : PySem.W.subIn K (.type T) (.ref C) = some false := by
  show (fastBuiltinMro T).map (·.contains (.ref C)) = some false
  rw [h, Option.map_some, hl]
theorem sub_list {K : PySem.W.Frag} {C : Addr} : PySem.W.subIn K (.type "list") (.ref C) = some false := rfl
theorem kit_list {K : PySem.W.Frag} {C : Addr} (h1 : PySem.W.isClsIn K C = true) (h2 : PySem.W.typeIn K (.ref C) = some (.type "type")) : PySem.W.kitOne K (.type "list") (.ref C) = some false := by
  have e : ((PySem.W.clsIn K C).isSome && PySem.W.typeIn K (.ref C) == some (.type "type")) = true := by
    have h1' : (PySem.W.clsIn K C).isSome = true := h1
    rw [h1', h2] <;> rfl
  show (if (Value.type "list" == Value.ref C) = true then some true else if ((PySem.W.clsIn K C).isSome && PySem.W.typeIn K (.ref C) == some (.type "type")) = true then PySem.W.subIn K (.type "list") (.ref C) else none) = some false
  rw [if_neg (by intro z; cases z), if_pos e]
  exact sub_list
theorem notFirst_list {K : PySem.W.Frag} {C : Addr} : PySem.W.notFirst K C (.type "list") = true := by
  unfold PySem.W.notFirst
  rw [sub_list]
  rfl
end L2

namespace L2
open PySem PySem.Spec PyProof.Rows
/-! ### data without bools: what == tells is equality -/
mutual
def okD : PyData → Nat → Bool
  | .none, _ => true
  | .int _, _ => true
  | .str s, _ => PyData.strOk s
  | .list xs, n => decide (0 < n) && okDs xs (n - 1)
  | .tuple xs, n => decide (0 < n) && okDs xs (n - 1)
  | .bool _, _ => false
  | .dict _, _ => false
def okDs : List PyData → Nat → Bool
  | [], _ => true
  | x :: xs, n => okD x n && okDs xs n
end
mutual
theorem okD_lay : ∀ (d : PyData) (n : Nat), okD d n = true → d.canLay0 = true ∧ d.depth ≤ n
  | .none, _, _ => ⟨rfl, by simp [PyData.depth]⟩
  | .int _, _, _ => ⟨rfl, by simp [PyData.depth]⟩
  | .str s, _, h => ⟨by simpa [okD, PyData.canLay0] using h, by simp [PyData.depth]⟩
  | .list xs, n, h => by
    simp only [okD, Bool.and_eq_true, decide_eq_true_eq] at h
    obtain ⟨a, b⟩ := okDs_lay xs (n - 1) h.2
    refine ⟨by rw [PyData.canLay0]; exact a, ?_⟩
    simp only [PyData.depth]
    omega
  | .tuple xs, n, h => by
    simp only [okD, Bool.and_eq_true, decide_eq_true_eq] at h
    obtain ⟨a, b⟩ := okDs_lay xs (n - 1) h.2
    refine ⟨by rw [PyData.canLay0]; exact a, ?_⟩
    simp only [PyData.depth]
    omega
  | .bool _, _, h => by simp [okD] at h
  | .dict _, _, h => by simp [okD] at h
theorem okDs_lay : ∀ (ds : List PyData) (n : Nat), okDs ds n = true → PyData.canLayAll0 ds = true ∧ PyData.depthAll ds ≤ n
  | [], _, _ => ⟨rfl, Nat.zero_le _⟩
  | d :: ds, n, h => by
    simp only [okDs, Bool.and_eq_true] at h
    obtain ⟨a, b⟩ := okD_lay d n h.1
    obtain ⟨c, e⟩ := okDs_lay ds n h.2
    simp only [PyData.canLayAll0, PyData.depthAll]
    exact ⟨by rw [a, c]; rfl, Nat.max_le.mpr ⟨b, e⟩⟩
end
theorem okD_shaped {d : PyData} (h : okD d 60 = true) : SeqAt.shaped d = true := by
  obtain ⟨a, b⟩ := okD_lay d 60 h
  unfold SeqAt.shaped
  rw [a, Bool.true_and, decide_eq_true_eq]
  omega
mutual
theorem okD_eqv : ∀ (d e : PyData) (n m : Nat), okD d n = true → okD e m = true → (PyData.eqv d e = true ↔ d = e)
  | .none, e, _, _, _, h => by cases e <;> simp [PyData.eqv, okD] at h ⊢
  | .int i, e, _, _, _, h => by cases e <;> simp [PyData.eqv, okD] at h ⊢
  | .str s, e, _, _, _, h => by cases e <;> simp [PyData.eqv, okD] at h ⊢
  | .list xs, e, n, m, h1, h => by
    cases e with
    | list ys =>
      simp only [okD, Bool.and_eq_true, decide_eq_true_eq] at h1 h
      rw [PyData.eqv, okDs_eqv xs ys _ _ h1.2 h.2]
      simp
    | _ => simp [PyData.eqv, okD] at h ⊢
  | .tuple xs, e, n, m, h1, h => by
    cases e with
    | tuple ys =>
      simp only [okD, Bool.and_eq_true, decide_eq_true_eq] at h1 h
      rw [PyData.eqv, okDs_eqv xs ys _ _ h1.2 h.2]
      simp
    | _ => simp [PyData.eqv, okD] at h ⊢
  | .bool _, _, _, _, h1, _ => by simp [okD] at h1
  | .dict _, _, _, _, h1, _ => by simp [okD] at h1
theorem okDs_eqv : ∀ (ds es : List PyData) (n m : Nat), okDs ds n = true → okDs es m = true → (PyData.eqvAll ds es = true ↔ ds = es)
  | [], es, _, _, _, _ => by cases es <;> simp [PyData.eqvAll]
  | d :: ds, es, n, m, h1, h2 => by
    cases es with
    | nil => simp [PyData.eqvAll]
    | cons e es =>
      simp only [okDs, Bool.and_eq_true] at h1 h2
      rw [PyData.eqvAll, Bool.and_eq_true, okD_eqv d e n m h1.1 h2.1, okDs_eqv ds es n m h1.2 h2.2]
      simp
end
theorem okD_dec {d e : PyData} [Decidable (d = e)] (h1 : okD d 60 = true) (h2 : okD e 60 = true) : PyData.eqv d e = decide (d = e) := by
  rw [Bool.eq_iff_iff, okD_eqv d e 60 60 h1 h2, decide_eq_true_iff]
theorem okDs_map {α : Type} {f : α → PyData} {n : Nat} : ∀ {l : List α}, (∀ x ∈ l, okD (f x) n = true) → okDs (l.map f) n = true
  | [], _ => rfl
  | x :: l, h => by
    rw [List.map_cons, okDs, h x (List.mem_cons_self ..), okDs_map fun y hy => h y (List.mem_cons_of_mem _ hy)]
    rfl
open Classical in
noncomputable instance decD (d e : PyData) : Decidable (d = e) := Classical.propDecidable _
section
variable {K : PySem.W.Frag} {H H' : Hp} {Q : VK} {x y : V} {d e : PyData}
theorem rd_eqP {p : Prop} [Decidable p] (h1 : Dp K H x d) (h2 : Dp K H y e) (o1 : okD d 60 = true) (o2 : okD e 60 = true) (hp : d = e ↔ p) (q : Q (.bl (decide p)) H) : rEqD K x y H Q :=
  ⟨d, e, h1, h2, okD_shaped o1, okD_shaped o2, by rw [okD_dec o1 o2, decide_eq_decide.mpr hp]; exact q⟩
theorem rd_neP {p : Prop} [Decidable p] (h1 : Dp K H x d) (h2 : Dp K H y e) (o1 : okD d 60 = true) (o2 : okD e 60 = true) (hp : d = e ↔ p) (q : Q (.bl (!decide p)) H) : rNeD K x y H Q :=
  ⟨d, e, h1, h2, okD_shaped o1, okD_shaped o2, by rw [okD_dec o1 o2, decide_eq_decide.mpr hp]; exact q⟩
theorem Same.seqT {K : PySem.W.Frag} {H H' : Hp} {a : Addr} {xs : List V} (e : Same H H') (h : SqT K H a xs) : SqT K H' a xs := by
  rcases h with (h | ⟨o, h⟩) | h
  · exact .inl (.inl (e _ _ h))
  · exact .inl (.inr ⟨o, e _ _ h⟩)
  · exact .inr h
mutual
theorem Dp.same (s : Same H H') : ∀ {v : V} {d : PyData}, Dp K H v d → Dp K H' v d
  | _, _, .non => .non
  | _, _, .bl b => .bl b
  | _, _, .int i => .int i
  | _, _, .str x => .str x
  | _, _, .lst h a => .lst (s.seq h) (DpAll.same s a)
  | _, _, .tup h a => .tup (Same.seqT s h) (DpAll.same s a)
theorem DpAll.same (s : Same H H') : ∀ {vs : List V} {ds : List PyData}, DpAll K H vs ds → DpAll K H' vs ds
  | _, _, .nil => .nil
  | _, _, .cons h a => .cons (Dp.same s h) (DpAll.same s a)
end
theorem DpAll.len : ∀ {vs : List V} {ds : List PyData}, DpAll K H vs ds → vs.length = ds.length
  | _, _, .nil => rfl
  | _, _, .cons _ a => by rw [List.length_cons, List.length_cons, DpAll.len a]
theorem DpAll.at : ∀ {vs : List V} {ds : List PyData} {i : Nat} {v : V}, DpAll K H vs ds → vs[i]? = some v → ∃ d, ds[i]? = some d ∧ Dp K H v d
  | _, _, i, _, .nil, e => by cases e
  | _, _, 0, _, .cons (d := d) h _, e => ⟨d, rfl, by cases e; exact h⟩
  | _, _, i + 1, _, .cons _ a, e => DpAll.at (i := i) a e
theorem DpAll.snoc : ∀ {vs : List V} {ds : List PyData} {v : V} {d : PyData}, DpAll K H vs ds → Dp K H v d → DpAll K H (vs ++ [v]) (ds ++ [d])
  | _, _, _, _, .nil, h => .cons h .nil
  | _, _, _, _, .cons a r, h => .cons a (DpAll.snoc r h)
theorem Dp.int_inv {n : Int} (h : Dp K H x (.int n)) : x = .int n := by
  cases h
  rfl
theorem Dp.str_inv {n : Str} (h : Dp K H x (.str n)) : x = .str n := by
  cases h
  rfl
theorem Dp.tup_inv {ds : List PyData} (h : Dp K H x (.tuple ds)) : ∃ a xs, x = .ref a ∧ SqT K H a xs ∧ DpAll K H xs ds := by
  cases h with
  | tup a b => exact ⟨_, _, rfl, a, b⟩
theorem Dp.lst_inv {ds : List PyData} (h : Dp K H x (.list ds)) : ∃ a xs, x = .ref a ∧ SqL K H a xs ∧ DpAll K H xs ds := by
  cases h with
  | lst a b => exact ⟨_, _, rfl, a, b⟩
theorem DpAll.ints : ∀ {ns : List Int} {vs : List V}, DpAll K H vs (ns.map PyData.int) → vs = ns.map V.int
  | [], _, .nil => rfl
  | n :: ns, _, .cons h a => by rw [Dp.int_inv h, DpAll.ints a]; rfl
theorem DpAll.nil_inv {vs : List V} (h : DpAll K H vs []) : vs = [] := by
  cases h
  rfl
theorem DpAll.cons_inv {vs : List V} {ds : List PyData} (h : DpAll K H vs (d :: ds)) : ∃ v vs', vs = v :: vs' ∧ Dp K H v d ∧ DpAll K H vs' ds := by
  cases h with
  | cons a b => exact ⟨_, _, rfl, a, b⟩
end
/-! ### loops that leave the heap -/
section
variable {σ : St} {H : Hp} {K : PySem.W.Frag} {t : TS} {nx : St → Hp → Prop} {rt : VK}
theorem rd_forRs {lo : Int} {n : Nat} {g : TG} (Pv : Nat → St → Prop) (h0 : Pv 0 σ)
    (hs : ∀ i σ, i < n → Pv i σ → g (.int (lo + i)) σ H fun σ2 H2 => t ⟨fun σ' H' => H = H' ∧ Pv (i + 1) σ', rt, nx, fun σ' H' => H = H' ∧ Pv (i + 1) σ'⟩ σ2 H2) (hd : ∀ σ, Pv n σ → nx σ H) : fBody (Itr lo n) g t nx rt σ H :=
  rd_forR (fun i σ' H' => H = H' ∧ Pv i σ') ⟨rfl, h0⟩ (fun i σ' H' hi p => by obtain ⟨rfl, p⟩ := p; exact hs i σ' hi p) fun σ' H' p => by obtain ⟨rfl, p⟩ := p; exact hd σ' p
theorem rd_forLs {a : Addr} {xs : List V} {g : TG} (Pv : Nat → St → Prop) (hl : SqL K H a xs) (h0 : Pv 0 σ)
    (hs : ∀ i x σ, xs[i]? = some x → Pv i σ → g x σ H fun σ2 H2 => t ⟨fun σ' H' => H = H' ∧ Pv (i + 1) σ', rt, nx, fun σ' H' => H = H' ∧ Pv (i + 1) σ'⟩ σ2 H2) (hd : ∀ σ, Pv xs.length σ → nx σ H) : fBody (Itl K a) g t nx rt σ H :=
  rd_forL (fun i σ' H' => H = H' ∧ Pv i σ') ⟨rfl, h0⟩ (fun i σ' H' _ p => by obtain ⟨rfl, _⟩ := p; exact hl) (fun i x σ' H' hi p => by obtain ⟨rfl, p⟩ := p; exact hs i x σ' hi p) fun σ' H' p => by obtain ⟨rfl, p⟩ := p; exact hd σ' p
theorem rd_forTs {a : Addr} {xs : List V} {g : TG} (Pv : Nat → St → Prop) (hl : SqT K H a xs) (h0 : Pv 0 σ)
    (hs : ∀ i x σ, xs[i]? = some x → Pv i σ → g x σ H fun σ2 H2 => t ⟨fun σ' H' => H = H' ∧ Pv (i + 1) σ', rt, nx, fun σ' H' => H = H' ∧ Pv (i + 1) σ'⟩ σ2 H2) (hd : ∀ σ, Pv xs.length σ → nx σ H) : fBody (Itt K a) g t nx rt σ H :=
  rd_forT (fun i σ' H' => H = H' ∧ Pv i σ') ⟨rfl, h0⟩ (fun i σ' H' _ p => by obtain ⟨rfl, _⟩ := p; exact hl) (fun i x σ' H' hi p => by obtain ⟨rfl, p⟩ := p; exact hs i x σ' hi p) fun σ' H' p => by obtain ⟨rfl, p⟩ := p; exact hd σ' p
end
section
theorem rd_eqF {p A B : Prop} [Decidable p] (h : ¬ p) (q : B) : if decide p = true then A else B := by
  rw [decide_eq_false h]
  exact q
theorem rd_neT {p A B : Prop} [Decidable p] (h : ¬ p) (q : A) : if (!decide p) = true then A else B := by
  rw [decide_eq_false h]
  exact q
end
instance st_non {P : Prop} : Stp (V.non = V.non ∧ P) P := ⟨fun h => ⟨rfl, h⟩⟩
theorem non_int {k : Int} : ¬ V.int k = V.non := fun z => V.noConfusion z
theorem non_ref {k : Addr} : ¬ V.ref k = V.non := fun z => V.noConfusion z
theorem upd_at {H : Hp} {p q : Addr} {o u : HO} (h : H p = some o) (n : H p = some o → p ≠ q) : upd H q u p = some o := (upd_ne (n h)).trans h
end L2

namespace L2
open PySem PySem.Spec PyProof.Rows
/-! ### sizes of whole numbers, by bits -/
structure Bd (n : Nat) (x : Int) : Prop where
  h : x.natAbs < 2 ^ n
theorem Bd.mono {n m : Nat} {x : Int} (h : Bd n x) (hm : n ≤ m) : Bd m x := ⟨Nat.lt_of_lt_of_le h.h (Nat.pow_le_pow_right (by decide) hm)⟩
theorem Bd.mul {n m : Nat} {x y : Int} (h : Bd n x) (k : Bd m y) : Bd (n + m) (x * y) := ⟨wide_lt h.h k.h⟩
theorem Bd.neg {n : Nat} {x : Int} (h : Bd n x) : Bd n (-x) := ⟨by
  rw [Int.natAbs_neg]
  exact h.h⟩
theorem Bd.add {n m : Nat} {x y : Int} (h : Bd n x) (k : Bd m y) : Bd (max n m + 1) (x + y) := ⟨by
  have a := (Bd.mono h (Nat.le_max_left n m)).h
  have b := (Bd.mono k (Nat.le_max_right n m)).h
  have := Int.natAbs_add_le x y
  rw [Nat.pow_succ]
  omega⟩
theorem Bd.sub {n m : Nat} {x y : Int} (h : Bd n x) (k : Bd m y) : Bd (max n m + 1) (x - y) := by
  rw [Int.sub_eq_add_neg]
  exact Bd.add h k.neg
theorem Bd.lt {n : Nat} {x : Int} (h : Bd n x) : -(2 ^ n) < x ∧ x < 2 ^ n := by
  have e : ((2 ^ n : Nat) : Int) = 2 ^ n := by rw [Int.natCast_pow]; rfl
  have := h.h
  omega
theorem Bd.of {n : Nat} {x : Int} (h : -(2 ^ n) < x) (k : x < 2 ^ n) : Bd n x := ⟨by
  have e : ((2 ^ n : Nat) : Int) = 2 ^ n := by rw [Int.natCast_pow]; rfl
  omega⟩
theorem Bd.le {n : Nat} {x y : Int} (h : Bd n y) (h1 : x.natAbs ≤ y.natAbs) : Bd n x := ⟨Nat.lt_of_le_of_lt h1 h.h⟩
theorem Bd.div {n : Nat} {x y : Int} (h : Bd n x) (hy : 0 < y) : Bd (n + 1) (x / y) := by
  have l := h.lt
  have p0 : (0 : Int) < 2 ^ n := Int.pow_pos (by decide)
  have e := Int.mul_ediv_add_emod x y
  have r0 := Int.emod_nonneg x (show y ≠ 0 by omega)
  have r1 := Int.emod_lt_of_pos x hy
  refine Bd.of ?_ ?_
  · rw [Int.pow_succ]
    have : -(2 ^ n) ≤ x / y := by
      refine Int.le_ediv_of_mul_le hy ?_
      have : (2 : Int) ^ n * 1 ≤ 2 ^ n * y := Int.mul_le_mul_of_nonneg_left (by omega) (by omega)
      rw [Int.neg_mul]
      omega
    omega
  · rw [Int.pow_succ]
    by_cases hx : 0 ≤ x
    · have := Int.ediv_le_self y hx
      omega
    · have := Int.ediv_neg_of_neg_of_pos (show x < 0 by omega) hy
      omega
theorem Bd.lit {x : Int} {n : Nat} (h : x.natAbs < 2 ^ 64) (hn : 64 ≤ n) : Bd n x := Bd.mono ⟨h⟩ hn
theorem Bd.mulN {n : Nat} {x y : Int} (h : Bd (n / 2) x) (k : Bd (n / 2) y) : Bd n (x * y) := (h.mul k).mono (by omega)
theorem Bd.addN {n : Nat} {x y : Int} (h : Bd (n - 1) x) (k : Bd (n - 1) y) (hn : 0 < n) : Bd n (x + y) := (h.add k).mono (by omega)
theorem Bd.subN {n : Nat} {x y : Int} (h : Bd (n - 1) x) (k : Bd (n - 1) y) (hn : 0 < n) : Bd n (x - y) := (h.sub k).mono (by omega)
theorem CMulB.bd {x y : Int} (h : Bd 9000 x) (k : Bd 9000 y) : CMulB x y := .inr (wide_mul h.h k.h (by decide) (by decide) (by decide))
end L2
namespace L2
open PySem PySem.Spec PyProof.Rows
/-! ### texts of whole numbers, str(o) of an own __str__ -/
def txI (i : Int) : Str := Str.ofString (toString i)
theorem txI_len {i : Int} {n : Nat} (h : Bd n i) (hn : n ≤ 1000) : (txI i).length ≤ 1001 ∧ i.natAbs.log2 < 1000 := by
  have l : i.natAbs.log2 < 1000 := PySem.Flt.log2_lt_of (by decide) (h.mono hn).h
  have e := int_text_length_le (k := 1000) (by decide) l
  unfold txI
  rw [PySem.ofString_length]
  exact ⟨e, l⟩
def rStrO (C : Addr) (sp : Sp) (E : XK) : List V → Hp → VK → Prop := fun xs H Q => ∃ a dx fs, xs = [.ref a] ∧ H a = some (.ins C dx fs) ∧ sp [.ref a] H (fun v H' => ∃ z, v = .str z ∧ Q (.str z) H') E
def rStrI : List V → Hp → VK → Prop := fun xs H Q => ∃ i, xs = [.int i] ∧ i.natAbs.log2 < 1920 ∧ Q (.str (txI i)) H
section
variable {X : Cx}
theorem call_strI : CallR X (.type "str") rStrI := call_str_int
theorem call_strO {k : Nat} {C : Addr} {ps : List Str} {sp : Sp} {E : XK} (D : MDef X.prog X.w X.K X.mg X.base k C "__str__" ps sp) (hr : Room (k + 2) X.A) (hx : Passes (L2.CX X.prog X.w) X E) : CallR X (.type "str") (rStrO C sp E) := by
  intro pins s σ H xs us Q I r h
  obtain ⟨f, fd, F, g, b⟩ := D.ex
  obtain ⟨a, dx, fs, rfl, ha, hsp⟩ := h
  obtain ⟨u, rfl, hu⟩ := vals1 r
  cases (show u = Value.ref a from hu)
  obtain ⟨mA, J, _⟩ := ins_get I.hok ha
  obtain ⟨od, J, _⟩ := J.look
  refine PySem.W.kso_call hr.in1.in1.units0 I.kIn J g.at_ g.fn ?_
  have e0 : Env0 X.prog X.w X.K X.mg X.base X.A.in1.in1 X.stack s H := by
    have e := I.env0
    exact ⟨e.frames, e.mod, e.bs, e.bsz, e.funs, e.frf, e.hok, e.bare⟩
  have hl := F.len _ _ _ _ hsp
  have r2 : Vals [V.ref a] [Value.ref a] := .cons rfl .nil
  refine wpAny_call (codeAny_mono (F.run X.A.in1.in1 X.stack s H ⟨[.ref a], []⟩ [.ref a] [.ref a] _ E hr.in1.in1 e0 (by
    have := b s [.ref a] I.kIn (by simpa using hl)
    simpa using this) r2 hsp) fun r s' hq => ?_)
  cases r with
  | error e => exact hx pins σ H s e s' I hq
  | ok fl =>
    cases fl with
    | ret w =>
      obtain ⟨z, H', I', rz, y, ez, q⟩ := I.after hq
      subst ez
      obtain ⟨t, rfl⟩ := rz
      exact ⟨.str y, H', I', ⟨t, rfl⟩, q⟩
    | next => exact False.elim hq
    | brk => exact False.elim hq
    | cont => exact False.elim hq
end
section
variable {σ : St} {H : Hp} {Q : VK} {te : TE} {ts : List TE} {acc : Str} {R : Str → Hp → Prop}
def rFmt (Q : VK) : V → Hp → Prop := fun x H1 => (∃ y : Str, x = .str y ∧ y.length ≤ sizeLine ∧ Q (.str y) H1) ∨ ∃ i : Int, x = .int i ∧ i.natAbs.log2 < 1920 ∧ Q (.str (toString i)) H1
instance st_fmt : Stp (tFmt te σ H Q) (te σ H (rFmt Q)) := ⟨fun h => h⟩
theorem rd_fmtI {i : Int} (h : i.natAbs.log2 < 1920) (q : Q (.str (txI i)) H) : rFmt Q (.int i) H := .inr ⟨i, rfl, h, q⟩
instance st_jsN : Stp (tJs [] acc σ H R) (R acc H) := ⟨fun h => h⟩
def rJs (ts : List TE) (acc : Str) (σ : St) (R : Str → Hp → Prop) : V → Hp → Prop := fun x H1 => ∃ y : Str, x = .str y ∧ (acc ++ y).length ≤ sizeLine ∧ tJs ts (acc ++ y) σ H1 R
instance st_jsC : Stp (tJs (te :: ts) acc σ H R) (te σ H (rJs ts acc σ R)) := ⟨fun h => h⟩
theorem rd_js {y : Str} (h : (acc ++ y).length ≤ sizeLine) (q : tJs ts (acc ++ y) σ H R) : rJs ts acc σ R (.str y) H := ⟨y, rfl, h, q⟩
theorem rd_strI {i : Int} (h : i.natAbs.log2 < 1920) (q : Q (.str (txI i)) H) : rStrI [.int i] H Q := ⟨i, rfl, h, q⟩
end
end L2

namespace L2
open PySem PySem.Spec PyProof.Rows
/-! ### walks of other kinds -/
section
variable {σ : St} {H : Hp} {K : PySem.W.Frag} {t : TS} {nx : St → Hp → Prop} {rt : VK} {Q : VK} {tr : TA} {te : TE} {tt : TT} {S : It → Hp → Prop} {J : It} {n : Nat} {G : Hp → Prop} {Y : Nat → Hp → V → Hp → Prop}
theorem rd_forW (w : Walk J n G Y) {g : TG} (Pv : Nat → St → Hp → Prop) (h0 : Pv 0 σ H) (hG : ∀ i σ H, i ≤ n → Pv i σ H → G H)
    (hs : ∀ i x σ H H', i < n → Pv i σ H → Y i H x H' → g x σ H' fun σ2 H2 => t ⟨Pv (i + 1), rt, nx, Pv (i + 1)⟩ σ2 H2) (hd : ∀ σ H, Pv n σ H → nx σ H) : fBody J g t nx rt σ H :=
  for_it (D := ⟨nx, rt, fun _ _ => False, fun _ _ => False⟩) w Pv h0 hG hs hd
def rIRev (K : PySem.W.Frag) (S : It → Hp → Prop) (vs : List V) (H : Hp) : Prop := ∃ (a : Addr) (xs : List V), vs = [.ref a] ∧ SqL K H a xs ∧ S (Itv K a xs.length) H
instance st_iRev : Stp (iRev K tr σ H S) (tr σ H (rIRev K S)) := ⟨fun h => h⟩
theorem rd_iRev1 {a : Addr} {xs : List V} (h : SqL K H a xs) (q : S (Itv K a xs.length) H) : rIRev K S [.ref a] H := ⟨a, xs, rfl, h, q⟩
theorem rd_forV {a : Addr} {xs : List V} {g : TG} (Pv : Nat → St → Hp → Prop) (h0 : Pv 0 σ H) (hl : ∀ i σ H, i ≤ xs.length → Pv i σ H → SqL K H a xs)
    (hs : ∀ i x σ H, xs.reverse[i]? = some x → Pv i σ H → g x σ H fun σ2 H2 => t ⟨Pv (i + 1), rt, nx, Pv (i + 1)⟩ σ2 H2) (hd : ∀ σ H, Pv xs.length σ H → nx σ H) : fBody (Itv K a xs.length) g t nx rt σ H :=
  rd_forW (walk_rev (K := K) (a := a) (xs := xs)) Pv h0 hl (fun i x σ H H' hi p y => by
    obtain ⟨rfl, y⟩ := y
    refine hs i x σ _ ?_ p
    rw [List.getElem?_reverse hi]
    exact y) hd
theorem rd_forVs {a : Addr} {xs : List V} {g : TG} (Pv : Nat → St → Prop) (hl : SqL K H a xs) (h0 : Pv 0 σ)
    (hs : ∀ i x σ, xs.reverse[i]? = some x → Pv i σ → g x σ H fun σ2 H2 => t ⟨fun σ' H' => H = H' ∧ Pv (i + 1) σ', rt, nx, fun σ' H' => H = H' ∧ Pv (i + 1) σ'⟩ σ2 H2) (hd : ∀ σ, Pv xs.length σ → nx σ H) : fBody (Itv K a xs.length) g t nx rt σ H :=
  rd_forV (fun i σ' H' => H = H' ∧ Pv i σ') ⟨rfl, h0⟩ (fun i σ' H' _ p => by obtain ⟨rfl, _⟩ := p; exact hl) (fun i x σ' H' hi p => by obtain ⟨rfl, p⟩ := p; exact hs i x σ' hi p) fun σ' H' p => by obtain ⟨rfl, p⟩ := p; exact hd σ' p
/-- a comprehension over a list; each turn only makes new things -/
theorem rd_lcP {a : Addr} {xs : List V} {g : TG} {vs : List Nat} (P : Nat → List V → Prop) (hS : SqL K H a xs) (nt : NoT H) (h0 : P 0 [])
    (hs : ∀ D i ys x H', xs[i]? = some x → Same H H' → NoT H' → H D = none → H' D = some (.lst ys) → P i ys → g x (wipe σ vs) H' fun σ2 H2 => wipe σ2 vs = wipe σ vs ∧ tt σ2 H2 fun b H3 =>
      if b = true then te σ2 H3 (fun y H4 => ∃ acc, H4 D = some (.lst acc) ∧ acc.length < sizeLine ∧ ∃ ys, upd H4 D (.lst (acc ++ [y])) D = some (.lst ys) ∧ Same H (upd H4 D (.lst (acc ++ [y]))) ∧ NoT (upd H4 D (.lst (acc ++ [y]))) ∧ P (i + 1) ys)
      else ∃ ys, H3 D = some (.lst ys) ∧ Same H H3 ∧ NoT H3 ∧ P (i + 1) ys)
    (q : ∀ D ys H', H D = none → H' D = some (.lst ys) → Same H H' → NoT H' → P xs.length ys → Q (.ref D) H') : lcB (Itl K a) g tt te vs σ Q H := by
  intro D hD
  refine lc_it (walk_list (K := K) (a := a) (xs := xs)) (fun i H' => ∃ ys, H' D = some (.lst ys) ∧ Same H H' ∧ NoT H' ∧ P i ys) ⟨[], upd_same, same_new hD, NoT.upd nt rfl, h0⟩ (fun i H' _ ⟨ys, _, s, _⟩ => s.seq hS) ?_ (fun H' ⟨ys, h1, s, n, p⟩ => q D ys H' hD h1 s n p)
  rintro i x H' H'' hi ⟨ys, h1, s, n, p⟩ ⟨rfl, hx⟩
  exact hs D i ys x _ hx s n hD h1 p
theorem put_P {P : List V → Prop} {D : Addr} {H H4 : Hp} {acc : List V} {y : V} (h : H4 D = some (.lst acc)) (hl : acc.length < sizeLine) (sm : Same H H4) (hD : H D = none) (n : NoT H4) (p : P (acc ++ [y])) :
    ∃ acc, H4 D = some (.lst acc) ∧ acc.length < sizeLine ∧ ∃ ys, upd H4 D (.lst (acc ++ [y])) D = some (.lst ys) ∧ Same H (upd H4 D (.lst (acc ++ [y]))) ∧ NoT (upd H4 D (.lst (acc ++ [y]))) ∧ P ys :=
  ⟨acc, h, hl, _, upd_same, same_upd2 sm hD, NoT.upd n rfl, p⟩
/-- the same over a range -/
theorem rd_lcRP {lo : Int} {m : Nat} {g : TG} {vs : List Nat} (P : Nat → List V → Prop) (nt : NoT H) (h0 : P 0 [])
    (hs : ∀ D i ys H', i < m → Same H H' → NoT H' → H D = none → H' D = some (.lst ys) → P i ys → g (.int (lo + i)) (wipe σ vs) H' fun σ2 H2 => wipe σ2 vs = wipe σ vs ∧ tt σ2 H2 fun b H3 =>
      if b = true then te σ2 H3 (fun y H4 => ∃ acc, H4 D = some (.lst acc) ∧ acc.length < sizeLine ∧ ∃ ys, upd H4 D (.lst (acc ++ [y])) D = some (.lst ys) ∧ Same H (upd H4 D (.lst (acc ++ [y]))) ∧ NoT (upd H4 D (.lst (acc ++ [y]))) ∧ P (i + 1) ys)
      else ∃ ys, H3 D = some (.lst ys) ∧ Same H H3 ∧ NoT H3 ∧ P (i + 1) ys)
    (q : ∀ D ys H', H D = none → H' D = some (.lst ys) → Same H H' → NoT H' → P m ys → Q (.ref D) H') : lcB (Itr lo m) g tt te vs σ Q H := by
  intro D hD
  refine lc_it (walk_range (lo := lo) (n := m)) (fun i H' => ∃ ys, H' D = some (.lst ys) ∧ Same H H' ∧ NoT H' ∧ P i ys) ⟨[], upd_same, same_new hD, NoT.upd nt rfl, h0⟩ (fun i H' _ _ => trivial) ?_ (fun H' ⟨ys, h1, s, n, p⟩ => q D ys H' hD h1 s n p)
  rintro i x H' H'' hi ⟨ys, h1, s, n, p⟩ ⟨rfl, hx⟩
  subst hx
  exact hs D i ys _ hi s n hD h1 p
end
def rAddS : R2 := fun x y H Q => ∃ i j, x = .str i ∧ y = .str j ∧ i.length + j.length ≤ sizeLine ∧ Q (.str (i ++ j)) H
theorem op_addS {X : Cx} : OpR X (binaryOp .Add) rAddS := op_add_str
theorem rd_addS {H : Hp} {Q : VK} {i j : Str} (h : i.length + j.length ≤ sizeLine) (q : Q (.str (i ++ j)) H) : rAddS (.str i) (.str j) H Q := ⟨i, j, rfl, rfl, h, q⟩
def rRevV (K : PySem.W.Frag) (Q : VK) : V → Hp → Prop := fun x H1 => ∃ a xs, x = .ref a ∧ SqL K H1 a xs ∧ ∀ p, H1 p = none → Q (.ref p) (upd H1 p (.lst xs.reverse))
instance st_revL {K : PySem.W.Frag} {te : TE} {σ : St} {H : Hp} {Q : VK} : Stp (tRevL K te σ H Q) (te σ H (rRevV K Q)) := ⟨fun h => h⟩
theorem rd_revV {K : PySem.W.Frag} {H : Hp} {Q : VK} {a : Addr} {xs : List V} (h : SqL K H a xs) (q : ∀ p, H p = none → Q (.ref p) (upd H p (.lst xs.reverse))) : rRevV K Q (.ref a) H := ⟨a, xs, rfl, h, q⟩
theorem room2 {xs zs : List V} {n m : Nat} (h1 : xs.length ≤ n) (h2 : zs.length ≤ m) (h : n + m ≤ 1000000) : xs.length + zs.length ≤ sizeLine := Nat.le_trans (Nat.add_le_add h1 h2) (Nat.le_trans h (by decide))
theorem len_one {v : V} : [v].length ≤ 1 := Nat.le_refl 1
theorem len_app {xs ys : List V} {n m : Nat} (h1 : xs.length ≤ n) (h2 : ys.length ≤ m) : (xs ++ ys).length ≤ n + m := by
  rw [List.length_append]
  exact Nat.add_le_add h1 h2
theorem len_rev {xs : List V} {n : Nat} (h : xs.length ≤ n) : xs.reverse.length ≤ n := by
  rw [List.length_reverse]
  exact h
theorem same_upd3 {H H' : Hp} {p : Addr} {o : HO} (h : Same H H') (hp : H' p = none) : Same H (upd H' p o) := same_upd2 h (h.free hp)
section
variable {H : Hp} {Q : VK} {i : Int}
theorem rd_eqNN (q : Q (.bl true) H) : rEq .non .non H Q := ⟨rfl, by simpa using q⟩
instance st_eqNN : Stp (rEq .non .non H Q) (Q (.bl true) H) := ⟨fun h => rd_eqNN h⟩
theorem rd_neNN (q : Q (.bl false) H) : rNe .non .non H Q := ⟨rfl, by simpa using q⟩
instance st_neNN : Stp (rNe .non .non H Q) (Q (.bl false) H) := ⟨fun h => rd_neNN h⟩
theorem rd_eqNI (q : Q (.bl false) H) : rEq .non (.int i) H Q := ⟨rfl, by simpa using q⟩
instance st_eqNI : Stp (rEq .non (.int i) H Q) (Q (.bl false) H) := ⟨fun h => rd_eqNI h⟩
theorem rd_neNI (q : Q (.bl true) H) : rNe .non (.int i) H Q := ⟨rfl, by simpa using q⟩
instance st_neNI : Stp (rNe .non (.int i) H Q) (Q (.bl true) H) := ⟨fun h => rd_neNI h⟩
theorem rd_eqIN (q : Q (.bl false) H) : rEq (.int i) .non H Q := ⟨rfl, by simpa using q⟩
instance st_eqIN : Stp (rEq (.int i) .non H Q) (Q (.bl false) H) := ⟨fun h => rd_eqIN h⟩
theorem rd_neIN (q : Q (.bl true) H) : rNe (.int i) .non H Q := ⟨rfl, by simpa using q⟩
instance st_neIN : Stp (rNe (.int i) .non H Q) (Q (.bl true) H) := ⟨fun h => rd_neIN h⟩
end
end L2

namespace L2
open PySem PySem.Spec PyProof.Rows
/-! ### sets of ints -/
section
variable {P : Program} {w : World} {K : PySem.W.Frag} {mg : Str → Option Value} {base : Heap}
/-- a def whose text asks of its code object -/
theorem DefAt.okC {x : Str} {st : Stmt} {N ps : List Str} {k : Nat} {sp : Sp} (D : DefAt K mg x st ps) (S : FnScope N ps (defScope st)) (len : ∀ vs H Q E, sp vs H Q E → vs.length = ps.length)
    (body : ∀ (f : Addr) (cdv : Value) (hcd : PySem.W.kdsCode K cdv = true) (A : Around) (outer : List Env) (s : Shared) (H : Hp) (vs : List V) (Q : VK) (E : XK), Room k (A.deeper (envOfC x (defScope st) s.heap.objs.size f cdv)) → sp vs H Q E →
      ∃ t, PSs (cxOf (L2.CX P w) P w K mg base N x (defScope st) f cdv A outer s H E) (defBody st) t ∧ t ⟨fun _ H' => Q .non H', Q, fun _ _ => False, fun _ _ => False⟩ (start N vs) H) : Def P w K mg base (k + 1) x ps sp := by
  obtain ⟨f, fd, F, g, b⟩ := D.ex
  have kp := F.kp
  obtain ⟨c0, d0, v1, v2, v3, v4, cdv, v5, sl, rfl, lk, hcd⟩ := F.ex
  exact ⟨f, _, fn_of lk hcd S len fun A outer s H vs Q E r h => body f cdv (kdsCode_of hcd) A outer s H vs Q E r h, g, kp, b⟩
end
section
variable {X : Cx}
def setNo : Int → Bool := fun _ => false
/-- two ints in braces -/
def tSet2 (w : World) (t1 t2 : TE) : TE := fun σ H Q => ∀ D, H D = none → t1 σ (upd H D (SetO w D setNo 0)) fun x H1 => t2 σ H1 fun y H2 => ∃ i j : Int, x = .int i ∧ y = .int j ∧ H2 D = some (SetO w D setNo 0) ∧
  Q (.ref D) (upd H2 D (SetO w D (fun k => decide (k = i ∨ k = j)) (if i = j then 1 else 2)))
theorem setAdd_int {pins : List (Addr × Obj)} {σ : St} {H : Hp} {s : Shared} {D : Addr} {S : Int → Bool} {n : Nat} {k : Int} {u : Value} {A : Around} {E : Value → Shared → Prop} {Q : Bool → Shared → Prop} (I : Inv X pins σ H s) (hD : H D = some (SetO X.w D S n)) (hn : n + 1 < scanBound) (hu : RelV (.int k) u)
    (q : ∀ s', Inv X pins σ (upd H D (SetO X.w D (fun j => S j || decide (j = k)) (if S k = true then n else n + 1))) s' → ∀ b, Q b s') : wpAny (model X.prog X.w) A (setAdd D u) Q E s := by
  obtain ⟨tk, rfl⟩ := hu
  have R := setO_get I hD
  unfold setAdd
  refine wpAny_holding (wpAny_bind ((intKind X.prog X.w).pyHash (intKind_is X.prog X.w k tk) ?_))
  refine setR_add_hashed (s := { s with toks := s.toks + 1 }) R hn fun h' sb new => q _ ?_ _
  have there : ∃ o, h'.get? D = some o := by
    obtain ⟨o, _, _, _, ho, _⟩ := new
    exact ⟨o, ho⟩
  exact I.write (e := D) (t' := s.toks + 1) (by rw [hD]; trivial) (.inl rfl) (fun b o ne ho => (sb.2 b ne).trans ho) there (setO_new new)
theorem pe_set2 {e1 e2 : Expr} {t1 t2 : TE} {pos : Pos} (h1 : PE X e1 t1) (h2 : PE X e2 t2) (hcd : PySem.W.kdsCode X.K X.env.code = true)
    (hs : starEach [e1, e2] X.env = [(false, eval e1 X.env), (false, eval e2 X.env)] := by rfl) : PE X (.Set [e1, e2] 0 pos) (tSet2 X.w t1 t2) := by
  refine ⟨fun pins s σ H Q I h => ?_⟩
  rw [arm_eval_Set, hs]
  refine wpAny_bind (wpAny_standAt (wpAny_bind (PySem.W.kds_main I.kIn hcd fun b => ?_)))
  show wpAny _ _ (setDisplay .oneByOne b [(false, eval e1 X.env >>= fun v => standAt pos >>= fun _ => pure v), (false, eval e2 X.env >>= fun v => standAt pos >>= fun _ => pure v)]) _ _ _
  unfold setDisplay
  rw [if_neg (by decide)]
  refine wpAny_bind (PpSet.newSet_ok ?_)
  have I1 : Inv X pins σ (upd H s.heap.objs.size (SetO X.w s.heap.objs.size setNo 0)) _ := I.laid (t' := s.toks) (fun b o z => Heap.get?_push_of_some _ z) (Nat.le_refl _) (setO_new (setR_fresh X.w))
  replace h := h s.heap.objs.size (I.hok.fresh (Nat.le_refl _))
  generalize s.heap.objs.size = D at *
  refine wpAny_bind (wpAny_holding (wpAny_bind ?_))
  show wpAny _ _ (evalAll [eval e1 X.env >>= fun v => standAt pos >>= fun _ => pure v, eval e2 X.env >>= fun v => standAt pos >>= fun _ => pure v]) _ _ _
  refine wpAny_bind (wpAny_bind (thn (h1.run pins _ σ _ _ I1 h) fun u1 s1 ⟨x, H1, I2, r1, g⟩ => wpAny_bind (wpAny_standAt (wpAny_pure ?_))))
  refine wpAny_bind (wpAny_holding (wpAny_bind (wpAny_bind (thn (h2.run pins _ σ _ _ I2 g) fun u2 s2 ⟨y, H2, I3, r2, i, j, ex, ey, hD, q⟩ => wpAny_bind (wpAny_standAt (wpAny_pure ?_))))))
  subst ex ey
  refine wpAny_bind (wpAny_holding (wpAny_pure (wpAny_pure (wpAny_pure ?_))))
  refine wpAny_bind (wpAny_holding (wpAny_bind ?_))
  rw [List.forIn_cons]
  refine wpAny_bind (wpAny_bind (setAdd_int I3 hD (by decide) r1 fun s3 I4 _ => wpAny_pure ?_))
  dsimp only
  rw [List.forIn_cons]
  refine wpAny_bind (wpAny_bind (setAdd_int I4 upd_same (by show 0 + 1 + 1 < scanBound; decide) r2 fun s4 I5 _ => wpAny_pure ?_))
  dsimp only
  rw [List.forIn_nil, if_neg (by decide)]
  refine wpAny_pure (wpAny_pure (wpAny_pure ?_))
  rw [upd_upd] at I5
  have e1 : (fun l => setNo l || decide (l = i) || decide (l = j)) = fun k : Int => decide (k = i ∨ k = j) := by
    funext l
    simp [setNo]
  have e2 : (if (setNo j || decide (j = i)) = true then if setNo i = true then 0 else 0 + 1 else (if setNo i = true then 0 else 0 + 1) + 1) = if i = j then 1 else 2 := by
    by_cases z : i = j
    · simp [setNo, z]
    · have z2 : ¬ j = i := fun y => z y.symm
      simp [setNo, z, z2]
  rw [e1, e2] at I5
  exact wpAny_pure ⟨.ref D, _, I5, rfl, q⟩
instance st_set2 {w : World} {t1 t2 : TE} {σ : St} {H : Hp} {Q : VK} : Stp (tSet2 w t1 t2 σ H Q) (∀ D, H D = none → t1 σ (upd H D (SetO w D setNo 0)) fun x H1 => t2 σ H1 fun y H2 => ∃ i j : Int, x = .int i ∧ y = .int j ∧ H2 D = some (SetO w D setNo 0) ∧
  Q (.ref D) (upd H2 D (SetO w D (fun k => decide (k = i ∨ k = j)) (if i = j then 1 else 2)))) := ⟨fun h => h⟩
instance st_par3 {i j l : Nat} {ta : TA} {σ : St} {H : Hp} {nx : St → Hp → Prop} {rt : VK} {bk ct : St → Hp → Prop} : Stp (tPar3 i j l ta ⟨nx, rt, bk, ct⟩ σ H) (ta σ H fun vs H1 => ∃ u v w, vs = [u, v, w] ∧ nx (((σ.set i (some u)).set j (some v)).set l (some w)) H1) := ⟨fun h => h⟩
instance st_par3e {u v w : V} {nx : V → V → V → Prop} : Stp (∃ u' v' w', [u, v, w] = [u', v', w'] ∧ nx u' v' w') (nx u v w) := ⟨fun h => ⟨u, v, w, rfl, h⟩⟩
/-- sorted of two ints in braces -/
theorem rd_sortSet2 {w : World} {D : Addr} {i j : Int} {n : Nat} {H : Hp} {Q : VK} (hD : H D = some (SetO w D (fun k => decide (k = i ∨ k = j)) n)) (hn : n < 64)
    (q : ∀ p, H p = none → Q (.ref p) (upd H p (.lst ((if i < j then [i, j] else if j < i then [j, i] else [i]).map V.int)))) : rSortedSet w [.ref D] H Q := by
  refine ⟨D, _, n, rfl, hD, hn, fun ns p h1 h2 _ hp => ?_⟩
  have e : ns = if i < j then [i, j] else if j < i then [j, i] else [i] := by
    have mem : ∀ k, k ∈ ns ↔ k = i ∨ k = j := fun k => by rw [h2 k]; simp
    match ns, h1, mem with
    | [], _, mem => exact absurd ((mem i).mpr (.inl rfl)) List.not_mem_nil
    | [a], _, mem =>
      have a1 := List.mem_singleton.mp ((mem i).mpr (.inl rfl))
      have a2 := List.mem_singleton.mp ((mem j).mpr (.inr rfl))
      subst a1
      subst a2
      rw [if_neg (by omega), if_neg (by omega)]
    | a :: b :: l, h1, mem =>
      obtain ⟨p1, p2⟩ := List.pairwise_cons.mp h1
      have hab := p1 b List.mem_cons_self
      have ha := (mem a).mp List.mem_cons_self
      have hb := (mem b).mp (List.mem_cons_of_mem _ List.mem_cons_self)
      have hl : l = [] := by
        cases l with
        | nil => rfl
        | cons c l =>
          have hc := (mem c).mp (List.mem_cons_of_mem _ (List.mem_cons_of_mem _ List.mem_cons_self))
          have h3 := p1 c (List.mem_cons_of_mem _ List.mem_cons_self)
          have h4 := (List.pairwise_cons.mp p2).1 c List.mem_cons_self
          omega
      subst hl
      rcases ha with rfl | rfl
      · rcases hb with rfl | rfl
        · omega
        · rw [if_pos hab]
      · rcases hb with rfl | rfl
        · rw [if_neg (by omega), if_pos hab]
        · omega
  rw [e]
  exact q p hp
end
end L2

namespace L2
open PySem PySem.Spec PyProof.Rows
theorem setPut_int {X : Cx} {pins : List (Addr × Obj)} {σ : St} {H : Hp} {s : Shared} {E : Value → Shared → Prop} {D : Addr} {S : Int → Bool} {n : Nat} {k : Int} {u : Value} {Q : Value → Shared → Prop} (I : Inv X pins σ H s) (at_ : H D = some (SetO X.w D S n)) (roomy : n + 1 < scanBound) (hu : RelV (.int k) u)
    (q : ∀ s', Inv X pins σ (upd H D (SetO X.w D (fun j => S j || decide (j = k)) (if S k = true then n else n + 1))) s' → Q .none s') : wpAny (model X.prog X.w) X.A (call (.builtin "set.add") [.ref D, u]) Q E s := by
  obtain ⟨tk, rfl⟩ := hu
  refine setR_add (setO_get I at_) roomy fun h' sb new => q _ ?_
  have there : ∃ o, h'.get? D = some o := by
    obtain ⟨o, _, _, _, ho, _⟩ := new
    exact ⟨o, ho⟩
  exact I.write (e := D) (t' := s.toks + 1) (by rw [at_]; trivial) (.inl rfl) (fun b o ne ho => (sb.2 b ne).trans ho) there (setO_new new)
section
variable {X : Cx}
/-- a set of whol, made by a comprehension: D the new set, Z what each turn keeps -/
def tScI (w : World) (wi : TI) (g : TG) (tt : TT) (te : TE) (vs : List Nat) : TE := fun σ H Q => wi σ H fun J H1 => ∀ D, H1 D = none → ∃ Z : Nat → Nat → Hp → Prop, (∃ m, Z 0 m (upd H1 D (SetO w D setNo 0))) ∧ ∀ i m G, Z i m G →
  (J.stop i G ∧ Q (.ref D) G) ∨ (J.go i G ∧ ∃ Y : Hp → Prop, (∀ G', Y G' → ∃ l, l < m ∧ Z (i + 1) l G') ∧ ∀ x G', J.yld i G x G' → g x (wipe σ vs) G' fun σ2 G2 => wipe σ2 vs = wipe σ vs ∧ tt σ2 G2 fun b G3 =>
    if b = true then te σ2 G3 fun y G4 => ∃ (c : Int) (S : Int → Bool) (n : Nat), y = .int c ∧ G4 D = some (SetO w D S n) ∧ n + 1 < scanBound ∧ Y (upd G4 D (SetO w D (fun j => S j || decide (j = c)) (if S c = true then n else n + 1))) else Y G3)
theorem scI_gen {pins : List (Addr × Obj)} {s : Shared} {σ : St} {H : Hp} {Q : VK} {use : Option (Value → Sem Unit)} {Qf : Value → Shared → Prop} {pos2 : Pos} {elt tg iter : Expr} {ifs : List Expr} {scope : Scope} {own : List (PySem.Str × Nat)} {pos : Pos} {wi : TI} {g : TG} {tt : TT} {te : TE} (calm : X.calm = true) (nd : X.N.Nodup) (it0 : PI X tg iter wi) (ok : BlkOk X.N X.env.scope scope own)
    (pg0 : ∀ (s0 : Shared) (G : Hp) (C : Addr) (cl : List (PySem.Str × Addr)) (fp : List Addr), PG (X.blk s0 G scope (compEnvC scope cl C X.env) fp) tg g)
    (pt0 : ∀ (s0 : Shared) (G : Hp) (C : Addr) (cl : List (PySem.Str × Addr)) (fp : List Addr), PTs (X.blk s0 G scope (compEnvC scope cl C X.env) fp) ifs tt)
    (pe0 : ∀ (s0 : Shared) (G : Hp) (C : Addr) (cl : List (PySem.Str × Addr)) (fp : List Addr), PE (X.blk s0 G scope (compEnvC scope cl C X.env) fp) elt te) (fold : ∀ x, foldedSetIterable iter X.env x = pure x)
    (I0 : Inv X pins σ H s) (want : (tScI X.w wi g tt te (own.map (·.2))) σ H Q)
    (last : ∀ D C s' m H', Inv X pins σ H' s' → Q (.ref D) H' → s'.heap.Ns C m → FpOk X pins H' C → compPost (model X.prog X.w) X.A X.xe use Qf (.ref D) C (.ok .next) s') :
    wpAny (model X.prog X.w) X.A (comprehension (.SetComp elt [⟨tg, iter, ifs, 0⟩] scope pos) scope X.env pos2 (newSet (.type "set")) false (eval iter X.env) use) Qf X.xe s := by
  have clo : ∀ y ∈ scope.names, y.2 = .free → ∃ c, X.env.cells.lookup y.1 = some c := fun y hy e => I0.ok.has _ ((ok.free y hy e).elim .inl .inr)
  refine wpAny_comprehension_free (use := use) rfl fold (closure_ok clo) ok.kind (fun y hy e => by rw [ok.uniq y hy, e]) (thn (it0.run pins s σ H _ I0 want) fun _ _ hx => thn hx fun _ s2 got => ?_)
  obtain ⟨it, fp, tn, J, H2, rfl, I2, T, st2, f2, q⟩ := got
  refine PpSet.newSet_ok (newEnv_comp ?_)
  obtain ⟨Z, ⟨m0, z0⟩, turn⟩ := q s2.heap.objs.size (I2.hok.fresh (Nat.le_refl _))
  have I3 : Inv X pins σ (upd H2 s2.heap.objs.size (SetO X.w s2.heap.objs.size setNo 0)) _ := I2.laid (t' := s2.toks) (fun b o e => Heap.get?_push_of_some _ e) (Nat.le_refl _) (setO_new (setR_fresh X.w))
  have old : ∀ b ∈ fp, b < s2.heap.objs.size := fun b hb => let ⟨_, e, _⟩ := T.obj _ _ st2 b hb; Heap.lt_size e
  generalize hs3 : ({ s2 with heap := s2.heap.push { cls := .type "set", dict := none, data := .set #[] 0 (.fresh 0 0 (!X.w.params.followText "set-order")) } } : Shared) = s3 at *
  have grown : ∀ b o, s2.heap.get? b = some o → s3.heap.get? b = some o := fun b o e => by rw [← hs3]; exact Heap.get?_push_of_some _ e
  have wider : s3.heap.objs.size = s2.heap.objs.size + 1 := by rw [← hs3]; exact Heap.size_push _ _
  have f3 : ∀ b ∈ fp, FpOk X pins (upd H2 s2.heap.objs.size (SetO X.w s2.heap.objs.size setNo 0)) b ∧ b < s3.heap.objs.size := fun b hb =>
    ⟨⟨by rw [upd_ne (Nat.ne_of_lt (old b hb))]; exact (f2 b hb).1, (f2 b hb).2⟩, by rw [wider]; exact Nat.lt_succ_of_lt (old b hb)⟩
  generalize s2.heap.objs.size = D at *
  have st3 := T.keep _ _ _ st2 fun b _ o e => grown b o e
  have I4 := block_start I3 ok nd f3
  generalize hH3 : upd H2 D (SetO X.w D setNo 0) = H3 at *
  have pg := pg0 s3 H3 s3.heap.objs.size (cellsFrom (s3.heap.objs.size + 1) scope.names (cloFrom X.env.cells scope.names [])) fp
  have pt := pt0 s3 H3 s3.heap.objs.size (cellsFrom (s3.heap.objs.size + 1) scope.names (cloFrom X.env.cells scope.names [])) fp
  have pe := pe0 s3 H3 s3.heap.objs.size (cellsFrom (s3.heap.objs.size + 1) scope.names (cloFrom X.env.cells scope.names [])) fp
  generalize hS4 : ({ s3 with heap := pushCells (s3.heap.push { cls := .type "dict", data := .dict #[] }) scope.names } : Shared) = s4 at *
  generalize hce : compEnvC scope (cellsFrom (s3.heap.objs.size + 1) scope.names (cloFrom X.env.cells scope.names [])) s3.heap.objs.size X.env = ce at *
  have place : ce.locals = s3.heap.objs.size := by rw [← hce]; rfl
  show codeAny _ _ (.compStart (.SetComp elt [⟨tg, iter, ifs, 0⟩] scope pos) 0 (.ref it) (.ref D) (compEnvC scope (cellsFrom (s3.heap.objs.size + 1) scope.names (cloFrom X.env.cells scope.names [])) s3.heap.objs.size X.env)) (compPost (model X.prog X.w) X.A X.xe use Qf (.ref D) s3.heap.objs.size) s4
  rw [hce]
  have st4 := T.keep _ _ s4.heap st3 fun b _ o e => by rw [← hS4]; exact pushCells_keeps _ _ _ _ (Heap.get?_push_of_some _ e)
  have none3 : ∀ b ∈ fp, H3 b = none := fun b hb => (f3 b hb).1.1
  -- an object of the walk may be met again inside the block
  have meet : ∀ {τ : L2.St} {G : Hp} {t : Shared}, Inv (X.blk s3 H3 scope ce fp) [] τ G t → (∀ b ∈ fp, G b = none) → ∀ b ∈ fp, FpOk (X.blk s3 H3 scope ce fp) [] G b := fun {τ G t} V no b hb =>
    ⟨no b hb, (V.ok.exf b hb).1, V.ok.exfs b hb, .inl hb, fun x c e => (V.ok.exf b hb).2 x c e, fun p hp => absurd (show p ∈ ([] : List (Addr × Obj)) ++ [] from hp) (by simp)⟩
  have around : codeAny (model X.prog X.w) X.A (.compLoop (.SetComp elt [⟨tg, iter, ifs, 0⟩] scope pos) 0 (.ref it) (.ref D) ce) (compPost (model X.prog X.w) X.A X.xe use Qf (.ref D) s3.heap.objs.size) s4 := by
    refine PpSet.compLoopS_any (fun m t => ∃ i G, Inv (X.blk s3 H3 scope ce fp) [] (wipe σ (own.map (·.2))) G t ∧ tn i t.heap ∧ (∀ b ∈ fp, G b = none) ∧ Z i m G) ?_ m0 ⟨0, H3, I4, st4, none3, z0⟩
    rintro m t5 ⟨i, G5, V5, w5, no5, z5⟩
    rcases turn i m G5 z5 with ⟨halt, want5⟩ | ⟨more, Y, fewer, step⟩
    · refine thnF (T.done (X.blk s3 H3 scope ce fp) rfl rfl rfl calm i [] t5 _ G5 (fun _ _ => False) V5 (meet V5 no5) w5 halt) fun r t6 ⟨er, V6⟩ => ?_
      subst er
      have V7 : Inv X pins σ G5 t6 := I3.call' (ch := fp) V6.os V6.base V6.hok V6.bare fun b hb => ⟨(f3 b hb).1.2.2.2.1, (f3 b hb).1.2.1, (f3 b hb).1.2.2.2.2.1, (f3 b hb).1.2.2.2.2.2⟩
      have gone : G5 s3.heap.objs.size = none := place ▸ (show G5 ce.locals = none from V6.free)
      obtain ⟨nm, ns6, _⟩ := V6.loc
      replace ns6 : t6.heap.Ns s3.heap.objs.size nm := place ▸ ns6
      exact last D s3.heap.objs.size t6 nm G5 V7 want5 ns6 (I3.fpOk (Nat.le_refl _) gone)
    · refine thnF (T.item (X.blk s3 H3 scope ce fp) rfl rfl rfl calm i [] t5 _ G5 (fun _ _ => False) V5 (meet V5 no5) w5 more) fun r t6 ⟨u, er, rest⟩ => ?_
      subst er
      refine thnF rest fun _ t7 ⟨x, G7, V7, r7, y7, w7, no7⟩ => ?_
      refine thnF (pg.run _ t7 _ G7 x u _ (V7.pinned (meet V7 no7) (T.obj _ _ w7)) r7 (step x G7 y7)) fun _ t8 ⟨τ, G8, V8, same8, q8⟩ => ?_
      refine thnF (pt.run _ t8 τ G8 _ V8 q8) fun b t9 ⟨G9, V9, q9⟩ => ?_
      have wend : ∀ {tz : Shared} {Gz : Hp}, Inv (X.blk s3 H3 scope ce fp) ([] ++ pinsAt fp t7.heap) τ Gz tz → Y Gz → ∃ l, l < m ∧ ∃ i G, Inv (X.blk s3 H3 scope ce fp) [] (wipe σ (own.map (·.2))) G tz ∧ tn i tz.heap ∧ (∀ b ∈ fp, G b = none) ∧ Z i l G := fun {tz Gz} Vz yz => by
        obtain ⟨l, lt, zl⟩ := fewer Gz yz
        have kept : ∀ b ∈ fp, ∀ o, t7.heap.get? b = some o → tz.heap.get? b = some o ∧ Gz b = none := fun b hb o e =>
          let k := Vz.pin (b, o) (List.mem_append_right _ (List.mem_append_right _ (mem_pinsAt hb e)))
          ⟨k.1, k.2.1⟩
        refine ⟨l, lt, i + 1, Gz, (Vz.unpinned (pins := [])).weak (by rw [← same8, wipe_length]) (fun j v e => (wipe_some (same8 ▸ e)).1), T.keep _ _ _ w7 fun b hb o e => (kept b hb o e).1, fun b hb => ?_, zl⟩
        obtain ⟨o, e, _⟩ := T.obj _ _ w7 b hb
        exact (kept b hb o e).2
      cases b with
      | false => exact wend V9 q9
      | true =>
        refine thnF (pe.run _ t9 τ G9 _ V9 q9) fun z t10 ⟨yv, G10, V10, r10, c, S0, n0, ey, at10, roomy, nxt⟩ => ?_
        subst ey
        exact setPut_int (X := X.blk s3 H3 scope ce fp) V10 at10 roomy r10 fun t11 V11 => wend V11 nxt
  exact PpSet.codeAny_compStart_set around (T.self X.A 0 _ _ _ st4 around)
theorem pe_scI {elt tg iter : Expr} {ifs : List Expr} {scope : Scope} {own : List (PySem.Str × Nat)} {pos : Pos} {wi : TI} {g : TG} {tt : TT} {te : TE} (calm : X.calm = true) (nd : X.N.Nodup) (it0 : PI X tg iter wi) (ok : BlkOk X.N X.env.scope scope own)
    (pg0 : ∀ (s0 : Shared) (G : Hp) (C : Addr) (cl : List (PySem.Str × Addr)) (fp : List Addr), PG (X.blk s0 G scope (compEnvC scope cl C X.env) fp) tg g)
    (pt0 : ∀ (s0 : Shared) (G : Hp) (C : Addr) (cl : List (PySem.Str × Addr)) (fp : List Addr), PTs (X.blk s0 G scope (compEnvC scope cl C X.env) fp) ifs tt)
    (pe0 : ∀ (s0 : Shared) (G : Hp) (C : Addr) (cl : List (PySem.Str × Addr)) (fp : List Addr), PE (X.blk s0 G scope (compEnvC scope cl C X.env) fp) elt te) (fold : ∀ x, foldedSetIterable iter X.env x = pure x := by intro _; rfl) :
    PE X (.SetComp elt [⟨tg, iter, ifs, 0⟩] scope pos) (tScI X.w wi g tt te (own.map (·.2))) := by
  refine ⟨fun pins s σ H Q I0 want => ?_⟩
  rw [PpSet.eval_SetComp]
  refine scI_gen calm nd it0 ok pg0 pt0 pe0 fold  I0 want fun D C s' m H' J q ns f => ⟨m, ns, fun h'' sb => ?_⟩
  obtain ⟨g0, g1, g2, g3, g4, g5⟩ := f
  exact ⟨.ref D, H', J.turned (t' := s'.toks) (fun b o ne e => (sb.2 b ne).trans e) g0 g1 g3 g4 g5, rfl, q⟩
theorem ps_scI {i : Nat} {y : PySem.Str} {py spos : Pos} {elt tg iter : Expr} {ifs : List Expr} {scope : Scope} {own : List (PySem.Str × Nat)} {pos : Pos} {wi : TI} {g : TG} {tt : TT} {te : TE} (calm : X.calm = true) (nd : X.N.Nodup) (hy : X.N[i]? = some y) (loc : X.env.scope.names.lookup y = some .local) (swap : swapsWith (.SetComp elt [⟨tg, iter, ifs, 0⟩] scope pos) (some (.Name y py)) spos.line X.env = pure true) (it0 : PI X tg iter wi) (ok : BlkOk X.N X.env.scope scope own)
    (pg0 : ∀ (s0 : Shared) (G : Hp) (C : Addr) (cl : List (PySem.Str × Addr)) (fp : List Addr), PG (X.blk s0 G scope (compEnvC scope cl C X.env) fp) tg g)
    (pt0 : ∀ (s0 : Shared) (G : Hp) (C : Addr) (cl : List (PySem.Str × Addr)) (fp : List Addr), PTs (X.blk s0 G scope (compEnvC scope cl C X.env) fp) ifs tt)
    (pe0 : ∀ (s0 : Shared) (G : Hp) (C : Addr) (cl : List (PySem.Str × Addr)) (fp : List Addr), PE (X.blk s0 G scope (compEnvC scope cl C X.env) fp) elt te) (fold : ∀ x, foldedSetIterable iter X.env x = pure x := by intro _; rfl) :
    PS X (.Assign [.Name y py] (.SetComp elt [⟨tg, iter, ifs, 0⟩] scope pos) spos) (tAsg (tScI X.w wi g tt te (own.map (·.2))) (gName i)) := by
  refine ⟨fun pins s σ H D I0 want => ?_⟩
  rw [exec_Assign_Name_used _ _ _ _ swap]
  refine wpAny_bind (wpAny_standAt (wpAny_bind ?_))
  show wpAny _ X.A (do let _ ← comprehension (.SetComp elt [⟨tg, iter, ifs, 0⟩] scope pos) scope X.env (firstIterPos [⟨tg, iter, ifs, 0⟩] pos) (newSet (.type "set")) false (eval iter X.env) (some (assign (.Name y py) X.env))) _ _ s
  replace want : (tScI X.w wi g tt te (own.map (·.2))) σ H (fun x G => gName i x σ G D.nx) := want
  refine wpAny_bind (thn (scI_gen (Qf := fun _ t => SP X pins D .next t) calm nd it0 ok pg0 pt0 pe0 fold  I0 want fun L C t m G J q ns f => ?_) fun _ t hq => wpAny_pure (wpAny_pure hq))
  show wpAny _ _ (assign (.Name y py) X.env (.ref L)) _ _ _
  refine wpAny_assign_Name (store_ok2 (v := V.ref L) J nd hy (.inl loc) rfl (fun t2 J2 ⟨a, sb, ha⟩ => ?_) (.inr loc))
  obtain ⟨g0, g1, g2, g3, g4, g5⟩ := f
  have away : C ≠ a := by
    rcases ha with z | z
    · exact z ▸ g1
    · exact fun e => g4 y a z e.symm
  exact ⟨m, ns.sameBut sb away, fun h3 sb3 => ⟨_, G, J2.turned (t' := t2.toks) (fun b o ne e => (sb3.2 b ne).trans e) g0 g1 g3 g4 g5, q⟩⟩
theorem sw_set {elt : Expr} {gs : List Comprehension} {scope : Scope} {pos py : Pos} {y : PySem.Str} {l : Nat} {env : Env} (kind : env.scope.kind = .function) (loc : env.scope.names.lookup y = some .local) (line : (py.line == pos.line) = true)
    (other : (scope.names.any fun (n, k) => n == y && (k == .local || k == .cell)) = false) : swapsWith (.SetComp elt gs scope pos) (some (.Name y py)) l env = pure true := by
  have k1 : env.kindOf y = some .local := loc
  have k2 : env.blockKind = .function := by unfold Env.blockKind; rw [kind]; rfl
  unfold swapsWith
  simp only [k2, k1, other, Expr.pos, line]
  rfl
end
/-! ### sorted of a set of whol, of any size -/
theorem sortSet_go {P : Program} {w : World} {A : Around} {E : Value → Shared → Prop} {s : Shared} {a : Addr} {S : Int → Bool} {n : Nat} {Q : Value → Shared → Prop} (R : SetR w s.heap a S n) (calm : A.handled = none)
    (go : ∀ s' p (out : List Value) (c : Nat) (ns : List Int), (∀ b o, s.heap.get? b = some o → s'.heap.get? b = some o) → s'.gens = s.gens → s'.os = s.os → s.heap.objs.size ≤ p →
      s'.heap.get? p = some (seqObj "list" out.toArray c) → IntsAre out ns → ns.Pairwise (· < ·) → (∀ k, k ∈ ns ↔ S k = true) → ns.length = n → n < scanBound → Q (.ref p) s') :
    wpAny (model P w) A (call (.builtin "sorted") [.ref a]) Q E s := by
  obtain ⟨ob, cs, cn, tb, atOb, exOb, dOb, good, dis, mem, few, fit, num, ris, led⟩ := R
  refine Calls.call_function_entry kind_sorted plain_sorted entry_sorted (args_sorted1 _) ?_
  unfold Builtin.«sorted»
  refine wpAny_bind (m := checkCount "sorted" 1 1 _) (wpAny_pure ?_)
  refine wpAny_bind (collect_set (A := A.in1) calm ⟨ob, atOb, exOb.1, dOb⟩ fit few ris led fun t vs keep size gens os pm => ?_)
  have lvs : vs.length = n := by rw [pm.length_eq, List.length_map, Array.length_toList, num]
  have small : vs.length ≤ sizeLine := by
    rw [lvs, sizeLine_eq]
    have b1 : cs.size < 4096 := few
    omega
  have whol : IntsAre vs (vs.map Builtin.Re.reRawOf) := ints_of vs fun v hv => by
    obtain ⟨e, he, rfl⟩ := List.mem_map.mp (pm.mem_iff.mp hv)
    obtain ⟨k, tk, h1, _⟩ := good e he
    exact ⟨k, tk, h1⟩
  have keys : (vs.map Builtin.Re.reRawOf).Perm (cs.toList.map keyOf) := by
    have z := pm.map Builtin.Re.reRawOf
    rwa [List.map_map] at z
  refine wpAny_bind (wpAny_newList ?_ small)
  have atL : (t.heap.push (seqObj "list" vs.toArray 0)).get? t.heap.objs.size = some (seqObj "list" vs.toArray 0) := Heap.get?_push_size _ rfl
  refine wpAny_bind (wpAny_holding (wpAny_call_entry slot_list_sort ⟨_, atL, rfl⟩ entry_list_sort (SrtO.list_sort_ord SrtO.swo_int atL small (fun h2 => SrtO.ints_sortable whol h2) fun out h1 h2 => ⟨_, rfl, ?_⟩) (args_list_sort _)))
  obtain ⟨k1, k2, k3⟩ := SrtO.ints_out whol h1 h2
  obtain ⟨c, atS⟩ := sortedHeap_at (vs := vs) (out := out.toArray) atL
  have pn : (out.map SrtO.iv).Perm (cs.toList.map keyOf) := k2.trans keys
  refine wpAny_pure ⟨_, rfl, go _ t.heap.objs.size out c (out.map SrtO.iv) (fun b u e => ?_) gens os size atS k1 (lt_of_le_nodup _ k3 (pn.nodup_iff.mpr dis)) (fun k => by rw [pn.mem_iff, ← mem k]) ?_ (by rw [← num]; exact few)⟩
  · have z := keep b u e
    have lt := Heap.lt_size z
    show (sortedHeap (t.heap.push (seqObj "list" vs.toArray 0)) t.heap.objs.size vs out.toArray).get? b = some u
    rw [sortedHeap_old (Nat.ne_of_lt lt) (by rw [size_push']; exact Nat.lt_succ_of_lt lt)]
    exact Heap.get?_push_of_some _ z
  · rw [pn.length_eq, List.length_map, Array.length_toList, num]
def rSortSetN (w : World) : List V → Hp → VK → Prop := fun vs H Q => ∃ (a : Addr) (S : Int → Bool) (n : Nat), vs = [V.ref a] ∧ H a = some (SetO w a S n) ∧
  ∀ (ns : List Int) (p : Addr), ns.Pairwise (· < ·) → (∀ k : Int, k ∈ ns ↔ S k = true) → ns.length = n → H p = none → Q (.ref p) (upd H p (.lst (ns.map V.int)))
theorem cr_sortSetN {X : Cx} (calm : X.calm = true) : CallR X (.builtin "sorted") (rSortSetN X.w) := by
  intro pins s σ H vs us Q I r ⟨a, S, n, ev, at_, q⟩
  subst ev
  have R := setO_get I at_
  rw [Vals.ref1 r]
  refine sortSet_go R (I.ok.hd calm) fun s' p out c ns k g o hp hg hi hs hm hl few => ?_
  have fits : (ns.map V.int).length ≤ sizeLine := by
    rw [List.length_map, hl, sizeLine_eq]
    have b1 : n < 4096 := few
    omega
  have J : Inv X pins σ (upd H p (.lst (ns.map V.int))) { s with heap := s'.heap, gens := s'.gens, drawn := s'.drawn, toks := s'.toks } :=
    I.call (ch := []) (Un.laid k hp (I.hok.fresh hp)) (I.hok.laid k hp ⟨fits, out, c, vals_of_ints hi, hg⟩) (by rw [g]; exact I.bare) (fun _ z => nomatch z)
  have e : s' = { s with heap := s'.heap, gens := s'.gens, drawn := s'.drawn, toks := s'.toks } := by
    cases s'
    cases s
    cases o
    rfl
  rw [e]
  exact ⟨.ref p, _, J, rfl, q ns p hs hm hl (I.hok.fresh hp)⟩
/-! ### readings -/
section
variable {w : World} {σ : St} {H : Hp} {Q : VK} {K : PySem.W.Frag} {te : TE} {tt : TT}
def inS (l : List Int) : Int → Bool := fun k => decide (k ∈ l)
theorem inS_nil : inS [] = setNo := by
  funext k
  simp [inS, setNo]
theorem inS_snoc {l : List Int} {c : Int} : (fun j => inS l j || decide (j = c)) = inS (l ++ [c]) := by
  funext k
  simp [inS]
def scB (w : World) (J : It) (g : TG) (tt : TT) (te : TE) (vs : List Nat) (σ : St) (Q : VK) (H1 : Hp) : Prop := ∀ D, H1 D = none → ∃ Z : Nat → Nat → Hp → Prop, (∃ m, Z 0 m (upd H1 D (SetO w D setNo 0))) ∧ ∀ i m G, Z i m G →
  (J.stop i G ∧ Q (.ref D) G) ∨ (J.go i G ∧ ∃ Y : Hp → Prop, (∀ G', Y G' → ∃ l, l < m ∧ Z (i + 1) l G') ∧ ∀ x G', J.yld i G x G' → g x (wipe σ vs) G' fun σ2 G2 => wipe σ2 vs = wipe σ vs ∧ tt σ2 G2 fun b G3 =>
    if b = true then te σ2 G3 fun y G4 => ∃ (c : Int) (S : Int → Bool) (n : Nat), y = .int c ∧ G4 D = some (SetO w D S n) ∧ n + 1 < scanBound ∧ Y (upd G4 D (SetO w D (fun j => S j || decide (j = c)) (if S c = true then n else n + 1))) else Y G3)
instance st_scI {wi : TI} {g : TG} {vs : List Nat} : Stp (tScI w wi g tt te vs σ H Q) (wi σ H fun J H1 => scB w J g tt te vs σ Q H1) := ⟨fun h => h⟩
/-- what is put in: the set then tells l, of at most m members -/
def ScPut (w : World) (H : Hp) (D : Addr) (l : List Int) (m : Nat) : VK := fun y G => ∃ (c : Int) (S : Int → Bool) (n : Nat), y = .int c ∧ G D = some (SetO w D S n) ∧ n + 1 < scanBound ∧
  ∃ k, k ≤ m ∧ upd G D (SetO w D (fun j => S j || decide (j = c)) (if S c = true then n else n + 1)) = upd H D (SetO w D (inS l) k)
theorem put_S {D : Addr} {l l' : List Int} {k m : Nat} {c : Int} {y : V} (hy : y = .int c) (hk : k ≤ m) (hm : m + 1 < 4096) (hl : l' = l ++ [c]) : ScPut w H D l' (m + 1) y (upd H D (SetO w D (inS l) k)) := by
  refine ⟨c, _, _, hy, upd_same, Nat.lt_of_le_of_lt (Nat.succ_le_succ hk) hm, if inS l c = true then k else k + 1, ?_, ?_⟩
  · split <;> omega
  · rw [upd_upd, inS_snoc, hl]
theorem rd_scR {lo : Int} {n : Nat} {g : TG} {vs : List Nat} (f : Nat → Int)
    (hs : ∀ D i k, H D = none → i < n → k ≤ i → g (.int (lo + i)) (wipe σ vs) (upd H D (SetO w D (inS ((List.range i).map f)) k)) fun σ2 H2 => wipe σ2 vs = wipe σ vs ∧ te σ2 H2 (ScPut w H D ((List.range (i + 1)).map f) (i + 1)))
    (q : ∀ D k, H D = none → k ≤ n → Q (.ref D) (upd H D (SetO w D (inS ((List.range n).map f)) k))) : scB w (Itr lo n) g tYes te vs σ Q H := by
  intro D hD
  refine ⟨fun i m G => m = n - i ∧ i ≤ n ∧ ∃ k, k ≤ i ∧ G = upd H D (SetO w D (inS ((List.range i).map f)) k), ⟨n, by simp, Nat.zero_le _, 0, Nat.le_refl _, by rw [← inS_nil]; rfl⟩, ?_⟩
  rintro i m G ⟨rfl, hi, k, hk, rfl⟩
  by_cases lt : i < n
  · refine .inr ⟨lt, fun G' => ∃ k, k ≤ i + 1 ∧ G' = upd H D (SetO w D (inS ((List.range (i + 1)).map f)) k), fun G' ⟨k', a, b⟩ => ⟨n - (i + 1), by omega, rfl, lt, k', a, b⟩, fun x G' y => ?_⟩
    obtain ⟨e, y⟩ := y
    subst e y
    exact hs D i k hD lt hk
  · have e : i = n := by omega
    subst e
    exact .inl ⟨Nat.le_refl _, q D k hD hk⟩
theorem range_snoc {f : Nat → Int} {i : Nat} : (List.range (i + 1)).map f = (List.range i).map f ++ [f i] := by
  rw [List.range_succ, List.map_append]
  rfl
/-- sorted of a set that tells l -/
theorem rd_sortSetN {D : Addr} {l : List Int} {n : Nat} (hD : H D = some (SetO w D (inS l) n)) (q : ∀ (ns : List Int) (p : Addr), ns.Pairwise (· < ·) → (∀ k, k ∈ ns ↔ k ∈ l) → H p = none → Q (.ref p) (upd H p (.lst (ns.map V.int)))) : rSortSetN w [.ref D] H Q :=
  ⟨D, _, n, rfl, hD, fun ns p h1 h2 _ hp => q ns p h1 (fun k => by rw [h2 k]; simp [inS]) hp⟩
end
end L2

namespace L2
open PySem PySem.Spec PyProof.Rows
/-! ### a set of ints by a comprehension of two clauses -/
section
variable {P : Program} {w : World} {A : Around} {R : Result → Shared → Prop} {s : Shared} {e tA fA tB fB : Expr} {cA cB : List Expr} {sc : Scope} {ps : Pos} {src dst : Value} {en : Env}
theorem sc2_turnA (e tA fA tB fB : Expr) (cA cB : List Expr) (sc : Scope) (ps : Pos) (src dst : Value) (en : Env) :
    compTurn (.SetComp e [⟨tA, fA, cA, 0⟩, ⟨tB, fB, cB, 0⟩] sc ps) 0 src dst en = (do
      standAt fA.pos
      match ← pyNext src with
      | none => pure (.done .next)
      | some item =>
        letOwnedTupleGo tA src item
        assign tA en item
        let mut good := true
        for cond in cA do
          if good then good ← isTrue cond en (eval cond en)
        if good then
          let inner ← eval fB en
          standAt fB.pos
          let inner ← foldedSetIterable fB en inner
          let _ ← runOwn (.compStart (.SetComp e [⟨tA, fA, cA, 0⟩, ⟨tB, fB, cB, 0⟩] sc ps) 1 (← holding [inner] (pyIter inner)) dst en) en
        again (.compLoop (.SetComp e [⟨tA, fA, cA, 0⟩, ⟨tB, fB, cB, 0⟩] sc ps) 0 src dst en)) := by rfl
theorem sc2_turnB (e tA fA tB fB : Expr) (cA cB : List Expr) (sc : Scope) (ps : Pos) (src dst : Value) (en : Env) :
    compTurn (.SetComp e [⟨tA, fA, cA, 0⟩, ⟨tB, fB, cB, 0⟩] sc ps) 1 src dst en = (do
      standAt fB.pos
      match ← pyNext src with
      | none => pure (.done .next)
      | some item =>
        letOwnedTupleGo tB src item
        assign tB en item
        let mut good := true
        for cond in cB do
          if good then good ← isTrue cond en (eval cond en)
        if good then
          (do let member ← eval e en; standAt e.pos; let _ ← call (.builtin "set.add") [dst, member])
        again (.compLoop (.SetComp e [⟨tA, fA, cA, 0⟩, ⟨tB, fB, cB, 0⟩] sc ps) 1 src dst en)) := by rfl
/-- what is asked of the tests -/
abbrev sc2_tests (cs : List Expr) (en : Env) : Sem Bool := forIn cs true fun c r => if r = true then do let ok ← isTrue c en (eval c en); pure (ForInStep.yield ok) else pure (ForInStep.yield r)
abbrev sc2_bad (P : Program) (w : World) (A : Around) (R : Result → Shared → Prop) (en : Env) : Value → Shared → Prop := notedBy (model P w) A en fun x t => R (.error x) t
theorem sc2_loopA (plain : ∀ x, foldedSetIterable fB en x = pure x) (Z : Nat → Shared → Prop)
    (turn : ∀ m t, Z m t → wpAny (model P w) A (pyNext src) (fun r t1 => match r with
      | none => R (.ok .next) t1
      | some u => wpAny (model P w) A (letOwnedTupleGo tA src u) (fun _ t2 => wpAny (model P w) A (assign tA en u) (fun _ t3 =>
          wpAny (model P w) A (sc2_tests cA en) (fun good t4 =>
            if good = true then wpAny (model P w) A (eval fB en) (fun x t5 => wpAny (model P w) A (pyIter x) (fun src1 t6 =>
              codeAny (model P w) A (.compStart (.SetComp e [⟨tA, fA, cA, 0⟩, ⟨tB, fB, cB, 0⟩] sc ps) 1 src1 dst en) (fun r t7 => match r with
                | .ok _ => ∃ l, l < m ∧ Z l t7
                | .error _ => False) t6) (sc2_bad P w A R en) t5) (sc2_bad P w A R en) t4
            else ∃ l, l < m ∧ Z l t4) (sc2_bad P w A R en) t3) (sc2_bad P w A R en) t2) (sc2_bad P w A R en) t1) (sc2_bad P w A R en) t)
    (m : Nat) (z : Z m s) :
    codeAny (model P w) A (.compLoop (.SetComp e [⟨tA, fA, cA, 0⟩, ⟨tB, fB, cB, 0⟩] sc ps) 0 src dst en) R s := by
  refine codeAny_loop rfl Z (fun m t hz => ?_) m z
  show wpAny _ A ((compTurn (.SetComp e [⟨tA, fA, cA, 0⟩, ⟨tB, fB, cB, 0⟩] sc ps) 0 src dst en).onRaise (fun x => do noteFrame x en; theTreesLotGoes x)) _ _ t
  refine wpAny_noted ?_
  rw [sc2_turnA]
  refine wpAny_bind (wpAny_standAt (wpAny_bind (wpAny_mono (turn m t hz) (fun r t1 k1 => ?_) fun _ _ z => z)))
  cases r with
  | none => exact wpAny_pure k1
  | some u =>
    refine wpAny_bind (wpAny_mono k1 (fun _ t2 k2 => wpAny_bind (wpAny_mono k2 (fun _ t3 k3 => wpAny_bind (wpAny_mono k3 (fun good t4 k4 => ?_) fun _ _ z => z)) fun _ _ z => z)) fun _ _ z => z)
    cases good with
    | false => exact wpAny_pure ⟨rfl, k4⟩
    | true =>
      refine wpAny_bind (wpAny_mono k4 (fun x t5 k5 => ?_) fun _ _ z => z)
      refine wpAny_bind (wpAny_standAt (wpAny_bind (wpAny_of_eq (plain x) (wpAny_bind (wpAny_holding (wpAny_mono k5 (fun src1 t6 k6 => wpAny_bind (wpAny_runOwn ?_)) fun _ _ z => z))))))
      rw [Around.mark_none]
      refine codeAny_mono k6 fun r t7 k7 => ?_
      cases r with
      | ok f =>
        first
          | exact wpAny_pure ⟨rfl, k7⟩
          | exact wpAny_bind (wpAny_pure (wpAny_pure ⟨rfl, k7⟩))
      | error x => exact k7.elim
theorem sc2_loopB (Z : Nat → Shared → Prop)
    (turn : ∀ m t, Z m t → wpAny (model P w) A (pyNext src) (fun r t1 => match r with
      | none => R (.ok .next) t1
      | some u => wpAny (model P w) A (letOwnedTupleGo tB src u) (fun _ t2 => wpAny (model P w) A (assign tB en u) (fun _ t3 =>
          wpAny (model P w) A (sc2_tests cB en) (fun good t4 =>
            if good = true then wpAny (model P w) A (eval e en) (fun x t5 =>
              wpAny (model P w) A (call (.builtin "set.add") [dst, x]) (fun _ t6 => ∃ l, l < m ∧ Z l t6) (sc2_bad P w A R en) t5) (sc2_bad P w A R en) t4
            else ∃ l, l < m ∧ Z l t4) (sc2_bad P w A R en) t3) (sc2_bad P w A R en) t2) (sc2_bad P w A R en) t1) (sc2_bad P w A R en) t)
    (m : Nat) (z : Z m s) :
    codeAny (model P w) A (.compLoop (.SetComp e [⟨tA, fA, cA, 0⟩, ⟨tB, fB, cB, 0⟩] sc ps) 1 src dst en) R s := by
  refine codeAny_loop rfl Z (fun m t hz => ?_) m z
  show wpAny _ A ((compTurn (.SetComp e [⟨tA, fA, cA, 0⟩, ⟨tB, fB, cB, 0⟩] sc ps) 1 src dst en).onRaise (fun x => do noteFrame x en; theTreesLotGoes x)) _ _ t
  refine wpAny_noted ?_
  rw [sc2_turnB]
  refine wpAny_bind (wpAny_standAt (wpAny_bind (wpAny_mono (turn m t hz) (fun r t1 k1 => ?_) fun _ _ z => z)))
  cases r with
  | none => exact wpAny_pure k1
  | some u =>
    refine wpAny_bind (wpAny_mono k1 (fun _ t2 k2 => wpAny_bind (wpAny_mono k2 (fun _ t3 k3 => wpAny_bind (wpAny_mono k3 (fun good t4 k4 => ?_) fun _ _ z => z)) fun _ _ z => z)) fun _ _ z => z)
    cases good with
    | false => exact wpAny_pure ⟨rfl, k4⟩
    | true =>
      exact wpAny_bind (wpAny_bind (wpAny_mono k4 (fun x t5 k5 => wpAny_bind (wpAny_standAt (wpAny_bind (wpAny_mono k5 (fun _ t6 k6 => wpAny_pure (wpAny_pure ⟨rfl, k6⟩)) fun _ _ z => z)))) fun _ _ z => z))
theorem sc2_startB (here : codeAny (model P w) A (.compLoop (.SetComp e [⟨tA, fA, cA, 0⟩, ⟨tB, fB, cB, 0⟩] sc ps) 1 src dst en) R s)
    (again_ : wpAny (model P w) A (pyIter src) (fun src1 t => codeAny (model P w) A (.compLoop (.SetComp e [⟨tA, fA, cA, 0⟩, ⟨tB, fB, cB, 0⟩] sc ps) 1 src1 dst en) R t) (sc2_bad P w A R en) s) :
    codeAny (model P w) A (.compStart (.SetComp e [⟨tA, fA, cA, 0⟩, ⟨tB, fB, cB, 0⟩] sc ps) 1 src dst en) R s := by
  refine codeAny_of_tree ?_
  show wpAny _ _ ((compStart (.SetComp e [⟨tA, fA, cA, 0⟩, ⟨tB, fB, cB, 0⟩] sc ps) 1 src dst en).onRaise (fun x => do noteFrame x en; standAt theWindowsPlace)) _ _ s
  refine wpAny_notedAt ?_
  unfold compStart
  show wpAny _ _ (ask >>= _) _ _ s
  refine wpAny_bind (wpAny_askSetting (wpAny_ite ?_))
  split
  · first
      | exact wpAny_bind (wpAny_pure (wpAny_pure (And.intro rfl here)))
      | exact wpAny_pure (And.intro rfl here)
  · first
      | exact wpAny_bind (wpAny_rule (wpAny_bind (wpAny_standAt (wpAny_bind (wpAny_mono again_ (fun src1 t k => wpAny_pure (And.intro rfl k)) fun _ _ x => x)))))
      | (refine wpAny_bind (wpAny_rule ?_); show wpAny _ _ (standAt fB.pos >>= _) _ _ s; exact wpAny_bind (wpAny_standAt (wpAny_bind (wpAny_mono again_ (fun src1 t k => wpAny_pure (And.intro rfl k)) fun _ _ x => x))))
end
section
variable {X : Cx}
/-- the inner clause's own loop, from which Y is reached -/
def sc2_inner (w : World) (D : Addr) (g1 : TG) (tt1 : TT) (te : TE) (vs1 : List Nat) (σ2 : St) (Y : Hp → Prop) (J1 : It) (G4 : Hp) : Prop := ∃ Z1 : Nat → Nat → Hp → Prop, (∃ m, Z1 0 m G4) ∧ ∀ j k G, Z1 j k G →
  (J1.stop j G ∧ Y G) ∨ (J1.go j G ∧ ∃ Y1 : Hp → Prop, (∀ G', Y1 G' → ∃ l, l < k ∧ Z1 (j + 1) l G') ∧ ∀ x G', J1.yld j G x G' → g1 x (wipe σ2 vs1) G' fun σ3 G5 => wipe σ3 vs1 = wipe σ2 vs1 ∧ tt1 σ3 G5 fun b G6 =>
    if b = true then te σ3 G6 fun y G7 => ∃ (c : Int) (S : Int → Bool) (n : Nat), y = .int c ∧ G7 D = some (SetO w D S n) ∧ n + 1 < scanBound ∧ Y1 (upd G7 D (SetO w D (fun j => S j || decide (j = c)) (if S c = true then n else n + 1))) else Y1 G6)
def tScI2 (w : World) (wi : TI) (g : TG) (tt : TT) (wi1 : TI) (g1 : TG) (tt1 : TT) (te : TE) (vs vs1 : List Nat) : TE := fun σ H Q => wi σ H fun J H1 => ∀ D, H1 D = none → ∃ Z : Nat → Nat → Hp → Prop, (∃ m, Z 0 m (upd H1 D (SetO w D setNo 0))) ∧ ∀ i m G, Z i m G →
  (J.stop i G ∧ Q (.ref D) G) ∨ (J.go i G ∧ ∃ Y : Hp → Prop, (∀ G', Y G' → ∃ l, l < m ∧ Z (i + 1) l G') ∧ ∀ x G', J.yld i G x G' → g x (wipe σ vs) G' fun σ2 G2 => wipe σ2 vs = wipe σ vs ∧ tt σ2 G2 fun b G3 =>
    if b = true then wi1 σ2 G3 (sc2_inner w D g1 tt1 te vs1 σ2 Y) else Y G3)
theorem scI2_gen {pins : List (Addr × Obj)} {s : Shared} {σ : St} {H : Hp} {Q : VK} {use : Option (Value → Sem Unit)} {Qf : Value → Shared → Prop} {pos2 : Pos} {elt tg iter tg1 iter1 : Expr} {ifs ifs1 : List Expr} {scope : Scope} {own : List (PySem.Str × Nat)} {vs1 : List Nat} {pos : Pos} {wi wi1 : TI} {g g1 : TG} {tt tt1 : TT} {te : TE} (calm : X.calm = true) (nd : X.N.Nodup) (it0 : PI X tg iter wi) (ok : BlkOk X.N X.env.scope scope own) (less : ∀ i ∈ vs1, i ∈ own.map (·.2))
    (pg0 : ∀ (s0 : Shared) (G : Hp) (C : Addr) (cl : List (PySem.Str × Addr)) (fp : List Addr), PG (X.blk s0 G scope (compEnvC scope cl C X.env) fp) tg g)
    (pt0 : ∀ (s0 : Shared) (G : Hp) (C : Addr) (cl : List (PySem.Str × Addr)) (fp : List Addr), PTs (X.blk s0 G scope (compEnvC scope cl C X.env) fp) ifs tt)
    (pi1 : ∀ (s0 : Shared) (G : Hp) (C : Addr) (cl : List (PySem.Str × Addr)) (fp : List Addr), PI (X.blk s0 G scope (compEnvC scope cl C X.env) fp) tg1 iter1 wi1)
    (pg1 : ∀ (s0 : Shared) (G : Hp) (C : Addr) (cl : List (PySem.Str × Addr)) (fp : List Addr), PG (X.blk s0 G scope (compEnvC scope cl C X.env) fp) tg1 g1)
    (pt1 : ∀ (s0 : Shared) (G : Hp) (C : Addr) (cl : List (PySem.Str × Addr)) (fp : List Addr), PTs (X.blk s0 G scope (compEnvC scope cl C X.env) fp) ifs1 tt1)
    (pe0 : ∀ (s0 : Shared) (G : Hp) (C : Addr) (cl : List (PySem.Str × Addr)) (fp : List Addr), PE (X.blk s0 G scope (compEnvC scope cl C X.env) fp) elt te) (fold : ∀ x, foldedSetIterable iter X.env x = pure x) (fold1 : ∀ en x, foldedSetIterable iter1 en x = pure x)
    (I0 : Inv X pins σ H s) (want : (tScI2 X.w wi g tt wi1 g1 tt1 te (own.map (·.2)) vs1) σ H Q)
    (last : ∀ D C s' m H', Inv X pins σ H' s' → Q (.ref D) H' → s'.heap.Ns C m → FpOk X pins H' C → compPost (model X.prog X.w) X.A X.xe use Qf (.ref D) C (.ok .next) s') :
    wpAny (model X.prog X.w) X.A (comprehension (.SetComp elt [⟨tg, iter, ifs, 0⟩, ⟨tg1, iter1, ifs1, 0⟩] scope pos) scope X.env pos2 (newSet (.type "set")) false (eval iter X.env) use) Qf X.xe s := by
  have clo : ∀ y ∈ scope.names, y.2 = .free → ∃ c, X.env.cells.lookup y.1 = some c := fun y hy e => I0.ok.has _ ((ok.free y hy e).elim .inl .inr)
  refine wpAny_comprehension_free (use := use) rfl fold (closure_ok clo) ok.kind (fun y hy e => by rw [ok.uniq y hy, e]) (thn (it0.run pins s σ H _ I0 want) fun _ _ hx => thn hx fun _ s2 got => ?_)
  obtain ⟨it, fp, tn, J, H2, rfl, I2, T, st2, f2, q⟩ := got
  refine PpSet.newSet_ok (newEnv_comp ?_)
  obtain ⟨Z, ⟨m0, z0⟩, turn⟩ := q s2.heap.objs.size (I2.hok.fresh (Nat.le_refl _))
  have I3 : Inv X pins σ (upd H2 s2.heap.objs.size (SetO X.w s2.heap.objs.size setNo 0)) _ := I2.laid (t' := s2.toks) (fun b o e => Heap.get?_push_of_some _ e) (Nat.le_refl _) (setO_new (setR_fresh X.w))
  have old : ∀ b ∈ fp, b < s2.heap.objs.size := fun b hb => let ⟨_, e, _⟩ := T.obj _ _ st2 b hb; Heap.lt_size e
  generalize hs3 : ({ s2 with heap := s2.heap.push { cls := .type "set", dict := none, data := .set #[] 0 (.fresh 0 0 (!X.w.params.followText "set-order")) } } : Shared) = s3 at *
  have grown : ∀ b o, s2.heap.get? b = some o → s3.heap.get? b = some o := fun b o e => by rw [← hs3]; exact Heap.get?_push_of_some _ e
  have wider : s3.heap.objs.size = s2.heap.objs.size + 1 := by rw [← hs3]; exact Heap.size_push _ _
  have f3 : ∀ b ∈ fp, FpOk X pins (upd H2 s2.heap.objs.size (SetO X.w s2.heap.objs.size setNo 0)) b ∧ b < s3.heap.objs.size := fun b hb =>
    ⟨⟨by rw [upd_ne (Nat.ne_of_lt (old b hb))]; exact (f2 b hb).1, (f2 b hb).2⟩, by rw [wider]; exact Nat.lt_succ_of_lt (old b hb)⟩
  generalize s2.heap.objs.size = D at *
  have st3 := T.keep _ _ _ st2 fun b _ o e => grown b o e
  have I4 := block_start I3 ok nd f3
  generalize hH3 : upd H2 D (SetO X.w D setNo 0) = H3 at *
  replace pg0 := pg0 s3 H3 s3.heap.objs.size (cellsFrom (s3.heap.objs.size + 1) scope.names (cloFrom X.env.cells scope.names [])) fp
  replace pt0 := pt0 s3 H3 s3.heap.objs.size (cellsFrom (s3.heap.objs.size + 1) scope.names (cloFrom X.env.cells scope.names [])) fp
  replace pe0 := pe0 s3 H3 s3.heap.objs.size (cellsFrom (s3.heap.objs.size + 1) scope.names (cloFrom X.env.cells scope.names [])) fp
  replace pi1 := pi1 s3 H3 s3.heap.objs.size (cellsFrom (s3.heap.objs.size + 1) scope.names (cloFrom X.env.cells scope.names [])) fp
  replace pg1 := pg1 s3 H3 s3.heap.objs.size (cellsFrom (s3.heap.objs.size + 1) scope.names (cloFrom X.env.cells scope.names [])) fp
  replace pt1 := pt1 s3 H3 s3.heap.objs.size (cellsFrom (s3.heap.objs.size + 1) scope.names (cloFrom X.env.cells scope.names [])) fp
  generalize hS4 : ({ s3 with heap := pushCells (s3.heap.push { cls := .type "dict", data := .dict #[] }) scope.names } : Shared) = s4 at *
  generalize hce : compEnvC scope (cellsFrom (s3.heap.objs.size + 1) scope.names (cloFrom X.env.cells scope.names [])) s3.heap.objs.size X.env = ce at *
  have place : ce.locals = s3.heap.objs.size := by rw [← hce]; rfl
  show codeAny _ _ (.compStart (.SetComp elt [⟨tg, iter, ifs, 0⟩, ⟨tg1, iter1, ifs1, 0⟩] scope pos) 0 (.ref it) (.ref D) (compEnvC scope (cellsFrom (s3.heap.objs.size + 1) scope.names (cloFrom X.env.cells scope.names [])) s3.heap.objs.size X.env)) (compPost (model X.prog X.w) X.A X.xe use Qf (.ref D) s3.heap.objs.size) s4
  rw [hce]
  have st4 := T.keep _ _ s4.heap st3 fun b _ o e => by rw [← hS4]; exact pushCells_keeps _ _ _ _ (Heap.get?_push_of_some _ e)
  have none3 : ∀ b ∈ fp, H3 b = none := fun b hb => (f3 b hb).1.1
  have meet : ∀ {τ : L2.St} {G : Hp} {t : Shared}, Inv (X.blk s3 H3 scope ce fp) [] τ G t → (∀ b ∈ fp, G b = none) → ∀ b ∈ fp, FpOk (X.blk s3 H3 scope ce fp) [] G b := fun {τ G t} V no b hb =>
    ⟨no b hb, (V.ok.exf b hb).1, V.ok.exfs b hb, .inl hb, fun x c e => (V.ok.exf b hb).2 x c e, fun p hp => absurd (show p ∈ ([] : List (Addr × Obj)) ++ [] from hp) (by simp)⟩
  have around : codeAny (model X.prog X.w) X.A (.compLoop (.SetComp elt [⟨tg, iter, ifs, 0⟩, ⟨tg1, iter1, ifs1, 0⟩] scope pos) 0 (.ref it) (.ref D) ce) (compPost (model X.prog X.w) X.A X.xe use Qf (.ref D) s3.heap.objs.size) s4 := by
    refine sc2_loopA (fold1 ce) (fun m t => ∃ i G, Inv (X.blk s3 H3 scope ce fp) [] (wipe σ (own.map (·.2))) G t ∧ tn i t.heap ∧ (∀ b ∈ fp, G b = none) ∧ Z i m G) ?_ m0 ⟨0, H3, I4, st4, none3, z0⟩
    rintro m t5 ⟨i, G5, V5, w5, no5, z5⟩
    rcases turn i m G5 z5 with ⟨halt, want5⟩ | ⟨more, Y, fewer, step⟩
    · refine thnF (T.done (X.blk s3 H3 scope ce fp) rfl rfl rfl calm i [] t5 _ G5 (fun _ _ => False) V5 (meet V5 no5) w5 halt) fun r t6 ⟨er, V6⟩ => ?_
      subst er
      have V7 : Inv X pins σ G5 t6 := I3.call' (ch := fp) V6.os V6.base V6.hok V6.bare fun b hb => ⟨(f3 b hb).1.2.2.2.1, (f3 b hb).1.2.1, (f3 b hb).1.2.2.2.2.1, (f3 b hb).1.2.2.2.2.2⟩
      have gone : G5 s3.heap.objs.size = none := place ▸ (show G5 ce.locals = none from V6.free)
      obtain ⟨nm, ns6, _⟩ := V6.loc
      replace ns6 : t6.heap.Ns s3.heap.objs.size nm := place ▸ ns6
      exact last D s3.heap.objs.size t6 nm G5 V7 want5 ns6 (I3.fpOk (Nat.le_refl _) gone)
    · refine thnF (T.item (X.blk s3 H3 scope ce fp) rfl rfl rfl calm i [] t5 _ G5 (fun _ _ => False) V5 (meet V5 no5) w5 more) fun r t6 ⟨u, er, rest⟩ => ?_
      subst er
      refine thnF rest fun _ t7 ⟨x, G7, V7, r7, y7, w7, no7⟩ => ?_
      refine thnF (pg0.run _ t7 _ G7 x u _ (V7.pinned (meet V7 no7) (T.obj _ _ w7)) r7 (step x G7 y7)) fun _ t8 ⟨τ, G8, V8, same8, q8⟩ => ?_
      refine thnF (pt0.run _ t8 τ G8 _ V8 q8) fun b t9 ⟨G9, V9, q9⟩ => ?_
      have wend : ∀ {τ' : St} {tz : Shared} {Gz : Hp}, Inv (X.blk s3 H3 scope ce fp) ([] ++ pinsAt fp t7.heap) τ' Gz tz → (wipe σ (own.map (·.2))).length = τ'.length → (∀ (j : Nat) v, (wipe σ (own.map (·.2)))[j]? = some (some v) → τ'[j]? = some (some v)) → Y Gz →
          ∃ l, l < m ∧ ∃ i G, Inv (X.blk s3 H3 scope ce fp) [] (wipe σ (own.map (·.2))) G tz ∧ tn i tz.heap ∧ (∀ b ∈ fp, G b = none) ∧ Z i l G := fun {τ' tz Gz} Vz long kn yz => by
        obtain ⟨l, lt, zl⟩ := fewer Gz yz
        have kept : ∀ b ∈ fp, ∀ o, t7.heap.get? b = some o → tz.heap.get? b = some o ∧ Gz b = none := fun b hb o e =>
          let k := Vz.pin (b, o) (List.mem_append_right _ (List.mem_append_right _ (mem_pinsAt hb e)))
          ⟨k.1, k.2.1⟩
        refine ⟨l, lt, i + 1, Gz, (Vz.unpinned (pins := [])).weak long kn, T.keep _ _ _ w7 fun b hb o e => (kept b hb o e).1, fun b hb => ?_, zl⟩
        obtain ⟨o, e, _⟩ := T.obj _ _ w7 b hb
        exact (kept b hb o e).2
      have long8 : (wipe σ (own.map (·.2))).length = τ.length := by rw [← same8, wipe_length]
      have kn8 : ∀ (j : Nat) v, (wipe σ (own.map (·.2)))[j]? = some (some v) → τ[j]? = some (some v) := fun j v e => (wipe_some (same8 ▸ e)).1
      have kn9 : ∀ (j : Nat) v, (wipe σ (own.map (·.2)))[j]? = some (some v) → (wipe τ vs1)[j]? = some (some v) := fun j v e => by
        obtain ⟨e1, e2⟩ := wipe_some (same8 ▸ e)
        rwa [wipe_out fun z => e2 (less j z)]
      cases b with
      | false => exact wend V9 long8 kn8 q9
      | true =>
        refine thnF (pi1.run _ t9 τ G9 _ V9 q9) fun _ ta hx => thnF hx fun _ tb got1 => ?_
        obtain ⟨it1, fp1, tn1, J1, Gb, rfl, Vb, T1, stb, fb, Z1, ⟨m1, z1⟩, turn1⟩ := got1
        have meet1 : ∀ {G : Hp}, (∀ b ∈ fp1, G b = none) → ∀ b ∈ fp1, FpOk (X.blk s3 H3 scope ce fp) ([] ++ pinsAt fp t7.heap) G b := fun no b hb => ⟨no b hb, (fb b hb).2⟩
        have inside : codeAny (model X.prog X.w) X.A (.compLoop (.SetComp elt [⟨tg, iter, ifs, 0⟩, ⟨tg1, iter1, ifs1, 0⟩] scope pos) 1 (.ref it1) (.ref D) ce)
            (fun r tz => match r with
              | .ok _ => ∃ l, l < m ∧ ∃ i G, Inv (X.blk s3 H3 scope ce fp) [] (wipe σ (own.map (·.2))) G tz ∧ tn i tz.heap ∧ (∀ b ∈ fp, G b = none) ∧ Z i l G
              | .error _ => False) tb := by
          refine sc2_loopB (fun k t => ∃ j G, Inv (X.blk s3 H3 scope ce fp) ([] ++ pinsAt fp t7.heap) (wipe τ vs1) G t ∧ tn1 j t.heap ∧ (∀ b ∈ fp1, G b = none) ∧ Z1 j k G) ?_ m1 ⟨0, Gb, Vb.weak (wipe_length _ _) (fun j v e => (wipe_some e).1), stb, fun b hb => (fb b hb).1, z1⟩
          rintro k tc ⟨j, Gc, Vc, stc, noc, zc⟩
          rcases turn1 j k Gc zc with ⟨halt1, y1⟩ | ⟨more1, Y1, fewer1, step1⟩
          · refine thnF (T1.done (X.blk s3 H3 scope ce fp) rfl rfl rfl calm j _ tc (wipe τ vs1) Gc (fun _ _ => False) Vc (meet1 noc) stc halt1) fun r td ⟨er, Vd⟩ => ?_
            subst er
            exact wend Vd (long8.trans (wipe_length τ vs1).symm) kn9 y1
          · refine thnF (T1.item (X.blk s3 H3 scope ce fp) rfl rfl rfl calm j _ tc (wipe τ vs1) Gc (fun _ _ => False) Vc (meet1 noc) stc more1) fun r td ⟨u1, er, rest1⟩ => ?_
            subst er
            refine thnF rest1 fun _ tf ⟨x1, Gf, Vf, rf, yf, stf, nof⟩ => ?_
            refine thnF (pg1.run _ tf (wipe τ vs1) Gf x1 u1 _ (Vf.pinned (meet1 nof) (T1.obj _ _ stf)) rf (step1 x1 Gf yf)) fun _ tg ⟨τ1, Gg, Vg, sameg, qg⟩ => ?_
            refine thnF (pt1.run _ tg τ1 Gg _ Vg qg) fun b1 th ⟨Gh, Vh, qh⟩ => ?_
            have wend1 : ∀ {tz : Shared} {Gz : Hp}, Inv (X.blk s3 H3 scope ce fp) (([] ++ pinsAt fp t7.heap) ++ pinsAt fp1 tf.heap) τ1 Gz tz → Y1 Gz → ∃ l, l < k ∧ ∃ j G, Inv (X.blk s3 H3 scope ce fp) ([] ++ pinsAt fp t7.heap) (wipe τ vs1) G tz ∧ tn1 j tz.heap ∧ (∀ b ∈ fp1, G b = none) ∧ Z1 j l G := fun {tz Gz} Vz yz => by
              obtain ⟨l, lt, zl⟩ := fewer1 Gz yz
              have kept : ∀ b ∈ fp1, ∀ o, tf.heap.get? b = some o → tz.heap.get? b = some o ∧ Gz b = none := fun b hb o e =>
                let k := Vz.pin (b, o) (List.mem_append_right _ (List.mem_append_right _ (mem_pinsAt hb e)))
                ⟨k.1, k.2.1⟩
              refine ⟨l, lt, j + 1, Gz, Vz.unpinned.weak (by rw [← sameg, wipe_length]) (fun j v e => (wipe_some (sameg ▸ e)).1), T1.keep _ _ _ stf fun b hb o e => (kept b hb o e).1, fun b hb => ?_, zl⟩
              obtain ⟨o, e, _⟩ := T1.obj _ _ stf b hb
              exact (kept b hb o e).2
            cases b1 with
            | false => exact wend1 Vh qh
            | true =>
              refine thnF (pe0.run _ th τ1 Gh _ Vh qh) fun z ti ⟨yv, Gi, Vi, ri, c, S0, n0, ey, at_, roomy, nxt⟩ => ?_
              subst ey
              exact setPut_int (X := X.blk s3 H3 scope ce fp) Vi at_ roomy ri fun tj Vj => wend1 Vj nxt
        exact sc2_startB inside (T1.self X.A 0 _ _ _ stb inside)
  exact PpSet.codeAny_compStart_set around (T.self X.A 0 _ _ _ st4 around)
theorem pe_scI2 {elt tg iter tg1 iter1 : Expr} {ifs ifs1 : List Expr} {scope : Scope} {own : List (PySem.Str × Nat)} {vs1 : List Nat} {pos : Pos} {wi wi1 : TI} {g g1 : TG} {tt tt1 : TT} {te : TE} (calm : X.calm = true) (nd : X.N.Nodup) (it0 : PI X tg iter wi) (ok : BlkOk X.N X.env.scope scope own) (less : ∀ i ∈ vs1, i ∈ own.map (·.2))
    (pg0 : ∀ (s0 : Shared) (G : Hp) (C : Addr) (cl : List (PySem.Str × Addr)) (fp : List Addr), PG (X.blk s0 G scope (compEnvC scope cl C X.env) fp) tg g)
    (pt0 : ∀ (s0 : Shared) (G : Hp) (C : Addr) (cl : List (PySem.Str × Addr)) (fp : List Addr), PTs (X.blk s0 G scope (compEnvC scope cl C X.env) fp) ifs tt)
    (pi1 : ∀ (s0 : Shared) (G : Hp) (C : Addr) (cl : List (PySem.Str × Addr)) (fp : List Addr), PI (X.blk s0 G scope (compEnvC scope cl C X.env) fp) tg1 iter1 wi1)
    (pg1 : ∀ (s0 : Shared) (G : Hp) (C : Addr) (cl : List (PySem.Str × Addr)) (fp : List Addr), PG (X.blk s0 G scope (compEnvC scope cl C X.env) fp) tg1 g1)
    (pt1 : ∀ (s0 : Shared) (G : Hp) (C : Addr) (cl : List (PySem.Str × Addr)) (fp : List Addr), PTs (X.blk s0 G scope (compEnvC scope cl C X.env) fp) ifs1 tt1)
    (pe0 : ∀ (s0 : Shared) (G : Hp) (C : Addr) (cl : List (PySem.Str × Addr)) (fp : List Addr), PE (X.blk s0 G scope (compEnvC scope cl C X.env) fp) elt te) (fold : ∀ x, foldedSetIterable iter X.env x = pure x := by intro _; rfl) (fold1 : ∀ en x, foldedSetIterable iter1 en x = pure x := by intro _ _; rfl) :
    PE X (.SetComp elt [⟨tg, iter, ifs, 0⟩, ⟨tg1, iter1, ifs1, 0⟩] scope pos) (tScI2 X.w wi g tt wi1 g1 tt1 te (own.map (·.2)) vs1) := by
  refine ⟨fun pins s σ H Q I0 want => ?_⟩
  rw [PpSet.eval_SetComp]
  refine scI2_gen calm nd it0 ok less pg0 pt0 pi1 pg1 pt1 pe0 fold fold1  I0 want fun D C s' m H' J q ns f => ⟨m, ns, fun h'' sb => ?_⟩
  obtain ⟨g0, g1, g2, g3, g4, g5⟩ := f
  exact ⟨.ref D, H', J.turned (t' := s'.toks) (fun b o ne e => (sb.2 b ne).trans e) g0 g1 g3 g4 g5, rfl, q⟩
theorem ps_scI2 {i : Nat} {y : PySem.Str} {py spos : Pos} {elt tg iter tg1 iter1 : Expr} {ifs ifs1 : List Expr} {scope : Scope} {own : List (PySem.Str × Nat)} {vs1 : List Nat} {pos : Pos} {wi wi1 : TI} {g g1 : TG} {tt tt1 : TT} {te : TE} (calm : X.calm = true) (nd : X.N.Nodup) (hy : X.N[i]? = some y) (loc : X.env.scope.names.lookup y = some .local) (swap : swapsWith (.SetComp elt [⟨tg, iter, ifs, 0⟩, ⟨tg1, iter1, ifs1, 0⟩] scope pos) (some (.Name y py)) spos.line X.env = pure true) (it0 : PI X tg iter wi) (ok : BlkOk X.N X.env.scope scope own) (less : ∀ i ∈ vs1, i ∈ own.map (·.2))
    (pg0 : ∀ (s0 : Shared) (G : Hp) (C : Addr) (cl : List (PySem.Str × Addr)) (fp : List Addr), PG (X.blk s0 G scope (compEnvC scope cl C X.env) fp) tg g)
    (pt0 : ∀ (s0 : Shared) (G : Hp) (C : Addr) (cl : List (PySem.Str × Addr)) (fp : List Addr), PTs (X.blk s0 G scope (compEnvC scope cl C X.env) fp) ifs tt)
    (pi1 : ∀ (s0 : Shared) (G : Hp) (C : Addr) (cl : List (PySem.Str × Addr)) (fp : List Addr), PI (X.blk s0 G scope (compEnvC scope cl C X.env) fp) tg1 iter1 wi1)
    (pg1 : ∀ (s0 : Shared) (G : Hp) (C : Addr) (cl : List (PySem.Str × Addr)) (fp : List Addr), PG (X.blk s0 G scope (compEnvC scope cl C X.env) fp) tg1 g1)
    (pt1 : ∀ (s0 : Shared) (G : Hp) (C : Addr) (cl : List (PySem.Str × Addr)) (fp : List Addr), PTs (X.blk s0 G scope (compEnvC scope cl C X.env) fp) ifs1 tt1)
    (pe0 : ∀ (s0 : Shared) (G : Hp) (C : Addr) (cl : List (PySem.Str × Addr)) (fp : List Addr), PE (X.blk s0 G scope (compEnvC scope cl C X.env) fp) elt te) (fold : ∀ x, foldedSetIterable iter X.env x = pure x := by intro _; rfl) (fold1 : ∀ en x, foldedSetIterable iter1 en x = pure x := by intro _ _; rfl) :
    PS X (.Assign [.Name y py] (.SetComp elt [⟨tg, iter, ifs, 0⟩, ⟨tg1, iter1, ifs1, 0⟩] scope pos) spos) (tAsg (tScI2 X.w wi g tt wi1 g1 tt1 te (own.map (·.2)) vs1) (gName i)) := by
  refine ⟨fun pins s σ H D I0 want => ?_⟩
  rw [exec_Assign_Name_used _ _ _ _ swap]
  refine wpAny_bind (wpAny_standAt (wpAny_bind ?_))
  show wpAny _ X.A (do let _ ← comprehension (.SetComp elt [⟨tg, iter, ifs, 0⟩, ⟨tg1, iter1, ifs1, 0⟩] scope pos) scope X.env (firstIterPos [⟨tg, iter, ifs, 0⟩, ⟨tg1, iter1, ifs1, 0⟩] pos) (newSet (.type "set")) false (eval iter X.env) (some (assign (.Name y py) X.env))) _ _ s
  replace want : (tScI2 X.w wi g tt wi1 g1 tt1 te (own.map (·.2)) vs1) σ H (fun x G => gName i x σ G D.nx) := want
  refine wpAny_bind (thn (scI2_gen (Qf := fun _ t => SP X pins D .next t) calm nd it0 ok less pg0 pt0 pi1 pg1 pt1 pe0 fold fold1  I0 want fun L C t m G J q ns f => ?_) fun _ t hq => wpAny_pure (wpAny_pure hq))
  show wpAny _ _ (assign (.Name y py) X.env (.ref L)) _ _ _
  refine wpAny_assign_Name (store_ok2 (v := V.ref L) J nd hy (.inl loc) rfl (fun t2 J2 ⟨a, sb, ha⟩ => ?_) (.inr loc))
  obtain ⟨g0, g1, g2, g3, g4, g5⟩ := f
  have away : C ≠ a := by
    rcases ha with z | z
    · exact z ▸ g1
    · exact fun e => g4 y a z e.symm
  exact ⟨m, ns.sameBut sb away, fun h3 sb3 => ⟨_, G, J2.turned (t' := t2.toks) (fun b o ne e => (sb3.2 b ne).trans e) g0 g1 g3 g4 g5, q⟩⟩
end
end L2
/-! ### a set of ints as what was put in, in order -/
namespace L2
open PySem PySem.Spec PyProof.Rows
def insL (l : List Int) (c : Int) : List Int := if c ∈ l then l else l ++ [c]
def ofL (xs : List Int) : List Int := xs.foldl insL []
theorem ofL_snoc {xs : List Int} {c : Int} : ofL (xs ++ [c]) = insL (ofL xs) c := by
  unfold ofL
  rw [List.foldl_append]
  rfl
theorem mem_insL {l : List Int} {c k : Int} : k ∈ insL l c ↔ k ∈ l ∨ k = c := by
  unfold insL
  split
  · rename_i h
    exact ⟨.inl, fun z => z.elim id fun e => e ▸ h⟩
  · simp
theorem mem_foldl : ∀ {xs l : List Int} {k : Int}, k ∈ xs.foldl insL l ↔ k ∈ l ∨ k ∈ xs
  | [], l, k => by simp
  | c :: xs, l, k => by
    rw [List.foldl_cons, mem_foldl (xs := xs), mem_insL, List.mem_cons]
    constructor
    · rintro ((h | h) | h)
      · exact .inl h
      · exact .inr (.inl h)
      · exact .inr (.inr h)
    · rintro (h | h | h)
      · exact .inl (.inl h)
      · exact .inl (.inr h)
      · exact .inr h
theorem mem_ofL {xs : List Int} {k : Int} : k ∈ ofL xs ↔ k ∈ xs := by
  unfold ofL
  rw [mem_foldl]
  simp
theorem nodup_insL {l : List Int} {c : Int} (h : l.Nodup) : (insL l c).Nodup := by
  unfold insL
  split
  · exact h
  · rename_i hc
    refine List.nodup_append.mpr ⟨h, by simp, ?_⟩
    intro a ha b hb e
    rw [List.mem_singleton] at hb
    exact hc (hb ▸ e ▸ ha)
theorem nodup_foldl : ∀ {xs l : List Int}, l.Nodup → (xs.foldl insL l).Nodup
  | [], _, h => h
  | _ :: xs, _, h => nodup_foldl (xs := xs) (nodup_insL h)
theorem nodup_ofL {xs : List Int} : (ofL xs).Nodup := nodup_foldl List.nodup_nil
theorem len_insL {l : List Int} {c : Int} : (insL l c).length ≤ l.length + 1 := by
  unfold insL
  split
  · exact Nat.le_succ _
  · simp
theorem len_foldl : ∀ {xs l : List Int}, (xs.foldl insL l).length ≤ l.length + xs.length
  | [], _ => Nat.le_refl _
  | c :: xs, l => by
    have a := len_foldl (xs := xs) (l := insL l c)
    have b := len_insL (l := l) (c := c)
    rw [List.foldl_cons, List.length_cons]
    omega
theorem len_ofL {xs : List Int} : (ofL xs).length ≤ xs.length := by
  have := len_foldl (xs := xs) (l := [])
  unfold ofL
  simpa using this
/-- distinct ints from 0 on below M are at most M -/
theorem nodup_le : ∀ {M : Nat} {l : List Int}, l.Nodup → (∀ x ∈ l, 0 ≤ x ∧ x < (M : Int)) → l.length ≤ M
  | 0, l, _, h => by
    cases l with
    | nil => exact Nat.le_refl _
    | cons a l => have := h a List.mem_cons_self; omega
  | M + 1, l, nd, h => by
    have e1 : (l.filter (fun x => decide (x ≠ (M : Int)))).length ≤ M := nodup_le (nd.filter _) fun x hx => by
      obtain ⟨a, b⟩ := List.mem_filter.mp hx
      have := h x a
      have := of_decide_eq_true b
      omega
    have e2 : (l.filter (fun x => decide (x = (M : Int)))).length ≤ 1 := by
      match hf : l.filter (fun x => decide (x = (M : Int))) with
      | [] => exact Nat.zero_le _
      | [_] => exact Nat.le_refl _
      | a :: b :: r =>
        have n2 : (a :: b :: r).Nodup := hf ▸ nd.filter _
        have ha : a ∈ l.filter (fun x => decide (x = (M : Int))) := by rw [hf]; exact List.mem_cons_self
        have hb : b ∈ l.filter (fun x => decide (x = (M : Int))) := by rw [hf]; exact List.mem_cons_of_mem _ List.mem_cons_self
        have ea := of_decide_eq_true (List.mem_filter.mp ha).2
        have eb := of_decide_eq_true (List.mem_filter.mp hb).2
        have := (List.nodup_cons.mp n2).1
        rw [ea, eb] at this
        exact absurd List.mem_cons_self this
    have e3 : l.length = (l.filter (fun x => decide (x = (M : Int)))).length + (l.filter (fun x => decide (x ≠ (M : Int)))).length := by
      clear h e1 e2 nd
      induction l with
      | nil => rfl
      | cons a l ih =>
        by_cases z : a = (M : Int)
        · simp [z, ih]
          omega
        · simp [z, ih]
          omega
    omega
theorem ofL_le {M : Nat} {xs : List Int} (h : ∀ x ∈ xs, 0 ≤ x ∧ x < (M : Int)) : (ofL xs).length ≤ M := nodup_le nodup_ofL fun x hx => h x (mem_ofL.mp hx)
section
variable {w : World} {σ : St} {H : Hp} {Q : VK} {K : PySem.W.Frag} {te : TE} {tt : TT}
/-- the heap with the set of what stands in xs at D -/
def SetL (w : World) (H : Hp) (D : Addr) (xs : List Int) : Hp := upd H D (SetO w D (inS (ofL xs)) (ofL xs).length)
theorem SetL.at {D : Addr} {xs : List Int} : SetL w H D xs D = some (SetO w D (inS (ofL xs)) (ofL xs).length) := upd_same
theorem SetL.same {D : Addr} {xs : List Int} (h : H D = none) : Same H (SetL w H D xs) := same_new h
theorem SetL.nt {D : Addr} {xs : List Int} (h : NoT H) : NoT (SetL w H D xs) := NoT.upd h rfl
theorem SetL.nil {D : Addr} : upd H D (SetO w D setNo 0) = SetL w H D [] := by rw [← inS_nil]; rfl
theorem SetL.put {D : Addr} {xs : List Int} {c : Int} : upd (SetL w H D xs) D (SetO w D (fun j => inS (ofL xs) j || decide (j = c)) (if inS (ofL xs) c = true then (ofL xs).length else (ofL xs).length + 1)) = SetL w H D (xs ++ [c]) := by
  unfold SetL
  rw [upd_upd, ofL_snoc, inS_snoc]
  by_cases h : c ∈ ofL xs
  · have e1 : inS (ofL xs) c = true := decide_eq_true h
    have e2 : inS (ofL xs ++ [c]) = inS (ofL xs) := by
      funext k
      refine decide_eq_decide.mpr ?_
      rw [List.mem_append, List.mem_singleton]
      exact ⟨fun z => z.elim id fun e => e ▸ h, .inl⟩
    rw [if_pos e1, e2, show insL (ofL xs) c = ofL xs from if_pos h]
  · have e1 : ¬ inS (ofL xs) c = true := fun z => h (of_decide_eq_true z)
    rw [if_neg e1, show insL (ofL xs) c = ofL xs ++ [c] from if_neg h, List.length_append]
    rfl
/-- what is put in: the set then holds xs -/
def ScP (w : World) (H : Hp) (D : Addr) (xs : List Int) : VK := fun y G => ∃ (c : Int) (S : Int → Bool) (n : Nat), y = .int c ∧ G D = some (SetO w D S n) ∧ n + 1 < scanBound ∧
  upd G D (SetO w D (fun j => S j || decide (j = c)) (if S c = true then n else n + 1)) = SetL w H D xs
theorem put_P2 {D : Addr} {xs ys : List Int} {c : Int} {y : V} (hy : y = .int c) (hm : (ofL xs).length < 4095) (hl : ys = xs ++ [c]) : ScP w H D ys y (SetL w H D xs) :=
  ⟨c, _, _, hy, upd_same, Nat.succ_lt_succ hm, by rw [hl]; exact SetL.put⟩
theorem rd_scRL {lo : Int} {n : Nat} {g : TG} {vs : List Nat} (f : Nat → Int)
    (hs : ∀ D i, H D = none → i < n → g (.int (lo + i)) (wipe σ vs) (SetL w H D ((List.range i).map f)) fun σ2 H2 => wipe σ2 vs = wipe σ vs ∧ te σ2 H2 (ScP w H D ((List.range (i + 1)).map f)))
    (q : ∀ D, H D = none → Q (.ref D) (SetL w H D ((List.range n).map f))) : scB w (Itr lo n) g tYes te vs σ Q H := by
  intro D hD
  refine ⟨fun i m G => m = n - i ∧ i ≤ n ∧ G = SetL w H D ((List.range i).map f), ⟨n, by simp, Nat.zero_le _, SetL.nil⟩, ?_⟩
  rintro i m G ⟨rfl, hi, rfl⟩
  by_cases lt : i < n
  · refine .inr ⟨lt, fun G' => G' = SetL w H D ((List.range (i + 1)).map f), fun G' e => ⟨n - (i + 1), by omega, rfl, lt, e⟩, fun x G' y => ?_⟩
    obtain ⟨e, y⟩ := y
    subst e y
    exact hs D i hD lt
  · have e : i = n := by omega
    subst e
    exact .inl ⟨Nat.le_refl _, q D hD⟩
/-- over a list that stands still -/
theorem rd_scLL {a : Addr} {vsx : List V} {g : TG} {vs : List Nat} (f : V → Int) (hS : SqL K H a vsx)
    (hs : ∀ D l x r, H D = none → vsx = l ++ x :: r → g x (wipe σ vs) (SetL w H D (l.map f)) fun σ2 H2 => wipe σ2 vs = wipe σ vs ∧ te σ2 H2 (ScP w H D ((l ++ [x]).map f)))
    (q : ∀ D, H D = none → Q (.ref D) (SetL w H D (vsx.map f))) : scB w (Itl K a) g tYes te vs σ Q H := by
  intro D hD
  refine ⟨fun i m G => m = vsx.length - i ∧ i ≤ vsx.length ∧ G = SetL w H D ((vsx.take i).map f), ⟨vsx.length, by simp, Nat.zero_le _, SetL.nil⟩, ?_⟩
  rintro i m G ⟨rfl, hi, rfl⟩
  have hS' : SqL K (SetL w H D ((vsx.take i).map f)) a vsx := (SetL.same hD).seq hS
  by_cases hlt : i < vsx.length
  · have hx : vsx[i]? = some vsx[i] := by simp [hlt]
    have er : vsx.take (i + 1) = vsx.take i ++ [vsx[i]] := by rw [List.take_add_one, hx]; rfl
    refine .inr ⟨⟨vsx, vsx[i], hS', hx⟩, fun G' => G' = SetL w H D ((vsx.take (i + 1)).map f), fun G' e => ⟨vsx.length - (i + 1), by omega, rfl, hlt, e⟩, fun x G' y => ?_⟩
    obtain ⟨e, y⟩ := y
    subst e
    have ex : x = vsx[i] := Option.some.inj ((y vsx hS').symm.trans hx)
    subst ex
    have z := hs D (vsx.take i) vsx[i] (vsx.drop (i + 1)) hD (by rw [List.getElem_cons_drop, List.take_append_drop])
    rw [← er] at z
    exact z
  · have e : i = vsx.length := by omega
    subst e
    rw [List.take_length]
    exact .inl ⟨⟨vsx, (SetL.same hD).seq hS, Nat.le_refl _⟩, q D hD⟩
/-- two clauses -/
def sc2B (w : World) (J : It) (g : TG) (tt : TT) (wi1 : TI) (g1 : TG) (tt1 : TT) (te : TE) (vs vs1 : List Nat) (σ : St) (Q : VK) (H1 : Hp) : Prop := ∀ D, H1 D = none → ∃ Z : Nat → Nat → Hp → Prop, (∃ m, Z 0 m (upd H1 D (SetO w D setNo 0))) ∧ ∀ i m G, Z i m G →
  (J.stop i G ∧ Q (.ref D) G) ∨ (J.go i G ∧ ∃ Y : Hp → Prop, (∀ G', Y G' → ∃ l, l < m ∧ Z (i + 1) l G') ∧ ∀ x G', J.yld i G x G' → g x (wipe σ vs) G' fun σ2 G2 => wipe σ2 vs = wipe σ vs ∧ tt σ2 G2 fun b G3 =>
    if b = true then wi1 σ2 G3 (sc2_inner w D g1 tt1 te vs1 σ2 Y) else Y G3)
instance st_scI2 {wi wi1 : TI} {g g1 : TG} {tt1 : TT} {vs vs1 : List Nat} : Stp (tScI2 w wi g tt wi1 g1 tt1 te vs vs1 σ H Q) (wi σ H fun J H1 => sc2B w J g tt wi1 g1 tt1 te vs vs1 σ Q H1) := ⟨fun h => h⟩
def rowsL (f : Nat → Nat → Int) (m : Nat) : Nat → List Int
  | 0 => []
  | i + 1 => rowsL f m i ++ (List.range m).map (f i)
theorem mem_rowsL {f : Nat → Nat → Int} {m : Nat} {k : Int} : ∀ {n : Nat}, k ∈ rowsL f m n ↔ ∃ i j, i < n ∧ j < m ∧ f i j = k
  | 0 => by simp [rowsL]
  | n + 1 => by
    rw [rowsL, List.mem_append, mem_rowsL (n := n), List.mem_map]
    constructor
    · rintro (⟨i, j, a, b, c⟩ | ⟨j, a, b⟩)
      · exact ⟨i, j, by omega, b, c⟩
      · exact ⟨n, j, by omega, List.mem_range.mp a, b⟩
    · rintro ⟨i, j, a, b, c⟩
      by_cases e : i = n
      · subst e
        exact .inr ⟨j, List.mem_range.mpr b, c⟩
      · exact .inl ⟨i, j, by omega, b, c⟩
theorem rd_sc2R {lo : Int} {n m : Nat} {g g1 : TG} {wi1 : TI} {vs vs1 : List Nat} (f : Nat → Nat → Int)
    (hs : ∀ D i, H D = none → i < n → g (.int (lo + i)) (wipe σ vs) (SetL w H D (rowsL f m i)) fun σ2 H2 => wipe σ2 vs = wipe σ vs ∧ wi1 σ2 H2 (sc2_inner w D g1 tYes te vs1 σ2 fun G => G = SetL w H D (rowsL f m (i + 1))))
    (q : ∀ D, H D = none → Q (.ref D) (SetL w H D (rowsL f m n))) : sc2B w (Itr lo n) g tYes wi1 g1 tYes te vs vs1 σ Q H := by
  intro D hD
  refine ⟨fun i m' G => m' = n - i ∧ i ≤ n ∧ G = SetL w H D (rowsL f m i), ⟨n, by simp, Nat.zero_le _, SetL.nil⟩, ?_⟩
  rintro i m' G ⟨rfl, hi, rfl⟩
  by_cases lt : i < n
  · refine .inr ⟨lt, fun G' => G' = SetL w H D (rowsL f m (i + 1)), fun G' e => ⟨n - (i + 1), by omega, rfl, lt, e⟩, fun x G' y => ?_⟩
    obtain ⟨e, y⟩ := y
    subst e y
    exact hs D i hD lt
  · have e : i = n := by omega
    subst e
    exact .inl ⟨Nat.le_refl _, q D hD⟩
theorem rd_sc2in {lo : Int} {m : Nat} {g1 : TG} {vs1 : List Nat} {D : Addr} {xs zs : List Int} {H0 : Hp} (f : Nat → Int) (hz : zs = xs ++ (List.range m).map f)
    (hs : ∀ j, j < m → g1 (.int (lo + j)) (wipe σ vs1) (SetL w H0 D (xs ++ (List.range j).map f)) fun σ3 H5 => wipe σ3 vs1 = wipe σ vs1 ∧ te σ3 H5 (ScP w H0 D (xs ++ (List.range (j + 1)).map f))) :
    sc2_inner w D g1 tYes te vs1 σ (fun G => G = SetL w H0 D zs) (Itr lo m) (SetL w H0 D xs) := by
  subst hz
  refine ⟨fun j k G => k = m - j ∧ j ≤ m ∧ G = SetL w H0 D (xs ++ (List.range j).map f), ⟨m, by simp, Nat.zero_le _, by simp⟩, ?_⟩
  rintro j k G ⟨rfl, hj, rfl⟩
  by_cases lt : j < m
  · refine .inr ⟨lt, fun G' => G' = SetL w H0 D (xs ++ (List.range (j + 1)).map f), fun G' e => ⟨m - (j + 1), by omega, rfl, lt, e⟩, fun x G' y => ?_⟩
    obtain ⟨e, y⟩ := y
    subst e y
    exact hs j lt
  · have e : j = m := by omega
    subst e
    exact .inl ⟨Nat.le_refl _, rfl⟩
theorem row_snoc {xs : List Int} {f : Nat → Int} {j : Nat} : xs ++ (List.range (j + 1)).map f = (xs ++ (List.range j).map f) ++ [f j] := by
  rw [range_snoc, List.append_assoc]
/-- sorted of the set of xs -/
theorem rd_sortSL {D : Addr} {xs : List Int} {H' : Hp} (hD : H' D = some (SetO w D (inS (ofL xs)) (ofL xs).length)) (q : ∀ (ns : List Int) (p : Addr), ns.Pairwise (· < ·) → (∀ k, k ∈ ns ↔ k ∈ xs) → H' p = none → Q (.ref p) (upd H' p (.lst (ns.map V.int)))) : rSortSetN w [.ref D] H' Q :=
  rd_sortSetN hD fun ns p h1 h2 hp => q ns p h1 (fun k => by rw [h2 k, mem_ofL]) hp
end
end L2
namespace L2
open PySem PySem.Spec PyProof.Rows
/-! ### list comprehensions over a list of ints -/
section
variable {σ : St} {H : Hp} {Q : VK} {K : PySem.W.Frag} {te : TE} {tt : TT}
def resI (p : Int → Bool) (f : Int → V) (ns : List Int) : List V := (ns.filter p).map f
theorem resI_len {p : Int → Bool} {f : Int → V} {ns : List Int} : (resI p f ns).length ≤ ns.length := by
  unfold resI
  rw [List.length_map]
  exact List.length_filter_le _ _
theorem put_I {D : Addr} {p : Int → Bool} {f : Int → V} {l : List Int} {x : Int} {y : V} (hi : l.length < 1000000) (hp : p x = true) (hy : y = f x) : LcPut H D (resI p f l) (resI p f (l ++ [x])) y (upd H D (.lst (resI p f l))) := by
  refine ⟨_, upd_same, Nat.lt_of_le_of_lt resI_len (Nat.lt_trans hi (by decide)), ?_⟩
  rw [upd_upd]
  unfold resI
  rw [List.filter_append, List.map_append, hy]
  simp [hp]
theorem skip_I {D : Addr} {p : Int → Bool} {f : Int → V} {l : List Int} {x : Int} (hp : p x = false) : LcSkip H D (resI p f (l ++ [x])) (upd H D (.lst (resI p f l))) := by
  show upd H D _ = _
  unfold resI
  rw [List.filter_append, List.map_append]
  simp [hp]
theorem rd_lcI {a : Addr} {ns : List Int} {g : TG} {vs : List Nat} (p : Int → Bool) (f : Int → V) (hS : SqL K H a (ns.map V.int))
    (hs : ∀ D l x r, H D = none → ns = l ++ x :: r → g (.int x) (wipe σ vs) (upd H D (.lst (resI p f l))) fun σ2 H2 => wipe σ2 vs = wipe σ vs ∧ tt σ2 H2 fun b H3 => if b = true then te σ2 H3 (LcPut H D (resI p f l) (resI p f (l ++ [x]))) else LcSkip H D (resI p f (l ++ [x])) H3)
    (q : ∀ D, H D = none → Q (.ref D) (upd H D (.lst ((ns.filter p).map f)))) : lcB (Itl K a) g tt te vs σ Q H := by
  intro D hD
  refine ⟨fun i m H' => m = ns.length - i ∧ i ≤ ns.length ∧ H' = upd H D (.lst (resI p f (ns.take i))), ⟨ns.length, by simp, Nat.zero_le _, rfl⟩, ?_⟩
  rintro i m H' ⟨rfl, hi, rfl⟩
  have hS' : SqL K (upd H D (.lst (resI p f (ns.take i)))) a (ns.map V.int) := (same_new hD).seq hS
  by_cases hlt : i < ns.length
  · have hx : (ns.map V.int)[i]? = some (.int ns[i]) := by simp [hlt]
    have er : ns.take (i + 1) = ns.take i ++ [ns[i]] := by rw [List.take_add_one, List.getElem?_eq_getElem hlt]; rfl
    refine .inr ⟨⟨_, _, hS', hx⟩, fun H' => H' = upd H D (.lst (resI p f (ns.take (i + 1)))), fun H' p' => ⟨ns.length - (i + 1), by omega, rfl, hlt, p'⟩, fun x H' y => ?_⟩
    obtain ⟨e, y⟩ := y
    subst e
    have ex : x = .int ns[i] := Option.some.inj ((y _ hS').symm.trans hx)
    subst ex
    have z := hs D (ns.take i) ns[i] (ns.drop (i + 1)) hD (by rw [List.getElem_cons_drop, List.take_append_drop])
    rw [← er] at z
    exact z
  · have e : i = ns.length := by omega
    subst e
    rw [List.take_length]
    exact .inl ⟨⟨_, (same_new hD).seq hS, by rw [List.length_map]; exact Nat.le_refl _⟩, q D hD⟩
end
end L2

namespace L2
open PySem PySem.Spec PyProof.Rows
/-! ### making and methods within a try -/
section
variable {X : Cx} {k : Nat} {f C : Addr} {fd : FuncData} {ps : List PySem.Str} {sp : Sp} {x m : PySem.Str} {p pos apos : Pos} {e o : Expr} {es : List Expr} {ta : TE} {t : TA} {W : WX}
def tMakeT (C : Addr) (sp : Sp) (E : St → XK) (t : TA) : TE := fun σ H Q => t σ H fun vs H1 => ∀ x dx, H1 x = none → H1 dx = none → dx ≠ x → sp (.ref x :: vs) (upd (upd H1 dx (.own x)) x (.ins C dx [])) (fun v H2 => v = .non ∧ Q (.ref x) H2) (E σ)
theorem run_mkS {pins : List (Addr × Obj)} {σ : St} {H : Hp} {s : Shared} {Q : VK} {us : List Value} {vs : List V} (M : Mk X.K C f) (F : FnOk X.prog X.w X.K X.mg X.base (L2.CX X.prog X.w) k f fd ps sp) (hr : Room (k + 1) X.A) (hb : Binds X.K fd ps []) (tk : Takes X W) (I : Inv X pins σ H s) (r : Vals vs us)
    (h : ∀ x dx, H x = none → H dx = none → dx ≠ x → sp (.ref x :: vs) (upd (upd H dx (.own x)) x (.ins C dx [])) (fun v H2 => v = .non ∧ Q (.ref x) H2) (WE W σ)) :
    wpAny (model X.prog X.w) X.A (call (.ref C) us) (EP X pins σ Q) X.xe s := by
  have go := h (s.heap.objs.size + 1) s.heap.objs.size (I.hok.fresh (Nat.le_succ _)) (I.hok.fresh (Nat.le_refl _)) (Nat.ne_of_lt (Nat.lt_succ_self _))
  have J := Inv.made (C := C) I
  have rr : Vals (V.ref (s.heap.objs.size + 1) :: vs) (Value.ref (s.heap.objs.size + 1) :: us) := .cons rfl r
  have len : (Value.ref (s.heap.objs.size + 1) :: us).length = ps.length := rr.length.symm.trans (F.len _ _ _ _ go)
  have bs := hb _ (Value.ref (s.heap.objs.size + 1) :: us) J.kIn (by rw [List.append_nil]; exact len)
  rw [List.append_nil] at bs
  refine wpAny_call (make_map (f := f) I.kIn M.makes M.init (beq_iff_eq.mp M.fn) (codeAny_mono (F.run _ X.stack _ _ ⟨Value.ref (s.heap.objs.size + 1) :: us, []⟩ _ _ _ _ (hr.make C us []) (J.env0.make C us []) bs rr go) fun res t done => ?_))
  cases res with
  | error x => exact passAt tk σ pins _ _ x t J done
  | ok fl =>
    cases fl with
    | ret u =>
      obtain ⟨v, H', I3, rv, ev, q3⟩ := J.after done
      subst ev
      exact ⟨rv, V.ref (s.heap.objs.size + 1), H', I3, rfl, q3⟩
    | next => exact done.elim
    | brk => exact done.elim
    | cont => exact done.elim
theorem pe_mkdS (D : MkDef X.prog X.w X.K X.mg X.base k x C ps sp) (hr : Room (k + 1) X.A) (tk : Takes X W) (ha : PA X (e :: es) t) (hg : Gl X x := by rfl)
    (hdb : (x == ("__debug__" : PySem.Str)) = false := by decide) (he : starEach (e :: es) X.env = (false, eval e X.env) :: starEach es X.env := by rfl) (hpl : (backTo pos (starEach es X.env)).any (·.1) = false := by rfl) :
    PE X (.Call (.Name x p) (e :: es) [] pos) (tMakeT C sp (WE W) t) := by
  obtain ⟨f, fd, F, M, b⟩ := D.ex
  refine ⟨fun pins s σ H Q I h => wpAny_Call_Name_kw (ld_glob I hg D.g ?_ hdb)⟩
  exact PySem.W.callWith_K (h₀ := X.base) I.ok.mod.kin M.kp (thn (ha.run pos pins s σ H _ I h) fun us s1 ⟨vs, H1, I1, r, q⟩ => ⟨I1.kIn, run_mkS M F hr b tk I1 r q⟩) he hpl
instance st_makeS {σ : St} {H : Hp} {Q : VK} {E : St → XK} : Stp (tMakeT C sp E t σ H Q) (t σ H fun vs H1 => ∀ x dx, H1 x = none → H1 dx = none → dx ≠ x → sp (.ref x :: vs) (upd (upd H1 dx (.own x)) x (.ins C dx [])) (fun v H2 => v = .non ∧ Q (.ref x) H2) (E σ)) := ⟨fun h => h⟩
/-- o.m(e, ..) within a try -/
def tMethT (C : Addr) (m : PySem.Str) (sp : Sp) (E : St → XK) (ta : TE) (t : TA) : TE := fun σ H Q => ta σ H fun x H1 => ∃ a dx fs, x = .ref a ∧ H1 a = some (.ins C dx fs) ∧ fs.lookup m = none ∧ t σ H1 fun vs H2 => sp (x :: vs) H2 Q (E σ)
theorem pe_mdS {pl : Sem Bool} (D : MDef X.prog X.w X.K X.mg X.base k C m ps sp) (he : PE X o ta) (c : Cls X.K C) (hr : Room k X.A) (tk : Takes X W) (ha : PA X (e :: es) t)
    (hst : starEach (e :: es) X.env = (false, eval e X.env) :: starEach es X.env := by rfl) (hpl : (backTo pos (starEach es X.env)).any (·.1) = false := by rfl)
    (ht : eval (.Call (.Attribute o m apos) (e :: es) [] pos) X.env = (do
      let self ← eval o X.env
      standAt apos.atName
      let (g, ahead) ← holding [self] (getMethod self m pl)
      callWith pos g ahead (backTo pos (starEach (e :: es) X.env)) (backToKw pos (keywordEach [] X.env))) := by rfl) :
    PE X (.Call (.Attribute o m apos) (e :: es) [] pos) (tMethT C m sp (WE W) ta t) := by
  obtain ⟨f, fd, F, g, b⟩ := D.ex
  refine ⟨fun pins s σ H Q I h => PySem.W.methodCall_KW (pl := pl) (thn (he.run pins s σ H _ I h) fun u s1 ⟨x, H1, I1, rx, a, dx, fs, ex, at_, no, q⟩ => ?_) ht⟩
  subst ex
  obtain rfl : u = Value.ref a := rx
  refine getmeth_ok I1 at_ c g no ?_
  refine PySem.W.callWith_K (first := [.ref a]) (h₀ := X.base) I1.ok.mod.kin g.kp (thn (ha.run pos pins s1 σ H1 _ I1 q) fun us s2 ⟨vs, H2, I2, r, q2⟩ => ⟨I2.kIn, ?_⟩) hst hpl
  exact run_fnS (E := WE W) (us := .ref a :: us) (vs := .ref a :: vs) F hr b (passAt tk σ) I2 (.cons rfl r) q2
theorem pe_md0S {pl : Sem Bool} (D : MDef X.prog X.w X.K X.mg X.base k C m ps sp) (he : PE X o ta) (c : Cls X.K C) (hr : Room k X.A) (tk : Takes X W)
    (ht : eval (.Call (.Attribute o m apos) [] [] pos) X.env = (do
      let self ← eval o X.env
      standAt apos.atName
      let (g, ahead) ← holding [self] (getMethod self m pl)
      callWith pos g ahead (backTo pos (starEach [] X.env)) (backToKw pos (keywordEach [] X.env))) := by rfl) :
    PE X (.Call (.Attribute o m apos) [] [] pos) (tMethT C m sp (WE W) ta tNil) := by
  obtain ⟨f, fd, F, g, b⟩ := D.ex
  refine ⟨fun pins s σ H Q I h => PySem.W.methodCall_KW (pl := pl) (thn (he.run pins s σ H _ I h) fun u s1 ⟨x, H1, I1, rx, a, dx, fs, ex, at_, no, q⟩ => ?_) ht⟩
  subst ex
  obtain rfl : u = Value.ref a := rx
  refine getmeth_ok I1 at_ c g no ?_
  exact PySem.W.callWith_K0 (first := [.ref a]) I1.kIn g.kp (run_fnS (E := WE W) (us := [.ref a]) (vs := [.ref a]) F hr b (passAt tk σ) I1 (.cons rfl .nil) q)
instance st_methT {σ : St} {H : Hp} {Q : VK} {E : St → XK} : Stp (tMethT C m sp E ta t σ H Q) (ta σ H fun x H1 => ∃ a dx fs, x = .ref a ∧ H1 a = some (.ins C dx fs) ∧ fs.lookup m = none ∧ t σ H1 fun vs H2 => sp (x :: vs) H2 Q (E σ)) := ⟨fun h => h⟩
end
end L2
namespace L2
open PySem PySem.Spec PyProof.Rows
theorem upd_id {H : Hp} {p : Addr} {o : HO} (h : H p = some o) : upd H p o = H := funext fun b => by
  by_cases e : b = p
  · subst e
    rw [upd_same, h]
  · rw [upd_ne e]
section
variable {H : Hp} {Q : VK} {K : PySem.W.Frag} {a : Addr}
theorem rd_sortedI {ns : List Int} (h : SqL K H a (ns.map V.int)) (q : ∀ (ms : List Int) (p : Addr), ms.Perm ns → ms.Pairwise (· ≤ ·) → H p = none → Q (.ref p) (upd H p (.lst (ms.map V.int)))) : rSortedI K [.ref a] H Q := ⟨a, ns, rfl, h, q⟩
end
end L2

namespace L2
open PySem PySem.Spec PyProof.Rows
/-! ### dicts with ints as keys -/
section
variable {σ : St} {H : Hp} {Q : VK} {K : PySem.W.Frag} {v x y : V} {td ty tv : TE} {a : Addr} {i : Int} {kvs : List (Key × V)} {nx : St → Hp → Prop} {rt : VK} {bk ct : St → Hp → Prop}
instance st_dnewK : Stp (tDNewK σ H Q) (∀ p, H p = none → Q (.ref p) (upd H p (.dK []))) := ⟨fun h => h⟩
def rDGetV (Q : VK) : V → V → Hp → Prop := fun x y H => ∃ a v, x = .ref a ∧ DGet H a y (some v) ∧ Q v H
def rDInV (Q : VK) : V → V → Hp → Prop := fun x y H => ∃ a o, x = .ref a ∧ DGet H a y o ∧ Q (.bl o.isSome) H
def rDNinV (Q : VK) : V → V → Hp → Prop := fun x y H => ∃ a o, x = .ref a ∧ DGet H a y o ∧ Q (.bl (!o.isSome)) H
def rDPutV (S : Hp → Prop) : V → V → V → Hp → Prop := fun x y v H => ∃ a H4, x = .ref a ∧ DPut H a y v H4 ∧ S H4
instance st_dget : Stp (tDGet td ty σ H Q) (td σ H fun x H1 => ty σ H1 fun y H2 => rDGetV Q x y H2) := ⟨fun h => h⟩
instance st_din : Stp (tDIn ty td σ H Q) (ty σ H fun y H1 => td σ H1 fun x H2 => rDInV Q x y H2) := ⟨fun h => h⟩
instance st_dnotin : Stp (tDNotIn ty td σ H Q) (ty σ H fun y H1 => td σ H1 fun x H2 => rDNinV Q x y H2) := ⟨fun h => h⟩
instance st_dput : Stp (sDPut td ty tv ⟨nx, rt, bk, ct⟩ σ H) (tv σ H fun v H1 => td σ H1 fun x H2 => ty σ H2 fun y H3 => rDPutV (nx σ) x y v H3) := ⟨fun h => h⟩
theorem rd_dget1 (h : H a = some (.dK kvs)) (hv : valV kvs (.inl i) = some v) (q : Q v H) : rDGetV Q (.ref a) (.int i) H := ⟨a, v, rfl, hv ▸ DGet.k (k := .inl i) h, q⟩
theorem rd_din1 {b : Bool} (h : H a = some (.dK kvs)) (hb : (valV kvs (.inl i)).isSome = b) (q : Q (.bl b) H) : rDInV Q (.ref a) (.int i) H := ⟨a, _, rfl, DGet.k (k := .inl i) h, by rw [hb]; exact q⟩
theorem rd_dnotin1 {b : Bool} (h : H a = some (.dK kvs)) (hb : (valV kvs (.inl i)).isSome = b) (q : Q (.bl (!b)) H) : rDNinV Q (.ref a) (.int i) H := ⟨a, _, rfl, DGet.k (k := .inl i) h, by rw [hb]; exact q⟩
theorem rd_dput1 {S : Hp → Prop} (h : H a = some (.dK kvs)) (hl : kvs.length < sizeLine) (q : S (upd H a (.dK (putK kvs (.inl i) v)))) : rDPutV S (.ref a) (.int i) v H := ⟨a, _, rfl, DPut.k (k := .inl i) h hl, q⟩
/-! dicts of flags: {k: True for ..}; ks the keys, in order -/
def dFl (ks : List Int) : List (Key × V) := ks.map fun k => (.inl k, .bl true)
abbrev DFl (ks : List Int) : HO := .dK (dFl ks)
theorem dFl_len {ks : List Int} : (dFl ks).length = ks.length := List.length_map ..
theorem dFl_val {i : Int} : ∀ {ks : List Int}, (valV (dFl ks) (.inl i)).isSome = decide (i ∈ ks)
  | [] => by simp [dFl, valV]
  | k :: ks => by
    have ih := dFl_val (i := i) (ks := ks)
    by_cases e : k = i
    · subst e
      have : valV (dFl (k :: ks)) (.inl k) = some (.bl true) := valV_pos (p := ((Sum.inl k : Key), V.bl true)) (r := dFl ks) (k := Sum.inl k) rfl
      rw [this]
      simp
    · have : valV (dFl (k :: ks)) (.inl i) = valV (dFl ks) (.inl i) := valV_neg (p := ((Sum.inl k : Key), V.bl true)) (r := dFl ks) (k := Sum.inl i) fun z => e (Sum.inl.inj z)
      rw [this, ih]
      refine decide_eq_decide.mpr ?_
      rw [List.mem_cons]
      exact ⟨.inr, fun z => z.elim (fun z => absurd z.symm e) id⟩
theorem dFl_put {ks : List Int} {i : Int} : putK (dFl ks) (.inl i) (.bl true) = dFl (insL ks i) := by
  unfold insL
  by_cases h : i ∈ ks
  · rw [if_pos h]
    unfold putK
    rw [if_pos (by rw [valV_any, dFl_val, decide_eq_true h])]
    unfold dFl
    rw [List.map_map]
    refine List.map_congr_left fun k _ => ?_
    by_cases e : k = i
    · subst e
      simp
    · simp [e]
  · rw [if_neg h]
    have hn : valV (dFl ks) (.inl i) = none := by
      have := dFl_val (i := i) (ks := ks)
      rw [decide_eq_false h] at this
      cases hv : valV (dFl ks) (.inl i) with
      | none => rfl
      | some _ => rw [hv] at this; cases this
    rw [putK_new _ hn]
    unfold dFl
    rw [List.map_append]
    rfl
theorem dFl_keys {ks : List Int} : ((dFl ks).map fun kv => kV kv.1) = ks.map V.int := by
  unfold dFl
  rw [List.map_map]
  rfl
theorem rd_dinF {ks : List Int} (h : H a = some (DFl ks)) (q : Q (.bl (decide (i ∈ ks))) H) : rDInV Q (.ref a) (.int i) H := rd_din1 h dFl_val q
theorem rd_dnotinF {ks : List Int} (h : H a = some (DFl ks)) (q : Q (.bl (!decide (i ∈ ks))) H) : rDNinV Q (.ref a) (.int i) H := rd_dnotin1 h dFl_val q
theorem rd_dputF {ks : List Int} {S : Hp → Prop} (h : H a = some (DFl ks)) (hl : ks.length < 1000000) (q : S (upd H a (DFl (insL ks i)))) : rDPutV S (.ref a) (.int i) (.bl true) H :=
  rd_dput1 h (by rw [dFl_len]; exact Nat.lt_trans hl (by decide)) (by rw [dFl_put]; exact q)
def rListD : List V → Hp → VK → Prop := fun xs H Q => ∃ (a : Addr) (kvs : List (Key × V)), xs = [.ref a] ∧ Rd H a (.dK kvs) ∧ ∀ p, H p = none → Q (.ref p) (upd H p (.lst (kvs.map fun kv => kV kv.1)))
theorem c_listD {X : Cx} (calm : X.calm = true) : CallR X (.type "list") rListD := call_listD calm
theorem rd_listF {ks : List Int} (h : H a = some (DFl ks)) (q : ∀ p, H p = none → Q (.ref p) (upd H p (.lst (ks.map V.int)))) : rListD [.ref a] H Q := ⟨a, dFl ks, rfl, .inl h, by rw [dFl_keys]; exact q⟩
/-- y in xs, data of any depth -/
theorem rd_inDp {d : PyData} {ds : List PyData} {p : Prop} [Decidable p] (h1 : Dp K H x d) (h2 : Dp K H y (.list ds)) (o1 : okD d 60 = true) (o2 : okDs ds 59 = true) (hp : d ∈ ds ↔ p) (q : Q (.bl (decide p)) H) : rInD K x y H Q := by
  have s2 : okD (.list ds) 60 = true := by simp [okD, o2]
  refine ⟨d, ds, h1, h2, okD_shaped o1, okD_shaped s2, ?_⟩
  have e : (ds.any fun z => PyData.eqv z d) = decide p := by
    rw [Bool.eq_iff_iff, List.any_eq_true, decide_eq_true_iff, ← hp]
    constructor
    · rintro ⟨z, hz, e⟩
      have oz : okD z 59 = true := by
        clear h2 hp s2 q
        induction ds with
        | nil => cases hz
        | cons b ds ih =>
          simp only [okDs, Bool.and_eq_true] at o2
          rcases List.mem_cons.mp hz with rfl | hz
          · exact o2.1
          · exact ih o2.2 hz
      rw [(okD_eqv z d 59 60 oz o1).mp e] at hz
      exact hz
    · intro hz
      have := (okD_eqv d d 60 60 o1 o1).mpr rfl
      exact ⟨d, hz, this⟩
  rw [e]
  exact q
theorem rd_notInDp {d : PyData} {ds : List PyData} {p : Prop} [Decidable p] (h1 : Dp K H x d) (h2 : Dp K H y (.list ds)) (o1 : okD d 60 = true) (o2 : okDs ds 59 = true) (hp : d ∈ ds ↔ p) (q : Q (.bl (!decide p)) H) : rNotInD K x y H Q := by
  obtain ⟨d', ds', a1, a2, a3, a4, a5⟩ := rd_inDp (Q := fun v H => ∃ b, v = .bl b ∧ Q (.bl (!b)) H) h1 h2 o1 o2 hp ⟨_, rfl, q⟩
  obtain ⟨b, e, q'⟩ := a5
  refine ⟨d', ds', a1, a2, a3, a4, ?_⟩
  rw [V.bl.inj e]
  exact q'
end
end L2
namespace L2
open PySem PySem.Spec PyProof.Rows
theorem room65 {k : Nat} {A : Around} (r : Room k A) : A.units + 65 < cLine := by
  have := r.un
  omega
end L2

namespace L2
open PySem PySem.Spec PyProof.Rows
/-! ### two roads for one expression -/
def tAlt (t u : TE) : TE := fun σ H Q => t σ H Q ∨ u σ H Q
def tAltT (t u : TT) : TT := fun σ H Q => t σ H Q ∨ u σ H Q
def iAlt (t u : TI) : TI := fun σ H S => t σ H S ∨ u σ H S
section
variable {X : Cx} {e tg : Expr}
theorem pe_alt {t u : TE} (h : PE X e t) (k : PE X e u) : PE X e (tAlt t u) := ⟨fun pins s σ H Q I z => z.elim (h.run pins s σ H Q I) (k.run pins s σ H Q I)⟩
theorem pt_alt {t u : TT} (h : PT X e t) (k : PT X e u) : PT X e (tAltT t u) := ⟨fun pins s σ H Q I z => z.elim (h.run pins s σ H Q I) (k.run pins s σ H Q I)⟩
theorem pi_alt {t u : TI} (h : PI X tg e t) (k : PI X tg e u) : PI X tg e (iAlt t u) := ⟨fun pins s σ H S I z => z.elim (h.run pins s σ H S I) (k.run pins s σ H S I)⟩
end
/-! ### operators of own classes -/
def rInO (C : Addr) (sp : Sp) (E : XK) : R2 := fun x y H Q => ∃ a dx fs, y = .ref a ∧ H a = some (.ins C dx fs) ∧ sp [.ref a, x] H (fun v H' => ∃ b, v = .bl b ∧ Q (.bl b) H') E
def rNinO (C : Addr) (sp : Sp) (E : XK) : R2 := fun x y H Q => ∃ a dx fs, y = .ref a ∧ H a = some (.ins C dx fs) ∧ sp [.ref a, x] H (fun v H' => ∃ b, v = .bl b ∧ Q (.bl (!b)) H') E
def rBinO (C : Addr) (sp : Sp) (E : XK) : R2 := fun x y H Q => ∃ a b dx fs dy gs, x = .ref a ∧ y = .ref b ∧ H a = some (.ins C dx fs) ∧ H b = some (.ins C dy gs) ∧ sp [.ref a, .ref b] H (fun v H' => ∃ r, v = .ref r ∧ Q (.ref r) H') E
def rUnO (C : Addr) (sp : Sp) (E : XK) : V → Hp → VK → Prop := fun x H Q => ∃ a dx fs, x = .ref a ∧ H a = some (.ins C dx fs) ∧ sp [.ref a] H Q E
/-- an own instance's truth -/
def rTruO (C : Addr) (sp : Sp) (E : XK) (R : Bool → Hp → Prop) (x : V) (H : Hp) : Prop := ∃ a dx fs, x = .ref a ∧ H a = some (.ins C dx fs) ∧ sp [.ref a] H (fun v H' => ∃ b, v = .bl b ∧ R b H') E
section
variable {X : Cx} {k : Nat} {C : Addr} {ps : List PySem.Str} {sp : Sp} {E : XK} {m : PySem.Str}
theorem own_at {pins : List (Addr × Obj)} {σ : St} {H : Hp} {s : Shared} {a dx : Addr} {fs : List (PySem.Str × V)} (I : Inv X pins σ H s) (ha : H a = some (.ins C dx fs)) : ∃ ox od, PySem.W.InstAt s.heap a ox C (some od) := by
  obtain ⟨mA, J, _⟩ := ins_get I.hok ha
  obtain ⟨od, J, _⟩ := J.look
  exact ⟨_, od, J⟩
theorem op_inO (D : MDef X.prog X.w X.K X.mg X.base k C "__contains__" ps sp) (hr : Room k X.A) (hx : Passes (L2.CX X.prog X.w) X E) : OpR X (compareOp .In) (rInO C sp E) := by
  intro pins s σ H x y v u Q I rx ry ⟨a, dx, fs, ey, ha, go⟩
  subst ey
  cases (show u = Value.ref a from ry)
  obtain ⟨f, fd, F, g, b⟩ := D.ex
  obtain ⟨ox, od, J⟩ := own_at I ha
  obtain ⟨m, hF⟩ := I.fr
  refine PySem.W.in_K hF I.ok.mod.kin J g.at_ g.fn (wpAny_mono (run_fn (dvs := []) (ds := []) (us := [.ref a, v]) (vs := [.ref a, x]) F hr b .nil hx I (.cons rfl (.cons rx .nil)) go) (fun r t done => ?_) fun _ _ z => z)
  obtain ⟨z, H', I', rz, bb, ez, q⟩ := done
  subst ez
  cases (show r = Value.bool bb from rz)
  exact wpAny_truthy_bool ⟨.bl bb, H', I', rfl, q⟩
theorem op_notInO (D : MDef X.prog X.w X.K X.mg X.base k C "__contains__" ps sp) (hr : Room k X.A) (hx : Passes (L2.CX X.prog X.w) X E) : OpR X (compareOp .NotIn) (rNinO C sp E) := by
  intro pins s σ H x y v u Q I rx ry ⟨a, dx, fs, ey, ha, go⟩
  subst ey
  cases (show u = Value.ref a from ry)
  obtain ⟨f, fd, F, g, b⟩ := D.ex
  obtain ⟨ox, od, J⟩ := own_at I ha
  obtain ⟨m, hF⟩ := I.fr
  refine PySem.W.notIn_K hF I.ok.mod.kin J g.at_ g.fn (wpAny_mono (run_fn (dvs := []) (ds := []) (us := [.ref a, v]) (vs := [.ref a, x]) F hr b .nil hx I (.cons rfl (.cons rx .nil)) go) (fun r t done => ?_) fun _ _ z => z)
  obtain ⟨z, H', I', rz, bb, ez, q⟩ := done
  subst ez
  cases (show r = Value.bool bb from rz)
  exact wpAny_truthy_bool ⟨.bl (!bb), H', I', rfl, q⟩
theorem op_binO {op : Operator} (D : MDef X.prog X.w X.K X.mg X.base k C m ps sp) (hm : PySem.dunder op.info.2 = m) (first : PySem.W.selfFirst X.K C = true) (ty : ∀ (H : Hp) (a dx : Addr) (fs : List (PySem.Str × V)), H a = some (.ins C dx fs) → TyX X.K H (.ref a) (.ref C)) (hr : Room k X.A) (hx : Passes (L2.CX X.prog X.w) X E) :
    OpR X (binaryOp op) (rBinO C sp E) := by
  intro pins s σ H x y v u Q I rx ry ⟨a, b, dx, fs, dy, gs, ex, ey, ha, hb, go⟩
  subst ex ey hm
  cases (show v = Value.ref a from rx)
  cases (show u = Value.ref b from ry)
  obtain ⟨f, fd, F, g, bd⟩ := D.ex
  obtain ⟨ox, od, J⟩ := own_at I ha
  obtain ⟨m, hF⟩ := I.fr
  obtain ⟨P, Z, hp, _⟩ := kit_of I (show RelV (V.ref b) (Value.ref b) from rfl) (ty H b dy gs hb)
  refine PySem.W.binop_K hF I.ok.mod.kin J (Z.ty _ s.heap I.kIn hp) first g.at_ g.fn (wpAny_mono (run_fn (dvs := []) (ds := []) (us := [.ref a, .ref b]) (vs := [.ref a, .ref b]) F hr bd .nil hx I (.cons rfl (.cons rfl .nil)) go) (fun r t done => ?_) fun _ _ z => z)
  obtain ⟨z, H', I', rz, rr, ez, q⟩ := done
  subst ez
  cases (show r = Value.ref rr from rz)
  exact ⟨.ref rr, H', I', rfl, q⟩
theorem un_invO (D : MDef X.prog X.w X.K X.mg X.base k C "__invert__" ps sp) (hr : Room k X.A) (hx : Passes (L2.CX X.prog X.w) X E) : UnR X (unaryOp .Invert) (rUnO C sp E) := by
  intro pins s σ H x v Q I rx ⟨a, dx, fs, ex, ha, go⟩
  subst ex
  cases (show v = Value.ref a from rx)
  obtain ⟨f, fd, F, g, b⟩ := D.ex
  obtain ⟨ox, od, J⟩ := own_at I ha
  obtain ⟨m, hF⟩ := I.fr
  exact PySem.W.ksp_inv hF I.ok.mod.kin J g.at_ g.fn (run_fn (dvs := []) (ds := []) (us := [.ref a]) (vs := [.ref a]) F hr b .nil hx I (.cons rfl .nil) go)
theorem un_negO (D : MDef X.prog X.w X.K X.mg X.base k C "__neg__" ps sp) (hr : Room k X.A) (hx : Passes (L2.CX X.prog X.w) X E) : UnR X (unaryOp .USub) (rUnO C sp E) := by
  intro pins s σ H x v Q I rx ⟨a, dx, fs, ex, ha, go⟩
  subst ex
  cases (show v = Value.ref a from rx)
  obtain ⟨f, fd, F, g, b⟩ := D.ex
  obtain ⟨ox, od, J⟩ := own_at I ha
  obtain ⟨m, hF⟩ := I.fr
  exact PySem.W.ksp_neg hF I.ok.mod.kin J g.at_ g.fn (run_fn (dvs := []) (ds := []) (us := [.ref a]) (vs := [.ref a]) F hr b .nil hx I (.cons rfl .nil) go)
theorem truO_ok {pins : List (Addr × Obj)} {σ : St} {H : Hp} {s : Shared} {x : V} {v : Value} {R : Bool → Hp → Prop} (D : MDef X.prog X.w X.K X.mg X.base k C "__bool__" ps sp) (hr : Room k X.A) (hx : Passes (L2.CX X.prog X.w) X E) (I : Inv X pins σ H s) (rx : RelV x v) (h : rTruO C sp E R x H) :
    wpAny (model X.prog X.w) X.A (truthy v) (fun b t => ∃ H', Inv X pins σ H' t ∧ R b H') X.xe s := by
  obtain ⟨a, dx, fs, ex, ha, go⟩ := h
  subst ex
  cases (show v = Value.ref a from rx)
  obtain ⟨f, fd, F, g, b⟩ := D.ex
  obtain ⟨ox, od, J⟩ := own_at I ha
  obtain ⟨m, hF⟩ := I.fr
  refine PySem.W.truthy_K hF I.ok.mod.kin J g.at_ g.fn (wpAny_mono (run_fn (dvs := []) (ds := []) (us := [.ref a]) (vs := [.ref a]) F hr b .nil hx I (.cons rfl .nil) go) (fun r t done => ?_) fun _ _ z => z)
  obtain ⟨z, H', I', rz, bb, ez, q⟩ := done
  subst ez
  cases (show r = Value.bool bb from rz)
  exact ⟨H', I', q⟩
variable {a : Expr} {ta : TE} {pos : Pos}
/-- an instance as a test -/
def tTruO (C : Addr) (sp : Sp) (E : XK) (ta : TE) : TT := fun σ H R => ta σ H (rTruO C sp E R)
theorem pt_truO (D : MDef X.prog X.w X.K X.mg X.base k C "__bool__" ps sp) (hr : Room k X.A) (hx : Passes (L2.CX X.prog X.w) X E) (ha : PE X a ta) (he : ∀ whole, isTrue a X.env whole = (do let v ← whole; standAt a.pos; holding [v] (truthy v))) : PT X a (tTruO C sp E ta) :=
  ⟨fun pins s σ H R I h => isTrue_plain (thn (ha.run pins s σ H _ I h) fun v s1 ⟨x, H1, I1, r1, q1⟩ => truO_ok D hr hx I1 r1 q1) (he _)⟩
/-- not of an instance, as a value -/
def tNotO (C : Addr) (sp : Sp) (E : XK) (ta : TE) : TE := fun σ H Q => ta σ H (rTruO C sp E fun b H' => Q (.bl (!b)) H')
theorem pe_notO (D : MDef X.prog X.w X.K X.mg X.base k C "__bool__" ps sp) (hr : Room k X.A) (hx : Passes (L2.CX X.prog X.w) X E) (ha : PE X a ta) : PE X (.UnaryOp .Not a pos) (tNotO C sp E ta) :=
  ⟨fun pins s σ H Q I h => UnaryOp_ (thn (ha.run pins s σ H _ I h) fun v s1 ⟨x, H1, I1, r1, q1⟩ => not_of (thn (truO_ok D hr hx I1 r1 q1) fun b t ⟨H', I', q⟩ => ⟨.bl (!b), H', I', rfl, q⟩))⟩
end
section
variable {σ : St} {H : Hp} {Q : VK} {R : Bool → Hp → Prop} {C a b dx dy : Addr} {fs gs : List (PySem.Str × V)} {sp : Sp} {E : XK} {x : V} {ta te : TE} {t u : TE}
instance st_tTruO : Stp (tTruO C sp E ta σ H R) (ta σ H (rTruO C sp E R)) := ⟨fun h => h⟩
instance st_tNotO : Stp (tNotO C sp E ta σ H Q) (ta σ H (rTruO C sp E fun b H' => Q (.bl (!b)) H')) := ⟨fun h => h⟩
theorem rd_inO (h : H a = some (.ins C dx fs)) (q : sp [.ref a, x] H (fun v H' => ∃ b, v = .bl b ∧ Q (.bl b) H') E) : rInO C sp E x (.ref a) H Q := ⟨a, dx, fs, rfl, h, q⟩
theorem rd_ninO (h : H a = some (.ins C dx fs)) (q : sp [.ref a, x] H (fun v H' => ∃ b, v = .bl b ∧ Q (.bl (!b)) H') E) : rNinO C sp E x (.ref a) H Q := ⟨a, dx, fs, rfl, h, q⟩
theorem rd_binO (h : H a = some (.ins C dx fs)) (k : H b = some (.ins C dy gs)) (q : sp [.ref a, .ref b] H (fun v H' => ∃ r, v = .ref r ∧ Q (.ref r) H') E) : rBinO C sp E (.ref a) (.ref b) H Q := ⟨a, b, dx, fs, dy, gs, rfl, rfl, h, k, q⟩
theorem rd_unO (h : H a = some (.ins C dx fs)) (q : sp [.ref a] H Q E) : rUnO C sp E (.ref a) H Q := ⟨a, dx, fs, rfl, h, q⟩
theorem rd_truO (h : H a = some (.ins C dx fs)) (q : sp [.ref a] H (fun v H' => ∃ b, v = .bl b ∧ R b H') E) : rTruO C sp E R (.ref a) H := ⟨a, dx, fs, rfl, h, q⟩
end
/-! ### bool(o) -/
section
variable {X : Cx} {k : Nat} {C : Addr} {ps : List PySem.Str} {sp : Sp} {E : XK}
def rBoolO (C : Addr) (sp : Sp) (E : XK) : List V → Hp → VK → Prop := fun xs H Q => ∃ x, xs = [x] ∧ rTruO C sp E (fun b H' => Q (.bl b) H') x H
end
/-! ### classmethods -/
structure CMAt (K : PySem.W.Frag) (C : Addr) (m qual : PySem.Str) (st : Stmt) : Prop where
  ex : ∃ (mc : Value) (p g : Addr) (fd : FuncData), ClX.CRead K C mc ∧ ClX.CMet K C mc m p g ∧ Fun K m qual st g fd
structure CMDef (P : Program) (w : World) (K : PySem.W.Frag) (mg : PySem.Str → Option Value) (base : Heap) (k : Nat) (C : Addr) (m : PySem.Str) (sp : Sp) : Prop where
  ex : ∃ (mc : Value) (p g : Addr), ClX.CRead K C mc ∧ ClX.CMet K C mc m p g ∧ FnR P w K mg base (L2.CX P w) k g sp
section
variable {P : Program} {w : World} {K : PySem.W.Frag} {mg : PySem.Str → Option Value} {base : Heap}
theorem CMDef.imp {k : Nat} {C : Addr} {m : PySem.Str} {sp sp' : Sp} (D : CMDef P w K mg base k C m sp) (h : ∀ vs H Q E, sp' vs H Q E → sp vs H Q E) : CMDef P w K mg base k C m sp' := by
  obtain ⟨mc, p, g, a, b, F⟩ := D.ex
  exact ⟨mc, p, g, a, b, F.imp h⟩
theorem FnR.forget {k : Nat} {f : Addr} {sp : Sp} (F : FnR P w K mg base (L2.CX P w) k f sp) : FnR P w K mg base (L2.CX P w) k f (fun vs H Q E => NoT H ∧ sp vs H (fun v H' => Same H H' ∧ Q v H) E) := by
  intro A outer s H us vs Q E hr he r q
  refine codeAny_mono (F A outer s H us vs _ E hr he r q.2) fun res t done => ?_
  cases res with
  | error er => exact done
  | ok fl =>
    cases fl with
    | ret u =>
      obtain ⟨v, H2, os2, bare2, un2, hok2, rv, sm, q2⟩ := done
      exact ⟨v, H, os2, bare2, ⟨un2.keep, un2.slot, fun _ _ _ n _ => n, un2.there, fun _ _ q => q, fun _ _ _ q => q, fun _ ps q => ⟨#[], by rw [q]; simp⟩⟩, hok_back q.1 hok2 he.hok sm, rv, q2⟩
    | next => exact done
    | brk => exact done
    | cont => exact done
theorem CMDef.forget {k : Nat} {C : Addr} {m : PySem.Str} {sp : Sp} (D : CMDef P w K mg base k C m sp) : CMDef P w K mg base k C m (fun vs H Q E => NoT H ∧ sp vs H (fun v H' => Same H H' ∧ Q v H) E) := by
  obtain ⟨mc, p, g, a, b, F⟩ := D.ex
  exact ⟨mc, p, g, a, b, FnR.forget F⟩
/-- a classmethod with plain parameters -/
theorem CMAt.ok {C : Addr} {m qual : PySem.Str} {st : Stmt} {N ps : List PySem.Str} {k : Nat} {sp : Sp} (D : CMAt K C m qual st) (S : FnScope N ps (defScope st)) (len : ∀ vs H Q E, sp vs H Q E → vs.length = ps.length)
    (binds : ∀ (f : Addr) (fd : FuncData), Fun K m qual st f fd → Binds K fd ps [])
    (hbody : ∀ (f : Addr) (cdv : Value) (A : Around) (outer : List Env) (s : Shared) (H : Hp) (vs : List V) (Q : VK) (E : XK), Room k (A.deeper (envOfC qual (defScope st) s.heap.objs.size f cdv)) → sp vs H Q E →
      ∃ t, PSs (cxOf (L2.CX P w) P w K mg base N qual (defScope st) f cdv A outer s H E) (defBody st) t ∧ t ⟨fun _ H' => Q .non H', Q, fun _ _ => False, fun _ _ => False⟩ (start N vs) H) : CMDef P w K mg base (k + 1) C m sp := by
  obtain ⟨mc, p, g, fd, a, b, F⟩ := D.ex
  refine ⟨mc, p, g, a, b, FnR.imp (FnOk.raw (F.okX S len fun cdv A outer s H vs Q E hr h => hbody g cdv A outer s H vs Q E hr h) (binds g fd F) .nil) fun vs H Q E h => ?_⟩
  rw [List.append_nil]
  exact h
/-- a classmethod with a star parameter behind the plain ones -/
theorem CMAt.okStar {C : Addr} {m qual pv : PySem.Str} {st : Stmt} {N ps : List PySem.Str} {k : Nat} {sp : Sp} (D : CMAt K C m qual st) (S : FnScope N (ps ++ [pv]) (defScope st))
    (binds : ∀ (kV doc pm cdv ct : Value) (an : Option Addr) (us rest : List Value), us.length = ps.length → bindArgs (PySem.W.fnOf m qual (defArgs st) (defBody st) (defScope st) .none kV doc pm an cdv ct) ⟨us ++ rest, []⟩ = (newTuple rest >>= fun t => pure (ps.zip us ++ [(pv, t)])))
    (hbody : ∀ (f : Addr) (cdv : Value) (A : Around) (outer : List Env) (s : Shared) (H : Hp) (vs : List V) (Q : VK) (E : XK), Room k (A.deeper (envOfC qual (defScope st) s.heap.objs.size f cdv)) → sp vs H Q E →
      ∃ t, PSs (cxOf (L2.CX P w) P w K mg base N qual (defScope st) f cdv A outer s H E) (defBody st) t ∧ t ⟨fun _ H' => Q .non H', Q, fun _ _ => False, fun _ _ => False⟩ (start N vs) H) :
    CMDef P w K mg base (k + 1) C m (fun vs H Q E => ∃ ws rest, vs = ws ++ rest ∧ ws.length = ps.length ∧ rest.length ≤ sizeLine ∧ ∀ p, H p = none → sp (ws ++ [V.ref p]) (upd H p (.tup rest)) Q E) := by
  obtain ⟨mc, p, g, fd, a, b, F⟩ := D.ex
  obtain ⟨c0, d0, kV, doc, pm, an, cdv, ct, sl, rfl, lk, hcd⟩ := F.ex
  exact ⟨mc, p, g, a, b, StX.fn_star lk hcd S StX.cxUp (binds kV doc pm cdv ct an) fun A outer s H vs Q E hr h => hbody g cdv A outer s H vs Q E hr h⟩
end
section
variable {X : Cx} {k : Nat} {C : Addr} {m : PySem.Str} {sp : Sp} {E : XK} {o e : Expr} {es : List Expr} {ta : TE} {t : TA} {pos apos : Pos}
theorem pe_cm {pl : Sem Bool} (D : CMDef X.prog X.w X.K X.mg X.base k C m sp) (he : PE X o ta) (hr : Room k X.A) (hx : Passes (L2.CX X.prog X.w) X E) (ha : PA X (e :: es) t)
    (hst : starEach (e :: es) X.env = (false, eval e X.env) :: starEach es X.env := by rfl) (hpl : (backTo pos (starEach es X.env)).any (·.1) = false := by rfl)
    (ht : eval (.Call (.Attribute o m apos) (e :: es) [] pos) X.env = (do
      let self ← eval o X.env
      standAt apos.atName
      let (g, ahead) ← holding [self] (getMethod self m pl)
      callWith pos g ahead (backTo pos (starEach (e :: es) X.env)) (backToKw pos (keywordEach [] X.env))) := by rfl) :
    PE X (.Call (.Attribute o m apos) (e :: es) [] pos) (ClX.tCMeth C sp E ta t) := by
  obtain ⟨mc, p, g, a, b, F⟩ := D.ex
  exact ClX.pe_cmeth he a b F hr hx ha hst hpl ht
theorem pe_cm0 {pl : Sem Bool} (D : CMDef X.prog X.w X.K X.mg X.base k C m sp) (he : PE X o ta) (hr : Room k X.A) (hx : Passes (L2.CX X.prog X.w) X E)
    (ht : eval (.Call (.Attribute o m apos) [] [] pos) X.env = (do
      let self ← eval o X.env
      standAt apos.atName
      let (g, ahead) ← holding [self] (getMethod self m pl)
      callWith pos g ahead (backTo pos (starEach [] X.env)) (backToKw pos (keywordEach [] X.env))) := by rfl) :
    PE X (.Call (.Attribute o m apos) [] [] pos) (ClX.tCMeth C sp E ta tNil) := by
  obtain ⟨mc, p, g, a, b, F⟩ := D.ex
  refine ⟨fun pins s σ H Q I h => PySem.W.methodCall_KW (pl := pl) (thn (he.run pins s σ H _ I h) fun u s1 ⟨x, H1, I1, rx, ex, q⟩ => ?_) ht⟩
  subst ex
  obtain rfl : u = Value.ref C := rx
  refine ClX.getmethcm_ok I1 a b fun s2 I2 => ?_
  exact PySem.W.callWith_M0 (first := []) ⟨ClX.pin_at I2, I2.kIn⟩ b.fi (ClX.run_cm (us := []) F hr hx I2 .nil q)
instance st_cm {σ : St} {H : Hp} {Q : VK} : Stp (ClX.tCMeth C sp E ta t σ H Q) (ta σ H fun x H1 => x = .ref C ∧ t σ H1 fun vs H2 => sp (.ref C :: vs) H2 Q E) := ⟨fun h => h⟩
instance st_cm1 {P : Prop} : Stp (V.ref C = V.ref C ∧ P) P := ⟨fun h => ⟨rfl, h⟩⟩
/-- cls(..), the class in a name -/
def tMakeL (C : Addr) (sp : Sp) (E : XK) (tf : TE) (t : TA) : TE := fun σ H Q => tf σ H fun y H1 => y = .ref C ∧ t σ H1 fun vs H2 => ∀ x dx, H2 x = none → H2 dx = none → dx ≠ x → sp (.ref x :: vs) (upd (upd H2 dx (.own x)) x (.ins C dx [])) (fun v H3 => v = .non ∧ Q (.ref x) H3) E
instance st_makeL {σ : St} {H : Hp} {Q : VK} {tf : TE} : Stp (tMakeL C sp E tf t σ H Q) (tf σ H fun y H1 => y = .ref C ∧ t σ H1 fun vs H2 => ∀ x dx, H2 x = none → H2 dx = none → dx ≠ x → sp (.ref x :: vs) (upd (upd H2 dx (.own x)) x (.ins C dx [])) (fun v H3 => v = .non ∧ Q (.ref x) H3) E) := ⟨fun h => h⟩
theorem pe_mkL {x : PySem.Str} {ps : List PySem.Str} {fe : Expr} {tf : TE} (D : MkDef X.prog X.w X.K X.mg X.base k x C ps sp) (hf : PE X fe tf) (hr : Room (k + 1) X.A) (hx : Passes (L2.CX X.prog X.w) X E) (ha : PA X (e :: es) t)
    (ht : eval (.Call fe (e :: es) [] pos) X.env = (do callWith pos (← eval fe X.env) [] (backTo pos (starEach (e :: es) X.env)) (backToKw pos (keywordEach [] X.env))) := by rfl)
    (he : starEach (e :: es) X.env = (false, eval e X.env) :: starEach es X.env := by rfl) (hpl : (backTo pos (starEach es X.env)).any (·.1) = false := by rfl) :
    PE X (.Call fe (e :: es) [] pos) (tMakeL C sp E tf t) := by
  obtain ⟨f, fd, F, M, b⟩ := D.ex
  refine ⟨fun pins s σ H Q I h => Call_ (thn (hf.run pins s σ H _ I h) fun u s1 ⟨y, H1, I1, ry, ey, q⟩ => ?_) ht⟩
  subst ey
  obtain rfl : u = Value.ref C := ry
  refine PySem.W.callWith_K (h₀ := X.base) I1.ok.mod.kin M.kp (thn (ha.run pos pins s1 σ H1 _ I1 q) fun us s2 ⟨vs, H2, I2, r, q2⟩ => ⟨I2.kIn, ?_⟩) he hpl
  refine run_make (dvs := []) M F hr b .nil hx I2 r ?_
  rw [List.append_nil]
  exact q2
end
end L2
namespace L2
open PySem PySem.Spec PyProof.Rows
/-! ### bool(t), a tuple -/
theorem meets_boolT (a : Addr) (its : Array Value) (small : (its.size : Int) < 2 ^ 63) :
    Meets (Builtin.«bool.__new__» ⟨[.type "bool", .ref a], []⟩) (fun _ R s => IsTup s.heap a its ∧ R (.ok (.ret (.bool (!its.isEmpty)))) { s with toks := s.toks + 1 + 1 }) :=
  Meets.of_wp fun prog w A R s both => by
    obtain ⟨isT, q⟩ := both
    obtain ⟨hp, g, d, tk, os⟩ := s
    have k1 := PySem.F.conv_sub_bool
    repeat (any_goals (first | assumption | (with_reducible refine truthy_tuple isT small ?_) | wp_step | fail))
    all_goals first | exact ⟨_, rfl, q⟩ | exact q | skip
def rBoolT (K : PySem.W.Frag) : List V → Hp → VK → Prop := fun xs H Q => ∃ (a : Addr) (zs : List V), xs = [.ref a] ∧ SqT K H a zs ∧ Q (.bl (!zs.isEmpty)) H
theorem c_boolT {X : Cx} : CallR X (.type "bool") (rBoolT X.K) := by
  intro pins s σ H xs us Q I r ⟨a, zs, ex, isT, q⟩
  subst ex
  obtain rfl := Vals.ref1 r
  obtain ⟨its, rv, pl, hz⟩ := I.tuple isT
  have b1 := line63
  have b2 := rv.length
  refine call_bool_1 (meets_boolT a its.toArray (by simp only [List.size_toArray]; omega)) ⟨pl, rfl, ?_⟩
  exact ⟨.bl (!zs.isEmpty), H, I.tok _, by rw [isEmpty_of rv]; rfl, q⟩
theorem rd_boolT {K : PySem.W.Frag} {H : Hp} {Q : VK} {a : Addr} {zs : List V} (h : SqT K H a zs) (q : Q (.bl (!zs.isEmpty)) H) : rBoolT K [.ref a] H Q := ⟨a, zs, rfl, h, q⟩
end L2
namespace L2
open PySem PySem.Spec PyProof.Rows
/-! ### a def under a second name -/
structure DefAtA (K : PySem.W.Frag) (mg : PySem.Str → Option Value) (y x : PySem.Str) (st : Stmt) (ps : List PySem.Str) : Prop where
  ex : ∃ (f : Addr) (fd : FuncData), Fun K x x st f fd ∧ mg y = some (.ref f) ∧ Binds K fd ps []
theorem DefAtA.ok {P : Program} {w : World} {K : PySem.W.Frag} {mg : PySem.Str → Option Value} {base : Heap} {y x : PySem.Str} {st : Stmt} {N ps : List PySem.Str} {k : Nat} {sp : Sp} (D : DefAtA K mg y x st ps) (S : FnScope N ps (defScope st)) (len : ∀ vs H Q E, sp vs H Q E → vs.length = ps.length)
    (body : ∀ (f : Addr) (cdv : Value) (A : Around) (outer : List Env) (s : Shared) (H : Hp) (vs : List V) (Q : VK) (E : XK), Room k (A.deeper (envOfC x (defScope st) s.heap.objs.size f cdv)) → sp vs H Q E →
      ∃ t, PSs (cxOf (L2.CX P w) P w K mg base N x (defScope st) f cdv A outer s H E) (defBody st) t ∧ t ⟨fun _ H' => Q .non H', Q, fun _ _ => False, fun _ _ => False⟩ (start N vs) H) : Def P w K mg base (k + 1) y ps sp := by
  obtain ⟨f, fd, F, g, b⟩ := D.ex
  exact ⟨f, fd, F.okX S len fun cdv A outer s H vs Q E hr h => body f cdv A outer s H vs Q E hr h, g, F.kp, b⟩
/-! ### {k: v for ..} given to a name -/
theorem ps_setDc {X : Cx} {i : Nat} {y : PySem.Str} {py spos : Pos} {kx vx tg iter : Expr} {ifs : List Expr} {scope : Scope} {own : List (PySem.Str × Nat)} {pos : Pos} {wi : TI} {g : TG} {tt : TT} {tk tv : TE} (calm : X.calm = true) (nd : X.N.Nodup) (hy : X.N[i]? = some y) (loc : X.env.scope.names.lookup y = some .local)
    (swap : swapsWith (.DictComp kx vx [⟨tg, iter, ifs, 0⟩] scope pos) (some (.Name y py)) spos.line X.env = pure true) (it0 : PI X tg iter wi) (ok : BlkOk X.N X.env.scope scope own)
    (pg0 : ∀ (s0 : Shared) (G : Hp) (C : Addr) (cl : List (PySem.Str × Addr)) (fp : List Addr), PG (X.blk s0 G scope (compEnvC scope cl C X.env) fp) tg g)
    (pt0 : ∀ (s0 : Shared) (G : Hp) (C : Addr) (cl : List (PySem.Str × Addr)) (fp : List Addr), PTs (X.blk s0 G scope (compEnvC scope cl C X.env) fp) ifs tt)
    (pk0 : ∀ (s0 : Shared) (G : Hp) (C : Addr) (cl : List (PySem.Str × Addr)) (fp : List Addr), PE (X.blk s0 G scope (compEnvC scope cl C X.env) fp) kx tk)
    (pe0 : ∀ (s0 : Shared) (G : Hp) (C : Addr) (cl : List (PySem.Str × Addr)) (fp : List Addr), PE (X.blk s0 G scope (compEnvC scope cl C X.env) fp) vx tv) (fold : ∀ x, foldedSetIterable iter X.env x = pure x := by intro _; rfl) :
    PS X (.Assign [.Name y py] (.DictComp kx vx [⟨tg, iter, ifs, 0⟩] scope pos) spos) (tAsg (tDc wi g tt tk tv (own.map (·.2))) (gName i)) := by
  refine ⟨fun pins s σ H D I0 want => ?_⟩
  rw [exec_Assign_Name_used _ _ _ _ swap]
  refine wpAny_bind (wpAny_standAt (wpAny_bind ?_))
  show wpAny _ X.A (do let _ ← comprehension (.DictComp kx vx [⟨tg, iter, ifs, 0⟩] scope pos) scope X.env (firstIterPos [⟨tg, iter, ifs, 0⟩] pos) newDict false (eval iter X.env) (some (assign (.Name y py) X.env))) _ _ s
  replace want : tDc wi g tt tk tv (own.map (·.2)) σ H (fun x G => gName i x σ G D.nx) := want
  refine wpAny_bind (thn (dc_core (Qf := fun _ t => SP X pins D .next t) calm nd I0 it0 ok pg0 pt0 pk0 pe0 fold want fun L C t m G J q ns f => ?_) fun _ t hq => wpAny_pure (wpAny_pure hq))
  show wpAny _ _ (assign (.Name y py) X.env (.ref L)) _ _ _
  refine wpAny_assign_Name (store_ok2 (v := V.ref L) J nd hy (.inl loc) rfl (fun t2 J2 ⟨a, sb, ha⟩ => ?_) (.inr loc))
  obtain ⟨g0, g1, g2, g3, g4, g5⟩ := f
  have away : C ≠ a := by
    rcases ha with z | z
    · exact z ▸ g1
    · exact fun e => g4 y a z e.symm
  exact ⟨m, ns.sameBut sb away, fun h3 sb3 => ⟨_, G, J2.turned (t' := t2.toks) (fun b o ne e => (sb3.2 b ne).trans e) g0 g1 g3 g4 g5, q⟩⟩
theorem sw_dc {kx vx : Expr} {gs : List Comprehension} {scope : Scope} {pos py : Pos} {y : PySem.Str} {l : Nat} {env : Env} (kind : env.scope.kind = .function) (loc : env.scope.names.lookup y = some .local) (line : (py.line == pos.line) = true)
    (other : (scope.names.any fun (n, k) => n == y && (k == .local || k == .cell)) = false) : swapsWith (.DictComp kx vx gs scope pos) (some (.Name y py)) l env = pure true := by
  have k1 : env.kindOf y = some .local := loc
  have k2 : env.blockKind = .function := by unfold Env.blockKind; rw [kind]; rfl
  unfold swapsWith
  simp only [k2, k1, other, Expr.pos, line]
  rfl
/-- {x: True for x in xs}, xs a list or tuple of ints -/
def dcB (J : It) (g : TG) (tt : TT) (tk tv : TE) (vs : List Nat) (σ : St) (Q : VK) (H1 : Hp) : Prop := ∀ D, H1 D = none → ∃ W : Nat → Nat → Hp → Prop, (∃ m, W 0 m (upd H1 D (.dK []))) ∧ ∀ i m H, W i m H →
  (J.stop i H ∧ Q (.ref D) H) ∨ (J.go i H ∧ ∃ Nx : Hp → Prop, (∀ H', Nx H' → ∃ m', m' < m ∧ W (i + 1) m' H') ∧ ∀ x H', J.yld i H x H' → g x (wipe σ vs) H' fun σ2 H2 => wipe σ2 vs = wipe σ vs ∧ tt σ2 H2 fun b H3 =>
    if b = true then tk σ2 H3 fun y H4 => tv σ2 H4 fun z H5 => ∃ kvs k, y = kV k ∧ H5 D = some (.dK kvs) ∧ kvs.length < sizeLine ∧ Nx (upd H5 D (.dK (putK kvs k z))) else Nx H3)
section
variable {σ : St} {H : Hp} {Q : VK} {K : PySem.W.Frag} {tk tv : TE} {tt : TT}
instance st_dc {wi : TI} {g : TG} {vs : List Nat} : Stp (tDc wi g tt tk tv vs σ H Q) (wi σ H fun J H1 => dcB J g tt tk tv vs σ Q H1) := ⟨fun h => h⟩
def DcPut (H : Hp) (D : Addr) (xs : List Int) (y z : V) (H5 : Hp) : Prop := ∃ kvs k, y = kV k ∧ H5 D = some (.dK kvs) ∧ kvs.length < sizeLine ∧ upd H5 D (.dK (putK kvs k z)) = upd H D (DFl (ofL xs))
theorem put_F {D : Addr} {xs ys : List Int} {c : Int} (few : xs.length < 100000) (e : ys = xs ++ [c]) : DcPut H D ys (.int c) (.bl true) (upd H D (DFl (ofL xs))) := by
  refine ⟨_, .inl c, rfl, upd_same, ?_, ?_⟩
  · rw [dFl_len]
    exact Nat.lt_trans (Nat.lt_of_le_of_lt len_ofL few) (by decide)
  · rw [upd_upd, dFl_put, e, ofL_snoc]
theorem rd_dcLF {a : Addr} {ns : List Int} {g : TG} {vs : List Nat} (hS : SqL K H a (ns.map V.int))
    (hs : ∀ D l x r, H D = none → ns = l ++ x :: r → g (.int x) (wipe σ vs) (upd H D (DFl (ofL l))) fun σ2 H2 => wipe σ2 vs = wipe σ vs ∧ tk σ2 H2 fun y H4 => tv σ2 H4 fun z H5 => DcPut H D (l ++ [x]) y z H5)
    (q : ∀ D, H D = none → Q (.ref D) (upd H D (DFl (ofL ns)))) : dcB (Itl K a) g tYes tk tv vs σ Q H := by
  intro D hD
  refine ⟨fun i m G => m = ns.length - i ∧ i ≤ ns.length ∧ G = upd H D (DFl (ofL (ns.take i))), ⟨ns.length, by simp, Nat.zero_le _, rfl⟩, ?_⟩
  rintro i m G ⟨rfl, hi, rfl⟩
  have hS' : SqL K (upd H D (DFl (ofL (ns.take i)))) a (ns.map V.int) := (same_new hD).seq hS
  by_cases hlt : i < ns.length
  · have hx : (ns.map V.int)[i]? = some (.int ns[i]) := by simp [hlt]
    have er : ns.take (i + 1) = ns.take i ++ [ns[i]] := by rw [List.take_add_one, List.getElem?_eq_getElem hlt]; rfl
    refine .inr ⟨⟨_, _, hS', hx⟩, fun G' => G' = upd H D (DFl (ofL (ns.take (i + 1)))), fun G' e => ⟨ns.length - (i + 1), by omega, rfl, hlt, e⟩, fun x G' y => ?_⟩
    obtain ⟨e, y⟩ := y
    subst e
    have ex : x = .int ns[i] := Option.some.inj ((y _ hS').symm.trans hx)
    subst ex
    have z := hs D (ns.take i) ns[i] (ns.drop (i + 1)) hD (by rw [List.getElem_cons_drop, List.take_append_drop])
    rw [← er] at z
    exact z
  · have e : i = ns.length := by omega
    subst e
    rw [List.take_length]
    exact .inl ⟨⟨_, (same_new hD).seq hS, by rw [List.length_map]; exact Nat.le_refl _⟩, q D hD⟩
theorem rd_dcTF {a : Addr} {ns : List Int} {g : TG} {vs : List Nat} (hS : SqT K H a (ns.map V.int))
    (hs : ∀ D l x r, H D = none → ns = l ++ x :: r → g (.int x) (wipe σ vs) (upd H D (DFl (ofL l))) fun σ2 H2 => wipe σ2 vs = wipe σ vs ∧ tk σ2 H2 fun y H4 => tv σ2 H4 fun z H5 => DcPut H D (l ++ [x]) y z H5)
    (q : ∀ D, H D = none → Q (.ref D) (upd H D (DFl (ofL ns)))) : dcB (Itt K a) g tYes tk tv vs σ Q H := by
  intro D hD
  refine ⟨fun i m G => m = ns.length - i ∧ i ≤ ns.length ∧ G = upd H D (DFl (ofL (ns.take i))), ⟨ns.length, by simp, Nat.zero_le _, rfl⟩, ?_⟩
  rintro i m G ⟨rfl, hi, rfl⟩
  have hS' : SqT K (upd H D (DFl (ofL (ns.take i)))) a (ns.map V.int) := (same_new hD).seqT hS
  by_cases hlt : i < ns.length
  · have hx : (ns.map V.int)[i]? = some (.int ns[i]) := by simp [hlt]
    have er : ns.take (i + 1) = ns.take i ++ [ns[i]] := by rw [List.take_add_one, List.getElem?_eq_getElem hlt]; rfl
    refine .inr ⟨⟨_, _, hS', hx⟩, fun G' => G' = upd H D (DFl (ofL (ns.take (i + 1)))), fun G' e => ⟨ns.length - (i + 1), by omega, rfl, hlt, e⟩, fun x G' y => ?_⟩
    obtain ⟨e, y⟩ := y
    subst e
    have ex : x = .int ns[i] := Option.some.inj ((y _ hS').symm.trans hx)
    subst ex
    have z := hs D (ns.take i) ns[i] (ns.drop (i + 1)) hD (by rw [List.getElem_cons_drop, List.take_append_drop])
    rw [← er] at z
    exact z
  · have e : i = ns.length := by omega
    subst e
    rw [List.take_length]
    exact .inl ⟨⟨_, (same_new hD).seqT hS, by rw [List.length_map]; exact Nat.le_refl _⟩, q D hD⟩
end
end L2
namespace L2
open PySem PySem.Spec PyProof.Rows
theorem rd_catA {K : PySem.W.Frag} {H : Hp} {Q : VK} {a b : Addr} {xs ys : List V} (h1 : SqT K H a xs) (h2 : SqT K H b ys) (h3 : xs.length + ys.length ≤ sizeLine) (q : ∀ p H', Same H H' → (NoT H → NoT H') → SqT K H' p (xs ++ ys) → Q (.ref p) H') : rCatA K (.ref a) (.ref b) H Q :=
  ⟨a, b, xs, ys, rfl, rfl, h1, h2, h3, fun e => q b H (Same.refl H) id (by rw [e]; exact h2), fun _ e => q a H (Same.refl H) id (by rw [e, List.append_nil]; exact h1), fun _ _ p hp => q p _ (same_new hp) (fun nt => NoT.upd nt rfl) (SqT.of upd_same)⟩
end L2
namespace PySem.W
open PySem PySem.Spec PySem.Calls PyProof.Rows
section
variable {prog : Program} {w : World} {A : Around} {E : Value → Shared → Prop} {s : Shared} {K : Frag} {x C f : Addr} {ox : Obj} {od : Option Obj}
theorem kbo_truthy {M : Model} {A : Around} {Q : Bool → Shared → Prop} (X : K.In s.heap) (I : InstAt s.heap x ox C od) (hs : findIn K (.ref C) "__bool__" = some (some (.ref f))) (hf : isFn K (.ref f) = true)
    (h : wpAny M A (call (.ref f) [.ref x]) (BoolBack Q) E s) : wpAny M A (truthy (.ref x)) Q E s := by
  unfold truthy
  refine wpAny_bind (m := callSpecial? (.ref x) (Str.ofString "__bool__")) (special_fn X I hs (beq_iff_eq.mp hf) (wpAny_mono h (fun r s' hr => ?_) fun _ _ y => y))
  cases r <;> first | exact hr.elim | skip
  exact wpAny_pure hr
theorem kbo_call {Q : Value → Shared → Prop} (X : K.In s.heap) (I : InstAt s.heap x ox C od) (hs : findIn K (.ref C) "__bool__" = some (some (.ref f))) (hf : isFn K (.ref f) = true)
    (h : wpAny (model prog w) A.in1.in1 (call (.ref f) [.ref x]) (BoolBack fun b => Q (.bool b)) E s) : wpAny (model prog w) A (call (.type "bool") [.ref x]) Q E s := by
  refine callType_codes (T := "bool") (Bi := Builtin.«object.__init__») (Q₁ := fun r s₁ => ∃ b, r = .bool b ∧ Q r s₁) PySem.F.called_bool (PySem.F.typeCall_bool_1 _) PySem.F.entry_object_init ?_ ?_
  · refine codeAny_of_tree ?_
    show wpAny _ A.in1.in1 (do checkBuiltinCall "bool.__new__" ⟨[.type "bool", .ref x], []⟩; again (.builtin "bool.__new__" ⟨[.type "bool", .ref x], []⟩)) _ _ s
    refine wpAny_bind (wpAny_of_eq (PySem.F.newCall_bool_1 _) (wpAny_pure ⟨plainId_quiet (by decide +kernel) _, codeAny_builtin PySem.F.entry_bool_new ?_⟩))
    rw [Around.under_plainId (by decide +kernel) _]
    unfold Builtin.«bool.__new__»
    have k1 := PySem.F.conv_sub_bool
    refine wpAny_bind (wpAny_pure ?_)
    dsimp only
    rw [if_neg (by decide)]
    refine wpAny_bind (wpAny_of_eq k1 ?_)
    rw [if_neg (by decide)]
    refine wpAny_bind (m := someArgs "bool" 0 1 _) (wpAny_pure ?_)
    dsimp only
    refine wpAny_bind (kbo_truthy X I hs hf (wpAny_mono h (fun r s' hr => ?_) fun _ _ y => y))
    cases r <;> first | exact hr.elim | skip
    exact wpAny_pure ⟨_, rfl, hr⟩
  · rintro obj s₁ ⟨b, rfl, hq⟩
    exact ⟨typeIs_bool _ _, PySem.F.args_object_init_2 _ _, object_init_meets PySem.F.called_bool.init.lookup PySem.F.called_bool.made (by decide) prog w A.in1 _ s₁ ⟨typeIs_bool _ _, rfl, hq⟩⟩
end
end PySem.W
namespace L2
open PySem PySem.Spec PyProof.Rows
theorem call_boolO {X : Cx} {k : Nat} {C : Addr} {ps : List PySem.Str} {sp : Sp} {E : XK} (D : MDef X.prog X.w X.K X.mg X.base k C "__bool__" ps sp) (hr : Room (k + 2) X.A) (hx : Passes (L2.CX X.prog X.w) X E) : CallR X (.type "bool") (rBoolO C sp E) := by
  intro pins s σ H xs us Q I r h
  obtain ⟨x, rfl, h⟩ := h
  obtain ⟨f, fd, F, g, b⟩ := D.ex
  obtain ⟨a, dx, fs, rfl, ha, hsp⟩ := h
  obtain ⟨u, rfl, hu⟩ := vals1 r
  cases (show u = Value.ref a from hu)
  obtain ⟨mA, J, _⟩ := ins_get I.hok ha
  obtain ⟨od, J, _⟩ := J.look
  refine PySem.W.kbo_call I.kIn J g.at_ g.fn ?_
  have e0 : Env0 X.prog X.w X.K X.mg X.base X.A.in1.in1 X.stack s H := by
    have e := I.env0
    exact ⟨e.frames, e.mod, e.bs, e.bsz, e.funs, e.frf, e.hok, e.bare⟩
  have hl := F.len _ _ _ _ hsp
  have r2 : Vals [V.ref a] [Value.ref a] := .cons rfl .nil
  refine wpAny_call (codeAny_mono (F.run X.A.in1.in1 X.stack s H ⟨[.ref a], []⟩ [.ref a] [.ref a] _ E hr.in1.in1 e0 (by
    have := b s [.ref a] I.kIn (by simpa using hl)
    simpa using this) r2 hsp) fun r s' hq => ?_)
  cases r with
  | error e => exact hx pins σ H s e s' I hq
  | ok fl =>
    cases fl with
    | ret w =>
      obtain ⟨z, H', I', rz, y, ez, q⟩ := I.after hq
      subst ez
      cases (show w = Value.bool y from rz)
      exact ⟨.bl y, H', I', rfl, q⟩
    | next => exact hq.elim
    | brk => exact hq.elim
    | cont => exact hq.elim
section
variable {C a dx : Addr} {fs : List (PySem.Str × V)} {sp : Sp} {E : XK} {H : Hp} {Q : VK}
theorem rd_boolO (h : H a = some (.ins C dx fs)) (q : sp [.ref a] H (fun v H' => ∃ b, v = .bl b ∧ Q (.bl b) H') E) : rBoolO C sp E [.ref a] H Q := ⟨.ref a, rfl, a, dx, fs, rfl, h, q⟩
end
end L2
namespace L2
open PySem PySem.Spec PyProof.Rows
section
variable {σ : St} {H : Hp} {Q : VK} {K : PySem.W.Frag} {te : TE} {tt : TT}
/-- a list comprehension over a list whose tests and items change the heap -/
theorem rd_lcLG {a : Addr} {xs : List V} {g : TG} {vs : List Nat} (J : Addr → Nat → List V → Hp → Prop) (hl : ∀ D i ys H', J D i ys H' → SqL K H' a xs) (h0 : ∀ D, H D = none → J D 0 [] (upd H D (.lst [])))
    (hs : ∀ D i ys x H', H D = none → xs[i]? = some x → H' D = some (.lst ys) → J D i ys H' → g x (wipe σ vs) H' fun σ2 H2 => wipe σ2 vs = wipe σ vs ∧ tt σ2 H2 fun b H3 => if b = true then te σ2 H3 (fun y H4 => ∃ acc, H4 D = some (.lst acc) ∧ acc.length < sizeLine ∧ ∃ ys, (upd H4 D (.lst (acc ++ [y]))) D = some (.lst ys) ∧ J D (i + 1) ys (upd H4 D (.lst (acc ++ [y])))) else ∃ ys, H3 D = some (.lst ys) ∧ J D (i + 1) ys H3)
    (q : ∀ D ys H', H D = none → H' D = some (.lst ys) → J D xs.length ys H' → Q (.ref D) H') : lcB (Itl K a) g tt te vs σ Q H := by
  intro D hD
  refine lc_it (walk_list (K := K) (a := a) (xs := xs)) (fun i H' => ∃ ys, H' D = some (.lst ys) ∧ J D i ys H') ⟨[], upd_same, h0 D hD⟩ (fun i H' _ ⟨ys, _, j⟩ => hl D i ys H' j) ?_ (fun H' ⟨ys, h1, j⟩ => q D ys H' hD h1 j)
  rintro i x H' H'' hi ⟨ys, h1, j⟩ ⟨rfl, hx⟩
  exact hs D i ys x _ hD hx h1 j
end
end L2

namespace L2
open PySem PySem.Spec PyProof.Rows
/-! ### set(xs), a list of ints -/
section
variable {P : Program} {w : World} {A : Around} {E : Value → Shared → Prop} {s : Shared}
/-- a set as it begins -/
abbrev setAtFirst (w : World) : Obj := { cls := .type "set", dict := none, data := .set #[] 0 (.fresh 0 0 (!w.params.followText "set-order")) }
theorem setOf_list {src : Addr} {its : Array Value} (ks : List Int) {Q : Value → Shared → Prop} (calm : A.handled = none) (isL : s.heap.IsList src its) (whole : IntsAre its.toList ks) (few : ks.length + 1 < scanBound)
    (go : ∀ (h' : Heap) (tk c : Nat), SetR w h' s.heap.objs.size (fun j => decide (j ∈ ks)) c → c ≤ ks.length → (∀ b o, s.heap.get? b = some o → h'.get? b = some o) → Q (.ref s.heap.objs.size) { s with heap := h', toks := tk }) :
    wpAny (model P w) A (call (.type "set") [.ref src]) Q E s := by
  have sizes : its.size = ks.length := by rw [← IntsAre.length whole, Array.length_toList]
  have k1 := F.called_set.made
  have k2 := F.called_set.sub
  have k3 := F.called_set.notType
  have k4 := F.called_set.canCreate
  obtain ⟨mro0, mro1, k5⟩ := F.called_set.mro
  refine wpAny_call ?_
  refine codeAny_of_tree ?_
  show wpAny _ _ (callAny (.type "set") _) _ _ s
  refine wpAny_pure ⟨Code.quiet_builtin _ (by decide +kernel), ?_⟩
  refine codeAny_builtin F.entry_type_call ?_
  rw [Around.under_plain (weight_type_call_type "set" [.ref src] []) rfl]
  have k6 := F.typeCall_set_1 (.ref src)
  repeat (any_goals (first | assumption | wp_step | fail))
  refine codeAny_mono (code_set_led1 (.ref src) (E := E) (Q₁ := fun u t => u = .ref s.heap.objs.size ∧ t = { s with heap := s.heap.push (setAtFirst w) }) ⟨rfl, rfl⟩) fun res t made => ?_
  cases res with
  | error x => exact made
  | ok flow =>
    cases flow with
    | ret u =>
      obtain ⟨rfl, rfl⟩ := made
      have atS : (s.heap.push (setAtFirst w)).get? s.heap.objs.size = some (setAtFirst w) := Heap.get?_push_size _ rfl
      have tyS : Shared.TypeIs { s with heap := s.heap.push (setAtFirst w) } (.ref s.heap.objs.size) "set" := ⟨_, atS, rfl⟩
      have k7 := F.called_set.init.lookup
      have k8 := F.called_set.init.bind (.ref s.heap.objs.size)
      repeat (any_goals (first | assumption | wp_step | fail))
      refine codeAny_mono (codeAny_call_builtin (R := wants (fun r t2 => r = .none ∧ ∃ h' tk c, t2 = { s with heap := h', toks := tk } ∧ SetR w h' s.heap.objs.size (fun j => decide (j ∈ ks)) c ∧ c ≤ ks.length ∧
          (∀ b o, s.heap.get? b = some o → h'.get? b = some o)) E) F.called_set.init.plain F.entry_set_init (check_set_init_1 tyS ?_)) fun res2 t2 done => ?_
      · obtain ⟨⟨cls0, dct0, dat0, slt0⟩, atO, isC, ep, isD⟩ := isL
        dsimp only at isC isD
        subst isC isD
        have atO1 : (s.heap.push (setAtFirst w)).get? src = some { cls := .type "list", dict := dct0, data := .seq its ep, slots := slt0 } := Heap.get?_push_of_some _ atO
        have n1 := F.sub_list_set
        have n2 := F.sub_list_frozenset
        have n3 : (Value.type "list" == Value.type "dict") = false := by decide
        have isL1 : (s.heap.push (setAtFirst w)).IsList src its := ⟨_, atO1, rfl, ep, rfl⟩
        unfold Builtin.«set.__init__» noKeywords Builtin.Frozenset.updateFrom
        generalize hit : pyIter = iterOf
        wp_walk
        subst hit
        refine wpAny_pyIter_list isL1 ?_
        refine wpAny_bind (wpAny_runValue ?_)
        have small : src < s.heap.objs.size := Heap.lt_size atO
        have grow : (s.heap.push (setAtFirst w)).objs.size = s.heap.objs.size + 1 := Heap.size_push ..
        have calm3 : A.in1.in1.in1.handled = none := by simp [calm]
        have apart : src ≠ (s.heap.push (setAtFirst w)).objs.size := by
          rw [grow]
          exact Nat.ne_of_lt (Nat.lt_succ_of_lt small)
        have away : s.heap.objs.size ∉ [(s.heap.push (setAtFirst w)).objs.size, src] := by
          rw [grow, List.mem_cons, List.mem_singleton]
          exact not_or.mpr ⟨Nat.ne_of_lt (Nat.lt_succ_self _), Nat.ne_of_gt small⟩
        have each : ∀ (i : Nat) (v : Value), its[i]? = some v → ∃ k t, ks[i]? = some k ∧ v = .int k t := fun i v hv => by
          have hi : i < ks.length := by
            rw [← sizes]
            exact (Array.getElem?_eq_some_iff.mp hv).1
          obtain ⟨t, e⟩ := PyProof.Rows.IntsAre.int_at whole i v (by rw [Array.getElem?_toList]; exact hv)
          refine ⟨ks[i], t, List.getElem?_eq_getElem hi, ?_⟩
          rw [e, List.getD_eq_getElem?_getD, List.getElem?_eq_getElem hi] <;> rfl
        refine set_update_ints ((Walks.list calm3 _ src apart its).toS) s.heap.objs.size away ks sizes few each (its.size - 0) 0 _ (by omega) (Nat.zero_le _)
          ⟨⟨_, Heap.get?_push_size _ rfl, rfl, rfl⟩, (isL1.push _)⟩ ?first ?last
        case first =>
          refine ⟨0, Nat.le_refl 0, setR_new_at ?_⟩
          exact Heap.get?_push_of_some _ atS
        case last =>
          intro t3 c3 mv le3 R3
          obtain ⟨h3, g3, d3, k3, o3⟩ := t3
          obtain rfl : g3 = s.gens := mv.gens
          obtain rfl : d3 = s.drawn := mv.drawn
          obtain rfl : o3 = s.os := mv.os
          show wpAny _ _ _ _ _ _
          refine wpAny_pure ?_
          show wpAny _ _ (ret Value.none) _ _ _
          refine wpAny_pure ⟨rfl, h3, k3, c3, rfl, R3, by rw [← sizes]; exact le3, fun b o e => ?_⟩
          have lt := Heap.lt_size e
          refine mv.heap b o ?_ (Heap.get?_push_of_some _ (Heap.get?_push_of_some _ e))
          rw [List.mem_cons, List.mem_singleton, grow]
          exact not_or.mpr ⟨Nat.ne_of_lt lt, Nat.ne_of_lt (Nat.lt_succ_of_lt lt)⟩
      · cases res2 with
        | error x => exact done
        | ok flow2 =>
          cases flow2 with
          | ret r =>
            obtain ⟨rfl, h', tk, c, rfl, R3, le3, keep⟩ := done
            repeat (any_goals (first | assumption | wp_step | fail))
            exact go _ _ _ R3 le3 keep
          | _ => exact done.elim
    | _ => exact made.elim
end
/-- set(xs), a list or a tuple of ints -/
def rSetOf (K : PySem.W.Frag) (w : World) : List V → Hp → VK → Prop := fun vs H Q => ∃ (a : Addr) (ns : List Int), vs = [.ref a] ∧ (SqL K H a (ns.map V.int) ∨ SqT K H a (ns.map V.int)) ∧ ns.length < 4095 ∧ ∀ D n, H D = none → Q (.ref D) (upd H D (SetO w D (inS ns) n))
theorem cr_setOf {X : Cx} (calm : X.calm = true) : CallR X (.type "set") (rSetOf X.K X.w) := by
  intro pins s σ H vs us Q I r ⟨a, ns, ev, at_, few, q⟩
  subst ev
  rw [Vals.ref1 r]
  have fin : ∀ (h' : Heap) (tk c : Nat), SetR X.w h' s.heap.objs.size (fun j => decide (j ∈ ns)) c → c ≤ ns.length → (∀ b o, s.heap.get? b = some o → h'.get? b = some o) → EP X pins σ Q (.ref s.heap.objs.size) { s with heap := h', toks := tk } := fun h' tk c R _ keep => by
    have free : H s.heap.objs.size = none := I.hok.fresh (Nat.le_refl _)
    exact ⟨.ref s.heap.objs.size, _, I.laid (t' := tk) keep (Nat.le_refl _) (setO_new R), rfl, q _ c free⟩
  rcases at_ with h | h
  · obtain ⟨its, rv, p, hz⟩ := I.list h
    exact setOf_list ns (I.ok.hd calm) p.isList rv.ints (Nat.succ_lt_succ few) fin
  · obtain ⟨its, rv, p, hz⟩ := I.tuple h
    exact call_set_tupI ns (I.ok.hd calm) (show s.heap.IsTuple a its.toArray from p) (ints_of_vals rv) (Nat.succ_lt_succ few) fin
theorem rd_setOfL {K : PySem.W.Frag} {w : World} {a : Addr} {ns : List Int} {H : Hp} {Q : VK} (h : SqL K H a (ns.map V.int)) (few : ns.length < 4095) (q : ∀ D n, H D = none → Q (.ref D) (upd H D (SetO w D (inS ns) n))) : rSetOf K w [.ref a] H Q := ⟨a, ns, rfl, .inl h, few, q⟩
theorem rd_setOfT {K : PySem.W.Frag} {w : World} {a : Addr} {ns : List Int} {H : Hp} {Q : VK} (h : SqT K H a (ns.map V.int)) (few : ns.length < 4095) (q : ∀ D n, H D = none → Q (.ref D) (upd H D (SetO w D (inS ns) n))) : rSetOf K w [.ref a] H Q := ⟨a, ns, rfl, .inr h, few, q⟩
end L2

namespace L2
open PySem PySem.Spec PyProof.Rows
/-! ### a view of the heap: what is kept of an earlier one, what is ours to change, what stands besides, what no list decides -/
def rigid : HO → Bool
  | .ins _ _ _ => true
  | .tup _ => true
  | _ => false
/-- all that is no list, dict or the like still stands -/
def Keeps (G G' : Hp) : Prop := ∀ b o, rigid o = true → G b = some o → G' b = some o
theorem Keeps.refl (G : Hp) : Keeps G G := fun _ _ _ h => h
theorem Keeps.trans {G G' G'' : Hp} (a : Keeps G G') (b : Keeps G' G'') : Keeps G G'' := fun c o r h => b c o r (a c o r h)
theorem Keeps.of {G G' : Hp} (s : Same G G') : Keeps G G' := fun b o _ h => s b o h
theorem Keeps.put {G : Hp} {x : Addr} {o u : HO} (h : G x = some o) (r : rigid o = false) : Keeps G (upd G x u) := fun b v rv hb => by
  by_cases e : b = x
  · subst e
    rw [h] at hb
    cases hb
    rw [r] at rv
    cases rv
  · rw [upd_ne e]
    exact hb
def Rig (P : Hp → Prop) (G : Hp) : Prop := ∀ G', Keeps G G' → P G'
structure Hv (X : Addr → Prop) (H : Hp) (M L : List (Addr × HO)) (Z : List (Hp → Prop)) (G : Hp) : Prop where
  old : ∀ b o, ¬ X b → H b = some o → G b = some o
  nt : NoT G
  m : ∀ q ∈ M, G q.1 = some q.2 ∧ (X q.1 ∨ H q.1 = none) ∧ rigid q.2 = false
  l : ∀ q ∈ L, G q.1 = some q.2
  nd : M.Pairwise fun q r => q.1 ≠ r.1
  ml : ∀ q ∈ M, ∀ r ∈ L, q.1 ≠ r.1
  z : ∀ P ∈ Z, Rig P G
def noX : Addr → Prop := fun _ => False
/-- nothing but x has changed -/
def But (x : Addr) (H H' : Hp) : Prop := ∀ b o, b ≠ x → H b = some o → H' b = some o
theorem But.of {x : Addr} {H H' : Hp} (h : Same H H') : But x H H' := fun b o _ e => h b o e
theorem But.new {x p : Addr} {H G : Hp} {o : HO} (h : But x H G) (hp : G p = none) : But x H (upd G p o) := fun b o1 n e => upd_keep (h b o1 n e) hp
theorem But.put {x : Addr} {H G : Hp} {o : HO} (h : But x H G) : But x H (upd G x o) := fun b o1 n e => by
  rw [upd_ne n]
  exact h b o1 n e
theorem But.refl {x : Addr} {H : Hp} : But x H H := fun _ _ _ e => e
theorem But.trans {x : Addr} {H G L : Hp} (a : But x H G) (b : But x G L) : But x H L := fun c o n e => b c o n (a c o n e)
theorem But.same {x : Addr} {H G L : Hp} (a : But x H G) (b : Same G L) : But x H L := fun c o n e => b c o (a c o n e)
/-- what stood ahead of x still stands -/
theorem But.old {x : Addr} {H0 H G : Hp} (a : But x H G) (s : Same H0 H) (f : H0 x = none) : Same H0 G := fun c o e => a c o (fun z => by
  rw [z, f] at e
  cases e) (s c o e)
theorem But.fresh {x D : Addr} {H G : Hp} {o : HO} (h : But x H G) (f : H D = none) : But x H (upd G D o) := fun b o1 n e => by
  rw [upd_ne (ne_of_none e f)]
  exact h b o1 n e
theorem but_none {x D : Addr} {H G : Hp} (h : But x H G) (n : D ≠ x) (f : G D = none) : H D = none := by
  cases e : H D with
  | none => rfl
  | some o => rw [h D o n e] at f; cases f
section
variable {X : Addr → Prop} {H G G' : Hp} {M L : List (Addr × HO)} {Z : List (Hp → Prop)} {a b D p x y : Addr} {o u v : HO} {P : Hp → Prop} {xs : List V}
theorem Hv.start (nt : NoT H) : Hv noX H [] [] [] H := ⟨fun _ _ _ h => h, nt, fun _ h => absurd h List.not_mem_nil, fun _ h => absurd h List.not_mem_nil, List.Pairwise.nil, fun _ h => absurd h List.not_mem_nil, fun _ h => absurd h List.not_mem_nil⟩
theorem Hv.pool (nt : NoT H) (h : H p = some (.lst xs)) : Hv (· = p) H [(p, .lst xs)] [] [] H := ⟨fun _ _ _ h => h, nt, fun q hq => by
  rw [List.mem_singleton.mp hq]
  exact ⟨h, .inl rfl, rfl⟩, fun _ h => absurd h List.not_mem_nil, List.pairwise_singleton .., fun _ _ _ h => absurd h List.not_mem_nil, fun _ h => absurd h List.not_mem_nil⟩
theorem Hv.same (B : Hv noX H M L Z G) : Same H G := fun b o h => B.old b o id h
theorem Hv.but1 (B : Hv (· = p) H M L Z G) : But p H G := fun b o n h => B.old b o n h
theorem Hv.mAt (B : Hv X H M L Z G) (h : (a, o) ∈ M) : G a = some o := (B.m _ h).1
theorem Hv.lAt (B : Hv X H M L Z G) (h : (a, o) ∈ L) : G a = some o := B.l _ h
theorem Hv.zAt (B : Hv X H M L Z G) (h : P ∈ Z) : P G := B.z P h G (Keeps.refl G)
theorem Hv.oAt (B : Hv noX H M L Z G) (h : H a = some o) : G a = some o := B.old a o id h
theorem Hv.oAtX (B : Hv (· = p) H M L Z G) (h : H a = some o) (n : a ≠ p) : G a = some o := B.old a o n h
theorem Hv.fr (B : Hv noX H M L Z G) (h : (a, o) ∈ M) : H a = none := (B.m _ h).2.1.elim False.elim id
theorem Hv.frX (B : Hv (· = p) H M L Z G) (h : (a, o) ∈ M) (n : a ≠ p) : H a = none := (B.m _ h).2.1.elim (fun e => absurd e n) id
theorem Hv.free (B : Hv noX H M L Z G) (h : G D = none) : H D = none := B.same.free h
theorem Hv.freeX (B : Hv (· = p) H ((p, o) :: M) L Z G) (h : G D = none) : H D = none := by
  have hp := (B.m _ List.mem_cons_self).1
  cases e : H D with
  | none => rfl
  | some u =>
    have n : D ≠ p := fun z => by
      subst z
      rw [h] at hp
      cases hp
    rw [B.old D u n e] at h
    cases h
theorem Hv.away (B : Hv X H M L Z G) (h : G D = none) : ∀ q ∈ M, q.1 ≠ D := fun q hq e => by
  have := (B.m q hq).1
  rw [e, h] at this
  cases this
theorem Hv.away1 (B : Hv X H ((p, o) :: M) L Z G) (h : G D = none) : ∀ q ∈ (p, u) :: M, q.1 ≠ D := fun q hq => (List.mem_cons.mp hq).elim (fun e => by
  rw [e]
  exact B.away h (p, o) List.mem_cons_self) fun hq => B.away h q (List.mem_cons_of_mem _ hq)
theorem Hv.next (B : Hv X H M L Z G) (s : Same G G') (n : NoT G') : Hv X H M L Z G' := ⟨fun b o h e => s b o (B.old b o h e), n, fun q hq => ⟨s _ _ (B.m q hq).1, (B.m q hq).2⟩, fun q hq => s _ _ (B.l q hq), B.nd, B.ml, fun P hP G2 k => B.z P hP G2 ((Keeps.of s).trans k)⟩
theorem Hv.newG (B : Hv X H M L Z G) (h : G D = none) (f : X D ∨ H D = none) (r : rigid o = false) (hn : noT o = true) : Hv X H ((D, o) :: M) L Z (upd G D o) := by
  have C := B.next (same_new (o := o) h) (NoT.upd B.nt hn)
  refine ⟨C.old, C.nt, fun q hq => ?_, C.l, List.pairwise_cons.mpr ⟨fun q hq => (B.away h q hq).symm, C.nd⟩, fun q hq q2 h2 => ?_, C.z⟩
  · rcases List.mem_cons.mp hq with e | hq
    · subst e
      exact ⟨upd_same, f, r⟩
    · exact C.m q hq
  · rcases List.mem_cons.mp hq with e | hq
    · subst e
      exact fun e => by
        have := B.l q2 h2
        rw [← e, h] at this
        cases this
    · exact C.ml q hq q2 h2
/-- a new thing, ours -/
theorem Hv.new (B : Hv noX H M L Z G) (h : G D = none) (r : rigid o = false := by rfl) (hn : noT o = true := by rfl) : Hv noX H ((D, o) :: M) L Z (upd G D o) := B.newG h (.inr (B.free h)) r hn
theorem Hv.newX (B : Hv (· = p) H ((p, u) :: M) L Z G) (h : G D = none) (r : rigid o = false := by rfl) (hn : noT o = true := by rfl) : Hv (· = p) H ((p, u) :: (D, o) :: M) L Z (upd G D o) := by
  have C := B.newG (o := o) h (.inr (B.freeX h)) r hn
  refine ⟨C.old, C.nt, fun q hq => C.m q ?_, C.l, ?_, fun q hq => C.ml q ?_, C.z⟩
  · simp only [List.mem_cons] at hq ⊢
    exact hq.elim (fun e => .inr (.inl e)) fun e => e.elim .inl fun e => .inr (.inr e)
  · obtain ⟨h1, h2⟩ := List.pairwise_cons.mp C.nd
    obtain ⟨h3, h4⟩ := List.pairwise_cons.mp h2
    exact List.pairwise_cons.mpr ⟨fun q hq => (List.mem_cons.mp hq).elim (fun e => by rw [e]; exact (h1 _ List.mem_cons_self).symm) (h3 q), List.pairwise_cons.mpr ⟨fun q hq => h1 q (List.mem_cons_of_mem _ hq), h4⟩⟩
  · simp only [List.mem_cons] at hq ⊢
    exact hq.elim (fun e => .inr (.inl e)) fun e => e.elim .inl fun e => .inr (.inr e)
/-- a new thing that stays as it is -/
theorem Hv.newL (B : Hv X H M L Z G) (h : G D = none) (hn : noT o = true := by rfl) : Hv X H M ((D, o) :: L) Z (upd G D o) := by
  have C := B.next (same_new (o := o) h) (NoT.upd B.nt hn)
  refine ⟨C.old, C.nt, C.m, fun q hq => ?_, C.nd, fun q hq q2 h2 => ?_, C.z⟩
  · rcases List.mem_cons.mp hq with e | hq
    · subst e
      exact upd_same
    · exact C.l q hq
  · rcases List.mem_cons.mp h2 with e | h2
    · subst e
      exact B.away h q hq
    · exact C.ml q hq q2 h2
/-- what stands besides -/
theorem Hv.add (B : Hv X H M L Z G) (h : G a = some o) (n : ∀ q ∈ M, q.1 ≠ a) : Hv X H M ((a, o) :: L) Z G := ⟨B.old, B.nt, B.m, fun q hq => (List.mem_cons.mp hq).elim (fun e => by rw [e]; exact h) (B.l q), B.nd, fun q hq q2 h2 => (List.mem_cons.mp h2).elim (fun e => by rw [e]; exact n q hq) (B.ml q hq q2), B.z⟩
/-- what a call has made: at D, free ahead of it -/
theorem Hv.got (B : Hv X H M L Z G) (s : Same G G') (n : NoT G') (f : G D = none) (h : G' D = some o) : Hv X H M ((D, o) :: L) Z G' := (B.next s n).add h (B.away f)
theorem Hv.gotM (B : Hv noX H M L Z G) (s : Same G G') (n : NoT G') (f : G D = none) (h : G' D = some o) (r : rigid o = false := by rfl) : Hv noX H ((D, o) :: M) L Z G' := by
  have C := B.next s n
  refine ⟨C.old, C.nt, fun q hq => (List.mem_cons.mp hq).elim (fun e => by rw [e]; exact ⟨h, .inr (B.free f), r⟩) (C.m q), C.l, List.pairwise_cons.mpr ⟨fun q hq => (B.away f q hq).symm, C.nd⟩, fun q hq q2 h2 => (List.mem_cons.mp hq).elim (fun e => ?_) fun hq => C.ml q hq q2 h2, C.z⟩
  rw [e]
  exact fun z => by
    have := B.l q2 h2
    rw [← z, f] at this
    cases this
/-- rigid things -/
theorem Hv.rig (B : Hv X H M L Z G) (h : Rig P G) : Hv X H M L (P :: Z) G := ⟨B.old, B.nt, B.m, B.l, B.nd, B.ml, fun Q hQ => (List.mem_cons.mp hQ).elim (fun e => by rw [e]; exact h) (B.z Q)⟩
/-- ours has changed -/
theorem Hv.but (B : Hv X H ((p, o) :: M) L Z G) (b : But p G G') (n : NoT G') (h : G' p = some u) (r : rigid u = false := by rfl) : Hv X H ((p, u) :: M) L Z G' := by
  obtain ⟨h1, h2, h3⟩ := B.m _ List.mem_cons_self
  obtain ⟨n1, n2⟩ := List.pairwise_cons.mp B.nd
  refine ⟨fun c w hc e => ?_, n, fun q hq => ?_, fun q hq => b _ _ (fun e => B.ml _ List.mem_cons_self q hq e.symm) (B.l q hq), List.pairwise_cons.mpr ⟨fun q hq => n1 q hq, n2⟩, fun q hq q2 k2 => ?_, fun P hP G2 k => B.z P hP G2 (Keeps.trans (fun c w rw hc => ?_) k)⟩
  · by_cases e2 : c = p
    · subst e2
      exact (h2.elim hc fun z => by rw [z] at e; cases e).elim
    · exact b c w e2 (B.old c w hc e)
  · rcases List.mem_cons.mp hq with e | hq
    · subst e
      exact ⟨h, h2, r⟩
    · obtain ⟨k1, k2⟩ := B.m q (List.mem_cons_of_mem _ hq)
      exact ⟨b _ _ (fun e => n1 q hq e.symm) k1, k2⟩
  · rcases List.mem_cons.mp hq with e | hq
    · subst e
      exact B.ml _ List.mem_cons_self q2 k2
    · exact B.ml _ (List.mem_cons_of_mem _ hq) q2 k2
  · refine b c w (fun e => ?_) hc
    subst e
    have : some o = some w := h1.symm.trans hc
    cases this
    have h3' : rigid o = false := h3
    rw [h3'] at rw
    cases rw
theorem Hv.put (B : Hv X H ((x, o) :: M) L Z G) (r : rigid u = false := by rfl) (hn : noT u = true := by rfl) : Hv X H ((x, u) :: M) L Z (upd G x u) := B.but (fun b w n e => by rw [upd_ne n]; exact e) (NoT.upd B.nt hn) upd_same r
theorem Hv.perm {M' : List (Addr × HO)} (B : Hv X H M L Z G) (h : ∀ q ∈ M', q ∈ M) (n : M'.Pairwise fun q r => q.1 ≠ r.1) : Hv X H M' L Z G := ⟨B.old, B.nt, fun q hq => B.m q (h q hq), B.l, n, fun q hq => B.ml q (h q hq), B.z⟩
theorem Hv.swap {q r : Addr × HO} (B : Hv X H (q :: r :: M) L Z G) : Hv X H (r :: q :: M) L Z G := by
  obtain ⟨h1, h2⟩ := List.pairwise_cons.mp B.nd
  obtain ⟨h3, h4⟩ := List.pairwise_cons.mp h2
  refine B.perm (fun k hk => ?_) (List.pairwise_cons.mpr ⟨fun k hk => (List.mem_cons.mp hk).elim (fun e => by rw [e]; exact (h1 _ List.mem_cons_self).symm) (h3 k), List.pairwise_cons.mpr ⟨fun k hk => h1 k (List.mem_cons_of_mem _ hk), h4⟩⟩)
  simp only [List.mem_cons] at hk ⊢
  exact hk.elim (fun e => .inr (.inl e)) fun e => e.elim .inl fun e => .inr (.inr e)
/-- the second of ours to the front, the third -/
theorem Hv.put1 {q : Addr × HO} (B : Hv X H (q :: (x, o) :: M) L Z G) (r : rigid u = false := by rfl) (hn : noT u = true := by rfl) : Hv X H (q :: (x, u) :: M) L Z (upd G x u) := (B.swap.put r hn).swap
theorem Hv.rot {q r t : Addr × HO} (B : Hv X H (q :: r :: t :: M) L Z G) : Hv X H (t :: q :: r :: M) L Z G := by
  obtain ⟨h1, h2⟩ := List.pairwise_cons.mp B.nd
  obtain ⟨h3, h4⟩ := List.pairwise_cons.mp h2
  obtain ⟨h5, h6⟩ := List.pairwise_cons.mp h4
  have e1 := h1 r List.mem_cons_self
  have e2 := h1 t (List.mem_cons_of_mem _ List.mem_cons_self)
  have e3 := h3 t List.mem_cons_self
  refine B.perm (fun k hk => ?_) (List.pairwise_cons.mpr ⟨fun k hk => ?_, List.pairwise_cons.mpr ⟨fun k hk => ?_, List.pairwise_cons.mpr ⟨fun k hk => h3 k (List.mem_cons_of_mem _ hk), h6⟩⟩⟩)
  · simp only [List.mem_cons] at hk ⊢
    rcases hk with e | e | e | e
    · exact .inr (.inr (.inl e))
    · exact .inl e
    · exact .inr (.inl e)
    · exact .inr (.inr (.inr e))
  · rcases List.mem_cons.mp hk with e | hk
    · rw [e]; exact e2.symm
    · rcases List.mem_cons.mp hk with e | hk
      · rw [e]; exact e3.symm
      · exact h5 k hk
  · rcases List.mem_cons.mp hk with e | hk
    · rw [e]; exact e1
    · exact h1 k (List.mem_cons_of_mem _ (List.mem_cons_of_mem _ hk))
theorem Hv.drop {q : Addr × HO} (B : Hv X H (q :: M) L Z G) : Hv X H M L Z G := B.perm (fun k hk => List.mem_cons_of_mem _ hk) (List.pairwise_cons.mp B.nd).2
theorem Hv.drop1 {q r : Addr × HO} (B : Hv X H (q :: r :: M) L Z G) : Hv X H (q :: M) L Z G := B.swap.drop
/-- ours no more to change -/
theorem Hv.fix {q : Addr × HO} (B : Hv X H (q :: M) L Z G) : Hv X H M (q :: L) Z G := by
  obtain ⟨h1, h2⟩ := List.pairwise_cons.mp B.nd
  exact B.drop.add (B.m q List.mem_cons_self).1 fun k hk => (h1 k hk).symm
theorem Hv.ne_m (B : Hv X H M L Z G) (h : (x, o) ∈ M) (k : (y, u) ∈ L) : y ≠ x := fun e => B.ml _ h _ k e.symm
theorem Hv.ne_o (B : Hv noX H M L Z G) (h : (x, o) ∈ M) (k : H y = some u) : y ≠ x := fun e => by
  have := B.fr h
  rw [← e, k] at this
  cases this
theorem sub_nil {α : Type _} {L : List α} : ∀ q ∈ ([] : List α), q ∈ L := fun _ h => absurd h List.not_mem_nil
theorem sub_cons {α : Type _} {a : α} {L L' : List α} (h : a ∈ L) (k : ∀ q ∈ L', q ∈ L) : ∀ q ∈ a :: L', q ∈ L := fun q hq => (List.mem_cons.mp hq).elim (fun e => by rw [e]; exact h) (k q)
theorem Hv.sub {L' : List (Addr × HO)} {Z' : List (Hp → Prop)} (B : Hv X H M L Z G) (h : ∀ q ∈ L', q ∈ L) (k : ∀ q ∈ Z', q ∈ Z) : Hv X H M L' Z' G := ⟨B.old, B.nt, B.m, fun q hq => B.l q (h q hq), B.nd, fun q hq r hr => B.ml q hq r (h r hr), fun P hP => B.z P (k P hP)⟩
/-- the heap by a letter -/
@[elab_as_elim] theorem Hv.gen {motive : Hp → Prop} (B : Hv X H M L Z G) (k : ∀ G', Hv X H M L Z G' → motive G') : motive G := k G B
theorem Hv.weaken (B : Hv X H M L Z G) : Hv X H [] [] [] G := ⟨B.old, B.nt, fun _ h => absurd h List.not_mem_nil, fun _ h => absurd h List.not_mem_nil, List.Pairwise.nil, fun _ h => absurd h List.not_mem_nil, fun _ h => absurd h List.not_mem_nil⟩
end
/-- tuple(xs) -/
abbrev rTupOf (K : PySem.W.Frag) : List V → Hp → VK → Prop := fun xs H Q => ∃ p ys, xs = [.ref p] ∧ ((SqL K H p ys ∧ ∀ l, H l = none → Q (.ref l) (upd H l (.tup ys))) ∨ (SqT K H p ys ∧ Q (.ref p) H))
theorem call_tupN {X : Cx} : CallR X (.type "tuple") (rTupOf X.K) := call_tuple_of
section
variable {K : PySem.W.Frag} {H : Hp} {p : Addr} {ys : List V} {Q : VK}
theorem rd_tupL (h : SqL K H p ys) (q : ∀ l, H l = none → Q (.ref l) (upd H l (.tup ys))) : rTupOf K [.ref p] H Q := ⟨p, ys, rfl, .inl ⟨h, q⟩⟩
theorem rd_tupT (h : SqT K H p ys) (q : Q (.ref p) H) : rTupOf K [.ref p] H Q := ⟨p, ys, rfl, .inr ⟨h, q⟩⟩
end
end L2

namespace My
open PySem PySem.Spec PyProof.Rows L2
/-! one step of a reading, by its head -/
local macro_rules | `(tactic| wtm_at "r") => `(tactic| first
  | (with_reducible refine rd_var rfl ?_)
  | (with_reducible refine Stp.mp ?_)
  | (with_reducible first
    | refine rd_I ?_ ?_
    | refine rd_augC rfl ?_
    | refine rd_r1 ?_ ?_ ?_
    | refine rd_r2 ?_ ?_
    | refine rd_pure ?_ ?_
    | refine rd_pureT ?_ ?_
    | refine rd_back (by assumption) ?_
    | fail)
  | fail)
/-! branch -/
local macro_rules | `(tactic| wtm_at "i") => `(tactic| (with_reducible first
  | refine rd_ite (fun _ => ?_) (fun _ => ?_)
  | refine rd_iteN (fun _ => ?_) (fun _ => ?_)
  | refine rd_iteb (fun _ => ?_) (fun _ => ?_)))
/-! the view of the heap (PreS): membership -/
local macro_rules | `(tactic| wtm_at "mem") => `(tactic| first
  | (with_reducible exact List.mem_cons_self)
  | ((with_reducible refine List.mem_cons_of_mem _ ?_); wtm_at "mem")
  | fail)
local macro_rules | `(tactic| wtm_at "vsub") => `(tactic| first
  | (with_reducible exact sub_nil)
  | ((with_reducible refine sub_cons ?h1 ?h2); (case h1 => wtm_at "mem"); (case h2 => wtm_at "vsub"))
  | fail)
/-! where something stands in the heap; two places differ -/
local macro_rules | `(tactic| wtm_at "ne") => `(tactic| with_reducible first
  | assumption
  | exact Ne.symm (by assumption)
  | exact ne_of_none (by assumption) (by assumption)
  | exact Ne.symm (ne_of_none (by assumption) (by assumption))
  | fail)
local macro_rules | `(tactic| wtm_at "h") => `(tactic| first
  | with_reducible assumption
  | with_reducible exact upd_same
  | ((with_reducible rw [upd_upd]); wtm_at "h")
  | ((with_reducible refine upd_at ?h1 ?h2); (case h1 => wtm_at "h"); (case h2 => intro hh; first | with_reducible exact ne_of_none hh (by assumption) | wtm_at "ne" | fail))
  | (with_reducible exact Hv.mAt (by assumption) (by wtm_at "mem"))
  | (with_reducible exact Hv.lAt (by assumption) (by wtm_at "mem"))
  | (with_reducible exact Hv.oAt (by assumption) (by assumption))
  | (with_reducible exact Hv.oAtX (by assumption) (by assumption) (by wtm_at "ne"))
  | fail)
/-! what was tracked stands -/
local macro_rules | `(tactic| wtm_at "sm") => `(tactic| first
  | with_reducible assumption
  | (with_reducible exact Same.refl _)
  | ((with_reducible refine same_upd3 ?_ (by with_reducible assumption)); wtm_at "sm")
  | ((with_reducible refine same_upd2 ?_ (by with_reducible assumption)); wtm_at "sm")
  | (refine same_upd2 ?_ (by first | with_reducible assumption | (refine Same.free ?_ (by with_reducible assumption); wtm_at "sm") | fail); wtm_at "sm")
  | (refine Same.trans ?_ (by with_reducible assumption); wtm_at "sm")
  | (refine Same.trans (by with_reducible assumption) ?_; wtm_at "sm")
  | (with_reducible exact Hv.same (by assumption))
  | fail)
local macro_rules | `(tactic| wtm_at "q") => `(tactic| first
  | with_reducible assumption
  | ((with_reducible refine SqL.of ?h1); (case h1 => wtm_at "h"))
  | ((with_reducible refine SqT.of ?h1); (case h1 => wtm_at "h"))
  | ((with_reducible refine Same.seq ?_ (by assumption)); wtm_at "sm")
  | ((with_reducible refine Same.seqT ?_ (by assumption)); wtm_at "sm")
  | ((with_reducible refine Same.lst ?_ (by assumption)); wtm_at "sm")
  | assumption
  | fail)
/-! data, read off the heap -/
local macro_rules | `(tactic| wtm_at "dp") => `(tactic| first
  | with_reducible assumption
  | exact Dp.int _
  | exact Dp.bl _
  | exact Dp.str _
  | exact Dp.non
  | exact DpAll.nil
  | (with_reducible exact dpAll_ints _)
  | (with_reducible exact dpAll_bls _)
  | ((with_reducible refine DpAll.cons (d := ?d) (ds := ?ds) ?h1 ?h2); (case h1 => wtm_at "dp"); (case h2 => wtm_at "dp"))
  | ((with_reducible refine Dp.lst (xs := ?xs) (ds := ?ds) ?h1 ?h2); (case h1 => wtm_at "q"); (case h2 => wtm_at "dp"))
  | ((with_reducible refine Dp.tup (xs := ?xs) (ds := ?ds) ?h1 ?h2); (case h1 => wtm_at "q"); (case h2 => wtm_at "dp"))
  | ((with_reducible refine Dp.same ?_ (by assumption)); wtm_at "sm")
  | fail)
/-! no dict with tuple keys -/
local macro_rules | `(tactic| wtm_at "nt") => `(tactic| first
  | with_reducible assumption
  | ((with_reducible refine NoT.upd ?_ rfl); wtm_at "nt")
  | (with_reducible exact Hv.nt (by assumption))
  | fail)
/-! what is asked on the side -/
local macro_rules | `(tactic| wtm_at "s") => `(tactic| first
  | ((with_reducible show NoT _); wtm_at "nt")
  | ((with_reducible show (_ : Int) < _); omega)
  | ((with_reducible show CMulB _ _); assumption)
  | ((with_reducible show CMulB _ _); exact Or.inl (Or.inl ⟨by omega, by omega⟩))
  | ((with_reducible show CMulB _ _); exact Or.inl (Or.inr ⟨by omega, by omega⟩))
  | ((with_reducible show CMulB _ _); exact CMulB.wide ⟨by omega, by omega⟩ ⟨by omega, by omega⟩)
  | ((with_reducible show CDivB _ _); exact ⟨by omega, by omega⟩)
  | ((with_reducible refine rd_powN ?h1 ?h2 ?h3 ?_); (case h1 => rfl); (case h2 => decide); (case h3 => first | decide | omega))
  | ((with_reducible refine rd_setL (xs := ?xs) (j := ?j) ?h1 ?h2 ?_); (case h1 => wtm_at "h"); (case h2 => rfl))
  | ((with_reducible refine rd_ixL (xs := ?xs) (v := ?v) ?h1 ?h2 ?_); (case h1 => wtm_at "q"); (case h2 => rfl))
  | ((with_reducible refine rd_ixT (xs := ?xs) (v := ?v) ?h1 ?h2 ?_); (case h1 => wtm_at "q"); (case h2 => rfl))
  | ((with_reducible show -2 ^ 62 ≤ (_ : Int)); omega)
  | ((with_reducible show (_ : Int) ≤ _); omega)
  | ((with_reducible show (_ : Int) ≤ _ ∧ _); exact ⟨by omega, by omega, by omega, by omega⟩)
  | ((with_reducible refine rd_iL1 (xs := ?xs) ?h1 ?_); (case h1 => wtm_at "q"))
  | ((with_reducible refine rd_iT1 (xs := ?xs) ?h1 ?_); (case h1 => wtm_at "q"))
  | ((with_reducible refine rd_eqD (d := ?d) (e := ?e) ?h1 ?h2 ?h3 ?h4 ?_); (case h1 => wtm_at "dp"); (case h2 => wtm_at "dp"); (case h3 => rfl); (case h4 => rfl))
  | ((with_reducible refine rd_neD (d := ?d) (e := ?e) ?h1 ?h2 ?h3 ?h4 ?_); (case h1 => wtm_at "dp"); (case h2 => wtm_at "dp"); (case h3 => rfl); (case h4 => rfl))
  | ((with_reducible refine rd_xfb (fs := ?fs) (v := ?v) ?h1 ?h2 ?_); (case h1 => wtm_at "h"); (case h2 => rfl))
  | ((with_reducible refine rd_append (xs := ?xs) ?h1 ?h2 ?_); (case h1 => wtm_at "h"); (case h2 => first | assumption | exact Nat.le_of_ble_eq_true rfl | (refine Nat.lt_of_le_of_lt (m := 1000000) ?_ (by decide); omega)))
  | ((with_reducible refine rd_lenL (ys := ?ys) ?h1 ?_); (case h1 => wtm_at "q"))
  | ((with_reducible refine rd_lenT (ys := ?ys) ?h1 ?_); (case h1 => wtm_at "q"))
  | ((with_reducible refine rd_new ?h1 ?_); (case h1 => exact Nat.le_of_ble_eq_true rfl); intro p hp)
  | ((with_reducible refine rd_tyL (xs := ?xs) ?h1 ?_); (case h1 => wtm_at "h"))
  | ((with_reducible refine rd_gtup (xs := ?xs) ?h1 ?h2 ?_); (case h1 => wtm_at "q"); (case h2 => rfl))
  | ((with_reducible refine rd_unl (xs := ?xs) ?h1 ?h2 ?_); (case h1 => wtm_at "q"); (case h2 => rfl))
  | ((with_reducible refine rd_slL (xs := ?xs) ?h1 ?_); (case h1 => wtm_at "q"); intro p hp)
  | ((with_reducible refine rd_cat (xs := ?xs) (zs := ?zs) ?h1 ?h2 ?h3 ?_); (case h1 => wtm_at "h"); (case h2 => wtm_at "h"); (case h3 => first | assumption | exact Nat.le_of_ble_eq_true rfl); intro p hp)
  | ((with_reducible refine rd_isiL (xs := ?xs) ?h1 ?_); (case h1 => wtm_at "h"))
  | ((with_reducible refine rd_isiT (xs := ?xs) ?h1 ?_); (case h1 => wtm_at "h"))
  | ((with_reducible refine rd_mk1 ?h1 ?h2 ?_); (case h1 => rfl); (case h2 => decide)))
local macro_rules | `(tactic| wtm_at "s") => `(tactic| first
  | ((with_reducible refine rd_neF ?h1 ?_); (case h1 => first | with_reducible rfl | assumption | fail))
  | ((with_reducible refine rd_eqT ?h1 ?_); (case h1 => first | with_reducible rfl | assumption | fail))
  | ((with_reducible refine rd_neT ?h1 ?_); (case h1 => first | assumption | exact non_int | exact non_ref | exact Bool.false_ne_true | exact Bool.false_ne_true.symm | fail))
  | ((with_reducible refine rd_eqF ?h1 ?_); (case h1 => first | assumption | exact non_int | exact non_ref | exact Bool.false_ne_true | exact Bool.false_ne_true.symm | fail))
  | fail)
local macro_rules | `(tactic| wtm_at "bd") => `(tactic| first
  | with_reducible assumption
  | exact Bd.mono (by with_reducible assumption) (by decide)
  | exact Bd.lit (by decide) (by decide)
  | ((with_reducible refine Bd.mulN ?_ ?_) <;> wtm_at "bd")
  | ((with_reducible refine Bd.addN ?h1 ?h2 ?h3); (case h1 => wtm_at "bd"); (case h2 => wtm_at "bd"); (case h3 => decide))
  | ((with_reducible refine Bd.subN ?h1 ?h2 ?h3); (case h1 => wtm_at "bd"); (case h2 => wtm_at "bd"); (case h3 => decide))
  | ((with_reducible refine Bd.neg ?h1); (case h1 => wtm_at "bd"))
  | fail)
local macro_rules | `(tactic| wtm_at "s") => `(tactic| first
  | ((with_reducible refine rd_fld1 (dx := ?dx) (fs := ?fs) (v := ?v) ?h1 ?h2 ?_); (case h1 => wtm_at "h"); (case h2 => rfl))
  | ((with_reducible refine rd_meth1 (dx := ?dx) (fs := ?fs) ?h1 ?h2 ?_); (case h1 => wtm_at "h"); (case h2 => rfl))
  | ((with_reducible refine rd_sfld1 (dx := ?dx) (fs := ?fs) ?h1 ?h2 ?_); (case h1 => wtm_at "h"); (case h2 => exact Nat.le_of_ble_eq_true rfl))
  | ((with_reducible refine rd_fmtI ?h1 ?_); (case h1 => exact Nat.lt_trans (txI_len (n := 1000) (by wtm_at "bd") (Nat.le_refl _)).2 (by decide)))
  | ((with_reducible refine rd_strI ?h1 ?_); (case h1 => exact Nat.lt_trans (txI_len (n := 1000) (by wtm_at "bd") (Nat.le_refl _)).2 (by decide)))
  | ((with_reducible refine rd_eqInts (ns := ?ns) (ms := ?ms) ?h1 ?h2 ?_); (case h1 => wtm_at "q"); (case h2 => wtm_at "q"))
  | ((with_reducible refine rd_neInts (ns := ?ns) (ms := ?ms) ?h1 ?h2 ?_); (case h1 => wtm_at "q"); (case h2 => wtm_at "q"))
  | ((with_reducible refine rd_listOfL (ys := ?ys) ?h1 ?_); (case h1 => wtm_at "q"); intro l hl)
  | ((with_reducible refine rd_revV (xs := ?xs) ?h1 ?_); (case h1 => wtm_at "q"); intro p hp)
  | ((with_reducible refine rd_iRev1 (xs := ?xs) ?h1 ?_); (case h1 => wtm_at "q"))
  | ((with_reducible refine rd_callO2 (dx := ?dx) (fs := ?fs) ?h1 ?_); (case h1 => wtm_at "h"))
  | ((with_reducible show CMulB _ _); refine CMulB.bd ?_ ?_ <;> wtm_at "bd")
  | fail)
local macro_rules | `(tactic| wtm_at "s") => `(tactic| first
  | ((with_reducible refine rd_dinF (ks := ?ks) ?h1 ?_); (case h1 => wtm_at "h"))
  | ((with_reducible refine rd_dnotinF (ks := ?ks) ?h1 ?_); (case h1 => wtm_at "h"))
  | ((with_reducible refine rd_listF (ks := ?ks) ?h1 ?_); (case h1 => wtm_at "h"); intro l hl)
  | ((with_reducible refine rd_sortedI (ns := ?ns) ?h1 ?_); (case h1 => wtm_at "q"))
  | fail)
local macro_rules | `(tactic| wtm_at "tp") => `(tactic| first
  | ((with_reducible refine rd_tupL (ys := ?ys) ?h1 ?_); (case h1 => wtm_at "q"); intro l hl)
  | ((with_reducible refine rd_tupT (ys := ?ys) ?h1 ?_); (case h1 => wtm_at "q"))
  | fail)
/-! a test that omega answers -/
local macro_rules | `(tactic| wtm_at "o") => `(tactic| first
  | ((with_reducible refine rd_neF ?h1 ?_); (case h1 => omega))
  | ((with_reducible refine rd_eqT ?h1 ?_); (case h1 => omega))
  | ((with_reducible refine rd_neT ?h1 ?_); (case h1 => omega))
  | ((with_reducible refine rd_eqF ?h1 ?_); (case h1 => omega))
  | fail)
/-! steps while there is one way -/
local macro_rules | `(tactic| wtm_at "rs") => `(tactic| repeat' (first | wtm_at "r" | wtm_at "s" | fail))
/-! all ways -/
local macro_rules | `(tactic| wtm_at "ra") => `(tactic| repeat' (first | wtm_at "r" | wtm_at "s" | wtm_at "i" | fail))
local macro_rules | `(tactic| wtm_at "ro") => `(tactic| repeat' (first | wtm_at "r" | wtm_at "s" | wtm_at "o" | fail))
local macro_rules | `(tactic| wtm_at "rao") => `(tactic| repeat' (first | wtm_at "r" | wtm_at "s" | wtm_at "o" | wtm_at "i" | fail))

/-! ## mathematics -/
/-! part m_form -/
/-- a form's three numbers -/
structure Fm where
  a : Int
  b : Int
  c : Int
deriving DecidableEq
def Fm.D (f : Fm) : Int := f.b * f.b - 4 * f.a * f.c
def Fm.ok (f : Fm) : Prop := 1 ≤ f.a ∧ f.D < 0
def Fm.at (f : Fm) (x y : Int) : Int := f.a * x * x + f.b * x * y + f.c * y * y
def Fm.st (f : Fm) (k : Int) : Fm := if k = 0 then ⟨f.c, -f.b, f.a⟩ else ⟨f.a, f.b + 2 * f.a * k, f.a * k * k + f.b * k + f.c⟩
def Fm.turn (f : Fm) (ks : List Int) : Fm := ks.foldl Fm.st f
def Fm.nx (f : Fm) : Option Int := if ¬ (-f.a < f.b ∧ f.b ≤ f.a) then some ((f.a - f.b) / (2 * f.a)) else if f.c < f.a ∨ f.a = f.c ∧ f.b < 0 then some 0 else none
def Fm.bd (n : Nat) (f : Fm) : Prop := Bd n f.a ∧ Bd n f.b ∧ Bd n f.c
theorem Fm.st_zero (f : Fm) : f.st 0 = ⟨f.c, -f.b, f.a⟩ := if_pos rfl
theorem Fm.st_ne {f : Fm} {k : Int} (h : k ≠ 0) : f.st k = ⟨f.a, f.b + 2 * f.a * k, f.a * k * k + f.b * k + f.c⟩ := if_neg h
theorem Fm.st_D (f : Fm) (k : Int) : (f.st k).D = f.D := by
  unfold Fm.st Fm.D
  split
  · simp only [Int.neg_mul_neg]
    grind
  · grind
theorem sq_nonneg (x : Int) : 0 ≤ x * x := by
  rcases Int.le_total 0 x with h | h
  · exact Int.mul_nonneg h h
  · have := Int.mul_nonneg (show 0 ≤ -x by omega) (show 0 ≤ -x by omega)
    rw [Int.neg_mul_neg] at this
    exact this
theorem Fm.ok.c_pos {f : Fm} (h : f.ok) : 1 ≤ f.c := by
  obtain ⟨h1, h2⟩ := h
  unfold Fm.D at h2
  have := sq_nonneg f.b
  rcases Int.lt_or_le f.c 1 with z | z
  · exfalso
    have : 4 * f.a * f.c ≤ 4 * f.a * 0 := Int.mul_le_mul_of_nonneg_left (by omega) (by omega)
    omega
  · exact z
theorem Fm.at_D (f : Fm) (x y : Int) : 4 * f.a * f.at x y = (2 * f.a * x + f.b * y) * (2 * f.a * x + f.b * y) - f.D * (y * y) := by
  unfold Fm.at Fm.D
  grind
theorem Fm.ok.st {f : Fm} (h : f.ok) (k : Int) : (f.st k).ok := by
  refine ⟨?_, by rw [Fm.st_D]; exact h.2⟩
  unfold Fm.st
  split
  · exact h.c_pos
  · exact h.1
theorem Fm.bd.mono {n m : Nat} {f : Fm} (h : Fm.bd n f) (hm : n ≤ m) : Fm.bd m f := ⟨h.1.mono hm, h.2.1.mono hm, h.2.2.mono hm⟩
theorem Fm.turn_snoc (f : Fm) (ks : List Int) (k : Int) : f.turn (ks ++ [k]) = (f.turn ks).st k := by
  unfold Fm.turn
  rw [List.foldl_append]
  rfl
theorem Fm.turn_D (f : Fm) : ∀ ks : List Int, (f.turn ks).D = f.D
  | [] => rfl
  | k :: ks => by
    show ((f.st k).turn ks).D = f.D
    rw [Fm.turn_D (f.st k) ks, Fm.st_D]
theorem Fm.ok.turn {f : Fm} (h : f.ok) : ∀ ks : List Int, (f.turn ks).ok
  | [] => h
  | k :: ks => Fm.ok.turn (h.st k) ks
theorem sq_le {x y : Int} (h : x.natAbs ≤ y.natAbs) : x * x ≤ y * y := by
  have e : ∀ z : Int, z * z = (z.natAbs : Int) * z.natAbs := fun z => by
    rw [← Int.natCast_mul, Int.natAbs_mul_self]
  rw [e x, e y]
  exact Int.mul_le_mul (by omega) (by omega) (by omega) (by omega)
/-! part m_draw -/
/-- what was drawn below each size -/
def DrawOk : List Int → List Int → Prop
  | [], [] => True
  | d :: ds, s :: ss => (0 ≤ d ∧ d < s) ∧ DrawOk ds ss
  | _, _ => False
theorem DrawOk.len : ∀ {ds ss : List Int}, DrawOk ds ss → ds.length = ss.length
  | [], [], _ => rfl
  | _ :: _, _ :: _, h => by rw [List.length_cons, List.length_cons, DrawOk.len h.2]
  | [], _ :: _, h => h.elim
  | _ :: _, [], h => h.elim
theorem DrawOk.snoc : ∀ {ds ss : List Int} {d s : Int}, DrawOk ds ss → 0 ≤ d ∧ d < s → DrawOk (ds ++ [d]) (ss ++ [s])
  | [], [], _, _, _, h => ⟨h, trivial⟩
  | _ :: _, _ :: _, _, _, h, k => ⟨h.1, DrawOk.snoc h.2 k⟩
  | [], _ :: _, _, _, h, _ => h.elim
  | _ :: _, [], _, _, h, _ => h.elim
theorem DrawOk.cons_inv {ds ss : List Int} {s : Int} (h : DrawOk ds (s :: ss)) : ∃ d ds', ds = d :: ds' ∧ 0 ≤ d ∧ d < s ∧ DrawOk ds' ss := by
  cases ds with
  | nil => exact h.elim
  | cons d ds' => exact ⟨d, ds', rfl, h.1.1, h.1.2, h.2⟩
theorem DrawOk.nil_inv {ds : List Int} (h : DrawOk ds []) : ds = [] := by
  cases ds with
  | nil => rfl
  | cons d ds' => exact h.elim
/-! part m_pool -/
/-- a pool of draws, at most j of them made -/
def PoolAt (H : Hp) (p : Addr) (j : Int) : Prop := ∃ c k b, H p = some (.lst [.int c, .int k, .bl b]) ∧ 0 ≤ k ∧ k ≤ j
theorem PoolAt.new {H : Hp} {p : Addr} {n : Int} {b : Bool} : PoolAt (upd H p (.lst [.int n, .int 0, .bl b])) p 0 := ⟨_, _, _, upd_same, by omega, by omega⟩
/-! part m_row -/
def Fm.ns (f : Fm) : List Int := [f.a, f.b, f.c]
abbrev Fm.row (f : Fm) : List V := f.ns.map V.int
theorem Fm.row_ns (f : Fm) : f.row = f.ns.map V.int := rfl
theorem Fm.ns_inj {f g : Fm} : f.ns = g.ns ↔ f = g := by
  cases f
  cases g
  simp [Fm.ns]
/-! part m_vopt -/
def vOpt : Option Int → V
  | some z => .int z
  | none => .non
theorem vOpt_some {z : Int} : vOpt (some z) = .int z := rfl
theorem vOpt_none : vOpt none = .non := rfl
/-! part m_red -/
def Fm.norm (f : Fm) : Prop := -f.a < f.b ∧ f.b ≤ f.a
instance (f : Fm) : Decidable f.norm := inferInstanceAs (Decidable (_ ∧ _))
/-- reduced -/
def Fm.red (f : Fm) : Prop := f.norm ∧ f.a ≤ f.c ∧ (f.a = f.c → 0 ≤ f.b)
theorem Fm.nx_none {f : Fm} : f.nx = none ↔ f.red := by
  unfold Fm.nx Fm.red
  by_cases h : -f.a < f.b ∧ f.b ≤ f.a
  · rw [if_neg (by simpa using h)]
    split
    · simp only [reduceCtorEq, false_iff]
      rintro ⟨_, h2, h3⟩
      omega
    · simp only [true_iff]
      exact ⟨h, by omega, by omega⟩
  · rw [if_pos h]
    simp only [reduceCtorEq, false_iff]
    rintro ⟨h2, _⟩
    exact h h2
/-- what a shift does -/
theorem Fm.shift {f : Fm} (h : 1 ≤ f.a) (hn : ¬ f.norm) : f.nx = some ((f.a - f.b) / (2 * f.a)) ∧ (f.a - f.b) / (2 * f.a) ≠ 0 ∧ (f.st ((f.a - f.b) / (2 * f.a))).a = f.a ∧ (f.st ((f.a - f.b) / (2 * f.a))).norm := by
  have e := Int.mul_ediv_add_emod (f.a - f.b) (2 * f.a)
  have r0 := Int.emod_nonneg (f.a - f.b) (show 2 * f.a ≠ 0 by omega)
  have r1 := Int.emod_lt_of_pos (f.a - f.b) (show 0 < 2 * f.a by omega)
  generalize hk : (f.a - f.b) / (2 * f.a) = k at *
  have nz : k ≠ 0 := by
    intro z
    rw [z, Int.mul_zero] at e
    exact hn ⟨by omega, by omega⟩
  refine ⟨by unfold Fm.nx; rw [if_pos (show ¬ (-f.a < f.b ∧ f.b ≤ f.a) from hn), hk], nz, ?_, ?_⟩
  · rw [Fm.st_ne nz]
  · rw [Fm.st_ne nz]
    exact ⟨by dsimp only; omega, by dsimp only; omega⟩
theorem Fm.swap {f : Fm} (hn : f.norm) (h : ¬ f.red) : f.nx = some 0 ∧ (f.c < f.a ∨ f.a = f.c ∧ f.b < 0) := by
  have h2 : f.c < f.a ∨ f.a = f.c ∧ f.b < 0 := by
    unfold Fm.red at h
    rcases Int.lt_or_le f.c f.a with z | z
    · exact .inl z
    · refine .inr ?_
      by_cases e : f.a = f.c
      · refine ⟨e, ?_⟩
        rcases Int.lt_or_le f.b 0 with y | y
        · exact y
        · exact absurd ⟨hn, z, fun _ => y⟩ h
      · exact absurd ⟨hn, z, fun y => absurd y e⟩ h
  refine ⟨?_, h2⟩
  unfold Fm.nx
  rw [if_neg (show ¬ ¬ (-f.a < f.b ∧ f.b ≤ f.a) from fun z => z hn), if_pos h2]
def Fm.mu (f : Fm) : Nat := (4 * f.a).toNat + if f.norm then (if f.b < 0 then 1 else 0) else 2
theorem Fm.mu_lt {f : Fm} (ho : f.ok) {k : Int} (h : f.nx = some k) : (f.st k).mu < f.mu := by
  have h1 := ho.1
  have hc := ho.c_pos
  by_cases hn : f.norm
  · by_cases hr : f.red
    · rw [Fm.nx_none.mpr hr] at h
      cases h
    · obtain ⟨e, h2⟩ := Fm.swap hn hr
      rw [e] at h
      cases h
      rw [Fm.st_zero]
      have m1 : Fm.mu ⟨f.c, -f.b, f.a⟩ ≤ (4 * f.c).toNat + 2 := by
        unfold Fm.mu
        dsimp only
        split
        · split <;> omega
        · omega
      rcases h2 with h2 | ⟨h2, h3⟩
      · have : (4 * f.a).toNat ≤ f.mu := Nat.le_add_right _ _
        omega
      · have e1 : f.mu = (4 * f.a).toNat + 1 := by
          unfold Fm.mu
          rw [if_pos hn, if_pos h3]
        have hn2 : Fm.norm ⟨f.c, -f.b, f.a⟩ := ⟨by dsimp only; have := hn.1; omega, by dsimp only; have := hn.1; omega⟩
        have e2 : Fm.mu ⟨f.c, -f.b, f.a⟩ = (4 * f.c).toNat + 0 := by
          unfold Fm.mu
          rw [if_pos hn2]
          dsimp only
          rw [if_neg (by omega)]
        omega
  · obtain ⟨e, nz, ha, hn2⟩ := Fm.shift h1 hn
    rw [e] at h
    cases h
    have e1 : f.mu = (4 * f.a).toNat + 2 := by
      unfold Fm.mu
      rw [if_neg hn]
    have e2 : (f.st ((f.a - f.b) / (2 * f.a))).mu ≤ (4 * f.a).toNat + 1 := by
      unfold Fm.mu
      rw [if_pos hn2, ha]
      split <;> omega
    omega
def stepsN : Nat → Fm → List Int
  | 0, _ => []
  | n + 1, f => match f.nx with
    | none => []
    | some k => k :: stepsN n (f.st k)
def stepsF (f : Fm) : List Int := stepsN f.mu f
theorem stepsN_eq : ∀ (n m : Nat) (f : Fm), f.ok → f.mu ≤ n → f.mu ≤ m → stepsN n f = stepsN m f
  | 0, 0, _, _, _, _ => rfl
  | 0, m + 1, f, ho, h, _ => by
    unfold stepsN
    cases e : f.nx with
    | none => rfl
    | some k => have := Fm.mu_lt ho e; omega
  | n + 1, 0, f, ho, _, h => by
    unfold stepsN
    cases e : f.nx with
    | none => rfl
    | some k => have := Fm.mu_lt ho e; omega
  | n + 1, m + 1, f, ho, h, h' => by
    unfold stepsN
    cases e : f.nx with
    | none => rfl
    | some k =>
      have := Fm.mu_lt ho e
      dsimp only
      rw [stepsN_eq n m (f.st k) (ho.st k) (by omega) (by omega)]
theorem stepsF_none {f : Fm} (h : f.nx = none) : stepsF f = [] := by
  unfold stepsF
  cases e : f.mu with
  | zero => rfl
  | succ n => unfold stepsN; rw [h]
theorem stepsF_some {f : Fm} (ho : f.ok) {k : Int} (h : f.nx = some k) : stepsF f = k :: stepsF (f.st k) := by
  have := Fm.mu_lt ho h
  unfold stepsF
  obtain ⟨n, e⟩ : ∃ n, f.mu = n + 1 := ⟨f.mu - 1, by omega⟩
  rw [e]
  conv => lhs; unfold stepsN
  rw [h]
  dsimp only
  rw [stepsN_eq n (f.st k).mu _ (ho.st k) (by omega) (Nat.le_refl _)]
def redF (f : Fm) : Fm := f.turn (stepsF f)
theorem redF_red : ∀ (n : Nat) (f : Fm), f.ok → f.mu ≤ n → (redF f).red
  | 0, f, ho, h => by
    cases e : f.nx with
    | none =>
      unfold redF
      rw [stepsF_none e]
      exact Fm.nx_none.mp e
    | some k => have := Fm.mu_lt ho e; omega
  | n + 1, f, ho, h => by
    cases e : f.nx with
    | none =>
      unfold redF
      rw [stepsF_none e]
      exact Fm.nx_none.mp e
    | some k =>
      have := Fm.mu_lt ho e
      have ih := redF_red n (f.st k) (ho.st k) (by omega)
      unfold redF at ih ⊢
      rw [stepsF_some ho e]
      exact ih
/-- sizes: the outer numbers stay below A -/
def Fm.lo (A : Int) (f : Fm) : Prop := f.a ≤ A ∧ f.c ≤ A
theorem Fm.lo_st {A : Int} {f : Fm} (ho : f.ok) (hl : f.lo A) {k : Int} (h : f.nx = some k) : (f.st k).lo A := by
  have h1 := ho.1
  by_cases hn : f.norm
  · by_cases hr : f.red
    · rw [Fm.nx_none.mpr hr] at h
      cases h
    · obtain ⟨e, _⟩ := Fm.swap hn hr
      rw [e] at h
      cases h
      rw [Fm.st_zero]
      exact ⟨hl.2, hl.1⟩
  · obtain ⟨e, nz, ha, hn2⟩ := Fm.shift h1 hn
    rw [e] at h
    cases h
    generalize (f.a - f.b) / (2 * f.a) = k at *
    refine ⟨by rw [ha]; exact hl.1, ?_⟩
    have hD := Fm.st_D f k
    unfold Fm.D at hD
    rw [ha] at hD
    have hb : (f.st k).b.natAbs ≤ f.b.natAbs := by
      have n1 := hn2.1
      have n2 := hn2.2
      rw [ha] at n1 n2
      unfold Fm.norm at hn
      omega
    have := sq_le hb
    have h4 : 4 * f.a * (f.st k).c ≤ 4 * f.a * f.c := by omega
    have := Int.le_of_mul_le_mul_left h4 (by omega)
    have := hl.2
    omega
theorem Fm.lo_b {A : Int} {f : Fm} (ho : f.ok) (hl : f.lo A) : -(2 * A) < f.b ∧ f.b < 2 * A := by
  obtain ⟨h1, h2⟩ := ho
  have hc := Fm.ok.c_pos ⟨h1, h2⟩
  unfold Fm.D at h2
  have m1 : 4 * f.a * f.c ≤ (2 * A) * (2 * A) := by
    have a1 : f.a * f.c ≤ A * A := Int.mul_le_mul hl.1 hl.2 (by omega) (by have := hl.1; omega)
    have e1 : 4 * f.a * f.c = 4 * (f.a * f.c) := by rw [Int.mul_assoc]
    have e2 : (2 * A) * (2 * A) = 4 * (A * A) := by grind
    omega
  have hA : 1 ≤ A := by have := hl.1; omega
  rcases Int.lt_or_le f.b (2 * A) with z | z
  · refine ⟨?_, z⟩
    rcases Int.lt_or_le (-(2 * A)) f.b with y | y
    · exact y
    · have := sq_le (x := 2 * A) (y := f.b) (by omega)
      omega
  · have := sq_le (x := 2 * A) (y := f.b) (by omega)
    omega
theorem Fm.lo_bd {n : Nat} {f : Fm} (ho : f.ok) (hl : f.lo (2 ^ n)) : Fm.bd (n + 1) f := by
  have hb := Fm.lo_b ho hl
  have h1 := ho.1
  have hc := ho.c_pos
  have e : (2 : Int) ^ (n + 1) = 2 * 2 ^ n := by rw [Int.pow_succ, Int.mul_comm]
  have p0 : (0 : Int) < 2 ^ n := Int.pow_pos (by decide)
  have := hl.1
  have := hl.2
  exact ⟨Bd.of (by omega) (by omega), Bd.of (by omega) (by omega), Bd.of (by omega) (by omega)⟩
theorem Fm.bd_lo {n : Nat} {f : Fm} (hb : Fm.bd n f) : f.lo (2 ^ n) := by
  have := hb.1.lt
  have := hb.2.2.lt
  exact ⟨by omega, by omega⟩
theorem Fm.nx_bd {n : Nat} {f : Fm} (ho : f.ok) (hb : Fm.bd n f) {k : Int} (h : f.nx = some k) : Bd (n + 2) k := by
  have h1 := ho.1
  by_cases hn : f.norm
  · by_cases hr : f.red
    · rw [Fm.nx_none.mpr hr] at h
      cases h
    · obtain ⟨e, _⟩ := Fm.swap hn hr
      rw [e] at h
      cases h
      have p : (0 : Int) < 2 ^ (n + 2) := Int.pow_pos (by decide)
      exact Bd.of (by omega) p
  · obtain ⟨e, nz, ha, hn2⟩ := Fm.shift h1 hn
    rw [e] at h
    cases h
    have := (hb.1.sub hb.2.1).div (show 0 < 2 * f.a by omega)
    rw [Nat.max_self] at this
    exact this
/-- all the way down: sizes -/
theorem stepsF_bd {N : Nat} : ∀ (n : Nat) (f : Fm), f.ok → f.mu ≤ n → f.lo (2 ^ N) → (∀ k ∈ stepsF f, Bd (N + 3) k) ∧ ∀ i, i ≤ (stepsF f).length → Fm.bd (N + 1) (f.turn ((stepsF f).take i))
  | n, f, ho, h, hl => by
    cases e : f.nx with
    | none =>
      rw [stepsF_none e]
      refine ⟨fun k hk => absurd hk List.not_mem_nil, fun i hi => ?_⟩
      rw [List.take_nil]
      exact Fm.lo_bd ho hl
    | some k =>
      have hlt := Fm.mu_lt ho e
      match n with
      | 0 => omega
      | n + 1 =>
        obtain ⟨g1, g2⟩ := stepsF_bd n (f.st k) (ho.st k) (by omega) (Fm.lo_st ho hl e)
        rw [stepsF_some ho e]
        refine ⟨fun j hj => ?_, fun i hi => ?_⟩
        · rcases List.mem_cons.mp hj with rfl | hj
          · exact Fm.nx_bd ho (Fm.lo_bd ho hl) e
          · exact g1 j hj
        · cases i with
          | zero => exact Fm.lo_bd ho hl
          | succ i => exact g2 i (by simpa using hi)
/-! part m_eqv -/
def Fm.act (f : Fm) (p q r s : Int) : Fm := ⟨f.a * p * p + f.b * p * r + f.c * r * r, 2 * f.a * p * q + f.b * (p * s + q * r) + 2 * f.c * r * s, f.a * q * q + f.b * q * s + f.c * s * s⟩
def Fm.eqv (f g : Fm) : Prop := ∃ p q r s : Int, p * s - q * r = 1 ∧ g = f.act p q r s
theorem Fm.ext' {f g : Fm} (h1 : f.a = g.a) (h2 : f.b = g.b) (h3 : f.c = g.c) : f = g := by
  cases f
  cases g
  simp_all
theorem Fm.eqv.refl (f : Fm) : f.eqv f := ⟨1, 0, 0, 1, by decide, Fm.ext' (by simp [Fm.act]) (by simp [Fm.act]) (by simp [Fm.act])⟩
theorem Fm.eqv.trans {f g h : Fm} (h1 : f.eqv g) (h2 : g.eqv h) : f.eqv h := by
  obtain ⟨p, q, r, s, d, rfl⟩ := h1
  obtain ⟨p', q', r', s', d', rfl⟩ := h2
  refine ⟨p * p' + q * r', p * q' + q * s', r * p' + s * r', r * q' + s * s', by grind, Fm.ext' ?_ ?_ ?_⟩
  · simp only [Fm.act]; grind
  · simp only [Fm.act]; grind
  · simp only [Fm.act]; grind
theorem Fm.eqv.symm {f g : Fm} (h : f.eqv g) : g.eqv f := by
  obtain ⟨p, q, r, s, d, rfl⟩ := h
  refine ⟨s, -q, -r, p, by grind, Fm.ext' ?_ ?_ ?_⟩
  · have e : f.a = f.a * ((p * s - q * r) * (p * s - q * r)) := by rw [d]; simp
    simp only [Fm.act]
    grind
  · have e : f.b = f.b * ((p * s - q * r) * (p * s - q * r)) := by rw [d]; simp
    simp only [Fm.act]
    grind
  · have e : f.c = f.c * ((p * s - q * r) * (p * s - q * r)) := by rw [d]; simp
    simp only [Fm.act]
    grind
theorem Fm.st_eqv (f : Fm) (k : Int) : f.eqv (f.st k) := by
  by_cases hk : k = 0
  · subst hk
    rw [Fm.st_zero]
    exact ⟨0, -1, 1, 0, by decide, Fm.ext' (by simp [Fm.act]) (by simp [Fm.act]) (by simp [Fm.act])⟩
  · rw [Fm.st_ne hk]
    exact ⟨1, k, 0, 1, by simp, Fm.ext' (by simp [Fm.act]) (by simp [Fm.act]; omega) (by simp [Fm.act])⟩
theorem Fm.turn_eqv (f : Fm) : ∀ ks : List Int, f.eqv (f.turn ks)
  | [] => Fm.eqv.refl f
  | k :: ks => (Fm.st_eqv f k).trans (Fm.turn_eqv (f.st k) ks)
theorem Fm.act_at (f : Fm) (p q r s x y : Int) : (f.act p q r s).at x y = f.at (p * x + q * y) (r * x + s * y) := by
  simp only [Fm.act, Fm.at]
  grind
theorem Fm.act_D (f : Fm) (p q r s : Int) : (f.act p q r s).D = f.D * ((p * s - q * r) * (p * s - q * r)) := by
  simp only [Fm.act, Fm.D]
  grind
theorem Fm.eqv.D {f g : Fm} (h : f.eqv g) : g.D = f.D := by
  obtain ⟨p, q, r, s, d, rfl⟩ := h
  rw [Fm.act_D, d]
  simp
theorem mul_abs_le {x y : Int} : -((x.natAbs : Int) * y.natAbs) ≤ x * y := by
  have := Int.natAbs_mul x y
  have e : (((x * y).natAbs : Nat) : Int) = (x.natAbs : Int) * y.natAbs := by rw [this, Int.natCast_mul]
  rw [← e]
  omega
/-- off the first axis a reduced form is at least c -/
theorem Fm.red.ge_c {f : Fm} (h : f.red) (ha : 1 ≤ f.a) {x y : Int} (hy : y ≠ 0) : f.c ≤ f.at x y := by
  obtain ⟨⟨n1, n2⟩, hac, _⟩ := h
  have hx2 : x * x = (x.natAbs : Int) * x.natAbs := by rw [← Int.natCast_mul, Int.natAbs_mul_self]
  have hy2 : y * y = (y.natAbs : Int) * y.natAbs := by rw [← Int.natCast_mul, Int.natAbs_mul_self]
  have hY1 : 1 ≤ (y.natAbs : Int) := by omega
  have hX0 : 0 ≤ (x.natAbs : Int) := by omega
  have hb1 : (f.b.natAbs : Int) ≤ f.a := by omega
  have hxy : ((x * y).natAbs : Int) = (x.natAbs : Int) * y.natAbs := by rw [Int.natAbs_mul, Int.natCast_mul]
  have hm := mul_abs_le (x := f.b) (y := x * y)
  rw [hxy] at hm
  generalize (x.natAbs : Int) = X at *
  generalize (y.natAbs : Int) = Y at *
  have hXY : 0 ≤ X * Y := Int.mul_nonneg hX0 (by omega)
  have hb : -(f.a * (X * Y)) ≤ f.b * (x * y) := by
    have : (f.b.natAbs : Int) * (X * Y) ≤ f.a * (X * Y) := Int.mul_le_mul_of_nonneg_right hb1 hXY
    omega
  have e : f.at x y = f.a * (X * X) + f.b * (x * y) + f.c * (Y * Y) := by
    rw [← hx2, ← hy2]
    unfold Fm.at
    grind
  have low : f.a * (X * X) - f.a * (X * Y) + f.c * (Y * Y) ≤ f.at x y := by
    rw [e]
    omega
  refine Int.le_trans ?_ low
  have hYY : Y * 1 ≤ Y * Y := Int.mul_le_mul_of_nonneg_left hY1 (by omega)
  rcases Int.lt_or_le X Y with z | z
  · have t1 : 0 ≤ (f.c - f.a) * (X * (Y - X)) := Int.mul_nonneg (by omega) (Int.mul_nonneg hX0 (by omega))
    have t2 : 1 ≤ X * X + Y * (Y - X) := by
      have : 0 ≤ X * X := Int.mul_nonneg hX0 hX0
      have : Y * 1 ≤ Y * (Y - X) := Int.mul_le_mul_of_nonneg_left (by omega) (by omega)
      omega
    have t3 : f.c * 1 ≤ f.c * (X * X + Y * (Y - X)) := Int.mul_le_mul_of_nonneg_left t2 (by omega)
    have t4 : f.a * (X * X) - f.a * (X * Y) + f.c * (Y * Y) = f.c * (X * X + Y * (Y - X)) + (f.c - f.a) * (X * (Y - X)) := by grind
    omega
  · have t1 : 0 ≤ f.a * (X * (X - Y)) := Int.mul_nonneg (by omega) (Int.mul_nonneg hX0 (by omega))
    have t2 : f.c * 1 ≤ f.c * (Y * Y) := Int.mul_le_mul_of_nonneg_left (by omega) (by omega)
    have t4 : f.a * (X * X) - f.a * (X * Y) = f.a * (X * (X - Y)) := by grind
    omega
theorem Fm.at_y0 (f : Fm) (x : Int) : f.at x 0 = f.a * (x * x) := by
  unfold Fm.at
  grind
theorem Fm.red.ge_a {f : Fm} (h : f.red) (ha : 1 ≤ f.a) {x y : Int} (hxy : x ≠ 0 ∨ y ≠ 0) : f.a ≤ f.at x y := by
  by_cases hy : y = 0
  · subst hy
    rw [Fm.at_y0]
    have : 1 ≤ x * x := by
      have := sq_le (x := 1) (y := x) (by omega)
      omega
    have := Int.mul_le_mul_of_nonneg_left this (show 0 ≤ f.a by omega)
    omega
  · exact Int.le_trans h.2.1 (h.ge_c ha hy)
/-- the first number of a reduced form is the least value of the class -/
theorem Fm.eqv.min {f g : Fm} (h : f.eqv g) (hr : g.red) (ha : 1 ≤ g.a) {x y : Int} (hxy : x ≠ 0 ∨ y ≠ 0) : g.a ≤ f.at x y := by
  obtain ⟨p, q, r, s, d, e⟩ := h.symm
  rw [e, Fm.act_at]
  refine hr.ge_a ha ?_
  refine Classical.byContradiction fun hn => ?_
  have h1 : p * x + q * y = 0 := Classical.byContradiction fun z => hn (.inl z)
  have h2 : r * x + s * y = 0 := Classical.byContradiction fun z => hn (.inr z)
  have hx : x = (p * s - q * r) * x := by rw [d]; simp
  have hy : y = (p * s - q * r) * y := by rw [d]; simp
  have hx0 : x = s * (p * x + q * y) - q * (r * x + s * y) := by rw [hx]; grind
  have hy0 : y = p * (r * x + s * y) - r * (p * x + q * y) := by rw [hy]; grind
  rw [h1, h2] at hx0 hy0
  simp at hx0 hy0
  omega
theorem sq_one {x : Int} (h : x * x = 1) : x = 1 ∨ x = -1 := by
  have : x.natAbs * x.natAbs = 1 := by rw [Int.natAbs_mul_natAbs_eq h]
  have := Nat.eq_one_of_mul_eq_one_left this
  omega
/-- one reduced form a class -/
theorem Fm.eqv.uniq1 {g h : Fm} (e : g.eqv h) (hg : g.red) (hh : h.red) (ga : 1 ≤ g.a) (ha : 1 ≤ h.a) (hlt : g.a < g.c) : h = g := by
  have ea : h.a = g.a := by
    have h1 := e.min hh ha (x := 1) (y := 0) (.inl (by decide))
    have h2 := e.symm.min hg ga (x := 1) (y := 0) (.inl (by decide))
    rw [Fm.at_y0] at h1 h2
    omega
  have hD := e.D
  obtain ⟨p, q, r, s, d, eh⟩ := e
  have hv : h.a = g.at p r := by
    rw [eh]
    simp only [Fm.act, Fm.at]
  have r0 : r = 0 := Classical.byContradiction fun z => by
    have := hg.ge_c ga (x := p) z
    omega
  subst r0
  rw [Int.mul_zero, Int.sub_zero] at d
  have hp : p = 1 ∧ s = 1 ∨ p = -1 ∧ s = -1 := by
    have h1 : p.natAbs * s.natAbs = 1 := by rw [← Int.natAbs_mul, d]; rfl
    have h2 := Nat.eq_one_of_mul_eq_one_right h1
    have h3 := Nat.eq_one_of_mul_eq_one_left h1
    rcases (show p = 1 ∨ p = -1 by omega) with rfl | rfl
    · exact .inl ⟨rfl, by omega⟩
    · exact .inr ⟨rfl, by omega⟩
  have hb : ∃ n, h.b = g.b + 2 * (g.a * n) := by
    rcases hp with ⟨rfl, rfl⟩ | ⟨rfl, rfl⟩
    · exact ⟨q, by rw [eh]; simp only [Fm.act]; grind⟩
    · exact ⟨-q, by rw [eh]; simp only [Fm.act]; grind⟩
  obtain ⟨n, hb⟩ := hb
  have n0 : n = 0 := by
    have h1 := hg.1
    have h2 := hh.1
    unfold Fm.norm at h1 h2
    rcases Int.lt_trichotomy n 0 with z | z | z
    · have : g.a * n ≤ g.a * -1 := Int.mul_le_mul_of_nonneg_left (by omega) (by omega)
      omega
    · exact z
    · have : g.a * 1 ≤ g.a * n := Int.mul_le_mul_of_nonneg_left (by omega) (by omega)
      omega
  have eb : h.b = g.b := by
    rw [hb, n0]
    simp
  refine Fm.ext' ea eb ?_
  unfold Fm.D at hD
  rw [ea, eb] at hD
  have : 4 * g.a * h.c = 4 * g.a * g.c := by omega
  exact Int.eq_of_mul_eq_mul_left (by omega) this
theorem Fm.eqv.uniq {g h : Fm} (e : g.eqv h) (hg : g.red) (hh : h.red) (ga : 1 ≤ g.a) (ha : 1 ≤ h.a) : h = g := by
  rcases Int.lt_or_le g.a g.c with z | z
  · exact e.uniq1 hg hh ga ha z
  · rcases Int.lt_or_le h.a h.c with y | y
    · exact (e.symm.uniq1 hh hg ha ga y).symm
    · have ea : h.a = g.a := by
        have h1 := e.min hh ha (x := 1) (y := 0) (.inl (by decide))
        have h2 := e.symm.min hg ga (x := 1) (y := 0) (.inl (by decide))
        rw [Fm.at_y0] at h1 h2
        omega
      have g1 := hg.2.1
      have g2 := hg.2.2 (by omega)
      have h1 := hh.2.1
      have h2 := hh.2.2 (by omega)
      have hD := e.D
      unfold Fm.D at hD
      have ec : h.c = g.c := by omega
      rw [ea, ec] at hD
      have hb : h.b * h.b = g.b * g.b := by omega
      refine Fm.ext' ea ?_ ec
      have e1 : h.b.natAbs * h.b.natAbs = g.b.natAbs * g.b.natAbs := by
        have := congrArg Int.natAbs hb
        rw [Int.natAbs_mul, Int.natAbs_mul] at this
        exact this
      rcases Nat.lt_trichotomy h.b.natAbs g.b.natAbs with w | w | w
      · have := Nat.mul_lt_mul'' w w
        omega
      · omega
      · have := Nat.mul_lt_mul'' w w
        omega
theorem redF_eqv (f : Fm) : f.eqv (redF f) := Fm.turn_eqv f _
theorem redF_turn {f : Fm} (ho : f.ok) (ks : List Int) : redF (f.turn ks) = redF f := by
  have h1 : (redF f).eqv (redF (f.turn ks)) := (redF_eqv f).symm.trans ((Fm.turn_eqv f ks).trans (redF_eqv _))
  refine h1.uniq (redF_red _ f ho (Nat.le_refl _)) (redF_red _ _ (ho.turn ks) (Nat.le_refl _)) (ho.turn _).1 ((ho.turn ks).turn _).1
/-! how many steps -/
theorem len_red {f : Fm} (h : f.red) : stepsF f = [] := stepsF_none (Fm.nx_none.mpr h)
theorem len_norm : ∀ (n : Nat) (f : Fm), f.ok → f.norm → f.a < 2 ^ n → (stepsF f).length ≤ 2 * n + 3
  | 0, f, ho, _, h => by
    have := ho.1
    simp at h
    omega
  | n + 1, f, ho, hn, h => by
    by_cases hr : f.red
    · rw [len_red hr]
      exact Nat.zero_le _
    · have h1 := ho.1
      have hc := ho.c_pos
      obtain ⟨e, h2⟩ := Fm.swap hn hr
      obtain ⟨n1, n2⟩ := hn
      rw [stepsF_some ho e, List.length_cons]
      have ho2 := ho.st 0
      rw [Fm.st_zero] at ho2 ⊢
      rcases h2 with h2 | ⟨h2, h3⟩
      · by_cases hg : Fm.norm ⟨f.c, -f.b, f.a⟩
        · rw [len_red (f := ⟨f.c, -f.b, f.a⟩) ⟨hg, by dsimp only; omega, fun z => by dsimp only at z; omega⟩]
          simp
        · obtain ⟨e3, nz, ha3, hn3⟩ := Fm.shift (f := ⟨f.c, -f.b, f.a⟩) hc hg
          rw [stepsF_some ho2 e3, List.length_cons]
          have ho3 := ho2.st ((f.c - -f.b) / (2 * f.c))
          dsimp only at ha3 hn3 e3 ⊢
          by_cases hh : 2 * f.c ≤ f.a
          · have := len_norm n _ ho3 hn3 (by rw [ha3, Int.pow_succ] at *; omega)
            omega
          · have hk : (f.c - -f.b) / (2 * f.c) = 1 ∨ (f.c - -f.b) / (2 * f.c) = -1 := by
              have d1 := Int.mul_ediv_add_emod (f.c - -f.b) (2 * f.c)
              have d2 := Int.emod_nonneg (f.c - -f.b) (show 2 * f.c ≠ 0 by omega)
              have d3 := Int.emod_lt_of_pos (f.c - -f.b) (show 0 < 2 * f.c by omega)
              generalize (f.c - -f.b) / (2 * f.c) = k at *
              rcases Int.lt_trichotomy k 0 with z | z | z
              · right
                rcases Int.lt_or_le k (-1) with y | y
                · have : 2 * f.c * k ≤ 2 * f.c * -2 := Int.mul_le_mul_of_nonneg_left (by omega) (by omega)
                  omega
                · omega
              · exact absurd z nz
              · left
                rcases Int.lt_or_le 1 k with y | y
                · have : 2 * f.c * 2 ≤ 2 * f.c * k := Int.mul_le_mul_of_nonneg_left (by omega) (by omega)
                  omega
                · omega
            have hcc : f.c ≤ (Fm.st ⟨f.c, -f.b, f.a⟩ ((f.c - -f.b) / (2 * f.c))).c := by
              rcases hk with hk | hk <;> rw [hk, Fm.st_ne (by decide)] <;> dsimp only <;> omega
            generalize Fm.st ⟨f.c, -f.b, f.a⟩ ((f.c - -f.b) / (2 * f.c)) = g at *
            by_cases hg2 : g.red
            · rw [len_red hg2]
              simp
            · obtain ⟨e4, h4⟩ := Fm.swap hn3 hg2
              have h5 : g.a = g.c ∧ g.b < 0 := by omega
              rw [stepsF_some ho3 e4, List.length_cons, Fm.st_zero, len_red (f := ⟨g.c, -g.b, g.a⟩) ⟨⟨by dsimp only; have := hn3.1; omega, by dsimp only; have := hn3.1; omega⟩, by dsimp only; omega, fun _ => by dsimp only; omega⟩]
              simp
      · rw [len_red (f := ⟨f.c, -f.b, f.a⟩) ⟨⟨by dsimp only; omega, by dsimp only; omega⟩, by dsimp only; omega, fun _ => by dsimp only; omega⟩]
        simp
theorem len_any {n : Nat} {f : Fm} (ho : f.ok) (h : f.a < 2 ^ n) : (stepsF f).length ≤ 2 * n + 4 := by
  by_cases hn : f.norm
  · have := len_norm n f ho hn h
    omega
  · obtain ⟨e, nz, ha, hn2⟩ := Fm.shift ho.1 hn
    have := len_norm n _ (ho.st _) hn2 (by rw [ha]; exact h)
    rw [stepsF_some ho e, List.length_cons]
    omega
/-! part m_back -/
/-- where a point of the form behind the steps comes from -/
def backP : Int × Int → List Int → Int × Int
  | p, [] => p
  | p, k :: ks => let q := backP p ks; if k = 0 then (-q.2, q.1) else (q.1 + k * q.2, q.2)
/-! part m_turn -/
theorem Fm.st_bd {n : Nat} {f : Fm} {k : Int} (hb : Fm.bd n f) (hk : Bd 3 k) : Fm.bd (n + 10) (f.st k) := by
  obtain ⟨ba, bb, bc⟩ := hb
  unfold Fm.st
  split
  · exact ⟨bc.mono (by omega), bb.neg.mono (by omega), ba.mono (by omega)⟩
  · have b2 : Bd 3 2 := ⟨by decide⟩
    exact ⟨ba.mono (by omega), (bb.add ((b2.mul ba).mul hk)).mono (by omega), ((((ba.mul hk).mul hk).add (bb.mul hk)).add bc).mono (by omega)⟩
theorem Fm.turn_bd {n : Nat} {f : Fm} (hb : Fm.bd n f) : ∀ {ks : List Int}, (∀ k ∈ ks, Bd 3 k) → Fm.bd (n + 10 * ks.length) (f.turn ks)
  | [], _ => hb
  | k :: ks, h => by
    have := Fm.turn_bd (Fm.st_bd hb (h k (List.mem_cons_self ..))) (ks := ks) fun j hj => h j (List.mem_cons_of_mem _ hj)
    exact Fm.bd.mono this (by rw [List.length_cons]; omega)
theorem Fm.turn_bds {n : Nat} {f : Fm} (hb : Fm.bd n f) {ks : List Int} (h : ∀ k ∈ ks, Bd 3 k) (i : Nat) (hi : i ≤ ks.length) : Fm.bd (n + 10 * ks.length) (f.turn (ks.take i)) :=
  Fm.bd.mono (Fm.turn_bd hb fun k hk => h k (List.mem_of_mem_take hk)) (by rw [List.length_take]; omega)
theorem bd3 {k : Int} (h : -6 ≤ k ∧ k ≤ 6) : Bd 3 k := ⟨by omega⟩
theorem Fm.turn_at (f : Fm) : ∀ (ks : List Int) (x y : Int), (f.turn ks).at x y = f.at (backP (x, y) ks).1 (backP (x, y) ks).2
  | [], x, y => rfl
  | k :: ks, x, y => by
    show ((f.st k).turn ks).at x y = _
    rw [Fm.turn_at (f.st k) ks x y]
    show _ = f.at (let q := backP (x, y) ks; if k = 0 then (-q.2, q.1) else (q.1 + k * q.2, q.2)).1 (let q := backP (x, y) ks; if k = 0 then (-q.2, q.1) else (q.1 + k * q.2, q.2)).2
    generalize backP (x, y) ks = q
    obtain ⟨u, v⟩ := q
    dsimp only
    by_cases hk : k = 0
    · subst hk
      rw [Fm.st_zero, if_pos rfl]
      unfold Fm.at
      dsimp only
      grind
    · rw [Fm.st_ne hk, if_neg hk]
      unfold Fm.at
      dsimp only
      grind
/-! part m_prime -/
namespace QR
def Pm (p : Int) : Prop := 2 ≤ p ∧ ∀ d : Int, 2 ≤ d → d < p → ¬ d ∣ p
theorem split_le {n d e : Int} (h2 : 2 ≤ d) (hdn : d < n) (he : n = d * e) : (d * d ≤ n ∨ e * e ≤ n) ∧ 2 ≤ e := by
  have e0 : 2 ≤ e := by
    rcases Int.lt_or_le e 2 with z | z
    · exfalso
      have : d * e ≤ d * 1 := Int.mul_le_mul_of_nonneg_left (by omega) (by omega)
      omega
    · exact z
  refine ⟨?_, e0⟩
  rcases Int.le_total d e with z | z
  · left
    have : d * d ≤ d * e := Int.mul_le_mul_of_nonneg_left z (by omega)
    omega
  · right
    have : e * e ≤ d * e := Int.mul_le_mul_of_nonneg_right z (by omega)
    omega
theorem pm_of_trial {n k : Int} (h2 : 2 ≤ n) (hk0 : 0 ≤ k) (hk : n < k * k) (h : ∀ d : Int, 2 ≤ d → d < k → ¬ d ∣ n) : Pm n := by
  refine ⟨h2, fun d hd hn hdv => ?_⟩
  obtain ⟨e, he⟩ := hdv
  have lt : ∀ x : Int, 0 ≤ x → x * x ≤ n → x < k := fun x hx hxx => by
    rcases Int.lt_or_le x k with z | z
    · exact z
    · exfalso
      have a : k * k ≤ x * k := Int.mul_le_mul_of_nonneg_right z hk0
      have b : x * k ≤ x * x := Int.mul_le_mul_of_nonneg_left z hx
      omega
  obtain ⟨a, b⟩ := split_le hd hn he
  rcases a with a | a
  · exact h d hd (lt d (by omega) a) ⟨e, he⟩
  · exact h e b (lt e (by omega) a) ⟨d, by rw [he, Int.mul_comm]⟩
theorem pm_of_odd_trial {n k : Int} (h3 : 3 ≤ n) (ho : n % 2 = 1) (hk0 : 0 ≤ k) (hk : n < k * k) (h : ∀ d : Int, 3 ≤ d → d % 2 = 1 → d < k → ¬ d ∣ n) : Pm n := by
  refine pm_of_trial (by omega) hk0 hk fun d hd hdk hdv => ?_
  have : d % 2 = 1 := by
    obtain ⟨e, he⟩ := hdv
    rcases Int.emod_two_eq d with z | z
    · exfalso
      rw [he, Int.mul_emod, z, Int.zero_mul] at ho
      simp at ho
    · exact z
  exact h d (by omega) this hdk hdv
theorem not_pm {n k : Int} (h2 : 2 ≤ k) (hk : k * k ≤ n) (hd : n % k = 0) : ¬ Pm n := fun hp => by
  have : k < k * k := by
    have : k * 2 ≤ k * k := Int.mul_le_mul_of_nonneg_left h2 (by omega)
    omega
  exact hp.2 k h2 (by omega) (Int.dvd_of_emod_eq_zero hd)
theorem no_dvd_step {n k : Int} (h : ∀ d : Int, 2 ≤ d → d < k → ¬ d ∣ n) (hd : n % k ≠ 0) : ∀ d : Int, 2 ≤ d → d < k + 1 → ¬ d ∣ n := fun d h2 hk z => by
  by_cases e : d = k
  · rw [e] at z
    exact hd (Int.emod_eq_zero_of_dvd z)
  · exact h d h2 (by omega) z
theorem no_dvd_step2 {n k : Int} (hk : k % 2 = 1) (h : ∀ d : Int, 3 ≤ d → d % 2 = 1 → d < k → ¬ d ∣ n) (hd : n % k ≠ 0) : ∀ d : Int, 3 ≤ d → d % 2 = 1 → d < k + 2 → ¬ d ∣ n := fun d h2 ho hk z => by
  by_cases e : d = k
  · rw [e] at z
    exact hd (Int.emod_eq_zero_of_dvd z)
  · exact h d h2 ho (by omega) z
theorem sq_bound {k n : Int} (h0 : 0 ≤ k) (hk : k * k ≤ n) (hn : n < 2 ^ 120) : k < 2 ^ 60 := by
  rcases Int.lt_or_le k (2 ^ 60) with z | z
  · exact z
  · exfalso
    have a : (2 : Int) ^ 60 * 2 ^ 60 ≤ k * 2 ^ 60 := Int.mul_le_mul_of_nonneg_right z (by decide)
    have b : k * 2 ^ 60 ≤ k * k := Int.mul_le_mul_of_nonneg_left z h0
    have c : (2 : Int) ^ 60 * 2 ^ 60 = 2 ^ 120 := by decide
    omega
theorem le_sq {k : Int} (h : 1 ≤ k) : k ≤ k * k := by
  have : k * 1 ≤ k * k := Int.mul_le_mul_of_nonneg_left h (by omega)
  omega
/-- an odd prime -/
def OP (n : Int) : Prop := Pm n ∧ n % 2 = 1
theorem OP.three {n : Int} (h : OP n) : 3 ≤ n := by
  have := h.1.1
  have := h.2
  omega
theorem pm_two : Pm 2 := ⟨by omega, fun d h1 h2 => by omega⟩
theorem pm_odd {n : Int} (h : Pm n) (h3 : 3 ≤ n) : n % 2 = 1 := by
  rcases Int.emod_two_eq n with z | z
  · exact absurd (Int.dvd_of_emod_eq_zero z) (h.2 2 (by omega) (by omega))
  · exact z
/-- a prime, by looking at all divisors up to a side -/
theorem op_by {n : Nat} (k : Nat) (h3 : 3 ≤ n) (ho : n % 2 = 1) (hk : n < k * k) (h : (List.range k).all (fun d => d < 2 || n % d != 0) = true) : OP n := by
  refine ⟨pm_of_trial (k := k) (by omega) (by omega) (by exact_mod_cast hk) fun d h2 hd hv => ?_, by omega⟩
  have := List.all_eq_true.mp h d.toNat (List.mem_range.mpr (by omega))
  have hz : n % d.toNat = 0 := by
    have e := Int.emod_eq_zero_of_dvd hv
    rw [show d = ((d.toNat : Nat) : Int) by omega, ← Int.natCast_emod] at e
    exact_mod_cast e
  have h2' : ¬ d.toNat < 2 := by omega
  simp [hz, h2'] at this
open Classical in
noncomputable instance decPm (n : Int) : Decidable (Pm n) := Classical.propDecidable _
noncomputable instance decOP (n : Int) : Decidable (OP n) := instDecidableAnd
end QR
/-! part m_side -/
open Classical in
/-- the integer from 0 on whose square is given -/
noncomputable def sideO (s : Int) : Option Int := if h : ∃ r : Int, 0 ≤ r ∧ r * r = s then some h.choose else none
theorem sq_inj {r t : Int} (hr : 0 ≤ r) (ht : 0 ≤ t) (e : r * r = t * t) : r = t := by
  rcases Int.lt_trichotomy r t with z | z | z
  · have := Int.mul_self_lt_mul_self hr z
    omega
  · exact z
  · have := Int.mul_self_lt_mul_self ht z
    omega
theorem sideO_some {s r : Int} (hr : 0 ≤ r) (e : r * r = s) : sideO s = some r := by
  unfold sideO
  have h : ∃ r : Int, 0 ≤ r ∧ r * r = s := ⟨r, hr, e⟩
  rw [dif_pos h]
  have := h.choose_spec
  exact congrArg some (sq_inj this.1 hr (by rw [this.2, e]))
theorem sideO_none {s : Int} (h : ∀ r : Int, 0 ≤ r → r * r ≠ s) : sideO s = none := dif_neg fun ⟨r, a, b⟩ => h r a b
theorem sideO_prop {s r : Int} (h : sideO s = some r) : 0 ≤ r ∧ r * r = s := by
  unfold sideO at h
  split at h
  · rename_i z
    have := z.choose_spec
    cases h
    exact this
  · cases h
theorem sideO_no {s r : Int} (h : sideO s = none) (hr : 0 ≤ r) : r * r ≠ s := fun e => by
  rw [sideO_some hr e] at h
  cases h
theorem sq_mono {x y : Int} (hx : 0 ≤ x) (h : x ≤ y) : x * x ≤ y * y := Int.mul_le_mul h h hx (by omega)
theorem nyy_le {n p y : Int} (hn : 1 ≤ n) (hy : 0 ≤ y) (h : n * y * y ≤ p) : y ≤ p := by
  have a := Int.mul_le_mul_of_nonneg_right hn (sq_nonneg y)
  rw [Int.mul_assoc] at h
  have b : y ≤ y * y ∨ y = 0 := by
    rcases Int.lt_or_le 0 y with z | z
    · exact .inl (QR.le_sq (by omega))
    · exact .inr (by omega)
  rcases b with b | b
  · omega
  · subst b
    omega
/-! part m_rows -/
/-- the list that a list of tuples holds -/
def RowsAt (H : Hp) : List Addr → List (List V) → Prop
  | [], [] => True
  | t :: ts, l :: ls => H t = some (.tup l) ∧ RowsAt H ts ls
  | _, _ => False
theorem RowsAt.mono {H H' : Hp} (s : Same H H') : ∀ {ts : List Addr} {ls : List (List V)}, RowsAt H ts ls → RowsAt H' ts ls
  | [], [], _ => trivial
  | _ :: _, _ :: _, h => ⟨s _ _ h.1, RowsAt.mono s h.2⟩
  | [], _ :: _, h => h.elim
  | _ :: _, [], h => h.elim
theorem RowsAt.len {H : Hp} : ∀ {ts : List Addr} {ls : List (List V)}, RowsAt H ts ls → ts.length = ls.length
  | [], [], _ => rfl
  | _ :: _, _ :: _, h => by rw [List.length_cons, List.length_cons, RowsAt.len h.2]
  | [], _ :: _, h => h.elim
  | _ :: _, [], h => h.elim
theorem RowsAt.snoc {H : Hp} {t : Addr} {l : List V} (ht : H t = some (.tup l)) : ∀ {ts : List Addr} {ls : List (List V)}, RowsAt H ts ls → RowsAt H (ts ++ [t]) (ls ++ [l])
  | [], [], _ => ⟨ht, trivial⟩
  | _ :: _, _ :: _, h => ⟨h.1, RowsAt.snoc ht h.2⟩
  | [], _ :: _, h => h.elim
  | _ :: _, [], h => h.elim
theorem RowsAt.other {H : Hp} {p : Addr} {xs : List V} {o : HO} (hp : H p = some (.lst xs)) : ∀ {ts : List Addr} {ls : List (List V)}, RowsAt H ts ls → RowsAt (upd H p o) ts ls
  | [], [], _ => trivial
  | t :: _, _ :: _, h => ⟨by
      rw [upd_ne (ne_of h.1 hp (by intro z; cases z))]
      exact h.1, RowsAt.other hp h.2⟩
  | [], _ :: _, h => h.elim
  | _ :: _, [], h => h.elim
theorem RowsAt.at {H : Hp} : ∀ {ts : List Addr} {ls : List (List V)} {i : Nat} {v : V}, RowsAt H ts ls → (ts.map V.ref)[i]? = some v → ∃ (t : Addr) (l : List V), v = .ref t ∧ H t = some (.tup l) ∧ ls[i]? = some l
  | t :: ts, l :: ls, 0, v, h, e => ⟨t, l, (Option.some.inj e).symm, h.1, rfl⟩
  | t :: ts, l :: ls, i + 1, v, h, e => RowsAt.at h.2 (i := i) e
  | [], _, _, _, _, e => by cases e
  | _ :: _, [], _, _, h, _ => h.elim
theorem RowsAt.rig {H : Hp} {ts : List Addr} {ls : List (List V)} (h : RowsAt H ts ls) : Rig (fun G => RowsAt G ts ls) H := fun G k => by
  induction ts generalizing ls with
  | nil => cases ls with
    | nil => trivial
    | cons l ls => exact h.elim
  | cons t ts ih => cases ls with
    | nil => exact h.elim
    | cons l ls => exact ⟨k _ _ rfl h.1, ih h.2⟩
/-! part m_ways -/
def prV (r : Int × Int) : List V := [.int r.1, .int r.2]
def lexlt (r s : Int × Int) : Prop := r.1 < s.1 ∨ r.1 = s.1 ∧ r.2 < s.2
/-- all points of this value, each once -/
structure WaySet (f : Fm) (m : Int) (rs : List (Int × Int)) : Prop where
  mem : ∀ r, r ∈ rs ↔ f.at r.1 r.2 = m
  nd : rs.Nodup
/-- in order -/
structure WaysOf (f : Fm) (m : Int) (rs : List (Int × Int)) : Prop where
  mem : ∀ r, r ∈ rs ↔ f.at r.1 r.2 = m
  inc : rs.Pairwise lexlt
theorem WaysOf.set {f : Fm} {m : Int} {rs : List (Int × Int)} (h : WaysOf f m rs) : WaySet f m rs := ⟨h.mem, h.inc.imp fun h e => by
  subst e
  unfold lexlt at h
  omega⟩
theorem lex_uniq : ∀ {a b : List (Int × Int)}, a.Pairwise lexlt → b.Pairwise lexlt → (∀ k, k ∈ a ↔ k ∈ b) → a = b
  | [], [], _, _, _ => rfl
  | [], y :: b, _, _, h => absurd ((h y).mpr List.mem_cons_self) List.not_mem_nil
  | x :: a, [], _, _, h => absurd ((h x).mp List.mem_cons_self) List.not_mem_nil
  | x :: a, y :: b, ha, hb, h => by
    obtain ⟨a1, a2⟩ := List.pairwise_cons.mp ha
    obtain ⟨b1, b2⟩ := List.pairwise_cons.mp hb
    have irr : ∀ {u v : Int × Int}, lexlt u v → lexlt v u → False := fun h k => by
      unfold lexlt at h k
      omega
    have irr1 : ∀ {u : Int × Int}, lexlt u u → False := fun h => irr h h
    have e : x = y := by
      rcases List.mem_cons.mp ((h x).mp List.mem_cons_self) with e | m1
      · exact e
      · rcases List.mem_cons.mp ((h y).mpr List.mem_cons_self) with e | m2
        · exact e.symm
        · exact (irr (b1 x m1) (a1 y m2)).elim
    subst e
    rw [lex_uniq a2 b2 fun k => ?_]
    constructor
    · intro hk
      rcases List.mem_cons.mp ((h k).mp (List.mem_cons_of_mem _ hk)) with e | z
      · rw [e] at hk
        exact (irr1 (a1 x hk)).elim
      · exact z
    · intro hk
      rcases List.mem_cons.mp ((h k).mpr (List.mem_cons_of_mem _ hk)) with e | z
      · rw [e] at hk
        exact (irr1 (b1 x hk)).elim
      · exact z
theorem WaysOf.uniq {f : Fm} {m : Int} {rs ss : List (Int × Int)} (h : WaysOf f m rs) (k : WaysOf f m ss) : rs = ss := lex_uniq h.inc k.inc fun r => by rw [h.mem, k.mem]
/-- sorted -/
theorem WaySet.sorted {f : Fm} {m : Int} {rs ss : List (Int × Int)} (h : WaySet f m rs) (p : ss.Perm rs) (s : ss.Pairwise fun u v => ¬ lexlt v u) : WaysOf f m ss := by
  refine ⟨fun r => by rw [p.mem_iff, h.mem], ?_⟩
  have n : ss.Nodup := p.nodup_iff.mpr h.nd
  refine (s.and n).imp fun {u v} ⟨h1, h2⟩ => ?_
  unfold lexlt at h1 ⊢
  rcases Int.lt_trichotomy u.1 v.1 with z | z | z
  · exact .inl z
  · refine .inr ⟨z, ?_⟩
    rcases Int.lt_trichotomy u.2 v.2 with y | y | y
    · exact y
    · exact absurd (Prod.ext z y) h2
    · exact absurd (.inr ⟨z.symm, y⟩) h1
  · exact absurd (.inl z) h1
def fwdP : Int × Int → List Int → Int × Int
  | p, [] => p
  | p, k :: ks => fwdP (if k = 0 then (p.2, -p.1) else (p.1 - k * p.2, p.2)) ks
theorem back_fwd : ∀ (ks : List Int) (p : Int × Int), backP (fwdP p ks) ks = p
  | [], _ => rfl
  | k :: ks, p => by
    show (let q := backP (fwdP (if k = 0 then (p.2, -p.1) else (p.1 - k * p.2, p.2)) ks) ks; if k = 0 then (-q.2, q.1) else (q.1 + k * q.2, q.2)) = p
    rw [back_fwd ks]
    by_cases h : k = 0
    · simp [h]
    · simp [h]
theorem fwd_back : ∀ (ks : List Int) (p : Int × Int), fwdP (backP p ks) ks = p
  | [], _ => rfl
  | k :: ks, p => by
    show fwdP (if k = 0 then ((backP p (k :: ks)).2, -(backP p (k :: ks)).1) else ((backP p (k :: ks)).1 - k * (backP p (k :: ks)).2, (backP p (k :: ks)).2)) ks = p
    have e : backP p (k :: ks) = if k = 0 then (-(backP p ks).2, (backP p ks).1) else ((backP p ks).1 + k * (backP p ks).2, (backP p ks).2) := rfl
    rw [e]
    by_cases h : k = 0
    · simp [h, fwd_back ks]
    · simp [h, fwd_back ks]
theorem backP_app (p : Int × Int) (ls : List Int) : ∀ ks : List Int, backP p (ks ++ ls) = backP (backP p ls) ks
  | [] => rfl
  | k :: ks => by
    show (let q := backP p (ks ++ ls); if k = 0 then (-q.2, q.1) else (q.1 + k * q.2, q.2)) = _
    rw [backP_app p ls ks]
    rfl
theorem WaySet.back {f : Fm} {m : Int} {ks : List Int} {rs : List (Int × Int)} (h : WaySet (f.turn ks) m rs) : WaySet f m (rs.map fun r => backP r ks) := by
  refine ⟨fun r => ?_, List.Pairwise.map _ (fun {a b} n e => n ?_) h.nd⟩
  · rw [List.mem_map]
    constructor
    · rintro ⟨q, hq, rfl⟩
      rw [h.mem, Fm.turn_at] at hq
      exact hq
    · intro hr
      refine ⟨fwdP r ks, ?_, back_fwd ks r⟩
      rw [h.mem, Fm.turn_at]
      show f.at (backP (fwdP r ks) ks).1 (backP (fwdP r ks) ks).2 = m
      rw [back_fwd]
      exact hr
  · have := congrArg (fun q => fwdP q ks) e
    simpa [fwd_back] using this
theorem nodup_len : ∀ {l s : List (Int × Int)}, l.Nodup → (∀ k ∈ l, k ∈ s) → l.length ≤ s.length
  | [], s, _, _ => Nat.zero_le _
  | k :: l, s, h, hs => by
    have hk := hs k List.mem_cons_self
    obtain ⟨h1, h2⟩ := List.nodup_cons.mp h
    have := nodup_len (l := l) (s := s.erase k) h2 fun j hj => (List.mem_erase_of_ne fun (e : j = k) => h1 (e ▸ hj)).mpr (hs j (List.mem_cons_of_mem _ hj))
    rw [List.length_erase_of_mem hk] at this
    have := List.length_pos_of_mem hk
    rw [List.length_cons]
    omega
theorem WaySet.len {f : Fm} {m : Int} {rs ss : List (Int × Int)} (h : WaySet f m rs) (k : WaySet f m ss) : rs.length = ss.length :=
  Nat.le_antisymm (nodup_len h.nd fun r hr => (k.mem r).mpr ((h.mem r).mp hr)) (nodup_len k.nd fun r hr => (h.mem r).mpr ((k.mem r).mp hr))
theorem WaySet.turn_len {f : Fm} {m : Int} {ks : List Int} {rs ss : List (Int × Int)} (h : WaySet f m rs) (k : WaySet (f.turn ks) m ss) : rs.length = ss.length := by
  have := h.len k.back
  rwa [List.length_map] at this
/-! ### looking along all y -/
structure PlainSo (f : Fm) (m y : Int) (rs : List (Int × Int)) : Prop where
  mem : ∀ r, r ∈ rs ↔ f.at r.1 r.2 = m ∧ -y < r.2 ∧ r.2 < y
  nd : rs.Nodup
  len : (rs.length : Int) ≤ 4 * y
structure PlainIn (f : Fm) (rs0 ps rs : List (Int × Int)) : Prop where
  mem : ∀ r, r ∈ rs ↔ r ∈ rs0 ∨ (2 * f.a * r.1 + f.b * r.2, r.2) ∈ ps
  nd : rs.Nodup
  len : rs.length ≤ rs0.length + ps.length
def prodL (us hs : List Int) : List (Int × Int) := us.flatMap fun u => hs.map fun h => (u, h)
theorem mem_prod {us hs : List Int} {u h : Int} : (u, h) ∈ prodL us hs ↔ u ∈ us ∧ h ∈ hs := by
  unfold prodL
  simp [List.mem_flatMap]
theorem prod_snoc {us hs : List Int} {u : Int} : prodL (us ++ [u]) hs = prodL us hs ++ hs.map fun h => (u, h) := by
  unfold prodL
  simp
theorem prod_len {us hs : List Int} : (prodL us hs).length = us.length * hs.length := by
  unfold prodL
  induction us with
  | nil => simp
  | cons u us ih => rw [List.flatMap_cons, List.length_append, ih, List.length_map, List.length_cons, Nat.succ_mul, Nat.add_comm]
section
variable {f : Fm} {m y : Int} {rs rs0 ps : List (Int × Int)} {u h : Int}
theorem PlainIn.nil (n : rs0.Nodup) : PlainIn f rs0 [] rs0 := ⟨fun r => by simp, n, by simp⟩
theorem ediv_key {a n x : Int} (ha : 1 ≤ a) (h : n % (2 * a) = 0) : 2 * a * x = n ↔ x = n / (2 * a) := by
  have e := Int.mul_ediv_add_emod n (2 * a)
  rw [h] at e
  constructor
  · intro z
    rw [← z]
    exact (Int.mul_ediv_cancel_left _ (by omega)).symm
  · intro z
    subst z
    omega
theorem PlainIn.put (p : PlainIn f rs0 ps rs) (ha : 1 ≤ f.a) (hd : (u - f.b * h) % (2 * f.a) = 0) (hn : ((u - f.b * h) / (2 * f.a), h) ∉ rs) : PlainIn f rs0 (ps ++ [(u, h)]) (rs ++ [((u - f.b * h) / (2 * f.a), h)]) := by
  refine ⟨fun r => ?_, List.nodup_append.mpr ⟨p.nd, by simp, fun a ha b hb e => hn ?_⟩, by simp only [List.length_append, List.length_singleton]; have := p.len; omega⟩
  · rw [List.mem_append, p.mem, List.mem_append, List.mem_singleton, List.mem_singleton, or_assoc]
    refine or_congr Iff.rfl (or_congr Iff.rfl ?_)
    obtain ⟨x, z⟩ := r
    have := ediv_key (x := x) ha hd
    simp only [Prod.mk.injEq]
    constructor
    · rintro ⟨rfl, rfl⟩
      exact ⟨by have := (ediv_key (x := (u - f.b * z) / (2 * f.a)) ha hd).mpr rfl; omega, rfl⟩
    · rintro ⟨e, rfl⟩
      exact ⟨this.mp (by omega), rfl⟩
  · rw [List.mem_singleton.mp hb] at e
    rw [← e]
    exact ha
theorem PlainIn.skip (p : PlainIn f rs0 ps rs) (ha : 1 ≤ f.a) (hd : (u - f.b * h) % (2 * f.a) ≠ 0) : PlainIn f rs0 (ps ++ [(u, h)]) rs := by
  refine ⟨fun r => ?_, p.nd, by rw [List.length_append]; have := p.len; omega⟩
  rw [p.mem, List.mem_append, List.mem_singleton]
  refine or_congr Iff.rfl ⟨.inl, fun k => k.elim id fun e => ?_⟩
  obtain ⟨x, w⟩ := r
  simp only [Prod.mk.injEq] at e
  obtain ⟨e1, rfl⟩ := e
  refine absurd ?_ hd
  rw [show u - f.b * w = 2 * f.a * x by omega]
  exact Int.mul_emod_right ..
theorem PlainIn.had (p : PlainIn f rs0 ps rs) (ha : 1 ≤ f.a) (hd : (u - f.b * h) % (2 * f.a) = 0) (hn : ((u - f.b * h) / (2 * f.a), h) ∈ rs) : PlainIn f rs0 (ps ++ [(u, h)]) rs := by
  refine ⟨fun r => ?_, p.nd, by rw [List.length_append]; have := p.len; omega⟩
  rw [List.mem_append, List.mem_singleton, ← or_assoc, ← p.mem]
  refine ⟨.inl, fun k => k.elim id fun e => ?_⟩
  obtain ⟨x, w⟩ := r
  simp only [Prod.mk.injEq] at e
  obtain ⟨e1, rfl⟩ := e
  have := (ediv_key ha hd).mp (show 2 * f.a * x = u - f.b * w by omega)
  rw [this]
  exact hn
/-- a new pair is no old point -/
theorem PlainIn.fresh (p : PlainIn f rs0 ps rs) (ha : 1 ≤ f.a) (hd : (u - f.b * h) % (2 * f.a) = 0) (h0 : ∀ r ∈ rs0, r.2 ≠ h) (hp : (u, h) ∉ ps) : ((u - f.b * h) / (2 * f.a), h) ∉ rs := by
  rw [p.mem]
  rintro (z | z)
  · exact h0 _ z rfl
  · dsimp only at z
    rw [(ediv_key ha hd).mpr rfl, show u - f.b * h + f.b * h = u by omega] at z
    exact hp z
theorem PlainSo.zero : PlainSo f m 0 [] := ⟨fun r => by simp; omega, by simp, by simp⟩
/-- a row done -/
theorem PlainSo.next (s : PlainSo f m y rs0) (p : PlainIn f rs0 ps rs) (ha : 1 ≤ f.a) (y0 : 0 ≤ y) (l4 : ps.length ≤ 4) (hps : ∀ u h, (u, h) ∈ ps ↔ u * u = 4 * f.a * m + f.D * (y * y) ∧ (h = y ∨ h = -y)) : PlainSo f m (y + 1) rs := by
  refine ⟨fun r => ?_, p.nd, by have := p.len; have := s.len; omega⟩
  rw [p.mem, s.mem, hps]
  have key : (2 * f.a * r.1 + f.b * r.2) * (2 * f.a * r.1 + f.b * r.2) = 4 * f.a * m + f.D * (r.2 * r.2) ↔ f.at r.1 r.2 = m := by
    have e := Fm.at_D f r.1 r.2
    constructor
    · intro z
      have : 4 * f.a * f.at r.1 r.2 = 4 * f.a * m := by omega
      exact Int.eq_of_mul_eq_mul_left (by omega) this
    · intro z
      rw [← z]
      omega
  constructor
  · rintro (⟨h1, h2, h3⟩ | ⟨h1, h2⟩)
    · exact ⟨h1, by omega, by omega⟩
    · have e : r.2 * r.2 = y * y := by
        rcases h2 with h2 | h2
        · rw [h2]
        · rw [h2, Int.neg_mul_neg]
      rw [← e] at h1
      exact ⟨key.mp h1, by omega, by omega⟩
  · rintro ⟨h1, h2, h3⟩
    by_cases c : -y < r.2 ∧ r.2 < y
    · exact .inl ⟨h1, c.1, c.2⟩
    · have h4 : r.2 = y ∨ r.2 = -y := by omega
      have e : r.2 * r.2 = y * y := by
        rcases h4 with h4 | h4
        · rw [h4]
        · rw [h4, Int.neg_mul_neg]
      refine .inr ⟨?_, h4⟩
      rw [← e]
      exact key.mpr h1
theorem PlainSo.done (s : PlainSo f m y rs) (fo : f.ok) (y0 : 0 ≤ y) (h : 4 * f.a * m + f.D * (y * y) < 0) : WaySet f m rs := by
  refine ⟨fun r => ?_, s.nd⟩
  rw [s.mem]
  refine ⟨fun z => z.1, fun z => ⟨z, ?_⟩⟩
  have e := Fm.at_D f r.1 r.2
  have q := sq_nonneg (2 * f.a * r.1 + f.b * r.2)
  rw [z] at e
  rcases Classical.em (-y < r.2 ∧ r.2 < y) with c | c
  · exact c
  · exfalso
    have l : y * y ≤ r.2 * r.2 := sq_le (by omega)
    have k := Int.mul_le_mul_of_nonneg_left l (show 0 ≤ -f.D by have := fo.2; omega)
    rw [Int.neg_mul, Int.neg_mul] at k
    omega
end
/-- a point's size by its value -/
theorem at_small {f : Fm} {m x y : Int} (fo : f.ok) (h : f.at x y = m) : -(4 * f.c * m) ≤ x ∧ x ≤ 4 * f.c * m ∧ -(4 * f.a * m) ≤ y ∧ y ≤ 4 * f.a * m := by
  have e := Fm.at_D f x y
  rw [h] at e
  have q := sq_nonneg (2 * f.a * x + f.b * y)
  have d := fo.2
  have y2 := sq_nonneg y
  have l1 : 1 * (y * y) ≤ -f.D * (y * y) := Int.mul_le_mul_of_nonneg_right (by omega) y2
  have n1 : -f.D * (y * y) = -(f.D * (y * y)) := Int.neg_mul ..
  have ly : ∀ z : Int, -(z * z) ≤ z ∧ z ≤ z * z := fun z => by
    rcases Int.lt_trichotomy z 0 with c | c | c
    · have := QR.le_sq (show 1 ≤ -z by omega)
      rw [Int.neg_mul_neg] at this
      have := sq_nonneg z
      omega
    · subst c
      simp
    · have := QR.le_sq (show 1 ≤ z by omega)
      have := sq_nonneg z
      omega
  -- the same with the places exchanged
  have e2 : 4 * f.c * f.at x y = (2 * f.c * y + f.b * x) * (2 * f.c * y + f.b * x) - f.D * (x * x) := by
    unfold Fm.at Fm.D
    grind
  rw [h] at e2
  have q2 := sq_nonneg (2 * f.c * y + f.b * x)
  have x2 := sq_nonneg x
  have l2 : 1 * (x * x) ≤ -f.D * (x * x) := Int.mul_le_mul_of_nonneg_right (by omega) x2
  have n2 : -f.D * (x * x) = -(f.D * (x * x)) := Int.neg_mul ..
  have := ly x
  have := ly y
  omega
theorem not_mem_take {l : List Int} {i : Nat} {x : Int} (n : l.Nodup) (h : l[i]? = some x) : x ∉ l.take i := fun m => by
  obtain ⟨j, hj, e⟩ := List.mem_iff_getElem.mp m
  rw [List.length_take] at hj
  obtain ⟨hi, ei⟩ := List.getElem?_eq_some_iff.mp h
  rw [List.getElem_take] at e
  have := (List.getElem_inj n).mp (e.trans ei.symm)
  omega
theorem take_snoc {l : List Int} {i : Nat} {x : Int} (h : l[i]? = some x) : l.take (i + 1) = l.take i ++ [x] := by
  rw [List.take_add_one, h]
  rfl
/-! part m_smallf -/
/-- a small form, as this law draws it -/
structure SmallF (f : Fm) : Prop where
  ok : f.ok
  a1 : f.a ≤ 9
  b0 : -12 ≤ f.b
  b1 : f.b ≤ 12
  c1 : f.c ≤ 48
  d0 : -432 ≤ f.D
theorem SmallF.bd {f : Fm} (h : SmallF f) : Fm.bd 10 f := by
  have := h.ok.1
  have := h.ok.c_pos
  have := h.a1
  have := h.b0
  have := h.b1
  have := h.c1
  exact ⟨Bd.of (by omega) (by omega), Bd.of (by omega) (by omega), Bd.of (by omega) (by omega)⟩
theorem smallF {a b e : Int} (a0 : 1 ≤ a) (a1 : a ≤ 9) (b0 : -12 ≤ b) (b1 : b ≤ 12) (e0 : 0 ≤ e) (e1 : e ≤ 11) : SmallF ⟨a, b, b * b / (4 * a) + 1 + e⟩ := by
  have bb0 := sq_nonneg b
  have bb1 : b * b ≤ 12 * 12 := sq_le (by omega)
  have q0 : 0 ≤ b * b / (4 * a) := Int.ediv_nonneg bb0 (by omega)
  have dm := Int.mul_ediv_add_emod (b * b) (4 * a)
  have r0 := Int.emod_nonneg (b * b) (show 4 * a ≠ 0 by omega)
  have r1 := Int.emod_lt_of_pos (b * b) (show 0 < 4 * a by omega)
  have q1 : b * b / (4 * a) ≤ 36 := by
    have l := Int.mul_le_mul_of_nonneg_right a0 q0
    have e4 : 4 * a * (b * b / (4 * a)) = 4 * (a * (b * b / (4 * a))) := Int.mul_assoc ..
    omega
  generalize b * b / (4 * a) = k at *
  have ex : 4 * a * (k + 1 + e) = 4 * a * k + 4 * a + 4 * (a * e) := by grind
  have ae0 : 0 ≤ a * e := Int.mul_nonneg (by omega) e0
  have ae1 : a * e ≤ 9 * 11 := Int.mul_le_mul a1 e1 e0 (by decide)
  have hD : (⟨a, b, k + 1 + e⟩ : Fm).D = b * b - 4 * a * (k + 1 + e) := rfl
  exact ⟨⟨a0, by rw [hD]; omega⟩, a1, b0, b1, by dsimp only; omega, by rw [hD]; omega⟩
/-! part m_sortp -/
def keyOf (H : Hp) (v : V) : Int × Int := match v with
  | .ref t => match H t with
    | some (.tup [.int i, .int j]) => (i, j)
    | _ => (0, 0)
  | _ => (0, 0)
theorem keyOf_tup {H : Hp} {t : Addr} {r : Int × Int} (h : H t = some (.tup (prV r))) : keyOf H (.ref t) = r := by
  unfold keyOf
  dsimp only
  rw [h]
  rfl
theorem rows_keys {H : Hp} : ∀ {ts : List Addr} {rs : List (Int × Int)}, RowsAt H ts (rs.map prV) → (ts.map V.ref).map (keyOf H) = rs ∧ ∀ y ∈ ts.map V.ref, ∃ t, y = .ref t ∧ H t = some (.tup (prV (keyOf H y)))
  | [], [], _ => ⟨rfl, fun y h => absurd h List.not_mem_nil⟩
  | t :: ts, r :: rs, h => by
    obtain ⟨e1, e2⟩ := rows_keys (ts := ts) (rs := rs) h.2
    have k := keyOf_tup h.1
    refine ⟨by rw [List.map_cons, List.map_cons, k, e1], fun y hy => ?_⟩
    rcases List.mem_cons.mp hy with e | hy
    · subst e
      exact ⟨t, rfl, by rw [k]; exact h.1⟩
    · exact e2 y hy
  | [], _ :: _, h => h.elim
  | _ :: _, [], h => h.elim
theorem rows_of {H : Hp} : ∀ {ys : List V}, (∀ y ∈ ys, ∃ t, y = .ref t ∧ H t = some (.tup (prV (keyOf H y)))) → ∃ ts : List Addr, ys = ts.map V.ref ∧ RowsAt H ts ((ys.map (keyOf H)).map prV)
  | [], _ => ⟨[], rfl, trivial⟩
  | y :: ys, h => by
    obtain ⟨ts, e, r⟩ := rows_of fun z hz => h z (List.mem_cons_of_mem _ hz)
    obtain ⟨t, rfl, ht⟩ := h y List.mem_cons_self
    exact ⟨t :: ts, by rw [e]; rfl, ht, r⟩
/-- sorted of pairs of ints -/
theorem rd_sortP {K : PySem.W.Frag} {H : Hp} {Q : VK} {a : Addr} {ts : List Addr} {rs : List (Int × Int)} (hS : SqL K H a (ts.map V.ref)) (hR : RowsAt H ts (rs.map prV))
    (q : ∀ (ts' : List Addr) (rs' : List (Int × Int)) p, RowsAt H ts' (rs'.map prV) → rs'.Perm rs → rs'.Pairwise (fun u v => ¬ lexlt v u) → H p = none → Q (.ref p) (upd H p (.lst (ts'.map V.ref)))) : rSortedPO K [.ref a] H Q := by
  obtain ⟨e1, e2⟩ := rows_keys hR
  refine ⟨a, ts.map V.ref, keyOf H, rfl, hS, fun x hx => ?_, fun ys p hs hst hp => ?_⟩
  · obtain ⟨t, rfl, ht⟩ := e2 x hx
    exact ⟨t, rfl, ht⟩
  · obtain ⟨ts', e, r⟩ := rows_of (H := H) (ys := ys) fun y hy => e2 y (hst.perm.mem_iff.mp hy)
    subst e
    refine q ts' _ p r ?_ ?_ hp
    · have := hst.perm.map (keyOf H)
      rwa [e1] at this
    · refine List.Pairwise.map _ (fun {x y} h z => ?_) hs
      have : ltP (keyOf H) y x = true := SrtO.lexB_iff.mpr z
      rw [h] at this
      cases this
def prD (r : Int × Int) : PyData := .tuple [.int r.1, .int r.2]
def prsD (rs : List (Int × Int)) : PyData := .list (rs.map prD)
theorem prD_ok {r : Int × Int} {n : Nat} : okD (prD r) (n + 2) = true := by simp [prD, okD, okDs]
theorem prsD_ok {rs : List (Int × Int)} : okD (prsD rs) 60 = true := by
  have : okDs (rs.map prD) 59 = true := okDs_map fun r _ => prD_ok
  simp [prsD, okD, this]
theorem prD_inj {r s : Int × Int} : prD r = prD s ↔ r = s := by
  obtain ⟨a, b⟩ := r
  obtain ⟨c, d⟩ := s
  simp [prD]
theorem prsD_inj {rs ss : List (Int × Int)} : prsD rs = prsD ss ↔ rs = ss := by
  unfold prsD
  constructor
  · intro h
    exact (List.map_inj_right fun x y e => prD_inj.mp e).mp (by injection h)
  · intro h
    rw [h]
theorem pr_dp {K : PySem.W.Frag} {H : Hp} {t : Addr} {r : Int × Int} (h : H t = some (.tup (prV r))) : Dp K H (.ref t) (prD r) := .tup (SqT.of h) (.cons (.int _) (.cons (.int _) .nil))
theorem rows_dpA {K : PySem.W.Frag} {H : Hp} : ∀ {ts : List Addr} {rs : List (Int × Int)}, RowsAt H ts (rs.map prV) → DpAll K H (ts.map V.ref) (rs.map prD)
  | [], [], _ => .nil
  | _ :: _, _ :: _, h => .cons (pr_dp h.1) (rows_dpA h.2)
  | [], _ :: _, h => h.elim
  | _ :: _, [], h => h.elim
section
variable {K : PySem.W.Frag} {H : Hp} {Q : VK} {a b t : Addr} {ts us : List Addr} {rs ss : List (Int × Int)} {r : Int × Int}
theorem rows_dp (hS : SqL K H a (ts.map V.ref)) (hR : RowsAt H ts (rs.map prV)) : Dp K H (.ref a) (prsD rs) := .lst hS (rows_dpA hR)
theorem rd_eqPrs (h1 : Dp K H (.ref a) (prsD rs)) (h2 : Dp K H (.ref b) (prsD ss)) (q : Q (.bl (decide (rs = ss))) H) : rEqD K (.ref a) (.ref b) H Q := by
  refine rd_eqD h1 h2 (okD_shaped prsD_ok) (okD_shaped prsD_ok) ?_
  rw [okD_dec prsD_ok prsD_ok, decide_eq_decide.mpr prsD_inj]
  exact q
theorem rd_nePrs (h1 : Dp K H (.ref a) (prsD rs)) (h2 : Dp K H (.ref b) (prsD ss)) (q : Q (.bl (!decide (rs = ss))) H) : rNeD K (.ref a) (.ref b) H Q := by
  refine rd_neD h1 h2 (okD_shaped prsD_ok) (okD_shaped prsD_ok) ?_
  rw [okD_dec prsD_ok prsD_ok, decide_eq_decide.mpr prsD_inj]
  exact q
theorem any_pr : (rs.map prD).any (fun z => PyData.eqv z (prD r)) = decide (r ∈ rs) := by
  rw [Bool.eq_iff_iff, List.any_eq_true, decide_eq_true_iff]
  constructor
  · rintro ⟨z, hz, e⟩
    obtain ⟨s, hs, rfl⟩ := List.mem_map.mp hz
    rw [okD_dec (prD_ok (n := 58)) (prD_ok (n := 58)), decide_eq_true_iff, prD_inj] at e
    rw [← e]
    exact hs
  · intro h
    refine ⟨prD r, List.mem_map.mpr ⟨r, h, rfl⟩, ?_⟩
    rw [okD_dec (prD_ok (n := 58)) (prD_ok (n := 58))]
    exact decide_eq_true rfl
theorem rd_ninPr (hS : SqL K H a (ts.map V.ref)) (hR : RowsAt H ts (rs.map prV)) (hp : H t = some (.tup (prV r))) (q : Q (.bl (!decide (r ∈ rs))) H) : rNotInD K (.ref t) (.ref a) H Q := by
  refine ⟨prD r, rs.map prD, pr_dp hp, rows_dp hS hR, okD_shaped (prD_ok (n := 58)), okD_shaped prsD_ok, ?_⟩
  rw [any_pr]
  exact q
theorem rd_inPr (hS : SqL K H a (ts.map V.ref)) (hR : RowsAt H ts (rs.map prV)) (hp : H t = some (.tup (prV r))) (q : Q (.bl (decide (r ∈ rs))) H) : rInD K (.ref t) (.ref a) H Q := by
  refine ⟨prD r, rs.map prD, pr_dp hp, rows_dp hS hR, okD_shaped (prD_ok (n := 58)), okD_shaped prsD_ok, ?_⟩
  rw [any_pr]
  exact q
end
/-! part m_ways2 -/
theorem red_small {f : Fm} (h : f.red) (fo : f.ok) (d : -5000 ≤ f.D) : f.a ≤ 40 ∧ -40 ≤ f.b ∧ f.b ≤ 40 ∧ f.c ≤ 2000 := by
  obtain ⟨o1, o2⟩ := fo
  obtain ⟨⟨h1, h2⟩, h3, _⟩ := h
  have a1 : f.b * f.b ≤ f.a * f.a := sq_le (by omega)
  have a2 : f.a * f.a ≤ f.a * f.c := Int.mul_le_mul_of_nonneg_left h3 (by omega)
  have e2 : 4 * f.a * f.c = 4 * (f.a * f.c) := Int.mul_assoc ..
  have hD : f.b * f.b - 4 * f.a * f.c = f.D := rfl
  have a40 : f.a ≤ 40 := by
    rcases Int.lt_or_le f.a 41 with z | z
    · omega
    · exfalso
      have : 41 * 41 ≤ f.a * f.a := sq_le (x := 41) (by omega)
      omega
  have bb : f.b * f.b ≤ 40 * 40 := sq_le (by omega)
  have ac : 1 * f.c ≤ f.a * f.c := Int.mul_le_mul_of_nonneg_right o1 (by omega)
  exact ⟨a40, by omega, by omega, by omega⟩
theorem red_bd {f : Fm} (h : f.red) (fo : f.ok) (d : -5000 ≤ f.D) : Fm.bd 100 f := by
  obtain ⟨a1, a2, a3, a4⟩ := red_small h fo d
  have o := fo.1
  have c := fo.c_pos
  have lim : (2000 : Int) < 2 ^ 100 := by decide
  exact ⟨Bd.of (by omega) (by omega), Bd.of (by omega) (by omega), Bd.of (by omega) (by omega)⟩
theorem bd_of_le {n k : Nat} {c x m : Int} (hc : Bd n c) (hm : Bd k m) (h : -(4 * c * m) ≤ x ∧ x ≤ 4 * c * m) : Bd (n + k + 2) x := by
  have b4 : Bd 2 4 → True := fun _ => trivial
  have e : Bd (2 + n + k) (4 * c * m) := by
    have h4 : (4 : Int).natAbs ≤ 2 ^ 2 := by decide
    refine ⟨?_⟩
    have hc' := hc.1
    have hm' := hm.1
    rw [Int.natAbs_mul, Int.natAbs_mul]
    have l1 : (4 : Int).natAbs * c.natAbs ≤ 2 ^ 2 * c.natAbs := Nat.mul_le_mul_right _ h4
    rcases Nat.eq_zero_or_pos m.natAbs with z | z
    · rw [z, Nat.mul_zero]
      exact Nat.pow_pos (by decide)
    · have l2 : (4 : Int).natAbs * c.natAbs < 2 ^ 2 * 2 ^ n := Nat.lt_of_le_of_lt l1 (Nat.mul_lt_mul_of_pos_left hc' (by decide))
      have l3 := Nat.mul_lt_mul_of_lt_of_le l2 (Nat.le_of_lt hm') (Nat.pow_pos (by decide))
      rw [Nat.pow_add, Nat.pow_add]
      exact l3
  refine Bd.mono (n := 2 + n + k) ⟨?_⟩ (by omega)
  have := e.1
  omega
/-- the points of the forms on the way are not too great -/
theorem back_bd {f : Fm} {m : Int} {r : Int × Int} (fo : f.ok) (hb : Fm.bd 200 f) (hm : Bd 20 m) (h : (f.turn (stepsF f)).at r.1 r.2 = m) (i : Nat) (hi : i ≤ (stepsF f).length) : Bd 400 (backP r ((stepsF f).drop i)).1 ∧ Bd 400 (backP r ((stepsF f).drop i)).2 := by
  obtain ⟨_, g2⟩ := stepsF_bd f.mu f fo (Nat.le_refl _) (Fm.bd_lo hb)
  have gb := g2 i hi
  have go := fo.turn ((stepsF f).take i)
  have e : (f.turn ((stepsF f).take i)).at (backP r ((stepsF f).drop i)).1 (backP r ((stepsF f).drop i)).2 = m := by
    rw [← Fm.turn_at]
    have : (f.turn ((stepsF f).take i)).turn ((stepsF f).drop i) = f.turn (stepsF f) := by
      unfold Fm.turn
      rw [← List.foldl_append, List.take_append_drop]
    rw [this]
    exact h
  obtain ⟨x0, x1, y0, y1⟩ := at_small go e
  exact ⟨(bd_of_le gb.2.2 hm ⟨x0, x1⟩).mono (by omega), (bd_of_le gb.1 hm ⟨y0, y1⟩).mono (by omega)⟩
/-! part m_cut -/
theorem sIx_nn {n d : Nat} {i : Int} (h : 0 ≤ i) : HT.sIx n d (some i) = min i.toNat n := by
  unfold HT.sIx
  simp
  omega
theorem cut_map {α : Type} {f : α → V} {l : List α} {lo hi : Option Int} : ∃ m : List α, cutV (l.map f) lo hi = m.map f ∧ (∀ x ∈ m, x ∈ l) := by
  refine ⟨(l.drop (HT.sIx l.length 0 lo)).take (HT.sIx l.length l.length hi - HT.sIx l.length 0 lo), ?_, fun x hx => List.mem_of_mem_drop (List.mem_of_mem_take hx)⟩
  unfold cutV
  rw [List.length_map, List.map_take, List.map_drop]
theorem cut_len {xs : List V} {lo hi : Int} (h0 : 0 ≤ lo) (h : lo ≤ hi) : ((cutV xs (some lo) (some hi)).length : Int) ≤ hi - lo := by
  unfold cutV
  rw [sIx_nn h0, sIx_nn (by omega), List.length_take, List.length_drop]
  omega
theorem cut_last {xs : List V} {y : V} : cutV (xs ++ [y]) none (some (-1)) = xs := by
  have e : cutV (xs ++ [y]) none (some (-1)) = (xs ++ [y]).take xs.length := by
    unfold cutV
    rw [show HT.sIx (xs ++ [y]).length 0 none = 0 from rfl, List.drop_zero, show HT.sIx (xs ++ [y]).length (xs ++ [y]).length (some (-1)) = xs.length by
      unfold HT.sIx
      simp
      omega]
    simp
  rw [e]
  simp
/-! part m_path -/
/-- what a comprehension of draws has made -/
def PathOk (r : Int) (i : Nat) (ys : List V) : Prop := ∃ ks : List Int, ys = ks.map V.int ∧ ks.length = i ∧ ∀ k ∈ ks, -r ≤ k ∧ k ≤ r
theorem PathOk.nil {r : Int} : PathOk r 0 [] := ⟨[], rfl, rfl, fun k hk => absurd hk List.not_mem_nil⟩
theorem PathOk.snoc {r : Int} {i : Nat} {ks : List Int} {z : Int} (h1 : ks.length = i) (h2 : ∀ k ∈ ks, -r ≤ k ∧ k ≤ r) (hz : -r ≤ z ∧ z ≤ r) : PathOk r (i + 1) (ks.map V.int ++ [.int z]) :=
  ⟨ks ++ [z], by rw [List.map_append]; rfl, by rw [List.length_append]; simp [h1], fun k hk => by
    rcases List.mem_append.mp hk with hk | hk
    · exact h2 k hk
    · rw [List.mem_singleton.mp hk]
      exact hz⟩
/-! part m_k95 -/
theorem cut_mapL {α : Type} {f : α → V} {l : List α} {lo hi : Option Int} : ∃ m : List α, cutV (l.map f) lo hi = m.map f ∧ (∀ x ∈ m, x ∈ l) ∧ m.length ≤ l.length := by
  refine ⟨(l.drop (HT.sIx l.length 0 lo)).take (HT.sIx l.length l.length hi - HT.sIx l.length 0 lo), ?_, fun x hx => List.mem_of_mem_drop (List.mem_of_mem_take hx), ?_⟩
  · unfold cutV
    rw [List.length_map, List.map_take, List.map_drop]
  · exact Nat.le_trans (List.length_take_le' ..) (by rw [List.length_drop]; omega)
theorem Fm.st_bdB {n j : Nat} {f : Fm} {k : Int} (hb : Fm.bd n f) (hk : Bd j k) : Fm.bd (n + 2 * j + 5) (f.st k) := by
  obtain ⟨ba, bb, bc⟩ := hb
  unfold Fm.st
  split
  · exact ⟨bc.mono (by omega), bb.neg.mono (by omega), ba.mono (by omega)⟩
  · have b2 : Bd 2 2 := ⟨by decide⟩
    refine ⟨ba.mono (by omega), (Bd.add bb ((b2.mul ba).mul hk)).mono ?_, (Bd.add (Bd.add ((ba.mul hk).mul hk) (bb.mul hk)) bc).mono ?_⟩
    · simp only [Nat.max_def]
      split <;> omega
    · simp only [Nat.max_def]
      split <;> split <;> omega
/-- a path that keeps the numbers of a form small enough -/
structure PathSm (f : Fm) (ks : List Int) : Prop where
  bds : ∀ i, i ≤ ks.length → Fm.bd 200 (f.turn (ks.take i))
  kb : ∀ k ∈ ks, Bd 60 k
  len : ks.length ≤ 7
theorem PathSm.small {f : Fm} {ks : List Int} (hb : Fm.bd 10 f) (hk : ∀ k ∈ ks, Bd 3 k) (hl : ks.length ≤ 4) : PathSm f ks := ⟨fun i hi => (Fm.turn_bds hb hk i hi).mono (by omega), fun k h => (hk k h).mono (by decide), by omega⟩
theorem PathSm.great {f : Fm} {ks : List Int} {k : Int} (hb : Fm.bd 10 f) (hg : Bd 52 k) (hk : ∀ k ∈ ks, Bd 3 k) (hl : ks.length ≤ 4) : PathSm f (k :: 0 :: ks) := by
  have b1 := Fm.st_bdB hb hg
  have b0 : Bd 0 0 := ⟨by decide⟩
  have b2 := Fm.st_bdB b1 b0
  refine ⟨fun i hi => ?_, fun j hj => ?_, by simp only [List.length_cons]; omega⟩
  · match i, hi with
    | 0, _ => exact hb.mono (by decide)
    | 1, _ => exact b1.mono (by decide)
    | i + 2, hi =>
      simp only [List.length_cons] at hi
      exact (Fm.turn_bds b2 hk i (by omega)).mono (by omega)
  · rcases List.mem_cons.mp hj with rfl | hj
    · exact hg.mono (by decide)
    · rcases List.mem_cons.mp hj with rfl | hj
      · exact b0.mono (by decide)
      · exact (hk j hj).mono (by decide)
theorem PathSm.all {f : Fm} {ks : List Int} (h : PathSm f ks) : Fm.bd 200 (f.turn ks) := by
  have := h.bds ks.length (Nat.le_refl _)
  rwa [List.take_length] at this
theorem at_nn {f : Fm} (fo : f.ok) (x y : Int) : 0 ≤ f.at x y := by
  have e := Fm.at_D f x y
  have q := sq_nonneg (2 * f.a * x + f.b * y)
  have l : 0 ≤ -f.D * (y * y) := Int.mul_nonneg (by have := fo.2; omega) (sq_nonneg y)
  rw [Int.neg_mul] at l
  have p : 0 ≤ 4 * f.a * f.at x y := by omega
  rcases Int.lt_or_le (f.at x y) 0 with z | z
  · exfalso
    have := Int.mul_lt_mul_of_pos_left z (show 0 < 4 * f.a by have := fo.1; omega)
    omega
  · exact z
theorem at_neg {f : Fm} (x y : Int) : f.at (-x) (-y) = f.at x y := by
  unfold Fm.at
  grind
theorem at_le {a b c x y : Int} (fo : (⟨a, b, c⟩ : Fm).ok) (a1 : a ≤ 9) (b0 : -12 ≤ b) (b1 : b ≤ 12) (c1 : c ≤ 48) (hx : -4 ≤ x ∧ x ≤ 4) (hy : -4 ≤ y ∧ y ≤ 4) : (⟨a, b, c⟩ : Fm).at x y ≤ 1200 := by
  have ha := fo.1
  have hc := fo.c_pos
  dsimp only at ha hc
  have xx : x * x ≤ 4 * 4 := sq_le (by omega)
  have yy : y * y ≤ 4 * 4 := sq_le (by omega)
  have x0 := sq_nonneg x
  have y0 := sq_nonneg y
  have e1 : a * (x * x) ≤ 9 * 16 := Int.mul_le_mul a1 (by omega) x0 (by decide)
  have e3 : c * (y * y) ≤ 48 * 16 := Int.mul_le_mul c1 (by omega) y0 (by decide)
  have q1 := sq_nonneg (x - y)
  have q2 := sq_nonneg (x + y)
  have g1 : (x - y) * (x - y) = x * x + y * y - 2 * (x * y) := by grind
  have g2 : (x + y) * (x + y) = x * x + y * y + 2 * (x * y) := by grind
  have xy : (x * y).natAbs ≤ 16 := by omega
  have bxy : b * (x * y) ≤ 12 * 16 := by
    have h1 : (b * (x * y)).natAbs ≤ 12 * 16 := by
      rw [Int.natAbs_mul]
      exact Nat.mul_le_mul (by omega) xy
    omega
  have ex : (⟨a, b, c⟩ : Fm).at x y = a * (x * x) + b * (x * y) + c * (y * y) := by
    unfold Fm.at
    dsimp only
    grind
  omega
/-- 0 only at the middle -/
theorem at_zero {f : Fm} (fo : f.ok) {x y : Int} (h : f.at x y = 0) : x = 0 ∧ y = 0 := by
  obtain ⟨h1, h2, h3, h4⟩ := at_small fo h
  omega
theorem WaysOf.zero {f : Fm} {m : Int} {rs : List (Int × Int)} (fo : f.ok) (h : WaysOf f m rs) : rs = [(0, 0)] ↔ m = 0 := by
  have a0 : f.at 0 0 = 0 := by unfold Fm.at; simp
  constructor
  · intro e
    have := (h.mem (0, 0)).mp (by rw [e]; exact List.mem_cons_self)
    rw [← this]
    exact a0
  · intro e
    subst e
    refine h.uniq ⟨fun r => ?_, List.pairwise_singleton ..⟩
    rw [List.mem_singleton]
    constructor
    · rintro rfl
      exact a0
    · intro z
      obtain ⟨p, q⟩ := at_zero fo z
      exact Prod.ext p q
/-! part m_k98 -/
open Classical in
/-- the number of ways -/
noncomputable def cnt (f : Fm) (m : Int) : Nat := if h : ∃ rs, WaySet f m rs then h.choose.length else 0
theorem cnt_eq {f : Fm} {m : Int} {rs : List (Int × Int)} (h : WaySet f m rs) : cnt f m = rs.length := by
  unfold cnt
  have e : ∃ rs, WaySet f m rs := ⟨rs, h⟩
  rw [dif_pos e]
  exact e.choose_spec.len h
theorem WaySet.fwd {f : Fm} {m : Int} {ks : List Int} {rs : List (Int × Int)} (h : WaySet f m rs) : WaySet (f.turn ks) m (rs.map fun r => fwdP r ks) := by
  refine ⟨fun r => ?_, List.Pairwise.map _ (fun {a b} n e => n ?_) h.nd⟩
  · rw [List.mem_map]
    constructor
    · rintro ⟨q, hq, rfl⟩
      rw [h.mem] at hq
      rw [Fm.turn_at]
      show f.at (backP (fwdP q ks) ks).1 (backP (fwdP q ks) ks).2 = m
      rw [back_fwd]
      exact hq
    · intro hr
      rw [Fm.turn_at] at hr
      exact ⟨backP r ks, (h.mem _).mpr hr, fwd_back ks r⟩
  · have := congrArg (fun q => backP q ks) e
    simpa [back_fwd] using this
theorem cnt_turn {f : Fm} {m : Int} {ks : List Int} : cnt (f.turn ks) m = cnt f m := by
  by_cases h : ∃ rs, WaySet f m rs
  · obtain ⟨rs, h⟩ := h
    rw [cnt_eq h, cnt_eq h.fwd, List.length_map]
  · have k : ¬ ∃ rs, WaySet (f.turn ks) m rs := fun ⟨rs, z⟩ => h ⟨_, z.back⟩
    unfold cnt
    rw [dif_neg h, dif_neg k]
def mirF (f : Fm) : Fm := ⟨f.a, -f.b, f.c⟩
theorem mir_at {f : Fm} {x y : Int} : (mirF f).at x y = f.at x (-y) := by
  unfold mirF Fm.at
  grind
theorem mir_mir (f : Fm) : mirF (mirF f) = f := by
  unfold mirF
  simp
theorem WaySet.mir {f : Fm} {m : Int} {rs : List (Int × Int)} (h : WaySet f m rs) : WaySet (mirF f) m (rs.map fun r => (r.1, -r.2)) := by
  refine ⟨fun r => ?_, List.Pairwise.map _ (fun {a b} n e => n ?_) h.nd⟩
  · rw [List.mem_map, mir_at]
    constructor
    · rintro ⟨q, hq, rfl⟩
      rw [h.mem] at hq
      simpa using hq
    · intro hr
      exact ⟨(r.1, -r.2), (h.mem _).mpr hr, by simp⟩
  · obtain ⟨a1, a2⟩ := a
    obtain ⟨b1, b2⟩ := b
    simp only [Prod.mk.injEq] at e ⊢
    omega
theorem cnt_mir {f : Fm} {m : Int} : cnt (mirF f) m = cnt f m := by
  by_cases h : ∃ rs, WaySet f m rs
  · obtain ⟨rs, h⟩ := h
    rw [cnt_eq h, cnt_eq h.mir, List.length_map]
  · have k : ¬ ∃ rs, WaySet (mirF f) m rs := fun ⟨rs, z⟩ => h ⟨_, by have := z.mir; rwa [mir_mir] at this⟩
    unfold cnt
    rw [dif_neg h, dif_neg k]
noncomputable def cntL (f : Fm) (n : Nat) : List Int := (List.range n).map fun m : Nat => (cnt f m : Int)
theorem cntL_turn {f : Fm} {n : Nat} {ks : List Int} : cntL (f.turn ks) n = cntL f n := by
  unfold cntL
  exact List.map_congr_left fun m _ => by rw [cnt_turn]
theorem cntL_mir {f : Fm} {n : Nat} : cntL (mirF f) n = cntL f n := by
  unfold cntL
  exact List.map_congr_left fun m _ => by rw [cnt_mir]
theorem cntL_succ {f : Fm} {n : Nat} : cntL f (n + 1) = cntL f n ++ [(cnt f n : Int)] := by
  unfold cntL
  rw [List.range_succ, List.map_append]
  rfl
theorem cntL_len {f : Fm} {n : Nat} : (cntL f n).length = n := by simp [cntL]
theorem cntL_take {f : Fm} {n k : Nat} (h : k ≤ n) : (cntL f n).take k = cntL f k := by
  unfold cntL
  rw [← List.map_take, List.take_range, Nat.min_eq_left h]
/-- all points with at most this value -/
structure PtSet (f : Fm) (M : Int) (P : List (Int × Int)) : Prop where
  mem : ∀ r, r ∈ P ↔ f.at r.1 r.2 ≤ M
  nd : P.Nodup
theorem PtSet.way {f : Fm} {M m : Int} {P : List (Int × Int)} (h : PtSet f M P) (hm : m ≤ M) : WaySet f m (P.filter fun r => decide (f.at r.1 r.2 = m)) := ⟨fun r => by
  rw [List.mem_filter, h.mem, decide_eq_true_iff]
  omega, h.nd.filter _⟩
theorem sum_lt {f : Fm} {P : List (Int × Int)} (fo : f.ok) : ∀ n : Nat, ((List.range n).map fun m : Nat => ((P.filter fun r => decide (f.at r.1 r.2 = m)).length : Int)).sum = ((P.filter fun r => decide (f.at r.1 r.2 < n)).length : Int)
  | 0 => by
    have : P.filter (fun r => decide (f.at r.1 r.2 < ((0 : Nat) : Int))) = [] := List.filter_eq_nil_iff.mpr fun r _ => by
      have := at_nn fo r.1 r.2
      simp
      omega
    rw [this]
    rfl
  | n + 1 => by
    rw [List.range_succ, List.map_append, List.sum_append, sum_lt fo n]
    simp only [List.map_cons, List.map_nil, List.sum_cons, List.sum_nil, Int.add_zero]
    rw [← List.countP_eq_length_filter, ← List.countP_eq_length_filter, ← List.countP_eq_length_filter]
    clear fo
    have eN : ((n + 1 : Nat) : Int) = (n : Int) + 1 := by omega
    rw [eN]
    induction P with
    | nil => simp
    | cons r P ih =>
      rw [List.countP_cons, List.countP_cons, List.countP_cons]
      by_cases c1 : f.at r.1 r.2 < (n : Int)
      · rw [if_pos (show decide (f.at r.1 r.2 < (n : Int)) = true from decide_eq_true c1), if_neg (show ¬ decide (f.at r.1 r.2 = (n : Int)) = true by rw [decide_eq_true_iff]; omega), if_pos (show decide (f.at r.1 r.2 < (n : Int) + 1) = true from decide_eq_true (by omega))]
        omega
      · by_cases c2 : f.at r.1 r.2 = (n : Int)
        · rw [if_neg (show ¬ decide (f.at r.1 r.2 < (n : Int)) = true by rw [decide_eq_true_iff]; omega), if_pos (show decide (f.at r.1 r.2 = (n : Int)) = true from decide_eq_true c2), if_pos (show decide (f.at r.1 r.2 < (n : Int) + 1) = true from decide_eq_true (by omega))]
          omega
        · rw [if_neg (show ¬ decide (f.at r.1 r.2 < (n : Int)) = true by rw [decide_eq_true_iff]; omega), if_neg (show ¬ decide (f.at r.1 r.2 = (n : Int)) = true by rw [decide_eq_true_iff]; exact c2), if_neg (show ¬ decide (f.at r.1 r.2 < (n : Int) + 1) = true by rw [decide_eq_true_iff]; omega)]
          omega
theorem PtSet.sum {f : Fm} {n : Nat} {P : List (Int × Int)} (fo : f.ok) (h : PtSet f n P) : (cntL f (n + 1)).sum = (P.length : Int) := by
  have e1 : cntL f (n + 1) = (List.range (n + 1)).map fun m : Nat => ((P.filter fun r => decide (f.at r.1 r.2 = m)).length : Int) := by
    unfold cntL
    exact List.map_congr_left fun m hm => by
      have := List.mem_range.mp hm
      rw [cnt_eq (h.way (m := m) (by omega))]
  rw [e1, sum_lt fo]
  have e2 : P.filter (fun r => decide (f.at r.1 r.2 < ((n + 1 : Nat) : Int))) = P := List.filter_eq_self.mpr fun r hr => by
    have := (h.mem r).mp hr
    rw [decide_eq_true_iff]
    omega
  rw [e2]
/-! ### the points counted -/
structure PtSo (f : Fm) (M y : Int) (P : List (Int × Int)) : Prop where
  mem : ∀ r, r ∈ P ↔ f.at r.1 r.2 ≤ M ∧ -y < r.2 ∧ r.2 < y
  nd : P.Nodup
structure PtIn (f : Fm) (M : Int) (P0 : List (Int × Int)) (hs : List Int) (P : List (Int × Int)) : Prop where
  mem : ∀ r, r ∈ P ↔ r ∈ P0 ∨ (r.2 ∈ hs ∧ f.at r.1 r.2 ≤ M)
  nd : P.Nodup
structure PtRow (f : Fm) (M : Int) (P0 : List (Int × Int)) (h x0 x1 : Int) (P : List (Int × Int)) : Prop where
  mem : ∀ r, r ∈ P ↔ r ∈ P0 ∨ (r.2 = h ∧ x0 ≤ r.1 ∧ r.1 < x1 ∧ f.at r.1 r.2 ≤ M)
  nd : P.Nodup
section
variable {f : Fm} {M y h x0 x1 : Int} {P P0 P1 : List (Int × Int)} {hs : List Int}
theorem PtSo.zero : PtSo f M 0 [] := ⟨fun r => by simp; omega, by simp⟩
theorem PtIn.nil (n : P0.Nodup) : PtIn f M P0 [] P0 := ⟨fun r => by simp, n⟩
theorem PtRow.nil (n : P0.Nodup) : PtRow f M P0 h x0 x0 P0 := ⟨fun r => by
  constructor
  · exact .inl
  · rintro (z | ⟨_, a, b, _⟩)
    · exact z
    · omega, n⟩
theorem PtRow.put (p : PtRow f M P0 h x0 x1 P) (l : x0 ≤ x1) (hv : f.at x1 h ≤ M) (h0 : ∀ r ∈ P0, r.2 ≠ h) : PtRow f M P0 h x0 (x1 + 1) (P ++ [(x1, h)]) := by
  refine ⟨fun r => ?_, List.nodup_append.mpr ⟨p.nd, by simp, fun a ha b hb e => ?_⟩⟩
  · rw [List.mem_append, p.mem, List.mem_singleton, or_assoc]
    refine or_congr Iff.rfl ?_
    constructor
    · rintro (⟨a, b, c, d⟩ | rfl)
      · exact ⟨a, b, by omega, d⟩
      · exact ⟨rfl, l, by dsimp only; omega, hv⟩
    · rintro ⟨a, b, c, d⟩
      rcases Int.lt_or_eq_of_le (show r.1 ≤ x1 by omega) with z | z
      · exact .inl ⟨a, b, z, d⟩
      · exact .inr (Prod.ext z a)
  · rw [List.mem_singleton.mp hb] at e
    subst e
    rcases (p.mem _).mp ha with z | ⟨_, _, z, _⟩
    · exact h0 _ z rfl
    · dsimp only at z
      omega
theorem PtRow.skip (p : PtRow f M P0 h x0 x1 P) (hv : ¬ f.at x1 h ≤ M) : PtRow f M P0 h x0 (x1 + 1) P := by
  refine ⟨fun r => ?_, p.nd⟩
  rw [p.mem]
  refine or_congr Iff.rfl ⟨fun ⟨a, b, c, d⟩ => ⟨a, b, by omega, d⟩, fun ⟨a, b, c, d⟩ => ?_⟩
  rcases Int.lt_or_eq_of_le (show r.1 ≤ x1 by omega) with z | z
  · exact ⟨a, b, z, d⟩
  · rw [a, z] at d
    exact absurd d hv
/-- all points of a row are in the stretch -/
theorem row_in (fo : f.ok) (hM : M ≤ 120) {x mid : Int} (hm : mid = (-f.b * h) / (2 * f.a)) (hv : f.at x h ≤ M) : mid - 13 ≤ x ∧ x < mid + 15 := by
  have ha := fo.1
  have e := Fm.at_D f x h
  have l1 : 4 * f.a * f.at x h ≤ 4 * f.a * M := Int.mul_le_mul_of_nonneg_left hv (by omega)
  have l2 : 4 * f.a * M ≤ 4 * f.a * 120 := Int.mul_le_mul_of_nonneg_left hM (by omega)
  have l3 : 0 ≤ -f.D * (h * h) := Int.mul_nonneg (by have := fo.2; omega) (sq_nonneg h)
  rw [Int.neg_mul] at l3
  have dm := Int.mul_ediv_add_emod (-f.b * h) (2 * f.a)
  have r0 := Int.emod_nonneg (-f.b * h) (show 2 * f.a ≠ 0 by omega)
  have r1 := Int.emod_lt_of_pos (-f.b * h) (show 0 < 2 * f.a by omega)
  rw [← hm] at dm
  rw [Int.neg_mul] at dm r0 r1
  have aa : 784 * f.a ≤ 784 * (f.a * f.a) := by
    have := QR.le_sq ha
    omega
  have sq : ∀ z : Int, 28 * f.a ≤ z ∨ z ≤ -(28 * f.a) → 784 * (f.a * f.a) ≤ z * z := fun z hz => by
    have k : (28 * f.a) * (28 * f.a) ≤ z * z := sq_le (by omega)
    have ek : (28 * f.a) * (28 * f.a) = 784 * (f.a * f.a) := by grind
    omega
  generalize hz : 2 * f.a * x + f.b * h = z at *
  have no : ¬ (28 * f.a ≤ z ∨ z ≤ -(28 * f.a)) := fun c => by
    have := sq z c
    omega
  have x1 : mid - 13 ≤ x := by
    rcases Int.lt_or_le x (mid - 13) with c | c
    · exfalso
      have k : 2 * f.a * x ≤ 2 * f.a * (mid - 14) := Int.mul_le_mul_of_nonneg_left (by omega) (by omega)
      have ek : 2 * f.a * (mid - 14) = 2 * f.a * mid - 28 * f.a := by grind
      omega
    · exact c
  refine ⟨x1, ?_⟩
  rcases Int.lt_or_le x (mid + 15) with c | c
  · exact c
  · exfalso
    have k : 2 * f.a * (mid + 15) ≤ 2 * f.a * x := Int.mul_le_mul_of_nonneg_left c (by omega)
    have ek : 2 * f.a * (mid + 15) = 2 * f.a * mid + 30 * f.a := by grind
    omega
theorem PtIn.row (p : PtIn f M P0 hs P1) (q : PtRow f M P1 h x0 x1 P) (hin : ∀ x, f.at x h ≤ M → x0 ≤ x ∧ x < x1) : PtIn f M P0 (hs ++ [h]) P := by
  refine ⟨fun r => ?_, q.nd⟩
  rw [q.mem, p.mem, List.mem_append, List.mem_singleton]
  constructor
  · rintro ((z | ⟨a, b⟩) | ⟨a, b, c, d⟩)
    · exact .inl z
    · exact .inr ⟨.inl a, b⟩
    · exact .inr ⟨.inr a, d⟩
  · rintro (z | ⟨a | a, b⟩)
    · exact .inl (.inl z)
    · exact .inl (.inr ⟨a, b⟩)
    · rw [a] at b
      obtain ⟨k1, k2⟩ := hin r.1 b
      exact .inr ⟨a, k1, k2, by rw [a]; exact b⟩
theorem PtSo.next (s : PtSo f M y P0) (p : PtIn f M P0 hs P) (y0 : 0 ≤ y) (hh : ∀ h, h ∈ hs ↔ h = y ∨ h = -y) : PtSo f M (y + 1) P := by
  refine ⟨fun r => ?_, p.nd⟩
  rw [p.mem, s.mem, hh]
  constructor
  · rintro (⟨a, b, c⟩ | ⟨a, b⟩)
    · exact ⟨a, by omega, by omega⟩
    · exact ⟨b, by omega, by omega⟩
  · rintro ⟨a, b, c⟩
    by_cases k : -y < r.2 ∧ r.2 < y
    · exact .inl ⟨a, k.1, k.2⟩
    · exact .inr ⟨by omega, a⟩
theorem PtSo.done (s : PtSo f M y P) (fo : f.ok) (y0 : 0 ≤ y) (h : 4 * f.a * M + f.D * (y * y) < 0) : PtSet f M P := by
  refine ⟨fun r => ?_, s.nd⟩
  rw [s.mem]
  refine ⟨fun z => z.1, fun z => ⟨z, ?_⟩⟩
  have e := Fm.at_D f r.1 r.2
  have q := sq_nonneg (2 * f.a * r.1 + f.b * r.2)
  have l1 : 4 * f.a * f.at r.1 r.2 ≤ 4 * f.a * M := Int.mul_le_mul_of_nonneg_left z (by have := fo.1; omega)
  rcases Classical.em (-y < r.2 ∧ r.2 < y) with c | c
  · exact c
  · exfalso
    have l : y * y ≤ r.2 * r.2 := sq_le (by omega)
    have k := Int.mul_le_mul_of_nonneg_left l (show 0 ≤ -f.D by have := fo.2; omega)
    rw [Int.neg_mul, Int.neg_mul] at k
    omega
end
theorem back_bdP {f : Fm} {m : Int} {ks : List Int} {r : Int × Int} (fo : f.ok) (pk : PathSm f ks) (hm : Bd 20 m) (h : (f.turn ks).at r.1 r.2 = m) (i : Nat) (hi : i ≤ ks.length) : Bd 400 (backP r (ks.drop i)).1 ∧ Bd 400 (backP r (ks.drop i)).2 := by
  have gb := pk.bds i hi
  have go := fo.turn (ks.take i)
  have e : (f.turn (ks.take i)).at (backP r (ks.drop i)).1 (backP r (ks.drop i)).2 = m := by
    rw [← Fm.turn_at]
    have : (f.turn (ks.take i)).turn (ks.drop i) = f.turn ks := by
      unfold Fm.turn
      rw [← List.foldl_append, List.take_append_drop]
    rw [this]
    exact h
  obtain ⟨x0, x1, y0, y1⟩ := at_small go e
  exact ⟨(bd_of_le gb.2.2 hm ⟨x0, x1⟩).mono (by omega), (bd_of_le gb.1 hm ⟨y0, y1⟩).mono (by omega)⟩
theorem cnt_zero {f : Fm} (fo : f.ok) : cnt f 0 = 1 := by
  have h : WaySet f 0 [(0, 0)] := ⟨fun r => by
    rw [List.mem_singleton]
    constructor
    · rintro rfl
      unfold Fm.at
      simp
    · intro z
      obtain ⟨p, q⟩ := at_zero fo z
      exact Prod.ext p q, by simp⟩
  rw [cnt_eq h]
  rfl
theorem SmallF.mir {f : Fm} (h : SmallF f) : (mirF f).ok ∧ (mirF f).D = f.D ∧ Fm.bd 10 (mirF f) := by
  have hD : (mirF f).D = f.D := by
    unfold mirF Fm.D
    simp only [Int.neg_mul_neg]
  obtain ⟨ba, bb, bc⟩ := h.bd
  exact ⟨⟨h.ok.1, by rw [hD]; exact h.ok.2⟩, hD, ba, bb.neg, bc⟩
theorem cut_take {xs : List V} {j : Int} (h : 0 ≤ j) : cutV xs none (some j) = xs.take j.toNat := by
  unfold cutV
  rw [show HT.sIx xs.length 0 none = 0 from rfl, List.drop_zero, sIx_nn h, Nat.sub_zero, ← List.take_eq_take_min]
theorem cntL_at0 {f : Fm} {n : Nat} (fo : f.ok) : atI ((cntL f (n + 1) ++ [9]).map V.int) 0 = some (.int 1) := by
  show atI _ ((0 : Nat) : Int) = _
  refine atI_nat ?_
  unfold cntL
  rw [List.range_succ_eq_map]
  simp [cnt_zero fo]
/-! part m_sidestep -/
theorem side_step {lo hi m : Int} (h0 : 0 ≤ lo) (h1 : hi - lo > 1) (hm : m = (lo + hi) / 2) : lo < m ∧ m < hi := by omega
/-! ## the text by places -/
def topS (i : Nat) : Stmt := PySem.Challenge.pw_everyprime_k98_whole_numbers_of_ways.main.body.getD i (.Pass ⟨0, 0, 0, 0⟩)
abbrev s_Form_init : Stmt := inClass (topS 4) 0
theorem sc_Form_init : FnScope ["self", "a", "b", "c"] ["self", "a", "b", "c"] (defScope s_Form_init) := ⟨rfl, rfl, rfl, by decide +kernel, rfl, by decide +kernel, by decide +kernel⟩
abbrev s_Form_stepped : Stmt := inClass (topS 4) 4
theorem sc_Form_stepped : FnScope ["self", "k"] ["self", "k"] (defScope s_Form_stepped) := ⟨rfl, rfl, rfl, by decide +kernel, rfl, by decide +kernel, by decide +kernel⟩
abbrev s_Form_turned : Stmt := inClass (topS 4) 5
theorem sc_Form_turned : FnScope ["self", "steps", "form", "k"] ["self", "steps"] (defScope s_Form_turned) := ⟨rfl, rfl, rfl, by decide +kernel, rfl, by decide +kernel, by decide +kernel⟩
abbrev s_law_cell : Stmt := topS 13
theorem sc_law_cell : FnScope ["_law_script", "_law_k"] ["_law_script", "_law_k"] (defScope s_law_cell) := ⟨rfl, rfl, rfl, by decide +kernel, rfl, by decide +kernel, by decide +kernel⟩
abbrev s_law_draws : Stmt := topS 14
theorem sc_law_draws : FnScope ["_law_cell_here", "_law_sizes", "_law_drawn", "_law_left", "_law_at", "_law_mixed"] ["_law_cell_here", "_law_sizes"] (defScope s_law_draws) := ⟨rfl, rfl, rfl, by decide +kernel, rfl, by decide +kernel, by decide +kernel⟩
abbrev s_law_form : Stmt := topS 16
theorem sc_law_form : FnScope ["_law_drawn", "_law_a", "_law_b", "_law_c"] ["_law_drawn"] (defScope s_law_form) := ⟨rfl, rfl, rfl, by decide +kernel, rfl, by decide +kernel, by decide +kernel⟩
abbrev s_law_points : Stmt := topS 19
theorem sc_law_points : FnScope ["_law_row", "_law_most_of_all", "_law_a", "_law_b", "_law_c", "_law_points_here", "_law_y", "_law_height", "_law_middle", "_law_x", "_law_value"] ["_law_row", "_law_most_of_all"] (defScope s_law_points) := ⟨rfl, rfl, rfl, by decide +kernel, rfl, by decide +kernel, by decide +kernel⟩
abbrev s_side_of : Stmt := topS 6
theorem sc_side_of : FnScope ["square", "low", "high", "middle"] ["square"] (defScope s_side_of) := ⟨rfl, rfl, rfl, by decide +kernel, rfl, by decide +kernel, by decide +kernel⟩
abbrev s_plain_ways : Stmt := topS 9
theorem sc_plain_ways : FnScope ["form", "m", "found", "y", "rest", "side", "root_of_rest", "height", "numerator"] ["form", "m"] (defScope s_plain_ways) := ⟨rfl, rfl, rfl, by decide +kernel, rfl, by decide +kernel, by decide +kernel⟩
abbrev s_Form_next_step : Stmt := inClass (topS 4) 6
theorem sc_Form_next_step : FnScope ["self"] ["self"] (defScope s_Form_next_step) := ⟨rfl, rfl, rfl, by decide +kernel, rfl, by decide +kernel, by decide +kernel⟩
abbrev s_Form_steps : Stmt := inClass (topS 4) 7
theorem sc_Form_steps : FnScope ["self", "found", "form", "k"] ["self"] (defScope s_Form_steps) := ⟨rfl, rfl, rfl, by decide +kernel, rfl, by decide +kernel, by decide +kernel⟩
abbrev s_Form_reduced : Stmt := inClass (topS 4) 8
theorem sc_Form_reduced : FnScope ["self"] ["self"] (defScope s_Form_reduced) := ⟨rfl, rfl, rfl, by decide +kernel, rfl, by decide +kernel, by decide +kernel⟩
abbrev s_way_counts : Stmt := topS 11
theorem sc_way_counts : FnScope ["form", "most", "reduced", "m"] ["form", "most"] (defScope s_way_counts) := ⟨rfl, rfl, rfl, by decide +kernel, rfl, by decide +kernel, by decide +kernel⟩
abbrev s_moved_back : Stmt := topS 8
theorem sc_moved_back : FnScope ["point", "steps", "x", "y", "k"] ["point", "steps"] (defScope s_moved_back) := ⟨rfl, rfl, rfl, by decide +kernel, rfl, by decide +kernel, by decide +kernel⟩
abbrev s_ways : Stmt := topS 10
theorem sc_ways : FnScope ["form", "m", "steps", "reduced", "point"] ["form", "m"] (defScope s_ways) := ⟨rfl, rfl, rfl, by decide +kernel, rfl, by decide +kernel, by decide +kernel⟩
abbrev s_law : Stmt := topS 20
theorem sc_law : FnScope ["_law_script", "_law_drawn", "_law_row", "_law_form_here", "_law_most_of_all", "_law_path", "_law_other", "_law_told", "_law_m", "_law_half", "_law_points_here", "_law_x", "_law_y", "_law_k"] ["_law_script"] (defScope s_law) := ⟨rfl, rfl, rfl, by decide +kernel, rfl, by decide +kernel, by decide +kernel⟩
abbrev s_BadForm_init : Stmt := inClass (topS 2) 0
/-- the addresses of the classes -/
structure Adr where
  c_BadForm : Addr
  c_Form : Addr
  c_base : Addr
structure Txt (K : PySem.W.Frag) (mg : Str → Option Value) (Ad : Adr) : Prop where
  b_abs : mg "abs" = none
  b_int : mg "int" = none
  b_isinstance : mg "isinstance" = none
  b_len : mg "len" = none
  b_list : mg "list" = none
  b_range : mg "range" = none
  b_reversed : mg "reversed" = none
  b_set : mg "set" = none
  b_sorted : mg "sorted" = none
  b_sum : mg "sum" = none
  d_Form_init : MkAt K mg "Form" Ad.c_Form "Form.__init__" s_Form_init ["self", "a", "b", "c"]
  d_Form_stepped : MethAt K Ad.c_Form "stepped" "Form.stepped" s_Form_stepped ["self", "k"]
  d_Form_turned : MethAt K Ad.c_Form "turned" "Form.turned" s_Form_turned ["self", "steps"]
  d_law_cell : DefAt K mg "_law_cell" s_law_cell ["_law_script", "_law_k"]
  d_law_draws : DefAt K mg "_law_draws" s_law_draws ["_law_cell_here", "_law_sizes"]
  d_law_form : DefAt K mg "_law_form" s_law_form ["_law_drawn"]
  d_law_points : DefAt K mg "_law_points" s_law_points ["_law_row", "_law_most_of_all"]
  d_side_of : DefAt K mg "side_of" s_side_of ["square"]
  d_plain_ways : DefAt K mg "plain_ways" s_plain_ways ["form", "m"]
  d_Form_next_step : MethAt K Ad.c_Form "next_step" "Form.next_step" s_Form_next_step ["self"]
  d_Form_steps : MethAt K Ad.c_Form "steps" "Form.steps" s_Form_steps ["self"]
  d_Form_reduced : MethAt K Ad.c_Form "reduced" "Form.reduced" s_Form_reduced ["self"]
  d_way_counts : DefAt K mg "way_counts" s_way_counts ["form", "most"]
  d_moved_back : DefAt K mg "moved_back" s_moved_back ["point", "steps"]
  d_ways : DefAt K mg "ways" s_ways ["form", "m"]
  g_Form : mg "Form" = some (.ref Ad.c_Form)
  cl_Form : Cls K Ad.c_Form
  ty_Form : ∀ (H : Hp) (a dx : Addr) (fs : List (Str × V)), H a = some (.ins Ad.c_Form dx fs) → TyX K H (.ref a) (.ref Ad.c_Form)
  ki_Form : PySem.W.kitOne K (.ref Ad.c_Form) (.ref Ad.c_Form) = some true
  kl_Form : PySem.W.kitOne K (.type "list") (.ref Ad.c_Form) = some false
  nl_Form : PySem.W.notFirst K Ad.c_Form (.type "list") = true
  nf_Form_a : NoAttr K Ad.c_Form "a"
  nf_Form_b : NoAttr K Ad.c_Form "b"
  nf_Form_c : NoAttr K Ad.c_Form "c"
  nf_Form_discriminant : NoAttr K Ad.c_Form "discriminant"
  base : BaseC K mg Ad.c_base
  r_BadForm : ErrRaw K mg "BadForm" Ad.c_BadForm s_BadForm_init "BadForm.__init__" ["self", "a", "b", "c"]
  no_BadForm_a : PySem.W.findIn K (.ref Ad.c_BadForm) "a" = some none
  no_BadForm_b : PySem.W.findIn K (.ref Ad.c_BadForm) "b" = some none
  no_BadForm_c : PySem.W.findIn K (.ref Ad.c_BadForm) "c" = some none
  triv : True
section
variable {P : Program} {w : World} {K : PySem.W.Frag} {mg : Str → Option Value} {base : Heap} {Ad : Adr}
def fl_BadForm (ws : List V) : List (Str × V) := match ws with | [v0, v1, v2] => [("c", v2), ("b", v1), ("a", v0)] | _ => []
theorem sc_BadForm_init : FnScope ["self", "a", "b", "c"] ["self", "a", "b", "c"] (defScope s_BadForm_init) := ⟨rfl, rfl, rfl, by decide +kernel, rfl, by decide +kernel, by decide +kernel⟩
theorem Txt.err_BadForm (T : Txt K mg Ad) : ErrC P w K mg base "BadForm" 3 fl_BadForm Ad.c_BadForm := by
  refine ErrC.of T.r_BadForm fun fI fd F => ?_
  refine F.okX sc_BadForm_init (fun vs H Q E h => ?_) (fun cdv A outer s H vs Q E hr h => ?_)
  · obtain ⟨a, ws, rfl, hl, _⟩ := h
    simp [hl]
  · obtain ⟨a, ws, rfl, hl, ha, q⟩ := h
    obtain ⟨v0, v1, v2, rfl⟩ := len_3 hl
    refine ⟨_, pss_cons (ps_expr (pe_ceinit T.base (pa_cons (pv 0) (pa_cons pe_str pa_nil)))) (pss_cons (ps_ost (pv 0) (pv 1)) (pss_cons (ps_ost (pv 0) (pv 2)) (pss_one (ps_ost (pv 0) (pv 3))))), ?_⟩
    refine ⟨.ref a, rfl, a, Ad.c_BadForm, [.str _], rfl, by show 1 ≤ 1000; decide, T.r_BadForm.T, ha, ?_⟩
    refine ⟨v0, rfl, .ref a, rfl, a, Ad.c_BadForm, rfl, T.r_BadForm.T, T.no_BadForm_a, .inl ⟨ha, fun dx nd ne => ?_⟩⟩
    refine ⟨v1, rfl, .ref a, rfl, a, Ad.c_BadForm, rfl, T.r_BadForm.T, T.no_BadForm_b, .inr ⟨dx, [("a", v0)], ?_, ?_, by show 1 ≤ 900; decide, ?_⟩⟩
    · repeat (first | exact upd_same | rw [upd_ne (Ne.symm ne)])
    · repeat (first | exact upd_same | rw [upd_ne ne])
    refine ⟨v2, rfl, .ref a, rfl, a, Ad.c_BadForm, rfl, T.r_BadForm.T, T.no_BadForm_c, .inr ⟨dx, [("b", v1), ("a", v0)], ?_, ?_, by show 2 ≤ 900; decide, ?_⟩⟩
    · repeat (first | exact upd_same | rw [upd_ne (Ne.symm ne)])
    · repeat (first | exact upd_same | rw [upd_ne ne])
    have z := q dx nd ne
    have e : ∀ (o1 o2 o3 o4 : HO), True := fun _ _ _ _ => trivial
    refine Eq.mp (congrArg (Q V.non) ?_) z
    funext b
    by_cases hb : b = dx
    · subst hb
      repeat (first | rw [upd_same] | rw [upd_ne ne])
      rfl
    · by_cases ha2 : b = a
      · subst ha2
        repeat (first | rw [upd_same] | rw [upd_ne hb])
      · repeat (first | rw [upd_ne hb] | rw [upd_ne ha2])
/-! ### Form.__init__ -/
def ffl (f : Fm) : List (Str × V) := [("a", .int f.a), ("b", .int f.b), ("c", .int f.c), ("discriminant", .int f.D)]
theorem nab : ¬ (("a" : Str) = "b") := by decide +kernel
theorem nac : ¬ (("a" : Str) = "c") := by decide +kernel
theorem nad : ¬ (("a" : Str) = "discriminant") := by decide +kernel
theorem nbc : ¬ (("b" : Str) = "c") := by decide +kernel
theorem nbd : ¬ (("b" : Str) = "discriminant") := by decide +kernel
theorem ncd : ¬ (("c" : Str) = "discriminant") := by decide +kernel
theorem ffl_put (a b c d : V) : putF "discriminant" d (putF "c" c (putF "b" b (putF "a" a []))) = ([("a", a), ("b", b), ("c", c), ("discriminant", d)] : List (Str × V)) := by
  simp only [putF, if_neg nab, if_neg nac, if_neg nad, if_neg nbc, if_neg nbd, if_neg ncd]
def spFI (C CE : Addr) : Sp := fun vs H Q E => ∃ (x dx : Addr) (f : Fm), vs = [.ref x, .int f.a, .int f.b, .int f.c] ∧ H x = some (.ins C dx []) ∧ Fm.bd 4000 f ∧
  (¬ f.ok → ∀ d, H d = none → E (.ref CE) (some d) (upd H d (.xd [("c", .int f.c), ("b", .int f.b), ("a", .int f.a)]))) ∧ (f.ok → Q .non (upd H x (.ins C dx (ffl f))))
theorem ok_Form_init (T : Txt K mg Ad) : MkDef P w K mg base 3 "Form" Ad.c_Form ["self", "a", "b", "c"] (spFI Ad.c_Form Ad.c_BadForm) := by
  refine T.d_Form_init.ok sc_Form_init (fun vs H Q E h => ?_) (fun f cdv A outer s H vs Q E hr h => ?_)
  · obtain ⟨x, dx, f, rfl, _⟩ := h
    rfl
  · obtain ⟨x, dx, ⟨a, b, c⟩, rfl, hx, ⟨ba, bb, bc⟩, qe, qo⟩ := h
    dsimp only at ba bb bc qe
    refine ⟨_, (pss_cons (ps_if (PW.pt (pw_or (pt_cmpR op_lt (pv 1) pe_int (nomark _)) (pw_or1 (pt_cmpR op_ge (pe_op op_sub (pe_op op_mulB (pv 2) (pv 2)) (pe_op op_mulB (pe_op op_mulB pe_int (pv 1)) (pv 3))) pe_int (nomark _))))) (pss_one (ps_raise rfl (takes_of rfl rfl rfl rfl) (pmk_err (T.err_BadForm) (hr.mono (by decide)) (pa_cons (pv 1) (pa_cons (pv 2) (pa_cons (pv 3) pa_nil)))))) pss_nil)
      (pss_cons (ps_fldC (pv 0) (pv 1) T.cl_Form T.nf_Form_a)
      (pss_cons (ps_fldC (pv 0) (pv 2) T.cl_Form T.nf_Form_b)
      (pss_cons (ps_fldC (pv 0) (pv 3) T.cl_Form T.nf_Form_c)
      (pss_one (ps_fldC (pv 0) (pe_op op_sub (pe_op op_mulB (pv 2) (pv 2)) (pe_op op_mulB (pe_op op_mulB pe_int (pv 1)) (pv 3))) T.cl_Form T.nf_Form_discriminant)))))), ?_⟩
    try dsimp only [cxOf]
    wtm_at "ra"
    · exact qe (fun z => by have := z.1; dsimp only at this; omega)
    · exact qe (fun z => by have := z.2; unfold Fm.D at this; dsimp only at this; omega)
    · have z := qo ⟨by dsimp only; omega, by unfold Fm.D; dsimp only; omega⟩
      rw [upd_upd, upd_upd, upd_upd, ffl_put]
      exact z
def IsF (C : Addr) (H : Hp) (p : Addr) (f : Fm) : Prop := ∃ dx, H p = some (.ins C dx (ffl f))
theorem IsF.mono {C : Addr} {H H' : Hp} {p : Addr} {f : Fm} (h : IsF C H p f) (s : Same H H') : IsF C H' p f := let ⟨dx, h⟩ := h; ⟨dx, s _ _ h⟩
theorem IsF.keeps {C : Addr} {H G : Hp} {p : Addr} {f : Fm} (h : IsF C H p f) (k : Keeps H G) : IsF C G p f := let ⟨dx, e⟩ := h; ⟨dx, k _ _ rfl e⟩
theorem IsF.rig {C : Addr} {H : Hp} {p : Addr} {f : Fm} (h : IsF C H p f) : Rig (fun G => IsF C G p f) H := fun G k => h.keeps k
theorem use_FI {C CE : Addr} {f : Fm} {H1 : Hp} {R : Addr → Hp → Prop} {E : XK} {a b c : Int} (hf : f = ⟨a, b, c⟩) (hb : Fm.bd 4000 f) (ho : f.ok) (nt : NoT H1) (q : ∀ x H', Same H1 H' → NoT H' → H1 x = none → IsF C H' x f → R x H') :
    ∀ x dx, H1 x = none → H1 dx = none → dx ≠ x → spFI C CE [.ref x, .int a, .int b, .int c] (upd (upd H1 dx (.own x)) x (.ins C dx [])) (fun v H2 => v = .non ∧ R x H2) E := by
  subst hf
  intro x dx nx nd ne
  refine ⟨x, dx, ⟨a, b, c⟩, rfl, upd_same, hb, fun z => absurd ho z, fun _ => ⟨rfl, ?_⟩⟩
  rw [upd_upd]
  exact q x _ (same_upd2 (same_new nd) nx) (NoT.upd (NoT.upd nt rfl) rfl) nx ⟨dx, upd_same⟩
theorem use_FIE {C CE : Addr} {f : Fm} {H1 : Hp} {R : Addr → Hp → Prop} {E : XK} {a b c : Int} (hf : f = ⟨a, b, c⟩) (hb : Fm.bd 4000 f) (ho : ¬ f.ok) (q : ∀ x d H', Same H1 H' → H1 d = none → H1 x = none → (NoT H1 → NoT H') → E (.ref CE) (some d) (upd H' d (.xd [("c", .int f.c), ("b", .int f.b), ("a", .int f.a)]))) :
    ∀ x dx, H1 x = none → H1 dx = none → dx ≠ x → spFI C CE [.ref x, .int a, .int b, .int c] (upd (upd H1 dx (.own x)) x (.ins C dx [])) (fun v H2 => v = .non ∧ R x H2) E := by
  subst hf
  intro x dx nx nd ne
  refine ⟨x, dx, ⟨a, b, c⟩, rfl, upd_same, hb, fun _ d hd => ?_, fun z => absurd z ho⟩
  exact q x d _ (same_upd2 (same_new nd) nx) ((same_upd2 (same_new nd) nx).free hd) nx fun nt => NoT.upd (NoT.upd nt rfl) rfl
/-! ### Form.stepped -/
def spFStep (C : Addr) : Sp := fun vs H Q E => ∃ (p : Addr) (f : Fm) (k : Int), vs = [.ref p, .int k] ∧ IsF C H p f ∧ f.ok ∧ Fm.bd 900 f ∧ Bd 900 k ∧ NoT H ∧ ∀ x H', Same H H' → NoT H' → H x = none → IsF C H' x (f.st k) → Q (.ref x) H'
theorem ok_Form_stepped (T : Txt K mg Ad) : MDef P w K mg base 5 Ad.c_Form "stepped" ["self", "k"] (spFStep Ad.c_Form) := by
  refine T.d_Form_stepped.ok sc_Form_stepped (fun vs H Q E h => ?_) (fun f cdv A outer s H vs Q E hr h => ?_)
  · obtain ⟨p, f, k, rfl, _⟩ := h
    rfl
  · obtain ⟨p, f, k, rfl, ⟨dx, hp⟩, ho, ⟨ba, bb, bc⟩, bk, nt, q⟩ := h
    refine ⟨_, (pss_cons (ps_if (pt_cmpR op_eq (pv 1) pe_int (nomark _)) (pss_one (ps_ret (pe_mkd (ok_Form_init T) (hr.mono (by decide)) (passes_call (takes_of rfl rfl rfl rfl) (fun _ _ _ _ h => h)) (pa_cons (pe_fldC (pv 0) T.cl_Form T.nf_Form_c) (pa_cons (pe_un un_neg (pe_fldC (pv 0) T.cl_Form T.nf_Form_b)) (pa_cons (pe_fldC (pv 0) T.cl_Form T.nf_Form_a) pa_nil)))))) pss_nil)
      (pss_one (ps_ret (pe_mkd (ok_Form_init T) (hr.mono (by decide)) (passes_call (takes_of rfl rfl rfl rfl) (fun _ _ _ _ h => h)) (pa_cons (pe_fldC (pv 0) T.cl_Form T.nf_Form_a) (pa_cons (pe_op op_add (pe_fldC (pv 0) T.cl_Form T.nf_Form_b) (pe_op op_mulB (pe_op op_mulB pe_int (pe_fldC (pv 0) T.cl_Form T.nf_Form_a)) (pv 1))) (pa_cons (pe_op op_add (pe_op op_add (pe_op op_mulB (pe_op op_mulB (pe_fldC (pv 0) T.cl_Form T.nf_Form_a) (pv 1)) (pv 1)) (pe_op op_mulB (pe_fldC (pv 0) T.cl_Form T.nf_Form_b) (pv 1))) (pe_fldC (pv 0) T.cl_Form T.nf_Form_c)) pa_nil))))))), ?_⟩
    try dsimp only [cxOf]
    wtm_at "ra"
    · rename_i hk
      subst hk
      have e := f.st_zero
      exact use_FI e (by rw [e]; exact ⟨bc.mono (by decide), bb.neg.mono (by decide), ba.mono (by decide)⟩) (ho.st 0) nt q
    · rename_i hk
      have e := Fm.st_ne (f := f) hk
      exact use_FI e (by rw [e]; exact ⟨ba.mono (by decide), by dsimp only; wtm_at "bd", by dsimp only; wtm_at "bd"⟩) (ho.st k) nt q
theorem use_FStep {C : Addr} {p : Addr} {f : Fm} {k : Int} {H : Hp} {Q : VK} {E : XK} (h : IsF C H p f) (ho : f.ok) (hb : Fm.bd 900 f) (hk : Bd 900 k) (nt : NoT H) (q : ∀ x H', Same H H' → NoT H' → H x = none → IsF C H' x (f.st k) → Q (.ref x) H') : spFStep C [.ref p, .int k] H Q E := ⟨p, f, k, rfl, h, ho, hb, hk, nt, q⟩
/-! ### Form.turned -/
def spFTurn (K : PySem.W.Frag) (C : Addr) : Sp := fun vs H Q E => ∃ (p s : Addr) (f : Fm) (ks : List Int), vs = [.ref p, .ref s] ∧ IsF C H p f ∧ f.ok ∧ SqL K H s (ks.map V.int) ∧ (∀ i, i ≤ ks.length → Fm.bd 900 (f.turn (ks.take i))) ∧ (∀ k ∈ ks, Bd 900 k) ∧ NoT H ∧
  ∀ x H', Same H H' → NoT H' → IsF C H' x (f.turn ks) → Q (.ref x) H'
theorem ok_Form_turned (T : Txt K mg Ad) : MDef P w K mg base 6 Ad.c_Form "turned" ["self", "steps"] (spFTurn K Ad.c_Form) := by
  refine T.d_Form_turned.ok sc_Form_turned (fun vs H Q E h => ?_) (fun f cdv A outer s H vs Q E hr h => ?_)
  · obtain ⟨p, s, f, ks, rfl, _⟩ := h
    rfl
  · obtain ⟨p, s, f, ks, rfl, hp, ho, hs, hb, hk, nt, q⟩ := h
    refine ⟨_, (pss_cons (ps_set (i := 2) sc_Form_turned.nd rfl (Or.inl rfl) (pv 0))
      (pss_cons (ps_for (passes_of rfl) rfl (pi_list (pv 1)) (pg_name (i := 3) sc_Form_turned.nd rfl (Or.inl rfl)) (pss_one (ps_set (i := 2) sc_Form_turned.nd rfl (Or.inl rfl) (pe_md (ok_Form_stepped T) (pv 2) T.cl_Form (hr.mono (by decide)) (passes_call (takes_of rfl rfl rfl rfl) (fun _ _ _ _ h => h)) (pa_cons (pv 3) pa_nil)))))
      (pss_one (ps_ret (pv 2))))), ?_⟩
    try dsimp only [cxOf]
    wtm_at "rs"
    refine rd_forL (xs := ks.map V.int) (fun i σ H' => ∃ (x : Addr) (v3 : Option V), σ = [some (.ref p), some (.ref s), some (.ref x), v3] ∧ Same H H' ∧ NoT H' ∧ IsF Ad.c_Form H' x (f.turn (ks.take i))) ⟨p, none, rfl, Same.refl _, nt, hp⟩ (fun i σ H' _ ⟨_, _, _, sm, _⟩ => sm.seq hs) ?_ ?_
    · rintro i y σ H' hi ⟨x, v3, rfl, sm, nt', ⟨dx, hx⟩⟩
      rw [List.getElem?_map] at hi
      obtain ⟨k, hy, rfl⟩ := Option.map_eq_some_iff.mp hi
      have hlt := (List.getElem?_eq_some_iff.mp hy).1
      wtm_at "rs"
      refine ⟨x, _, k, rfl, ⟨dx, hx⟩, ho.turn _, hb i (by omega), hk k (List.mem_of_getElem? hy), nt', fun x' H2 sm2 nt2 hn h2 => ?_⟩
      wtm_at "rs"
      refine ⟨x', _, rfl, sm.trans sm2, nt2, ?_⟩
      rw [List.take_add_one, hy]
      show IsF _ _ _ (f.turn (ks.take i ++ [k]))
      rw [Fm.turn_snoc]
      exact h2
    · rintro σ H' ⟨x, v3, rfl, sm, nt', hx⟩
      rw [List.length_map, List.take_length] at hx
      wtm_at "rs"
      exact q x H' sm nt' hx
theorem use_FTurn {C : Addr} {p s : Addr} {f : Fm} {ks : List Int} {H : Hp} {Q : VK} {E : XK} (h : IsF C H p f) (ho : f.ok) (hs : SqL K H s (ks.map V.int)) (hb : ∀ i, i ≤ ks.length → Fm.bd 900 (f.turn (ks.take i))) (hk : ∀ k ∈ ks, Bd 900 k) (nt : NoT H) (q : ∀ x H', Same H H' → NoT H' → IsF C H' x (f.turn ks) → Q (.ref x) H') :
    spFTurn K C [.ref p, .ref s] H Q E := ⟨p, s, f, ks, rfl, h, ho, hs, hb, hk, nt, q⟩
/-! ### _law_cell -/
theorem getD_at {ns : List Int} {i : Nat} (h : i < ns.length) : atI (ns.map V.int) (i : Int) = some (.int (ns.getD i 0)) := by
  refine atI_nat ?_
  rw [List.getElem?_map, List.getElem?_eq_getElem h, List.getD_eq_getElem?_getD, List.getElem?_eq_getElem h]
  rfl
theorem getD_out {ns : List Int} {i : Nat} (h : ¬ i < ns.length) : ns.getD i 0 = 0 := by
  rw [List.getD_eq_getElem?_getD, List.getElem?_eq_none (by omega)]
  rfl
def spCell (K : PySem.W.Frag) : Sp := fun vs H Q _ => ∃ (a : Addr) (ns : List Int) (i : Nat), vs = [.ref a, .int i] ∧ SqL K H a (ns.map V.int) ∧ Q (.int (ns.getD i 0)) H
theorem ok_law_cell (T : Txt K mg Ad) : Def P w K mg base 1 "_law_cell" ["_law_script", "_law_k"] (spCell K) := by
  refine T.d_law_cell.ok sc_law_cell (fun vs H Q E h => ?_) (fun f cdv A outer s H vs Q E hr h => ?_)
  · obtain ⟨a, ns, i, rfl, _⟩ := h
    rfl
  · obtain ⟨a, ns, i, rfl, hS, q⟩ := h
    refine ⟨_, (pss_cons (ps_if (pt_cmpR op_lt (pv 1) (pe_callB c_len (by rfl) T.b_len PySem.boot_len (pa_cons (pv 0) pa_nil)) (nomark _)) (pss_one (ps_ret (pe_ix ix_list (pv 0) (pv 1) (fun _ _ => rfl)))) pss_nil)
      (pss_one (ps_ret pe_int))), ?_⟩
    try dsimp only [cxOf]
    wtm_at "rs"
    wtm_at "i"
    · rename_i h
      rw [List.length_map] at h
      wtm_at "rs"
      exact rd_ixL hS (getD_at (by omega)) q
    · rename_i h
      rw [List.length_map] at h
      rw [getD_out (by omega)] at q
      wtm_at "rs"
      exact q
theorem use_cell {a : Addr} {ns : List Int} {i : Nat} {H : Hp} {Q : VK} {E : XK} {z : Int} (hS : SqL K H a (ns.map V.int)) (hz : z = (i : Int)) (q : Q (.int (ns.getD i 0)) H) : spCell K [.ref a, .int z] H Q E :=
  ⟨a, ns, i, by rw [hz], hS, q⟩
local macro_rules | `(tactic| wtm_at "s") => `(tactic| ((with_reducible refine use_cell (ns := ?ns) (i := ?i) ?h1 ?h2 ?_); (case h1 => wtm_at "q"); (case h2 => first | rfl | exact (Int.zero_add _) | exact (Int.natCast_succ _).symm)))
/-! ### _law_draws -/
def spDraws (K : PySem.W.Frag) : Sp := fun vs H Q E => ∃ (c : Int) (a : Addr) (ss : List Int), vs = [.int c, .ref a] ∧ SqL K H a (ss.map V.int) ∧ (∀ s ∈ ss, 0 < s ∧ s < 2 ^ 240) ∧ ss.length ≤ 1000 ∧ NoT H ∧ ∀ D ds H', Same H H' → NoT H' → H D = none → H' D = some (.lst (ds.map V.int)) → DrawOk ds ss → Q (.ref D) H'
theorem ok_law_draws (T : Txt K mg Ad) : Def P w K mg base 1 "_law_draws" ["_law_cell_here", "_law_sizes"] (spDraws K) := by
  refine T.d_law_draws.ok sc_law_draws (fun vs H Q E h => ?_) (fun f cdv A outer s H vs Q E hr h => ?_)
  · obtain ⟨c, a, ss, rfl, _⟩ := h
    rfl
  · obtain ⟨c, a, ss, rfl, hS, hs, hlen, nt, q⟩ := h
    have hml : (ss.map V.int).length = ss.length := List.length_map ..
    refine ⟨_, (pss_cons (ps_set (i := 2) sc_law_draws.nd rfl (Or.inl rfl) (pe_lst pa_nil))
      (pss_cons (ps_set (i := 3) sc_law_draws.nd rfl (Or.inl rfl) (pe_callB c_abs (by rfl) T.b_abs (by decide +kernel) (pa_cons (pv 0) pa_nil)))
      (pss_cons (ps_for (passes_of rfl) rfl (pi_range1 (by rfl) T.b_range (pa_cons (pe_callB c_len (by rfl) T.b_len PySem.boot_len (pa_cons (pv 1) pa_nil)) pa_nil)) (pg_name (i := 4) sc_law_draws.nd rfl (Or.inl rfl)) (pss_one (ps_if (pt_cmpR op_ge (pe_callB c_abs (by rfl) T.b_abs (by decide +kernel) (pa_cons (pv 0) pa_nil)) (pe_op (op_powN 18) pe_int pe_int) (nomark _)) (pss_cons (ps_expr (pe_bm PySem.F.plainAttrs_list PySem.F.slot_list_append PySem.F.type_list_append mt_append (pv 2) (pa_cons (pe_op op_mod (pe_callTy c_int1 (by rfl) T.b_int (by decide +kernel) (pa_cons (pv 3) pa_nil)) (pe_ix ix_list (pv 1) (pv 4) (fun _ _ => rfl))) pa_nil)))
      (pss_one (ps_set (i := 3) sc_law_draws.nd rfl (Or.inl rfl) (pe_op op_fdivB (pv 3) (pe_ix ix_list (pv 1) (pv 4) (fun _ _ => rfl)))))) (pss_cons (ps_set (i := 5) sc_law_draws.nd rfl (Or.inl rfl) (pe_op op_mod (pe_callTy c_int1 (by rfl) T.b_int (by decide +kernel) (pa_cons (pe_op op_mulB (pe_op op_add (pe_op op_add (pv 3) (pe_op op_mulB pe_int (pv 4))) pe_int) pe_int) pa_nil)) pe_int))
      (pss_cons (ps_set (i := 5) sc_law_draws.nd rfl (Or.inl rfl) (pe_op op_mod (pe_callTy c_int1 (by rfl) T.b_int (by decide +kernel) (pa_cons (pe_op op_add (pe_op op_add (pe_op op_mulB (pe_op op_mulB (pv 5) (pv 5)) pe_int) (pe_op op_mulB pe_int (pv 4))) (pv 5)) pa_nil)) pe_int))
      (pss_one (ps_expr (pe_bm PySem.F.plainAttrs_list PySem.F.slot_list_append PySem.F.type_list_append mt_append (pv 2) (pa_cons (pe_op op_mod (pe_op op_fdivB (pv 5) pe_int) (pe_ix ix_list (pv 1) (pv 4) (fun _ _ => rfl))) pa_nil)))))))))
      (pss_one (ps_ret (pv 2)))))), ?_⟩
    try dsimp only [cxOf]
    wtm_at "rs"
    rename_i D hD
    refine rd_forR (fun i σ H' => ∃ (L : Int) (ds : List Int) (v4 v5 : Option V), σ = [some (.int c), some (.ref a), some (.ref D), some (.int L), v4, v5] ∧ Same H H' ∧ NoT H' ∧ H' D = some (.lst (ds.map V.int)) ∧ DrawOk ds (ss.take i)) ⟨_, [], _, _, rfl, same_new hD, NoT.upd nt rfl, upd_same, trivial⟩ ?_ ?_
    · rintro i σ H' hi ⟨L, ds, v4, v5, rfl, sm, nt', hd, hok⟩
      have hil : i < ss.length := by simpa using hi
      have hS' := sm.seq hS
      have hix : atI (ss.map V.int) (0 + (i : Int)) = some (.int (ss.getD i 0)) := by
        rw [Int.zero_add]
        refine atI_nat ?_
        rw [List.getElem?_map, List.getElem?_eq_getElem hil, List.getD_eq_getElem?_getD, List.getElem?_eq_getElem hil]
        rfl
      obtain ⟨s0, s1⟩ := hs (ss.getD i 0) (by rw [List.getD_eq_getElem?_getD, List.getElem?_eq_getElem hil]; exact List.getElem_mem hil)
      have htk : ss.take (i + 1) = ss.take i ++ [ss.getD i 0] := by
        rw [List.take_add_one, List.getElem?_eq_getElem hil, List.getD_eq_getElem?_getD, List.getElem?_eq_getElem hil]
        rfl
      generalize ss.getD i 0 = z at *
      have hroom : (ds.map V.int).length < 10000 := by
        rw [List.length_map, hok.len, List.length_take]
        omega
      have hDa : D = D := rfl
      wtm_at "ra"
      · refine rd_ixL hS' hix ?_
        wtm_at "rs"
        refine rd_ixL ((show Same H _ by wtm_at "sm").seq hS) hix ?_
        wtm_at "rs"
        exact ⟨_, ds ++ [L % z], _, _, rfl, by wtm_at "sm", by wtm_at "nt", by rw [upd_same, List.map_append]; rfl, by rw [htk]; exact hok.snoc ⟨Int.emod_nonneg _ (by omega), Int.emod_lt_of_pos _ s0⟩⟩
      · refine rd_ixL hS' hix ?_
        wtm_at "rs"
        exact ⟨_, ds ++ [_ % z], _, _, rfl, by wtm_at "sm", by wtm_at "nt", by rw [upd_same, List.map_append]; rfl, by rw [htk]; exact hok.snoc ⟨Int.emod_nonneg _ (by omega), Int.emod_lt_of_pos _ s0⟩⟩
    · rintro σ H' ⟨L, ds, v4, v5, rfl, sm, nt', hd, hok⟩
      rw [show (Int.toNat ((ss.map V.int).length : Int)) = ss.length by simp, List.take_length] at hok
      wtm_at "rs"
      exact q D ds H' sm nt' hD hd hok
theorem use_draws {c : Int} {a : Addr} {ss : List Int} {H : Hp} {Q : VK} {E : XK} (hS : SqL K H a (ss.map V.int)) (hs : ∀ s ∈ ss, 0 < s ∧ s < 2 ^ 240) (hl : ss.length ≤ 1000) (nt : NoT H) (q : ∀ D ds H', Same H H' → NoT H' → H D = none → H' D = some (.lst (ds.map V.int)) → DrawOk ds ss → Q (.ref D) H') : spDraws K [.int c, .ref a] H Q E :=
  ⟨c, a, ss, rfl, hS, hs, hl, nt, q⟩
/-! ### _law_form -/
def spLForm (K : PySem.W.Frag) : Sp := fun vs H Q E => ∃ (l : Addr) (d0 d1 d2 : Int) (ds : List Int), vs = [.ref l] ∧ SqL K H l ((d0 :: d1 :: d2 :: ds).map V.int) ∧ 0 ≤ d0 ∧ d0 ≤ 8 ∧ 0 ≤ d1 ∧ d1 ≤ 24 ∧ 0 ≤ d2 ∧ d2 ≤ 11 ∧
  ∀ (x : Addr) (f : Fm), SmallF f → f = ⟨1 + d0, d1 - 12, (d1 - 12) * (d1 - 12) / (4 * (1 + d0)) + 1 + d2⟩ → H x = none → Q (.ref x) (upd H x (.lst f.row))
theorem ok_law_form (T : Txt K mg Ad) : Def P w K mg base 1 "_law_form" ["_law_drawn"] (spLForm K) := by
  refine T.d_law_form.ok sc_law_form (fun vs H Q E h => ?_) (fun f cdv A outer s H vs Q E hr h => ?_)
  · obtain ⟨l, d0, d1, d2, ds, rfl, _⟩ := h
    rfl
  · obtain ⟨l, d0, d1, d2, ds, rfl, hl, a0, a1, b0, b1, c0, c1, q⟩ := h
    refine ⟨_, (pss_cons (ps_set (i := 1) sc_law_form.nd rfl (Or.inl rfl) (pe_op op_add pe_int (pe_ix ix_list (pv 0) pe_int (fun _ _ => rfl))))
      (pss_cons (ps_set (i := 2) sc_law_form.nd rfl (Or.inl rfl) (pe_op op_sub (pe_ix ix_list (pv 0) pe_int (fun _ _ => rfl)) pe_int))
      (pss_cons (ps_set (i := 3) sc_law_form.nd rfl (Or.inl rfl) (pe_op op_add (pe_op op_add (pe_op op_fdivB (pe_op op_mulB (pv 2) (pv 2)) (pe_op op_mulB pe_int (pv 1))) pe_int) (pe_ix ix_list (pv 0) pe_int (fun _ _ => rfl))))
      (pss_one (ps_ret (pe_lst (pa_cons (pv 1) (pa_cons (pv 2) (pa_cons (pv 3) pa_nil))))))))), ?_⟩
    try dsimp only [cxOf]
    have hl2 : SqL K H l (.int d0 :: .int d1 :: .int d2 :: ds.map V.int) := hl
    have e0 : atI (V.int d0 :: .int d1 :: .int d2 :: ds.map V.int) 0 = some (.int d0) := show atI _ ((0 : Nat) : Int) = _ from atI_nat rfl
    have e1 : atI (V.int d0 :: .int d1 :: .int d2 :: ds.map V.int) 1 = some (.int d1) := show atI _ ((1 : Nat) : Int) = _ from atI_nat rfl
    have e2 : atI (V.int d0 :: .int d1 :: .int d2 :: ds.map V.int) 2 = some (.int d2) := show atI _ ((2 : Nat) : Int) = _ from atI_nat rfl
    wtm_at "rs"
    refine rd_ixL hl2 e0 ?_
    wtm_at "rs"
    refine rd_ixL hl2 e1 ?_
    have bb0 := sq_nonneg (d1 - 12)
    have bb1 : (d1 - 12) * (d1 - 12) ≤ 12 * 12 := sq_le (by omega)
    wtm_at "rs"
    refine rd_ixL hl2 e2 ?_
    wtm_at "rs"
    rename_i p hp
    exact q p _ (smallF (by omega) (by omega) (by omega) (by omega) c0 c1) rfl hp
/-! ### _law_points -/
def spPts (K : PySem.W.Frag) : Sp := fun vs H Q E => ∃ (l : Addr) (f : Fm) (M : Int), vs = [.ref l, .int M] ∧ SqL K H l f.row ∧ SmallF f ∧ 0 ≤ M ∧ M ≤ 120 ∧ NoT H ∧ ∀ (P : List (Int × Int)) (H' : Hp), Same H H' → NoT H' → PtSet f M P → Q (.int P.length) H'
theorem ok_law_points (T : Txt K mg Ad) : Def P w K mg base 1 "_law_points" ["_law_row", "_law_most_of_all"] (spPts K) := by
  refine T.d_law_points.ok sc_law_points (fun vs H Q E h => ?_) (fun f cdv A outer s H vs Q E hr h => ?_)
  · obtain ⟨l, f, M, rfl, _⟩ := h
    rfl
  · obtain ⟨l, f, M, rfl, hl, sf, m0, m1, nt, q⟩ := h
    replace hl : SqL K H l [.int f.a, .int f.b, .int f.c] := hl
    refine ⟨_, (pss_cons (ps_asg (pv 0) (pg_unl rfl (pgs_cons (pg_name (i := 2) sc_law_points.nd rfl (Or.inl rfl)) (pgs_cons (pg_name (i := 3) sc_law_points.nd rfl (Or.inl rfl)) (pgs_cons (pg_name (i := 4) sc_law_points.nd rfl (Or.inl rfl)) pgs_nil)))))
      (pss_cons (ps_set (i := 5) sc_law_points.nd rfl (Or.inl rfl) pe_int)
      (pss_cons (ps_set (i := 6) sc_law_points.nd rfl (Or.inl rfl) pe_int)
      (pss_cons (ps_while (passes_of rfl) (pt_cmpR op_ge (pe_op op_add (pe_op op_mulB (pe_op op_mulB pe_int (pv 2)) (pv 1)) (pe_op op_mulB (pe_op op_mulB (pe_op op_sub (pe_op op_mulB (pv 3) (pv 3)) (pe_op op_mulB (pe_op op_mulB pe_int (pv 2)) (pv 4))) (pv 6)) (pv 6))) pe_int (nomark _)) (pss_cons (ps_for (passes_of rfl) rfl (pi_list (pe_callB (cr_sortSetN rfl) (by rfl) T.b_sorted (by decide +kernel) (pa_cons (pe_callTy (cr_setOf rfl) (by rfl) T.b_set (by decide +kernel) (pa_cons (pe_lst (pa_cons (pv 6) (pa_cons (pe_un un_neg (pv 6)) pa_nil))) pa_nil)) pa_nil))) (pg_name (i := 7) sc_law_points.nd rfl (Or.inl rfl)) (pss_cons (ps_set (i := 8) sc_law_points.nd rfl (Or.inl rfl) (pe_op op_fdivB (pe_callTy c_int1 (by rfl) T.b_int (by decide +kernel) (pa_cons (pe_op op_mulB (pe_un un_neg (pv 3)) (pv 7)) pa_nil)) (pe_op op_mulB pe_int (pv 2))))
      (pss_one (ps_for (passes_of rfl) rfl (pi_range2 (by rfl) T.b_range (pa_cons (pe_op op_sub (pv 8) pe_int) (pa_cons (pe_op op_add (pv 8) pe_int) pa_nil))) (pg_name (i := 9) sc_law_points.nd rfl (Or.inl rfl)) (pss_cons (ps_set (i := 10) sc_law_points.nd rfl (Or.inl rfl) (pe_op op_add (pe_op op_mulB (pe_op op_mulB (pv 2) (pv 9)) (pv 9)) (pe_op op_mulB (pe_op op_mulB (pv 3) (pv 9)) (pv 7))))
      (pss_one (ps_if (pt_cmpR op_le (pe_op op_add (pv 10) (pe_op op_mulB (pe_op op_mulB (pv 4) (pv 7)) (pv 7))) (pv 1) (nomark _)) (pss_one (ps_set (i := 5) sc_law_points.nd rfl (Or.inl rfl) (pe_op op_add (pv 5) pe_int))) pss_nil)))))))
      (pss_one (ps_set (i := 6) sc_law_points.nd rfl (Or.inl rfl) (pe_op op_add (pv 6) pe_int)))))
      (pss_one (ps_ret (pv 5))))))), ?_⟩
    try dsimp only [cxOf]
    obtain ⟨fo, a1, b0, b1, c1, D0⟩ := sf
    have c0 := fo.c_pos
    have fa := fo.1
    have fD := fo.2
    have hDe : f.b * f.b - 4 * f.a * f.c = f.D := rfl
    have bA : Bd 10 f.a := Bd.of (by omega) (by omega)
    have bB : Bd 10 f.b := Bd.of (by omega) (by omega)
    have bC : Bd 10 f.c := Bd.of (by omega) (by omega)
    have bD : Bd 10 f.D := Bd.of (by omega) (by omega)
    have bm : Bd 20 M := Bd.of (by omega) (by omega)
    have am : 4 * f.a * M ≤ 36 * 120 := Int.mul_le_mul (by omega) m1 m0 (by decide)
    wtm_at "rs"
    refine rd_while (fun μ σ H' => ∃ (y : Int) (P : List (Int × Int)) (v7 v8 v9 v10 : Option V), μ = (101 - y).toNat ∧ 0 ≤ y ∧ y ≤ 101 ∧ σ = [some (.ref l), some (.int M), some (.int f.a), some (.int f.b), some (.int f.c), some (.int P.length), some (.int y), v7, v8, v9, v10] ∧ Same H H' ∧ NoT H' ∧ PtSo f M y P) 101
      ⟨0, [], none, none, none, none, rfl, by omega, by omega, rfl, Same.refl _, nt, PtSo.zero⟩ ?_
    rintro μ σ H' ⟨y, P, v7, v8, v9, v10, rfl, y0, y1, rfl, sm, n1, so⟩
    have bY : Bd 12 y := Bd.of (by omega) (by omega)
    have yy := sq_nonneg y
    wtm_at "rs"
    rw [hDe, show f.D * y * y = f.D * (y * y) from Int.mul_assoc ..]
    by_cases c : 0 ≤ 4 * f.a * M + f.D * (y * y)
    · rw [if_pos (decide_eq_true c)]
      have y2 : y ≤ 100 := by
        rcases Int.lt_or_le y 101 with z | z
        · omega
        · exfalso
          have l3 : 1 * (y * y) ≤ -f.D * (y * y) := Int.mul_le_mul_of_nonneg_right (by omega) yy
          rw [Int.neg_mul] at l3
          have l2 : 101 * 101 ≤ y * y := sq_le (x := 101) (by omega)
          omega
      wtm_at "rs"
      rename_i L1 hL1
      refine rd_setOfL (ns := [y, -y]) (SqL.of upd_same) (by show 2 < 4095; decide) fun S n hSn => ?_
      wtm_at "rs"
      refine rd_sortSetN upd_same fun hs L2 inc memh hL2 => ?_
      have smG := ((same_new (o := .lst [.int y, .int (-y)]) hL1).trans (same_new (o := SetO w S (inS [y, -y]) n) hSn)).trans (same_new (o := .lst (hs.map V.int)) hL2)
      have nG : NoT (upd (upd (upd H' L1 (.lst [.int y, .int (-y)])) S (SetO w S (inS [y, -y]) n)) L2 (.lst (hs.map V.int))) := NoT.upd (NoT.upd (NoT.upd n1 rfl) rfl) rfl
      have hG : upd (upd (upd H' L1 (.lst [.int y, .int (-y)])) S (SetO w S (inS [y, -y]) n)) L2 (.lst (hs.map V.int)) L2 = some (.lst (hs.map V.int)) := upd_same
      clear hL1 hSn hL2
      generalize upd (upd (upd H' L1 (.lst [.int y, .int (-y)])) S (SetO w S (inS [y, -y]) n)) L2 (.lst (hs.map V.int)) = G at *
      have memh2 : ∀ k, k ∈ hs ↔ k = y ∨ k = -y := fun k => by rw [memh]; simp
      have ndh : hs.Nodup := inc.imp fun h => by omega
      wtm_at "rs"
      refine rd_forLs (xs := hs.map V.int) (fun i σ => ∃ (P1 : List (Int × Int)) (v7 v8 v9 v10 : Option V), σ = [some (.ref l), some (.int M), some (.int f.a), some (.int f.b), some (.int f.c), some (.int P1.length), some (.int y), v7, v8, v9, v10] ∧ PtIn f M P (hs.take i) P1) (SqL.of hG) ⟨P, _, _, _, _, rfl, PtIn.nil so.nd⟩ ?_ ?_
      · rintro i v σ hi ⟨P1, v7, v8, v9, v10, rfl, pin⟩
        rw [List.getElem?_map] at hi
        obtain ⟨h, hh, rfl⟩ := Option.map_eq_some_iff.mp hi
        have hhm := (memh2 h).mp (List.mem_of_getElem? hh)
        have bh : Bd 12 h := Bd.of (by omega) (by omega)
        have fresh : ∀ r ∈ P1, r.2 ≠ h := fun r hr e => by
          rcases (pin.mem r).mp hr with z | z
          · have := (so.mem r).mp z
            omega
          · rw [e] at z
            exact not_mem_take ndh hh z.1
        have rin := fun x => row_in (f := f) (M := M) (h := h) (x := x) fo m1 rfl
        have mb : -2000 ≤ -f.b * h / (2 * f.a) ∧ -f.b * h / (2 * f.a) ≤ 2000 := by
          have hb : (f.b * h).natAbs ≤ 12 * 101 := by
            rw [Int.natAbs_mul]
            exact Nat.mul_le_mul (by omega) (by omega)
          have nb : -f.b * h = -(f.b * h) := Int.neg_mul ..
          have dm := Int.mul_ediv_add_emod (-f.b * h) (2 * f.a)
          have r0 := Int.emod_nonneg (-f.b * h) (show 2 * f.a ≠ 0 by omega)
          have r1 := Int.emod_lt_of_pos (-f.b * h) (show 0 < 2 * f.a by omega)
          generalize -f.b * h / (2 * f.a) = mid at *
          constructor
          · rcases Int.lt_or_le mid (-2000) with z | z
            · exfalso
              have := Int.mul_le_mul_of_nonneg_left (show mid ≤ -2001 by omega) (show 0 ≤ 2 * f.a by omega)
              omega
            · omega
          · rcases Int.lt_or_le 2000 mid with z | z
            · exfalso
              have := Int.mul_le_mul_of_nonneg_left (show 2001 ≤ mid by omega) (show 0 ≤ 2 * f.a by omega)
              omega
            · omega
        wtm_at "rs"
        generalize -f.b * h / (2 * f.a) = mid at *
        refine rd_forR (fun j σ H2 => ∃ (P2 : List (Int × Int)) (v9 v10 : Option V), σ = [some (.ref l), some (.int M), some (.int f.a), some (.int f.b), some (.int f.c), some (.int P2.length), some (.int y), some (.int h), some (.int mid), v9, v10] ∧ G = H2 ∧ PtRow f M P1 h (mid - 13) (mid - 13 + j) P2) ⟨P1, _, _, rfl, rfl, by simpa using PtRow.nil pin.nd⟩ ?_ ?_
        · rintro j σ H2 hj ⟨P2, v9, v10, rfl, rfl, pr⟩
          have ej : mid - 13 + ((j + 1 : Nat) : Int) = mid - 13 + j + 1 := by omega
          rw [ej]
          generalize hx : mid - 13 + (j : Int) = x at *
          have bx : Bd 12 x := Bd.of (by omega) (by omega)
          wtm_at "rs"
          by_cases hv : f.at x h ≤ M
          · rw [if_pos (decide_eq_true (show f.a * x * x + f.b * x * h + f.c * h * h ≤ M from hv))]
            wtm_at "rs"
            exact ⟨P2 ++ [(x, h)], _, _, by rw [List.length_append]; rfl, rfl, pr.put (by omega) hv fresh⟩
          · rw [if_neg (show ¬ decide (f.a * x * x + f.b * x * h + f.c * h * h ≤ M) = true by rw [decide_eq_true_iff]; exact hv)]
            wtm_at "rs"
            exact ⟨P2, _, _, rfl, rfl, pr.skip hv⟩
        · rintro σ H2 ⟨P2, v9, v10, rfl, rfl, pr⟩
          rw [show mid - 13 + (((mid + 15 - (mid - 13)).toNat : Nat) : Int) = mid + 15 by omega] at pr
          wtm_at "rs"
          exact ⟨rfl, P2, _, _, _, _, rfl, by rw [take_snoc hh]; exact pin.row pr rin⟩
      · rintro σ ⟨P1, v7, v8, v9, v10, rfl, pin⟩
        rw [List.length_map, List.take_length] at pin
        wtm_at "rs"
        exact ⟨(101 - (y + 1)).toNat, by omega, y + 1, P1, _, _, _, _, rfl, by omega, by omega, rfl, sm.trans smG, nG, so.next pin y0 memh2⟩
    · rw [if_neg (by rw [decide_eq_true_iff]; exact c)]
      wtm_at "rs"
      exact q P H' sm n1 (so.done fo y0 (by omega))
/-! ### side_of -/
def spSide : Sp := fun vs H Q _ => ∃ s : Int, vs = [.int s] ∧ s < 2 ^ 400 ∧ Q (vOpt (sideO s)) H
theorem ok_side_of (T : Txt K mg Ad) : Def P w K mg base 1 "side_of" ["square"] spSide := by
  refine T.d_side_of.ok sc_side_of (fun vs H Q E h => ?_) (fun f cdv A outer s H vs Q E hr h => ?_)
  · obtain ⟨s, rfl, _⟩ := h
    rfl
  · obtain ⟨s, rfl, hb, q⟩ := h
    refine ⟨_, (pss_cons (ps_set (i := 1) sc_side_of.nd rfl (Or.inl rfl) pe_int)
      (pss_cons (ps_set (i := 2) sc_side_of.nd rfl (Or.inl rfl) (pe_op op_add (pv 0) pe_int))
      (pss_cons (ps_while (passes_of rfl) (pt_cmpR op_gt (pe_op op_sub (pv 2) (pv 1)) pe_int (nomark _)) (pss_cons (ps_set (i := 3) sc_side_of.nd rfl (Or.inl rfl) (pe_op op_fdivB (pe_op op_add (pv 1) (pv 2)) pe_int))
      (pss_one (ps_if (pt_cmpR op_le (pe_op op_mulB (pv 3) (pv 3)) (pv 0) (nomark _)) (pss_one (ps_set (i := 1) sc_side_of.nd rfl (Or.inl rfl) (pv 3))) (pss_one (ps_set (i := 2) sc_side_of.nd rfl (Or.inl rfl) (pv 3)))))))
      (pss_cons (ps_if (pt_cmpR op_eq (pe_op op_mulB (pv 1) (pv 1)) (pv 0) (nomark _)) (pss_one (ps_ret (pv 1))) pss_nil)
      (pss_one (ps_ret pe_non)))))), ?_⟩
    try dsimp only [cxOf]
    wtm_at "rs"
    refine rd_while (fun μ σ H' => ∃ (lo hi : Int) (v3 : Option V), μ = (hi - lo).toNat ∧ σ = [some (.int s), some (.int lo), some (.int hi), v3] ∧ H = H' ∧ 0 ≤ lo ∧ (s < 0 ∧ lo = 0 ∧ hi ≤ 0 ∨ 0 ≤ s ∧ lo < hi ∧ hi ≤ s + 1 ∧ lo * lo ≤ s ∧ s < hi * hi)) _
      ⟨0, s + 1, _, rfl, rfl, rfl, by omega, ?_⟩ ?_
    · by_cases h : s < 0
      · exact .inl ⟨h, rfl, by omega⟩
      · have := QR.le_sq (show 1 ≤ s + 1 by omega)
        exact .inr ⟨by omega, by omega, by omega, by omega, by omega⟩
    · rintro μ σ H' ⟨lo, hi, v3, rfl, rfl, rfl, h0, inv⟩
      have Bl : Bd 400 lo := Bd.of (by omega) (by omega)
      wtm_at "rs"
      wtm_at "i"
      · rename_i h1
        rcases inv with ⟨a, b, c⟩ | ⟨a, b, c, d, e⟩
        · omega
        have Bm : Bd 401 ((lo + hi) / 2) := Bd.of (by omega) (by omega)
        obtain ⟨m0, m1⟩ := side_step h0 h1 rfl
        wtm_at "rs"
        generalize (lo + hi) / 2 = m at *
        wtm_at "i"
        · rename_i h2
          wtm_at "rs"
          exact ⟨_, by omega, m, hi, _, rfl, rfl, rfl, by omega, .inr ⟨a, m1, c, by omega, e⟩⟩
        · rename_i h2
          wtm_at "rs"
          exact ⟨_, by omega, lo, m, _, rfl, rfl, rfl, h0, .inr ⟨a, m0, by omega, d, by omega⟩⟩
      · rename_i h1
        wtm_at "rs"
        wtm_at "i"
        · rename_i h2
          rw [sideO_some h0 h2] at q
          wtm_at "rs"
          exact q
        · rename_i h2
          have : sideO s = none := sideO_none fun r hr e => by
            rcases inv with ⟨a, b, c⟩ | ⟨a, b, c, d, e2⟩
            · have := sq_nonneg r
              omega
            · have h3 : hi = lo + 1 := by omega
              subst h3
              rcases Int.lt_trichotomy r lo with z | z | z
              · have := Int.mul_self_lt_mul_self hr z
                omega
              · rw [z] at e
                exact h2 e
              · have := sq_mono (show 0 ≤ lo + 1 by omega) (show lo + 1 ≤ r by omega)
                omega
          rw [this] at q
          wtm_at "rs"
          exact q
theorem use_side {s : Int} {H : Hp} {Q : VK} {E : XK} (hb : s < 2 ^ 400) (q : Q (vOpt (sideO s)) H) : spSide [.int s] H Q E := ⟨s, rfl, hb, q⟩
/-! ### plain_ways -/
theorem pm_lst {i : Int} : (∀ u, u ∈ (if i < -i then [i, -i] else if -i < i then [-i, i] else [i]) ↔ u = i ∨ u = -i) ∧ (if i < -i then [i, -i] else if -i < i then [-i, i] else [i]).Nodup ∧ (if i < -i then [i, -i] else if -i < i then [-i, i] else [i]).length ≤ 2 := by
  by_cases h1 : i < -i
  · rw [if_pos h1]
    refine ⟨fun u => by simp, by simp; omega, by simp⟩
  · rw [if_neg h1]
    by_cases h2 : -i < i
    · rw [if_pos h2]
      refine ⟨fun u => by simp [or_comm], by simp; omega, by simp⟩
    · rw [if_neg h2]
      refine ⟨fun u => by simp; omega, by simp, by simp⟩
def spPW (C : Addr) : Sp := fun vs H Q E => ∃ (p : Addr) (f : Fm) (m : Int), vs = [.ref p, .int m] ∧ IsF C H p f ∧ f.ok ∧ Fm.bd 100 f ∧ 0 ≤ m ∧ m ≤ 10 ^ 9 ∧ 4 * f.a * m ≤ 10 ^ 6 ∧ -(10 ^ 9) ≤ f.D ∧ NoT H ∧
  ∀ (D : Addr) (ts : List Addr) (rs : List (Int × Int)) (H' : Hp), Same H H' → NoT H' → H D = none → H' D = some (.lst (ts.map V.ref)) → RowsAt H' ts (rs.map prV) → WaySet f m rs → rs.length ≤ 4004 → Q (.ref D) H'
theorem ok_plain_ways (T : Txt K mg Ad) : Def P w K mg base 2 "plain_ways" ["form", "m"] (spPW Ad.c_Form) := by
  refine T.d_plain_ways.okC sc_plain_ways (fun vs H Q E h => ?_) (fun f cdv hcd A outer s H vs Q E hr h => ?_)
  · obtain ⟨p, f, m, rfl, _⟩ := h
    rfl
  · obtain ⟨p, f, m, rfl, ⟨dx, hp⟩, fo, ⟨ba, bb, bc⟩, m0, m1, am, D0, nt, q⟩ := h
    refine ⟨_, (pss_cons (ps_set (i := 2) sc_plain_ways.nd rfl (Or.inl rfl) (pe_lst pa_nil))
      (pss_cons (ps_set (i := 3) sc_plain_ways.nd rfl (Or.inl rfl) pe_int)
      (pss_cons (ps_set (i := 4) sc_plain_ways.nd rfl (Or.inl rfl) (pe_op op_mulB (pe_op op_mulB pe_int (pe_fldC (pv 0) T.cl_Form T.nf_Form_a)) (pv 1)))
      (pss_cons (ps_while (passes_of rfl) (pt_cmpR op_ge (pv 4) pe_int (nomark _)) (pss_cons (ps_set (i := 5) sc_plain_ways.nd rfl (Or.inl rfl) (pe_d (ok_side_of T) (hr.mono (by decide)) (passes_call (takes_of rfl rfl rfl rfl) (fun _ _ _ _ h => h)) (pa_cons (pv 4) pa_nil)))
      (pss_cons (ps_if (pt_cmpR op_notN (pv 5) pe_non (nomark _)) (pss_one (ps_for (passes_of rfl) rfl (pi_list (pe_callB (cr_sortedSet rfl) (by rfl) T.b_sorted (by decide +kernel) (pa_cons (pe_set2 (pv 5) (pe_un un_neg (pv 5)) hcd) pa_nil))) (pg_name (i := 6) sc_plain_ways.nd rfl (Or.inl rfl)) (pss_one (ps_for (passes_of rfl) rfl (pi_list (pe_callB (cr_sortedSet rfl) (by rfl) T.b_sorted (by decide +kernel) (pa_cons (pe_set2 (pv 3) (pe_un un_neg (pv 3)) hcd) pa_nil))) (pg_name (i := 7) sc_plain_ways.nd rfl (Or.inl rfl)) (pss_cons (ps_set (i := 8) sc_plain_ways.nd rfl (Or.inl rfl) (pe_op op_sub (pv 6) (pe_op op_mulB (pe_fldC (pv 0) T.cl_Form T.nf_Form_b) (pv 7))))
      (pss_one (ps_if (pt_cmpR op_eq (pe_op op_mod (pv 8) (pe_op op_mulB pe_int (pe_fldC (pv 0) T.cl_Form T.nf_Form_a))) pe_int (nomark _)) (pss_one (ps_expr (pe_bm PySem.F.plainAttrs_list PySem.F.slot_list_append PySem.F.type_list_append mt_append (pv 2) (pa_cons (pe_tup (pa_cons (pe_op op_fdivB (pv 8) (pe_op op_mulB pe_int (pe_fldC (pv 0) T.cl_Form T.nf_Form_a))) (pa_cons (pv 7) pa_nil))) pa_nil)))) pss_nil))))))) pss_nil)
      (pss_cons (ps_aug (i := 3) sc_plain_ways.nd rfl (Or.inl rfl) pe_int ip_add)
      (pss_one (ps_set (i := 4) sc_plain_ways.nd rfl (Or.inl rfl) (pe_op op_add (pe_op op_mulB (pe_op op_mulB pe_int (pe_fldC (pv 0) T.cl_Form T.nf_Form_a)) (pv 1)) (pe_op op_mulB (pe_op op_mulB (pe_fldC (pv 0) T.cl_Form T.nf_Form_discriminant) (pv 3)) (pv 3)))))))))
      (pss_one (ps_ret (pv 2))))))), ?_⟩
    try dsimp only [cxOf]
    have fa := fo.1
    have la := ba.lt
    have fD := fo.2
    have bm : Bd 40 m := Bd.of (by omega) (by have : (10 : Int) ^ 9 < 2 ^ 40 := by decide
                                              omega)
    have bD : Bd 40 f.D := Bd.of (by have : (10 : Int) ^ 9 < 2 ^ 40 := by decide
                                     omega) (by omega)
    have am0 : 0 ≤ 4 * f.a * m := Int.mul_nonneg (by omega) m0
    have B := Hv.start nt
    wtm_at "rs"
    rename_i D hD
    have B := B.new (o := .lst []) hD
    clear hD
    refine B.gen fun G B => ?_
    have hpG := B.oAt hp
    wtm_at "rs"
    refine rd_while (fun μ σ H' => ∃ (y : Int) (ts : List Addr) (rs : List (Int × Int)) (v5 v6 v7 v8 : Option V), μ = (1001 - y).toNat ∧ 0 ≤ y ∧ y ≤ 1001 ∧ σ = [some (.ref p), some (.int m), some (.ref D), some (.int y), some (.int (4 * f.a * m + f.D * y * y)), v5, v6, v7, v8] ∧ Hv noX H [(D, .lst (ts.map V.ref))] [] [fun G => RowsAt G ts (rs.map prV)] H' ∧ PlainSo f m y rs) 1001
      ⟨0, [], [], none, none, none, none, rfl, by omega, by omega, ?_, B.rig (fun G _ => trivial), PlainSo.zero⟩ ?_
    · rw [Int.mul_zero, Int.add_zero]
      rfl
    clear B hpG
    rintro μ σ H' ⟨y, ts, rs, v5, v6, v7, v8, rfl, y0, y1, rfl, B, so⟩
    have bY : Bd 12 y := Bd.of (by omega) (by omega)
    have e1 : f.D * y * y = f.D * (y * y) := Int.mul_assoc ..
    have yy := sq_nonneg y
    have hpG := B.oAt hp
    wtm_at "rs"
    by_cases c : 0 ≤ 4 * f.a * m + f.D * y * y
    · rw [if_pos (decide_eq_true c)]
      have lt : 4 * f.a * m + f.D * y * y < 2 ^ 400 := by
        have l1 : -f.D * (y * y) ≥ 0 := Int.mul_nonneg (by omega) yy
        rw [Int.neg_mul] at l1
        have : (10 : Int) ^ 6 < 2 ^ 400 := by decide +kernel
        omega
      have y2 : y ≤ 1000 := by
        rcases Int.lt_or_le y 1001 with z | z
        · omega
        · exfalso
          have l1 : 1 * (y * y) ≤ -f.D * (y * y) := Int.mul_le_mul_of_nonneg_right (by omega) yy
          rw [Int.neg_mul] at l1
          have l2 : 1001 * 1001 ≤ y * y := sq_le (x := 1001) (by omega)
          omega
      wtm_at "rs"
      refine use_side lt ?_
      cases hs : sideO (4 * f.a * m + f.D * y * y) with
      | none =>
        simp only [vOpt]
        wtm_at "rs"
        refine ⟨(1001 - (y + 1)).toNat, by omega, y + 1, ts, rs, _, v6, v7, v8, rfl, by omega, by omega, rfl, B, ?_⟩
        refine so.next (PlainIn.nil so.nd) fa y0 (by simp) fun u h => ?_
        constructor
        · intro z
          cases z
        · rintro ⟨h1, h2⟩
          exfalso
          rw [← e1] at h1
          rcases Int.le_total 0 u with z | z
          · exact sideO_no hs z h1
          · exact sideO_no hs (show 0 ≤ -u by omega) (by rw [Int.neg_mul_neg]; exact h1)
      | some r =>
        obtain ⟨r0, rr⟩ := sideO_prop hs
        simp only [vOpt]
        wtm_at "rs"
        intro S1 hS1
        wtm_at "rs"
        refine ⟨_, _, rfl, rfl, upd_same, ?_⟩
        have B : Hv _ _ _ _ _ (upd (upd H' S1 (SetO w S1 setNo 0)) S1 (SetO w S1 (fun k => decide (k = r ∨ k = -r)) (if r = -r then 1 else 2))) := B.next (same_upd2 (same_new hS1) hS1) (NoT.upd (NoT.upd B.nt rfl) rfl)
        wtm_at "rs"
        refine rd_sortSet2 upd_same (by split <;> decide) fun L1 hL1 => ?_
        obtain ⟨memR, ndR, lenR⟩ := pm_lst (i := r)
        obtain ⟨memH, ndH, lenH⟩ := pm_lst (i := y)
        generalize (if r < -r then [r, -r] else if -r < r then [-r, r] else [r]) = Lr at *
        have B := B.newL (o := .lst (Lr.map V.int)) hL1
        clear hL1 hS1
        refine B.gen fun G1 B => ?_
        wtm_at "rs"
        refine rd_forL (xs := Lr.map V.int) (fun i σ H' => ∃ (ts : List Addr) (rs1 : List (Int × Int)) (v6 v7 v8 : Option V), σ = [some (.ref p), some (.int m), some (.ref D), some (.int y), some (.int (4 * f.a * m + f.D * y * y)), some (.int r), v6, v7, v8] ∧ Hv noX H [(D, .lst (ts.map V.ref))] [(L1, .lst (Lr.map V.int))] [fun G => RowsAt G ts (rs1.map prV)] H' ∧ PlainIn f rs (prodL (Lr.take i) (if y < -y then [y, -y] else if -y < y then [-y, y] else [y])) rs1)
          ⟨ts, rs, _, _, _, rfl, B, PlainIn.nil so.nd⟩ (fun i σ H' _ ⟨_, _, _, _, _, _, B, _⟩ => SqL.of (B.lAt List.mem_cons_self)) ?_ ?_
        · clear B hpG
          rintro i v σ H' hi ⟨ts, rs1, v6, v7, v8, rfl, B, pi⟩
          rw [List.getElem?_map] at hi
          obtain ⟨u, hu, rfl⟩ := Option.map_eq_some_iff.mp hi
          have hpG := B.oAt hp
          wtm_at "rs"
          intro S1 hS1
          wtm_at "rs"
          refine ⟨_, _, rfl, rfl, upd_same, ?_⟩
          have B : Hv _ _ _ _ _ (upd (upd H' S1 (SetO w S1 setNo 0)) S1 (SetO w S1 (fun k => decide (k = y ∨ k = -y)) (if y = -y then 1 else 2))) := B.next (same_upd2 (same_new hS1) hS1) (NoT.upd (NoT.upd B.nt rfl) rfl)
          wtm_at "rs"
          refine rd_sortSet2 upd_same (by split <;> decide) fun L2 hL2 => ?_
          generalize (if y < -y then [y, -y] else if -y < y then [-y, y] else [y]) = Lh at *
          have B := B.newL (o := .lst (Lh.map V.int)) hL2
          clear hL2 hS1
          refine B.gen fun G1 B => ?_
          wtm_at "rs"
          have hum := List.mem_of_getElem? hu
          have hur := (memR u).mp hum
          have r2 : r < 1001 := by
            rcases Int.lt_or_le r 1001 with z | z
            · exact z
            · exfalso
              have l1 : -f.D * (y * y) ≥ 0 := Int.mul_nonneg (by omega) yy
              rw [Int.neg_mul] at l1
              have l2 : 1001 * 1001 ≤ r * r := sq_le (x := 1001) (by omega)
              omega
          refine rd_forL (xs := Lh.map V.int) (fun j σ H' => ∃ (ts : List Addr) (rs1 : List (Int × Int)) (v7 v8 : Option V), σ = [some (.ref p), some (.int m), some (.ref D), some (.int y), some (.int (4 * f.a * m + f.D * y * y)), some (.int r), some (.int u), v7, v8] ∧ Hv noX H [(D, .lst (ts.map V.ref))] [(L2, .lst (Lh.map V.int)), (L1, .lst (Lr.map V.int))] [fun G => RowsAt G ts (rs1.map prV)] H' ∧ PlainIn f rs (prodL (Lr.take i) Lh ++ (Lh.take j).map fun h => (u, h)) rs1)
            ⟨ts, rs1, _, _, rfl, B, by simpa using pi⟩ (fun i σ H' _ ⟨_, _, _, _, _, B, _⟩ => SqL.of (B.lAt List.mem_cons_self)) ?_ ?_
          · clear B hpG pi
            rintro j v σ H' hj ⟨ts, rs1, v7, v8, rfl, B, pi⟩
            rw [List.getElem?_map] at hj
            obtain ⟨h, hh, rfl⟩ := Option.map_eq_some_iff.mp hj
            have hhr := (memH h).mp (List.mem_of_getElem? hh)
            have bh : Bd 12 h := Bd.of (by omega) (by omega)
            have hpG := B.oAt hp
            have rw' := B.zAt (P := fun G => RowsAt G ts (rs1.map prV)) List.mem_cons_self
            have e2 : prodL (Lr.take i) Lh ++ (Lh.take (j + 1)).map (fun h => (u, h)) = (prodL (Lr.take i) Lh ++ (Lh.take j).map fun h => (u, h)) ++ [(u, h)] := by
              rw [take_snoc hh, List.map_append, List.append_assoc]
              rfl
            have le1 : (Lr.take i).length ≤ 2 := Nat.le_trans (List.length_take_le' ..) lenR
            have le2 : (Lh.take j).length ≤ 2 := Nat.le_trans (List.length_take_le' ..) lenH
            have le3 : (prodL (Lr.take i) Lh).length ≤ 2 * 2 := by
              rw [prod_len]
              exact Nat.mul_le_mul le1 lenH
            have le4 := pi.len
            have le5 := so.len
            have le6 := RowsAt.len rw'
            rw [List.length_append, List.length_map] at le4
            rw [List.length_map] at le6
            have few : (ts.map V.ref).length < 1000000 := by
              rw [List.length_map]
              omega
            wtm_at "rs"
            by_cases hd : (u - f.b * h) % (2 * f.a) = 0
            · rw [if_pos (decide_eq_true hd)]
              wtm_at "rs"
              rename_i N hN
              rw [show ts.map V.ref ++ [V.ref N] = (ts ++ [N]).map V.ref by simp]
              have ht : upd H' N (.tup [.int ((u - f.b * h) / (2 * f.a)), .int h]) N = some (.tup (prV ((u - f.b * h) / (2 * f.a), h))) := upd_same
              have rw2 := RowsAt.snoc ht (rw'.mono (same_new hN))
              have B2 := B.next (same_new (o := .tup [.int ((u - f.b * h) / (2 * f.a)), .int h]) hN) (NoT.upd B.nt rfl)
              have B3 := B2.put (u := .lst ((ts ++ [N]).map V.ref))
              have fr := pi.fresh fa hd (fun q hq => by
                have := (so.mem q).mp hq
                omega) (fun z => by
                rcases List.mem_append.mp z with z | z
                · exact not_mem_take ndR hu (mem_prod.mp z).1
                · obtain ⟨w, hw, e⟩ := List.mem_map.mp z
                  rw [(Prod.mk.inj e).2] at hw
                  exact not_mem_take ndH hh hw)
              refine ⟨ts ++ [N], rs1 ++ [((u - f.b * h) / (2 * f.a), h)], _, _, rfl, ⟨B3.old, B3.nt, B3.m, B3.l, B3.nd, B3.ml, fun P hP => ?_⟩, by rw [e2]; exact pi.put fa hd fr⟩
              rw [List.mem_singleton.mp hP, List.map_append]
              exact RowsAt.rig (rw2.rig _ (Keeps.put (B2.mAt List.mem_cons_self) rfl))
            · rw [if_neg (by rw [decide_eq_true_iff]; exact hd)]
              wtm_at "rs"
              exact ⟨ts, rs1, _, _, rfl, B, by rw [e2]; exact pi.skip fa hd⟩
          · clear B hpG pi
            rintro σ H' ⟨ts, rs1, v7, v8, rfl, B, pi⟩
            rw [List.length_map, List.take_length] at pi
            wtm_at "rs"
            exact ⟨ts, rs1, _, _, _, rfl, B.sub (by wtm_at "vsub") (by wtm_at "vsub"), by rw [take_snoc hu, prod_snoc]; exact pi⟩
        · clear B hpG
          rintro σ H' ⟨ts, rs1, v6, v7, v8, rfl, B, pi⟩
          rw [List.length_map, List.take_length] at pi
          have hpG := B.oAt hp
          wtm_at "rs"
          refine ⟨(1001 - (y + 1)).toNat, by omega, y + 1, ts, rs1, _, _, _, _, rfl, by omega, by omega, rfl, B.sub (by wtm_at "vsub") (by wtm_at "vsub"), ?_⟩
          refine so.next pi fa y0 (by rw [prod_len]; exact Nat.mul_le_mul lenR lenH) fun u h => ?_
          rw [mem_prod, memR, memH]
          refine and_congr ?_ Iff.rfl
          rw [← e1, ← rr]
          constructor
          · rintro (rfl | rfl)
            · rfl
            · exact Int.neg_mul_neg ..
          · intro z
            rcases Int.le_total 0 u with k | k
            · exact .inl (sq_inj k r0 z)
            · exact .inr (by
                have := sq_inj (show 0 ≤ -u by omega) r0 (by rw [Int.neg_mul_neg]; exact z)
                omega)
    · rw [if_neg (by rw [decide_eq_true_iff]; exact c)]
      wtm_at "rs"
      have lr := so.len
      exact q D ts rs H' B.same B.nt (B.fr List.mem_cons_self) (by wtm_at "h") (B.zAt (P := fun G => RowsAt G ts (rs.map prV)) List.mem_cons_self) (so.done fo y0 (by omega)) (by omega)
theorem use_PW {C p : Addr} {f : Fm} {m : Int} {H : Hp} {Q : VK} {E : XK} (h : IsF C H p f) (fo : f.ok) (hb : Fm.bd 100 f) (m0 : 0 ≤ m) (m1 : m ≤ 10 ^ 9) (am : 4 * f.a * m ≤ 10 ^ 6) (D0 : -(10 ^ 9) ≤ f.D) (nt : NoT H)
    (q : ∀ (D : Addr) (ts : List Addr) (rs : List (Int × Int)) (H' : Hp), Same H H' → NoT H' → H D = none → H' D = some (.lst (ts.map V.ref)) → RowsAt H' ts (rs.map prV) → WaySet f m rs → rs.length ≤ 4004 → Q (.ref D) H') : spPW C [.ref p, .int m] H Q E := ⟨p, f, m, rfl, h, fo, hb, m0, m1, am, D0, nt, q⟩
/-! ### Form.next_step -/
def spFNext (C : Addr) : Sp := fun vs H Q E => ∃ (p : Addr) (f : Fm), vs = [.ref p] ∧ IsF C H p f ∧ f.ok ∧ Fm.bd 240 f ∧ Q (vOpt f.nx) H
theorem ok_Form_next_step (T : Txt K mg Ad) : MDef P w K mg base 1 Ad.c_Form "next_step" ["self"] (spFNext Ad.c_Form) := by
  refine T.d_Form_next_step.ok sc_Form_next_step (fun vs H Q E h => ?_) (fun f cdv A outer s H vs Q E hr h => ?_)
  · obtain ⟨p, f, rfl, _⟩ := h
    rfl
  · obtain ⟨p, f, rfl, ⟨dx, hp⟩, ho, ⟨ba, bb, bc⟩, q⟩ := h
    have la := ba.lt
    have h1 := ho.1
    refine ⟨_, (pss_cons (ps_if (pt_not (pt_chain op_lt op_le (pe_un un_neg (pe_fldC (pv 0) T.cl_Form T.nf_Form_a)) (pe_fldC (pv 0) T.cl_Form T.nf_Form_b) (pe_fldC (pv 0) T.cl_Form T.nf_Form_a))) (pss_one (ps_ret (pe_op op_fdivB (pe_op op_sub (pe_fldC (pv 0) T.cl_Form T.nf_Form_a) (pe_fldC (pv 0) T.cl_Form T.nf_Form_b)) (pe_op op_mulB pe_int (pe_fldC (pv 0) T.cl_Form T.nf_Form_a))))) pss_nil)
      (pss_cons (ps_if (PW.pt (pw_or (pt_cmpR op_gt (pe_fldC (pv 0) T.cl_Form T.nf_Form_a) (pe_fldC (pv 0) T.cl_Form T.nf_Form_c) (nomark _)) (pw_or1 (PW.pt (pw_and (pt_cmpR op_eq (pe_fldC (pv 0) T.cl_Form T.nf_Form_a) (pe_fldC (pv 0) T.cl_Form T.nf_Form_c) (nomark _)) (pw_and1 (pt_cmpR op_lt (pe_fldC (pv 0) T.cl_Form T.nf_Form_b) pe_int (nomark _)))))))) (pss_one (ps_ret pe_int)) pss_nil)
      (pss_one (ps_ret pe_non)))), ?_⟩
    try dsimp only [cxOf]
    unfold Fm.nx at q
    wtm_at "ra"
    all_goals
      first
        | (rw [if_pos (by omega)] at q; exact q)
        | (rw [if_neg (by omega), if_pos (by omega)] at q; exact q)
        | (rw [if_neg (by omega), if_neg (by omega)] at q; exact q)
theorem use_FNext {C : Addr} {p : Addr} {f : Fm} {H : Hp} {Q : VK} {E : XK} (h : IsF C H p f) (ho : f.ok) (hb : Fm.bd 240 f) (q : Q (vOpt f.nx) H) : spFNext C [.ref p] H Q E := ⟨p, f, rfl, h, ho, hb, q⟩
/-! ### Form.steps -/
def spFSteps (C : Addr) : Sp := fun vs H Q E => ∃ (p : Addr) (f : Fm), vs = [.ref p] ∧ IsF C H p f ∧ f.ok ∧ Fm.bd 200 f ∧ (stepsF f).length ≤ 1000000 ∧ NoT H ∧ ∀ l H', Same H H' → NoT H' → H l = none → H' l = some (.lst ((stepsF f).map V.int)) → Q (.ref l) H'
theorem ok_Form_steps (T : Txt K mg Ad) : MDef P w K mg base 6 Ad.c_Form "steps" ["self"] (spFSteps Ad.c_Form) := by
  refine T.d_Form_steps.ok sc_Form_steps (fun vs H Q E h => ?_) (fun f cdv A outer s H vs Q E hr h => ?_)
  · obtain ⟨p, f, rfl, _⟩ := h
    rfl
  · obtain ⟨p, f, rfl, hp, ho, hb, hlen, nt, q⟩ := h
    refine ⟨_, (pss_cons (ps_set (i := 1) sc_Form_steps.nd rfl (Or.inl rfl) (pe_lst pa_nil))
      (pss_cons (ps_set (i := 2) sc_Form_steps.nd rfl (Or.inl rfl) (pv 0))
      (pss_cons (ps_set (i := 3) sc_Form_steps.nd rfl (Or.inl rfl) (pe_md0 (ok_Form_next_step T) (pv 2) T.cl_Form (hr.mono (by decide)) (passes_call (takes_of rfl rfl rfl rfl) (fun _ _ _ _ h => h))))
      (pss_cons (ps_while (passes_of rfl) (pt_cmpR op_notN (pv 3) pe_non (nomark _)) (pss_cons (ps_expr (pe_bm PySem.F.plainAttrs_list PySem.F.slot_list_append PySem.F.type_list_append mt_append (pv 1) (pa_cons (pv 3) pa_nil)))
      (pss_cons (ps_set (i := 2) sc_Form_steps.nd rfl (Or.inl rfl) (pe_md (ok_Form_stepped T) (pv 2) T.cl_Form (hr.mono (by decide)) (passes_call (takes_of rfl rfl rfl rfl) (fun _ _ _ _ h => h)) (pa_cons (pv 3) pa_nil)))
      (pss_one (ps_set (i := 3) sc_Form_steps.nd rfl (Or.inl rfl) (pe_md0 (ok_Form_next_step T) (pv 2) T.cl_Form (hr.mono (by decide)) (passes_call (takes_of rfl rfl rfl rfl) (fun _ _ _ _ h => h))))))))
      (pss_one (ps_ret (pv 1))))))), ?_⟩
    try dsimp only [cxOf]
    wtm_at "rs"
    rename_i l hl
    obtain ⟨dx, hp'⟩ := hp
    wtm_at "rs"
    refine use_FNext ⟨dx, by wtm_at "h"⟩ ho (hb.mono (by decide)) ?_
    wtm_at "rs"
    refine rd_while (fun μ σ H' => ∃ (x : Addr) (g : Fm) (xs : List Int), μ = g.mu ∧ σ = [some (.ref p), some (.ref l), some (.ref x), some (vOpt g.nx)] ∧ Same H H' ∧ NoT H' ∧ H' l = some (.lst (xs.map V.int)) ∧ IsF Ad.c_Form H' x g ∧ g.ok ∧ g.lo (2 ^ 200) ∧ xs ++ stepsF g = stepsF f) _
      ⟨p, f, [], rfl, rfl, same_new hl, NoT.upd nt rfl, upd_same, ⟨dx, by wtm_at "h"⟩, ho, Fm.bd_lo hb, rfl⟩ ?_
    rintro μ σ H' ⟨x, g, xs, rfl, rfl, sm, nt', hl', ⟨dy, hx⟩, go, glo, hs⟩
    cases e : g.nx with
    | none =>
      rw [stepsF_none e, List.append_nil] at hs
      subst hs
      simp only [vOpt]
      wtm_at "rs"
      exact q l H' sm nt' hl hl'
    | some k =>
      have gb := Fm.lo_bd go glo
      have kb := Fm.nx_bd go gb e
      have xl : xs.length < 1000000 := by
        rw [stepsF_some go e] at hs
        have := congrArg List.length hs
        simp at this
        omega
      have xl' : (xs.map V.int).length < 1000000 := by rw [List.length_map]; exact xl
      simp only [vOpt]
      wtm_at "rs"
      have hx' : IsF Ad.c_Form (upd H' l (.lst (xs.map V.int ++ [.int k]))) x g := ⟨dy, by rw [upd_ne (ne_of hx hl' (by intro z; cases z))]; exact hx⟩
      obtain ⟨dz, hx''⟩ := id hx'
      wtm_at "rs"
      refine use_FStep hx' go (gb.mono (by decide)) (kb.mono (by decide)) (by wtm_at "nt") fun x2 H2 sm2 nt2 hn2 h2 => ?_
      wtm_at "rs"
      obtain ⟨dw, h2'⟩ := id h2
      wtm_at "rs"
      refine use_FNext h2 (go.st k) (Fm.bd.mono (Fm.lo_bd (go.st k) (Fm.lo_st go glo e)) (by decide)) ?_
      wtm_at "rs"
      refine ⟨_, Fm.mu_lt go e, x2, g.st k, xs ++ [k], rfl, rfl, ?_, nt2, ?_, h2, go.st k, Fm.lo_st go glo e, ?_⟩
      · exact (same_upd2 sm hl).trans sm2
      · rw [sm2 _ _ upd_same, List.map_append]
        rfl
      · rw [← hs, stepsF_some go e, List.append_assoc]
        rfl
theorem use_FSteps {C : Addr} {p : Addr} {f : Fm} {H : Hp} {Q : VK} {E : XK} (h : IsF C H p f) (ho : f.ok) (hb : Fm.bd 200 f) (hl : (stepsF f).length ≤ 1000000) (nt : NoT H) (q : ∀ l H', Same H H' → NoT H' → H l = none → H' l = some (.lst ((stepsF f).map V.int)) → Q (.ref l) H') : spFSteps C [.ref p] H Q E := ⟨p, f, rfl, h, ho, hb, hl, nt, q⟩
/-! ### Form.reduced -/
def spFRed (C : Addr) : Sp := fun vs H Q E => ∃ (p : Addr) (f : Fm), vs = [.ref p] ∧ IsF C H p f ∧ f.ok ∧ Fm.bd 200 f ∧ (stepsF f).length ≤ 1000000 ∧ NoT H ∧ ∀ x H', Same H H' → NoT H' → IsF C H' x (redF f) → Q (.ref x) H'
theorem ok_Form_reduced (T : Txt K mg Ad) : MDef P w K mg base 7 Ad.c_Form "reduced" ["self"] (spFRed Ad.c_Form) := by
  refine T.d_Form_reduced.ok sc_Form_reduced (fun vs H Q E h => ?_) (fun f cdv A outer s H vs Q E hr h => ?_)
  · obtain ⟨p, f, rfl, _⟩ := h
    rfl
  · obtain ⟨p, f, rfl, ⟨dx, hp⟩, ho, hb, hlen, nt, q⟩ := h
    refine ⟨_, (pss_one (ps_ret (pe_md (ok_Form_turned T) (pv 0) T.cl_Form (hr.mono (by decide)) (passes_call (takes_of rfl rfl rfl rfl) (fun _ _ _ _ h => h)) (pa_cons (pe_md0 (ok_Form_steps T) (pv 0) T.cl_Form (hr.mono (by decide)) (passes_call (takes_of rfl rfl rfl rfl) (fun _ _ _ _ h => h))) pa_nil)))), ?_⟩
    try dsimp only [cxOf]
    wtm_at "rs"
    refine use_FSteps ⟨dx, hp⟩ ho hb hlen nt fun l H' sm nt' hn hl => ?_
    wtm_at "rs"
    obtain ⟨g1, g2⟩ := stepsF_bd f.mu f ho (Nat.le_refl _) (Fm.bd_lo hb)
    exact use_FTurn (IsF.mono ⟨dx, hp⟩ sm) ho (SqL.of hl) (fun i hi => (g2 i hi).mono (by decide)) (fun k hk => (g1 k hk).mono (by decide)) nt' fun x H2 sm2 nt2 hx => q x H2 (sm.trans sm2) nt2 hx
theorem use_FRed {C : Addr} {p : Addr} {f : Fm} {H : Hp} {Q : VK} {E : XK} (h : IsF C H p f) (ho : f.ok) (hb : Fm.bd 200 f) (hl : (stepsF f).length ≤ 1000000) (nt : NoT H) (q : ∀ x H', Same H H' → NoT H' → IsF C H' x (redF f) → Q (.ref x) H') : spFRed C [.ref p] H Q E := ⟨p, f, rfl, h, ho, hb, hl, nt, q⟩
/-! ### way_counts -/
def spWC (C : Addr) : Sp := fun vs H Q E => ∃ (p : Addr) (f : Fm) (M : Nat), vs = [.ref p, .int M] ∧ IsF C H p f ∧ f.ok ∧ Fm.bd 200 f ∧ (stepsF f).length ≤ 1000000 ∧ M ≤ 2000 ∧ -5000 ≤ f.D ∧ NoT H ∧
  ∀ (D : Addr) (H' : Hp), Same H H' → NoT H' → H D = none → H' D = some (.lst ((cntL f (M + 1)).map V.int)) → Q (.ref D) H'
theorem ok_way_counts (T : Txt K mg Ad) : Def P w K mg base 8 "way_counts" ["form", "most"] (spWC Ad.c_Form) := by
  refine T.d_way_counts.ok sc_way_counts (fun vs H Q E h => ?_) (fun f cdv A outer s H vs Q E hr h => ?_)
  · obtain ⟨p, f, M, rfl, _⟩ := h
    rfl
  · obtain ⟨p, f, M, rfl, ⟨dx, hp⟩, fo, hb, hl, m1, d0, nt, q⟩ := h
    refine ⟨_, (pss_cons (ps_set (i := 2) sc_way_counts.nd rfl (Or.inr rfl) (pe_md0 (ok_Form_reduced T) (pv 0) T.cl_Form (hr.mono (by decide)) (passes_call (takes_of rfl rfl rfl rfl) (fun _ _ _ _ h => h))))
      (pss_one (ps_ret (pe_lc (own := [("m", 3)])  (te := (tCB (rLenQ K) (tCons (tCall ((spPW Ad.c_Form)) [] E0 (tCons (tVar 2) (tCons (tVar 3) tNil))) tNil))) rfl sc_way_counts.nd  (pi_range1 (by rfl) T.b_range (pa_cons (pe_op op_add (pv 1) pe_int) pa_nil)) (blkOk_by (own := [("m", 3)]) (N := ["form", "most", "reduced", "m"]) (sc := defScope s_way_counts) (by decide +kernel)) (fun _ _ _ _ _ => (pg_name (i := 3) sc_way_counts.nd rfl (Or.inl rfl))) (fun _ _ _ _ _ => pts_nil) (fun _ _ _ _ _ => (pe_callB (id := "len") (r := rLenQ K) c_len (by rfl) T.b_len PySem.boot_len (pa_cons (pe_d (E := E0) (ok_plain_ways T) (hr.mono (by decide)) passL (pa_cons (pv 2) (pa_cons (pv 3) pa_nil))) pa_nil))))))), ?_⟩
    try dsimp only [cxOf]
    wtm_at "rs"
    refine use_FRed ⟨dx, hp⟩ fo hb hl nt fun x G s1 n1 hx => ?_
    have fr := redF_red f.mu f fo (Nat.le_refl _)
    have ro : (redF f).ok := fo.turn _
    have rD : (redF f).D = f.D := Fm.turn_D f _
    obtain ⟨a1, a2, a3, a4⟩ := red_small fr ro (by omega)
    have o := ro.1
    wtm_at "rs"
    rw [show ((M : Int) + 1).toNat = M + 1 by omega]
    refine rd_lcRP (fun i zs => zs = (cntL f i).map V.int) n1 rfl ?_ ?_
    · rintro D i zs H' hi s2 n2 hD hzs rfl
      have am : 4 * (redF f).a * (0 + (i : Int)) ≤ 160 * 2000 := Int.mul_le_mul (by omega) (by omega) (by omega) (by decide)
      wtm_at "r"
      refine ⟨rfl, ?_⟩
      wtm_at "rs"
      refine use_PW (hx.mono s2) ro (red_bd fr ro (by omega)) (by omega) (by omega) (by omega) (by omega) n2 fun D0 ts rs G3 s3 n3 hD0 hd0 hR0 ws0 len0 => ?_
      wtm_at "rs"
      have e := RowsAt.len hR0
      rw [List.length_map] at e
      refine put_P (P := fun zs => zs = (cntL f (i + 1)).map V.int) (s3 _ _ hzs) (by rw [List.length_map, cntL_len]; exact Nat.lt_of_lt_of_le (m := 3000) (by omega) (by decide)) (s2.trans s3) hD n3 ?_
      have ec : cnt f (i : Int) = rs.length := by
        rw [Int.zero_add] at ws0
        have := cnt_eq ws0
        rw [← this]
        exact (cnt_turn (ks := stepsF f)).symm
      rw [cntL_succ, List.map_append, ec, List.length_map, e]
      rfl
    · rintro D zs H' hD hzs s2 n2 rfl
      exact q D H' (s1.trans s2) n2 (s1.free hD) hzs
theorem use_WC {C p : Addr} {f : Fm} {M : Nat} {z : Int} {H : Hp} {Q : VK} {E : XK} (hz : z = (M : Int)) (h : IsF C H p f) (fo : f.ok) (hb : Fm.bd 200 f) (hl : (stepsF f).length ≤ 1000000) (m1 : M ≤ 2000) (d0 : -5000 ≤ f.D) (nt : NoT H)
    (q : ∀ (D : Addr) (H' : Hp), Same H H' → NoT H' → H D = none → H' D = some (.lst ((cntL f (M + 1)).map V.int)) → Q (.ref D) H') : spWC C [.ref p, .int z] H Q E := ⟨p, f, M, by rw [hz], h, fo, hb, hl, m1, d0, nt, q⟩
/-! ### moved_back -/
def spMB (K : PySem.W.Frag) : Sp := fun vs H Q E => ∃ (t s : Addr) (r : Int × Int) (ks : List Int), vs = [.ref t, .ref s] ∧ SqT K H t (prV r) ∧ SqL K H s (ks.map V.int) ∧ (∀ k ∈ ks, Bd 400 k) ∧ (∀ i, i ≤ ks.length → Bd 400 (backP r (ks.drop i)).1 ∧ Bd 400 (backP r (ks.drop i)).2) ∧ ∀ D, H D = none → Q (.ref D) (upd H D (.tup (prV (backP r ks))))
theorem ok_moved_back (T : Txt K mg Ad) : Def P w K mg base 1 "moved_back" ["point", "steps"] (spMB K) := by
  refine T.d_moved_back.ok sc_moved_back (fun vs H Q E h => ?_) (fun f cdv A outer s H vs Q E hr h => ?_)
  · obtain ⟨t, s, r, ks, rfl, _⟩ := h
    rfl
  · obtain ⟨t, s, r, ks, rfl, ht, hs, hk, hb, q⟩ := h
    replace ht : SqT K H t [.int r.1, .int r.2] := ht
    refine ⟨_, (pss_cons (ps_asg (pv 0) (pg_tup rfl (pgs_cons (pg_name (i := 2) sc_moved_back.nd rfl (Or.inl rfl)) (pgs_cons (pg_name (i := 3) sc_moved_back.nd rfl (Or.inl rfl)) pgs_nil))))
      (pss_cons (ps_for (passes_of rfl) rfl (pi_reversed (by rfl) T.b_reversed (pa_cons (pv 1) pa_nil)) (pg_name (i := 4) sc_moved_back.nd rfl (Or.inl rfl)) (pss_one (ps_if (pt_cmpR op_eq (pv 4) pe_int (nomark _)) (pss_one (ps_par (i := 2) (j := 3) rfl sc_moved_back.nd rfl rfl (by decide) rfl rfl (pa_cons (pe_un un_neg (pv 3)) (pa_cons (pv 2) pa_nil)) (by rfl))) (pss_one (ps_set (i := 2) sc_moved_back.nd rfl (Or.inl rfl) (pe_op op_add (pv 2) (pe_op op_mulB (pv 4) (pv 3))))))))
      (pss_one (ps_ret (pe_tup (pa_cons (pv 2) (pa_cons (pv 3) pa_nil))))))), ?_⟩
    try dsimp only [cxOf]
    wtm_at "rs"
    refine rd_forVs (xs := ks.map V.int) (fun i σ => ∃ v4, σ = [some (.ref t), some (.ref s), some (.int (backP r (ks.drop (ks.length - i))).1), some (.int (backP r (ks.drop (ks.length - i))).2), v4]) hs ⟨none, by rw [Nat.sub_zero, List.drop_length]; rfl⟩ ?_ ?_
    · rintro i z σ hi ⟨v4, rfl⟩
      have hin : i < ks.length := by
        have := (List.getElem?_eq_some_iff.mp hi).1
        simpa using this
      rw [List.getElem?_reverse (by rw [List.length_map]; exact hin), List.length_map, List.getElem?_map] at hi
      obtain ⟨k, hy, rfl⟩ := Option.map_eq_some_iff.mp hi
      have hkk := hk k (List.mem_of_getElem? hy)
      have hd : ks.drop (ks.length - (i + 1)) = k :: ks.drop (ks.length - i) := by
        obtain ⟨hlt, hv⟩ := List.getElem?_eq_some_iff.mp hy
        rw [show ks.length - (i + 1) = ks.length - 1 - i by omega, List.drop_eq_getElem_cons hlt, hv, show ks.length - 1 - i + 1 = ks.length - i by omega]
      obtain ⟨bu, bv⟩ := hb (ks.length - i) (by omega)
      have eb : backP r (ks.drop (ks.length - (i + 1))) = if k = 0 then (-(backP r (ks.drop (ks.length - i))).2, (backP r (ks.drop (ks.length - i))).1) else ((backP r (ks.drop (ks.length - i))).1 + k * (backP r (ks.drop (ks.length - i))).2, (backP r (ks.drop (ks.length - i))).2) := by
        rw [hd]
        rfl
      rw [eb]
      generalize backP r (ks.drop (ks.length - i)) = pq at *
      obtain ⟨u, v⟩ := pq
      dsimp only at bu bv ⊢
      wtm_at "ra"
      · rename_i h0
        rw [if_pos h0]
        exact ⟨rfl, _, rfl⟩
      · rename_i h0
        rw [if_neg h0]
        exact ⟨rfl, _, rfl⟩
    · rintro σ ⟨v4, rfl⟩
      rw [List.length_map, Nat.sub_self, List.drop_zero]
      wtm_at "rs"
      exact q _ (by assumption)
theorem use_MB {K : PySem.W.Frag} {t s : Addr} {r : Int × Int} {ks : List Int} {H : Hp} {Q : VK} {E : XK} (ht : SqT K H t (prV r)) (hs : SqL K H s (ks.map V.int)) (hk : ∀ k ∈ ks, Bd 400 k) (hb : ∀ i, i ≤ ks.length → Bd 400 (backP r (ks.drop i)).1 ∧ Bd 400 (backP r (ks.drop i)).2) (q : ∀ D, H D = none → Q (.ref D) (upd H D (.tup (prV (backP r ks))))) : spMB K [.ref t, .ref s] H Q E := ⟨t, s, r, ks, rfl, ht, hs, hk, hb, q⟩
/-! ### ways -/
def spWays (C : Addr) : Sp := fun vs H Q E => ∃ (p : Addr) (f : Fm) (m : Int), vs = [.ref p, .int m] ∧ IsF C H p f ∧ f.ok ∧ Fm.bd 200 f ∧ (stepsF f).length ≤ 1000000 ∧ 0 ≤ m ∧ m ≤ 2000 ∧ -5000 ≤ f.D ∧ NoT H ∧
  ∀ (D : Addr) (ts : List Addr) (rs : List (Int × Int)) (H' : Hp), Same H H' → NoT H' → H D = none → H' D = some (.lst (ts.map V.ref)) → RowsAt H' ts (rs.map prV) → WaysOf f m rs → rs.length ≤ 4004 → Q (.ref D) H'
theorem ok_ways (T : Txt K mg Ad) : Def P w K mg base 7 "ways" ["form", "m"] (spWays Ad.c_Form) := by
  refine T.d_ways.ok sc_ways (fun vs H Q E h => ?_) (fun f cdv A outer s H vs Q E hr h => ?_)
  · obtain ⟨p, f, m, rfl, _⟩ := h
    rfl
  · obtain ⟨p, f, m, rfl, ⟨dx, hp⟩, fo, hb, hl, m0, m1, d0, nt, q⟩ := h
    refine ⟨_, (pss_cons (ps_set (i := 2) sc_ways.nd rfl (Or.inr rfl) (pe_md0 (ok_Form_steps T) (pv 0) T.cl_Form (hr.mono (by decide)) (passes_call (takes_of rfl rfl rfl rfl) (fun _ _ _ _ h => h))))
      (pss_cons (ps_set (i := 3) sc_ways.nd rfl (Or.inl rfl) (pe_md (ok_Form_turned T) (pv 0) T.cl_Form (hr.mono (by decide)) (passes_call (takes_of rfl rfl rfl rfl) (fun _ _ _ _ h => h)) (pa_cons (pv 2) pa_nil)))
      (pss_one (ps_ret (pe_callB cr_sortedPO (by rfl) T.b_sorted (by decide +kernel) (pa_cons (pe_lc (own := [("point", 4)])  (te := (tCall ((spMB K)) [] E0 (tCons (tVar 4) (tCons (tVar 2) tNil)))) rfl sc_ways.nd  (pi_list (pe_d (ok_plain_ways T) (hr.mono (by decide)) (passes_call (takes_of rfl rfl rfl rfl) (fun _ _ _ _ h => h)) (pa_cons (pv 3) (pa_cons (pv 1) pa_nil)))) (blkOk_by (own := [("point", 4)]) (N := ["form", "m", "steps", "reduced", "point"]) (sc := defScope s_ways) (by decide +kernel)) (fun _ _ _ _ _ => (pg_name (i := 4) sc_ways.nd rfl (Or.inl rfl))) (fun _ _ _ _ _ => pts_nil) (fun _ _ _ _ _ => (pe_d (E := E0) (ok_moved_back T) (hr.mono (by decide)) passL (pa_cons (pv 4) (pa_cons (pv 2) pa_nil))))) pa_nil)))))), ?_⟩
    try dsimp only [cxOf]
    have B := Hv.start nt
    wtm_at "rs"
    refine use_FSteps ⟨dx, hp⟩ fo hb hl B.nt fun l G s1 n1 hl0 hl1 => ?_
    have B := B.got s1 n1 hl0 hl1
    obtain ⟨g1, g2⟩ := stepsF_bd f.mu f fo (Nat.le_refl _) (Fm.bd_lo hb)
    wtm_at "rs"
    refine use_FTurn ⟨dx, s1 _ _ hp⟩ fo (SqL.of hl1) (fun i hi => (g2 i hi).mono (by decide)) (fun k hk => (g1 k hk).mono (by decide)) n1 fun x G2 s2 n2 hx => ?_
    have B := (B.next s2 n2).rig hx.rig
    have fr := redF_red f.mu f fo (Nat.le_refl _)
    have ro : (redF f).ok := fo.turn _
    have rD : (redF f).D = f.D := Fm.turn_D f _
    change IsF Ad.c_Form G2 x (redF f) at hx
    obtain ⟨a1, a2, a3, a4⟩ := red_small fr ro (by omega)
    have o := ro.1
    have am : 4 * (redF f).a * m ≤ 160 * 2000 := Int.mul_le_mul (by omega) m1 m0 (by decide)
    wtm_at "rs"
    refine use_PW hx ro (red_bd fr ro (by omega)) m0 (by omega) (by omega) (by omega) n2 fun D0 ts0 rs0 G3 s3 n3 hD0 hd0 hR0 ws0 len0 => ?_
    have B := B.got s3 n3 hD0 hd0
    clear s1 n1 hl0 hl1 s2 n2 hx s3 n3 hD0 hd0
    wtm_at "rs"
    have hd0 := B.lAt (a := D0) (by wtm_at "mem")
    have hl1 := B.lAt (a := l) (by wtm_at "mem")
    have lts := RowsAt.len hR0
    rw [List.length_map] at lts
    have bm : Bd 20 m := Bd.of (by omega) (by omega)
    refine rd_lcLG (xs := ts0.map V.ref) (fun D i zs H' => ∃ ts : List Addr, zs = ts.map V.ref ∧ Same G3 H' ∧ NoT H' ∧ RowsAt H' ts ((rs0.take i).map fun r => prV (backP r (stepsF f))) ∧ ts.length = i) (fun D i zs H' ⟨_, _, s, _⟩ => SqL.of (s _ _ hd0)) (fun D hD => ⟨[], rfl, same_new hD, NoT.upd B.nt rfl, trivial, rfl⟩) ?_ ?_
    · rintro D i zs v H' hD hi hzs ⟨ts, rfl, s, n, hR, len⟩
      obtain ⟨t, r, rfl, ht, hr⟩ := RowsAt.at hR0 hi
      rw [List.getElem?_map] at hr
      obtain ⟨r, hr', rfl⟩ := Option.map_eq_some_iff.mp hr
      clear hr
      have hr := hr'
      have hri := (List.getElem?_eq_some_iff.mp hr).1
      have hrm := (ws0.mem r).mp (List.mem_of_getElem? hr)
      wtm_at "r"
      refine ⟨rfl, ?_⟩
      wtm_at "rs"
      refine use_MB (r := r) (ks := stepsF f) (SqT.of (s _ _ ht)) (SqL.of (s _ _ hl1)) (fun k hk => (g1 k hk).mono (by decide)) (back_bd fo hb bm hrm) fun N hN => ?_
      have hDN : D ≠ N := fun z => by
        rw [z, hN] at hzs
        cases hzs
      refine put_G (i := i) (J := fun D i zs H' => ∃ ts : List Addr, zs = ts.map V.ref ∧ Same G3 H' ∧ NoT H' ∧ RowsAt H' ts ((rs0.take i).map fun r => prV (backP r (stepsF f))) ∧ ts.length = i) (acc := ts.map V.ref) (by rw [upd_ne hDN]; exact hzs) (by rw [List.length_map]; exact Nat.lt_trans (m := 1000000) (by omega) (by decide)) ?_
      refine ⟨ts ++ [N], by simp, same_upd2 (s.trans (same_new hN)) hD, NoT.upd (NoT.upd n rfl) rfl, ?_, by rw [List.length_append, len]; rfl⟩
      rw [List.take_add_one, hr, List.map_append]
      exact RowsAt.other (p := D) (xs := ts.map V.ref) (by rw [upd_ne hDN]; exact hzs) (RowsAt.snoc upd_same (hR.mono (same_new hN)))
    · rintro D zs H' hD hzs ⟨ts, rfl, s, n, hR, len⟩
      have B := B.next s n
      rw [List.length_map, lts, List.take_length, show (fun r => prV (backP r (stepsF f))) = prV ∘ (fun r => backP r (stepsF f)) from rfl, ← List.map_map] at hR
      wtm_at "rs"
      refine rd_sortP (SqL.of hzs) hR fun ts' rs' E hR' pm st hE => ?_
      have hfree : ∀ {z : Addr}, H' z = none → H z = none := fun h => B.free h
      have B := B.newL (o := .lst (ts'.map V.ref)) hE
      refine q E ts' rs' _ B.same B.nt (hfree hE) upd_same (hR'.mono (same_new hE)) (WaySet.sorted ws0.back pm st) (by rw [pm.length_eq, List.length_map]; exact len0)
theorem use_ways {C p : Addr} {f : Fm} {m : Int} {H : Hp} {Q : VK} {E : XK} (h : IsF C H p f) (fo : f.ok) (hb : Fm.bd 200 f) (hl : (stepsF f).length ≤ 1000000) (m0 : 0 ≤ m) (m1 : m ≤ 2000) (d0 : -5000 ≤ f.D) (nt : NoT H)
    (q : ∀ (D : Addr) (ts : List Addr) (rs : List (Int × Int)) (H' : Hp), Same H H' → NoT H' → H D = none → H' D = some (.lst (ts.map V.ref)) → RowsAt H' ts (rs.map prV) → WaysOf f m rs → rs.length ≤ 4004 → Q (.ref D) H') : spWays C [.ref p, .int m] H Q E := ⟨p, f, m, rfl, h, fo, hb, hl, m0, m1, d0, nt, q⟩
/-! ### law -/
theorem ok_law {f : Addr} {fd : FuncData} (F : Fun K "law" "law" s_law f fd) (T : Txt K mg Ad) : FnOk P w K mg base (L2.CX P w) 9 f fd ["_law_script"] (spLaw K) := by
  refine F.okX sc_law (fun vs H Q E h => ?_) (fun cdv A outer s H vs Q E hr h => ?_)
  · obtain ⟨a, ns, rfl, _⟩ := h
    rfl
  · obtain ⟨a, ns, rfl, hS, hlen, nt, kq⟩ := h
    refine ⟨_, (pss_cons (ps_set (i := 1) sc_law.nd rfl (Or.inl rfl) (pe_d (ok_law_draws T) (hr.mono (by decide)) (passes_call (takes_of rfl rfl rfl rfl) (fun _ _ _ _ h => h)) (pa_cons (pe_d (ok_law_cell T) (hr.mono (by decide)) (passes_call (takes_of rfl rfl rfl rfl) (fun _ _ _ _ h => h)) (pa_cons (pv 0) (pa_cons pe_int pa_nil))) (pa_cons (pe_lst (pa_cons pe_int (pa_cons pe_int (pa_cons pe_int (pa_cons pe_int (pa_cons pe_int (pa_cons pe_int (pa_cons pe_int (pa_cons pe_int (pa_cons (pe_op op_mulB pe_int (pe_op (op_powN 15) pe_int pe_int)) (pa_cons pe_int pa_nil))))))))))) pa_nil))))
      (pss_cons (ps_set (i := 2) sc_law.nd rfl (Or.inl rfl) (pe_d (ok_law_form T) (hr.mono (by decide)) (passes_call (takes_of rfl rfl rfl rfl) (fun _ _ _ _ h => h)) (pa_cons (pe_lst (pa_cons (pe_ix ix_list (pv 1) pe_int (fun _ _ => rfl)) (pa_cons (pe_op op_add pe_int (pe_op op_mod (pe_op op_sub (pe_ix ix_list (pv 1) pe_int (fun _ _ => rfl)) pe_int) (pe_op op_add pe_int (pe_ix ix_list (pv 1) pe_int (fun _ _ => rfl))))) (pa_cons (pe_ix ix_list (pv 1) pe_int (fun _ _ => rfl)) pa_nil)))) pa_nil)))
      (pss_cons (ps_set (i := 3) sc_law.nd rfl (Or.inr rfl) (pe_mkd (ok_Form_init T) (hr.mono (by decide)) (passes_call (takes_of rfl rfl rfl rfl) (fun _ _ _ _ h => h)) (pa_cons (pe_ix ix_list (pv 2) pe_int (fun _ _ => rfl)) (pa_cons (pe_ix ix_list (pv 2) pe_int (fun _ _ => rfl)) (pa_cons (pe_ix ix_list (pv 2) pe_int (fun _ _ => rfl)) pa_nil)))))
      (pss_cons (ps_set (i := 4) sc_law.nd rfl (Or.inl rfl) (pe_ix ix_list (pv 1) pe_int (fun _ _ => rfl)))
      (pss_cons (ps_set (i := 5) sc_law.nd rfl (Or.inl rfl) (pe_slice sl_list (pe_lst (pa_cons (pe_op op_sub (pe_ix ix_list (pv 1) pe_int (fun _ _ => rfl)) pe_int) (pa_cons pe_int (pa_cons (pe_op op_sub (pe_ix ix_list (pv 1) pe_int (fun _ _ => rfl)) pe_int) (pa_cons (pe_op op_sub (pe_ix ix_list (pv 1) pe_int (fun _ _ => rfl)) pe_int) pa_nil))))) po_none (po_some (pe_ix ix_list (pv 1) pe_int (fun _ _ => rfl)))))
      (C8.pss_cut (ps_if (pt_cmpR op_eq (pe_ix ix_list (pv 1) pe_int (fun _ _ => rfl)) pe_int (nomark _)) (pss_one (ps_set (i := 5) sc_law.nd rfl (Or.inl rfl) (pe_op op_cat (pe_lst (pa_cons (pe_op op_sub (pe_ix ix_list (pv 1) pe_int (fun _ _ => rfl)) (pe_op (op_powN 15) pe_int pe_int)) (pa_cons pe_int pa_nil))) (pv 5)))) pss_nil)
      (pss_cons (ps_set (i := 6) sc_law.nd rfl (Or.inl rfl) (pe_md (ok_Form_turned T) (pv 3) T.cl_Form (hr.mono (by decide)) (passes_call (takes_of rfl rfl rfl rfl) (fun _ _ _ _ h => h)) (pa_cons (pv 5) pa_nil)))
      (pss_cons (ps_set (i := 7) sc_law.nd rfl (Or.inl rfl) (pe_d (ok_way_counts T) (hr.mono (by decide)) (passes_call (takes_of rfl rfl rfl rfl) (fun _ _ _ _ h => h)) (pa_cons (pv 3) (pa_cons (pv 4) pa_nil))))
      (pss_cons (ps_if (PW.pt (pw_or (pt_not (pt_val (pe_callB call_isi (by rfl) T.b_isinstance (by decide +kernel) (pa_cons (pv 7) (pa_cons (pe_bltn (v := .ty "list") (by rfl) T.b_list (by decide +kernel) rfl) pa_nil))))) (pw_or1 (pt_cmpR (op_neD hr.units) (pv 7) (pe_lc (own := [("_law_m", 8)])  (te := (tCB (rLenQ K) (tCons (tCall ((spWays Ad.c_Form)) [] E0 (tCons (tVar 3) (tCons (tVar 8) tNil))) tNil))) rfl sc_law.nd  (pi_range1 (by rfl) T.b_range (pa_cons (pe_op op_add (pv 4) pe_int) pa_nil)) (blkOk_by (own := [("_law_m", 8)]) (N := ["_law_script", "_law_drawn", "_law_row", "_law_form_here", "_law_most_of_all", "_law_path", "_law_other", "_law_told", "_law_m", "_law_half", "_law_points_here", "_law_x", "_law_y", "_law_k"]) (sc := defScope s_law) (by decide +kernel)) (fun _ _ _ _ _ => (pg_name (i := 8) sc_law.nd rfl (Or.inl rfl))) (fun _ _ _ _ _ => pts_nil) (fun _ _ _ _ _ => (pe_callB (id := "len") (r := rLenQ K) c_len (by rfl) T.b_len PySem.boot_len (pa_cons (pe_d (E := E0) (ok_ways T) (hr.mono (by decide)) passL (pa_cons (pv 3) (pa_cons (pv 8) pa_nil))) pa_nil)))) (nomark _))))) (pss_one (ps_ret pe_bl)) pss_nil)
      (pss_cons (ps_if (PW.pt (pw_or (pt_cmpR (op_neD hr.units) (pe_d (ok_way_counts T) (hr.mono (by decide)) (passes_call (takes_of rfl rfl rfl rfl) (fun _ _ _ _ h => h)) (pa_cons (pv 6) (pa_cons (pv 4) pa_nil))) (pv 7) (nomark _)) (pw_or1 (pt_cmpR (op_neD hr.units) (pe_d (ok_way_counts T) (hr.mono (by decide)) (passes_call (takes_of rfl rfl rfl rfl) (fun _ _ _ _ h => h)) (pa_cons (pe_mkd (ok_Form_init T) (hr.mono (by decide)) (passes_call (takes_of rfl rfl rfl rfl) (fun _ _ _ _ h => h)) (pa_cons (pe_ix ix_list (pv 2) pe_int (fun _ _ => rfl)) (pa_cons (pe_un un_neg (pe_ix ix_list (pv 2) pe_int (fun _ _ => rfl))) (pa_cons (pe_ix ix_list (pv 2) pe_int (fun _ _ => rfl)) pa_nil)))) (pa_cons (pv 4) pa_nil))) (pv 7) (nomark _))))) (pss_one (ps_ret pe_bl)) pss_nil)
      (pss_cons (ps_if (pt_cmpR op_ne (pe_callB (cr_sum rfl) (by rfl) T.b_sum (by decide +kernel) (pa_cons (pv 7) pa_nil)) (pe_d (ok_law_points T) (hr.mono (by decide)) (passes_call (takes_of rfl rfl rfl rfl) (fun _ _ _ _ h => h)) (pa_cons (pv 2) (pa_cons (pv 4) pa_nil))) (nomark _)) (pss_one (ps_ret pe_bl)) pss_nil)
      (pss_cons (ps_set (i := 9) sc_law.nd rfl (Or.inl rfl) (pe_op op_fdivB (pv 4) pe_int))
      (pss_cons (ps_expr (pe_bm PySem.F.plainAttrs_list PySem.F.slot_list_append PySem.F.type_list_append mt_append (pv 7) (pa_cons pe_int pa_nil)))
      (pss_cons (ps_if (PW.pt (pw_or (pt_cmpR (op_neD hr.units) (pe_d (ok_way_counts T) (hr.mono (by decide)) (passes_call (takes_of rfl rfl rfl rfl) (fun _ _ _ _ h => h)) (pa_cons (pv 3) (pa_cons (pv 9) pa_nil))) (pe_slice sl_list (pv 7) po_none (po_some (pe_op op_add (pv 9) pe_int))) (nomark _)) (pw_or1 (pt_cmpR (op_neD hr.units) (pe_d (ok_way_counts T) (hr.mono (by decide)) (passes_call (takes_of rfl rfl rfl rfl) (fun _ _ _ _ h => h)) (pa_cons (pv 3) (pa_cons (pv 4) pa_nil))) (pe_slice sl_list (pv 7) po_none (po_some (pe_un un_neg pe_int))) (nomark _))))) (pss_one (ps_ret pe_bl)) pss_nil)
      (pss_cons (ps_for (passes_of rfl) rfl (pi_list (pe_lst (pa_cons pe_int (pa_cons (pe_ix ix_list (pv 2) pe_int (fun _ _ => rfl)) (pa_cons (pe_ix ix_list (pv 2) pe_int (fun _ _ => rfl)) (pa_cons (pv 4) pa_nil)))))) (pg_name (i := 8) sc_law.nd rfl (Or.inl rfl)) (pss_cons (ps_set (i := 10) sc_law.nd rfl (Or.inl rfl) (pe_lst pa_nil))
      (pss_cons (ps_for (passes_of rfl) rfl (pi_list (pe_d (ok_ways T) (hr.mono (by decide)) (passes_call (takes_of rfl rfl rfl rfl) (fun _ _ _ _ h => h)) (pa_cons (pv 6) (pa_cons (pv 8) pa_nil)))) (pg_tup rfl (pgs_cons (pg_name (i := 11) sc_law.nd rfl (Or.inl rfl)) (pgs_cons (pg_name (i := 12) sc_law.nd rfl (Or.inl rfl)) pgs_nil))) (pss_cons (ps_for (passes_of rfl) rfl (pi_list (pe_revL (pv 5))) (pg_name (i := 13) sc_law.nd rfl (Or.inl rfl)) (pss_one (ps_if (pt_cmpR op_eq (pv 13) pe_int (nomark _)) (pss_one (ps_par (i := 11) (j := 12) rfl sc_law.nd rfl rfl (by decide) rfl rfl (pa_cons (pe_un un_neg (pv 12)) (pa_cons (pv 11) pa_nil)) (by rfl))) (pss_one (ps_set (i := 11) sc_law.nd rfl (Or.inl rfl) (pe_op op_add (pv 11) (pe_op op_mulB (pv 13) (pv 12))))))))
      (pss_one (ps_expr (pe_bm PySem.F.plainAttrs_list PySem.F.slot_list_append PySem.F.type_list_append mt_append (pv 10) (pa_cons (pe_tup (pa_cons (pv 11) (pa_cons (pv 12) pa_nil))) pa_nil))))))
      (pss_one (ps_if (pt_cmpR (op_neD hr.units) (pe_callB cr_sortedPO (by rfl) T.b_sorted (by decide +kernel) (pa_cons (pv 10) pa_nil)) (pe_d (ok_ways T) (hr.mono (by decide)) (passes_call (takes_of rfl rfl rfl rfl) (fun _ _ _ _ h => h)) (pa_cons (pv 3) (pa_cons (pv 8) pa_nil))) (nomark _)) (pss_one (ps_ret pe_bl)) pss_nil)))))
      (pss_one (ps_ret (pe_cmpR op_eq (pe_ix ix_list (pv 7) pe_int (fun _ _ => rfl)) pe_int (nomark _))))))))))))))))))), ?_⟩
    try dsimp only [cxOf]
    have B := Hv.start nt
    wtm_at "rs"
    rename_i S0 hS1
    have B := B.newL (o := .lst [.int 9, .int 9, .int 12, .int 121, .int 5, .int 9, .int 9, .int 9, .int (2 * 10 ^ 15), .int 3]) hS1
    refine use_draws (ss := [9, 9, 12, 121, 5, 9, 9, 9, 2 * 10 ^ 15, 3]) (SqL.of upd_same) (by decide) (by decide) B.nt fun D ds H1 sm1 nt1 hDn hD dok => ?_
    obtain ⟨d0, ds, rfl, d00, d01, dok⟩ := dok.cons_inv
    obtain ⟨d1, ds, rfl, d10, d11, dok⟩ := dok.cons_inv
    obtain ⟨d2, ds, rfl, d20, d21, dok⟩ := dok.cons_inv
    obtain ⟨d3, ds, rfl, d30, d31, dok⟩ := dok.cons_inv
    obtain ⟨d4, ds, rfl, d40, d41, dok⟩ := dok.cons_inv
    obtain ⟨d5, ds, rfl, d50, d51, dok⟩ := dok.cons_inv
    obtain ⟨d6, ds, rfl, d60, d61, dok⟩ := dok.cons_inv
    obtain ⟨d7, ds, rfl, d70, d71, dok⟩ := dok.cons_inv
    obtain ⟨d8, ds, rfl, d80, d81, dok⟩ := dok.cons_inv
    obtain ⟨d9, ds, rfl, d90, d91, dok⟩ := dok.cons_inv
    cases dok.nil_inv
    replace hD : H1 D = some (.lst [.int d0, .int d1, .int d2, .int d3, .int d4, .int d5, .int d6, .int d7, .int d8, .int d9]) := hD
    have B := B.got sm1 nt1 hDn hD
    clear dok sm1 nt1 hDn hD hS1
    obtain ⟨M, rfl⟩ : ∃ M : Nat, d3 = M := ⟨d3.toNat, by omega⟩
    refine B.gen fun G B => ?_
    wtm_at "rs"
    rename_i E0' hE0
    have B := B.newL (o := .lst [.int d0, .int (12 + (d1 - 4) % (1 + d0)), .int d2]) hE0
    have q0 := Int.emod_nonneg (d1 - 4) (show 1 + d0 ≠ 0 by omega)
    have q1 := Int.emod_lt_of_pos (d1 - 4) (show 0 < 1 + d0 by omega)
    refine ⟨E0', d0, 12 + (d1 - 4) % (1 + d0), d2, [], rfl, SqL.of upd_same, d00, by omega, by omega, by omega, d20, by omega, fun x f sf ef hx => ?_⟩
    have B := B.newL (o := .lst f.row) hx
    obtain ⟨fo, a1, b0, b1, c1, D0⟩ := id sf
    have fbd := sf.bd
    have slen := len_any fo (n := 10) fbd.1.lt.2
    clear hx ef hE0 q0 q1
    refine B.gen fun G B => ?_
    wtm_at "rs"
    refine use_FI (f := f) rfl (fbd.mono (by decide)) fo B.nt fun q1 G2 s2 n2 hq isq => ?_
    have B := (B.next s2 n2).rig isq.rig
    clear s2 n2 hq isq
    refine B.gen fun G B => ?_
    wtm_at "rs"
    rename_i P1 hP1 P2 hP2
    obtain ⟨ks, ek, hk, lk⟩ := cut_mapL (f := V.int) (l := [d5 - 4, 0, d6 - 4, d7 - 4]) (lo := none) (hi := some d4)
    rw [show cutV [V.int (d5 - 4), V.int 0, V.int (d6 - 4), V.int (d7 - 4)] none (some d4) = ks.map V.int from ek]
    have hk3 : ∀ k ∈ ks, Bd 3 k := fun k h => by
      have := hk k h
      simp only [List.mem_cons, List.not_mem_nil, or_false] at this
      exact Bd.of (by omega) (by omega)
    have lk4 : ks.length ≤ 4 := lk
    have B := (B.newL (o := .lst [.int (d5 - 4), .int 0, .int (d6 - 4), .int (d7 - 4)]) hP1).newL (o := .lst (ks.map V.int)) hP2
    refine B.gen fun G B => ?_
    refine rd_cut (fun σ2 G => ∃ A ks', σ2 = [some (.ref a), some (.ref D), some (.ref x), some (.ref q1), some (.int M), some (.ref A), none, none, none, none, none, none, none, none] ∧ PathSm f ks' ∧ Hv noX H [] [(A, .lst (ks'.map V.int)), (x, .lst f.row)] [fun G => IsF Ad.c_Form G q1 f] G) ?_ ?_
    · wtm_at "rs"
      wtm_at "i"
      · wtm_at "rs"
        rename_i P3 hP3
        have B := B.newL (o := .lst [.int (d8 - 10 ^ 15), .int 0]) hP3
        refine rd_cat upd_same (by wtm_at "h") (room2 (n := 2) (m := 4) (by simp) (by rw [List.length_map]; exact lk4) (by decide)) fun P4 hP4 => ?_
        rw [show [V.int (d8 - 10 ^ 15), V.int 0] ++ ks.map V.int = ((d8 - 10 ^ 15) :: 0 :: ks).map V.int from rfl]
        have B := B.newL (o := .lst (((d8 - 10 ^ 15) :: 0 :: ks).map V.int)) hP4
        wtm_at "rs"
        exact ⟨P4, _, rfl, PathSm.great (k := d8 - 10 ^ 15) fbd (Bd.of (by omega) (by omega)) hk3 lk4, B.sub (by wtm_at "vsub") (by wtm_at "vsub")⟩
      · wtm_at "rs"
        exact ⟨P2, ks, rfl, PathSm.small fbd hk3 lk4, B.sub (by wtm_at "vsub") (by wtm_at "vsub")⟩
    · rintro σ2 G ⟨A, ks, rfl, pk, B⟩
      obtain ⟨dq, hq1⟩ := B.zAt (P := fun G => IsF Ad.c_Form G q1 f) (by wtm_at "mem")
      wtm_at "rs"
      refine use_FTurn ⟨dq, hq1⟩ fo (SqL.of (B.lAt (a := A) (by wtm_at "mem"))) (fun i hi => (pk.bds i hi).mono (by decide)) (fun k hk => (pk.kb k hk).mono (by decide)) B.nt fun z G2 s2 n2 isz => ?_
      have B := (B.next s2 n2).rig isz.rig
      have zo := fo.turn ks
      have zD : (f.turn ks).D = f.D := Fm.turn_D f ks
      have zb := pk.all
      have zl := len_any zo (n := 200) zb.1.lt.2
      clear s2 n2 isz hq1
      refine B.gen fun G B => ?_
      wtm_at "rs"
      refine use_WC (M := M) rfl (by exact B.zAt (P := fun G => IsF Ad.c_Form G q1 f) (by wtm_at "mem")) fo (fbd.mono (by decide)) (by omega) (by omega) (by omega) B.nt fun W G2 s2 n2 hW hw => ?_
      have B := B.gotM s2 n2 hW hw
      clear s2 n2 hW hw
      refine B.gen fun G B => ?_
      wtm_at "rs"
      rw [show ((M : Int) + 1).toNat = M + 1 by omega]
      have hIs := B.zAt (P := fun G => IsF Ad.c_Form G q1 f) (by wtm_at "mem")
      refine rd_lcRP (fun i zs => zs = (cntL f i).map V.int) B.nt rfl ?_ ?_
      · rintro D0 i zs H' hi s2 n2 hD hzs rfl
        wtm_at "r"
        refine ⟨rfl, ?_⟩
        wtm_at "rs"
        refine use_ways (hIs.mono s2) fo (fbd.mono (by decide)) (by omega) (by omega) (by omega) (by omega) n2 fun D1 ts rs G3 s3 n3 h1 h2 hR w l => ?_
        wtm_at "rs"
        have e := RowsAt.len hR
        rw [List.length_map] at e
        refine put_P (P := fun zs => zs = (cntL f (i + 1)).map V.int) (s3 _ _ hzs) (by rw [List.length_map, cntL_len]; exact Nat.lt_of_lt_of_le (m := 3000) (by omega) (by decide)) (s2.trans s3) hD n3 ?_
        have w2 := w.set
        rw [Int.zero_add] at w2
        rw [cntL_succ, List.map_append, cnt_eq w2, List.length_map, e]
        rfl
      · rintro D0 zs H' hD hzs s2 n2 rfl
        have B := B.next s2 n2
        clear hIs
        wtm_at "rs"
        refine B.gen fun G B => ?_
        refine use_WC (M := M) rfl (by exact B.zAt (P := fun G => IsF Ad.c_Form G z (f.turn ks)) (by wtm_at "mem")) zo zb (by omega) (by omega) (by omega) B.nt fun W2 G2 s2 n2 hW hw => ?_
        rw [cntL_turn] at hw
        have B := B.next s2 n2
        wtm_at "rs"
        obtain ⟨mo, mD, mb⟩ := sf.mir
        refine use_FI (f := mirF f) rfl (mb.mono (by decide)) mo B.nt fun q2 G2 s2 n2 hq isq => ?_
        have B := (B.next s2 n2).rig isq.rig
        have ml := len_any mo (n := 10) mb.1.lt.2
        refine B.gen fun G B => ?_
        wtm_at "rs"
        refine use_WC (M := M) rfl (by exact B.zAt (P := fun G => IsF Ad.c_Form G q2 (mirF f)) (by wtm_at "mem")) mo (mb.mono (by decide)) (by omega) (by omega) (by omega) B.nt fun W3 G2 s2 n2 hW3 hw3 => ?_
        rw [cntL_mir] at hw3
        have B := B.next s2 n2
        have B : Hv noX H [(W, .lst ((cntL f (M + 1)).map V.int))] [(A, .lst (ks.map V.int)), (x, .lst f.row)] [fun G => IsF Ad.c_Form G z (f.turn ks), fun G => IsF Ad.c_Form G q1 f] G2 := B.sub (by wtm_at "vsub") (by wtm_at "vsub")
        wtm_at "rs"
        refine B.gen fun G B => ?_
        refine ⟨W, _, rfl, SqL.of (B.mAt (a := W) (by wtm_at "mem")), ?_⟩
        wtm_at "rs"
        refine ⟨x, f, M, rfl, SqL.of (B.lAt (a := x) (by wtm_at "mem")), sf, by omega, by omega, B.nt, fun P3 G2 s3 n3 ps => ?_⟩
        rw [ps.sum fo]
        have B := B.next s3 n3
        refine B.gen fun G B => ?_
        have lW : ((cntL f (M + 1)).map V.int).length < 1000000 := by
          rw [List.length_map, cntL_len]
          omega
        wtm_at "rs"
        rw [show (cntL f (M + 1)).map V.int ++ [V.int 9] = (cntL f (M + 1) ++ [9]).map V.int by simp]
        have B := B.put (u := .lst ((cntL f (M + 1) ++ [9]).map V.int))
        refine use_WC (M := M / 2) (by omega) (by exact B.zAt (P := fun G => IsF Ad.c_Form G q1 f) (by wtm_at "mem")) fo (fbd.mono (by decide)) (by omega) (by omega) (by omega) B.nt fun W4 G2 s2 n2 hW4 hw4 => ?_
        have B := B.next s2 n2
        wtm_at "rs"
        rename_i P5 hP5
        have ecut : cutV ((cntL f (M + 1) ++ [9]).map V.int) none (some ((M : Int) / 2 + 1)) = (cntL f (M / 2 + 1)).map V.int := by
          rw [cut_take (by omega), ← List.map_take, show ((M : Int) / 2 + 1).toNat = M / 2 + 1 by omega, List.take_append_of_le_length (by rw [cntL_len]; omega), cntL_take (by omega)]
        rw [ecut]
        have B := B.newL (o := .lst ((cntL f (M / 2 + 1)).map V.int)) hP5
        refine rd_neInts (ns := cntL f (M / 2 + 1)) (ms := cntL f (M / 2 + 1)) (SqL.of (upd_keep hw4 hP5)) (SqL.of upd_same) ?_
        rw [decide_eq_true rfl]
        refine ⟨_, rfl, ?_⟩
        rw [if_neg (by decide)]
        refine B.gen fun G B => ?_
        wtm_at "rs"
        refine use_WC (M := M) rfl (by exact B.zAt (P := fun G => IsF Ad.c_Form G q1 f) (by wtm_at "mem")) fo (fbd.mono (by decide)) (by omega) (by omega) (by omega) B.nt fun W5 G2 s2 n2 hW5 hw5 => ?_
        have B := B.next s2 n2
        wtm_at "rs"
        rename_i P6 hP6
        have ecut2 : cutV ((cntL f (M + 1) ++ [9]).map V.int) none (some (-1)) = (cntL f (M + 1)).map V.int := by
          rw [List.map_append]
          exact cut_last
        rw [ecut2]
        have B := B.newL (o := .lst ((cntL f (M + 1)).map V.int)) hP6
        refine rd_neInts (ns := cntL f (M + 1)) (ms := cntL f (M + 1)) (SqL.of (upd_keep hw5 hP6)) (SqL.of upd_same) ?_
        rw [decide_eq_true rfl]
        refine ⟨_, rfl, ?_⟩
        rw [if_neg (by decide)]
        have B : Hv noX H [(W, .lst ((cntL f (M + 1) ++ [9]).map V.int))] [(A, .lst (ks.map V.int)), (x, .lst f.row)] [fun G => IsF Ad.c_Form G z (f.turn ks), fun G => IsF Ad.c_Form G q1 f] _ := B.sub (by wtm_at "vsub") (by wtm_at "vsub")
        refine B.gen fun G B => ?_
        wtm_at "rs"
        rename_i P7 hP7
        have B := B.newL (o := .lst [.int 1, .int f.a, .int f.c, .int M]) hP7
        refine rd_forL (xs := ([1, f.a, f.c, (M : Int)] : List Int).map V.int) (fun i σ H' => ∃ v8 v10 v11 v12 v13, σ = [some (.ref a), some (.ref D), some (.ref x), some (.ref q1), some (.int M), some (.ref A), some (.ref z), some (.ref W), v8, some (.int ((M : Int) / 2)), v10, v11, v12, v13] ∧ Hv noX H [(W, .lst ((cntL f (M + 1) ++ [9]).map V.int))] [(P7, .lst [.int 1, .int f.a, .int f.c, .int M]), (A, .lst (ks.map V.int)), (x, .lst f.row)] [fun G => IsF Ad.c_Form G z (f.turn ks), fun G => IsF Ad.c_Form G q1 f] H') ⟨_, _, _, _, _, rfl, B⟩ (fun i σ H' _ ⟨_, _, _, _, _, _, B⟩ => SqL.of (B.lAt (a := P7) (o := .lst [.int 1, .int f.a, .int f.c, .int M]) List.mem_cons_self)) ?_ ?_
        · rintro i v σ H' hi ⟨v8, v10, v11, v12, v13, rfl, B⟩
          rw [List.getElem?_map] at hi
          obtain ⟨m, hm, rfl⟩ := Option.map_eq_some_iff.mp hi
          have hm2 := List.mem_of_getElem? hm
          simp only [List.mem_cons, List.not_mem_nil, or_false] at hm2
          have c0 := fo.c_pos
          have fa := fo.1
          have m0 : 0 ≤ m := by omega
          have m1 : m ≤ 120 := by omega
          have bm : Bd 20 m := Bd.of (by omega) (by omega)
          wtm_at "rs"
          rename_i Pp hPp
          have B := B.new (o := .lst []) hPp
          refine use_ways (by exact B.zAt (P := fun G => IsF Ad.c_Form G z (f.turn ks)) (by wtm_at "mem")) zo zb (by omega) m0 (by omega) (by omega) B.nt fun Dl tl rl G2 s2 n2 hDl hdl hRl wl ll => ?_
          have B := (B.got s2 n2 hDl hdl).rig hRl.rig
          have e1 : tl.length = rl.length := by
            have := RowsAt.len hRl
            rwa [List.length_map] at this
          refine B.gen fun G B => ?_
          wtm_at "rs"
          refine rd_forL (xs := tl.map V.ref) (fun j σ H' => ∃ us v11 v12 v13, σ = [some (.ref a), some (.ref D), some (.ref x), some (.ref q1), some (.int M), some (.ref A), some (.ref z), some (.ref W), some (.int m), some (.int ((M : Int) / 2)), some (.ref Pp), v11, v12, v13] ∧ Hv noX H [(Pp, .lst (us.map V.ref)), (W, .lst ((cntL f (M + 1) ++ [9]).map V.int))] [(Dl, .lst (tl.map V.ref)), (P7, .lst [.int 1, .int f.a, .int f.c, .int M]), (A, .lst (ks.map V.int)), (x, .lst f.row)] [fun G => RowsAt G us ((rl.take j).map fun r => prV (backP r ks)), fun G => RowsAt G tl (rl.map prV), fun G => IsF Ad.c_Form G z (f.turn ks), fun G => IsF Ad.c_Form G q1 f] H' ∧ us.length = j) ⟨[], _, _, _, rfl, B.rig (fun G _ => trivial), rfl⟩ (fun j σ H' _ ⟨_, _, _, _, _, B, _⟩ => SqL.of (B.lAt List.mem_cons_self)) ?_ ?_
          · rintro j v σ H' hj ⟨us, v11, v12, v13, rfl, B, lus⟩
            have hRl := B.zAt (P := fun G => RowsAt G tl (rl.map prV)) (by wtm_at "mem")
            obtain ⟨t, l, rfl, ht, hl⟩ := RowsAt.at hRl hj
            rw [List.getElem?_map] at hl
            obtain ⟨r, hr, rfl⟩ := Option.map_eq_some_iff.mp hl
            have hrm := (wl.mem r).mp (List.mem_of_getElem? hr)
            have hji := (List.getElem?_eq_some_iff.mp hr).1
            replace ht : H' t = some (.tup [.int r.1, .int r.2]) := ht
            have hbk := back_bdP fo pk bm hrm
            wtm_at "rs"
            rename_i Rv hRv
            have B := B.newL (o := .lst (ks.map V.int).reverse) hRv
            refine rd_forLs (xs := (ks.map V.int).reverse) (fun i σ => ∃ v13, σ = [some (.ref a), some (.ref D), some (.ref x), some (.ref q1), some (.int M), some (.ref A), some (.ref z), some (.ref W), some (.int m), some (.int ((M : Int) / 2)), some (.ref Pp), some (.int (backP r (ks.drop (ks.length - i))).1), some (.int (backP r (ks.drop (ks.length - i))).2), v13]) (SqL.of upd_same) ⟨v13, by rw [Nat.sub_zero, List.drop_length]; rfl⟩ ?_ ?_
            · rintro i w σ hi ⟨v13, rfl⟩
              have hin : i < ks.length := by
                have := (List.getElem?_eq_some_iff.mp hi).1
                simpa using this
              rw [List.getElem?_reverse (by rw [List.length_map]; exact hin), List.length_map, List.getElem?_map] at hi
              obtain ⟨k, hy, rfl⟩ := Option.map_eq_some_iff.mp hi
              have hkk : Bd 400 k := (pk.kb k (List.mem_of_getElem? hy)).mono (by decide)
              have hd : ks.drop (ks.length - (i + 1)) = k :: ks.drop (ks.length - i) := by
                obtain ⟨hlt, hv⟩ := List.getElem?_eq_some_iff.mp hy
                rw [show ks.length - (i + 1) = ks.length - 1 - i by omega, List.drop_eq_getElem_cons hlt, hv, show ks.length - 1 - i + 1 = ks.length - i by omega]
              obtain ⟨bu, bv⟩ := hbk (ks.length - i) (by omega)
              have eb : backP r (ks.drop (ks.length - (i + 1))) = if k = 0 then (-(backP r (ks.drop (ks.length - i))).2, (backP r (ks.drop (ks.length - i))).1) else ((backP r (ks.drop (ks.length - i))).1 + k * (backP r (ks.drop (ks.length - i))).2, (backP r (ks.drop (ks.length - i))).2) := by
                rw [hd]
                rfl
              rw [eb]
              generalize backP r (ks.drop (ks.length - i)) = pq at *
              obtain ⟨u, v⟩ := pq
              dsimp only at bu bv ⊢
              wtm_at "ra"
              · rename_i h0
                rw [if_pos h0]
                exact ⟨rfl, _, rfl⟩
              · rename_i h0
                rw [if_neg h0]
                exact ⟨rfl, _, rfl⟩
            · rintro σ ⟨v13, rfl⟩
              rw [List.length_reverse, List.length_map, Nat.sub_self, List.drop_zero]
              have few : (us.map V.ref).length < 1000000 := by
                rw [List.length_map]
                omega
              wtm_at "rs"
              rename_i N hN
              rw [show us.map V.ref ++ [V.ref N] = (us ++ [N]).map V.ref by simp]
              have hRu := (B.zAt (P := fun G => RowsAt G us ((rl.take j).map fun r => prV (backP r ks))) (by wtm_at "mem")).mono (same_new (o := .tup [.int (backP r ks).1, .int (backP r ks).2]) hN)
              have B := B.newL (o := .tup [.int (backP r ks).1, .int (backP r ks).2]) hN
              have hNt := B.lAt (a := N) (o := .tup [.int (backP r ks).1, .int (backP r ks).2]) (by wtm_at "mem")
              have hRu2 := (RowsAt.snoc (l := prV (backP r ks)) hNt hRu).rig _ (Keeps.put (u := .lst ((us ++ [N]).map V.ref)) (B.mAt (a := Pp) List.mem_cons_self) rfl)
              have B3 := (B.put (u := .lst ((us ++ [N]).map V.ref))).sub (L' := [(Dl, .lst (tl.map V.ref)), (P7, .lst [.int 1, .int f.a, .int f.c, .int M]), (A, .lst (ks.map V.int)), (x, .lst f.row)]) (Z' := [fun G => RowsAt G tl (rl.map prV), fun G => IsF Ad.c_Form G z (f.turn ks), fun G => IsF Ad.c_Form G q1 f]) (by wtm_at "vsub") (by wtm_at "vsub")
              refine ⟨us ++ [N], _, _, _, rfl, B3.rig ?_, by rw [List.length_append, lus]; rfl⟩
              rw [List.take_add_one, hr, List.map_append]
              exact hRu2.rig
          · rintro σ H' ⟨us, v11, v12, v13, rfl, B, lus⟩
            rw [List.length_map, e1, List.take_length] at B
            have hRu := B.zAt (P := fun G => RowsAt G us (rl.map fun r => prV (backP r ks))) (by wtm_at "mem")
            rw [show (fun r => prV (backP r ks)) = prV ∘ (fun r => backP r ks) from rfl, ← List.map_map] at hRu
            wtm_at "rs"
            refine rd_sortP (SqL.of (B.mAt (a := Pp) (by wtm_at "mem"))) hRu fun ts' rs' E1 hR' pm st hE => ?_
            have wf := WaySet.sorted wl.set.back pm st
            have B := (B.newL (o := .lst (ts'.map V.ref)) hE).rig (hR'.mono (same_new hE)).rig
            refine B.gen fun G B => ?_
            wtm_at "rs"
            refine use_ways (by exact B.zAt (P := fun G => IsF Ad.c_Form G q1 f) (by wtm_at "mem")) fo (fbd.mono (by decide)) (by omega) m0 (by omega) (by omega) B.nt fun D2 t2 r2 G5 s5 n5 hD5 hd5 hR5 w5 l5 => ?_
            have e5 := wf.uniq w5
            subst e5
            have B := B.next s5 n5
            refine rd_nePrs (rows_dp (SqL.of (B.lAt (a := E1) (by wtm_at "mem"))) (B.zAt (P := fun G => RowsAt G ts' (rs'.map prV)) (by wtm_at "mem"))) (rows_dp (SqL.of hd5) hR5) ?_
            rw [decide_eq_true rfl]
            refine ⟨_, rfl, ?_⟩
            rw [if_neg (by decide)]
            wtm_at "rs"
            exact ⟨_, _, _, _, _, rfl, B.drop.sub (by wtm_at "vsub") (by wtm_at "vsub")⟩
        · rintro σ H' ⟨v8, v10, v11, v12, v13, rfl, B⟩
          wtm_at "rs"
          refine rd_ixL (SqL.of (B.mAt (a := W) (by wtm_at "mem"))) (cntL_at0 fo) ?_
          wtm_at "rs"
          exact kq _
end
/-! ## what the top has left, and the end -/
theorem all_mk {P : Program} {w : World} {K : PySem.W.Frag} {h : Heap} {mg : Str → Option Value} {fa : Addr} (X : K.In h) (G : h.Ns mainGlobals mg) (hfa : mg "law" = some (.ref fa))
    {CO_Form : Addr}
    {f0 : Addr} {od0 an0 : Option Addr} {sl0 : Array (Option Value)} {oc0 kV0 dc0 pm0 cd0 ct0 : Value}
    {f1 : Addr} {od1 an1 : Option Addr} {sl1 : Array (Option Value)} {oc1 kV1 dc1 pm1 cd1 ct1 : Value}
    {f2 : Addr} {od2 an2 : Option Addr} {sl2 : Array (Option Value)} {oc2 kV2 dc2 pm2 cd2 ct2 : Value}
    {f3 : Addr} {od3 an3 : Option Addr} {sl3 : Array (Option Value)} {oc3 kV3 dc3 pm3 cd3 ct3 : Value}
    {f4 : Addr} {od4 an4 : Option Addr} {sl4 : Array (Option Value)} {oc4 kV4 dc4 pm4 cd4 ct4 : Value}
    {f5 : Addr} {od5 an5 : Option Addr} {sl5 : Array (Option Value)} {oc5 kV5 dc5 pm5 cd5 ct5 : Value}
    {f6 : Addr} {od6 an6 : Option Addr} {sl6 : Array (Option Value)} {oc6 kV6 dc6 pm6 cd6 ct6 : Value}
    {f7 : Addr} {od7 an7 : Option Addr} {sl7 : Array (Option Value)} {oc7 kV7 dc7 pm7 cd7 ct7 : Value}
    {f8 : Addr} {od8 an8 : Option Addr} {sl8 : Array (Option Value)} {oc8 kV8 dc8 pm8 cd8 ct8 : Value}
    {f9 : Addr} {od9 an9 : Option Addr} {sl9 : Array (Option Value)} {oc9 kV9 dc9 pm9 cd9 ct9 : Value}
    {f10 : Addr} {od10 an10 : Option Addr} {sl10 : Array (Option Value)} {oc10 kV10 dc10 pm10 cd10 ct10 : Value}
    {f11 : Addr} {od11 an11 : Option Addr} {sl11 : Array (Option Value)} {oc11 kV11 dc11 pm11 cd11 ct11 : Value}
    {f12 : Addr} {od12 an12 : Option Addr} {sl12 : Array (Option Value)} {oc12 kV12 dc12 pm12 cd12 ct12 : Value}
    {f13 : Addr} {od13 an13 : Option Addr} {sl13 : Array (Option Value)} {oc13 kV13 dc13 pm13 cd13 ct13 : Value}
    {f14 : Addr} {od14 an14 : Option Addr} {sl14 : Array (Option Value)} {oc14 kV14 dc14 pm14 cd14 ct14 : Value}
    {f15 : Addr} {od15 an15 : Option Addr} {sl15 : Array (Option Value)} {oc15 kV15 dc15 pm15 cd15 ct15 : Value}
    {CB : Addr}
    {C0 g0 N0 : Addr} {nm0 qq0 : Str} {bs0 bm0 : List Value} {sn0 : List Str} {sub0 : List Value} {ab0 : Bool} {col0 : Option Bool} {dd0 : Option Addr} {m00 m10 m20 m30 m50 : Option Value} {odE0 anE0 : Option Addr} {slE0 : Array (Option Value)} {ocE0 kVE0 dcE0 pmE0 cdE0 ctE0 : Value}
    (z_abs : PySem.W.nsIn K mainGlobals "abs" = some none)
    (z_int : PySem.W.nsIn K mainGlobals "int" = some none)
    (z_isinstance : PySem.W.nsIn K mainGlobals "isinstance" = some none)
    (z_len : PySem.W.nsIn K mainGlobals "len" = some none)
    (z_list : PySem.W.nsIn K mainGlobals "list" = some none)
    (z_range : PySem.W.nsIn K mainGlobals "range" = some none)
    (z_reversed : PySem.W.nsIn K mainGlobals "reversed" = some none)
    (z_set : PySem.W.nsIn K mainGlobals "set" = some none)
    (z_sorted : PySem.W.nsIn K mainGlobals "sorted" = some none)
    (z_sum : PySem.W.nsIn K mainGlobals "sum" = some none)
    (og_Form : PySem.W.nsIn K mainGlobals "Form" = some (some (.ref CO_Form)))
    (opg_Form : PySem.W.plainGet K CO_Form Str.empty = true)
    (ohd_Form : PySem.W.hasDictIn K CO_Form = true)
    (opo_Form : PySem.W.plainOver K CO_Form = true)
    (osa_Form : PySem.W.findIn K (.ref CO_Form) "__setattr__" = some (some (.builtin "object.__setattr__")))
    (omk_Form : PySem.W.makesIn K CO_Form = true)
    (okc_Form : PySem.W.keepIn K (.ref CO_Form) = true)
    (oha_Form : PySem.W.findIn K (.ref CO_Form) "__class__" = some (some (.builtin "object.__class__")))
    (ohn_Form : PySem.W.specialIn K (.builtin "object.__class__") "__get__" = some (some (.builtin "getset_descriptor.__get__")))
    (otk_Form : PySem.W.takesIn K (.builtin "object.__class__") = some true)
    (omr_Form : PySem.W.mroIn K CO_Form (.type "object") = some true)
    (oci_Form : PySem.W.isClsIn K CO_Form = true)
    (oct_Form : PySem.W.typeIn K (.ref CO_Form) = some (.type "type"))
    (onf_Form_a : PySem.W.findIn K (.ref CO_Form) "a" = some none)
    (onf_Form_b : PySem.W.findIn K (.ref CO_Form) "b" = some none)
    (onf_Form_c : PySem.W.findIn K (.ref CO_Form) "c" = some none)
    (onf_Form_discriminant : PySem.W.findIn K (.ref CO_Form) "discriminant" = some none)
    (a0 : PySem.W.findIn K (.ref CO_Form) "__init__" = some (some (.ref f0)))
    (i0 : PySem.W.isFn K (.ref f0) = true)
    (l0 : K.lookup f0 = some ⟨oc0, od0, .func (PySem.W.fnOf "__init__" "Form.__init__" (defArgs s_Form_init) (defBody s_Form_init) (defScope s_Form_init) .none kV0 dc0 pm0 an0 cd0 ct0), sl0⟩)
    (c0 : PySem.W.codeIn K cd0 "Form.__init__" = true)
    (k0 : PySem.W.keepIn K (.ref f0) = true)
    (a1 : PySem.W.findIn K (.ref CO_Form) "stepped" = some (some (.ref f1)))
    (i1 : PySem.W.isFn K (.ref f1) = true)
    (l1 : K.lookup f1 = some ⟨oc1, od1, .func (PySem.W.fnOf "stepped" "Form.stepped" (defArgs s_Form_stepped) (defBody s_Form_stepped) (defScope s_Form_stepped) .none kV1 dc1 pm1 an1 cd1 ct1), sl1⟩)
    (c1 : PySem.W.codeIn K cd1 "Form.stepped" = true)
    (k1 : PySem.W.keepIn K (.ref f1) = true)
    (a2 : PySem.W.findIn K (.ref CO_Form) "turned" = some (some (.ref f2)))
    (i2 : PySem.W.isFn K (.ref f2) = true)
    (l2 : K.lookup f2 = some ⟨oc2, od2, .func (PySem.W.fnOf "turned" "Form.turned" (defArgs s_Form_turned) (defBody s_Form_turned) (defScope s_Form_turned) .none kV2 dc2 pm2 an2 cd2 ct2), sl2⟩)
    (c2 : PySem.W.codeIn K cd2 "Form.turned" = true)
    (k2 : PySem.W.keepIn K (.ref f2) = true)
    (a3 : PySem.W.nsIn K mainGlobals "_law_cell" = some (some (.ref f3)))
    (l3 : K.lookup f3 = some ⟨oc3, od3, .func (PySem.W.fnOf "_law_cell" "_law_cell" (defArgs s_law_cell) (defBody s_law_cell) (defScope s_law_cell) .none kV3 dc3 pm3 an3 cd3 ct3), sl3⟩)
    (c3 : PySem.W.codeIn K cd3 "_law_cell" = true)
    (k3 : PySem.W.keepIn K (.ref f3) = true)
    (a4 : PySem.W.nsIn K mainGlobals "_law_draws" = some (some (.ref f4)))
    (l4 : K.lookup f4 = some ⟨oc4, od4, .func (PySem.W.fnOf "_law_draws" "_law_draws" (defArgs s_law_draws) (defBody s_law_draws) (defScope s_law_draws) .none kV4 dc4 pm4 an4 cd4 ct4), sl4⟩)
    (c4 : PySem.W.codeIn K cd4 "_law_draws" = true)
    (k4 : PySem.W.keepIn K (.ref f4) = true)
    (a5 : PySem.W.nsIn K mainGlobals "_law_form" = some (some (.ref f5)))
    (l5 : K.lookup f5 = some ⟨oc5, od5, .func (PySem.W.fnOf "_law_form" "_law_form" (defArgs s_law_form) (defBody s_law_form) (defScope s_law_form) .none kV5 dc5 pm5 an5 cd5 ct5), sl5⟩)
    (c5 : PySem.W.codeIn K cd5 "_law_form" = true)
    (k5 : PySem.W.keepIn K (.ref f5) = true)
    (a6 : PySem.W.nsIn K mainGlobals "_law_points" = some (some (.ref f6)))
    (l6 : K.lookup f6 = some ⟨oc6, od6, .func (PySem.W.fnOf "_law_points" "_law_points" (defArgs s_law_points) (defBody s_law_points) (defScope s_law_points) .none kV6 dc6 pm6 an6 cd6 ct6), sl6⟩)
    (c6 : PySem.W.codeIn K cd6 "_law_points" = true)
    (k6 : PySem.W.keepIn K (.ref f6) = true)
    (a7 : PySem.W.nsIn K mainGlobals "side_of" = some (some (.ref f7)))
    (l7 : K.lookup f7 = some ⟨oc7, od7, .func (PySem.W.fnOf "side_of" "side_of" (defArgs s_side_of) (defBody s_side_of) (defScope s_side_of) .none kV7 dc7 pm7 an7 cd7 ct7), sl7⟩)
    (c7 : PySem.W.codeIn K cd7 "side_of" = true)
    (k7 : PySem.W.keepIn K (.ref f7) = true)
    (a8 : PySem.W.nsIn K mainGlobals "plain_ways" = some (some (.ref f8)))
    (l8 : K.lookup f8 = some ⟨oc8, od8, .func (PySem.W.fnOf "plain_ways" "plain_ways" (defArgs s_plain_ways) (defBody s_plain_ways) (defScope s_plain_ways) .none kV8 dc8 pm8 an8 cd8 ct8), sl8⟩)
    (c8 : PySem.W.codeIn K cd8 "plain_ways" = true)
    (k8 : PySem.W.keepIn K (.ref f8) = true)
    (a9 : PySem.W.findIn K (.ref CO_Form) "next_step" = some (some (.ref f9)))
    (i9 : PySem.W.isFn K (.ref f9) = true)
    (l9 : K.lookup f9 = some ⟨oc9, od9, .func (PySem.W.fnOf "next_step" "Form.next_step" (defArgs s_Form_next_step) (defBody s_Form_next_step) (defScope s_Form_next_step) .none kV9 dc9 pm9 an9 cd9 ct9), sl9⟩)
    (c9 : PySem.W.codeIn K cd9 "Form.next_step" = true)
    (k9 : PySem.W.keepIn K (.ref f9) = true)
    (a10 : PySem.W.findIn K (.ref CO_Form) "steps" = some (some (.ref f10)))
    (i10 : PySem.W.isFn K (.ref f10) = true)
    (l10 : K.lookup f10 = some ⟨oc10, od10, .func (PySem.W.fnOf "steps" "Form.steps" (defArgs s_Form_steps) (defBody s_Form_steps) (defScope s_Form_steps) .none kV10 dc10 pm10 an10 cd10 ct10), sl10⟩)
    (c10 : PySem.W.codeIn K cd10 "Form.steps" = true)
    (k10 : PySem.W.keepIn K (.ref f10) = true)
    (a11 : PySem.W.findIn K (.ref CO_Form) "reduced" = some (some (.ref f11)))
    (i11 : PySem.W.isFn K (.ref f11) = true)
    (l11 : K.lookup f11 = some ⟨oc11, od11, .func (PySem.W.fnOf "reduced" "Form.reduced" (defArgs s_Form_reduced) (defBody s_Form_reduced) (defScope s_Form_reduced) .none kV11 dc11 pm11 an11 cd11 ct11), sl11⟩)
    (c11 : PySem.W.codeIn K cd11 "Form.reduced" = true)
    (k11 : PySem.W.keepIn K (.ref f11) = true)
    (a12 : PySem.W.nsIn K mainGlobals "way_counts" = some (some (.ref f12)))
    (l12 : K.lookup f12 = some ⟨oc12, od12, .func (PySem.W.fnOf "way_counts" "way_counts" (defArgs s_way_counts) (defBody s_way_counts) (defScope s_way_counts) .none kV12 dc12 pm12 an12 cd12 ct12), sl12⟩)
    (c12 : PySem.W.codeIn K cd12 "way_counts" = true)
    (k12 : PySem.W.keepIn K (.ref f12) = true)
    (a13 : PySem.W.nsIn K mainGlobals "moved_back" = some (some (.ref f13)))
    (l13 : K.lookup f13 = some ⟨oc13, od13, .func (PySem.W.fnOf "moved_back" "moved_back" (defArgs s_moved_back) (defBody s_moved_back) (defScope s_moved_back) .none kV13 dc13 pm13 an13 cd13 ct13), sl13⟩)
    (c13 : PySem.W.codeIn K cd13 "moved_back" = true)
    (k13 : PySem.W.keepIn K (.ref f13) = true)
    (a14 : PySem.W.nsIn K mainGlobals "ways" = some (some (.ref f14)))
    (l14 : K.lookup f14 = some ⟨oc14, od14, .func (PySem.W.fnOf "ways" "ways" (defArgs s_ways) (defBody s_ways) (defScope s_ways) .none kV14 dc14 pm14 an14 cd14 ct14), sl14⟩)
    (c14 : PySem.W.codeIn K cd14 "ways" = true)
    (k14 : PySem.W.keepIn K (.ref f14) = true)
    (a15 : PySem.W.nsIn K mainGlobals "law" = some (some (.ref f15)))
    (l15 : K.lookup f15 = some ⟨oc15, od15, .func (PySem.W.fnOf "law" "law" (defArgs s_law) (defBody s_law) (defScope s_law) .none kV15 dc15 pm15 an15 cd15 ct15), sl15⟩)
    (c15 : PySem.W.codeIn K cd15 "law" = true)
    (k15 : PySem.W.keepIn K (.ref f15) = true)
    (gB : PySem.W.nsIn K mainGlobals "ClockError" = some (some (.ref CB)))
    (rB : PySem.W.readsIn K CB (.type "type") = true)
    (aB : PySem.W.specialIn K (.ref CB) "__getattribute__" = some (some (.builtin "type.__getattribute__")))
    (iB : PySem.W.findCls K (.ref CB) (.type "type") "__init__" = some (.val (.builtin "ValueError.__init__")))
    (eg0 : PySem.W.nsIn K mainGlobals "BadForm" = some (some (.ref C0)))
    (ex0 : K.lookup C0 = some (excClassObj nm0 qq0 C0 N0 bs0 bm0 true sn0 sub0 ab0 col0 dd0 m00 m10 m20 m30 m50 "ValueError.__new__"))
    (eb0 : PySem.HandSPX.refsVE bm0 = true)
    (es0 : PySem.W.findIn K (.ref C0) "__setattr__" = some (some (.builtin "object.__setattr__")))
    (ee0 : PySem.W.subIn K (.ref C0) (.type "BaseException") = some true)
    (et0 : PySem.W.typeIn K (.ref C0) = some (.type "type"))
    (ek0 : PySem.W.keepIn K (.ref C0) = true)
    (ega0 : PySem.W.findIn K (.ref C0) "__getattribute__" = some (some (.builtin "BaseException.__getattribute__")))
    (egg0 : PySem.W.findIn K (.ref C0) "__getattr__" = some none)
    (eh0 : PySem.W.hasDictIn K C0 = true)
    (ei0 : PySem.W.isClsIn K C0 = true)
    (eu0 : PySem.W.subIn K (.ref C0) (.ref C0) = some true)
    (ef0 : PySem.W.findIn K (.ref C0) "__init__" = some (some (.ref g0)))
    (ey0 : PySem.W.typeIn K (.ref g0) = some (.type "function"))
    (el0 : K.lookup g0 = some ⟨ocE0, odE0, .func (PySem.W.fnOf "__init__" "BadForm.__init__" (defArgs s_BadForm_init) (defBody s_BadForm_init) (defScope s_BadForm_init) .none kVE0 dcE0 pmE0 anE0 cdE0 ctE0), slE0⟩)
    (ec0 : PySem.W.codeIn K cdE0 "BadForm.__init__" = true)
    (ej0 : PySem.W.keepIn K (.ref g0) = true)
    (en0_a : PySem.W.findIn K (.ref C0) "a" = some none)
    (en0_b : PySem.W.findIn K (.ref C0) "b" = some none)
    (en0_c : PySem.W.findIn K (.ref C0) "c" = some none) :
    ∃ fd : FuncData, (∀ (s : Shared) (v : Value), BindsTo s fd ⟨[v], []⟩ [("_law_script", v)]) ∧ ∀ base : Heap, K.In base → base.Ns mainGlobals mg → FnOk P w K mg base (L2.CX P w) 9 fa fd ["_law_script"] (spLaw K) := by
  have e := hfa.symm.trans (PySem.W.mg_of X G a15)
  cases e
  have F0 := fun_mk (st := s_Form_init) l0 c0 k0
  have b0 := F0.binds (ps := ["self", "a", "b", "c"]) fun _ _ _ _ _ _ us hl => match us, hl with | [_, _, _, _], _ => rfl
  have F1 := fun_mk (st := s_Form_stepped) l1 c1 k1
  have b1 := F1.binds (ps := ["self", "k"]) fun _ _ _ _ _ _ us hl => match us, hl with | [_, _], _ => rfl
  have F2 := fun_mk (st := s_Form_turned) l2 c2 k2
  have b2 := F2.binds (ps := ["self", "steps"]) fun _ _ _ _ _ _ us hl => match us, hl with | [_, _], _ => rfl
  have F3 := fun_mk (st := s_law_cell) l3 c3 k3
  have b3 := F3.binds (ps := ["_law_script", "_law_k"]) fun _ _ _ _ _ _ us hl => match us, hl with | [_, _], _ => rfl
  have F4 := fun_mk (st := s_law_draws) l4 c4 k4
  have b4 := F4.binds (ps := ["_law_cell_here", "_law_sizes"]) fun _ _ _ _ _ _ us hl => match us, hl with | [_, _], _ => rfl
  have F5 := fun_mk (st := s_law_form) l5 c5 k5
  have b5 := F5.binds (ps := ["_law_drawn"]) fun _ _ _ _ _ _ us hl => match us, hl with | [_], _ => rfl
  have F6 := fun_mk (st := s_law_points) l6 c6 k6
  have b6 := F6.binds (ps := ["_law_row", "_law_most_of_all"]) fun _ _ _ _ _ _ us hl => match us, hl with | [_, _], _ => rfl
  have F7 := fun_mk (st := s_side_of) l7 c7 k7
  have b7 := F7.binds (ps := ["square"]) fun _ _ _ _ _ _ us hl => match us, hl with | [_], _ => rfl
  have F8 := fun_mk (st := s_plain_ways) l8 c8 k8
  have b8 := F8.binds (ps := ["form", "m"]) fun _ _ _ _ _ _ us hl => match us, hl with | [_, _], _ => rfl
  have F9 := fun_mk (st := s_Form_next_step) l9 c9 k9
  have b9 := F9.binds (ps := ["self"]) fun _ _ _ _ _ _ us hl => match us, hl with | [_], _ => rfl
  have F10 := fun_mk (st := s_Form_steps) l10 c10 k10
  have b10 := F10.binds (ps := ["self"]) fun _ _ _ _ _ _ us hl => match us, hl with | [_], _ => rfl
  have F11 := fun_mk (st := s_Form_reduced) l11 c11 k11
  have b11 := F11.binds (ps := ["self"]) fun _ _ _ _ _ _ us hl => match us, hl with | [_], _ => rfl
  have F12 := fun_mk (st := s_way_counts) l12 c12 k12
  have b12 := F12.binds (ps := ["form", "most"]) fun _ _ _ _ _ _ us hl => match us, hl with | [_, _], _ => rfl
  have F13 := fun_mk (st := s_moved_back) l13 c13 k13
  have b13 := F13.binds (ps := ["point", "steps"]) fun _ _ _ _ _ _ us hl => match us, hl with | [_, _], _ => rfl
  have F14 := fun_mk (st := s_ways) l14 c14 k14
  have b14 := F14.binds (ps := ["form", "m"]) fun _ _ _ _ _ _ us hl => match us, hl with | [_, _], _ => rfl
  have F15 := fun_mk (st := s_law) l15 c15 k15
  have G0 := fun_mk (st := s_BadForm_init) el0 ec0 ej0
  have bG0 := G0.binds (ps := ["self", "a", "b", "c"]) fun _ _ _ _ _ _ us hl => match us, hl with | [_, _, _, _], _ => rfl
  have T : Txt K mg ⟨C0, CO_Form, CB⟩ := {
    b_abs := PySem.W.mg_none_of X G z_abs
    b_int := PySem.W.mg_none_of X G z_int
    b_isinstance := PySem.W.mg_none_of X G z_isinstance
    b_len := PySem.W.mg_none_of X G z_len
    b_list := PySem.W.mg_none_of X G z_list
    b_range := PySem.W.mg_none_of X G z_range
    b_reversed := PySem.W.mg_none_of X G z_reversed
    b_set := PySem.W.mg_none_of X G z_set
    b_sorted := PySem.W.mg_none_of X G z_sorted
    b_sum := PySem.W.mg_none_of X G z_sum
    d_Form_init := ⟨⟨_, _, F0, ⟨omk_Form, a0, i0, okc_Form⟩, b0⟩, PySem.W.mg_of X G og_Form⟩
    d_Form_stepped := ⟨_, _, F1, ⟨a1, i1, k1⟩, b1⟩
    d_Form_turned := ⟨_, _, F2, ⟨a2, i2, k2⟩, b2⟩
    d_law_cell := ⟨_, _, F3, PySem.W.mg_of X G a3, b3⟩
    d_law_draws := ⟨_, _, F4, PySem.W.mg_of X G a4, b4⟩
    d_law_form := ⟨_, _, F5, PySem.W.mg_of X G a5, b5⟩
    d_law_points := ⟨_, _, F6, PySem.W.mg_of X G a6, b6⟩
    d_side_of := ⟨_, _, F7, PySem.W.mg_of X G a7, b7⟩
    d_plain_ways := ⟨_, _, F8, PySem.W.mg_of X G a8, b8⟩
    d_Form_next_step := ⟨_, _, F9, ⟨a9, i9, k9⟩, b9⟩
    d_Form_steps := ⟨_, _, F10, ⟨a10, i10, k10⟩, b10⟩
    d_Form_reduced := ⟨_, _, F11, ⟨a11, i11, k11⟩, b11⟩
    d_way_counts := ⟨_, _, F12, PySem.W.mg_of X G a12, b12⟩
    d_moved_back := ⟨_, _, F13, PySem.W.mg_of X G a13, b13⟩
    d_ways := ⟨_, _, F14, PySem.W.mg_of X G a14, b14⟩
    g_Form := PySem.W.mg_of X G og_Form
    cl_Form := ⟨opg_Form, ohd_Form, opo_Form, osa_Form⟩
    ty_Form := fun H a dx fs h => .base (.ins h ⟨opg_Form, ohd_Form, opo_Form, osa_Form⟩ oha_Form ohn_Form otk_Form omr_Form)
    ki_Form := kit_self
    kl_Form := kit_list oci_Form oct_Form
    nl_Form := notFirst_list
    nf_Form_a := onf_Form_a
    nf_Form_b := onf_Form_b
    nf_Form_c := onf_Form_c
    nf_Form_discriminant := onf_Form_discriminant
    base := ⟨PySem.W.mg_of X G gB, rB, aB, iB⟩
    r_BadForm := ⟨PySem.W.mg_of X G eg0, ⟨⟨_, _, _, _, _, _, _, _, _, _, _, _, _, _, _, ex0, eb0⟩, es0, ee0, et0, ek0⟩, ⟨ega0, egg0, ee0, eh0⟩, exm_self ee0 ei0 et0 eu0, ⟨_, _, ef0, ey0, G0, bG0⟩⟩
    no_BadForm_a := en0_a
    no_BadForm_b := en0_b
    no_BadForm_c := en0_c
    triv := trivial }
  exact ⟨_, fun s v => .of_eq rfl, fun base _ _ => ok_law (base := base) F15 T⟩
theorem walk {l : PySem.W.OpenLaw} {q : Program} {loose : List Str} {XP : (Str → Option Value) → Heap → Prop} {YP : World → Heap → Prop} {d : DefRec} {K : Params → PySem.W.Frag} (hn : l.most = some 63) (hdf : d.params.defaults = [])
    (hY : ∀ (w : World) (h : Heap), YP w h → (K w.params).In h)
    (F : ∀ (w : World) (mg : Str → Option Value) (fa : Addr) (h : Heap), (K w.params).In h → h.Ns mainGlobals mg → mg d.name = some (.ref fa) →
      ∃ fd : FuncData, (∀ (s : Shared) (u : Value), BindsTo s fd ⟨[u], []⟩ [("_law_script", u)]) ∧ ∀ base : Heap, (K w.params).In base → base.Ns mainGlobals mg → FnOk l.prog w (K w.params) mg base (L2.CX l.prog w) 9 fa fd ["_law_script"] (spLaw (K w.params))) :
    PySem.W.WalkO q loose XP YP l.row.toRowW d [] (fun f vs => PySem.call f vs) :=
  L2.walk_of (n := 63) (k := 9) (x := "_law_script") (CX := fun w => L2.CX l.prog w) (sp := fun w => spLaw (K w.params)) hn (by decide) hdf ⟨rfl, by decide, by decide⟩ hY F (fun _ _ a ns hl hO hS => ⟨a, ns, rfl, hS, hl, NoT.only hO, fun _ => rfl⟩) fun _ _ _ _ _ h => by
    obtain ⟨_, _, _, _, _, _, _, _, _, _, _, _, z⟩ := h
    exact z.elim
end My
open PySem PySem.W PyProof.Rows
set_option maxRecDepth 100000 in
set_option maxHeartbeats 0 in
theorem PySem.Challenge.cw_everyprime_k98_whole_numbers_of_ways_holds : PySem.Challenge.rw_everyprime_k98_whole_numbers_of_ways.Holds := by
  w_on; o_law; k_head; (case hw => w_witness2)
  k_fill
  refine My.walk (l := PySem.Challenge.rw_everyprime_k98_whole_numbers_of_ways) rfl rfl (fun w h Y => PySem.W.kIn_of Y) ?F
  case F =>
    intro w mg fa h KX G hmg
    refine' My.all_mk KX G hmg ?z_abs ?z_int ?z_isinstance ?z_len ?z_list ?z_range ?z_reversed ?z_set ?z_sorted ?z_sum ?og_Form ?opg_Form ?ohd_Form ?opo_Form ?osa_Form ?omk_Form ?okc_Form ?oha_Form ?ohn_Form ?otk_Form ?omr_Form ?oci_Form ?oct_Form ?onf_Form_a ?onf_Form_b ?onf_Form_c ?onf_Form_discriminant ?a0 ?i0 ?l0 ?c0 ?k0 ?a1 ?i1 ?l1 ?c1 ?k1 ?a2 ?i2 ?l2 ?c2 ?k2 ?a3 ?l3 ?c3 ?k3 ?a4 ?l4 ?c4 ?k4 ?a5 ?l5 ?c5 ?k5 ?a6 ?l6 ?c6 ?k6 ?a7 ?l7 ?c7 ?k7 ?a8 ?l8 ?c8 ?k8 ?a9 ?i9 ?l9 ?c9 ?k9 ?a10 ?i10 ?l10 ?c10 ?k10 ?a11 ?i11 ?l11 ?c11 ?k11 ?a12 ?l12 ?c12 ?k12 ?a13 ?l13 ?c13 ?k13 ?a14 ?l14 ?c14 ?k14 ?a15 ?l15 ?c15 ?k15 ?gB ?rB ?aB ?iB ?eg0 ?ex0 ?eb0 ?es0 ?ee0 ?et0 ?ek0 ?ega0 ?egg0 ?eh0 ?ei0 ?eu0 ?ef0 ?ey0 ?el0 ?ec0 ?ej0 ?en0_a ?en0_b ?en0_c
    (case z_abs => k_is)
    (case z_int => k_is)
    (case z_isinstance => k_is)
    (case z_len => k_is)
    (case z_list => k_is)
    (case z_range => k_is)
    (case z_reversed => k_is)
    (case z_set => k_is)
    (case z_sorted => k_is)
    (case z_sum => k_is)
    (case og_Form => k_is)
    (case opg_Form => k_is)
    (case ohd_Form => k_is)
    (case opo_Form => k_is)
    (case osa_Form => k_is)
    (case omk_Form => k_is)
    (case okc_Form => k_is)
    (case oha_Form => k_is)
    (case ohn_Form => k_is)
    (case otk_Form => k_is)
    (case omr_Form => k_is)
    (case oci_Form => k_is)
    (case oct_Form => k_is)
    (case onf_Form_a => k_is)
    (case onf_Form_b => k_is)
    (case onf_Form_c => k_is)
    (case onf_Form_discriminant => k_is)
    (case a0 => k_is)
    (case i0 => k_is)
    (case l0 => k_is)
    (case c0 => k_is)
    (case k0 => k_is)
    (case a1 => k_is)
    (case i1 => k_is)
    (case l1 => k_is)
    (case c1 => k_is)
    (case k1 => k_is)
    (case a2 => k_is)
    (case i2 => k_is)
    (case l2 => k_is)
    (case c2 => k_is)
    (case k2 => k_is)
    (case a3 => k_is)
    (case l3 => k_is)
    (case c3 => k_is)
    (case k3 => k_is)
    (case a4 => k_is)
    (case l4 => k_is)
    (case c4 => k_is)
    (case k4 => k_is)
    (case a5 => k_is)
    (case l5 => k_is)
    (case c5 => k_is)
    (case k5 => k_is)
    (case a6 => k_is)
    (case l6 => k_is)
    (case c6 => k_is)
    (case k6 => k_is)
    (case a7 => k_is)
    (case l7 => k_is)
    (case c7 => k_is)
    (case k7 => k_is)
    (case a8 => k_is)
    (case l8 => k_is)
    (case c8 => k_is)
    (case k8 => k_is)
    (case a9 => k_is)
    (case i9 => k_is)
    (case l9 => k_is)
    (case c9 => k_is)
    (case k9 => k_is)
    (case a10 => k_is)
    (case i10 => k_is)
    (case l10 => k_is)
    (case c10 => k_is)
    (case k10 => k_is)
    (case a11 => k_is)
    (case i11 => k_is)
    (case l11 => k_is)
    (case c11 => k_is)
    (case k11 => k_is)
    (case a12 => k_is)
    (case l12 => k_is)
    (case c12 => k_is)
    (case k12 => k_is)
    (case a13 => k_is)
    (case l13 => k_is)
    (case c13 => k_is)
    (case k13 => k_is)
    (case a14 => k_is)
    (case l14 => k_is)
    (case c14 => k_is)
    (case k14 => k_is)
    (case a15 => k_is)
    (case l15 => k_is)
    (case c15 => k_is)
    (case k15 => k_is)
    (case gB => k_is)
    (case rB => k_is)
    (case aB => k_is)
    (case iB => k_is)
    (case eg0 => k_is)
    (case ex0 => k_is)
    (case eb0 => decide +kernel)
    (case es0 => k_is)
    (case ee0 => k_is)
    (case et0 => k_is)
    (case ek0 => k_is)
    (case ega0 => k_is)
    (case egg0 => k_is)
    (case eh0 => k_is)
    (case ei0 => k_is)
    (case eu0 => first | rfl | k_is)
    (case ef0 => k_is)
    (case ey0 => k_is)
    (case el0 => k_is)
    (case ec0 => k_is)
    (case ej0 => k_is)
    (case en0_a => k_is)
    (case en0_b => k_is)
    (case en0_c => k_is)
#print axioms PySem.Challenge.cw_everyprime_k98_whole_numbers_of_ways_holds
