import PyProof.Rows.All
import Wide.All
import OpenK.AllK
import Wide.FinOn
import HandS.Base
import HandS.Call
import HandS.List
import HandS.Ends
import HandS.Words
import HandS.Wide
import HandS.WordsList
import HandS.Comp
import HandS.Exc
import HandS.ExcOwn
import HandS.TryOnly
import HandS.WordsExc
import HandS.ExcInit
import HandS.ExcField
import HandS.ClsMeth
import HandS.Codes
import HandS.NoneIn
import HandS.IsInst
import HandS.SortInts
import HandS.Style
import HandS.Star
import HandS.FStr
import HandS.Iter
import HandS.Dict
import HandS.Walk
import HandS.Strs
import HandS.SetBool
import HandS.SetIn
import HandS.TryMany
import HandS.More
import HandS.DictComp
import HandS.Deep
import KE.KOpsOwn
import HandS.Small
import HandS.TupAny
import HandS.GenList
import HandS.Flt
import HandS.Conv
import HandS.Conv
import HandS.SetFor
import HandS.SetFor
import PySem.Challenge.RW_everyprime_k86_quizzes
set_option Elab.async false
set_option linter.all false
set_option maxRecDepth 100000
set_option maxHeartbeats 4000000
namespace L2
open PySem PySem.Spec PyProof.Rows
/-- one step of a reading, found by its head -/
class Stp (G : Prop) (N : outParam Prop) : Prop where
  mp : N → G
/-! ### forgetting what was made on the way -/
/-- no dict with tuple keys is tracked -/
def noT : HO -> Bool
  | .dT _ => false
  | .frz _ u => noT u
  | _ => true
def NoT (H : Hp) : Prop := ∀ a o, H a = some o → noT o = true
theorem NoT.upd {H : Hp} {p : Addr} {o : HO} (n : NoT H) (h : noT o = true) : NoT (upd H p o) := fun a u e => by
  by_cases hb : a = p
  · subst hb
    rw [upd_same] at e
    cases e
    exact h
  · rw [upd_ne hb] at e
    exact n a u e
theorem obj_back {P : Program} {w : World} {H H' : Hp} {h h' : Heap} {a : Addr} : ∀ {o : HO}, noT o = true → ObjOk P w H' h' a o → ObjOk P w H h a o → ObjOk P w H h' a o := by
  intro o
  induction o with
  | dT kvs => intro n; cases n
  | frz ob u ih =>
    intro n x y
    exact ⟨x.1, ih n x.2 y.2⟩
  | ins C dx fs =>
    intro n x y
    exact ⟨y.1, x.2⟩
  | lst xs => intro n x y; exact x
  | tup xs => intro n x y; exact x
  | dK kvs => intro n x y; exact x
  | set S m => intro n x y; exact x
  | own z => intro n x y; exact x
  | xd fs => intro n x y; exact x
  | rng lo hi => intro n x y; exact x
  | tbl ps => intro n x y; exact x
  | met f z => intro n x y; exact x
  | ext phi => intro n x y; exact x
theorem hok_back {P : Program} {w : World} {H H' : Hp} {h h' : Heap} (n : NoT H) (x : HOk P w H' h') (y : HOk P w H h) (e : Same H H') : HOk P w H h' := fun a o q =>
  obj_back (n a o q) (x a o (e a o q)) (y a o q)
theorem Inv.forget {X : Cx} {pins pins' : List (Addr × Obj)} {σ σ' : St} {H H' : Hp} {s s' : Shared} (I : Inv X pins σ H s) (J : Inv X pins' σ' H' s') (e : Same H H') (n : NoT H) : Inv X pins' σ' H s' :=
  ⟨J.ok, J.os, J.bare, ⟨J.base.keep, J.base.slot, I.base.free, J.base.there, I.base.tups, I.base.frzs, I.base.tbls⟩, J.loc, J.cell, I.free, I.freeC,
    fun p hp => let ⟨a, b, c⟩ := J.pin p hp; ⟨a, e.free b, c⟩, hok_back n J.hok I.hok e, J.len⟩
/-- an expression whose making leaves things behind that nobody asks of -/
def tPure (t : TE) : TE := fun σ H Q => NoT H ∧ t σ H fun v H' => Same H H' ∧ Q v H
theorem pe_pure {X : Cx} {e : Expr} {t : TE} (h : PE X e t) : PE X e (tPure t) :=
  ⟨fun pins s σ H Q I ⟨n, q⟩ => thn (h.run pins s σ H _ I q) fun u s' ⟨v, H', J, r, sm, q'⟩ => ⟨v, H, I.forget J sm n, r, q'⟩⟩
def tPureT (t : TT) : TT := fun σ H Q => NoT H ∧ t σ H fun b H' => Same H H' ∧ Q b H
theorem pt_pure {X : Cx} {e : Expr} {t : TT} (h : PT X e t) : PT X e (tPureT t) :=
  ⟨fun pins s σ H Q I ⟨n, q⟩ => thn (h.run pins s σ H _ I q) fun u s' ⟨H', J, sm, q'⟩ => ⟨H, I.forget J sm n, q'⟩⟩
theorem fn_forget {P : Program} {w : World} {K : PySem.W.Frag} {mg : Str → Option Value} {base : Heap} {CX : CXT} {k : Nat} {f : Addr} {fd : FuncData} {ps : List Str} {sp : Sp} (F : FnOk P w K mg base CX k f fd ps sp) :
    FnOk P w K mg base CX k f fd ps (fun vs H Q E => NoT H ∧ sp vs H (fun v H' => Same H H' ∧ Q v H) E) := by
  refine ⟨fun vs H Q E q => F.len vs H _ E q.2, fun A outer s H args us vs Q E hr he hb hv hs => ?_⟩
  refine codeAny_mono (F.run A outer s H args us vs _ E hr he hb hv hs.2) fun r s' q => ?_
  cases r with
  | error er => exact q
  | ok fl =>
    cases fl with
    | ret u =>
      obtain ⟨v, H2, os2, bare2, un2, hok2, rv, sm, q2⟩ := q
      exact ⟨v, H, os2, bare2, ⟨un2.keep, un2.slot, fun _ _ _ n _ => n, un2.there, fun _ _ q => q, fun _ _ _ q => q, fun _ ps q => ⟨#[], by rw [q]; simp⟩⟩, hok_back hs.1 hok2 he.hok sm, rv, q2⟩
    | next => exact q
    | brk => exact q
    | cont => exact q
end L2

namespace L2
open PySem PySem.Spec PyProof.Rows
/-! ### operators in the forms that are used here -/
def CMulB (i j : Int) : Prop := CMul i j ∨ CMulW i j
theorem CMulB.ok {i j : Int} (h : CMulB i j) : IntMulOk i j := by
  rcases h with h | h
  · exact h.ok
  · exact h.ok
def CDivB (_ j : Int) : Prop := 0 < j ∧ j < 2 ^ 250
section
variable {X : Cx}
theorem op_mulB : OpR X (binaryOp .Mult) (rI CMulB fun i j => .int (i * j)) := opI fun _ _ _ _ _ _ _ hc q => mul_int q hc.ok
theorem op_fdivB : OpR X (binaryOp .FloorDiv) (rI CDivB fun i j => .int (i / j)) := fun pins s σ H x y v u Q I rx ry ⟨i, j, e1, e2, hc, q⟩ =>
  op_fdivW pins s σ H x y v u Q I rx ry ⟨i, j, e1, e2, wide_div (b := 250) hc.1 (by
    have h1 := hc.1
    have h2 := hc.2
    have h3 : j = (j.natAbs : Int) := by omega
    have h4 : (j.natAbs : Int) < ((2 ^ 250 : Nat) : Int) := by
      rw [← h3, Int.natCast_pow]
      exact h2
    exact Int.ofNat_lt.mp h4) (by decide) (by decide), q⟩
end
/-! ### the readings, one lemma each -/
section
variable {σ : St} {H : Hp} {Q : VK} {R : Bool → Hp → Prop} {RA : List V → Hp → Prop} {K : PySem.W.Frag} {v x y z : V} {i j : Int} {ta tb tc te : TE} {tt uu : TT} {t t1 t2 u : TS} {tr : TA} {r : R2}
variable {nx : St → Hp → Prop} {rt : VK} {bk ct : St → Hp → Prop}
theorem rd_var {n : Nat} (h : σ[n]? = some (some v)) (q : Q v H) : tVar n σ H Q := ⟨v, h, q⟩
theorem rd_c (q : Q v H) : tC v σ H Q := q
instance st_c  : Stp (tC v σ H Q) (Q v H) := ⟨fun h => rd_c h⟩
theorem rd_op (h : ta σ H fun x H1 => tb σ H1 fun y H2 => r x y H2 Q) : tOp r ta tb σ H Q := h
instance st_op  : Stp (tOp r ta tb σ H Q) (ta σ H fun x H1 => tb σ H1 fun y H2 => r x y H2 Q) := ⟨fun h => rd_op h⟩
theorem rd_un {ru : V → Hp → VK → Prop} (h : ta σ H fun x H1 => ru x H1 Q) : tUn ru ta σ H Q := h
instance st_un {ru : V → Hp → VK → Prop} : Stp (tUn ru ta σ H Q) (ta σ H fun x H1 => ru x H1 Q) := ⟨fun h => rd_un h⟩
theorem rd_I {C : Int → Int → Prop} {g : Int → Int → V} (hc : C i j) (q : Q (g i j) H) : rI C g (.int i) (.int j) H Q := ⟨i, j, rfl, rfl, hc, q⟩
theorem rd_I0 {g : Int → Int → V} (q : Q (g i j) H) : rI0 g (.int i) (.int j) H Q := ⟨i, j, rfl, rfl, q⟩
instance st_I0 {g : Int → Int → V} : Stp (rI0 g (.int i) (.int j) H Q) (Q (g i j) H) := ⟨fun h => rd_I0 h⟩
theorem rd_U {g : Int → V} (q : Q (g i) H) : rU g (.int i) H Q := ⟨i, rfl, q⟩
instance st_U {g : Int → V} : Stp (rU g (.int i) H Q) (Q (g i) H) := ⟨fun h => rd_U h⟩
theorem rd_eqI (q : Q (.bl (decide (i = j))) H) : rEq (.int i) (.int j) H Q := ⟨rfl, by
  have e : decide (V.int i = V.int j) = decide (i = j) := decide_eq_decide.mpr ⟨fun z => V.int.inj z, fun z => by rw [z]⟩
  rw [e]
  exact q⟩
instance st_eqI  : Stp (rEq (.int i) (.int j) H Q) (Q (.bl (decide (i = j))) H) := ⟨fun h => rd_eqI h⟩
theorem rd_neI (q : Q (.bl (!decide (i = j))) H) : rNe (.int i) (.int j) H Q := ⟨rfl, by
  have e : decide (V.int i = V.int j) = decide (i = j) := decide_eq_decide.mpr ⟨fun z => V.int.inj z, fun z => by rw [z]⟩
  rw [e]
  exact q⟩
instance st_neI  : Stp (rNe (.int i) (.int j) H Q) (Q (.bl (!decide (i = j))) H) := ⟨fun h => rd_neI h⟩
theorem rd_eqS {i j : Str} (q : Q (.bl (decide (i = j))) H) : rEq (.str i) (.str j) H Q := ⟨rfl, by
  have e : decide (V.str i = V.str j) = decide (i = j) := decide_eq_decide.mpr ⟨fun z => V.str.inj z, fun z => by rw [z]⟩
  rw [e]
  exact q⟩
instance st_eqS {i j : Str} : Stp (rEq (.str i) (.str j) H Q) (Q (.bl (decide (i = j))) H) := ⟨fun h => rd_eqS h⟩
theorem rd_neS {i j : Str} (q : Q (.bl (!decide (i = j))) H) : rNe (.str i) (.str j) H Q := ⟨rfl, by
  have e : decide (V.str i = V.str j) = decide (i = j) := decide_eq_decide.mpr ⟨fun z => V.str.inj z, fun z => by rw [z]⟩
  rw [e]
  exact q⟩
instance st_neS {i j : Str} : Stp (rNe (.str i) (.str j) H Q) (Q (.bl (!decide (i = j))) H) := ⟨fun h => rd_neS h⟩
theorem rd_eqB {i j : Bool} (q : Q (.bl (decide (i = j))) H) : rEq (.bl i) (.bl j) H Q := ⟨rfl, by
  have e : decide (V.bl i = V.bl j) = decide (i = j) := decide_eq_decide.mpr ⟨fun z => V.bl.inj z, fun z => by rw [z]⟩
  rw [e]
  exact q⟩
instance st_eqB {i j : Bool} : Stp (rEq (.bl i) (.bl j) H Q) (Q (.bl (decide (i = j))) H) := ⟨fun h => rd_eqB h⟩
theorem rd_neB {i j : Bool} (q : Q (.bl (!decide (i = j))) H) : rNe (.bl i) (.bl j) H Q := ⟨rfl, by
  have e : decide (V.bl i = V.bl j) = decide (i = j) := decide_eq_decide.mpr ⟨fun z => V.bl.inj z, fun z => by rw [z]⟩
  rw [e]
  exact q⟩
instance st_neB {i j : Bool} : Stp (rNe (.bl i) (.bl j) H Q) (Q (.bl (!decide (i = j))) H) := ⟨fun h => rd_neB h⟩
theorem rd_eqV (h : scal x y = true) (q : Q (.bl (decide (x = y))) H) : rEq x y H Q := ⟨h, q⟩
theorem rd_test (h : te σ H fun x H' => ∃ k, x = .bl k ∧ R k H') : tTest te σ H R := h
instance st_test  : Stp (tTest te σ H R) (te σ H fun x H' => ∃ k, x = .bl k ∧ R k H') := ⟨fun h => rd_test h⟩
theorem rd_B (h : te σ H fun x H' => ∃ k, x = .bl k ∧ R k H') : tB te σ H R := h
instance st_B  : Stp (tB te σ H R) (te σ H fun x H' => ∃ k, x = .bl k ∧ R k H') := ⟨fun h => rd_B h⟩
theorem rd_k {b : Bool} {P : Bool → Prop} (q : P b) : ∃ k, V.bl b = .bl k ∧ P k := ⟨b, rfl, q⟩
instance st_k {b : Bool} {P : Bool → Prop} : Stp (∃ k, V.bl b = .bl k ∧ P k) (P b) := ⟨fun h => rd_k h⟩
theorem rd_and (h : tt σ H fun c H1 => if c = true then uu σ H1 R else R false H1) : tAnd tt uu σ H R := h
instance st_and  : Stp (tAnd tt uu σ H R) (tt σ H fun c H1 => if c = true then uu σ H1 R else R false H1) := ⟨fun h => rd_and h⟩
theorem rd_or (h : tt σ H fun c H1 => if c = true then R true H1 else uu σ H1 R) : tOr tt uu σ H R := h
instance st_or  : Stp (tOr tt uu σ H R) (tt σ H fun c H1 => if c = true then R true H1 else uu σ H1 R) := ⟨fun h => rd_or h⟩
theorem rd_not (h : tt σ H fun c H1 => R (!c) H1) : tNot tt σ H R := h
instance st_not  : Stp (tNot tt σ H R) (tt σ H fun c H1 => R (!c) H1) := ⟨fun h => rd_not h⟩
theorem rd_andV (h : ta σ H fun x H1 => ∃ c, x = .bl c ∧ if c = true then tb σ H1 Q else Q (.bl false) H1) : tAndV ta tb σ H Q := h
instance st_andV  : Stp (tAndV ta tb σ H Q) (ta σ H fun x H1 => ∃ c, x = .bl c ∧ if c = true then tb σ H1 Q else Q (.bl false) H1) := ⟨fun h => rd_andV h⟩
theorem rd_orV (h : ta σ H fun x H1 => ∃ c, x = .bl c ∧ if c = true then Q (.bl true) H1 else tb σ H1 Q) : tOrV ta tb σ H Q := h
instance st_orV  : Stp (tOrV ta tb σ H Q) (ta σ H fun x H1 => ∃ c, x = .bl c ∧ if c = true then Q (.bl true) H1 else tb σ H1 Q) := ⟨fun h => rd_orV h⟩
theorem rd_notV (h : ta σ H fun x H1 => ∃ c, x = .bl c ∧ Q (.bl (!c)) H1) : tNotV ta σ H Q := h
instance st_notV  : Stp (tNotV ta σ H Q) (ta σ H fun x H1 => ∃ c, x = .bl c ∧ Q (.bl (!c)) H1) := ⟨fun h => rd_notV h⟩
theorem rd_ifx (h : tt σ H fun c H1 => if c = true then ta σ H1 Q else tb σ H1 Q) : tIf tt ta tb σ H Q := h
instance st_ifx  : Stp (tIf tt ta tb σ H Q) (tt σ H fun c H1 => if c = true then ta σ H1 Q else tb σ H1 Q) := ⟨fun h => rd_ifx h⟩
theorem rd_chain {r' : R2} (h : ta σ H fun x H1 => tb σ H1 fun y H2 => r x y H2 fun z H3 => ∃ k, z = .bl k ∧ (if k = true then tc σ H3 fun w' H4 => r' y w' H4 Q else Q (.bl false) H3)) : tChain r r' ta tb tc σ H Q := h
instance st_chain {r' : R2} : Stp (tChain r r' ta tb tc σ H Q) (ta σ H fun x H1 => tb σ H1 fun y H2 => r x y H2 fun z H3 => ∃ k, z = .bl k ∧ (if k = true then tc σ H3 fun w' H4 => r' y w' H4 Q else Q (.bl false) H3)) := ⟨fun h => rd_chain h⟩
theorem rd_nil (q : RA [] H) : tNil σ H RA := q
instance st_nil  : Stp (tNil σ H RA) (RA [] H) := ⟨fun h => rd_nil h⟩
theorem rd_cons (h : ta σ H fun x H1 => tr σ H1 fun xs H2 => RA (x :: xs) H2) : tCons ta tr σ H RA := h
instance st_cons  : Stp (tCons ta tr σ H RA) (ta σ H fun x H1 => tr σ H1 fun xs H2 => RA (x :: xs) H2) := ⟨fun h => rd_cons h⟩
theorem rd_tup (h : tr σ H fun xs H1 => xs.length ≤ sizeLine ∧ ∀ p, H1 p = none → Q (.ref p) (upd H1 p (.tup xs))) : tTup tr σ H Q := h
instance st_tup  : Stp (tTup tr σ H Q) (tr σ H fun xs H1 => xs.length ≤ sizeLine ∧ ∀ p, H1 p = none → Q (.ref p) (upd H1 p (.tup xs))) := ⟨fun h => rd_tup h⟩
theorem rd_lst (h : tr σ H fun xs H1 => xs.length ≤ sizeLine ∧ ∀ p, H1 p = none → Q (.ref p) (upd H1 p (.lst xs))) : tLst tr σ H Q := h
instance st_lst  : Stp (tLst tr σ H Q) (tr σ H fun xs H1 => xs.length ≤ sizeLine ∧ ∀ p, H1 p = none → Q (.ref p) (upd H1 p (.lst xs))) := ⟨fun h => rd_lst h⟩
theorem rd_pure (n : NoT H) (h : te σ H fun v H' => Same H H' ∧ Q v H) : tPure te σ H Q := ⟨n, h⟩
theorem rd_pureT (n : NoT H) (h : tt σ H fun v H' => Same H H' ∧ R v H) : tPureT tt σ H R := ⟨n, h⟩
theorem rd_call {sp : Sp} {E : XK} (h : tr σ H fun vs H1 => sp vs H1 Q E) : tCall sp [] E tr σ H Q := by
  show tr σ H fun vs H1 => sp (vs ++ []) H1 Q E
  simp only [List.append_nil]
  exact h
instance st_call {sp : Sp} {E : XK} : Stp (tCall sp [] E tr σ H Q) (tr σ H fun vs H1 => sp vs H1 Q E) := ⟨fun h => rd_call h⟩
theorem rd_cb {rr : List V → Hp → VK → Prop} (h : tr σ H fun vs H1 => rr vs H1 Q) : tCB rr tr σ H Q := h
instance st_cb {rr : List V → Hp → VK → Prop} : Stp (tCB rr tr σ H Q) (tr σ H fun vs H1 => rr vs H1 Q) := ⟨fun h => rd_cb h⟩
/-! statements -/
theorem rd_seq (h : t ⟨u ⟨nx, rt, bk, ct⟩, rt, bk, ct⟩ σ H) : tSeq t u ⟨nx, rt, bk, ct⟩ σ H := h
instance st_seq  : Stp (tSeq t u ⟨nx, rt, bk, ct⟩ σ H) (t ⟨u ⟨nx, rt, bk, ct⟩, rt, bk, ct⟩ σ H) := ⟨fun h => rd_seq h⟩
theorem rd_next (q : nx σ H) : tNext ⟨nx, rt, bk, ct⟩ σ H := q
instance st_next  : Stp (tNext ⟨nx, rt, bk, ct⟩ σ H) (nx σ H) := ⟨fun h => rd_next h⟩
theorem rd_break (q : bk σ H) : tBreak ⟨nx, rt, bk, ct⟩ σ H := q
instance st_break  : Stp (tBreak ⟨nx, rt, bk, ct⟩ σ H) (bk σ H) := ⟨fun h => rd_break h⟩
theorem rd_cont (q : ct σ H) : tCont ⟨nx, rt, bk, ct⟩ σ H := q
instance st_cont  : Stp (tCont ⟨nx, rt, bk, ct⟩ σ H) (ct σ H) := ⟨fun h => rd_cont h⟩
theorem rd_ret (h : te σ H rt) : tRet te ⟨nx, rt, bk, ct⟩ σ H := h
instance st_ret  : Stp (tRet te ⟨nx, rt, bk, ct⟩ σ H) (te σ H rt) := ⟨fun h => rd_ret h⟩
theorem rd_retN (h : rt .non H) : tRetN ⟨nx, rt, bk, ct⟩ σ H := h
instance st_retN  : Stp (tRetN ⟨nx, rt, bk, ct⟩ σ H) (rt .non H) := ⟨fun h => rd_retN h⟩
theorem rd_drop (h : te σ H fun _ H1 => nx σ H1) : tDrop te ⟨nx, rt, bk, ct⟩ σ H := h
instance st_drop  : Stp (tDrop te ⟨nx, rt, bk, ct⟩ σ H) (te σ H fun _ H1 => nx σ H1) := ⟨fun h => rd_drop h⟩
theorem rd_asg {g : TG} (h : te σ H fun x H1 => g x σ H1 nx) : tAsg te g ⟨nx, rt, bk, ct⟩ σ H := h
instance st_asg {g : TG} : Stp (tAsg te g ⟨nx, rt, bk, ct⟩ σ H) (te σ H fun x H1 => g x σ H1 nx) := ⟨fun h => rd_asg h⟩
theorem rd_gname {n : Nat} {N : St → Hp → Prop} (q : N (σ.set n (some v)) H) : gName n v σ H N := q
instance st_gname {n : Nat} {N : St → Hp → Prop} : Stp (gName n v σ H N) (N (σ.set n (some v)) H) := ⟨fun h => rd_gname h⟩
theorem rd_ifS (h : tt σ H fun b H1 => if b = true then t1 ⟨nx, rt, bk, ct⟩ σ H1 else t2 ⟨nx, rt, bk, ct⟩ σ H1) : tIfS tt t1 t2 ⟨nx, rt, bk, ct⟩ σ H := h
instance st_ifS  : Stp (tIfS tt t1 t2 ⟨nx, rt, bk, ct⟩ σ H) (tt σ H fun b H1 => if b = true then t1 ⟨nx, rt, bk, ct⟩ σ H1 else t2 ⟨nx, rt, bk, ct⟩ σ H1) := ⟨fun h => rd_ifS h⟩
theorem rd_par {m n : Nat} (h : tr σ H fun vs H1 => ∃ v w, vs = [v, w] ∧ nx ((σ.set m (some v)).set n (some w)) H1) : tPar m n tr ⟨nx, rt, bk, ct⟩ σ H := h
instance st_par {m n : Nat} : Stp (tPar m n tr ⟨nx, rt, bk, ct⟩ σ H) (tr σ H fun vs H1 => ∃ v w, vs = [v, w] ∧ nx ((σ.set m (some v)).set n (some w)) H1) := ⟨fun h => rd_par h⟩
theorem rd_par2 {v w : V} {P : V → V → Prop} (q : P v w) : ∃ v' w', [v, w] = [v', w'] ∧ P v' w' := ⟨v, w, rfl, q⟩
instance st_par2 {v w : V} {P : V → V → Prop} : Stp (∃ v' w', [v, w] = [v', w'] ∧ P v' w') (P v w) := ⟨fun h => rd_par2 h⟩
theorem rd_aug {n : Nat} {f : Int → Int → Int} (h : σ[n]? = some (some (.int i))) (q : te σ H fun y H1 => ∃ j, y = .int j ∧ nx (σ.set n (some (.int (f i j)))) H1) (mono : ∀ Q Q' : VK, (∀ v H, Q v H → Q' v H) → te σ H Q → te σ H Q') :
    tAug n te (ipI f) ⟨nx, rt, bk, ct⟩ σ H := ⟨.int i, h, mono _ _ (fun y H1 ⟨j, e, q⟩ => ⟨i, j, rfl, e, q⟩) q⟩
theorem rd_augG {n : Nat} {x : V} {te : TE} {ti : TIp} (h : σ[n]? = some (some x)) (q : te σ H fun y H1 => ti x y H1 fun z H2 => nx (σ.set n (some z)) H2) : tAug n te ti ⟨nx, rt, bk, ct⟩ σ H := ⟨x, h, q⟩
theorem rd_ipI {f : Int → Int → Int} {i j : Int} {R : VK} (q : R (.int (f i j)) H) : ipI f (.int i) (.int j) H R := ⟨i, j, rfl, rfl, q⟩
instance st_ipI {f : Int → Int → Int} {i j : Int} {R : VK} : Stp (ipI f (.int i) (.int j) H R) (R (.int (f i j)) H) := ⟨fun h => rd_ipI h⟩
theorem rd_augC {n : Nat} {f : Int → Int → Int} (h : σ[n]? = some (some (.int i))) (q : nx (σ.set n (some (.int (f i j)))) H) : tAug n (tC (.int j)) (ipI f) ⟨nx, rt, bk, ct⟩ σ H := ⟨.int i, h, i, j, rfl, rfl, q⟩
/-! ifs -/
theorem rd_ite {p A B : Prop} [Decidable p] (h1 : p → A) (h2 : ¬ p → B) : if decide p = true then A else B := by
  by_cases h : p
  · rw [if_pos (decide_eq_true h)]
    exact h1 h
  · rw [if_neg (by rw [decide_eq_false h]; decide)]
    exact h2 h
theorem rd_iteN {p A B : Prop} [Decidable p] (h1 : ¬ p → A) (h2 : p → B) : if (!decide p) = true then A else B := by
  by_cases h : p
  · rw [if_neg (by rw [decide_eq_true h]; decide)]
    exact h2 h
  · rw [if_pos (by rw [decide_eq_false h]; decide)]
    exact h1 h
theorem rd_iteb {b : Bool} {A B : Prop} (h1 : b = true → A) (h2 : b = false → B) : if b = true then A else B := by
  cases b with
  | true => exact h1 rfl
  | false => exact h2 rfl
theorem rd_iteNT {A B : Prop} (h : B) : if (!true) = true then A else B := h
instance st_iteNT {A B : Prop} : Stp (if (!true) = true then A else B) (B) := ⟨fun h => rd_iteNT h⟩
theorem rd_iteNF {A B : Prop} (h : A) : if (!false) = true then A else B := h
instance st_iteNF {A B : Prop} : Stp (if (!false) = true then A else B) (A) := ⟨fun h => rd_iteNF h⟩
theorem rd_iteT {A B : Prop} (h : A) : if true = true then A else B := iteT h
instance st_iteT {A B : Prop} : Stp (if true = true then A else B) (A) := ⟨fun h => rd_iteT h⟩
theorem rd_iteF {A B : Prop} (h : B) : if false = true then A else B := iteF h
instance st_iteF {A B : Prop} : Stp (if false = true then A else B) (B) := ⟨fun h => rd_iteF h⟩
/-! while, for -/
def lBody (W : Nat → St → Hp → Prop) (m : Nat) (tb : TS) (nx : St → Hp → Prop) (rt : VK) : St → Hp → Prop := fun σ H =>
  ∃ N : St → Hp → Prop, (∀ σ' H', N σ' H' → ∃ m', m' < m ∧ W m' σ' H') ∧ tb ⟨N, rt, nx, N⟩ σ H
theorem rd_lBody {W : Nat → St → Hp → Prop} {m : Nat} (h : t ⟨fun σ' H' => ∃ m', m' < m ∧ W m' σ' H', rt, nx, fun σ' H' => ∃ m', m' < m ∧ W m' σ' H'⟩ σ H) : lBody W m t nx rt σ H := ⟨_, fun _ _ q => q, h⟩
instance st_lBody {W : Nat → St → Hp → Prop} {m : Nat} : Stp (lBody W m t nx rt σ H) (t ⟨fun σ' H' => ∃ m', m' < m ∧ W m' σ' H', rt, nx, fun σ' H' => ∃ m', m' < m ∧ W m' σ' H'⟩ σ H) := ⟨fun h => rd_lBody h⟩
theorem rd_while (W : Nat → St → Hp → Prop) (m0 : Nat) (h0 : W m0 σ H) (turn : ∀ m σ H, W m σ H → tt σ H fun b H1 => if b = true then lBody W m t nx rt σ H1 else nx σ H1) : tWhile tt t ⟨nx, rt, bk, ct⟩ σ H :=
  ⟨W, ⟨m0, h0⟩, fun m σ H w => turn m σ H w⟩
def fBody (J : It) (g : TG) (tb : TS) (nx : St → Hp → Prop) (rt : VK) : St → Hp → Prop := fun σ H => ∃ W : Nat → Nat → St → Hp → Prop, (∃ m, W 0 m σ H) ∧ ∀ i m σ H, W i m σ H →
  (J.stop i H ∧ nx σ H) ∨ (J.go i H ∧ ∃ N : St → Hp → Prop, (∀ σ' H', N σ' H' → ∃ m', m' < m ∧ W (i + 1) m' σ' H') ∧ ∀ x H', J.yld i H x H' → g x σ H' fun σ2 H2 => tb ⟨N, rt, nx, N⟩ σ2 H2)
theorem rd_for {wi : TI} {g : TG} (h : wi σ H fun J H1 => fBody J g t nx rt σ H1) : tFor wi g t ⟨nx, rt, bk, ct⟩ σ H := h
instance st_for {wi : TI} {g : TG} : Stp (tFor wi g t ⟨nx, rt, bk, ct⟩ σ H) (wi σ H fun J H1 => fBody J g t nx rt σ H1) := ⟨fun h => rd_for h⟩
theorem rd_rng1 {n : Int} {S : It → Hp → Prop} (h1 : -(2 ^ 62) ≤ n) (h2 : n < 2 ^ 62) (q : S (Itr 0 n.toNat) H) : ∃ j : Int, ([.int n] : List V) = [.int j] ∧ -(2 ^ 62) ≤ j ∧ j < 2 ^ 62 ∧ S (Itr 0 j.toNat) H := ⟨n, rfl, h1, h2, q⟩
theorem rd_iRng1 {S : It → Hp → Prop} (h : tr σ H fun vs H1 => ∃ j : Int, vs = [.int j] ∧ -(2 ^ 62) ≤ j ∧ j < 2 ^ 62 ∧ S (Itr 0 j.toNat) H1) : iRng1 tr σ H S := h
theorem rd_iRng2 {S : It → Hp → Prop} (h : tr σ H fun vs H1 => ∃ i j : Int, vs = [.int i, .int j] ∧ (-(2 ^ 62) ≤ i ∧ i < 2 ^ 62 ∧ -(2 ^ 62) ≤ j ∧ j < 2 ^ 62) ∧ S (Itr i (j - i).toNat) H1) : iRng2 tr σ H S := h
theorem rd_rng2 {m n : Int} {S : It → Hp → Prop} (h1 : -(2 ^ 62) ≤ m ∧ m < 2 ^ 62 ∧ -(2 ^ 62) ≤ n ∧ n < 2 ^ 62) (q : S (Itr m (n - m).toNat) H) : ∃ i j : Int, ([.int m, .int n] : List V) = [.int i, .int j] ∧ (-(2 ^ 62) ≤ i ∧ i < 2 ^ 62 ∧ -(2 ^ 62) ≤ j ∧ j < 2 ^ 62) ∧ S (Itr i (j - i).toNat) H := ⟨m, n, rfl, h1, q⟩
theorem rd_forR {lo : Int} {n : Nat} {g : TG} (Pv : Nat → St → Hp → Prop) (h0 : Pv 0 σ H)
    (hs : ∀ i σ H, i < n → Pv i σ H → g (.int (lo + i)) σ H fun σ2 H2 => t ⟨Pv (i + 1), rt, nx, Pv (i + 1)⟩ σ2 H2) (hd : ∀ σ H, Pv n σ H → nx σ H) : fBody (Itr lo n) g t nx rt σ H :=
  for_range (D := ⟨nx, rt, fun _ _ => False, fun _ _ => False⟩) Pv h0 hs hd
theorem rd_forL {a : Addr} {xs : List V} {g : TG} (Pv : Nat → St → Hp → Prop) (h0 : Pv 0 σ H) (hl : ∀ i σ H, i ≤ xs.length → Pv i σ H → SqL K H a xs)
    (hs : ∀ i x σ H, xs[i]? = some x → Pv i σ H → g x σ H fun σ2 H2 => t ⟨Pv (i + 1), rt, nx, Pv (i + 1)⟩ σ2 H2) (hd : ∀ σ H, Pv xs.length σ H → nx σ H) : fBody (Itl K a) g t nx rt σ H :=
  for_list (D := ⟨nx, rt, fun _ _ => False, fun _ _ => False⟩) Pv h0 hl hs hd
theorem rd_forT {a : Addr} {xs : List V} {g : TG} (Pv : Nat → St → Hp → Prop) (h0 : Pv 0 σ H) (hl : ∀ i σ H, i ≤ xs.length → Pv i σ H → SqT K H a xs)
    (hs : ∀ i x σ H, xs[i]? = some x → Pv i σ H → g x σ H fun σ2 H2 => t ⟨Pv (i + 1), rt, nx, Pv (i + 1)⟩ σ2 H2) (hd : ∀ σ H, Pv xs.length σ H → nx σ H) : fBody (Itt K a) g t nx rt σ H :=
  for_tup (D := ⟨nx, rt, fun _ _ => False, fun _ _ => False⟩) Pv h0 hl hs hd
theorem rd_iList {S : It → Hp → Prop} (h : ta σ H fun x H1 => ∃ a, x = .ref a ∧ (∃ xs, SqL K H1 a xs) ∧ S (Itl K a) H1) : iList K ta σ H S := h
theorem rd_iTup {S : It → Hp → Prop} (h : ta σ H fun x H1 => ∃ a, x = .ref a ∧ (∃ xs, SqT K H1 a xs) ∧ S (Itt K a) H1) : iTup K ta σ H S := h
theorem rd_ixL {p : Addr} {xs : List V} (h : SqL K H p xs) (ha : atI xs i = some v) (q : Q v H) : rIxL K (.ref p) (.int i) H Q := ⟨p, xs, i, v, rfl, rfl, h, ha, q⟩
theorem rd_ixT {p : Addr} {xs : List V} (h : SqT K H p xs) (ha : atI xs i = some v) (q : Q v H) : rIxT K (.ref p) (.int i) H Q := ⟨p, xs, i, v, rfl, rfl, h, ha, q⟩
theorem rd_inL {p : Addr} {xs : List V} (h : SqL K H p xs) (hx : flatV x = true) (hf : xs.all flatV = true) (q : Q (.bl (inV x xs)) H) : rIn K false x (.ref p) H Q := ⟨p, xs, rfl, .inl h, hx, hf, q⟩
theorem rd_inT {p : Addr} {xs : List V} (h : SqT K H p xs) (hx : flatV x = true) (hf : xs.all flatV = true) (q : Q (.bl (inV x xs)) H) : rIn K false x (.ref p) H Q := ⟨p, xs, rfl, .inr h, hx, hf, q⟩
theorem rd_ninT {p : Addr} {xs : List V} (h : SqT K H p xs) (hx : flatV x = true) (hf : xs.all flatV = true) (q : Q (.bl (!inV x xs)) H) : rIn K true x (.ref p) H Q := ⟨p, xs, rfl, .inr h, hx, hf, q⟩
end
theorem same_new {H : Hp} {p : Addr} {o : HO} (h : H p = none) : Same H (upd H p o) := fun b x e => by
  rw [upd_ne (ne_of_none e h)]
  exact e
end L2

namespace L2
open PySem PySem.Spec PyProof.Rows
section
variable {σ : St} {H : Hp} {Q : VK} {K : PySem.W.Frag} {v : V} {N : St → Hp → Prop} {S : Hp → Prop}
theorem rd_gsub {to ti : TE} {t : TSet} (h : to σ H fun o H1 => ti σ H1 fun i H2 => t o i v H2 fun H3 => N σ H3) : gSub to ti t v σ H N := h
instance st_gsub {to ti : TE} {t : TSet} : Stp (gSub to ti t v σ H N) (to σ H fun o H1 => ti σ H1 fun i H2 => t o i v H2 fun H3 => N σ H3) := ⟨fun h => rd_gsub h⟩
theorem rd_setL {p : Addr} {xs : List V} {k : Int} {j : Nat} (h : H p = some (.lst xs)) (hj : ixN xs.length k = some j) (q : S (upd H p (.lst (xs.set j v)))) : rSetL (.ref p) (.int k) v H S := ⟨p, xs, k, j, rfl, rfl, h, hj, q⟩
theorem rd_ixH {p : Addr} {xs : List V} {i : Int} (h : H p = some (.lst xs)) (ha : atI xs i = some v) (q : Q v H) : rIxL K (.ref p) (.int i) H Q := ⟨p, xs, i, v, rfl, rfl, SqL.of h, ha, q⟩
end
end L2

namespace L2
open PySem PySem.Spec PyProof.Rows
section
variable {σ : St} {H : Hp} {Q : VK} {K : PySem.W.Frag} {v x y : V} {N : St → Hp → Prop} {S : Hp → Prop} {p : Addr} {o : HO}
theorem rd_new {n : Nat} {F : Addr → Prop} (h : n ≤ sizeLine) (q : ∀ p, H p = none → F p) : n ≤ sizeLine ∧ ∀ p, H p = none → F p := ⟨h, q⟩
theorem rd_back {P : Prop} (hp : H p = none) (q : P) : Same H (upd H p o) ∧ P := ⟨same_new hp, q⟩
theorem rd_backR {P : Prop} (q : P) : Same H H ∧ P := ⟨Same.refl H, q⟩
instance st_backR {P : Prop} : Stp (Same H H ∧ P) (P) := ⟨fun h => rd_backR h⟩
theorem inV2 {i a b : Int} : inV (.int i) [.int a, .int b] = decide (i = a ∨ i = b) := by
  simp only [inV, eqV, List.any_cons, List.any_nil, Bool.or_false]
  by_cases h1 : i = a
  · subst h1
    simp
  · by_cases h2 : i = b
    · subst h2
      simp
    · have e1 : (a == i) = false := by simpa using Ne.symm h1
      have e2 : (b == i) = false := by simpa using Ne.symm h2
      rw [e1, e2]
      simp [h1, h2]
theorem rd_in2 {i a b : Int} (q : Q (.bl (decide (i = a ∨ i = b))) (upd H p (.tup [.int a, .int b]))) : rIn K false (.int i) (.ref p) (upd H p (.tup [.int a, .int b])) Q :=
  ⟨p, _, rfl, .inr (SqT.of upd_same), rfl, rfl, by
    show Q (.bl (inV (.int i) [.int a, .int b])) _
    rw [inV2]
    exact q⟩
instance st_in2 {i a b : Int} : Stp (rIn K false (.int i) (.ref p) (upd H p (.tup [.int a, .int b])) Q) (Q (.bl (decide (i = a ∨ i = b))) (upd H p (.tup [.int a, .int b]))) := ⟨fun h => rd_in2 h⟩
theorem rd_gtup {a : Addr} {xs : List V} {n : Nat} {t : TGs} (h : SqT K H a xs) (hn : xs.length = n) (q : t xs σ H N) : gTup K n t (.ref a) σ H N := ⟨a, xs, rfl, h, hn, q⟩
theorem rd_gcons {t : TG} {u : TGs} {xs : List V} (q : t x σ H fun σ' H' => u xs σ' H' N) : gCons t u (x :: xs) σ H N := ⟨x, xs, rfl, q⟩
instance st_gcons {t : TG} {u : TGs} {xs : List V} : Stp (gCons t u (x :: xs) σ H N) (t x σ H fun σ' H' => u xs σ' H' N) := ⟨fun h => rd_gcons h⟩
theorem rd_gnil (q : N σ H) : gNil [] σ H N := ⟨rfl, q⟩
instance st_gnil  : Stp (gNil [] σ H N) (N σ H) := ⟨fun h => rd_gnil h⟩
theorem rd_bm {T : String} {r : V → List V → Hp → VK → Prop} {to : TE} {t : TA} (h : to σ H fun x H1 => tyV K T x H1 ∧ t σ H1 fun xs H2 => r x xs H2 Q) : tBM K T r to t σ H Q := h
instance st_bm {T : String} {r : V → List V → Hp → VK → Prop} {to : TE} {t : TA} : Stp (tBM K T r to t σ H Q) (to σ H fun x H1 => tyV K T x H1 ∧ t σ H1 fun xs H2 => r x xs H2 Q) := ⟨fun h => rd_bm h⟩
theorem rd_bm0 {T : String} {r : V → List V → Hp → VK → Prop} {to : TE} (h : to σ H fun x H1 => tyV K T x H1 ∧ r x [] H1 Q) : tBM0 K T r to σ H Q := h
instance st_bm0 {T : String} {r : V → List V → Hp → VK → Prop} {to : TE} : Stp (tBM0 K T r to σ H Q) (to σ H fun x H1 => tyV K T x H1 ∧ r x [] H1 Q) := ⟨fun h => rd_bm0 h⟩
theorem rd_tyL {xs : List V} {P : Prop} (h : H p = some (.lst xs)) (q : P) : tyV K "list" (.ref p) H ∧ P := ⟨.inl ⟨rfl, _, SqL.of h⟩, q⟩
theorem rd_append {xs : List V} (h : H p = some (.lst xs)) (hl : xs.length < sizeLine) (q : Q .non (upd H p (.lst (xs ++ [y])))) : rAppend (.ref p) [y] H Q := ⟨p, xs, y, rfl, rfl, h, hl, q⟩
theorem same_upd2 {H' : Hp} {o1 : HO} (h : Same H H') (hp : H p = none) : Same H (upd H' p o1) := fun b x e => by
  rw [upd_ne (ne_of_none e hp)]
  exact h b x e
theorem upd_keep {q : Addr} {u : HO} (h : H p = some o) (hq : H q = none) : upd H q u p = some o := (upd_ne (ne_of_none h hq)).trans h
theorem upd_lst {H : Hp} {p : Addr} {a b : HO} : upd (upd H p a) p b = upd H p b := upd_upd
/-- the raising, its argument read -/
theorem rd_err {C : Addr} {n : Nat} {fl : List V → List (Str × V)} {vs : List V} {Q : XK} (hl : vs.length = n) (hn : n ≤ 1000) (h : ∀ d, H d = none → Q (.ref C) (some d) (upd H d (.xd (fl vs)))) : True := trivial
end
end L2

namespace L2
open PySem PySem.Spec PyProof.Rows
theorem rd_cut {σ : St} {H : Hp} {t u : TS} {nx : St → Hp → Prop} {rt : VK} {bk ct : St → Hp → Prop} (Mid : St → Hp → Prop) (h : t ⟨Mid, rt, bk, ct⟩ σ H) (q : ∀ σ' H', Mid σ' H' → u ⟨nx, rt, bk, ct⟩ σ' H') : C8.tCut t u ⟨nx, rt, bk, ct⟩ σ H := ⟨Mid, h, q⟩
/-! ### built-ins, by name -/
def rLenQ (K : PySem.W.Frag) : List V → Hp → VK → Prop := fun xs H Q => ∃ p ys, xs = [.ref p] ∧ (SqL K H p ys ∨ SqT K H p ys) ∧ Q (.int ys.length) H
def rLenS : List V → Hp → VK → Prop := fun xs H Q => ∃ z, xs = [.str z] ∧ z.length ≤ sizeLine ∧ Q (.int z.length) H
def rAbs : List V → Hp → VK → Prop := fun xs H Q => ∃ i, xs = [.int i] ∧ Q (.int (if i < 0 then -i else i)) H
def rMax2 : List V → Hp → VK → Prop := fun xs H Q => ∃ i j, xs = [.int i, .int j] ∧ Q (.int (if j > i then j else i)) H
def rMin2 : List V → Hp → VK → Prop := fun xs H Q => ∃ i j, xs = [.int i, .int j] ∧ Q (.int (if j < i then j else i)) H
def rInt1 : List V → Hp → VK → Prop := fun xs H Q => (∃ i, xs = [.int i] ∧ Q (.int i) H) ∨ ∃ k, xs = [.bl k] ∧ Q (.int (if k then 1 else 0)) H
def rListOf (K : PySem.W.Frag) : List V → Hp → VK → Prop := fun xs H Q => ∃ p ys, xs = [.ref p] ∧ (SqL K H p ys ∨ SqT K H p ys) ∧ ∀ l, H l = none → Q (.ref l) (upd H l (.lst ys))
section
variable {X : Cx}
theorem c_len : CallR X (.builtin "len") (rLenQ X.K) := call_len_seq
theorem c_lenS : CallR X (.builtin "len") rLenS := call_len_str
theorem c_abs : CallR X (.builtin "abs") rAbs := call_abs
theorem c_max2 (hc : X.calm = true) : CallR X (.builtin "max") rMax2 := call_max2 hc
theorem c_min2 (hc : X.calm = true) : CallR X (.builtin "min") rMin2 := call_min2 hc
theorem c_int1 : CallR X (.type "int") rInt1 := call_int1
theorem c_listOf : CallR X (.type "list") (rListOf X.K) := call_list_of
end
section
variable {H : Hp} {Q : VK} {K : PySem.W.Frag} {i j : Int} {p : Addr} {ys : List V}
theorem rd_abs (q : Q (.int (if i < 0 then -i else i)) H) : rAbs [.int i] H Q := ⟨i, rfl, q⟩
instance st_abs  : Stp (rAbs [.int i] H Q) (Q (.int (if i < 0 then -i else i)) H) := ⟨fun h => rd_abs h⟩
theorem rd_max2 (q : Q (.int (if j > i then j else i)) H) : rMax2 [.int i, .int j] H Q := ⟨i, j, rfl, q⟩
instance st_max2  : Stp (rMax2 [.int i, .int j] H Q) (Q (.int (if j > i then j else i)) H) := ⟨fun h => rd_max2 h⟩
theorem rd_min2 (q : Q (.int (if j < i then j else i)) H) : rMin2 [.int i, .int j] H Q := ⟨i, j, rfl, q⟩
instance st_min2  : Stp (rMin2 [.int i, .int j] H Q) (Q (.int (if j < i then j else i)) H) := ⟨fun h => rd_min2 h⟩
theorem rd_int (q : Q (.int i) H) : rInt1 [.int i] H Q := .inl ⟨i, rfl, q⟩
instance st_int  : Stp (rInt1 [.int i] H Q) (Q (.int i) H) := ⟨fun h => rd_int h⟩
theorem rd_intB {b : Bool} (q : Q (.int (if b then 1 else 0)) H) : rInt1 [.bl b] H Q := .inr ⟨b, rfl, q⟩
instance st_intB {b : Bool} : Stp (rInt1 [.bl b] H Q) (Q (.int (if b then 1 else 0)) H) := ⟨fun h => rd_intB h⟩
theorem rd_lenL (h : SqL K H p ys) (q : Q (.int ys.length) H) : rLenQ K [.ref p] H Q := ⟨p, ys, rfl, .inl h, q⟩
theorem rd_lenT (h : SqT K H p ys) (q : Q (.int ys.length) H) : rLenQ K [.ref p] H Q := ⟨p, ys, rfl, .inr h, q⟩
theorem rd_lenS {z : Str} (h : z.length ≤ sizeLine) (q : Q (.int z.length) H) : rLenS [.str z] H Q := ⟨z, rfl, h, q⟩
theorem rd_listOfL (h : SqL K H p ys) (q : ∀ l, H l = none → Q (.ref l) (upd H l (.lst ys))) : rListOf K [.ref p] H Q := ⟨p, ys, rfl, .inl h, q⟩
theorem rd_listOfT (h : SqT K H p ys) (q : ∀ l, H l = none → Q (.ref l) (upd H l (.lst ys))) : rListOf K [.ref p] H Q := ⟨p, ys, rfl, .inr h, q⟩
end
end L2

namespace L2
open PySem PySem.Spec PyProof.Rows
/-- a power with a written exponent -/
def rPowN (e : Nat) : R2 := fun x y H Q => ∃ i, x = .int i ∧ y = .int (e : Int) ∧ e ≤ 1000000 ∧ i.natAbs < 2 ^ 64 ∧ Q (.int (i ^ e)) H
theorem op_powN {X : Cx} (e : Nat) : OpR X (binaryOp .Pow) (rPowN e) := fun pins s σ H x y v u Q I rx ry ⟨i, e1, e2, h1, h2, q⟩ =>
  op_pow pins s σ H x y v u Q I rx ry ⟨i, (e : Int), e1, e2, ⟨Int.natCast_nonneg _, by omega, h2⟩, q⟩
theorem rd_powN {e : Nat} {i z : Int} {H : Hp} {Q : VK} (hz : z = (e : Int)) (h1 : e ≤ 1000000) (h2 : i.natAbs < 2 ^ 64) (q : Q (.int (i ^ e)) H) : rPowN e (.int i) (.int z) H Q := ⟨i, rfl, by rw [hz], h1, h2, q⟩
end L2

namespace L2
open PySem PySem.Spec PyProof.Rows
/-! ### a def of the text, and what it keeps -/
structure DefAt (K : PySem.W.Frag) (mg : Str → Option Value) (x : Str) (st : Stmt) (ps : List Str) : Prop where
  ex : ∃ (f : Addr) (fd : FuncData), Fun K x x st f fd ∧ mg x = some (.ref f) ∧ Binds K fd ps []
structure Def (P : Program) (w : World) (K : PySem.W.Frag) (mg : Str → Option Value) (base : Heap) (k : Nat) (x : Str) (ps : List Str) (sp : Sp) : Prop where
  ex : ∃ (f : Addr) (fd : FuncData), FnOk P w K mg base (L2.CX P w) k f fd ps sp ∧ mg x = some (.ref f) ∧ PySem.W.keepIn K (.ref f) = true ∧ Binds K fd ps []
section
variable {P : Program} {w : World} {K : PySem.W.Frag} {mg : Str → Option Value} {base : Heap}
theorem DefAt.ok {x : Str} {st : Stmt} {N ps : List Str} {k : Nat} {sp : Sp} (D : DefAt K mg x st ps) (S : FnScope N ps (defScope st)) (len : ∀ vs H Q E, sp vs H Q E → vs.length = ps.length)
    (hbody : ∀ (f : Addr) (cdv : Value) (A : Around) (outer : List Env) (s : Shared) (H : Hp) (vs : List V) (Q : VK) (E : XK), Room k (A.deeper (envOfC x (defScope st) s.heap.objs.size f cdv)) → sp vs H Q E →
      ∃ t, PSs (cxOf (L2.CX P w) P w K mg base N x (defScope st) f cdv A outer s H E) (defBody st) t ∧ t ⟨fun _ H' => Q .non H', Q, fun _ _ => False, fun _ _ => False⟩ (start N vs) H) : Def P w K mg base (k + 1) x ps sp := by
  obtain ⟨f, fd, F, g, b⟩ := D.ex
  exact ⟨f, fd, F.okX S len fun cdv A outer s H vs Q E hr h => hbody f cdv A outer s H vs Q E hr h, g, F.kp, b⟩
theorem Def.imp {k : Nat} {x : Str} {ps : List Str} {sp sp' : Sp} (D : Def P w K mg base k x ps sp) (h : ∀ vs H Q E, sp' vs H Q E → sp vs H Q E) : Def P w K mg base k x ps sp' := by
  obtain ⟨f, fd, F, g, kp, b⟩ := D.ex
  exact ⟨f, fd, F.imp h, g, kp, b⟩
theorem Def.mono {j k : Nat} {x : Str} {ps : List Str} {sp : Sp} (D : Def P w K mg base j x ps sp) (h : j ≤ k) : Def P w K mg base k x ps sp := by
  obtain ⟨f, fd, F, g, kp, b⟩ := D.ex
  exact ⟨f, fd, F.mono h, g, kp, b⟩
theorem Def.forget {k : Nat} {x : Str} {ps : List Str} {sp : Sp} (D : Def P w K mg base k x ps sp) : Def P w K mg base k x ps (fun vs H Q E => NoT H ∧ sp vs H (fun v H' => Same H H' ∧ Q v H) E) := by
  obtain ⟨f, fd, F, g, kp, b⟩ := D.ex
  exact ⟨f, fd, fn_forget F, g, kp, b⟩
end
section
variable {X : Cx}
theorem pe_d {k : Nat} {x : Str} {ps : List Str} {sp : Sp} {E : XK} {p pos : Pos} {e : Expr} {es : List Expr} {t : TA} (D : Def X.prog X.w X.K X.mg X.base k x ps sp) (hr : Room k X.A) (hx : Passes (L2.CX X.prog X.w) X E) (ha : PA X (e :: es) t) (hg : Gl X x := by rfl)
    (hd : (x == ("__debug__" : Str)) = false := by decide) (he : starEach (e :: es) X.env = (false, eval e X.env) :: starEach es X.env := by rfl) (hpl : (backTo pos (starEach es X.env)).any (·.1) = false := by rfl) :
    PE X (.Call (.Name x p) (e :: es) [] pos) (tCall sp [] E t) := by
  obtain ⟨f, fd, F, g, kp, b⟩ := D.ex
  exact pe_call F hr hg g kp b .nil hx ha hd he hpl
theorem pe_d0 {k : Nat} {x : Str} {ps : List Str} {sp : Sp} {E : XK} {p pos : Pos} (D : Def X.prog X.w X.K X.mg X.base k x ps sp) (hr : Room k X.A) (hx : Passes (L2.CX X.prog X.w) X E) (hg : Gl X x := by rfl) (hd : (x == ("__debug__" : Str)) = false := by decide) :
    PE X (.Call (.Name x p) [] [] pos) (tCall sp [] E tNil) := by
  obtain ⟨f, fd, F, g, kp, b⟩ := D.ex
  exact pe_call0 F hr hg g kp b .nil hx hd
/-- within a try's body: what is raised is wished for at the caller's slots -/
theorem pe_dS {k : Nat} {x : Str} {ps : List Str} {sp : Sp} {W : WX} {p pos : Pos} {e : Expr} {es : List Expr} {t : TA} (D : Def X.prog X.w X.K X.mg X.base k x ps sp) (hr : Room k X.A) (tk : Takes X W) (ha : PA X (e :: es) t) (hg : Gl X x := by rfl)
    (hd : (x == ("__debug__" : Str)) = false := by decide) (he : starEach (e :: es) X.env = (false, eval e X.env) :: starEach es X.env := by rfl) (hpl : (backTo pos (starEach es X.env)).any (·.1) = false := by rfl) :
    PE X (.Call (.Name x p) (e :: es) [] pos) (tCallS sp (WE W) t) := by
  obtain ⟨f, fd, F, g, kp, b⟩ := D.ex
  exact pe_callS F hr hg g kp b (fun σ => passAt tk σ) ha hd he hpl
theorem rd_callS {sp : Sp} {W : WX} {tr : TA} {σ : St} {H : Hp} {Q : VK} (h : tr σ H fun vs H1 => sp vs H1 Q (WE W σ)) : tCallS sp (WE W) tr σ H Q := h
instance st_callS {sp : Sp} {W : WX} {tr : TA} {σ : St} {H : Hp} {Q : VK} : Stp (tCallS sp (WE W) tr σ H Q) (tr σ H fun vs H1 => sp vs H1 Q (WE W σ)) := ⟨fun h => rd_callS h⟩
end
/-! ### the program's own errors -/
/-- what the top has written of ClockError, at CC -/
structure BaseC (K : PySem.W.Frag) (mg : Str → Option Value) (CC : Addr) : Prop where
  g : mg "ClockError" = some (.ref CC)
  rd : PySem.W.readsIn K CC (.type "type") = true
  ga : PySem.W.specialIn K (.ref CC) "__getattribute__" = some (some (.builtin "type.__getattribute__"))
  ini : PySem.W.findCls K (.ref CC) (.type "type") "__init__" = some (.val (.builtin "ValueError.__init__"))
section
variable {X : Cx} {e : Expr} {es : List Expr} {ta : TA} {p1 p2 pos : Pos}
theorem pe_ceinit {pl : Sem Bool} {CC : Addr} (B : BaseC X.K X.mg CC) (ha : PA X (e :: es) ta) (hg : Gl X "ClockError" := by rfl)
    (hc : eval (.Call (.Attribute (.Name "ClockError" p1) "__init__" p2) (e :: es) [] pos) X.env = (do
      let ov ← eval (.Name "ClockError" p1) X.env
      standAt p2.atName
      let (f, first) ← holding [ov] (getMethod ov "__init__" pl)
      callWith pos f first (backTo pos (starEach (e :: es) X.env)) (backToKw pos (keywordEach [] X.env))) := by rfl)
    (he : starEach (e :: es) X.env = (false, eval e X.env) :: starEach es X.env := by rfl) (hpl : (backTo pos (starEach es X.env)).any (·.1) = false := by rfl) :
    PE X (.Call (.Attribute (.Name "ClockError" p1) "__init__" p2) (e :: es) [] pos) (tVeI X.K ta) := by
  refine ⟨fun pins s σ H Q I h => ?_⟩
  refine PySem.W.methodCall_KW (ld_glob I hg B.g ?_ (by decide)) hc
  refine PySem.W.method_cls I.kIn B.ga (PySem.W.cls_value I.kIn B.rd B.ini (by decide +kernel) ?_)
  show wpAny _ _ (callWith pos (Value.builtin "ValueError.__init__") [] (backTo pos (starEach (e :: es) X.env)) []) _ _ _
  refine PyProof.Rows.callWith_method1 (thn (ha.run pos pins _ σ H _ (I.tok _) h) fun us s1 ⟨vs, H1, I1, r1, a, C, ws, ev, hl, T, ea, q⟩ => ?_) he hpl
  subst ev
  cases r1 with
  | @cons _ u0 _ ur ra rw' =>
    obtain rfl : u0 = Value.ref a := ra
    have hlen : ur.length ≤ sizeLine := by
      rw [← Paired.length rw', sizeLine_eq]
      omega
    exact oinit_ok T I1 ea hlen fun s' J => ⟨.non, H1, J, rfl, q⟩
end
/-- __init__ of an error with fields: the values ws become fl ws -/
def spErr (C : Addr) (n : Nat) (fl : List V → List (Str × V)) : Sp := fun vs H Q _ => ∃ (a : Addr) (ws : List V), vs = .ref a :: ws ∧ ws.length = n ∧ H a = some (exo a C none) ∧
  ∀ dx, H dx = none → dx ≠ a → Q .non (upd (upd H dx (exd dx (fl ws))) a (exo a C (some dx)))
/-- a class of the program's errors: raised by its name, with n values, the fields fl -/
structure ErrC (P : Program) (w : World) (K : PySem.W.Frag) (mg : Str → Option Value) (base : Heap) (x : Str) (n : Nat) (fl : List V → List (Str × V)) (C : Addr) : Prop where
  g : mg x = some (.ref C)
  T : OexC K C
  X : XfC K C
  self : PySem.W.exmOne K (.ref C) (.ref C) = some true
  ini : ∃ (fI : Addr) (fd : FuncData) (ps : List Str), PySem.W.findIn K (.ref C) "__init__" = some (some (.ref fI)) ∧ PySem.W.typeIn K (.ref fI) = some (.type "function") ∧ FnOk P w K mg base (L2.CX P w) 1 fI fd ps (spErr C n fl) ∧ Binds K fd ps []
theorem pmk_err {X : Cx} {x : Str} {C : Addr} {n : Nat} {fl : List V → List (Str × V)} {e : Expr} {es : List Expr} {ta : TA} {p pos : Pos} (Z : ErrC X.prog X.w X.K X.mg X.base x n fl C) (hr : Room 2 X.A) (ha : PA X (e :: es) ta) (hg : Gl X x := by rfl)
    (hdb : (x == ("__debug__" : Str)) = false := by decide) (he : starEach (e :: es) X.env = (false, eval e X.env) :: starEach es X.env := by rfl) (hpl : (backTo pos (starEach es X.env)).any (·.1) = false := by rfl) :
    PMk X (.Call (.Name x p) (e :: es) [] pos) (tMkO C (spErr C n fl) [] ta) := by
  obtain ⟨fI, fd, ps, iC, tI, F, b⟩ := Z.ini
  exact pmk_oex Z.T iC tI F hr b .nil passL hg Z.g ha hdb he hpl
/-- what the raising asks -/
theorem rd_mk {C : Addr} {n : Nat} {fl : List V → List (Str × V)} {ta : TA} {σ : St} {H : Hp} {Q : XK} (h : ta σ H fun vs H1 => vs.length ≤ 1000 ∧ ∀ a, H1 a = none → spErr C n fl (.ref a :: (vs ++ [])) (upd H1 a (exo a C none))
  (fun v H2 => v = .non ∧ ∃ (d : Addr) (fs : List (Str × V)), H2 a = some (exo a C (some d)) ∧ H2 d = some (exd d fs) ∧ H1 d = none ∧ Q (.ref C) (some d) (upd (del H2 a) d (.xd fs))) (fun _ _ _ => False)) : tMkO C (spErr C n fl) [] ta σ H Q := h
instance st_mk {C : Addr} {n : Nat} {fl : List V → List (Str × V)} {ta : TA} {σ : St} {H : Hp} {Q : XK} : Stp (tMkO C (spErr C n fl) [] ta σ H Q) (ta σ H fun vs H1 => vs.length ≤ 1000 ∧ ∀ a, H1 a = none → spErr C n fl (.ref a :: (vs ++ [])) (upd H1 a (exo a C none))
  (fun v H2 => v = .non ∧ ∃ (d : Addr) (fs : List (Str × V)), H2 a = some (exo a C (some d)) ∧ H2 d = some (exd d fs) ∧ H1 d = none ∧ Q (.ref C) (some d) (upd (del H2 a) d (.xd fs))) (fun _ _ _ => False)) := ⟨fun h => rd_mk h⟩
theorem rd_mk1 {C : Addr} {n : Nat} {fl : List V → List (Str × V)} {vs : List V} {H1 : Hp} {Q : XK} (hl : vs.length = n) (hn : n ≤ 1000) (h : ∀ d, H1 d = none → Q (.ref C) (some d) (upd H1 d (.xd (fl vs)))) :
    vs.length ≤ 1000 ∧ ∀ a, H1 a = none → spErr C n fl (.ref a :: (vs ++ [])) (upd H1 a (exo a C none))
      (fun v H2 => v = .non ∧ ∃ (d : Addr) (fs : List (Str × V)), H2 a = some (exo a C (some d)) ∧ H2 d = some (exd d fs) ∧ H1 d = none ∧ Q (.ref C) (some d) (upd (del H2 a) d (.xd fs))) (fun _ _ _ => False) := by
  refine ⟨by omega, fun a na => ⟨a, vs, by rw [List.append_nil], hl, upd_same, fun dx nd ne => ⟨rfl, dx, fl vs, upd_same, ?_, ?_, ?_⟩⟩⟩
  · rw [upd_ne ne, upd_same]
  · rw [upd_ne ne] at nd
    exact nd
  · have nd' : H1 dx = none := by
      rw [upd_ne ne] at nd
      exact nd
    have z := h dx nd'
    have eq : upd (del (upd (upd (upd H1 a (exo a C none)) dx (exd dx (fl vs))) a (exo a C (some dx))) a) dx (.xd (fl vs)) = upd H1 dx (.xd (fl vs)) := by
      funext b
      by_cases hb : b = dx
      · rw [hb, upd_same, upd_same]
      · rw [upd_ne hb, upd_ne hb]
        by_cases ha : b = a
        · rw [ha, del_same, na]
        · rw [del_ne ha, upd_ne ha, upd_ne hb, upd_ne ha]
    rw [eq]
    exact z
end L2

namespace L2
open PySem PySem.Spec PyProof.Rows
/-- what the top has written of an error's class -/
structure ErrRaw (K : PySem.W.Frag) (mg : Str → Option Value) (x : Str) (C : Addr) (sI : Stmt) (qual : Str) (ps : List Str) : Prop where
  g : mg x = some (.ref C)
  T : OexC K C
  X : XfC K C
  self : PySem.W.exmOne K (.ref C) (.ref C) = some true
  ini : ∃ (fI : Addr) (fd : FuncData), PySem.W.findIn K (.ref C) "__init__" = some (some (.ref fI)) ∧ PySem.W.typeIn K (.ref fI) = some (.type "function") ∧ Fun K "__init__" qual sI fI fd ∧ Binds K fd ps []
theorem ErrC.of {P : Program} {w : World} {K : PySem.W.Frag} {mg : Str → Option Value} {base : Heap} {x : Str} {C : Addr} {sI : Stmt} {qual : Str} {ps : List Str} {n : Nat} {fl : List V → List (Str × V)} (R : ErrRaw K mg x C sI qual ps)
    (h : ∀ (fI : Addr) (fd : FuncData), Fun K "__init__" qual sI fI fd → FnOk P w K mg base (L2.CX P w) 1 fI fd ps (spErr C n fl)) : ErrC P w K mg base x n fl C := by
  obtain ⟨fI, fd, i, t, F, b⟩ := R.ini
  exact ⟨R.g, R.T, R.X, R.self, fI, fd, ps, i, t, h fI fd F, b⟩
/-- an error of the class at S is what «except S» names -/
theorem exm_self {K : PySem.W.Frag} {S : Addr} (h1 : PySem.W.subIn K (.ref S) (.type "BaseException") = some true) (h2 : PySem.W.isClsIn K S = true) (h3 : PySem.W.typeIn K (.ref S) = some (.type "type")) (h4 : PySem.W.subIn K (.ref S) (.ref S) = some true) :
    PySem.W.exmOne K (.ref S) (.ref S) = some true := by
  have e1 : (PySem.W.subIn K (.ref S) (.type "BaseException") == some true) = true := by rw [h1] <;> rfl
  have e2 : ((PySem.W.clsIn K S).isSome && PySem.W.typeIn K (.ref S) == some (.type "type")) = true := by
    have h2' : (PySem.W.clsIn K S).isSome = true := h2
    rw [h2', h3] <;> rfl
  show (if (PySem.W.subIn K (.ref S) (.type "BaseException") == some true) = true then (if ((PySem.W.clsIn K S).isSome && PySem.W.typeIn K (.ref S) == some (.type "type")) = true then PySem.W.subIn K (.ref S) (.ref S) else none) else none) = some true
  rw [if_pos e1, if_pos e2]
  exact h4
theorem NoT.only {H : Hp} (h : Only H) : NoT H := fun a o e => by
  rcases h a with z | ⟨u, xs, z⟩
  · rw [z] at e
    cases e
  · rw [z] at e
    cases e
    rfl
theorem len_1 {α : Type} {ws : List α} (h : ws.length = 1) : ∃ a, ws = [a] := match ws, h with | [a], _ => ⟨a, rfl⟩
theorem len_2 {α : Type} {ws : List α} (h : ws.length = 2) : ∃ a b, ws = [a, b] := match ws, h with | [a, b], _ => ⟨a, b, rfl⟩
theorem len_3 {α : Type} {ws : List α} (h : ws.length = 3) : ∃ a b c, ws = [a, b, c] := match ws, h with | [a, b, c], _ => ⟨a, b, c, rfl⟩
/-- law's: a list of at most 63 ints is handed in, True comes out -/
def spLaw (K : PySem.W.Frag) : Sp := fun vs H Q _ => ∃ (a : Addr) (ns : List Int), vs = [.ref a] ∧ SqL K H a (ns.map V.int) ∧ ns.length ≤ 63 ∧ NoT H ∧ ∀ H', Q (.bl true) H'
end L2

namespace L2
open PySem PySem.Spec PyProof.Rows
/-! ### what is walked, by name -/
def rRng1 (S : It → Hp → Prop) (vs : List V) (H : Hp) : Prop := ∃ j : Int, vs = [.int j] ∧ -(2 ^ 62) ≤ j ∧ j < 2 ^ 62 ∧ S (Itr 0 j.toNat) H
def rRng2 (S : It → Hp → Prop) (vs : List V) (H : Hp) : Prop := ∃ i j : Int, vs = [.int i, .int j] ∧ (-(2 ^ 62) ≤ i ∧ i < 2 ^ 62 ∧ -(2 ^ 62) ≤ j ∧ j < 2 ^ 62) ∧ S (Itr i (j - i).toNat) H
def rItL (K : PySem.W.Frag) (S : It → Hp → Prop) (x : V) (H : Hp) : Prop := ∃ a, x = .ref a ∧ (∃ xs, SqL K H a xs) ∧ S (Itl K a) H
def rItT (K : PySem.W.Frag) (S : It → Hp → Prop) (x : V) (H : Hp) : Prop := ∃ a, x = .ref a ∧ (∃ xs, SqT K H a xs) ∧ S (Itt K a) H
section
variable {σ : St} {H : Hp} {Q : VK} {K : PySem.W.Frag} {v x y : V} {ta te : TE} {tt : TT} {tr : TA} {S : It → Hp → Prop}
theorem rd_iR1 (h : tr σ H (rRng1 S)) : iRng1 tr σ H S := h
instance st_iR1  : Stp (iRng1 tr σ H S) (tr σ H (rRng1 S)) := ⟨fun h => rd_iR1 h⟩
theorem rd_iR2 (h : tr σ H (rRng2 S)) : iRng2 tr σ H S := h
instance st_iR2  : Stp (iRng2 tr σ H S) (tr σ H (rRng2 S)) := ⟨fun h => rd_iR2 h⟩
theorem rd_r1 {n : Int} (h1 : -(2 ^ 62) ≤ n) (h2 : n < 2 ^ 62) (q : S (Itr 0 n.toNat) H) : rRng1 S [.int n] H := ⟨n, rfl, h1, h2, q⟩
theorem rd_r2 {m n : Int} (h1 : -(2 ^ 62) ≤ m ∧ m < 2 ^ 62 ∧ -(2 ^ 62) ≤ n ∧ n < 2 ^ 62) (q : S (Itr m (n - m).toNat) H) : rRng2 S [.int m, .int n] H := ⟨m, n, rfl, h1, q⟩
theorem rd_iL (h : ta σ H (rItL K S)) : iList K ta σ H S := h
instance st_iL  : Stp (iList K ta σ H S) (ta σ H (rItL K S)) := ⟨fun h => rd_iL h⟩
theorem rd_iT (h : ta σ H (rItT K S)) : iTup K ta σ H S := h
instance st_iT  : Stp (iTup K ta σ H S) (ta σ H (rItT K S)) := ⟨fun h => rd_iT h⟩
theorem rd_iL1 {a : Addr} {xs : List V} (h : SqL K H a xs) (q : S (Itl K a) H) : rItL K S (.ref a) H := ⟨a, rfl, ⟨xs, h⟩, q⟩
theorem rd_iT1 {a : Addr} {xs : List V} (h : SqT K H a xs) (q : S (Itt K a) H) : rItT K S (.ref a) H := ⟨a, rfl, ⟨xs, h⟩, q⟩
/-! ### list comprehensions -/
def lcB (J : It) (g : TG) (tt : TT) (te : TE) (vs : List Nat) (σ : St) (Q : VK) (H1 : Hp) : Prop := ∀ D, H1 D = none → ∃ W : Nat → Nat → Hp → Prop, (∃ m, W 0 m (upd H1 D (.lst []))) ∧ ∀ i m H, W i m H →
  (J.stop i H ∧ Q (.ref D) H) ∨ (J.go i H ∧ ∃ Nx : Hp → Prop, (∀ H', Nx H' → ∃ m', m' < m ∧ W (i + 1) m' H') ∧ ∀ x H', J.yld i H x H' → g x (wipe σ vs) H' fun σ2 H2 => wipe σ2 vs = wipe σ vs ∧ tt σ2 H2 fun b H3 =>
    if b = true then te σ2 H3 fun y H4 => ∃ acc, H4 D = some (.lst acc) ∧ acc.length < sizeLine ∧ Nx (upd H4 D (.lst (acc ++ [y]))) else Nx H3)
theorem rd_lc {wi : TI} {g : TG} {vs : List Nat} (h : wi σ H fun J H1 => lcB J g tt te vs σ Q H1) : tLc wi g tt te vs σ H Q := h
instance st_lc {wi : TI} {g : TG} {vs : List Nat} : Stp (tLc wi g tt te vs σ H Q) (wi σ H fun J H1 => lcB J g tt te vs σ Q H1) := ⟨fun h => rd_lc h⟩
theorem rd_yes {R : Bool → Hp → Prop} (q : R true H) : tYes σ H R := q
instance st_yes {R : Bool → Hp → Prop} : Stp (tYes σ H R) (R true H) := ⟨fun h => rd_yes h⟩
/-- the item that was made goes onto the list; or none does -/
def LcPut (H : Hp) (D : Addr) (l0 l1 : List V) (y : V) (H4 : Hp) : Prop := ∃ acc, H4 D = some (.lst acc) ∧ acc.length < sizeLine ∧ upd H4 D (.lst (acc ++ [y])) = upd H D (.lst l1)
def LcSkip (H : Hp) (D : Addr) (l1 : List V) (H3 : Hp) : Prop := H3 = upd H D (.lst l1)
def resR (p : Nat → Bool) (f : Nat → V) (i : Nat) : List V := ((List.range i).filter p).map f
def resL (p : V → Bool) (f : V → V) (xs : List V) : List V := (xs.filter p).map f
theorem resR_len {p : Nat → Bool} {f : Nat → V} {i : Nat} : (resR p f i).length ≤ i := by
  unfold resR
  rw [List.length_map]
  have z : ((List.range i).filter p).length ≤ (List.range i).length := List.length_filter_le _ _
  rw [List.length_range] at z
  exact z
theorem resL_len {p : V → Bool} {f : V → V} {xs : List V} : (resL p f xs).length ≤ xs.length := by
  unfold resL
  rw [List.length_map]
  exact List.length_filter_le _ _
theorem put_R {D : Addr} {p : Nat → Bool} {f : Nat → V} {i : Nat} {y : V} (hi : i < 1000000) (hp : p i = true) (hy : y = f i) : LcPut H D (resR p f i) (resR p f (i + 1)) y (upd H D (.lst (resR p f i))) := by
  refine ⟨_, upd_same, Nat.lt_of_le_of_lt resR_len (Nat.lt_trans hi (by decide)), ?_⟩
  rw [upd_upd]
  unfold resR
  rw [List.range_succ, List.filter_append, List.map_append, hy]
  simp [hp]
theorem skip_R {D : Addr} {p : Nat → Bool} {f : Nat → V} {i : Nat} (hp : p i = false) : LcSkip H D (resR p f (i + 1)) (upd H D (.lst (resR p f i))) := by
  show upd H D _ = _
  unfold resR
  rw [List.range_succ, List.filter_append, List.map_append]
  simp [hp]
theorem put_L {D : Addr} {p : V → Bool} {f : V → V} {xs : List V} {x y : V} (hi : xs.length < 1000000) (hp : p x = true) (hy : y = f x) : LcPut H D (resL p f xs) (resL p f (xs ++ [x])) y (upd H D (.lst (resL p f xs))) := by
  refine ⟨_, upd_same, Nat.lt_of_le_of_lt resL_len (Nat.lt_trans hi (by decide)), ?_⟩
  rw [upd_upd]
  unfold resL
  rw [List.filter_append, List.map_append, hy]
  simp [hp]
theorem skip_L {D : Addr} {p : V → Bool} {f : V → V} {xs : List V} {x : V} (hp : p x = false) : LcSkip H D (resL p f (xs ++ [x])) (upd H D (.lst (resL p f xs))) := by
  show upd H D _ = _
  unfold resL
  rw [List.filter_append, List.map_append]
  simp [hp]
theorem rd_lcR {lo : Int} {n : Nat} {g : TG} {vs : List Nat} (p : Nat → Bool) (f : Nat → V)
    (hs : ∀ D i, H D = none → i < n → g (.int (lo + i)) (wipe σ vs) (upd H D (.lst (resR p f i))) fun σ2 H2 => wipe σ2 vs = wipe σ vs ∧ tt σ2 H2 fun b H3 => if b = true then te σ2 H3 (LcPut H D (resR p f i) (resR p f (i + 1))) else LcSkip H D (resR p f (i + 1)) H3)
    (q : ∀ D, H D = none → Q (.ref D) (upd H D (.lst (((List.range n).filter p).map f)))) : lcB (Itr lo n) g tt te vs σ Q H := by
  intro D hD
  refine ⟨fun i m H' => m = n - i ∧ i ≤ n ∧ H' = upd H D (.lst (resR p f i)), ⟨n, by simp, Nat.zero_le _, rfl⟩, ?_⟩
  rintro i m H' ⟨rfl, hi, rfl⟩
  by_cases hlt : i < n
  · refine .inr ⟨hlt, fun H' => H' = upd H D (.lst (resR p f (i + 1))), fun H' p' => ⟨n - (i + 1), by omega, rfl, hlt, p'⟩, fun x H' y => ?_⟩
    obtain ⟨e, y⟩ := y
    subst e y
    exact hs D i hD hlt
  · have e : i = n := by omega
    subst e
    exact .inl ⟨Nat.le_refl _, q D hD⟩
theorem rd_lcL {a : Addr} {xs : List V} {g : TG} {vs : List Nat} (p : V → Bool) (f : V → V) (hS : SqL K H a xs)
    (hs : ∀ D l x r, H D = none → xs = l ++ x :: r → g x (wipe σ vs) (upd H D (.lst (resL p f l))) fun σ2 H2 => wipe σ2 vs = wipe σ vs ∧ tt σ2 H2 fun b H3 => if b = true then te σ2 H3 (LcPut H D (resL p f l) (resL p f (l ++ [x]))) else LcSkip H D (resL p f (l ++ [x])) H3)
    (q : ∀ D, H D = none → Q (.ref D) (upd H D (.lst ((xs.filter p).map f)))) : lcB (Itl K a) g tt te vs σ Q H := by
  intro D hD
  refine ⟨fun i m H' => m = xs.length - i ∧ i ≤ xs.length ∧ H' = upd H D (.lst (resL p f (xs.take i))), ⟨xs.length, by simp, Nat.zero_le _, rfl⟩, ?_⟩
  rintro i m H' ⟨rfl, hi, rfl⟩
  have hS' : SqL K (upd H D (.lst (resL p f (xs.take i)))) a xs := (same_new hD).seq hS
  by_cases hlt : i < xs.length
  · have hx : xs[i]? = some xs[i] := by simp [hlt]
    have er : xs.take (i + 1) = xs.take i ++ [xs[i]] := by rw [List.take_add_one, hx]; rfl
    refine .inr ⟨⟨xs, xs[i], hS', hx⟩, fun H' => H' = upd H D (.lst (resL p f (xs.take (i + 1)))), fun H' p' => ⟨xs.length - (i + 1), by omega, rfl, hlt, p'⟩, fun x H' y => ?_⟩
    obtain ⟨e, y⟩ := y
    subst e
    have ex : x = xs[i] := Option.some.inj ((y xs hS').symm.trans hx)
    subst ex
    have z := hs D (xs.take i) xs[i] (xs.drop (i + 1)) hD (by rw [List.getElem_cons_drop, List.take_append_drop])
    rw [← er] at z
    exact z
  · have e : i = xs.length := by omega
    subst e
    rw [List.take_length]
    exact .inl ⟨⟨xs, (same_new hD).seq hS, Nat.le_refl _⟩, q D hD⟩
/-! ### deep equality -/
theorem rd_eqD {d e : PyData} (h1 : Dp K H x d) (h2 : Dp K H y e) (s1 : SeqAt.shaped d = true) (s2 : SeqAt.shaped e = true) (q : Q (.bl (PyData.eqv d e)) H) : rEqD K x y H Q := ⟨d, e, h1, h2, s1, s2, q⟩
theorem rd_neD {d e : PyData} (h1 : Dp K H x d) (h2 : Dp K H y e) (s1 : SeqAt.shaped d = true) (s2 : SeqAt.shaped e = true) (q : Q (.bl (!PyData.eqv d e)) H) : rNeD K x y H Q := ⟨d, e, h1, h2, s1, s2, q⟩
end
section
variable {K : PySem.W.Frag} {H : Hp}
theorem dpAll_ints : ∀ ns : List Int, DpAll K H (ns.map V.int) (ns.map PyData.int)
  | [] => .nil
  | n :: r => .cons (.int n) (dpAll_ints r)
theorem dpAll_bls : ∀ ns : List Bool, DpAll K H (ns.map V.bl) (ns.map PyData.bool)
  | [] => .nil
  | n :: r => .cons (.bl n) (dpAll_bls r)
theorem dp_ints {a : Addr} {ns : List Int} (h : SqL K H a (ns.map V.int)) : Dp K H (.ref a) (.list (ns.map PyData.int)) := .lst h (dpAll_ints ns)
theorem dp_bls {a : Addr} {ns : List Bool} (h : SqL K H a (ns.map V.bl)) : Dp K H (.ref a) (.list (ns.map PyData.bool)) := .lst h (dpAll_bls ns)
end
theorem lay_ints : ∀ ns : List Int, PyData.canLayAll0 (ns.map PyData.int) = true
  | [] => rfl
  | n :: r => by
    rw [List.map_cons]
    simp [PyData.canLayAll0, lay_ints r, PyData.canLay0]
theorem eqv_ints : ∀ ns ms : List Int, PyData.eqvAll (ns.map PyData.int) (ms.map PyData.int) = decide (ns = ms)
  | [], [] => rfl
  | [], _ :: _ => rfl
  | _ :: _, [] => rfl
  | n :: r, m :: s => by
    rw [List.map_cons, List.map_cons, PyData.eqvAll, eqv_ints r s]
    by_cases h : n = m
    · subst h
      simp [PyData.eqv]
    · have : (n == m) = false := by simpa using h
      simp [PyData.eqv, this, h]
theorem eqv_bls : ∀ ns ms : List Bool, PyData.eqvAll (ns.map PyData.bool) (ms.map PyData.bool) = decide (ns = ms)
  | [], [] => rfl
  | [], _ :: _ => rfl
  | _ :: _, [] => rfl
  | n :: r, m :: s => by
    rw [List.map_cons, List.map_cons, PyData.eqvAll, eqv_bls r s]
    by_cases h : n = m
    · subst h
      simp [PyData.eqv]
    · have : (n == m) = false := by simpa using h
      simp [PyData.eqv, this, h]
/-! ### a clause of a try -/
section
variable {σ : St} {H : Hp} {K : PySem.W.Frag} {nx : St → Hp → Prop} {rt : VK} {bk ct : St → Hp → Prop} {Q : VK} {te : TE}
theorem rd_was {c cls : Value} {i : Nat} {ts : Addr → Value → Option Addr → TS} {Wout : WX} {d : Option Addr} (hx : PySem.W.exmOne K cls c = some true)
    (q : ∀ a, H a = none → ts a cls d ⟨fun σ' H' => nx (σ'.set i none) H', rt, fun σ' H' => bk (σ'.set i none) H', fun σ' H' => ct (σ'.set i none) H'⟩ (σ.set i (some (.ref a))) H) : WE (wAs K c i ts Wout ⟨nx, rt, bk, ct⟩) σ cls d H :=
  ⟨true, hx, fun _ a h => q a h, fun h => nomatch h⟩
theorem rd_wonly {c cls : Value} {ts : Addr → Value → Option Addr → TS} {Wout : WX} {d : Option Addr} (hx : PySem.W.exmOne K cls c = some true)
    (q : ∀ a, H a = none → ts a cls d ⟨nx, rt, bk, ct⟩ σ H) : WE (wOnly K c ts Wout ⟨nx, rt, bk, ct⟩) σ cls d H :=
  ⟨true, hx, fun _ a h => q a h, fun h => nomatch h⟩
def XfB (a : Addr) (cls : Value) (d : Option Addr) (C : Addr) (f : Str) (x : V) (H1 : Hp) (Q : VK) : Prop := x = .ref a ∧ cls = .ref C ∧ ∃ (dd : Addr) (fs : List (Str × V)) (v : V), d = some dd ∧ H1 dd = some (.xd fs) ∧ fs.lookup f = some v ∧ Q v H1
theorem rd_xf {a C : Addr} {cls : Value} {d : Option Addr} {f : Str} (h : te σ H fun x H1 => XfB a cls d C f x H1 Q) : tXf a cls d C f te σ H Q := h
instance st_xf {a C : Addr} {cls : Value} {d : Option Addr} {f : Str} : Stp (tXf a cls d C f te σ H Q) (te σ H fun x H1 => XfB a cls d C f x H1 Q) := ⟨fun h => rd_xf h⟩
theorem rd_xfb {a C dd : Addr} {f : Str} {fs : List (Str × V)} {v : V} (h : H dd = some (.xd fs)) (hl : fs.lookup f = some v) (q : Q v H) : XfB a (.ref C) (some dd) C f (.ref a) H Q := ⟨rfl, rfl, dd, fs, v, rfl, h, hl, q⟩
end
end L2

namespace L2
open PySem PySem.Spec PyProof.Rows
section
variable {σ : St} {H : Hp} {Q : VK} {K : PySem.W.Frag} {N : St → Hp → Prop}
theorem rd_isiII {i : Int} (q : Q (.bl true) H) : rIsi K [.int i, .ty "int"] H Q := ⟨_, _, _, _, true, rfl, .ty _, .base (.int i), kit_ty (by decide +kernel), q⟩
instance st_isiII {i : Int} : Stp (rIsi K [.int i, .ty "int"] H Q) (Q (.bl true) H) := ⟨fun h => rd_isiII h⟩
theorem rd_isiIB {i : Int} (q : Q (.bl false) H) : rIsi K [.int i, .ty "bool"] H Q := ⟨_, _, _, _, false, rfl, .ty _, .base (.int i), kit_ty (by decide +kernel), q⟩
instance st_isiIB {i : Int} : Stp (rIsi K [.int i, .ty "bool"] H Q) (Q (.bl false) H) := ⟨fun h => rd_isiIB h⟩
theorem rd_isiBB {b : Bool} (q : Q (.bl true) H) : rIsi K [.bl b, .ty "bool"] H Q := ⟨_, _, _, _, true, rfl, .ty _, .base (.bl b), kit_ty (by decide +kernel), q⟩
instance st_isiBB {b : Bool} : Stp (rIsi K [.bl b, .ty "bool"] H Q) (Q (.bl true) H) := ⟨fun h => rd_isiBB h⟩
theorem rd_unl {a : Addr} {xs : List V} {n : Nat} {t : TGs} (h : SqL K H a xs) (hn : xs.length = n) (q : t xs σ H N) : gUnl K n t (.ref a) σ H N := ⟨a, xs, rfl, h, hn, q⟩
theorem rd_slL {a : Addr} {xs : List V} {lo hi : Option Int} (h : SqL K H a xs) (q : ∀ p, H p = none → Q (.ref p) (upd H p (.lst (cutV xs lo hi)))) : rSlL K (.ref a) lo hi H Q := ⟨a, xs, rfl, h, q⟩
theorem rd_sl {r : V → Option Int → Option Int → Hp → VK → Prop} {te : TE} {tl th : TO} (h : te σ H fun x H1 => tl σ H1 fun l H2 => th σ H2 fun u H3 => r x l u H3 Q) : tSl r te tl th σ H Q := h
instance st_sl {r : V → Option Int → Option Int → Hp → VK → Prop} {te : TE} {tl th : TO} : Stp (tSl r te tl th σ H Q) (te σ H fun x H1 => tl σ H1 fun l H2 => th σ H2 fun u H3 => r x l u H3 Q) := ⟨fun h => rd_sl h⟩
theorem rd_noPart {R : Option Int → Hp → Prop} (q : R none H) : tNoPart σ H R := q
instance st_noPart {R : Option Int → Hp → Prop} : Stp (tNoPart σ H R) (R none H) := ⟨fun h => rd_noPart h⟩
def rPart (R : Option Int → Hp → Prop) (x : V) (H : Hp) : Prop := ∃ i, x = .int i ∧ R (some i) H
theorem rd_part {te : TE} {R : Option Int → Hp → Prop} (h : te σ H (rPart R)) : tPart te σ H R := h
instance st_part {te : TE} {R : Option Int → Hp → Prop} : Stp (tPart te σ H R) (te σ H (rPart R)) := ⟨fun h => rd_part h⟩
theorem rd_part1 {i : Int} {R : Option Int → Hp → Prop} (q : R (some i) H) : rPart R (.int i) H := ⟨i, rfl, q⟩
instance st_part1 {i : Int} {R : Option Int → Hp → Prop} : Stp (rPart R (.int i) H) (R (some i) H) := ⟨fun h => rd_part1 h⟩
theorem rd_cat {l b : Addr} {xs zs : List V} (h1 : H l = some (.lst xs)) (h2 : H b = some (.lst zs)) (h3 : xs.length + zs.length ≤ sizeLine) (q : ∀ p, H p = none → Q (.ref p) (upd H p (.lst (xs ++ zs)))) : rCat (.ref l) (.ref b) H Q := ⟨l, b, xs, zs, rfl, rfl, h1, h2, h3, q⟩
end
end L2
namespace L2
theorem lt_pow_of {i : Int} {k : Nat} (h1 : -(2 ^ k) < i) (h2 : i < 2 ^ k) : i.natAbs < 2 ^ k := by
  have e : ((2 ^ k : Nat) : Int) = 2 ^ k := by rw [Int.natCast_pow]; rfl
  omega
theorem CMulB.wide {i j : Int} (h1 : -(2 ^ 250) < i ∧ i < 2 ^ 250) (h2 : -(2 ^ 250) < j ∧ j < 2 ^ 250) : CMulB i j :=
  .inr (wide_mul (lt_pow_of h1.1 h1.2) (lt_pow_of h2.1 h2.2) (by decide) (by decide) (by decide))
end L2
namespace L2
open PySem PySem.Spec PyProof.Rows
section
variable {H : Hp} {Q : VK} {K : PySem.W.Frag} {p : Addr}
theorem rd_in2L {i a b : Int} (q : Q (.bl (decide (i = a ∨ i = b))) (upd H p (.lst [.int a, .int b]))) : rIn K false (.int i) (.ref p) (upd H p (.lst [.int a, .int b])) Q :=
  ⟨p, _, rfl, .inl (SqL.of upd_same), rfl, rfl, by
    show Q (.bl (inV (.int i) [.int a, .int b])) _
    rw [inV2]
    exact q⟩
instance st_in2L {i a b : Int} : Stp (rIn K false (.int i) (.ref p) (upd H p (.lst [.int a, .int b])) Q) (Q (.bl (decide (i = a ∨ i = b))) (upd H p (.lst [.int a, .int b]))) := ⟨fun h => rd_in2L h⟩
theorem rd_nin2L {i a b : Int} (q : Q (.bl (!decide (i = a ∨ i = b))) (upd H p (.lst [.int a, .int b]))) : rIn K true (.int i) (.ref p) (upd H p (.lst [.int a, .int b])) Q :=
  ⟨p, _, rfl, .inl (SqL.of upd_same), rfl, rfl, by
    show Q (.bl (!inV (.int i) [.int a, .int b])) _
    rw [inV2]
    exact q⟩
instance st_nin2L {i a b : Int} : Stp (rIn K true (.int i) (.ref p) (upd H p (.lst [.int a, .int b])) Q) (Q (.bl (!decide (i = a ∨ i = b))) (upd H p (.lst [.int a, .int b]))) := ⟨fun h => rd_nin2L h⟩
theorem rd_nin2 {i a b : Int} (q : Q (.bl (!decide (i = a ∨ i = b))) (upd H p (.tup [.int a, .int b]))) : rIn K true (.int i) (.ref p) (upd H p (.tup [.int a, .int b])) Q :=
  ⟨p, _, rfl, .inr (SqT.of upd_same), rfl, rfl, by
    show Q (.bl (!inV (.int i) [.int a, .int b])) _
    rw [inV2]
    exact q⟩
instance st_nin2 {i a b : Int} : Stp (rIn K true (.int i) (.ref p) (upd H p (.tup [.int a, .int b])) Q) (Q (.bl (!decide (i = a ∨ i = b))) (upd H p (.tup [.int a, .int b]))) := ⟨fun h => rd_nin2 h⟩
theorem beq_str {a s : Str} : (a == s) = decide (s = a) := by
  rw [Bool.beq_eq_decide_eq]
  exact decide_eq_decide.mpr eq_comm
theorem inVs4 {s a b c d : Str} : inV (.str s) [.str a, .str b, .str c, .str d] = decide (s = a ∨ s = b ∨ s = c ∨ s = d) := by
  simp only [inV, eqV, List.any_cons, List.any_nil, Bool.or_false, Bool.decide_or, beq_str]
theorem rd_ninS4 {s a b c d : Str} (q : Q (.bl (!decide (s = a ∨ s = b ∨ s = c ∨ s = d))) (upd H p (.lst [.str a, .str b, .str c, .str d]))) : rIn K true (.str s) (.ref p) (upd H p (.lst [.str a, .str b, .str c, .str d])) Q :=
  ⟨p, _, rfl, .inl (SqL.of upd_same), rfl, rfl, by
    show Q (.bl (!inV (.str s) [.str a, .str b, .str c, .str d])) _
    rw [inVs4]
    exact q⟩
instance st_ninS4 {s a b c d : Str} : Stp (rIn K true (.str s) (.ref p) (upd H p (.lst [.str a, .str b, .str c, .str d])) Q) (Q (.bl (!decide (s = a ∨ s = b ∨ s = c ∨ s = d))) (upd H p (.lst [.str a, .str b, .str c, .str d]))) := ⟨fun h => rd_ninS4 h⟩
end
end L2
namespace L2
open PySem PySem.Spec PyProof.Rows
theorem lay_all : ∀ {ds : List PyData}, (∀ d ∈ ds, d.canLay0 = true ∧ d.depth ≤ 60) → PyData.canLayAll0 ds = true ∧ PyData.depthAll ds ≤ 60
  | [], _ => ⟨rfl, Nat.zero_le _⟩
  | d :: ds, h => by
    obtain ⟨a, b⟩ := lay_all (ds := ds) fun e he => h e (List.mem_cons_of_mem _ he)
    obtain ⟨c, e⟩ := h d (List.mem_cons_self ..)
    simp only [PyData.canLayAll0, PyData.depthAll]
    exact ⟨by rw [c, a]; rfl, Nat.max_le.mpr ⟨e, b⟩⟩
theorem shaped_list {ds : List PyData} (h : ∀ d ∈ ds, d.canLay0 = true ∧ d.depth ≤ 60) : SeqAt.shaped (.list ds) = true := by
  obtain ⟨a, b⟩ := lay_all h
  unfold SeqAt.shaped
  have : (PyData.list ds).canLay0 = true := a
  rw [this, Bool.true_and, decide_eq_true_eq]
  show PyData.depthAll ds + 1 ≤ 64
  omega
theorem shaped_ints (ns : List Int) : SeqAt.shaped (.list (ns.map PyData.int)) = true := shaped_list fun d hd => by
  obtain ⟨n, _, rfl⟩ := List.mem_map.mp hd
  exact ⟨rfl, by simp [PyData.depth]⟩
theorem shaped_bls (ns : List Bool) : SeqAt.shaped (.list (ns.map PyData.bool)) = true := shaped_list fun d hd => by
  obtain ⟨n, _, rfl⟩ := List.mem_map.mp hd
  exact ⟨rfl, by simp [PyData.depth]⟩
section
variable {H : Hp} {Q : VK} {K : PySem.W.Frag} {a b p : Addr}
/-- two lists of whole numbers -/
theorem rd_eqInts {ns ms : List Int} (h1 : SqL K H a (ns.map V.int)) (h2 : SqL K H b (ms.map V.int)) (q : Q (.bl (decide (ns = ms))) H) : rEqD K (.ref a) (.ref b) H Q :=
  ⟨_, _, dp_ints h1, dp_ints h2, shaped_ints _, shaped_ints _, by rw [PyData.eqv, eqv_ints]; exact q⟩
theorem rd_neInts {ns ms : List Int} (h1 : SqL K H a (ns.map V.int)) (h2 : SqL K H b (ms.map V.int)) (q : Q (.bl (!decide (ns = ms))) H) : rNeD K (.ref a) (.ref b) H Q :=
  ⟨_, _, dp_ints h1, dp_ints h2, shaped_ints _, shaped_ints _, by rw [PyData.eqv, eqv_ints]; exact q⟩
/-- equal data -/
theorem rd_neSame {x y : V} {d : PyData} (h1 : Dp K H x d) (h2 : Dp K H y d) (s : SeqAt.shaped d = true) (q : Q (.bl false) H) : rNeD K x y H Q :=
  ⟨d, d, h1, h2, s, s, by rw [SeqAt.eqv_refl d (SeqAt.canLay_of_shaped s)]; exact q⟩
theorem rd_eqSame {x y : V} {d : PyData} (h1 : Dp K H x d) (h2 : Dp K H y d) (s : SeqAt.shaped d = true) (q : Q (.bl true) H) : rEqD K x y H Q :=
  ⟨d, d, h1, h2, s, s, by rw [SeqAt.eqv_refl d (SeqAt.canLay_of_shaped s)]; exact q⟩
theorem rd_isiL {xs : List V} (h : H a = some (.lst xs)) (q : Q (.bl true) H) : rIsi K [.ref a, .ty "list"] H Q := ⟨_, _, _, _, true, rfl, .ty _, .base (.lst h), kit_ty (by decide +kernel), q⟩
theorem rd_isiT {xs : List V} (h : H a = some (.tup xs)) (q : Q (.bl true) H) : rIsi K [.ref a, .ty "tuple"] H Q := ⟨_, _, _, _, true, rfl, .ty _, .base (.tup h), kit_ty (by decide +kernel), q⟩
end
end L2

namespace L2
open PySem PySem.Spec PyProof.Rows
theorem Same.lst {K : PySem.W.Frag} {H0 H : Hp} {a : Addr} {xs : List V} (e : Same H0 H) (h : H0 a = some (.lst xs)) : SqL K H a xs := SqL.of (e _ _ h)
theorem ne_self {α : Type} [DecidableEq α] (a : α) : (!decide (a = a)) = false := by simp
end L2
namespace L2
theorem rd_neF {p A B : Prop} [Decidable p] (h : p) (q : B) : if (!decide p) = true then A else B := by
  rw [decide_eq_true h]
  exact q
theorem rd_eqT {p A B : Prop} [Decidable p] (h : p) (q : A) : if decide p = true then A else B := by
  rw [decide_eq_true h]
  exact q
end L2
namespace L2
open PySem PySem.Spec PyProof.Rows
theorem inV_ints {x : Int} : ∀ {ns : List Int}, inV (.int x) (ns.map V.int) = decide (x ∈ ns)
  | [] => by simp [inV]
  | n :: ns => by
    have := inV_ints (x := x) (ns := ns)
    unfold inV at *
    rw [List.map_cons, List.any_cons, this, eqV, Bool.beq_eq_decide_eq, ← Bool.decide_or]
    refine decide_eq_decide.mpr ?_
    rw [List.mem_cons]
    exact or_congr eq_comm Iff.rfl
theorem flat_ints : ∀ {ns : List Int}, (ns.map V.int).all flatV = true
  | [] => rfl
  | _ :: ns => by
    rw [List.map_cons, List.all_cons, flat_ints (ns := ns)]
    rfl
section
variable {σ : St} {H : Hp} {Q : VK} {K : PySem.W.Frag} {p : Addr} {te : TE} {tt : TC}
theorem rd_inIs {x : Int} {ns : List Int} (h : SqL K H p (ns.map V.int)) (q : Q (.bl (decide (x ∈ ns))) H) : rIn K false (.int x) (.ref p) H Q :=
  rd_inL h rfl flat_ints (by rw [inV_ints]; exact q)
theorem rd_ninIs {x : Int} {ns : List Int} (h : SqL K H p (ns.map V.int)) (q : Q (.bl (!decide (x ∈ ns))) H) : rIn K true (.int x) (.ref p) H Q :=
  ⟨p, _, rfl, .inl h, rfl, flat_ints, by rw [inV_ints]; exact q⟩
theorem all_map {n : Nat} {g : Nat → Int} : ((List.range n).filter (fun _ => true)).map (fun i => V.int (g i)) = ((List.range n).map g).map V.int := by
  rw [List.filter_eq_self.mpr (fun _ _ => rfl), List.map_map]
  rfl
end
end L2
namespace L2
open PySem PySem.Spec PyProof.Rows
section
variable {σ : St} {H : Hp} {Q : VK} {K : PySem.W.Frag} {te : TE} {tt : TT}
/-- a list comprehension over a range whose items come from what stands in the heap -/
theorem rd_lcRG {lo : Int} {n : Nat} {g : TG} {vs : List Nat} (J : Addr → Nat → List V → Hp → Prop) (h0 : ∀ D, H D = none → J D 0 [] (upd H D (.lst [])))
    (hs : ∀ D i ys H', H D = none → i < n → H' D = some (.lst ys) → J D i ys H' → g (.int (lo + i)) (wipe σ vs) H' fun σ2 H2 => wipe σ2 vs = wipe σ vs ∧ tt σ2 H2 fun b H3 => if b = true then te σ2 H3 (fun y H4 => ∃ acc, H4 D = some (.lst acc) ∧ acc.length < sizeLine ∧ ∃ ys, (upd H4 D (.lst (acc ++ [y]))) D = some (.lst ys) ∧ J D (i + 1) ys (upd H4 D (.lst (acc ++ [y])))) else ∃ ys, H3 D = some (.lst ys) ∧ J D (i + 1) ys H3)
    (q : ∀ D ys H', H D = none → H' D = some (.lst ys) → J D n ys H' → Q (.ref D) H') : lcB (Itr lo n) g tt te vs σ Q H := by
  intro D hD
  refine ⟨fun i m H' => m = n - i ∧ i ≤ n ∧ ∃ ys, H' D = some (.lst ys) ∧ J D i ys H', ⟨n, by simp, Nat.zero_le _, _, upd_same, h0 D hD⟩, ?_⟩
  rintro i m H' ⟨rfl, hi, ys, hy, hj⟩
  by_cases hlt : i < n
  · refine .inr ⟨hlt, fun H' => ∃ ys, H' D = some (.lst ys) ∧ J D (i + 1) ys H', fun H' p' => ⟨n - (i + 1), by omega, rfl, hlt, p'⟩, fun x H' y => ?_⟩
    obtain ⟨e, y⟩ := y
    subst e y
    exact hs D i ys _ hD hlt hy hj
  · have e : i = n := by omega
    subst e
    exact .inl ⟨Nat.le_refl _, q D ys H' hD hy hj⟩
theorem put_G {J : Addr → Nat → List V → Hp → Prop} {D : Addr} {i : Nat} {H4 : Hp} {acc : List V} {y : V} (h : H4 D = some (.lst acc)) (hl : acc.length < sizeLine) (j : J D (i + 1) (acc ++ [y]) (upd H4 D (.lst (acc ++ [y])))) :
    ∃ acc, H4 D = some (.lst acc) ∧ acc.length < sizeLine ∧ ∃ ys, (upd H4 D (.lst (acc ++ [y]))) D = some (.lst ys) ∧ J D (i + 1) ys (upd H4 D (.lst (acc ++ [y]))) := ⟨acc, h, hl, _, upd_same, j⟩
end
end L2

namespace L2
open PySem PySem.Spec PyProof.Rows
/-! ### classes of the text: fields, methods, making, ==, calls -/
structure MethAt (K : PySem.W.Frag) (C : Addr) (m qual : Str) (st : Stmt) (ps : List Str) : Prop where
  ex : ∃ (f : Addr) (fd : FuncData), Fun K m qual st f fd ∧ Meth K C m f ∧ Binds K fd ps []
structure MDef (P : Program) (w : World) (K : PySem.W.Frag) (mg : Str → Option Value) (base : Heap) (k : Nat) (C : Addr) (m : Str) (ps : List Str) (sp : Sp) : Prop where
  ex : ∃ (f : Addr) (fd : FuncData), FnOk P w K mg base (L2.CX P w) k f fd ps sp ∧ Meth K C m f ∧ Binds K fd ps []
structure MkAt (K : PySem.W.Frag) (mg : Str → Option Value) (x : Str) (C : Addr) (qual : Str) (st : Stmt) (ps : List Str) : Prop where
  ex : ∃ (f : Addr) (fd : FuncData), Fun K "__init__" qual st f fd ∧ Mk K C f ∧ Binds K fd ps []
  g : mg x = some (.ref C)
structure MkDef (P : Program) (w : World) (K : PySem.W.Frag) (mg : Str → Option Value) (base : Heap) (k : Nat) (x : Str) (C : Addr) (ps : List Str) (sp : Sp) : Prop where
  ex : ∃ (f : Addr) (fd : FuncData), FnOk P w K mg base (L2.CX P w) k f fd ps sp ∧ Mk K C f ∧ Binds K fd ps []
  g : mg x = some (.ref C)
section
variable {P : Program} {w : World} {K : PySem.W.Frag} {mg : Str → Option Value} {base : Heap}
theorem MethAt.ok {C : Addr} {m qual : Str} {st : Stmt} {N ps : List Str} {k : Nat} {sp : Sp} (D : MethAt K C m qual st ps) (S : FnScope N ps (defScope st)) (len : ∀ vs H Q E, sp vs H Q E → vs.length = ps.length)
    (hbody : ∀ (f : Addr) (cdv : Value) (A : Around) (outer : List Env) (s : Shared) (H : Hp) (vs : List V) (Q : VK) (E : XK), Room k (A.deeper (envOfC qual (defScope st) s.heap.objs.size f cdv)) → sp vs H Q E →
      ∃ t, PSs (cxOf (L2.CX P w) P w K mg base N qual (defScope st) f cdv A outer s H E) (defBody st) t ∧ t ⟨fun _ H' => Q .non H', Q, fun _ _ => False, fun _ _ => False⟩ (start N vs) H) : MDef P w K mg base (k + 1) C m ps sp := by
  obtain ⟨f, fd, F, g, b⟩ := D.ex
  exact ⟨f, fd, F.okX S len fun cdv A outer s H vs Q E hr h => hbody f cdv A outer s H vs Q E hr h, g, b⟩
theorem MkAt.ok {x : Str} {C : Addr} {qual : Str} {st : Stmt} {N ps : List Str} {k : Nat} {sp : Sp} (D : MkAt K mg x C qual st ps) (S : FnScope N ps (defScope st)) (len : ∀ vs H Q E, sp vs H Q E → vs.length = ps.length)
    (hbody : ∀ (f : Addr) (cdv : Value) (A : Around) (outer : List Env) (s : Shared) (H : Hp) (vs : List V) (Q : VK) (E : XK), Room k (A.deeper (envOfC qual (defScope st) s.heap.objs.size f cdv)) → sp vs H Q E →
      ∃ t, PSs (cxOf (L2.CX P w) P w K mg base N qual (defScope st) f cdv A outer s H E) (defBody st) t ∧ t ⟨fun _ H' => Q .non H', Q, fun _ _ => False, fun _ _ => False⟩ (start N vs) H) : MkDef P w K mg base (k + 1) x C ps sp := by
  obtain ⟨f, fd, F, g, b⟩ := D.ex
  exact ⟨⟨f, fd, F.okX S len fun cdv A outer s H vs Q E hr h => hbody f cdv A outer s H vs Q E hr h, g, b⟩, D.g⟩
theorem MDef.imp {k : Nat} {C : Addr} {m : Str} {ps : List Str} {sp sp' : Sp} (D : MDef P w K mg base k C m ps sp) (h : ∀ vs H Q E, sp' vs H Q E → sp vs H Q E) : MDef P w K mg base k C m ps sp' := by
  obtain ⟨f, fd, F, g, b⟩ := D.ex
  exact ⟨f, fd, F.imp h, g, b⟩
theorem MDef.mono {j k : Nat} {C : Addr} {m : Str} {ps : List Str} {sp : Sp} (D : MDef P w K mg base j C m ps sp) (h : j ≤ k) : MDef P w K mg base k C m ps sp := by
  obtain ⟨f, fd, F, g, b⟩ := D.ex
  exact ⟨f, fd, F.mono h, g, b⟩
theorem MDef.forget {k : Nat} {C : Addr} {m : Str} {ps : List Str} {sp : Sp} (D : MDef P w K mg base k C m ps sp) : MDef P w K mg base k C m ps (fun vs H Q E => NoT H ∧ sp vs H (fun v H' => Same H H' ∧ Q v H) E) := by
  obtain ⟨f, fd, F, g, b⟩ := D.ex
  exact ⟨f, fd, fn_forget F, g, b⟩
end
def tFldC (C : Addr) (ta : TE) (f : Str) : TE := fun σ H Q => ta σ H fun x H1 => ∃ a dx fs v, x = .ref a ∧ H1 a = some (.ins C dx fs) ∧ fs.lookup f = some v ∧ Q v H1
def sFldC (C : Addr) (ta tv : TE) (f : Str) : TS := fun D σ H => tv σ H fun y H1 => ta σ H1 fun x H2 => ∃ a dx fs, x = .ref a ∧ H2 a = some (.ins C dx fs) ∧ fs.length < 1000 ∧ D.nx σ (upd H2 a (.ins C dx (putF f y fs)))
def tCallC (C : Addr) (sp : Sp) (E : XK) (tf : TE) (t : TA) : TE := fun σ H Q => tf σ H fun y H1 => ∃ a, y = V.ref a ∧ t σ H1 fun vs H2 => (∃ dx fs, H2 a = some (.ins C dx fs)) ∧ sp (V.ref a :: vs) H2 Q E
def rEqO (K : PySem.W.Frag) (C : Addr) (sp : Sp) (E : XK) : R2 := fun x y H Q => ∃ a dx fs ty, x = .ref a ∧ H a = some (.ins C dx fs) ∧ TyX K H y ty ∧ PySem.W.notFirst K C ty = true ∧ sp [.ref a, y] H (fun v H' => (∃ b, v = .bl b) ∧ Q v H') E
section
variable {X : Cx} {o e value : Expr} {es : List Expr} {f : Str} {pos pos' tpos apos p : Pos} {ta tv : TE} {t : TA} {C : Addr}
theorem pe_fldC (he : PE X e ta) (c : Cls X.K C) (n : NoAttr X.K C f) (hb : attributeBase e f X.env (eval e X.env) = eval e X.env := by rfl) : PE X (.Attribute e f pos) (tFldC C ta f) := by
  refine ⟨fun pins s σ H Q I h => ?_⟩
  refine attr_of hb (thn (he.run pins s σ H _ I h) fun u s1 ⟨x, H1, I1, rx, a, dx, fs, v, ex, ea, l, q⟩ => ?_)
  subst ex
  obtain rfl : u = Value.ref a := rx
  exact getattr_ok I1 ea c n l fun u' s2 I2 ru => ⟨v, H1, I2, ru, q⟩
theorem ps_fldC (ha : PE X o ta) (hv : PE X value tv) (c : Cls X.K C) (n : NoAttr X.K C f) (hs : swapsWith value (some (.Attribute o f pos')) pos.line X.env = pure false := by rfl) : PS X (.Assign [.Attribute o f pos'] value pos) (sFldC C ta tv f) := by
  refine ⟨fun pins s σ H D I h => ?_⟩
  refine plainObj_wpAny_Assign_Attribute (thn (hv.run pins s σ H _ I h) fun u s1 ⟨y, H1, I1, ry, q⟩ => thn (ha.run pins s1 σ H1 _ I1 q) fun ov s2 ⟨x, H2, I2, rx, a, dx, fs, ex, ea, l, q2⟩ => ?_) hs
  subst ex
  obtain rfl : ov = Value.ref a := rx
  exact setattr_ok I2 ea c n l ry fun s3 I3 => ⟨σ, _, I3, q2⟩
theorem pe_md {k : Nat} {m : Str} {ps : List Str} {sp : Sp} {E : XK} {pl : Sem Bool} (D : MDef X.prog X.w X.K X.mg X.base k C m ps sp) (he : PE X o ta) (c : Cls X.K C) (hr : Room k X.A) (hx : Passes (L2.CX X.prog X.w) X E) (ha : PA X (e :: es) t)
    (hst : starEach (e :: es) X.env = (false, eval e X.env) :: starEach es X.env := by rfl) (hpl : (backTo pos (starEach es X.env)).any (·.1) = false := by rfl)
    (ht : eval (.Call (.Attribute o m apos) (e :: es) [] pos) X.env = (do
      let ov ← eval o X.env
      standAt apos.atName
      let (f, first) ← holding [ov] (getMethod ov m pl)
      callWith pos f first (backTo pos (starEach (e :: es) X.env)) (backToKw pos (keywordEach [] X.env))) := by rfl) :
    PE X (.Call (.Attribute o m apos) (e :: es) [] pos) (tMeth C m sp [] E ta t) := by
  obtain ⟨f, fd, F, g, b⟩ := D.ex
  exact pe_meth he c g F hr b .nil hx ha hst hpl ht
theorem pe_md0 {k : Nat} {m : Str} {ps : List Str} {sp : Sp} {E : XK} {pl : Sem Bool} (D : MDef X.prog X.w X.K X.mg X.base k C m ps sp) (he : PE X o ta) (c : Cls X.K C) (hr : Room k X.A) (hx : Passes (L2.CX X.prog X.w) X E)
    (ht : eval (.Call (.Attribute o m apos) [] [] pos) X.env = (do
      let ov ← eval o X.env
      standAt apos.atName
      let (f, first) ← holding [ov] (getMethod ov m pl)
      callWith pos f first (backTo pos (starEach [] X.env)) (backToKw pos (keywordEach [] X.env))) := by rfl) :
    PE X (.Call (.Attribute o m apos) [] [] pos) (tMeth C m sp [] E ta tNil) := by
  obtain ⟨f, fd, F, g, b⟩ := D.ex
  exact pe_meth0 he c g F hr b .nil hx ht
theorem pe_mkd {k : Nat} {x : Str} {ps : List Str} {sp : Sp} {E : XK} (D : MkDef X.prog X.w X.K X.mg X.base k x C ps sp) (hr : Room (k + 1) X.A) (hx : Passes (L2.CX X.prog X.w) X E) (ha : PA X (e :: es) t) (hg : Gl X x := by rfl)
    (hdb : (x == ("__debug__" : Str)) = false := by decide) (he : starEach (e :: es) X.env = (false, eval e X.env) :: starEach es X.env := by rfl) (hpl : (backTo pos (starEach es X.env)).any (·.1) = false := by rfl) :
    PE X (.Call (.Name x p) (e :: es) [] pos) (tMake C sp [] E t) := by
  obtain ⟨f, fd, F, M, b⟩ := D.ex
  exact pe_make M F hr hg D.g b .nil hx ha hdb he hpl
theorem pe_mkd0 {k : Nat} {x : Str} {ps : List Str} {sp : Sp} {E : XK} (D : MkDef X.prog X.w X.K X.mg X.base k x C ps sp) (hr : Room (k + 1) X.A) (hx : Passes (L2.CX X.prog X.w) X E) (hg : Gl X x := by rfl)
    (hdb : (x == ("__debug__" : Str)) = false := by decide) :
    PE X (.Call (.Name x p) [] [] pos) (tMake C sp [] E tNil) := by
  obtain ⟨f, fd, F, M, b⟩ := D.ex
  exact pe_make0 M F hr hg D.g b .nil hx hdb
theorem pe_mcall {k : Nat} {ps : List Str} {sp : Sp} {E : XK} {fe : Expr} {tf : TE} (D : MDef X.prog X.w X.K X.mg X.base k C "__call__" ps sp) (fi : ∀ g, PySem.W.findIn X.K (.ref C) "__call__" = some (some (.ref g)) → PySem.W.fnIn X.K g = true) (hf : PE X fe tf) (hr : Room k X.A) (hx : Passes (L2.CX X.prog X.w) X E) (ha : PA X (e :: es) t)
    (ht : eval (.Call fe (e :: es) [] pos) X.env = (do callWith pos (← eval fe X.env) [] (backTo pos (starEach (e :: es) X.env)) (backToKw pos (keywordEach [] X.env))) := by rfl)
    (he : starEach (e :: es) X.env = (false, eval e X.env) :: starEach es X.env := by rfl) (hpl : (backTo pos (starEach es X.env)).any (·.1) = false := by rfl) :
    PE X (.Call fe (e :: es) [] pos) (tCallC C sp E tf t) := by
  obtain ⟨f, fd, F, g, b⟩ := D.ex
  refine ⟨fun pins s σ H Q I h => ?_⟩
  refine Call_ (thn (hf.run pins s σ H _ I h) fun u s1 ⟨y, H1, I1, ry, a, ey, q⟩ => ?_) ht
  subst ey
  obtain rfl : u = Value.ref a := ry
  refine StX.callO_with (thn (ha.run pos pins s1 σ H1 _ I1 q) fun us s2 ⟨vs, H2, I2, r, hi, q2⟩ => ?_) he hpl
  obtain ⟨ox, od, J, hd⟩ := StX.insC_at I2 (.inr hi)
  refine ⟨⟨C, ox, od, J, hd⟩, StX.run_callO (sp := fun vs H Q E => sp (vs ++ []) H Q E) ⟨g.at_, g.fn, fi f g.at_⟩ (F.raw b .nil) hr hx I2 (.inr hi) r ?_⟩
  rw [List.append_nil]
  exact q2
/-- x == y, x an instance of C with an own __eq__ -/
theorem op_eqO {k : Nat} {ps : List Str} {sp : Sp} {E : XK} (D : MDef X.prog X.w X.K X.mg X.base k C "__eq__" ps sp) (hr : Room k X.A) (hu : X.A.units < cLine) (hx : Passes (L2.CX X.prog X.w) X E) : OpR X (compareOp .Eq) (rEqO X.K C sp E) := by
  intro pins s σ H x y v u Q I rx ry h
  obtain ⟨f, fd, F, g, b⟩ := D.ex
  obtain ⟨a, dx, fs, ty, rfl, ha, hty, hn, hsp⟩ := h
  cases (show v = Value.ref a from rx)
  obtain ⟨mA, J, _⟩ := ins_get I.hok ha
  obtain ⟨od, J, _⟩ := J.look
  obtain ⟨m, hF⟩ := I.fr
  obtain ⟨P, Z, hp, _⟩ := kit_of I ry hty
  show wpAny (model X.prog X.w) X.A (richCompare .Eq (.ref a) u) (EP X pins σ Q) X.xe s
  refine PySem.W.cmp_K (op := .Eq) (tb := ty) hu hF I.ok.mod.kin J (Z.ty _ s.heap I.kIn hp) hn g.at_ g.fn ?_
  have hl := F.len _ _ _ _ hsp
  refine wpAny_mono (run_fn (dvs := []) (ds := []) (us := [.ref a, u]) (vs := [.ref a, y]) F hr b .nil hx I (.cons rfl (.cons ry .nil)) hsp) (fun r s' q => ?_) fun _ _ z => z
  obtain ⟨z, H', I', rz, ⟨bb, rfl⟩, q⟩ := q
  cases (show r = Value.bool bb from rz)
  exact ⟨.bl bb, H', I', rfl, q⟩
end
section
variable {σ : St} {H : Hp} {Q : VK} {C p : Addr} {ta tv : TE} {t : TA} {f m : Str} {v : V} {nx : St → Hp → Prop} {rt : VK} {bk ct : St → Hp → Prop} {sp : Sp} {E : XK}
theorem rd_fldC (h : ta σ H fun x H1 => ∃ a dx fs v, x = .ref a ∧ H1 a = some (.ins C dx fs) ∧ fs.lookup f = some v ∧ Q v H1) : tFldC C ta f σ H Q := h
instance st_fldC  : Stp (tFldC C ta f σ H Q) (ta σ H fun x H1 => ∃ a dx fs v, x = .ref a ∧ H1 a = some (.ins C dx fs) ∧ fs.lookup f = some v ∧ Q v H1) := ⟨fun h => rd_fldC h⟩
theorem rd_fld1 {dx : Addr} {fs : List (Str × V)} {S : V → Prop} (h : H p = some (.ins C dx fs)) (l : fs.lookup f = some v) (q : S v) : ∃ a dx fs v, V.ref p = .ref a ∧ H a = some (.ins C dx fs) ∧ fs.lookup f = some v ∧ S v := ⟨p, dx, fs, v, rfl, h, l, q⟩
theorem rd_sfldC (h : tv σ H fun y H1 => ta σ H1 fun x H2 => ∃ a dx fs, x = .ref a ∧ H2 a = some (.ins C dx fs) ∧ fs.length < 1000 ∧ nx σ (upd H2 a (.ins C dx (putF f y fs)))) : sFldC C ta tv f ⟨nx, rt, bk, ct⟩ σ H := h
instance st_sfldC  : Stp (sFldC C ta tv f ⟨nx, rt, bk, ct⟩ σ H) (tv σ H fun y H1 => ta σ H1 fun x H2 => ∃ a dx fs, x = .ref a ∧ H2 a = some (.ins C dx fs) ∧ fs.length < 1000 ∧ nx σ (upd H2 a (.ins C dx (putF f y fs)))) := ⟨fun h => rd_sfldC h⟩
theorem rd_sfld1 {dx : Addr} {fs : List (Str × V)} {S : Addr → Addr → List (Str × V) → Prop} (h : H p = some (.ins C dx fs)) (l : fs.length < 1000) (q : S p dx fs) : ∃ a dx fs, V.ref p = .ref a ∧ H a = some (.ins C dx fs) ∧ fs.length < 1000 ∧ S a dx fs := ⟨p, dx, fs, rfl, h, l, q⟩
theorem rd_meth (h : ta σ H fun x H1 => ∃ a dx fs, x = .ref a ∧ H1 a = some (.ins C dx fs) ∧ fs.lookup m = none ∧ t σ H1 fun vs H2 => sp (x :: vs) H2 Q E) : tMeth C m sp [] E ta t σ H Q := by
  show ta σ H fun x H1 => ∃ a dx fs, x = .ref a ∧ H1 a = some (.ins C dx fs) ∧ fs.lookup m = none ∧ t σ H1 fun vs H2 => sp (x :: (vs ++ [])) H2 Q E
  simp only [List.append_nil]
  exact h
instance st_meth  : Stp (tMeth C m sp [] E ta t σ H Q) (ta σ H fun x H1 => ∃ a dx fs, x = .ref a ∧ H1 a = some (.ins C dx fs) ∧ fs.lookup m = none ∧ t σ H1 fun vs H2 => sp (x :: vs) H2 Q E) := ⟨fun h => rd_meth h⟩
theorem rd_meth1 {dx : Addr} {fs : List (Str × V)} {S : Prop} (h : H p = some (.ins C dx fs)) (l : fs.lookup m = none) (q : S) : ∃ a dx fs, V.ref p = .ref a ∧ H a = some (.ins C dx fs) ∧ fs.lookup m = none ∧ S := ⟨p, dx, fs, rfl, h, l, q⟩
theorem rd_make (h : t σ H fun vs H1 => ∀ x dx, H1 x = none → H1 dx = none → dx ≠ x → sp (.ref x :: vs) (upd (upd H1 dx (.own x)) x (.ins C dx [])) (fun v H2 => v = .non ∧ Q (.ref x) H2) E) : tMake C sp [] E t σ H Q := by
  show t σ H fun vs H1 => ∀ x dx, H1 x = none → H1 dx = none → dx ≠ x → sp (.ref x :: (vs ++ [])) (upd (upd H1 dx (.own x)) x (.ins C dx [])) (fun v H2 => v = .non ∧ Q (.ref x) H2) E
  simp only [List.append_nil]
  exact h
instance st_make  : Stp (tMake C sp [] E t σ H Q) (t σ H fun vs H1 => ∀ x dx, H1 x = none → H1 dx = none → dx ≠ x → sp (.ref x :: vs) (upd (upd H1 dx (.own x)) x (.ins C dx [])) (fun v H2 => v = .non ∧ Q (.ref x) H2) E) := ⟨fun h => rd_make h⟩
theorem rd_callC (h : ta σ H fun y H1 => ∃ a, y = V.ref a ∧ t σ H1 fun vs H2 => (∃ dx fs, H2 a = some (.ins C dx fs)) ∧ sp (V.ref a :: vs) H2 Q E) : tCallC C sp E ta t σ H Q := h
instance st_callC : Stp (tCallC C sp E ta t σ H Q) (ta σ H fun y H1 => ∃ a, y = V.ref a ∧ t σ H1 fun vs H2 => (∃ dx fs, H2 a = some (.ins C dx fs)) ∧ sp (V.ref a :: vs) H2 Q E) := ⟨fun h => rd_callC h⟩
theorem rd_callO1 {S : Addr → Prop} (q : S p) : ∃ a, V.ref p = V.ref a ∧ S a := ⟨p, rfl, q⟩
instance st_callO1 {S : Addr → Prop} : Stp (∃ a, V.ref p = V.ref a ∧ S a) (S p) := ⟨fun q => rd_callO1 q⟩
theorem rd_callO2 {dx : Addr} {fs : List (Str × V)} {S : Prop} (h : H p = some (.ins C dx fs)) (q : S) : (∃ dx fs, H p = some (.ins C dx fs)) ∧ S := ⟨⟨dx, fs, h⟩, q⟩
theorem rd_isB {a b : Bool} (q : Q (.bl (decide (a = b))) H) : rIsB (.bl a) (.bl b) H Q := ⟨a, b, rfl, rfl, q⟩
instance st_isB {a b : Bool} : Stp (rIsB (.bl a) (.bl b) H Q) (Q (.bl (decide (a = b))) H) := ⟨fun h => rd_isB h⟩
theorem rd_notB {a b : Bool} (q : Q (.bl (!decide (a = b))) H) : rNotB (.bl a) (.bl b) H Q := ⟨a, b, rfl, rfl, q⟩
instance st_notB {a b : Bool} : Stp (rNotB (.bl a) (.bl b) H Q) (Q (.bl (!decide (a = b))) H) := ⟨fun h => rd_notB h⟩
theorem rd_isNone {x : V} (q : Q (.bl (decide (x = .non))) H) : (V.non = V.non) ∧ Q (.bl (decide (x = .non))) H := ⟨rfl, q⟩
instance st_isNone {x : V} : Stp ((V.non = V.non) ∧ Q (.bl (decide (x = .non))) H) (Q (.bl (decide (x = .non))) H) := ⟨fun h => rd_isNone h⟩
end
theorem kit_self {K : PySem.W.Frag} {C : Addr} : PySem.W.kitOne K (.ref C) (.ref C) = some true := if_pos (by simp)
theorem sub_ty {K : PySem.W.Frag} {C : Addr} {T : String} {l : List Value} (h : fastBuiltinMro T = some l) (hl : l.contains (.ref C) = false) : PySem.W.subIn K (.type T) (.ref C) = some false := by
  show (fastBuiltinMro T).map (·.contains (.ref C)) = some false
  rw [h, Option.map_some, hl]
theorem sub_list {K : PySem.W.Frag} {C : Addr} : PySem.W.subIn K (.type "list") (.ref C) = some false := rfl
theorem kit_list {K : PySem.W.Frag} {C : Addr} (h1 : PySem.W.isClsIn K C = true) (h2 : PySem.W.typeIn K (.ref C) = some (.type "type")) : PySem.W.kitOne K (.type "list") (.ref C) = some false := by
  have e : ((PySem.W.clsIn K C).isSome && PySem.W.typeIn K (.ref C) == some (.type "type")) = true := by
    have h1' : (PySem.W.clsIn K C).isSome = true := h1
    rw [h1', h2] <;> rfl
  show (if (Value.type "list" == Value.ref C) = true then some true else if ((PySem.W.clsIn K C).isSome && PySem.W.typeIn K (.ref C) == some (.type "type")) = true then PySem.W.subIn K (.type "list") (.ref C) else none) = some false
  rw [if_neg (by intro z; cases z), if_pos e]
  exact sub_list
theorem notFirst_list {K : PySem.W.Frag} {C : Addr} : PySem.W.notFirst K C (.type "list") = true := by
  unfold PySem.W.notFirst
  rw [sub_list]
  rfl
end L2

namespace L2
open PySem PySem.Spec PyProof.Rows
/-! ### data without bools: what == tells is equality -/
mutual
def okD : PyData → Nat → Bool
  | .none, _ => true
  | .int _, _ => true
  | .str s, _ => PyData.strOk s
  | .list xs, n => decide (0 < n) && okDs xs (n - 1)
  | .tuple xs, n => decide (0 < n) && okDs xs (n - 1)
  | .bool _, _ => false
  | .dict _, _ => false
def okDs : List PyData → Nat → Bool
  | [], _ => true
  | x :: xs, n => okD x n && okDs xs n
end
mutual
theorem okD_lay : ∀ (d : PyData) (n : Nat), okD d n = true → d.canLay0 = true ∧ d.depth ≤ n
  | .none, _, _ => ⟨rfl, by simp [PyData.depth]⟩
  | .int _, _, _ => ⟨rfl, by simp [PyData.depth]⟩
  | .str s, _, h => ⟨by simpa [okD, PyData.canLay0] using h, by simp [PyData.depth]⟩
  | .list xs, n, h => by
    simp only [okD, Bool.and_eq_true, decide_eq_true_eq] at h
    obtain ⟨a, b⟩ := okDs_lay xs (n - 1) h.2
    refine ⟨by rw [PyData.canLay0]; exact a, ?_⟩
    simp only [PyData.depth]
    omega
  | .tuple xs, n, h => by
    simp only [okD, Bool.and_eq_true, decide_eq_true_eq] at h
    obtain ⟨a, b⟩ := okDs_lay xs (n - 1) h.2
    refine ⟨by rw [PyData.canLay0]; exact a, ?_⟩
    simp only [PyData.depth]
    omega
  | .bool _, _, h => by simp [okD] at h
  | .dict _, _, h => by simp [okD] at h
theorem okDs_lay : ∀ (ds : List PyData) (n : Nat), okDs ds n = true → PyData.canLayAll0 ds = true ∧ PyData.depthAll ds ≤ n
  | [], _, _ => ⟨rfl, Nat.zero_le _⟩
  | d :: ds, n, h => by
    simp only [okDs, Bool.and_eq_true] at h
    obtain ⟨a, b⟩ := okD_lay d n h.1
    obtain ⟨c, e⟩ := okDs_lay ds n h.2
    simp only [PyData.canLayAll0, PyData.depthAll]
    exact ⟨by rw [a, c]; rfl, Nat.max_le.mpr ⟨b, e⟩⟩
end
theorem okD_shaped {d : PyData} (h : okD d 60 = true) : SeqAt.shaped d = true := by
  obtain ⟨a, b⟩ := okD_lay d 60 h
  unfold SeqAt.shaped
  rw [a, Bool.true_and, decide_eq_true_eq]
  omega
mutual
theorem okD_eqv : ∀ (d e : PyData) (n m : Nat), okD d n = true → okD e m = true → (PyData.eqv d e = true ↔ d = e)
  | .none, e, _, _, _, h => by cases e <;> simp [PyData.eqv, okD] at h ⊢
  | .int i, e, _, _, _, h => by cases e <;> simp [PyData.eqv, okD] at h ⊢
  | .str s, e, _, _, _, h => by cases e <;> simp [PyData.eqv, okD] at h ⊢
  | .list xs, e, n, m, h1, h => by
    cases e with
    | list ys =>
      simp only [okD, Bool.and_eq_true, decide_eq_true_eq] at h1 h
      rw [PyData.eqv, okDs_eqv xs ys _ _ h1.2 h.2]
      simp
    | _ => simp [PyData.eqv, okD] at h ⊢
  | .tuple xs, e, n, m, h1, h => by
    cases e with
    | tuple ys =>
      simp only [okD, Bool.and_eq_true, decide_eq_true_eq] at h1 h
      rw [PyData.eqv, okDs_eqv xs ys _ _ h1.2 h.2]
      simp
    | _ => simp [PyData.eqv, okD] at h ⊢
  | .bool _, _, _, _, h1, _ => by simp [okD] at h1
  | .dict _, _, _, _, h1, _ => by simp [okD] at h1
theorem okDs_eqv : ∀ (ds es : List PyData) (n m : Nat), okDs ds n = true → okDs es m = true → (PyData.eqvAll ds es = true ↔ ds = es)
  | [], es, _, _, _, _ => by cases es <;> simp [PyData.eqvAll]
  | d :: ds, es, n, m, h1, h2 => by
    cases es with
    | nil => simp [PyData.eqvAll]
    | cons e es =>
      simp only [okDs, Bool.and_eq_true] at h1 h2
      rw [PyData.eqvAll, Bool.and_eq_true, okD_eqv d e n m h1.1 h2.1, okDs_eqv ds es n m h1.2 h2.2]
      simp
end
theorem okD_dec {d e : PyData} [Decidable (d = e)] (h1 : okD d 60 = true) (h2 : okD e 60 = true) : PyData.eqv d e = decide (d = e) := by
  rw [Bool.eq_iff_iff, okD_eqv d e 60 60 h1 h2, decide_eq_true_iff]
theorem okDs_map {α : Type} {f : α → PyData} {n : Nat} : ∀ {l : List α}, (∀ x ∈ l, okD (f x) n = true) → okDs (l.map f) n = true
  | [], _ => rfl
  | x :: l, h => by
    rw [List.map_cons, okDs, h x (List.mem_cons_self ..), okDs_map fun y hy => h y (List.mem_cons_of_mem _ hy)]
    rfl
open Classical in
noncomputable instance decD (d e : PyData) : Decidable (d = e) := Classical.propDecidable _
section
variable {K : PySem.W.Frag} {H H' : Hp} {Q : VK} {x y : V} {d e : PyData}
theorem rd_eqP {p : Prop} [Decidable p] (h1 : Dp K H x d) (h2 : Dp K H y e) (o1 : okD d 60 = true) (o2 : okD e 60 = true) (hp : d = e ↔ p) (q : Q (.bl (decide p)) H) : rEqD K x y H Q :=
  ⟨d, e, h1, h2, okD_shaped o1, okD_shaped o2, by rw [okD_dec o1 o2, decide_eq_decide.mpr hp]; exact q⟩
theorem rd_neP {p : Prop} [Decidable p] (h1 : Dp K H x d) (h2 : Dp K H y e) (o1 : okD d 60 = true) (o2 : okD e 60 = true) (hp : d = e ↔ p) (q : Q (.bl (!decide p)) H) : rNeD K x y H Q :=
  ⟨d, e, h1, h2, okD_shaped o1, okD_shaped o2, by rw [okD_dec o1 o2, decide_eq_decide.mpr hp]; exact q⟩
theorem Same.seqT {K : PySem.W.Frag} {H H' : Hp} {a : Addr} {xs : List V} (e : Same H H') (h : SqT K H a xs) : SqT K H' a xs := by
  rcases h with (h | ⟨o, h⟩) | h
  · exact .inl (.inl (e _ _ h))
  · exact .inl (.inr ⟨o, e _ _ h⟩)
  · exact .inr h
mutual
theorem Dp.same (s : Same H H') : ∀ {v : V} {d : PyData}, Dp K H v d → Dp K H' v d
  | _, _, .non => .non
  | _, _, .bl b => .bl b
  | _, _, .int i => .int i
  | _, _, .str x => .str x
  | _, _, .lst h a => .lst (s.seq h) (DpAll.same s a)
  | _, _, .tup h a => .tup (Same.seqT s h) (DpAll.same s a)
theorem DpAll.same (s : Same H H') : ∀ {vs : List V} {ds : List PyData}, DpAll K H vs ds → DpAll K H' vs ds
  | _, _, .nil => .nil
  | _, _, .cons h a => .cons (Dp.same s h) (DpAll.same s a)
end
theorem DpAll.len : ∀ {vs : List V} {ds : List PyData}, DpAll K H vs ds → vs.length = ds.length
  | _, _, .nil => rfl
  | _, _, .cons _ a => by rw [List.length_cons, List.length_cons, DpAll.len a]
theorem DpAll.at : ∀ {vs : List V} {ds : List PyData} {i : Nat} {v : V}, DpAll K H vs ds → vs[i]? = some v → ∃ d, ds[i]? = some d ∧ Dp K H v d
  | _, _, i, _, .nil, e => by cases e
  | _, _, 0, _, .cons (d := d) h _, e => ⟨d, rfl, by cases e; exact h⟩
  | _, _, i + 1, _, .cons _ a, e => DpAll.at (i := i) a e
theorem DpAll.snoc : ∀ {vs : List V} {ds : List PyData} {v : V} {d : PyData}, DpAll K H vs ds → Dp K H v d → DpAll K H (vs ++ [v]) (ds ++ [d])
  | _, _, _, _, .nil, h => .cons h .nil
  | _, _, _, _, .cons a r, h => .cons a (DpAll.snoc r h)
theorem Dp.int_inv {n : Int} (h : Dp K H x (.int n)) : x = .int n := by
  cases h
  rfl
theorem Dp.str_inv {n : Str} (h : Dp K H x (.str n)) : x = .str n := by
  cases h
  rfl
theorem Dp.tup_inv {ds : List PyData} (h : Dp K H x (.tuple ds)) : ∃ a xs, x = .ref a ∧ SqT K H a xs ∧ DpAll K H xs ds := by
  cases h with
  | tup a b => exact ⟨_, _, rfl, a, b⟩
theorem Dp.lst_inv {ds : List PyData} (h : Dp K H x (.list ds)) : ∃ a xs, x = .ref a ∧ SqL K H a xs ∧ DpAll K H xs ds := by
  cases h with
  | lst a b => exact ⟨_, _, rfl, a, b⟩
theorem DpAll.ints : ∀ {ns : List Int} {vs : List V}, DpAll K H vs (ns.map PyData.int) → vs = ns.map V.int
  | [], _, .nil => rfl
  | n :: ns, _, .cons h a => by rw [Dp.int_inv h, DpAll.ints a]; rfl
theorem DpAll.nil_inv {vs : List V} (h : DpAll K H vs []) : vs = [] := by
  cases h
  rfl
theorem DpAll.cons_inv {vs : List V} {ds : List PyData} (h : DpAll K H vs (d :: ds)) : ∃ v vs', vs = v :: vs' ∧ Dp K H v d ∧ DpAll K H vs' ds := by
  cases h with
  | cons a b => exact ⟨_, _, rfl, a, b⟩
end
/-! ### loops that leave the heap -/
section
variable {σ : St} {H : Hp} {K : PySem.W.Frag} {t : TS} {nx : St → Hp → Prop} {rt : VK}
theorem rd_forRs {lo : Int} {n : Nat} {g : TG} (Pv : Nat → St → Prop) (h0 : Pv 0 σ)
    (hs : ∀ i σ, i < n → Pv i σ → g (.int (lo + i)) σ H fun σ2 H2 => t ⟨fun σ' H' => H = H' ∧ Pv (i + 1) σ', rt, nx, fun σ' H' => H = H' ∧ Pv (i + 1) σ'⟩ σ2 H2) (hd : ∀ σ, Pv n σ → nx σ H) : fBody (Itr lo n) g t nx rt σ H :=
  rd_forR (fun i σ' H' => H = H' ∧ Pv i σ') ⟨rfl, h0⟩ (fun i σ' H' hi p => by obtain ⟨rfl, p⟩ := p; exact hs i σ' hi p) fun σ' H' p => by obtain ⟨rfl, p⟩ := p; exact hd σ' p
theorem rd_forLs {a : Addr} {xs : List V} {g : TG} (Pv : Nat → St → Prop) (hl : SqL K H a xs) (h0 : Pv 0 σ)
    (hs : ∀ i x σ, xs[i]? = some x → Pv i σ → g x σ H fun σ2 H2 => t ⟨fun σ' H' => H = H' ∧ Pv (i + 1) σ', rt, nx, fun σ' H' => H = H' ∧ Pv (i + 1) σ'⟩ σ2 H2) (hd : ∀ σ, Pv xs.length σ → nx σ H) : fBody (Itl K a) g t nx rt σ H :=
  rd_forL (fun i σ' H' => H = H' ∧ Pv i σ') ⟨rfl, h0⟩ (fun i σ' H' _ p => by obtain ⟨rfl, _⟩ := p; exact hl) (fun i x σ' H' hi p => by obtain ⟨rfl, p⟩ := p; exact hs i x σ' hi p) fun σ' H' p => by obtain ⟨rfl, p⟩ := p; exact hd σ' p
theorem rd_forTs {a : Addr} {xs : List V} {g : TG} (Pv : Nat → St → Prop) (hl : SqT K H a xs) (h0 : Pv 0 σ)
    (hs : ∀ i x σ, xs[i]? = some x → Pv i σ → g x σ H fun σ2 H2 => t ⟨fun σ' H' => H = H' ∧ Pv (i + 1) σ', rt, nx, fun σ' H' => H = H' ∧ Pv (i + 1) σ'⟩ σ2 H2) (hd : ∀ σ, Pv xs.length σ → nx σ H) : fBody (Itt K a) g t nx rt σ H :=
  rd_forT (fun i σ' H' => H = H' ∧ Pv i σ') ⟨rfl, h0⟩ (fun i σ' H' _ p => by obtain ⟨rfl, _⟩ := p; exact hl) (fun i x σ' H' hi p => by obtain ⟨rfl, p⟩ := p; exact hs i x σ' hi p) fun σ' H' p => by obtain ⟨rfl, p⟩ := p; exact hd σ' p
end
section
theorem rd_eqF {p A B : Prop} [Decidable p] (h : ¬ p) (q : B) : if decide p = true then A else B := by
  rw [decide_eq_false h]
  exact q
theorem rd_neT {p A B : Prop} [Decidable p] (h : ¬ p) (q : A) : if (!decide p) = true then A else B := by
  rw [decide_eq_false h]
  exact q
end
instance st_non {P : Prop} : Stp (V.non = V.non ∧ P) P := ⟨fun h => ⟨rfl, h⟩⟩
theorem non_int {k : Int} : ¬ V.int k = V.non := fun z => V.noConfusion z
theorem non_ref {k : Addr} : ¬ V.ref k = V.non := fun z => V.noConfusion z
theorem upd_at {H : Hp} {p q : Addr} {o u : HO} (h : H p = some o) (n : H p = some o → p ≠ q) : upd H q u p = some o := (upd_ne (n h)).trans h
end L2

namespace L2
open PySem PySem.Spec PyProof.Rows
/-! ### sizes of whole numbers, by bits -/
structure Bd (n : Nat) (x : Int) : Prop where
  h : x.natAbs < 2 ^ n
theorem Bd.mono {n m : Nat} {x : Int} (h : Bd n x) (hm : n ≤ m) : Bd m x := ⟨Nat.lt_of_lt_of_le h.h (Nat.pow_le_pow_right (by decide) hm)⟩
theorem Bd.mul {n m : Nat} {x y : Int} (h : Bd n x) (k : Bd m y) : Bd (n + m) (x * y) := ⟨wide_lt h.h k.h⟩
theorem Bd.neg {n : Nat} {x : Int} (h : Bd n x) : Bd n (-x) := ⟨by
  rw [Int.natAbs_neg]
  exact h.h⟩
theorem Bd.add {n m : Nat} {x y : Int} (h : Bd n x) (k : Bd m y) : Bd (max n m + 1) (x + y) := ⟨by
  have a := (Bd.mono h (Nat.le_max_left n m)).h
  have b := (Bd.mono k (Nat.le_max_right n m)).h
  have := Int.natAbs_add_le x y
  rw [Nat.pow_succ]
  omega⟩
theorem Bd.sub {n m : Nat} {x y : Int} (h : Bd n x) (k : Bd m y) : Bd (max n m + 1) (x - y) := by
  rw [Int.sub_eq_add_neg]
  exact Bd.add h k.neg
theorem Bd.lt {n : Nat} {x : Int} (h : Bd n x) : -(2 ^ n) < x ∧ x < 2 ^ n := by
  have e : ((2 ^ n : Nat) : Int) = 2 ^ n := by rw [Int.natCast_pow]; rfl
  have := h.h
  omega
theorem Bd.of {n : Nat} {x : Int} (h : -(2 ^ n) < x) (k : x < 2 ^ n) : Bd n x := ⟨by
  have e : ((2 ^ n : Nat) : Int) = 2 ^ n := by rw [Int.natCast_pow]; rfl
  omega⟩
theorem Bd.le {n : Nat} {x y : Int} (h : Bd n y) (h1 : x.natAbs ≤ y.natAbs) : Bd n x := ⟨Nat.lt_of_le_of_lt h1 h.h⟩
theorem Bd.div {n : Nat} {x y : Int} (h : Bd n x) (hy : 0 < y) : Bd (n + 1) (x / y) := by
  have l := h.lt
  have p0 : (0 : Int) < 2 ^ n := Int.pow_pos (by decide)
  have e := Int.mul_ediv_add_emod x y
  have r0 := Int.emod_nonneg x (show y ≠ 0 by omega)
  have r1 := Int.emod_lt_of_pos x hy
  refine Bd.of ?_ ?_
  · rw [Int.pow_succ]
    have : -(2 ^ n) ≤ x / y := by
      refine Int.le_ediv_of_mul_le hy ?_
      have : (2 : Int) ^ n * 1 ≤ 2 ^ n * y := Int.mul_le_mul_of_nonneg_left (by omega) (by omega)
      rw [Int.neg_mul]
      omega
    omega
  · rw [Int.pow_succ]
    by_cases hx : 0 ≤ x
    · have := Int.ediv_le_self y hx
      omega
    · have := Int.ediv_neg_of_neg_of_pos (show x < 0 by omega) hy
      omega
theorem Bd.lit {x : Int} {n : Nat} (h : x.natAbs < 2 ^ 64) (hn : 64 ≤ n) : Bd n x := Bd.mono ⟨h⟩ hn
theorem Bd.mulN {n : Nat} {x y : Int} (h : Bd (n / 2) x) (k : Bd (n / 2) y) : Bd n (x * y) := (h.mul k).mono (by omega)
theorem Bd.addN {n : Nat} {x y : Int} (h : Bd (n - 1) x) (k : Bd (n - 1) y) (hn : 0 < n) : Bd n (x + y) := (h.add k).mono (by omega)
theorem Bd.subN {n : Nat} {x y : Int} (h : Bd (n - 1) x) (k : Bd (n - 1) y) (hn : 0 < n) : Bd n (x - y) := (h.sub k).mono (by omega)
theorem CMulB.bd {x y : Int} (h : Bd 9000 x) (k : Bd 9000 y) : CMulB x y := .inr (wide_mul h.h k.h (by decide) (by decide) (by decide))
end L2
namespace L2
open PySem PySem.Spec PyProof.Rows
/-! ### texts of whole numbers, str(o) of an own __str__ -/
def txI (i : Int) : Str := Str.ofString (toString i)
theorem txI_len {i : Int} {n : Nat} (h : Bd n i) (hn : n ≤ 1000) : (txI i).length ≤ 1001 ∧ i.natAbs.log2 < 1000 := by
  have l : i.natAbs.log2 < 1000 := PySem.Flt.log2_lt_of (by decide) (h.mono hn).h
  have e := int_text_length_le (k := 1000) (by decide) l
  unfold txI
  rw [PySem.ofString_length]
  exact ⟨e, l⟩
def rStrO (C : Addr) (sp : Sp) (E : XK) : List V → Hp → VK → Prop := fun xs H Q => ∃ a dx fs, xs = [.ref a] ∧ H a = some (.ins C dx fs) ∧ sp [.ref a] H (fun v H' => ∃ z, v = .str z ∧ Q (.str z) H') E
def rStrI : List V → Hp → VK → Prop := fun xs H Q => ∃ i, xs = [.int i] ∧ i.natAbs.log2 < 1920 ∧ Q (.str (txI i)) H
section
variable {X : Cx}
theorem call_strI : CallR X (.type "str") rStrI := call_str_int
theorem call_strO {k : Nat} {C : Addr} {ps : List Str} {sp : Sp} {E : XK} (D : MDef X.prog X.w X.K X.mg X.base k C "__str__" ps sp) (hr : Room (k + 2) X.A) (hx : Passes (L2.CX X.prog X.w) X E) : CallR X (.type "str") (rStrO C sp E) := by
  intro pins s σ H xs us Q I r h
  obtain ⟨f, fd, F, g, b⟩ := D.ex
  obtain ⟨a, dx, fs, rfl, ha, hsp⟩ := h
  obtain ⟨u, rfl, hu⟩ := vals1 r
  cases (show u = Value.ref a from hu)
  obtain ⟨mA, J, _⟩ := ins_get I.hok ha
  obtain ⟨od, J, _⟩ := J.look
  refine PySem.W.kso_call hr.in1.in1.units0 I.kIn J g.at_ g.fn ?_
  have e0 : Env0 X.prog X.w X.K X.mg X.base X.A.in1.in1 X.stack s H := by
    have e := I.env0
    exact ⟨e.frames, e.mod, e.bs, e.bsz, e.funs, e.frf, e.hok, e.bare⟩
  have hl := F.len _ _ _ _ hsp
  have r2 : Vals [V.ref a] [Value.ref a] := .cons rfl .nil
  refine wpAny_call (codeAny_mono (F.run X.A.in1.in1 X.stack s H ⟨[.ref a], []⟩ [.ref a] [.ref a] _ E hr.in1.in1 e0 (by
    have := b s [.ref a] I.kIn (by simpa using hl)
    simpa using this) r2 hsp) fun r s' hq => ?_)
  cases r with
  | error e => exact hx pins σ H s e s' I hq
  | ok fl =>
    cases fl with
    | ret w =>
      obtain ⟨z, H', I', rz, y, ez, q⟩ := I.after hq
      subst ez
      obtain ⟨t, rfl⟩ := rz
      exact ⟨.str y, H', I', ⟨t, rfl⟩, q⟩
    | next => exact False.elim hq
    | brk => exact False.elim hq
    | cont => exact False.elim hq
end
section
variable {σ : St} {H : Hp} {Q : VK} {te : TE} {ts : List TE} {acc : Str} {R : Str → Hp → Prop}
def rFmt (Q : VK) : V → Hp → Prop := fun x H1 => (∃ y : Str, x = .str y ∧ y.length ≤ sizeLine ∧ Q (.str y) H1) ∨ ∃ i : Int, x = .int i ∧ i.natAbs.log2 < 1920 ∧ Q (.str (toString i)) H1
instance st_fmt : Stp (tFmt te σ H Q) (te σ H (rFmt Q)) := ⟨fun h => h⟩
theorem rd_fmtI {i : Int} (h : i.natAbs.log2 < 1920) (q : Q (.str (txI i)) H) : rFmt Q (.int i) H := .inr ⟨i, rfl, h, q⟩
instance st_jsN : Stp (tJs [] acc σ H R) (R acc H) := ⟨fun h => h⟩
def rJs (ts : List TE) (acc : Str) (σ : St) (R : Str → Hp → Prop) : V → Hp → Prop := fun x H1 => ∃ y : Str, x = .str y ∧ (acc ++ y).length ≤ sizeLine ∧ tJs ts (acc ++ y) σ H1 R
instance st_jsC : Stp (tJs (te :: ts) acc σ H R) (te σ H (rJs ts acc σ R)) := ⟨fun h => h⟩
theorem rd_js {y : Str} (h : (acc ++ y).length ≤ sizeLine) (q : tJs ts (acc ++ y) σ H R) : rJs ts acc σ R (.str y) H := ⟨y, rfl, h, q⟩
theorem rd_strI {i : Int} (h : i.natAbs.log2 < 1920) (q : Q (.str (txI i)) H) : rStrI [.int i] H Q := ⟨i, rfl, h, q⟩
end
end L2

namespace L2
open PySem PySem.Spec PyProof.Rows
/-! ### walks of other kinds -/
section
variable {σ : St} {H : Hp} {K : PySem.W.Frag} {t : TS} {nx : St → Hp → Prop} {rt : VK} {Q : VK} {tr : TA} {te : TE} {tt : TT} {S : It → Hp → Prop} {J : It} {n : Nat} {G : Hp → Prop} {Y : Nat → Hp → V → Hp → Prop}
theorem rd_forW (w : Walk J n G Y) {g : TG} (Pv : Nat → St → Hp → Prop) (h0 : Pv 0 σ H) (hG : ∀ i σ H, i ≤ n → Pv i σ H → G H)
    (hs : ∀ i x σ H H', i < n → Pv i σ H → Y i H x H' → g x σ H' fun σ2 H2 => t ⟨Pv (i + 1), rt, nx, Pv (i + 1)⟩ σ2 H2) (hd : ∀ σ H, Pv n σ H → nx σ H) : fBody J g t nx rt σ H :=
  for_it (D := ⟨nx, rt, fun _ _ => False, fun _ _ => False⟩) w Pv h0 hG hs hd
def rIRev (K : PySem.W.Frag) (S : It → Hp → Prop) (vs : List V) (H : Hp) : Prop := ∃ (a : Addr) (xs : List V), vs = [.ref a] ∧ SqL K H a xs ∧ S (Itv K a xs.length) H
instance st_iRev : Stp (iRev K tr σ H S) (tr σ H (rIRev K S)) := ⟨fun h => h⟩
theorem rd_iRev1 {a : Addr} {xs : List V} (h : SqL K H a xs) (q : S (Itv K a xs.length) H) : rIRev K S [.ref a] H := ⟨a, xs, rfl, h, q⟩
theorem rd_forV {a : Addr} {xs : List V} {g : TG} (Pv : Nat → St → Hp → Prop) (h0 : Pv 0 σ H) (hl : ∀ i σ H, i ≤ xs.length → Pv i σ H → SqL K H a xs)
    (hs : ∀ i x σ H, xs.reverse[i]? = some x → Pv i σ H → g x σ H fun σ2 H2 => t ⟨Pv (i + 1), rt, nx, Pv (i + 1)⟩ σ2 H2) (hd : ∀ σ H, Pv xs.length σ H → nx σ H) : fBody (Itv K a xs.length) g t nx rt σ H :=
  rd_forW (walk_rev (K := K) (a := a) (xs := xs)) Pv h0 hl (fun i x σ H H' hi p y => by
    obtain ⟨rfl, y⟩ := y
    refine hs i x σ _ ?_ p
    rw [List.getElem?_reverse hi]
    exact y) hd
theorem rd_forVs {a : Addr} {xs : List V} {g : TG} (Pv : Nat → St → Prop) (hl : SqL K H a xs) (h0 : Pv 0 σ)
    (hs : ∀ i x σ, xs.reverse[i]? = some x → Pv i σ → g x σ H fun σ2 H2 => t ⟨fun σ' H' => H = H' ∧ Pv (i + 1) σ', rt, nx, fun σ' H' => H = H' ∧ Pv (i + 1) σ'⟩ σ2 H2) (hd : ∀ σ, Pv xs.length σ → nx σ H) : fBody (Itv K a xs.length) g t nx rt σ H :=
  rd_forV (fun i σ' H' => H = H' ∧ Pv i σ') ⟨rfl, h0⟩ (fun i σ' H' _ p => by obtain ⟨rfl, _⟩ := p; exact hl) (fun i x σ' H' hi p => by obtain ⟨rfl, p⟩ := p; exact hs i x σ' hi p) fun σ' H' p => by obtain ⟨rfl, p⟩ := p; exact hd σ' p
/-- a comprehension over a list; each turn only makes new things -/
theorem rd_lcP {a : Addr} {xs : List V} {g : TG} {vs : List Nat} (P : Nat → List V → Prop) (hS : SqL K H a xs) (nt : NoT H) (h0 : P 0 [])
    (hs : ∀ D i ys x H', xs[i]? = some x → Same H H' → NoT H' → H D = none → H' D = some (.lst ys) → P i ys → g x (wipe σ vs) H' fun σ2 H2 => wipe σ2 vs = wipe σ vs ∧ tt σ2 H2 fun b H3 =>
      if b = true then te σ2 H3 (fun y H4 => ∃ acc, H4 D = some (.lst acc) ∧ acc.length < sizeLine ∧ ∃ ys, upd H4 D (.lst (acc ++ [y])) D = some (.lst ys) ∧ Same H (upd H4 D (.lst (acc ++ [y]))) ∧ NoT (upd H4 D (.lst (acc ++ [y]))) ∧ P (i + 1) ys)
      else ∃ ys, H3 D = some (.lst ys) ∧ Same H H3 ∧ NoT H3 ∧ P (i + 1) ys)
    (q : ∀ D ys H', H D = none → H' D = some (.lst ys) → Same H H' → NoT H' → P xs.length ys → Q (.ref D) H') : lcB (Itl K a) g tt te vs σ Q H := by
  intro D hD
  refine lc_it (walk_list (K := K) (a := a) (xs := xs)) (fun i H' => ∃ ys, H' D = some (.lst ys) ∧ Same H H' ∧ NoT H' ∧ P i ys) ⟨[], upd_same, same_new hD, NoT.upd nt rfl, h0⟩ (fun i H' _ ⟨ys, _, s, _⟩ => s.seq hS) ?_ (fun H' ⟨ys, h1, s, n, p⟩ => q D ys H' hD h1 s n p)
  rintro i x H' H'' hi ⟨ys, h1, s, n, p⟩ ⟨rfl, hx⟩
  exact hs D i ys x _ hx s n hD h1 p
theorem put_P {P : List V → Prop} {D : Addr} {H H4 : Hp} {acc : List V} {y : V} (h : H4 D = some (.lst acc)) (hl : acc.length < sizeLine) (sm : Same H H4) (hD : H D = none) (n : NoT H4) (p : P (acc ++ [y])) :
    ∃ acc, H4 D = some (.lst acc) ∧ acc.length < sizeLine ∧ ∃ ys, upd H4 D (.lst (acc ++ [y])) D = some (.lst ys) ∧ Same H (upd H4 D (.lst (acc ++ [y]))) ∧ NoT (upd H4 D (.lst (acc ++ [y]))) ∧ P ys :=
  ⟨acc, h, hl, _, upd_same, same_upd2 sm hD, NoT.upd n rfl, p⟩
/-- the same over a range -/
theorem rd_lcRP {lo : Int} {m : Nat} {g : TG} {vs : List Nat} (P : Nat → List V → Prop) (nt : NoT H) (h0 : P 0 [])
    (hs : ∀ D i ys H', i < m → Same H H' → NoT H' → H D = none → H' D = some (.lst ys) → P i ys → g (.int (lo + i)) (wipe σ vs) H' fun σ2 H2 => wipe σ2 vs = wipe σ vs ∧ tt σ2 H2 fun b H3 =>
      if b = true then te σ2 H3 (fun y H4 => ∃ acc, H4 D = some (.lst acc) ∧ acc.length < sizeLine ∧ ∃ ys, upd H4 D (.lst (acc ++ [y])) D = some (.lst ys) ∧ Same H (upd H4 D (.lst (acc ++ [y]))) ∧ NoT (upd H4 D (.lst (acc ++ [y]))) ∧ P (i + 1) ys)
      else ∃ ys, H3 D = some (.lst ys) ∧ Same H H3 ∧ NoT H3 ∧ P (i + 1) ys)
    (q : ∀ D ys H', H D = none → H' D = some (.lst ys) → Same H H' → NoT H' → P m ys → Q (.ref D) H') : lcB (Itr lo m) g tt te vs σ Q H := by
  intro D hD
  refine lc_it (walk_range (lo := lo) (n := m)) (fun i H' => ∃ ys, H' D = some (.lst ys) ∧ Same H H' ∧ NoT H' ∧ P i ys) ⟨[], upd_same, same_new hD, NoT.upd nt rfl, h0⟩ (fun i H' _ _ => trivial) ?_ (fun H' ⟨ys, h1, s, n, p⟩ => q D ys H' hD h1 s n p)
  rintro i x H' H'' hi ⟨ys, h1, s, n, p⟩ ⟨rfl, hx⟩
  subst hx
  exact hs D i ys _ hi s n hD h1 p
end
def rAddS : R2 := fun x y H Q => ∃ i j, x = .str i ∧ y = .str j ∧ i.length + j.length ≤ sizeLine ∧ Q (.str (i ++ j)) H
theorem op_addS {X : Cx} : OpR X (binaryOp .Add) rAddS := op_add_str
theorem rd_addS {H : Hp} {Q : VK} {i j : Str} (h : i.length + j.length ≤ sizeLine) (q : Q (.str (i ++ j)) H) : rAddS (.str i) (.str j) H Q := ⟨i, j, rfl, rfl, h, q⟩
def rRevV (K : PySem.W.Frag) (Q : VK) : V → Hp → Prop := fun x H1 => ∃ a xs, x = .ref a ∧ SqL K H1 a xs ∧ ∀ p, H1 p = none → Q (.ref p) (upd H1 p (.lst xs.reverse))
instance st_revL {K : PySem.W.Frag} {te : TE} {σ : St} {H : Hp} {Q : VK} : Stp (tRevL K te σ H Q) (te σ H (rRevV K Q)) := ⟨fun h => h⟩
theorem rd_revV {K : PySem.W.Frag} {H : Hp} {Q : VK} {a : Addr} {xs : List V} (h : SqL K H a xs) (q : ∀ p, H p = none → Q (.ref p) (upd H p (.lst xs.reverse))) : rRevV K Q (.ref a) H := ⟨a, xs, rfl, h, q⟩
theorem room2 {xs zs : List V} {n m : Nat} (h1 : xs.length ≤ n) (h2 : zs.length ≤ m) (h : n + m ≤ 1000000) : xs.length + zs.length ≤ sizeLine := Nat.le_trans (Nat.add_le_add h1 h2) (Nat.le_trans h (by decide))
theorem len_one {v : V} : [v].length ≤ 1 := Nat.le_refl 1
theorem len_app {xs ys : List V} {n m : Nat} (h1 : xs.length ≤ n) (h2 : ys.length ≤ m) : (xs ++ ys).length ≤ n + m := by
  rw [List.length_append]
  exact Nat.add_le_add h1 h2
theorem len_rev {xs : List V} {n : Nat} (h : xs.length ≤ n) : xs.reverse.length ≤ n := by
  rw [List.length_reverse]
  exact h
theorem same_upd3 {H H' : Hp} {p : Addr} {o : HO} (h : Same H H') (hp : H' p = none) : Same H (upd H' p o) := same_upd2 h (h.free hp)
section
variable {H : Hp} {Q : VK} {i : Int}
theorem rd_eqNN (q : Q (.bl true) H) : rEq .non .non H Q := ⟨rfl, by simpa using q⟩
instance st_eqNN : Stp (rEq .non .non H Q) (Q (.bl true) H) := ⟨fun h => rd_eqNN h⟩
theorem rd_neNN (q : Q (.bl false) H) : rNe .non .non H Q := ⟨rfl, by simpa using q⟩
instance st_neNN : Stp (rNe .non .non H Q) (Q (.bl false) H) := ⟨fun h => rd_neNN h⟩
theorem rd_eqNI (q : Q (.bl false) H) : rEq .non (.int i) H Q := ⟨rfl, by simpa using q⟩
instance st_eqNI : Stp (rEq .non (.int i) H Q) (Q (.bl false) H) := ⟨fun h => rd_eqNI h⟩
theorem rd_neNI (q : Q (.bl true) H) : rNe .non (.int i) H Q := ⟨rfl, by simpa using q⟩
instance st_neNI : Stp (rNe .non (.int i) H Q) (Q (.bl true) H) := ⟨fun h => rd_neNI h⟩
theorem rd_eqIN (q : Q (.bl false) H) : rEq (.int i) .non H Q := ⟨rfl, by simpa using q⟩
instance st_eqIN : Stp (rEq (.int i) .non H Q) (Q (.bl false) H) := ⟨fun h => rd_eqIN h⟩
theorem rd_neIN (q : Q (.bl true) H) : rNe (.int i) .non H Q := ⟨rfl, by simpa using q⟩
instance st_neIN : Stp (rNe (.int i) .non H Q) (Q (.bl true) H) := ⟨fun h => rd_neIN h⟩
end
end L2

namespace L2
open PySem PySem.Spec PyProof.Rows
/-! ### sets of ints -/
section
variable {P : Program} {w : World} {K : PySem.W.Frag} {mg : Str → Option Value} {base : Heap}
/-- a def whose text asks of its code object -/
theorem DefAt.okC {x : Str} {st : Stmt} {N ps : List Str} {k : Nat} {sp : Sp} (D : DefAt K mg x st ps) (S : FnScope N ps (defScope st)) (len : ∀ vs H Q E, sp vs H Q E → vs.length = ps.length)
    (body : ∀ (f : Addr) (cdv : Value) (hcd : PySem.W.kdsCode K cdv = true) (A : Around) (outer : List Env) (s : Shared) (H : Hp) (vs : List V) (Q : VK) (E : XK), Room k (A.deeper (envOfC x (defScope st) s.heap.objs.size f cdv)) → sp vs H Q E →
      ∃ t, PSs (cxOf (L2.CX P w) P w K mg base N x (defScope st) f cdv A outer s H E) (defBody st) t ∧ t ⟨fun _ H' => Q .non H', Q, fun _ _ => False, fun _ _ => False⟩ (start N vs) H) : Def P w K mg base (k + 1) x ps sp := by
  obtain ⟨f, fd, F, g, b⟩ := D.ex
  have kp := F.kp
  obtain ⟨c0, d0, v1, v2, v3, v4, cdv, v5, sl, rfl, lk, hcd⟩ := F.ex
  exact ⟨f, _, fn_of lk hcd S len fun A outer s H vs Q E r h => body f cdv (kdsCode_of hcd) A outer s H vs Q E r h, g, kp, b⟩
end
section
variable {X : Cx}
def setNo : Int → Bool := fun _ => false
/-- two ints in braces -/
def tSet2 (w : World) (t1 t2 : TE) : TE := fun σ H Q => ∀ D, H D = none → t1 σ (upd H D (SetO w D setNo 0)) fun x H1 => t2 σ H1 fun y H2 => ∃ i j : Int, x = .int i ∧ y = .int j ∧ H2 D = some (SetO w D setNo 0) ∧
  Q (.ref D) (upd H2 D (SetO w D (fun k => decide (k = i ∨ k = j)) (if i = j then 1 else 2)))
theorem setAdd_int {pins : List (Addr × Obj)} {σ : St} {H : Hp} {s : Shared} {D : Addr} {S : Int → Bool} {n : Nat} {k : Int} {u : Value} {A : Around} {E : Value → Shared → Prop} {Q : Bool → Shared → Prop} (I : Inv X pins σ H s) (hD : H D = some (SetO X.w D S n)) (hn : n + 1 < scanBound) (hu : RelV (.int k) u)
    (q : ∀ s', Inv X pins σ (upd H D (SetO X.w D (fun j => S j || decide (j = k)) (if S k = true then n else n + 1))) s' → ∀ b, Q b s') : wpAny (model X.prog X.w) A (setAdd D u) Q E s := by
  obtain ⟨tk, rfl⟩ := hu
  have R := setO_get I hD
  unfold setAdd
  refine wpAny_holding (wpAny_bind ((intKind X.prog X.w).pyHash (intKind_is X.prog X.w k tk) ?_))
  refine setR_add_hashed (s := { s with toks := s.toks + 1 }) R hn fun h' sb new => q _ ?_ _
  have there : ∃ o, h'.get? D = some o := by
    obtain ⟨o, _, _, _, ho, _⟩ := new
    exact ⟨o, ho⟩
  exact I.write (e := D) (t' := s.toks + 1) (by rw [hD]; trivial) (.inl rfl) (fun b o ne ho => (sb.2 b ne).trans ho) there (setO_new new)
theorem pe_set2 {e1 e2 : Expr} {t1 t2 : TE} {pos : Pos} (h1 : PE X e1 t1) (h2 : PE X e2 t2) (hcd : PySem.W.kdsCode X.K X.env.code = true)
    (hs : starEach [e1, e2] X.env = [(false, eval e1 X.env), (false, eval e2 X.env)] := by rfl) : PE X (.Set [e1, e2] 0 pos) (tSet2 X.w t1 t2) := by
  refine ⟨fun pins s σ H Q I h => ?_⟩
  rw [arm_eval_Set, hs]
  refine wpAny_bind (wpAny_standAt (wpAny_bind (PySem.W.kds_main I.kIn hcd fun b => ?_)))
  show wpAny _ _ (setDisplay .oneByOne b [(false, eval e1 X.env >>= fun v => standAt pos >>= fun _ => pure v), (false, eval e2 X.env >>= fun v => standAt pos >>= fun _ => pure v)]) _ _ _
  unfold setDisplay
  rw [if_neg (by decide)]
  refine wpAny_bind (PpSet.newSet_ok ?_)
  have I1 : Inv X pins σ (upd H s.heap.objs.size (SetO X.w s.heap.objs.size setNo 0)) _ := I.laid (t' := s.toks) (fun b o z => Heap.get?_push_of_some _ z) (Nat.le_refl _) (setO_new (setR_fresh X.w))
  replace h := h s.heap.objs.size (I.hok.fresh (Nat.le_refl _))
  generalize s.heap.objs.size = D at *
  refine wpAny_bind (wpAny_holding (wpAny_bind ?_))
  show wpAny _ _ (evalAll [eval e1 X.env >>= fun v => standAt pos >>= fun _ => pure v, eval e2 X.env >>= fun v => standAt pos >>= fun _ => pure v]) _ _ _
  refine wpAny_bind (wpAny_bind (thn (h1.run pins _ σ _ _ I1 h) fun u1 s1 ⟨x, H1, I2, r1, g⟩ => wpAny_bind (wpAny_standAt (wpAny_pure ?_))))
  refine wpAny_bind (wpAny_holding (wpAny_bind (wpAny_bind (thn (h2.run pins _ σ _ _ I2 g) fun u2 s2 ⟨y, H2, I3, r2, i, j, ex, ey, hD, q⟩ => wpAny_bind (wpAny_standAt (wpAny_pure ?_))))))
  subst ex ey
  refine wpAny_bind (wpAny_holding (wpAny_pure (wpAny_pure (wpAny_pure ?_))))
  refine wpAny_bind (wpAny_holding (wpAny_bind ?_))
  rw [List.forIn_cons]
  refine wpAny_bind (wpAny_bind (setAdd_int I3 hD (by decide) r1 fun s3 I4 _ => wpAny_pure ?_))
  dsimp only
  rw [List.forIn_cons]
  refine wpAny_bind (wpAny_bind (setAdd_int I4 upd_same (by show 0 + 1 + 1 < scanBound; decide) r2 fun s4 I5 _ => wpAny_pure ?_))
  dsimp only
  rw [List.forIn_nil, if_neg (by decide)]
  refine wpAny_pure (wpAny_pure (wpAny_pure ?_))
  rw [upd_upd] at I5
  have e1 : (fun l => setNo l || decide (l = i) || decide (l = j)) = fun k : Int => decide (k = i ∨ k = j) := by
    funext l
    simp [setNo]
  have e2 : (if (setNo j || decide (j = i)) = true then if setNo i = true then 0 else 0 + 1 else (if setNo i = true then 0 else 0 + 1) + 1) = if i = j then 1 else 2 := by
    by_cases z : i = j
    · simp [setNo, z]
    · have z2 : ¬ j = i := fun y => z y.symm
      simp [setNo, z, z2]
  rw [e1, e2] at I5
  exact wpAny_pure ⟨.ref D, _, I5, rfl, q⟩
instance st_set2 {w : World} {t1 t2 : TE} {σ : St} {H : Hp} {Q : VK} : Stp (tSet2 w t1 t2 σ H Q) (∀ D, H D = none → t1 σ (upd H D (SetO w D setNo 0)) fun x H1 => t2 σ H1 fun y H2 => ∃ i j : Int, x = .int i ∧ y = .int j ∧ H2 D = some (SetO w D setNo 0) ∧
  Q (.ref D) (upd H2 D (SetO w D (fun k => decide (k = i ∨ k = j)) (if i = j then 1 else 2)))) := ⟨fun h => h⟩
instance st_par3 {i j l : Nat} {ta : TA} {σ : St} {H : Hp} {nx : St → Hp → Prop} {rt : VK} {bk ct : St → Hp → Prop} : Stp (tPar3 i j l ta ⟨nx, rt, bk, ct⟩ σ H) (ta σ H fun vs H1 => ∃ u v w, vs = [u, v, w] ∧ nx (((σ.set i (some u)).set j (some v)).set l (some w)) H1) := ⟨fun h => h⟩
instance st_par3e {u v w : V} {nx : V → V → V → Prop} : Stp (∃ u' v' w', [u, v, w] = [u', v', w'] ∧ nx u' v' w') (nx u v w) := ⟨fun h => ⟨u, v, w, rfl, h⟩⟩
/-- sorted of two ints in braces -/
theorem rd_sortSet2 {w : World} {D : Addr} {i j : Int} {n : Nat} {H : Hp} {Q : VK} (hD : H D = some (SetO w D (fun k => decide (k = i ∨ k = j)) n)) (hn : n < 64)
    (q : ∀ p, H p = none → Q (.ref p) (upd H p (.lst ((if i < j then [i, j] else if j < i then [j, i] else [i]).map V.int)))) : rSortedSet w [.ref D] H Q := by
  refine ⟨D, _, n, rfl, hD, hn, fun ns p h1 h2 _ hp => ?_⟩
  have e : ns = if i < j then [i, j] else if j < i then [j, i] else [i] := by
    have mem : ∀ k, k ∈ ns ↔ k = i ∨ k = j := fun k => by rw [h2 k]; simp
    match ns, h1, mem with
    | [], _, mem => exact absurd ((mem i).mpr (.inl rfl)) List.not_mem_nil
    | [a], _, mem =>
      have a1 := List.mem_singleton.mp ((mem i).mpr (.inl rfl))
      have a2 := List.mem_singleton.mp ((mem j).mpr (.inr rfl))
      subst a1
      subst a2
      rw [if_neg (by omega), if_neg (by omega)]
    | a :: b :: l, h1, mem =>
      obtain ⟨p1, p2⟩ := List.pairwise_cons.mp h1
      have hab := p1 b List.mem_cons_self
      have ha := (mem a).mp List.mem_cons_self
      have hb := (mem b).mp (List.mem_cons_of_mem _ List.mem_cons_self)
      have hl : l = [] := by
        cases l with
        | nil => rfl
        | cons c l =>
          have hc := (mem c).mp (List.mem_cons_of_mem _ (List.mem_cons_of_mem _ List.mem_cons_self))
          have h3 := p1 c (List.mem_cons_of_mem _ List.mem_cons_self)
          have h4 := (List.pairwise_cons.mp p2).1 c List.mem_cons_self
          omega
      subst hl
      rcases ha with rfl | rfl
      · rcases hb with rfl | rfl
        · omega
        · rw [if_pos hab]
      · rcases hb with rfl | rfl
        · rw [if_neg (by omega), if_pos hab]
        · omega
  rw [e]
  exact q p hp
end
end L2

namespace L2
open PySem PySem.Spec PyProof.Rows
theorem setPut_int {X : Cx} {pins : List (Addr × Obj)} {σ : St} {H : Hp} {s : Shared} {E : Value → Shared → Prop} {D : Addr} {S : Int → Bool} {n : Nat} {k : Int} {u : Value} {Q : Value → Shared → Prop} (I : Inv X pins σ H s) (at_ : H D = some (SetO X.w D S n)) (roomy : n + 1 < scanBound) (hu : RelV (.int k) u)
    (q : ∀ s', Inv X pins σ (upd H D (SetO X.w D (fun j => S j || decide (j = k)) (if S k = true then n else n + 1))) s' → Q .none s') : wpAny (model X.prog X.w) X.A (call (.builtin "set.add") [.ref D, u]) Q E s := by
  obtain ⟨tk, rfl⟩ := hu
  refine setR_add (setO_get I at_) roomy fun h' sb new => q _ ?_
  have there : ∃ o, h'.get? D = some o := by
    obtain ⟨o, _, _, _, ho, _⟩ := new
    exact ⟨o, ho⟩
  exact I.write (e := D) (t' := s.toks + 1) (by rw [at_]; trivial) (.inl rfl) (fun b o ne ho => (sb.2 b ne).trans ho) there (setO_new new)
section
variable {X : Cx}
/-- a set of whol, made by a comprehension: D the new set, Z what each turn keeps -/
def tScI (w : World) (wi : TI) (g : TG) (tt : TT) (te : TE) (vs : List Nat) : TE := fun σ H Q => wi σ H fun J H1 => ∀ D, H1 D = none → ∃ Z : Nat → Nat → Hp → Prop, (∃ m, Z 0 m (upd H1 D (SetO w D setNo 0))) ∧ ∀ i m G, Z i m G →
  (J.stop i G ∧ Q (.ref D) G) ∨ (J.go i G ∧ ∃ Y : Hp → Prop, (∀ G', Y G' → ∃ l, l < m ∧ Z (i + 1) l G') ∧ ∀ x G', J.yld i G x G' → g x (wipe σ vs) G' fun σ2 G2 => wipe σ2 vs = wipe σ vs ∧ tt σ2 G2 fun b G3 =>
    if b = true then te σ2 G3 fun y G4 => ∃ (c : Int) (S : Int → Bool) (n : Nat), y = .int c ∧ G4 D = some (SetO w D S n) ∧ n + 1 < scanBound ∧ Y (upd G4 D (SetO w D (fun j => S j || decide (j = c)) (if S c = true then n else n + 1))) else Y G3)
theorem scI_gen {pins : List (Addr × Obj)} {s : Shared} {σ : St} {H : Hp} {Q : VK} {use : Option (Value → Sem Unit)} {Qf : Value → Shared → Prop} {pos2 : Pos} {elt tg iter : Expr} {ifs : List Expr} {scope : Scope} {own : List (PySem.Str × Nat)} {pos : Pos} {wi : TI} {g : TG} {tt : TT} {te : TE} (calm : X.calm = true) (nd : X.N.Nodup) (it0 : PI X tg iter wi) (ok : BlkOk X.N X.env.scope scope own)
    (pg0 : ∀ (s0 : Shared) (G : Hp) (C : Addr) (cl : List (PySem.Str × Addr)) (fp : List Addr), PG (X.blk s0 G scope (compEnvC scope cl C X.env) fp) tg g)
    (pt0 : ∀ (s0 : Shared) (G : Hp) (C : Addr) (cl : List (PySem.Str × Addr)) (fp : List Addr), PTs (X.blk s0 G scope (compEnvC scope cl C X.env) fp) ifs tt)
    (pe0 : ∀ (s0 : Shared) (G : Hp) (C : Addr) (cl : List (PySem.Str × Addr)) (fp : List Addr), PE (X.blk s0 G scope (compEnvC scope cl C X.env) fp) elt te) (fold : ∀ x, foldedSetIterable iter X.env x = pure x)
    (I0 : Inv X pins σ H s) (want : (tScI X.w wi g tt te (own.map (·.2))) σ H Q)
    (last : ∀ D C s' m H', Inv X pins σ H' s' → Q (.ref D) H' → s'.heap.Ns C m → FpOk X pins H' C → compPost (model X.prog X.w) X.A X.xe use Qf (.ref D) C (.ok .next) s') :
    wpAny (model X.prog X.w) X.A (comprehension (.SetComp elt [⟨tg, iter, ifs, 0⟩] scope pos) scope X.env pos2 (newSet (.type "set")) false (eval iter X.env) use) Qf X.xe s := by
  have clo : ∀ y ∈ scope.names, y.2 = .free → ∃ c, X.env.cells.lookup y.1 = some c := fun y hy e => I0.ok.has _ ((ok.free y hy e).elim .inl .inr)
  refine wpAny_comprehension_free (use := use) rfl fold (closure_ok clo) ok.kind (fun y hy e => by rw [ok.uniq y hy, e]) (thn (it0.run pins s σ H _ I0 want) fun _ _ hx => thn hx fun _ s2 got => ?_)
  obtain ⟨it, fp, tn, J, H2, rfl, I2, T, st2, f2, q⟩ := got
  refine PpSet.newSet_ok (newEnv_comp ?_)
  obtain ⟨Z, ⟨m0, z0⟩, turn⟩ := q s2.heap.objs.size (I2.hok.fresh (Nat.le_refl _))
  have I3 : Inv X pins σ (upd H2 s2.heap.objs.size (SetO X.w s2.heap.objs.size setNo 0)) _ := I2.laid (t' := s2.toks) (fun b o e => Heap.get?_push_of_some _ e) (Nat.le_refl _) (setO_new (setR_fresh X.w))
  have old : ∀ b ∈ fp, b < s2.heap.objs.size := fun b hb => let ⟨_, e, _⟩ := T.obj _ _ st2 b hb; Heap.lt_size e
  generalize hs3 : ({ s2 with heap := s2.heap.push { cls := .type "set", dict := none, data := .set #[] 0 (.fresh 0 0 (!X.w.params.followText "set-order")) } } : Shared) = s3 at *
  have grown : ∀ b o, s2.heap.get? b = some o → s3.heap.get? b = some o := fun b o e => by rw [← hs3]; exact Heap.get?_push_of_some _ e
  have wider : s3.heap.objs.size = s2.heap.objs.size + 1 := by rw [← hs3]; exact Heap.size_push _ _
  have f3 : ∀ b ∈ fp, FpOk X pins (upd H2 s2.heap.objs.size (SetO X.w s2.heap.objs.size setNo 0)) b ∧ b < s3.heap.objs.size := fun b hb =>
    ⟨⟨by rw [upd_ne (Nat.ne_of_lt (old b hb))]; exact (f2 b hb).1, (f2 b hb).2⟩, by rw [wider]; exact Nat.lt_succ_of_lt (old b hb)⟩
  generalize s2.heap.objs.size = D at *
  have st3 := T.keep _ _ _ st2 fun b _ o e => grown b o e
  have I4 := block_start I3 ok nd f3
  generalize hH3 : upd H2 D (SetO X.w D setNo 0) = H3 at *
  have pg := pg0 s3 H3 s3.heap.objs.size (cellsFrom (s3.heap.objs.size + 1) scope.names (cloFrom X.env.cells scope.names [])) fp
  have pt := pt0 s3 H3 s3.heap.objs.size (cellsFrom (s3.heap.objs.size + 1) scope.names (cloFrom X.env.cells scope.names [])) fp
  have pe := pe0 s3 H3 s3.heap.objs.size (cellsFrom (s3.heap.objs.size + 1) scope.names (cloFrom X.env.cells scope.names [])) fp
  generalize hS4 : ({ s3 with heap := pushCells (s3.heap.push { cls := .type "dict", data := .dict #[] }) scope.names } : Shared) = s4 at *
  generalize hce : compEnvC scope (cellsFrom (s3.heap.objs.size + 1) scope.names (cloFrom X.env.cells scope.names [])) s3.heap.objs.size X.env = ce at *
  have place : ce.locals = s3.heap.objs.size := by rw [← hce]; rfl
  show codeAny _ _ (.compStart (.SetComp elt [⟨tg, iter, ifs, 0⟩] scope pos) 0 (.ref it) (.ref D) (compEnvC scope (cellsFrom (s3.heap.objs.size + 1) scope.names (cloFrom X.env.cells scope.names [])) s3.heap.objs.size X.env)) (compPost (model X.prog X.w) X.A X.xe use Qf (.ref D) s3.heap.objs.size) s4
  rw [hce]
  have st4 := T.keep _ _ s4.heap st3 fun b _ o e => by rw [← hS4]; exact pushCells_keeps _ _ _ _ (Heap.get?_push_of_some _ e)
  have none3 : ∀ b ∈ fp, H3 b = none := fun b hb => (f3 b hb).1.1
  -- an object of the walk may be met again inside the block
  have meet : ∀ {τ : L2.St} {G : Hp} {t : Shared}, Inv (X.blk s3 H3 scope ce fp) [] τ G t → (∀ b ∈ fp, G b = none) → ∀ b ∈ fp, FpOk (X.blk s3 H3 scope ce fp) [] G b := fun {τ G t} V no b hb =>
    ⟨no b hb, (V.ok.exf b hb).1, V.ok.exfs b hb, .inl hb, fun x c e => (V.ok.exf b hb).2 x c e, fun p hp => absurd (show p ∈ ([] : List (Addr × Obj)) ++ [] from hp) (by simp)⟩
  have around : codeAny (model X.prog X.w) X.A (.compLoop (.SetComp elt [⟨tg, iter, ifs, 0⟩] scope pos) 0 (.ref it) (.ref D) ce) (compPost (model X.prog X.w) X.A X.xe use Qf (.ref D) s3.heap.objs.size) s4 := by
    refine PpSet.compLoopS_any (fun m t => ∃ i G, Inv (X.blk s3 H3 scope ce fp) [] (wipe σ (own.map (·.2))) G t ∧ tn i t.heap ∧ (∀ b ∈ fp, G b = none) ∧ Z i m G) ?_ m0 ⟨0, H3, I4, st4, none3, z0⟩
    rintro m t5 ⟨i, G5, V5, w5, no5, z5⟩
    rcases turn i m G5 z5 with ⟨halt, want5⟩ | ⟨more, Y, fewer, step⟩
    · refine thnF (T.done (X.blk s3 H3 scope ce fp) rfl rfl rfl calm i [] t5 _ G5 (fun _ _ => False) V5 (meet V5 no5) w5 halt) fun r t6 ⟨er, V6⟩ => ?_
      subst er
      have V7 : Inv X pins σ G5 t6 := I3.call' (ch := fp) V6.os V6.base V6.hok V6.bare fun b hb => ⟨(f3 b hb).1.2.2.2.1, (f3 b hb).1.2.1, (f3 b hb).1.2.2.2.2.1, (f3 b hb).1.2.2.2.2.2⟩
      have gone : G5 s3.heap.objs.size = none := place ▸ (show G5 ce.locals = none from V6.free)
      obtain ⟨nm, ns6, _⟩ := V6.loc
      replace ns6 : t6.heap.Ns s3.heap.objs.size nm := place ▸ ns6
      exact last D s3.heap.objs.size t6 nm G5 V7 want5 ns6 (I3.fpOk (Nat.le_refl _) gone)
    · refine thnF (T.item (X.blk s3 H3 scope ce fp) rfl rfl rfl calm i [] t5 _ G5 (fun _ _ => False) V5 (meet V5 no5) w5 more) fun r t6 ⟨u, er, rest⟩ => ?_
      subst er
      refine thnF rest fun _ t7 ⟨x, G7, V7, r7, y7, w7, no7⟩ => ?_
      refine thnF (pg.run _ t7 _ G7 x u _ (V7.pinned (meet V7 no7) (T.obj _ _ w7)) r7 (step x G7 y7)) fun _ t8 ⟨τ, G8, V8, same8, q8⟩ => ?_
      refine thnF (pt.run _ t8 τ G8 _ V8 q8) fun b t9 ⟨G9, V9, q9⟩ => ?_
      have wend : ∀ {tz : Shared} {Gz : Hp}, Inv (X.blk s3 H3 scope ce fp) ([] ++ pinsAt fp t7.heap) τ Gz tz → Y Gz → ∃ l, l < m ∧ ∃ i G, Inv (X.blk s3 H3 scope ce fp) [] (wipe σ (own.map (·.2))) G tz ∧ tn i tz.heap ∧ (∀ b ∈ fp, G b = none) ∧ Z i l G := fun {tz Gz} Vz yz => by
        obtain ⟨l, lt, zl⟩ := fewer Gz yz
        have kept : ∀ b ∈ fp, ∀ o, t7.heap.get? b = some o → tz.heap.get? b = some o ∧ Gz b = none := fun b hb o e =>
          let k := Vz.pin (b, o) (List.mem_append_right _ (List.mem_append_right _ (mem_pinsAt hb e)))
          ⟨k.1, k.2.1⟩
        refine ⟨l, lt, i + 1, Gz, (Vz.unpinned (pins := [])).weak (by rw [← same8, wipe_length]) (fun j v e => (wipe_some (same8 ▸ e)).1), T.keep _ _ _ w7 fun b hb o e => (kept b hb o e).1, fun b hb => ?_, zl⟩
        obtain ⟨o, e, _⟩ := T.obj _ _ w7 b hb
        exact (kept b hb o e).2
      cases b with
      | false => exact wend V9 q9
      | true =>
        refine thnF (pe.run _ t9 τ G9 _ V9 q9) fun z t10 ⟨yv, G10, V10, r10, c, S0, n0, ey, at10, roomy, nxt⟩ => ?_
        subst ey
        exact setPut_int (X := X.blk s3 H3 scope ce fp) V10 at10 roomy r10 fun t11 V11 => wend V11 nxt
  exact PpSet.codeAny_compStart_set around (T.self X.A 0 _ _ _ st4 around)
theorem pe_scI {elt tg iter : Expr} {ifs : List Expr} {scope : Scope} {own : List (PySem.Str × Nat)} {pos : Pos} {wi : TI} {g : TG} {tt : TT} {te : TE} (calm : X.calm = true) (nd : X.N.Nodup) (it0 : PI X tg iter wi) (ok : BlkOk X.N X.env.scope scope own)
    (pg0 : ∀ (s0 : Shared) (G : Hp) (C : Addr) (cl : List (PySem.Str × Addr)) (fp : List Addr), PG (X.blk s0 G scope (compEnvC scope cl C X.env) fp) tg g)
    (pt0 : ∀ (s0 : Shared) (G : Hp) (C : Addr) (cl : List (PySem.Str × Addr)) (fp : List Addr), PTs (X.blk s0 G scope (compEnvC scope cl C X.env) fp) ifs tt)
    (pe0 : ∀ (s0 : Shared) (G : Hp) (C : Addr) (cl : List (PySem.Str × Addr)) (fp : List Addr), PE (X.blk s0 G scope (compEnvC scope cl C X.env) fp) elt te) (fold : ∀ x, foldedSetIterable iter X.env x = pure x := by intro _; rfl) :
    PE X (.SetComp elt [⟨tg, iter, ifs, 0⟩] scope pos) (tScI X.w wi g tt te (own.map (·.2))) := by
  refine ⟨fun pins s σ H Q I0 want => ?_⟩
  rw [PpSet.eval_SetComp]
  refine scI_gen calm nd it0 ok pg0 pt0 pe0 fold  I0 want fun D C s' m H' J q ns f => ⟨m, ns, fun h'' sb => ?_⟩
  obtain ⟨g0, g1, g2, g3, g4, g5⟩ := f
  exact ⟨.ref D, H', J.turned (t' := s'.toks) (fun b o ne e => (sb.2 b ne).trans e) g0 g1 g3 g4 g5, rfl, q⟩
theorem ps_scI {i : Nat} {y : PySem.Str} {py spos : Pos} {elt tg iter : Expr} {ifs : List Expr} {scope : Scope} {own : List (PySem.Str × Nat)} {pos : Pos} {wi : TI} {g : TG} {tt : TT} {te : TE} (calm : X.calm = true) (nd : X.N.Nodup) (hy : X.N[i]? = some y) (loc : X.env.scope.names.lookup y = some .local) (swap : swapsWith (.SetComp elt [⟨tg, iter, ifs, 0⟩] scope pos) (some (.Name y py)) spos.line X.env = pure true) (it0 : PI X tg iter wi) (ok : BlkOk X.N X.env.scope scope own)
    (pg0 : ∀ (s0 : Shared) (G : Hp) (C : Addr) (cl : List (PySem.Str × Addr)) (fp : List Addr), PG (X.blk s0 G scope (compEnvC scope cl C X.env) fp) tg g)
    (pt0 : ∀ (s0 : Shared) (G : Hp) (C : Addr) (cl : List (PySem.Str × Addr)) (fp : List Addr), PTs (X.blk s0 G scope (compEnvC scope cl C X.env) fp) ifs tt)
    (pe0 : ∀ (s0 : Shared) (G : Hp) (C : Addr) (cl : List (PySem.Str × Addr)) (fp : List Addr), PE (X.blk s0 G scope (compEnvC scope cl C X.env) fp) elt te) (fold : ∀ x, foldedSetIterable iter X.env x = pure x := by intro _; rfl) :
    PS X (.Assign [.Name y py] (.SetComp elt [⟨tg, iter, ifs, 0⟩] scope pos) spos) (tAsg (tScI X.w wi g tt te (own.map (·.2))) (gName i)) := by
  refine ⟨fun pins s σ H D I0 want => ?_⟩
  rw [exec_Assign_Name_used _ _ _ _ swap]
  refine wpAny_bind (wpAny_standAt (wpAny_bind ?_))
  show wpAny _ X.A (do let _ ← comprehension (.SetComp elt [⟨tg, iter, ifs, 0⟩] scope pos) scope X.env (firstIterPos [⟨tg, iter, ifs, 0⟩] pos) (newSet (.type "set")) false (eval iter X.env) (some (assign (.Name y py) X.env))) _ _ s
  replace want : (tScI X.w wi g tt te (own.map (·.2))) σ H (fun x G => gName i x σ G D.nx) := want
  refine wpAny_bind (thn (scI_gen (Qf := fun _ t => SP X pins D .next t) calm nd it0 ok pg0 pt0 pe0 fold  I0 want fun L C t m G J q ns f => ?_) fun _ t hq => wpAny_pure (wpAny_pure hq))
  show wpAny _ _ (assign (.Name y py) X.env (.ref L)) _ _ _
  refine wpAny_assign_Name (store_ok2 (v := V.ref L) J nd hy (.inl loc) rfl (fun t2 J2 ⟨a, sb, ha⟩ => ?_) (.inr loc))
  obtain ⟨g0, g1, g2, g3, g4, g5⟩ := f
  have away : C ≠ a := by
    rcases ha with z | z
    · exact z ▸ g1
    · exact fun e => g4 y a z e.symm
  exact ⟨m, ns.sameBut sb away, fun h3 sb3 => ⟨_, G, J2.turned (t' := t2.toks) (fun b o ne e => (sb3.2 b ne).trans e) g0 g1 g3 g4 g5, q⟩⟩
theorem sw_set {elt : Expr} {gs : List Comprehension} {scope : Scope} {pos py : Pos} {y : PySem.Str} {l : Nat} {env : Env} (kind : env.scope.kind = .function) (loc : env.scope.names.lookup y = some .local) (line : (py.line == pos.line) = true)
    (other : (scope.names.any fun (n, k) => n == y && (k == .local || k == .cell)) = false) : swapsWith (.SetComp elt gs scope pos) (some (.Name y py)) l env = pure true := by
  have k1 : env.kindOf y = some .local := loc
  have k2 : env.blockKind = .function := by unfold Env.blockKind; rw [kind]; rfl
  unfold swapsWith
  simp only [k2, k1, other, Expr.pos, line]
  rfl
end
/-! ### sorted of a set of whol, of any size -/
theorem sortSet_go {P : Program} {w : World} {A : Around} {E : Value → Shared → Prop} {s : Shared} {a : Addr} {S : Int → Bool} {n : Nat} {Q : Value → Shared → Prop} (R : SetR w s.heap a S n) (calm : A.handled = none)
    (go : ∀ s' p (out : List Value) (c : Nat) (ns : List Int), (∀ b o, s.heap.get? b = some o → s'.heap.get? b = some o) → s'.gens = s.gens → s'.os = s.os → s.heap.objs.size ≤ p →
      s'.heap.get? p = some (seqObj "list" out.toArray c) → IntsAre out ns → ns.Pairwise (· < ·) → (∀ k, k ∈ ns ↔ S k = true) → ns.length = n → n < scanBound → Q (.ref p) s') :
    wpAny (model P w) A (call (.builtin "sorted") [.ref a]) Q E s := by
  obtain ⟨ob, cs, cn, tb, atOb, exOb, dOb, good, dis, mem, few, fit, num, ris, led⟩ := R
  refine Calls.call_function_entry kind_sorted plain_sorted entry_sorted (args_sorted1 _) ?_
  unfold Builtin.«sorted»
  refine wpAny_bind (m := checkCount "sorted" 1 1 _) (wpAny_pure ?_)
  refine wpAny_bind (collect_set (A := A.in1) calm ⟨ob, atOb, exOb.1, dOb⟩ fit few ris led fun t vs keep size gens os pm => ?_)
  have lvs : vs.length = n := by rw [pm.length_eq, List.length_map, Array.length_toList, num]
  have small : vs.length ≤ sizeLine := by
    rw [lvs, sizeLine_eq]
    have b1 : cs.size < 4096 := few
    omega
  have whol : IntsAre vs (vs.map Builtin.Re.reRawOf) := ints_of vs fun v hv => by
    obtain ⟨e, he, rfl⟩ := List.mem_map.mp (pm.mem_iff.mp hv)
    obtain ⟨k, tk, h1, _⟩ := good e he
    exact ⟨k, tk, h1⟩
  have keys : (vs.map Builtin.Re.reRawOf).Perm (cs.toList.map keyOf) := by
    have z := pm.map Builtin.Re.reRawOf
    rwa [List.map_map] at z
  refine wpAny_bind (wpAny_newList ?_ small)
  have atL : (t.heap.push (seqObj "list" vs.toArray 0)).get? t.heap.objs.size = some (seqObj "list" vs.toArray 0) := Heap.get?_push_size _ rfl
  refine wpAny_bind (wpAny_holding (wpAny_call_entry slot_list_sort ⟨_, atL, rfl⟩ entry_list_sort (SrtO.list_sort_ord SrtO.swo_int atL small (fun h2 => SrtO.ints_sortable whol h2) fun out h1 h2 => ⟨_, rfl, ?_⟩) (args_list_sort _)))
  obtain ⟨k1, k2, k3⟩ := SrtO.ints_out whol h1 h2
  obtain ⟨c, atS⟩ := sortedHeap_at (vs := vs) (out := out.toArray) atL
  have pn : (out.map SrtO.iv).Perm (cs.toList.map keyOf) := k2.trans keys
  refine wpAny_pure ⟨_, rfl, go _ t.heap.objs.size out c (out.map SrtO.iv) (fun b u e => ?_) gens os size atS k1 (lt_of_le_nodup _ k3 (pn.nodup_iff.mpr dis)) (fun k => by rw [pn.mem_iff, ← mem k]) ?_ (by rw [← num]; exact few)⟩
  · have z := keep b u e
    have lt := Heap.lt_size z
    show (sortedHeap (t.heap.push (seqObj "list" vs.toArray 0)) t.heap.objs.size vs out.toArray).get? b = some u
    rw [sortedHeap_old (Nat.ne_of_lt lt) (by rw [size_push']; exact Nat.lt_succ_of_lt lt)]
    exact Heap.get?_push_of_some _ z
  · rw [pn.length_eq, List.length_map, Array.length_toList, num]
def rSortSetN (w : World) : List V → Hp → VK → Prop := fun vs H Q => ∃ (a : Addr) (S : Int → Bool) (n : Nat), vs = [V.ref a] ∧ H a = some (SetO w a S n) ∧
  ∀ (ns : List Int) (p : Addr), ns.Pairwise (· < ·) → (∀ k : Int, k ∈ ns ↔ S k = true) → ns.length = n → H p = none → Q (.ref p) (upd H p (.lst (ns.map V.int)))
theorem cr_sortSetN {X : Cx} (calm : X.calm = true) : CallR X (.builtin "sorted") (rSortSetN X.w) := by
  intro pins s σ H vs us Q I r ⟨a, S, n, ev, at_, q⟩
  subst ev
  have R := setO_get I at_
  rw [Vals.ref1 r]
  refine sortSet_go R (I.ok.hd calm) fun s' p out c ns k g o hp hg hi hs hm hl few => ?_
  have fits : (ns.map V.int).length ≤ sizeLine := by
    rw [List.length_map, hl, sizeLine_eq]
    have b1 : n < 4096 := few
    omega
  have J : Inv X pins σ (upd H p (.lst (ns.map V.int))) { s with heap := s'.heap, gens := s'.gens, drawn := s'.drawn, toks := s'.toks } :=
    I.call (ch := []) (Un.laid k hp (I.hok.fresh hp)) (I.hok.laid k hp ⟨fits, out, c, vals_of_ints hi, hg⟩) (by rw [g]; exact I.bare) (fun _ z => nomatch z)
  have e : s' = { s with heap := s'.heap, gens := s'.gens, drawn := s'.drawn, toks := s'.toks } := by
    cases s'
    cases s
    cases o
    rfl
  rw [e]
  exact ⟨.ref p, _, J, rfl, q ns p hs hm hl (I.hok.fresh hp)⟩
/-! ### readings -/
section
variable {w : World} {σ : St} {H : Hp} {Q : VK} {K : PySem.W.Frag} {te : TE} {tt : TT}
def inS (l : List Int) : Int → Bool := fun k => decide (k ∈ l)
theorem inS_nil : inS [] = setNo := by
  funext k
  simp [inS, setNo]
theorem inS_snoc {l : List Int} {c : Int} : (fun j => inS l j || decide (j = c)) = inS (l ++ [c]) := by
  funext k
  simp [inS]
def scB (w : World) (J : It) (g : TG) (tt : TT) (te : TE) (vs : List Nat) (σ : St) (Q : VK) (H1 : Hp) : Prop := ∀ D, H1 D = none → ∃ Z : Nat → Nat → Hp → Prop, (∃ m, Z 0 m (upd H1 D (SetO w D setNo 0))) ∧ ∀ i m G, Z i m G →
  (J.stop i G ∧ Q (.ref D) G) ∨ (J.go i G ∧ ∃ Y : Hp → Prop, (∀ G', Y G' → ∃ l, l < m ∧ Z (i + 1) l G') ∧ ∀ x G', J.yld i G x G' → g x (wipe σ vs) G' fun σ2 G2 => wipe σ2 vs = wipe σ vs ∧ tt σ2 G2 fun b G3 =>
    if b = true then te σ2 G3 fun y G4 => ∃ (c : Int) (S : Int → Bool) (n : Nat), y = .int c ∧ G4 D = some (SetO w D S n) ∧ n + 1 < scanBound ∧ Y (upd G4 D (SetO w D (fun j => S j || decide (j = c)) (if S c = true then n else n + 1))) else Y G3)
instance st_scI {wi : TI} {g : TG} {vs : List Nat} : Stp (tScI w wi g tt te vs σ H Q) (wi σ H fun J H1 => scB w J g tt te vs σ Q H1) := ⟨fun h => h⟩
/-- what is put in: the set then tells l, of at most m members -/
def ScPut (w : World) (H : Hp) (D : Addr) (l : List Int) (m : Nat) : VK := fun y G => ∃ (c : Int) (S : Int → Bool) (n : Nat), y = .int c ∧ G D = some (SetO w D S n) ∧ n + 1 < scanBound ∧
  ∃ k, k ≤ m ∧ upd G D (SetO w D (fun j => S j || decide (j = c)) (if S c = true then n else n + 1)) = upd H D (SetO w D (inS l) k)
theorem put_S {D : Addr} {l l' : List Int} {k m : Nat} {c : Int} {y : V} (hy : y = .int c) (hk : k ≤ m) (hm : m + 1 < 4096) (hl : l' = l ++ [c]) : ScPut w H D l' (m + 1) y (upd H D (SetO w D (inS l) k)) := by
  refine ⟨c, _, _, hy, upd_same, Nat.lt_of_le_of_lt (Nat.succ_le_succ hk) hm, if inS l c = true then k else k + 1, ?_, ?_⟩
  · split <;> omega
  · rw [upd_upd, inS_snoc, hl]
theorem rd_scR {lo : Int} {n : Nat} {g : TG} {vs : List Nat} (f : Nat → Int)
    (hs : ∀ D i k, H D = none → i < n → k ≤ i → g (.int (lo + i)) (wipe σ vs) (upd H D (SetO w D (inS ((List.range i).map f)) k)) fun σ2 H2 => wipe σ2 vs = wipe σ vs ∧ te σ2 H2 (ScPut w H D ((List.range (i + 1)).map f) (i + 1)))
    (q : ∀ D k, H D = none → k ≤ n → Q (.ref D) (upd H D (SetO w D (inS ((List.range n).map f)) k))) : scB w (Itr lo n) g tYes te vs σ Q H := by
  intro D hD
  refine ⟨fun i m G => m = n - i ∧ i ≤ n ∧ ∃ k, k ≤ i ∧ G = upd H D (SetO w D (inS ((List.range i).map f)) k), ⟨n, by simp, Nat.zero_le _, 0, Nat.le_refl _, by rw [← inS_nil]; rfl⟩, ?_⟩
  rintro i m G ⟨rfl, hi, k, hk, rfl⟩
  by_cases lt : i < n
  · refine .inr ⟨lt, fun G' => ∃ k, k ≤ i + 1 ∧ G' = upd H D (SetO w D (inS ((List.range (i + 1)).map f)) k), fun G' ⟨k', a, b⟩ => ⟨n - (i + 1), by omega, rfl, lt, k', a, b⟩, fun x G' y => ?_⟩
    obtain ⟨e, y⟩ := y
    subst e y
    exact hs D i k hD lt hk
  · have e : i = n := by omega
    subst e
    exact .inl ⟨Nat.le_refl _, q D k hD hk⟩
theorem range_snoc {f : Nat → Int} {i : Nat} : (List.range (i + 1)).map f = (List.range i).map f ++ [f i] := by
  rw [List.range_succ, List.map_append]
  rfl
/-- sorted of a set that tells l -/
theorem rd_sortSetN {D : Addr} {l : List Int} {n : Nat} (hD : H D = some (SetO w D (inS l) n)) (q : ∀ (ns : List Int) (p : Addr), ns.Pairwise (· < ·) → (∀ k, k ∈ ns ↔ k ∈ l) → H p = none → Q (.ref p) (upd H p (.lst (ns.map V.int)))) : rSortSetN w [.ref D] H Q :=
  ⟨D, _, n, rfl, hD, fun ns p h1 h2 _ hp => q ns p h1 (fun k => by rw [h2 k]; simp [inS]) hp⟩
end
end L2

namespace L2
open PySem PySem.Spec PyProof.Rows
/-! ### a set of ints by a comprehension of two clauses -/
section
variable {P : Program} {w : World} {A : Around} {R : Result → Shared → Prop} {s : Shared} {e tA fA tB fB : Expr} {cA cB : List Expr} {sc : Scope} {ps : Pos} {src dst : Value} {en : Env}
theorem sc2_turnA (e tA fA tB fB : Expr) (cA cB : List Expr) (sc : Scope) (ps : Pos) (src dst : Value) (en : Env) :
    compTurn (.SetComp e [⟨tA, fA, cA, 0⟩, ⟨tB, fB, cB, 0⟩] sc ps) 0 src dst en = (do
      standAt fA.pos
      match ← pyNext src with
      | none => pure (.done .next)
      | some item =>
        letOwnedTupleGo tA src item
        assign tA en item
        let mut good := true
        for cond in cA do
          if good then good ← isTrue cond en (eval cond en)
        if good then
          let inner ← eval fB en
          standAt fB.pos
          let inner ← foldedSetIterable fB en inner
          let _ ← runOwn (.compStart (.SetComp e [⟨tA, fA, cA, 0⟩, ⟨tB, fB, cB, 0⟩] sc ps) 1 (← holding [inner] (pyIter inner)) dst en) en
        again (.compLoop (.SetComp e [⟨tA, fA, cA, 0⟩, ⟨tB, fB, cB, 0⟩] sc ps) 0 src dst en)) := by rfl
theorem sc2_turnB (e tA fA tB fB : Expr) (cA cB : List Expr) (sc : Scope) (ps : Pos) (src dst : Value) (en : Env) :
    compTurn (.SetComp e [⟨tA, fA, cA, 0⟩, ⟨tB, fB, cB, 0⟩] sc ps) 1 src dst en = (do
      standAt fB.pos
      match ← pyNext src with
      | none => pure (.done .next)
      | some item =>
        letOwnedTupleGo tB src item
        assign tB en item
        let mut good := true
        for cond in cB do
          if good then good ← isTrue cond en (eval cond en)
        if good then
          (do let member ← eval e en; standAt e.pos; let _ ← call (.builtin "set.add") [dst, member])
        again (.compLoop (.SetComp e [⟨tA, fA, cA, 0⟩, ⟨tB, fB, cB, 0⟩] sc ps) 1 src dst en)) := by rfl
/-- what is asked of the tests -/
abbrev sc2_tests (cs : List Expr) (en : Env) : Sem Bool := forIn cs true fun c r => if r = true then do let ok ← isTrue c en (eval c en); pure (ForInStep.yield ok) else pure (ForInStep.yield r)
abbrev sc2_bad (P : Program) (w : World) (A : Around) (R : Result → Shared → Prop) (en : Env) : Value → Shared → Prop := notedBy (model P w) A en fun x t => R (.error x) t
theorem sc2_loopA (plain : ∀ x, foldedSetIterable fB en x = pure x) (Z : Nat → Shared → Prop)
    (turn : ∀ m t, Z m t → wpAny (model P w) A (pyNext src) (fun r t1 => match r with
      | none => R (.ok .next) t1
      | some u => wpAny (model P w) A (letOwnedTupleGo tA src u) (fun _ t2 => wpAny (model P w) A (assign tA en u) (fun _ t3 =>
          wpAny (model P w) A (sc2_tests cA en) (fun good t4 =>
            if good = true then wpAny (model P w) A (eval fB en) (fun x t5 => wpAny (model P w) A (pyIter x) (fun src1 t6 =>
              codeAny (model P w) A (.compStart (.SetComp e [⟨tA, fA, cA, 0⟩, ⟨tB, fB, cB, 0⟩] sc ps) 1 src1 dst en) (fun r t7 => match r with
                | .ok _ => ∃ l, l < m ∧ Z l t7
                | .error _ => False) t6) (sc2_bad P w A R en) t5) (sc2_bad P w A R en) t4
            else ∃ l, l < m ∧ Z l t4) (sc2_bad P w A R en) t3) (sc2_bad P w A R en) t2) (sc2_bad P w A R en) t1) (sc2_bad P w A R en) t)
    (m : Nat) (z : Z m s) :
    codeAny (model P w) A (.compLoop (.SetComp e [⟨tA, fA, cA, 0⟩, ⟨tB, fB, cB, 0⟩] sc ps) 0 src dst en) R s := by
  refine codeAny_loop rfl Z (fun m t hz => ?_) m z
  show wpAny _ A ((compTurn (.SetComp e [⟨tA, fA, cA, 0⟩, ⟨tB, fB, cB, 0⟩] sc ps) 0 src dst en).onRaise (fun x => do noteFrame x en; theTreesLotGoes x)) _ _ t
  refine wpAny_noted ?_
  rw [sc2_turnA]
  refine wpAny_bind (wpAny_standAt (wpAny_bind (wpAny_mono (turn m t hz) (fun r t1 k1 => ?_) fun _ _ z => z)))
  cases r with
  | none => exact wpAny_pure k1
  | some u =>
    refine wpAny_bind (wpAny_mono k1 (fun _ t2 k2 => wpAny_bind (wpAny_mono k2 (fun _ t3 k3 => wpAny_bind (wpAny_mono k3 (fun good t4 k4 => ?_) fun _ _ z => z)) fun _ _ z => z)) fun _ _ z => z)
    cases good with
    | false => exact wpAny_pure ⟨rfl, k4⟩
    | true =>
      refine wpAny_bind (wpAny_mono k4 (fun x t5 k5 => ?_) fun _ _ z => z)
      refine wpAny_bind (wpAny_standAt (wpAny_bind (wpAny_of_eq (plain x) (wpAny_bind (wpAny_holding (wpAny_mono k5 (fun src1 t6 k6 => wpAny_bind (wpAny_runOwn ?_)) fun _ _ z => z))))))
      rw [Around.mark_none]
      refine codeAny_mono k6 fun r t7 k7 => ?_
      cases r with
      | ok f =>
        first
          | exact wpAny_pure ⟨rfl, k7⟩
          | exact wpAny_bind (wpAny_pure (wpAny_pure ⟨rfl, k7⟩))
      | error x => exact k7.elim
theorem sc2_loopB (Z : Nat → Shared → Prop)
    (turn : ∀ m t, Z m t → wpAny (model P w) A (pyNext src) (fun r t1 => match r with
      | none => R (.ok .next) t1
      | some u => wpAny (model P w) A (letOwnedTupleGo tB src u) (fun _ t2 => wpAny (model P w) A (assign tB en u) (fun _ t3 =>
          wpAny (model P w) A (sc2_tests cB en) (fun good t4 =>
            if good = true then wpAny (model P w) A (eval e en) (fun x t5 =>
              wpAny (model P w) A (call (.builtin "set.add") [dst, x]) (fun _ t6 => ∃ l, l < m ∧ Z l t6) (sc2_bad P w A R en) t5) (sc2_bad P w A R en) t4
            else ∃ l, l < m ∧ Z l t4) (sc2_bad P w A R en) t3) (sc2_bad P w A R en) t2) (sc2_bad P w A R en) t1) (sc2_bad P w A R en) t)
    (m : Nat) (z : Z m s) :
    codeAny (model P w) A (.compLoop (.SetComp e [⟨tA, fA, cA, 0⟩, ⟨tB, fB, cB, 0⟩] sc ps) 1 src dst en) R s := by
  refine codeAny_loop rfl Z (fun m t hz => ?_) m z
  show wpAny _ A ((compTurn (.SetComp e [⟨tA, fA, cA, 0⟩, ⟨tB, fB, cB, 0⟩] sc ps) 1 src dst en).onRaise (fun x => do noteFrame x en; theTreesLotGoes x)) _ _ t
  refine wpAny_noted ?_
  rw [sc2_turnB]
  refine wpAny_bind (wpAny_standAt (wpAny_bind (wpAny_mono (turn m t hz) (fun r t1 k1 => ?_) fun _ _ z => z)))
  cases r with
  | none => exact wpAny_pure k1
  | some u =>
    refine wpAny_bind (wpAny_mono k1 (fun _ t2 k2 => wpAny_bind (wpAny_mono k2 (fun _ t3 k3 => wpAny_bind (wpAny_mono k3 (fun good t4 k4 => ?_) fun _ _ z => z)) fun _ _ z => z)) fun _ _ z => z)
    cases good with
    | false => exact wpAny_pure ⟨rfl, k4⟩
    | true =>
      exact wpAny_bind (wpAny_bind (wpAny_mono k4 (fun x t5 k5 => wpAny_bind (wpAny_standAt (wpAny_bind (wpAny_mono k5 (fun _ t6 k6 => wpAny_pure (wpAny_pure ⟨rfl, k6⟩)) fun _ _ z => z)))) fun _ _ z => z))
theorem sc2_startB (here : codeAny (model P w) A (.compLoop (.SetComp e [⟨tA, fA, cA, 0⟩, ⟨tB, fB, cB, 0⟩] sc ps) 1 src dst en) R s)
    (again_ : wpAny (model P w) A (pyIter src) (fun src1 t => codeAny (model P w) A (.compLoop (.SetComp e [⟨tA, fA, cA, 0⟩, ⟨tB, fB, cB, 0⟩] sc ps) 1 src1 dst en) R t) (sc2_bad P w A R en) s) :
    codeAny (model P w) A (.compStart (.SetComp e [⟨tA, fA, cA, 0⟩, ⟨tB, fB, cB, 0⟩] sc ps) 1 src dst en) R s := by
  refine codeAny_of_tree ?_
  show wpAny _ _ ((compStart (.SetComp e [⟨tA, fA, cA, 0⟩, ⟨tB, fB, cB, 0⟩] sc ps) 1 src dst en).onRaise (fun x => do noteFrame x en; standAt theWindowsPlace)) _ _ s
  refine wpAny_notedAt ?_
  unfold compStart
  show wpAny _ _ (ask >>= _) _ _ s
  refine wpAny_bind (wpAny_askSetting (wpAny_ite ?_))
  split
  · first
      | exact wpAny_bind (wpAny_pure (wpAny_pure (And.intro rfl here)))
      | exact wpAny_pure (And.intro rfl here)
  · first
      | exact wpAny_bind (wpAny_rule (wpAny_bind (wpAny_standAt (wpAny_bind (wpAny_mono again_ (fun src1 t k => wpAny_pure (And.intro rfl k)) fun _ _ x => x)))))
      | (refine wpAny_bind (wpAny_rule ?_); show wpAny _ _ (standAt fB.pos >>= _) _ _ s; exact wpAny_bind (wpAny_standAt (wpAny_bind (wpAny_mono again_ (fun src1 t k => wpAny_pure (And.intro rfl k)) fun _ _ x => x))))
end
section
variable {X : Cx}
/-- the inner clause's own loop, from which Y is reached -/
def sc2_inner (w : World) (D : Addr) (g1 : TG) (tt1 : TT) (te : TE) (vs1 : List Nat) (σ2 : St) (Y : Hp → Prop) (J1 : It) (G4 : Hp) : Prop := ∃ Z1 : Nat → Nat → Hp → Prop, (∃ m, Z1 0 m G4) ∧ ∀ j k G, Z1 j k G →
  (J1.stop j G ∧ Y G) ∨ (J1.go j G ∧ ∃ Y1 : Hp → Prop, (∀ G', Y1 G' → ∃ l, l < k ∧ Z1 (j + 1) l G') ∧ ∀ x G', J1.yld j G x G' → g1 x (wipe σ2 vs1) G' fun σ3 G5 => wipe σ3 vs1 = wipe σ2 vs1 ∧ tt1 σ3 G5 fun b G6 =>
    if b = true then te σ3 G6 fun y G7 => ∃ (c : Int) (S : Int → Bool) (n : Nat), y = .int c ∧ G7 D = some (SetO w D S n) ∧ n + 1 < scanBound ∧ Y1 (upd G7 D (SetO w D (fun j => S j || decide (j = c)) (if S c = true then n else n + 1))) else Y1 G6)
def tScI2 (w : World) (wi : TI) (g : TG) (tt : TT) (wi1 : TI) (g1 : TG) (tt1 : TT) (te : TE) (vs vs1 : List Nat) : TE := fun σ H Q => wi σ H fun J H1 => ∀ D, H1 D = none → ∃ Z : Nat → Nat → Hp → Prop, (∃ m, Z 0 m (upd H1 D (SetO w D setNo 0))) ∧ ∀ i m G, Z i m G →
  (J.stop i G ∧ Q (.ref D) G) ∨ (J.go i G ∧ ∃ Y : Hp → Prop, (∀ G', Y G' → ∃ l, l < m ∧ Z (i + 1) l G') ∧ ∀ x G', J.yld i G x G' → g x (wipe σ vs) G' fun σ2 G2 => wipe σ2 vs = wipe σ vs ∧ tt σ2 G2 fun b G3 =>
    if b = true then wi1 σ2 G3 (sc2_inner w D g1 tt1 te vs1 σ2 Y) else Y G3)
theorem scI2_gen {pins : List (Addr × Obj)} {s : Shared} {σ : St} {H : Hp} {Q : VK} {use : Option (Value → Sem Unit)} {Qf : Value → Shared → Prop} {pos2 : Pos} {elt tg iter tg1 iter1 : Expr} {ifs ifs1 : List Expr} {scope : Scope} {own : List (PySem.Str × Nat)} {vs1 : List Nat} {pos : Pos} {wi wi1 : TI} {g g1 : TG} {tt tt1 : TT} {te : TE} (calm : X.calm = true) (nd : X.N.Nodup) (it0 : PI X tg iter wi) (ok : BlkOk X.N X.env.scope scope own) (less : ∀ i ∈ vs1, i ∈ own.map (·.2))
    (pg0 : ∀ (s0 : Shared) (G : Hp) (C : Addr) (cl : List (PySem.Str × Addr)) (fp : List Addr), PG (X.blk s0 G scope (compEnvC scope cl C X.env) fp) tg g)
    (pt0 : ∀ (s0 : Shared) (G : Hp) (C : Addr) (cl : List (PySem.Str × Addr)) (fp : List Addr), PTs (X.blk s0 G scope (compEnvC scope cl C X.env) fp) ifs tt)
    (pi1 : ∀ (s0 : Shared) (G : Hp) (C : Addr) (cl : List (PySem.Str × Addr)) (fp : List Addr), PI (X.blk s0 G scope (compEnvC scope cl C X.env) fp) tg1 iter1 wi1)
    (pg1 : ∀ (s0 : Shared) (G : Hp) (C : Addr) (cl : List (PySem.Str × Addr)) (fp : List Addr), PG (X.blk s0 G scope (compEnvC scope cl C X.env) fp) tg1 g1)
    (pt1 : ∀ (s0 : Shared) (G : Hp) (C : Addr) (cl : List (PySem.Str × Addr)) (fp : List Addr), PTs (X.blk s0 G scope (compEnvC scope cl C X.env) fp) ifs1 tt1)
    (pe0 : ∀ (s0 : Shared) (G : Hp) (C : Addr) (cl : List (PySem.Str × Addr)) (fp : List Addr), PE (X.blk s0 G scope (compEnvC scope cl C X.env) fp) elt te) (fold : ∀ x, foldedSetIterable iter X.env x = pure x) (fold1 : ∀ en x, foldedSetIterable iter1 en x = pure x)
    (I0 : Inv X pins σ H s) (want : (tScI2 X.w wi g tt wi1 g1 tt1 te (own.map (·.2)) vs1) σ H Q)
    (last : ∀ D C s' m H', Inv X pins σ H' s' → Q (.ref D) H' → s'.heap.Ns C m → FpOk X pins H' C → compPost (model X.prog X.w) X.A X.xe use Qf (.ref D) C (.ok .next) s') :
    wpAny (model X.prog X.w) X.A (comprehension (.SetComp elt [⟨tg, iter, ifs, 0⟩, ⟨tg1, iter1, ifs1, 0⟩] scope pos) scope X.env pos2 (newSet (.type "set")) false (eval iter X.env) use) Qf X.xe s := by
  have clo : ∀ y ∈ scope.names, y.2 = .free → ∃ c, X.env.cells.lookup y.1 = some c := fun y hy e => I0.ok.has _ ((ok.free y hy e).elim .inl .inr)
  refine wpAny_comprehension_free (use := use) rfl fold (closure_ok clo) ok.kind (fun y hy e => by rw [ok.uniq y hy, e]) (thn (it0.run pins s σ H _ I0 want) fun _ _ hx => thn hx fun _ s2 got => ?_)
  obtain ⟨it, fp, tn, J, H2, rfl, I2, T, st2, f2, q⟩ := got
  refine PpSet.newSet_ok (newEnv_comp ?_)
  obtain ⟨Z, ⟨m0, z0⟩, turn⟩ := q s2.heap.objs.size (I2.hok.fresh (Nat.le_refl _))
  have I3 : Inv X pins σ (upd H2 s2.heap.objs.size (SetO X.w s2.heap.objs.size setNo 0)) _ := I2.laid (t' := s2.toks) (fun b o e => Heap.get?_push_of_some _ e) (Nat.le_refl _) (setO_new (setR_fresh X.w))
  have old : ∀ b ∈ fp, b < s2.heap.objs.size := fun b hb => let ⟨_, e, _⟩ := T.obj _ _ st2 b hb; Heap.lt_size e
  generalize hs3 : ({ s2 with heap := s2.heap.push { cls := .type "set", dict := none, data := .set #[] 0 (.fresh 0 0 (!X.w.params.followText "set-order")) } } : Shared) = s3 at *
  have grown : ∀ b o, s2.heap.get? b = some o → s3.heap.get? b = some o := fun b o e => by rw [← hs3]; exact Heap.get?_push_of_some _ e
  have wider : s3.heap.objs.size = s2.heap.objs.size + 1 := by rw [← hs3]; exact Heap.size_push _ _
  have f3 : ∀ b ∈ fp, FpOk X pins (upd H2 s2.heap.objs.size (SetO X.w s2.heap.objs.size setNo 0)) b ∧ b < s3.heap.objs.size := fun b hb =>
    ⟨⟨by rw [upd_ne (Nat.ne_of_lt (old b hb))]; exact (f2 b hb).1, (f2 b hb).2⟩, by rw [wider]; exact Nat.lt_succ_of_lt (old b hb)⟩
  generalize s2.heap.objs.size = D at *
  have st3 := T.keep _ _ _ st2 fun b _ o e => grown b o e
  have I4 := block_start I3 ok nd f3
  generalize hH3 : upd H2 D (SetO X.w D setNo 0) = H3 at *
  replace pg0 := pg0 s3 H3 s3.heap.objs.size (cellsFrom (s3.heap.objs.size + 1) scope.names (cloFrom X.env.cells scope.names [])) fp
  replace pt0 := pt0 s3 H3 s3.heap.objs.size (cellsFrom (s3.heap.objs.size + 1) scope.names (cloFrom X.env.cells scope.names [])) fp
  replace pe0 := pe0 s3 H3 s3.heap.objs.size (cellsFrom (s3.heap.objs.size + 1) scope.names (cloFrom X.env.cells scope.names [])) fp
  replace pi1 := pi1 s3 H3 s3.heap.objs.size (cellsFrom (s3.heap.objs.size + 1) scope.names (cloFrom X.env.cells scope.names [])) fp
  replace pg1 := pg1 s3 H3 s3.heap.objs.size (cellsFrom (s3.heap.objs.size + 1) scope.names (cloFrom X.env.cells scope.names [])) fp
  replace pt1 := pt1 s3 H3 s3.heap.objs.size (cellsFrom (s3.heap.objs.size + 1) scope.names (cloFrom X.env.cells scope.names [])) fp
  generalize hS4 : ({ s3 with heap := pushCells (s3.heap.push { cls := .type "dict", data := .dict #[] }) scope.names } : Shared) = s4 at *
  generalize hce : compEnvC scope (cellsFrom (s3.heap.objs.size + 1) scope.names (cloFrom X.env.cells scope.names [])) s3.heap.objs.size X.env = ce at *
  have place : ce.locals = s3.heap.objs.size := by rw [← hce]; rfl
  show codeAny _ _ (.compStart (.SetComp elt [⟨tg, iter, ifs, 0⟩, ⟨tg1, iter1, ifs1, 0⟩] scope pos) 0 (.ref it) (.ref D) (compEnvC scope (cellsFrom (s3.heap.objs.size + 1) scope.names (cloFrom X.env.cells scope.names [])) s3.heap.objs.size X.env)) (compPost (model X.prog X.w) X.A X.xe use Qf (.ref D) s3.heap.objs.size) s4
  rw [hce]
  have st4 := T.keep _ _ s4.heap st3 fun b _ o e => by rw [← hS4]; exact pushCells_keeps _ _ _ _ (Heap.get?_push_of_some _ e)
  have none3 : ∀ b ∈ fp, H3 b = none := fun b hb => (f3 b hb).1.1
  have meet : ∀ {τ : L2.St} {G : Hp} {t : Shared}, Inv (X.blk s3 H3 scope ce fp) [] τ G t → (∀ b ∈ fp, G b = none) → ∀ b ∈ fp, FpOk (X.blk s3 H3 scope ce fp) [] G b := fun {τ G t} V no b hb =>
    ⟨no b hb, (V.ok.exf b hb).1, V.ok.exfs b hb, .inl hb, fun x c e => (V.ok.exf b hb).2 x c e, fun p hp => absurd (show p ∈ ([] : List (Addr × Obj)) ++ [] from hp) (by simp)⟩
  have around : codeAny (model X.prog X.w) X.A (.compLoop (.SetComp elt [⟨tg, iter, ifs, 0⟩, ⟨tg1, iter1, ifs1, 0⟩] scope pos) 0 (.ref it) (.ref D) ce) (compPost (model X.prog X.w) X.A X.xe use Qf (.ref D) s3.heap.objs.size) s4 := by
    refine sc2_loopA (fold1 ce) (fun m t => ∃ i G, Inv (X.blk s3 H3 scope ce fp) [] (wipe σ (own.map (·.2))) G t ∧ tn i t.heap ∧ (∀ b ∈ fp, G b = none) ∧ Z i m G) ?_ m0 ⟨0, H3, I4, st4, none3, z0⟩
    rintro m t5 ⟨i, G5, V5, w5, no5, z5⟩
    rcases turn i m G5 z5 with ⟨halt, want5⟩ | ⟨more, Y, fewer, step⟩
    · refine thnF (T.done (X.blk s3 H3 scope ce fp) rfl rfl rfl calm i [] t5 _ G5 (fun _ _ => False) V5 (meet V5 no5) w5 halt) fun r t6 ⟨er, V6⟩ => ?_
      subst er
      have V7 : Inv X pins σ G5 t6 := I3.call' (ch := fp) V6.os V6.base V6.hok V6.bare fun b hb => ⟨(f3 b hb).1.2.2.2.1, (f3 b hb).1.2.1, (f3 b hb).1.2.2.2.2.1, (f3 b hb).1.2.2.2.2.2⟩
      have gone : G5 s3.heap.objs.size = none := place ▸ (show G5 ce.locals = none from V6.free)
      obtain ⟨nm, ns6, _⟩ := V6.loc
      replace ns6 : t6.heap.Ns s3.heap.objs.size nm := place ▸ ns6
      exact last D s3.heap.objs.size t6 nm G5 V7 want5 ns6 (I3.fpOk (Nat.le_refl _) gone)
    · refine thnF (T.item (X.blk s3 H3 scope ce fp) rfl rfl rfl calm i [] t5 _ G5 (fun _ _ => False) V5 (meet V5 no5) w5 more) fun r t6 ⟨u, er, rest⟩ => ?_
      subst er
      refine thnF rest fun _ t7 ⟨x, G7, V7, r7, y7, w7, no7⟩ => ?_
      refine thnF (pg0.run _ t7 _ G7 x u _ (V7.pinned (meet V7 no7) (T.obj _ _ w7)) r7 (step x G7 y7)) fun _ t8 ⟨τ, G8, V8, same8, q8⟩ => ?_
      refine thnF (pt0.run _ t8 τ G8 _ V8 q8) fun b t9 ⟨G9, V9, q9⟩ => ?_
      have wend : ∀ {τ' : St} {tz : Shared} {Gz : Hp}, Inv (X.blk s3 H3 scope ce fp) ([] ++ pinsAt fp t7.heap) τ' Gz tz → (wipe σ (own.map (·.2))).length = τ'.length → (∀ (j : Nat) v, (wipe σ (own.map (·.2)))[j]? = some (some v) → τ'[j]? = some (some v)) → Y Gz →
          ∃ l, l < m ∧ ∃ i G, Inv (X.blk s3 H3 scope ce fp) [] (wipe σ (own.map (·.2))) G tz ∧ tn i tz.heap ∧ (∀ b ∈ fp, G b = none) ∧ Z i l G := fun {τ' tz Gz} Vz long kn yz => by
        obtain ⟨l, lt, zl⟩ := fewer Gz yz
        have kept : ∀ b ∈ fp, ∀ o, t7.heap.get? b = some o → tz.heap.get? b = some o ∧ Gz b = none := fun b hb o e =>
          let k := Vz.pin (b, o) (List.mem_append_right _ (List.mem_append_right _ (mem_pinsAt hb e)))
          ⟨k.1, k.2.1⟩
        refine ⟨l, lt, i + 1, Gz, (Vz.unpinned (pins := [])).weak long kn, T.keep _ _ _ w7 fun b hb o e => (kept b hb o e).1, fun b hb => ?_, zl⟩
        obtain ⟨o, e, _⟩ := T.obj _ _ w7 b hb
        exact (kept b hb o e).2
      have long8 : (wipe σ (own.map (·.2))).length = τ.length := by rw [← same8, wipe_length]
      have kn8 : ∀ (j : Nat) v, (wipe σ (own.map (·.2)))[j]? = some (some v) → τ[j]? = some (some v) := fun j v e => (wipe_some (same8 ▸ e)).1
      have kn9 : ∀ (j : Nat) v, (wipe σ (own.map (·.2)))[j]? = some (some v) → (wipe τ vs1)[j]? = some (some v) := fun j v e => by
        obtain ⟨e1, e2⟩ := wipe_some (same8 ▸ e)
        rwa [wipe_out fun z => e2 (less j z)]
      cases b with
      | false => exact wend V9 long8 kn8 q9
      | true =>
        refine thnF (pi1.run _ t9 τ G9 _ V9 q9) fun _ ta hx => thnF hx fun _ tb got1 => ?_
        obtain ⟨it1, fp1, tn1, J1, Gb, rfl, Vb, T1, stb, fb, Z1, ⟨m1, z1⟩, turn1⟩ := got1
        have meet1 : ∀ {G : Hp}, (∀ b ∈ fp1, G b = none) → ∀ b ∈ fp1, FpOk (X.blk s3 H3 scope ce fp) ([] ++ pinsAt fp t7.heap) G b := fun no b hb => ⟨no b hb, (fb b hb).2⟩
        have inside : codeAny (model X.prog X.w) X.A (.compLoop (.SetComp elt [⟨tg, iter, ifs, 0⟩, ⟨tg1, iter1, ifs1, 0⟩] scope pos) 1 (.ref it1) (.ref D) ce)
            (fun r tz => match r with
              | .ok _ => ∃ l, l < m ∧ ∃ i G, Inv (X.blk s3 H3 scope ce fp) [] (wipe σ (own.map (·.2))) G tz ∧ tn i tz.heap ∧ (∀ b ∈ fp, G b = none) ∧ Z i l G
              | .error _ => False) tb := by
          refine sc2_loopB (fun k t => ∃ j G, Inv (X.blk s3 H3 scope ce fp) ([] ++ pinsAt fp t7.heap) (wipe τ vs1) G t ∧ tn1 j t.heap ∧ (∀ b ∈ fp1, G b = none) ∧ Z1 j k G) ?_ m1 ⟨0, Gb, Vb.weak (wipe_length _ _) (fun j v e => (wipe_some e).1), stb, fun b hb => (fb b hb).1, z1⟩
          rintro k tc ⟨j, Gc, Vc, stc, noc, zc⟩
          rcases turn1 j k Gc zc with ⟨halt1, y1⟩ | ⟨more1, Y1, fewer1, step1⟩
          · refine thnF (T1.done (X.blk s3 H3 scope ce fp) rfl rfl rfl calm j _ tc (wipe τ vs1) Gc (fun _ _ => False) Vc (meet1 noc) stc halt1) fun r td ⟨er, Vd⟩ => ?_
            subst er
            exact wend Vd (long8.trans (wipe_length τ vs1).symm) kn9 y1
          · refine thnF (T1.item (X.blk s3 H3 scope ce fp) rfl rfl rfl calm j _ tc (wipe τ vs1) Gc (fun _ _ => False) Vc (meet1 noc) stc more1) fun r td ⟨u1, er, rest1⟩ => ?_
            subst er
            refine thnF rest1 fun _ tf ⟨x1, Gf, Vf, rf, yf, stf, nof⟩ => ?_
            refine thnF (pg1.run _ tf (wipe τ vs1) Gf x1 u1 _ (Vf.pinned (meet1 nof) (T1.obj _ _ stf)) rf (step1 x1 Gf yf)) fun _ tg ⟨τ1, Gg, Vg, sameg, qg⟩ => ?_
            refine thnF (pt1.run _ tg τ1 Gg _ Vg qg) fun b1 th ⟨Gh, Vh, qh⟩ => ?_
            have wend1 : ∀ {tz : Shared} {Gz : Hp}, Inv (X.blk s3 H3 scope ce fp) (([] ++ pinsAt fp t7.heap) ++ pinsAt fp1 tf.heap) τ1 Gz tz → Y1 Gz → ∃ l, l < k ∧ ∃ j G, Inv (X.blk s3 H3 scope ce fp) ([] ++ pinsAt fp t7.heap) (wipe τ vs1) G tz ∧ tn1 j tz.heap ∧ (∀ b ∈ fp1, G b = none) ∧ Z1 j l G := fun {tz Gz} Vz yz => by
              obtain ⟨l, lt, zl⟩ := fewer1 Gz yz
              have kept : ∀ b ∈ fp1, ∀ o, tf.heap.get? b = some o → tz.heap.get? b = some o ∧ Gz b = none := fun b hb o e =>
                let k := Vz.pin (b, o) (List.mem_append_right _ (List.mem_append_right _ (mem_pinsAt hb e)))
                ⟨k.1, k.2.1⟩
              refine ⟨l, lt, j + 1, Gz, Vz.unpinned.weak (by rw [← sameg, wipe_length]) (fun j v e => (wipe_some (sameg ▸ e)).1), T1.keep _ _ _ stf fun b hb o e => (kept b hb o e).1, fun b hb => ?_, zl⟩
              obtain ⟨o, e, _⟩ := T1.obj _ _ stf b hb
              exact (kept b hb o e).2
            cases b1 with
            | false => exact wend1 Vh qh
            | true =>
              refine thnF (pe0.run _ th τ1 Gh _ Vh qh) fun z ti ⟨yv, Gi, Vi, ri, c, S0, n0, ey, at_, roomy, nxt⟩ => ?_
              subst ey
              exact setPut_int (X := X.blk s3 H3 scope ce fp) Vi at_ roomy ri fun tj Vj => wend1 Vj nxt
        exact sc2_startB inside (T1.self X.A 0 _ _ _ stb inside)
  exact PpSet.codeAny_compStart_set around (T.self X.A 0 _ _ _ st4 around)
theorem pe_scI2 {elt tg iter tg1 iter1 : Expr} {ifs ifs1 : List Expr} {scope : Scope} {own : List (PySem.Str × Nat)} {vs1 : List Nat} {pos : Pos} {wi wi1 : TI} {g g1 : TG} {tt tt1 : TT} {te : TE} (calm : X.calm = true) (nd : X.N.Nodup) (it0 : PI X tg iter wi) (ok : BlkOk X.N X.env.scope scope own) (less : ∀ i ∈ vs1, i ∈ own.map (·.2))
    (pg0 : ∀ (s0 : Shared) (G : Hp) (C : Addr) (cl : List (PySem.Str × Addr)) (fp : List Addr), PG (X.blk s0 G scope (compEnvC scope cl C X.env) fp) tg g)
    (pt0 : ∀ (s0 : Shared) (G : Hp) (C : Addr) (cl : List (PySem.Str × Addr)) (fp : List Addr), PTs (X.blk s0 G scope (compEnvC scope cl C X.env) fp) ifs tt)
    (pi1 : ∀ (s0 : Shared) (G : Hp) (C : Addr) (cl : List (PySem.Str × Addr)) (fp : List Addr), PI (X.blk s0 G scope (compEnvC scope cl C X.env) fp) tg1 iter1 wi1)
    (pg1 : ∀ (s0 : Shared) (G : Hp) (C : Addr) (cl : List (PySem.Str × Addr)) (fp : List Addr), PG (X.blk s0 G scope (compEnvC scope cl C X.env) fp) tg1 g1)
    (pt1 : ∀ (s0 : Shared) (G : Hp) (C : Addr) (cl : List (PySem.Str × Addr)) (fp : List Addr), PTs (X.blk s0 G scope (compEnvC scope cl C X.env) fp) ifs1 tt1)
    (pe0 : ∀ (s0 : Shared) (G : Hp) (C : Addr) (cl : List (PySem.Str × Addr)) (fp : List Addr), PE (X.blk s0 G scope (compEnvC scope cl C X.env) fp) elt te) (fold : ∀ x, foldedSetIterable iter X.env x = pure x := by intro _; rfl) (fold1 : ∀ en x, foldedSetIterable iter1 en x = pure x := by intro _ _; rfl) :
    PE X (.SetComp elt [⟨tg, iter, ifs, 0⟩, ⟨tg1, iter1, ifs1, 0⟩] scope pos) (tScI2 X.w wi g tt wi1 g1 tt1 te (own.map (·.2)) vs1) := by
  refine ⟨fun pins s σ H Q I0 want => ?_⟩
  rw [PpSet.eval_SetComp]
  refine scI2_gen calm nd it0 ok less pg0 pt0 pi1 pg1 pt1 pe0 fold fold1  I0 want fun D C s' m H' J q ns f => ⟨m, ns, fun h'' sb => ?_⟩
  obtain ⟨g0, g1, g2, g3, g4, g5⟩ := f
  exact ⟨.ref D, H', J.turned (t' := s'.toks) (fun b o ne e => (sb.2 b ne).trans e) g0 g1 g3 g4 g5, rfl, q⟩
theorem ps_scI2 {i : Nat} {y : PySem.Str} {py spos : Pos} {elt tg iter tg1 iter1 : Expr} {ifs ifs1 : List Expr} {scope : Scope} {own : List (PySem.Str × Nat)} {vs1 : List Nat} {pos : Pos} {wi wi1 : TI} {g g1 : TG} {tt tt1 : TT} {te : TE} (calm : X.calm = true) (nd : X.N.Nodup) (hy : X.N[i]? = some y) (loc : X.env.scope.names.lookup y = some .local) (swap : swapsWith (.SetComp elt [⟨tg, iter, ifs, 0⟩, ⟨tg1, iter1, ifs1, 0⟩] scope pos) (some (.Name y py)) spos.line X.env = pure true) (it0 : PI X tg iter wi) (ok : BlkOk X.N X.env.scope scope own) (less : ∀ i ∈ vs1, i ∈ own.map (·.2))
    (pg0 : ∀ (s0 : Shared) (G : Hp) (C : Addr) (cl : List (PySem.Str × Addr)) (fp : List Addr), PG (X.blk s0 G scope (compEnvC scope cl C X.env) fp) tg g)
    (pt0 : ∀ (s0 : Shared) (G : Hp) (C : Addr) (cl : List (PySem.Str × Addr)) (fp : List Addr), PTs (X.blk s0 G scope (compEnvC scope cl C X.env) fp) ifs tt)
    (pi1 : ∀ (s0 : Shared) (G : Hp) (C : Addr) (cl : List (PySem.Str × Addr)) (fp : List Addr), PI (X.blk s0 G scope (compEnvC scope cl C X.env) fp) tg1 iter1 wi1)
    (pg1 : ∀ (s0 : Shared) (G : Hp) (C : Addr) (cl : List (PySem.Str × Addr)) (fp : List Addr), PG (X.blk s0 G scope (compEnvC scope cl C X.env) fp) tg1 g1)
    (pt1 : ∀ (s0 : Shared) (G : Hp) (C : Addr) (cl : List (PySem.Str × Addr)) (fp : List Addr), PTs (X.blk s0 G scope (compEnvC scope cl C X.env) fp) ifs1 tt1)
    (pe0 : ∀ (s0 : Shared) (G : Hp) (C : Addr) (cl : List (PySem.Str × Addr)) (fp : List Addr), PE (X.blk s0 G scope (compEnvC scope cl C X.env) fp) elt te) (fold : ∀ x, foldedSetIterable iter X.env x = pure x := by intro _; rfl) (fold1 : ∀ en x, foldedSetIterable iter1 en x = pure x := by intro _ _; rfl) :
    PS X (.Assign [.Name y py] (.SetComp elt [⟨tg, iter, ifs, 0⟩, ⟨tg1, iter1, ifs1, 0⟩] scope pos) spos) (tAsg (tScI2 X.w wi g tt wi1 g1 tt1 te (own.map (·.2)) vs1) (gName i)) := by
  refine ⟨fun pins s σ H D I0 want => ?_⟩
  rw [exec_Assign_Name_used _ _ _ _ swap]
  refine wpAny_bind (wpAny_standAt (wpAny_bind ?_))
  show wpAny _ X.A (do let _ ← comprehension (.SetComp elt [⟨tg, iter, ifs, 0⟩, ⟨tg1, iter1, ifs1, 0⟩] scope pos) scope X.env (firstIterPos [⟨tg, iter, ifs, 0⟩, ⟨tg1, iter1, ifs1, 0⟩] pos) (newSet (.type "set")) false (eval iter X.env) (some (assign (.Name y py) X.env))) _ _ s
  replace want : (tScI2 X.w wi g tt wi1 g1 tt1 te (own.map (·.2)) vs1) σ H (fun x G => gName i x σ G D.nx) := want
  refine wpAny_bind (thn (scI2_gen (Qf := fun _ t => SP X pins D .next t) calm nd it0 ok less pg0 pt0 pi1 pg1 pt1 pe0 fold fold1  I0 want fun L C t m G J q ns f => ?_) fun _ t hq => wpAny_pure (wpAny_pure hq))
  show wpAny _ _ (assign (.Name y py) X.env (.ref L)) _ _ _
  refine wpAny_assign_Name (store_ok2 (v := V.ref L) J nd hy (.inl loc) rfl (fun t2 J2 ⟨a, sb, ha⟩ => ?_) (.inr loc))
  obtain ⟨g0, g1, g2, g3, g4, g5⟩ := f
  have away : C ≠ a := by
    rcases ha with z | z
    · exact z ▸ g1
    · exact fun e => g4 y a z e.symm
  exact ⟨m, ns.sameBut sb away, fun h3 sb3 => ⟨_, G, J2.turned (t' := t2.toks) (fun b o ne e => (sb3.2 b ne).trans e) g0 g1 g3 g4 g5, q⟩⟩
end
end L2
/-! ### a set of ints as what was put in, in order -/
namespace L2
open PySem PySem.Spec PyProof.Rows
def insL (l : List Int) (c : Int) : List Int := if c ∈ l then l else l ++ [c]
def ofL (xs : List Int) : List Int := xs.foldl insL []
theorem ofL_snoc {xs : List Int} {c : Int} : ofL (xs ++ [c]) = insL (ofL xs) c := by
  unfold ofL
  rw [List.foldl_append]
  rfl
theorem mem_insL {l : List Int} {c k : Int} : k ∈ insL l c ↔ k ∈ l ∨ k = c := by
  unfold insL
  split
  · rename_i h
    exact ⟨.inl, fun z => z.elim id fun e => e ▸ h⟩
  · simp
theorem mem_foldl : ∀ {xs l : List Int} {k : Int}, k ∈ xs.foldl insL l ↔ k ∈ l ∨ k ∈ xs
  | [], l, k => by simp
  | c :: xs, l, k => by
    rw [List.foldl_cons, mem_foldl (xs := xs), mem_insL, List.mem_cons]
    constructor
    · rintro ((h | h) | h)
      · exact .inl h
      · exact .inr (.inl h)
      · exact .inr (.inr h)
    · rintro (h | h | h)
      · exact .inl (.inl h)
      · exact .inl (.inr h)
      · exact .inr h
theorem mem_ofL {xs : List Int} {k : Int} : k ∈ ofL xs ↔ k ∈ xs := by
  unfold ofL
  rw [mem_foldl]
  simp
theorem nodup_insL {l : List Int} {c : Int} (h : l.Nodup) : (insL l c).Nodup := by
  unfold insL
  split
  · exact h
  · rename_i hc
    refine List.nodup_append.mpr ⟨h, by simp, ?_⟩
    intro a ha b hb e
    rw [List.mem_singleton] at hb
    exact hc (hb ▸ e ▸ ha)
theorem nodup_foldl : ∀ {xs l : List Int}, l.Nodup → (xs.foldl insL l).Nodup
  | [], _, h => h
  | _ :: xs, _, h => nodup_foldl (xs := xs) (nodup_insL h)
theorem nodup_ofL {xs : List Int} : (ofL xs).Nodup := nodup_foldl List.nodup_nil
theorem len_insL {l : List Int} {c : Int} : (insL l c).length ≤ l.length + 1 := by
  unfold insL
  split
  · exact Nat.le_succ _
  · simp
theorem len_foldl : ∀ {xs l : List Int}, (xs.foldl insL l).length ≤ l.length + xs.length
  | [], _ => Nat.le_refl _
  | c :: xs, l => by
    have a := len_foldl (xs := xs) (l := insL l c)
    have b := len_insL (l := l) (c := c)
    rw [List.foldl_cons, List.length_cons]
    omega
theorem len_ofL {xs : List Int} : (ofL xs).length ≤ xs.length := by
  have := len_foldl (xs := xs) (l := [])
  unfold ofL
  simpa using this
/-- distinct ints from 0 on below M are at most M -/
theorem nodup_le : ∀ {M : Nat} {l : List Int}, l.Nodup → (∀ x ∈ l, 0 ≤ x ∧ x < (M : Int)) → l.length ≤ M
  | 0, l, _, h => by
    cases l with
    | nil => exact Nat.le_refl _
    | cons a l => have := h a List.mem_cons_self; omega
  | M + 1, l, nd, h => by
    have e1 : (l.filter (fun x => decide (x ≠ (M : Int)))).length ≤ M := nodup_le (nd.filter _) fun x hx => by
      obtain ⟨a, b⟩ := List.mem_filter.mp hx
      have := h x a
      have := of_decide_eq_true b
      omega
    have e2 : (l.filter (fun x => decide (x = (M : Int)))).length ≤ 1 := by
      match hf : l.filter (fun x => decide (x = (M : Int))) with
      | [] => exact Nat.zero_le _
      | [_] => exact Nat.le_refl _
      | a :: b :: r =>
        have n2 : (a :: b :: r).Nodup := hf ▸ nd.filter _
        have ha : a ∈ l.filter (fun x => decide (x = (M : Int))) := by rw [hf]; exact List.mem_cons_self
        have hb : b ∈ l.filter (fun x => decide (x = (M : Int))) := by rw [hf]; exact List.mem_cons_of_mem _ List.mem_cons_self
        have ea := of_decide_eq_true (List.mem_filter.mp ha).2
        have eb := of_decide_eq_true (List.mem_filter.mp hb).2
        have := (List.nodup_cons.mp n2).1
        rw [ea, eb] at this
        exact absurd List.mem_cons_self this
    have e3 : l.length = (l.filter (fun x => decide (x = (M : Int)))).length + (l.filter (fun x => decide (x ≠ (M : Int)))).length := by
      clear h e1 e2 nd
      induction l with
      | nil => rfl
      | cons a l ih =>
        by_cases z : a = (M : Int)
        · simp [z, ih]
          omega
        · simp [z, ih]
          omega
    omega
theorem ofL_le {M : Nat} {xs : List Int} (h : ∀ x ∈ xs, 0 ≤ x ∧ x < (M : Int)) : (ofL xs).length ≤ M := nodup_le nodup_ofL fun x hx => h x (mem_ofL.mp hx)
section
variable {w : World} {σ : St} {H : Hp} {Q : VK} {K : PySem.W.Frag} {te : TE} {tt : TT}
/-- the heap with the set of what stands in xs at D -/
def SetL (w : World) (H : Hp) (D : Addr) (xs : List Int) : Hp := upd H D (SetO w D (inS (ofL xs)) (ofL xs).length)
theorem SetL.at {D : Addr} {xs : List Int} : SetL w H D xs D = some (SetO w D (inS (ofL xs)) (ofL xs).length) := upd_same
theorem SetL.same {D : Addr} {xs : List Int} (h : H D = none) : Same H (SetL w H D xs) := same_new h
theorem SetL.nt {D : Addr} {xs : List Int} (h : NoT H) : NoT (SetL w H D xs) := NoT.upd h rfl
theorem SetL.nil {D : Addr} : upd H D (SetO w D setNo 0) = SetL w H D [] := by rw [← inS_nil]; rfl
theorem SetL.put {D : Addr} {xs : List Int} {c : Int} : upd (SetL w H D xs) D (SetO w D (fun j => inS (ofL xs) j || decide (j = c)) (if inS (ofL xs) c = true then (ofL xs).length else (ofL xs).length + 1)) = SetL w H D (xs ++ [c]) := by
  unfold SetL
  rw [upd_upd, ofL_snoc, inS_snoc]
  by_cases h : c ∈ ofL xs
  · have e1 : inS (ofL xs) c = true := decide_eq_true h
    have e2 : inS (ofL xs ++ [c]) = inS (ofL xs) := by
      funext k
      refine decide_eq_decide.mpr ?_
      rw [List.mem_append, List.mem_singleton]
      exact ⟨fun z => z.elim id fun e => e ▸ h, .inl⟩
    rw [if_pos e1, e2, show insL (ofL xs) c = ofL xs from if_pos h]
  · have e1 : ¬ inS (ofL xs) c = true := fun z => h (of_decide_eq_true z)
    rw [if_neg e1, show insL (ofL xs) c = ofL xs ++ [c] from if_neg h, List.length_append]
    rfl
/-- what is put in: the set then holds xs -/
def ScP (w : World) (H : Hp) (D : Addr) (xs : List Int) : VK := fun y G => ∃ (c : Int) (S : Int → Bool) (n : Nat), y = .int c ∧ G D = some (SetO w D S n) ∧ n + 1 < scanBound ∧
  upd G D (SetO w D (fun j => S j || decide (j = c)) (if S c = true then n else n + 1)) = SetL w H D xs
theorem put_P2 {D : Addr} {xs ys : List Int} {c : Int} {y : V} (hy : y = .int c) (hm : (ofL xs).length < 4095) (hl : ys = xs ++ [c]) : ScP w H D ys y (SetL w H D xs) :=
  ⟨c, _, _, hy, upd_same, Nat.succ_lt_succ hm, by rw [hl]; exact SetL.put⟩
theorem rd_scRL {lo : Int} {n : Nat} {g : TG} {vs : List Nat} (f : Nat → Int)
    (hs : ∀ D i, H D = none → i < n → g (.int (lo + i)) (wipe σ vs) (SetL w H D ((List.range i).map f)) fun σ2 H2 => wipe σ2 vs = wipe σ vs ∧ te σ2 H2 (ScP w H D ((List.range (i + 1)).map f)))
    (q : ∀ D, H D = none → Q (.ref D) (SetL w H D ((List.range n).map f))) : scB w (Itr lo n) g tYes te vs σ Q H := by
  intro D hD
  refine ⟨fun i m G => m = n - i ∧ i ≤ n ∧ G = SetL w H D ((List.range i).map f), ⟨n, by simp, Nat.zero_le _, SetL.nil⟩, ?_⟩
  rintro i m G ⟨rfl, hi, rfl⟩
  by_cases lt : i < n
  · refine .inr ⟨lt, fun G' => G' = SetL w H D ((List.range (i + 1)).map f), fun G' e => ⟨n - (i + 1), by omega, rfl, lt, e⟩, fun x G' y => ?_⟩
    obtain ⟨e, y⟩ := y
    subst e y
    exact hs D i hD lt
  · have e : i = n := by omega
    subst e
    exact .inl ⟨Nat.le_refl _, q D hD⟩
/-- over a list that stands still -/
theorem rd_scLL {a : Addr} {vsx : List V} {g : TG} {vs : List Nat} (f : V → Int) (hS : SqL K H a vsx)
    (hs : ∀ D l x r, H D = none → vsx = l ++ x :: r → g x (wipe σ vs) (SetL w H D (l.map f)) fun σ2 H2 => wipe σ2 vs = wipe σ vs ∧ te σ2 H2 (ScP w H D ((l ++ [x]).map f)))
    (q : ∀ D, H D = none → Q (.ref D) (SetL w H D (vsx.map f))) : scB w (Itl K a) g tYes te vs σ Q H := by
  intro D hD
  refine ⟨fun i m G => m = vsx.length - i ∧ i ≤ vsx.length ∧ G = SetL w H D ((vsx.take i).map f), ⟨vsx.length, by simp, Nat.zero_le _, SetL.nil⟩, ?_⟩
  rintro i m G ⟨rfl, hi, rfl⟩
  have hS' : SqL K (SetL w H D ((vsx.take i).map f)) a vsx := (SetL.same hD).seq hS
  by_cases hlt : i < vsx.length
  · have hx : vsx[i]? = some vsx[i] := by simp [hlt]
    have er : vsx.take (i + 1) = vsx.take i ++ [vsx[i]] := by rw [List.take_add_one, hx]; rfl
    refine .inr ⟨⟨vsx, vsx[i], hS', hx⟩, fun G' => G' = SetL w H D ((vsx.take (i + 1)).map f), fun G' e => ⟨vsx.length - (i + 1), by omega, rfl, hlt, e⟩, fun x G' y => ?_⟩
    obtain ⟨e, y⟩ := y
    subst e
    have ex : x = vsx[i] := Option.some.inj ((y vsx hS').symm.trans hx)
    subst ex
    have z := hs D (vsx.take i) vsx[i] (vsx.drop (i + 1)) hD (by rw [List.getElem_cons_drop, List.take_append_drop])
    rw [← er] at z
    exact z
  · have e : i = vsx.length := by omega
    subst e
    rw [List.take_length]
    exact .inl ⟨⟨vsx, (SetL.same hD).seq hS, Nat.le_refl _⟩, q D hD⟩
/-- two clauses -/
def sc2B (w : World) (J : It) (g : TG) (tt : TT) (wi1 : TI) (g1 : TG) (tt1 : TT) (te : TE) (vs vs1 : List Nat) (σ : St) (Q : VK) (H1 : Hp) : Prop := ∀ D, H1 D = none → ∃ Z : Nat → Nat → Hp → Prop, (∃ m, Z 0 m (upd H1 D (SetO w D setNo 0))) ∧ ∀ i m G, Z i m G →
  (J.stop i G ∧ Q (.ref D) G) ∨ (J.go i G ∧ ∃ Y : Hp → Prop, (∀ G', Y G' → ∃ l, l < m ∧ Z (i + 1) l G') ∧ ∀ x G', J.yld i G x G' → g x (wipe σ vs) G' fun σ2 G2 => wipe σ2 vs = wipe σ vs ∧ tt σ2 G2 fun b G3 =>
    if b = true then wi1 σ2 G3 (sc2_inner w D g1 tt1 te vs1 σ2 Y) else Y G3)
instance st_scI2 {wi wi1 : TI} {g g1 : TG} {tt1 : TT} {vs vs1 : List Nat} : Stp (tScI2 w wi g tt wi1 g1 tt1 te vs vs1 σ H Q) (wi σ H fun J H1 => sc2B w J g tt wi1 g1 tt1 te vs vs1 σ Q H1) := ⟨fun h => h⟩
def rowsL (f : Nat → Nat → Int) (m : Nat) : Nat → List Int
  | 0 => []
  | i + 1 => rowsL f m i ++ (List.range m).map (f i)
theorem mem_rowsL {f : Nat → Nat → Int} {m : Nat} {k : Int} : ∀ {n : Nat}, k ∈ rowsL f m n ↔ ∃ i j, i < n ∧ j < m ∧ f i j = k
  | 0 => by simp [rowsL]
  | n + 1 => by
    rw [rowsL, List.mem_append, mem_rowsL (n := n), List.mem_map]
    constructor
    · rintro (⟨i, j, a, b, c⟩ | ⟨j, a, b⟩)
      · exact ⟨i, j, by omega, b, c⟩
      · exact ⟨n, j, by omega, List.mem_range.mp a, b⟩
    · rintro ⟨i, j, a, b, c⟩
      by_cases e : i = n
      · subst e
        exact .inr ⟨j, List.mem_range.mpr b, c⟩
      · exact .inl ⟨i, j, by omega, b, c⟩
theorem rd_sc2R {lo : Int} {n m : Nat} {g g1 : TG} {wi1 : TI} {vs vs1 : List Nat} (f : Nat → Nat → Int)
    (hs : ∀ D i, H D = none → i < n → g (.int (lo + i)) (wipe σ vs) (SetL w H D (rowsL f m i)) fun σ2 H2 => wipe σ2 vs = wipe σ vs ∧ wi1 σ2 H2 (sc2_inner w D g1 tYes te vs1 σ2 fun G => G = SetL w H D (rowsL f m (i + 1))))
    (q : ∀ D, H D = none → Q (.ref D) (SetL w H D (rowsL f m n))) : sc2B w (Itr lo n) g tYes wi1 g1 tYes te vs vs1 σ Q H := by
  intro D hD
  refine ⟨fun i m' G => m' = n - i ∧ i ≤ n ∧ G = SetL w H D (rowsL f m i), ⟨n, by simp, Nat.zero_le _, SetL.nil⟩, ?_⟩
  rintro i m' G ⟨rfl, hi, rfl⟩
  by_cases lt : i < n
  · refine .inr ⟨lt, fun G' => G' = SetL w H D (rowsL f m (i + 1)), fun G' e => ⟨n - (i + 1), by omega, rfl, lt, e⟩, fun x G' y => ?_⟩
    obtain ⟨e, y⟩ := y
    subst e y
    exact hs D i hD lt
  · have e : i = n := by omega
    subst e
    exact .inl ⟨Nat.le_refl _, q D hD⟩
theorem rd_sc2in {lo : Int} {m : Nat} {g1 : TG} {vs1 : List Nat} {D : Addr} {xs zs : List Int} {H0 : Hp} (f : Nat → Int) (hz : zs = xs ++ (List.range m).map f)
    (hs : ∀ j, j < m → g1 (.int (lo + j)) (wipe σ vs1) (SetL w H0 D (xs ++ (List.range j).map f)) fun σ3 H5 => wipe σ3 vs1 = wipe σ vs1 ∧ te σ3 H5 (ScP w H0 D (xs ++ (List.range (j + 1)).map f))) :
    sc2_inner w D g1 tYes te vs1 σ (fun G => G = SetL w H0 D zs) (Itr lo m) (SetL w H0 D xs) := by
  subst hz
  refine ⟨fun j k G => k = m - j ∧ j ≤ m ∧ G = SetL w H0 D (xs ++ (List.range j).map f), ⟨m, by simp, Nat.zero_le _, by simp⟩, ?_⟩
  rintro j k G ⟨rfl, hj, rfl⟩
  by_cases lt : j < m
  · refine .inr ⟨lt, fun G' => G' = SetL w H0 D (xs ++ (List.range (j + 1)).map f), fun G' e => ⟨m - (j + 1), by omega, rfl, lt, e⟩, fun x G' y => ?_⟩
    obtain ⟨e, y⟩ := y
    subst e y
    exact hs j lt
  · have e : j = m := by omega
    subst e
    exact .inl ⟨Nat.le_refl _, rfl⟩
theorem row_snoc {xs : List Int} {f : Nat → Int} {j : Nat} : xs ++ (List.range (j + 1)).map f = (xs ++ (List.range j).map f) ++ [f j] := by
  rw [range_snoc, List.append_assoc]
/-- sorted of the set of xs -/
theorem rd_sortSL {D : Addr} {xs : List Int} {H' : Hp} (hD : H' D = some (SetO w D (inS (ofL xs)) (ofL xs).length)) (q : ∀ (ns : List Int) (p : Addr), ns.Pairwise (· < ·) → (∀ k, k ∈ ns ↔ k ∈ xs) → H' p = none → Q (.ref p) (upd H' p (.lst (ns.map V.int)))) : rSortSetN w [.ref D] H' Q :=
  rd_sortSetN hD fun ns p h1 h2 hp => q ns p h1 (fun k => by rw [h2 k, mem_ofL]) hp
end
end L2
namespace L2
open PySem PySem.Spec PyProof.Rows
/-! ### list comprehensions over a list of ints -/
section
variable {σ : St} {H : Hp} {Q : VK} {K : PySem.W.Frag} {te : TE} {tt : TT}
def resI (p : Int → Bool) (f : Int → V) (ns : List Int) : List V := (ns.filter p).map f
theorem resI_len {p : Int → Bool} {f : Int → V} {ns : List Int} : (resI p f ns).length ≤ ns.length := by
  unfold resI
  rw [List.length_map]
  exact List.length_filter_le _ _
theorem put_I {D : Addr} {p : Int → Bool} {f : Int → V} {l : List Int} {x : Int} {y : V} (hi : l.length < 1000000) (hp : p x = true) (hy : y = f x) : LcPut H D (resI p f l) (resI p f (l ++ [x])) y (upd H D (.lst (resI p f l))) := by
  refine ⟨_, upd_same, Nat.lt_of_le_of_lt resI_len (Nat.lt_trans hi (by decide)), ?_⟩
  rw [upd_upd]
  unfold resI
  rw [List.filter_append, List.map_append, hy]
  simp [hp]
theorem skip_I {D : Addr} {p : Int → Bool} {f : Int → V} {l : List Int} {x : Int} (hp : p x = false) : LcSkip H D (resI p f (l ++ [x])) (upd H D (.lst (resI p f l))) := by
  show upd H D _ = _
  unfold resI
  rw [List.filter_append, List.map_append]
  simp [hp]
theorem rd_lcI {a : Addr} {ns : List Int} {g : TG} {vs : List Nat} (p : Int → Bool) (f : Int → V) (hS : SqL K H a (ns.map V.int))
    (hs : ∀ D l x r, H D = none → ns = l ++ x :: r → g (.int x) (wipe σ vs) (upd H D (.lst (resI p f l))) fun σ2 H2 => wipe σ2 vs = wipe σ vs ∧ tt σ2 H2 fun b H3 => if b = true then te σ2 H3 (LcPut H D (resI p f l) (resI p f (l ++ [x]))) else LcSkip H D (resI p f (l ++ [x])) H3)
    (q : ∀ D, H D = none → Q (.ref D) (upd H D (.lst ((ns.filter p).map f)))) : lcB (Itl K a) g tt te vs σ Q H := by
  intro D hD
  refine ⟨fun i m H' => m = ns.length - i ∧ i ≤ ns.length ∧ H' = upd H D (.lst (resI p f (ns.take i))), ⟨ns.length, by simp, Nat.zero_le _, rfl⟩, ?_⟩
  rintro i m H' ⟨rfl, hi, rfl⟩
  have hS' : SqL K (upd H D (.lst (resI p f (ns.take i)))) a (ns.map V.int) := (same_new hD).seq hS
  by_cases hlt : i < ns.length
  · have hx : (ns.map V.int)[i]? = some (.int ns[i]) := by simp [hlt]
    have er : ns.take (i + 1) = ns.take i ++ [ns[i]] := by rw [List.take_add_one, List.getElem?_eq_getElem hlt]; rfl
    refine .inr ⟨⟨_, _, hS', hx⟩, fun H' => H' = upd H D (.lst (resI p f (ns.take (i + 1)))), fun H' p' => ⟨ns.length - (i + 1), by omega, rfl, hlt, p'⟩, fun x H' y => ?_⟩
    obtain ⟨e, y⟩ := y
    subst e
    have ex : x = .int ns[i] := Option.some.inj ((y _ hS').symm.trans hx)
    subst ex
    have z := hs D (ns.take i) ns[i] (ns.drop (i + 1)) hD (by rw [List.getElem_cons_drop, List.take_append_drop])
    rw [← er] at z
    exact z
  · have e : i = ns.length := by omega
    subst e
    rw [List.take_length]
    exact .inl ⟨⟨_, (same_new hD).seq hS, by rw [List.length_map]; exact Nat.le_refl _⟩, q D hD⟩
end
end L2

namespace L2
open PySem PySem.Spec PyProof.Rows
/-! ### making and methods within a try -/
section
variable {X : Cx} {k : Nat} {f C : Addr} {fd : FuncData} {ps : List PySem.Str} {sp : Sp} {x m : PySem.Str} {p pos apos : Pos} {e o : Expr} {es : List Expr} {ta : TE} {t : TA} {W : WX}
def tMakeT (C : Addr) (sp : Sp) (E : St → XK) (t : TA) : TE := fun σ H Q => t σ H fun vs H1 => ∀ x dx, H1 x = none → H1 dx = none → dx ≠ x → sp (.ref x :: vs) (upd (upd H1 dx (.own x)) x (.ins C dx [])) (fun v H2 => v = .non ∧ Q (.ref x) H2) (E σ)
theorem run_mkS {pins : List (Addr × Obj)} {σ : St} {H : Hp} {s : Shared} {Q : VK} {us : List Value} {vs : List V} (M : Mk X.K C f) (F : FnOk X.prog X.w X.K X.mg X.base (L2.CX X.prog X.w) k f fd ps sp) (hr : Room (k + 1) X.A) (hb : Binds X.K fd ps []) (tk : Takes X W) (I : Inv X pins σ H s) (r : Vals vs us)
    (h : ∀ x dx, H x = none → H dx = none → dx ≠ x → sp (.ref x :: vs) (upd (upd H dx (.own x)) x (.ins C dx [])) (fun v H2 => v = .non ∧ Q (.ref x) H2) (WE W σ)) :
    wpAny (model X.prog X.w) X.A (call (.ref C) us) (EP X pins σ Q) X.xe s := by
  have go := h (s.heap.objs.size + 1) s.heap.objs.size (I.hok.fresh (Nat.le_succ _)) (I.hok.fresh (Nat.le_refl _)) (Nat.ne_of_lt (Nat.lt_succ_self _))
  have J := Inv.made (C := C) I
  have rr : Vals (V.ref (s.heap.objs.size + 1) :: vs) (Value.ref (s.heap.objs.size + 1) :: us) := .cons rfl r
  have len : (Value.ref (s.heap.objs.size + 1) :: us).length = ps.length := rr.length.symm.trans (F.len _ _ _ _ go)
  have bs := hb _ (Value.ref (s.heap.objs.size + 1) :: us) J.kIn (by rw [List.append_nil]; exact len)
  rw [List.append_nil] at bs
  refine wpAny_call (make_map (f := f) I.kIn M.makes M.init (beq_iff_eq.mp M.fn) (codeAny_mono (F.run _ X.stack _ _ ⟨Value.ref (s.heap.objs.size + 1) :: us, []⟩ _ _ _ _ (hr.make C us []) (J.env0.make C us []) bs rr go) fun res t done => ?_))
  cases res with
  | error x => exact passAt tk σ pins _ _ x t J done
  | ok fl =>
    cases fl with
    | ret u =>
      obtain ⟨v, H', I3, rv, ev, q3⟩ := J.after done
      subst ev
      exact ⟨rv, V.ref (s.heap.objs.size + 1), H', I3, rfl, q3⟩
    | next => exact done.elim
    | brk => exact done.elim
    | cont => exact done.elim
theorem pe_mkdS (D : MkDef X.prog X.w X.K X.mg X.base k x C ps sp) (hr : Room (k + 1) X.A) (tk : Takes X W) (ha : PA X (e :: es) t) (hg : Gl X x := by rfl)
    (hdb : (x == ("__debug__" : PySem.Str)) = false := by decide) (he : starEach (e :: es) X.env = (false, eval e X.env) :: starEach es X.env := by rfl) (hpl : (backTo pos (starEach es X.env)).any (·.1) = false := by rfl) :
    PE X (.Call (.Name x p) (e :: es) [] pos) (tMakeT C sp (WE W) t) := by
  obtain ⟨f, fd, F, M, b⟩ := D.ex
  refine ⟨fun pins s σ H Q I h => wpAny_Call_Name_kw (ld_glob I hg D.g ?_ hdb)⟩
  exact PySem.W.callWith_K (h₀ := X.base) I.ok.mod.kin M.kp (thn (ha.run pos pins s σ H _ I h) fun us s1 ⟨vs, H1, I1, r, q⟩ => ⟨I1.kIn, run_mkS M F hr b tk I1 r q⟩) he hpl
instance st_makeS {σ : St} {H : Hp} {Q : VK} {E : St → XK} : Stp (tMakeT C sp E t σ H Q) (t σ H fun vs H1 => ∀ x dx, H1 x = none → H1 dx = none → dx ≠ x → sp (.ref x :: vs) (upd (upd H1 dx (.own x)) x (.ins C dx [])) (fun v H2 => v = .non ∧ Q (.ref x) H2) (E σ)) := ⟨fun h => h⟩
/-- o.m(e, ..) within a try -/
def tMethT (C : Addr) (m : PySem.Str) (sp : Sp) (E : St → XK) (ta : TE) (t : TA) : TE := fun σ H Q => ta σ H fun x H1 => ∃ a dx fs, x = .ref a ∧ H1 a = some (.ins C dx fs) ∧ fs.lookup m = none ∧ t σ H1 fun vs H2 => sp (x :: vs) H2 Q (E σ)
theorem pe_mdS {pl : Sem Bool} (D : MDef X.prog X.w X.K X.mg X.base k C m ps sp) (he : PE X o ta) (c : Cls X.K C) (hr : Room k X.A) (tk : Takes X W) (ha : PA X (e :: es) t)
    (hst : starEach (e :: es) X.env = (false, eval e X.env) :: starEach es X.env := by rfl) (hpl : (backTo pos (starEach es X.env)).any (·.1) = false := by rfl)
    (ht : eval (.Call (.Attribute o m apos) (e :: es) [] pos) X.env = (do
      let self ← eval o X.env
      standAt apos.atName
      let (g, ahead) ← holding [self] (getMethod self m pl)
      callWith pos g ahead (backTo pos (starEach (e :: es) X.env)) (backToKw pos (keywordEach [] X.env))) := by rfl) :
    PE X (.Call (.Attribute o m apos) (e :: es) [] pos) (tMethT C m sp (WE W) ta t) := by
  obtain ⟨f, fd, F, g, b⟩ := D.ex
  refine ⟨fun pins s σ H Q I h => PySem.W.methodCall_KW (pl := pl) (thn (he.run pins s σ H _ I h) fun u s1 ⟨x, H1, I1, rx, a, dx, fs, ex, at_, no, q⟩ => ?_) ht⟩
  subst ex
  obtain rfl : u = Value.ref a := rx
  refine getmeth_ok I1 at_ c g no ?_
  refine PySem.W.callWith_K (first := [.ref a]) (h₀ := X.base) I1.ok.mod.kin g.kp (thn (ha.run pos pins s1 σ H1 _ I1 q) fun us s2 ⟨vs, H2, I2, r, q2⟩ => ⟨I2.kIn, ?_⟩) hst hpl
  exact run_fnS (E := WE W) (us := .ref a :: us) (vs := .ref a :: vs) F hr b (passAt tk σ) I2 (.cons rfl r) q2
theorem pe_md0S {pl : Sem Bool} (D : MDef X.prog X.w X.K X.mg X.base k C m ps sp) (he : PE X o ta) (c : Cls X.K C) (hr : Room k X.A) (tk : Takes X W)
    (ht : eval (.Call (.Attribute o m apos) [] [] pos) X.env = (do
      let self ← eval o X.env
      standAt apos.atName
      let (g, ahead) ← holding [self] (getMethod self m pl)
      callWith pos g ahead (backTo pos (starEach [] X.env)) (backToKw pos (keywordEach [] X.env))) := by rfl) :
    PE X (.Call (.Attribute o m apos) [] [] pos) (tMethT C m sp (WE W) ta tNil) := by
  obtain ⟨f, fd, F, g, b⟩ := D.ex
  refine ⟨fun pins s σ H Q I h => PySem.W.methodCall_KW (pl := pl) (thn (he.run pins s σ H _ I h) fun u s1 ⟨x, H1, I1, rx, a, dx, fs, ex, at_, no, q⟩ => ?_) ht⟩
  subst ex
  obtain rfl : u = Value.ref a := rx
  refine getmeth_ok I1 at_ c g no ?_
  exact PySem.W.callWith_K0 (first := [.ref a]) I1.kIn g.kp (run_fnS (E := WE W) (us := [.ref a]) (vs := [.ref a]) F hr b (passAt tk σ) I1 (.cons rfl .nil) q)
instance st_methT {σ : St} {H : Hp} {Q : VK} {E : St → XK} : Stp (tMethT C m sp E ta t σ H Q) (ta σ H fun x H1 => ∃ a dx fs, x = .ref a ∧ H1 a = some (.ins C dx fs) ∧ fs.lookup m = none ∧ t σ H1 fun vs H2 => sp (x :: vs) H2 Q (E σ)) := ⟨fun h => h⟩
end
end L2
namespace L2
open PySem PySem.Spec PyProof.Rows
theorem upd_id {H : Hp} {p : Addr} {o : HO} (h : H p = some o) : upd H p o = H := funext fun b => by
  by_cases e : b = p
  · subst e
    rw [upd_same, h]
  · rw [upd_ne e]
section
variable {H : Hp} {Q : VK} {K : PySem.W.Frag} {a : Addr}
theorem rd_sortedI {ns : List Int} (h : SqL K H a (ns.map V.int)) (q : ∀ (ms : List Int) (p : Addr), ms.Perm ns → ms.Pairwise (· ≤ ·) → H p = none → Q (.ref p) (upd H p (.lst (ms.map V.int)))) : rSortedI K [.ref a] H Q := ⟨a, ns, rfl, h, q⟩
end
end L2

namespace L2
open PySem PySem.Spec PyProof.Rows
/-! ### dicts with ints as keys -/
section
variable {σ : St} {H : Hp} {Q : VK} {K : PySem.W.Frag} {v x y : V} {td ty tv : TE} {a : Addr} {i : Int} {kvs : List (Key × V)} {nx : St → Hp → Prop} {rt : VK} {bk ct : St → Hp → Prop}
instance st_dnewK : Stp (tDNewK σ H Q) (∀ p, H p = none → Q (.ref p) (upd H p (.dK []))) := ⟨fun h => h⟩
def rDGetV (Q : VK) : V → V → Hp → Prop := fun x y H => ∃ a v, x = .ref a ∧ DGet H a y (some v) ∧ Q v H
def rDInV (Q : VK) : V → V → Hp → Prop := fun x y H => ∃ a o, x = .ref a ∧ DGet H a y o ∧ Q (.bl o.isSome) H
def rDNinV (Q : VK) : V → V → Hp → Prop := fun x y H => ∃ a o, x = .ref a ∧ DGet H a y o ∧ Q (.bl (!o.isSome)) H
def rDPutV (S : Hp → Prop) : V → V → V → Hp → Prop := fun x y v H => ∃ a H4, x = .ref a ∧ DPut H a y v H4 ∧ S H4
instance st_dget : Stp (tDGet td ty σ H Q) (td σ H fun x H1 => ty σ H1 fun y H2 => rDGetV Q x y H2) := ⟨fun h => h⟩
instance st_din : Stp (tDIn ty td σ H Q) (ty σ H fun y H1 => td σ H1 fun x H2 => rDInV Q x y H2) := ⟨fun h => h⟩
instance st_dnotin : Stp (tDNotIn ty td σ H Q) (ty σ H fun y H1 => td σ H1 fun x H2 => rDNinV Q x y H2) := ⟨fun h => h⟩
instance st_dput : Stp (sDPut td ty tv ⟨nx, rt, bk, ct⟩ σ H) (tv σ H fun v H1 => td σ H1 fun x H2 => ty σ H2 fun y H3 => rDPutV (nx σ) x y v H3) := ⟨fun h => h⟩
theorem rd_dget1 (h : H a = some (.dK kvs)) (hv : valV kvs (.inl i) = some v) (q : Q v H) : rDGetV Q (.ref a) (.int i) H := ⟨a, v, rfl, hv ▸ DGet.k (k := .inl i) h, q⟩
theorem rd_din1 {b : Bool} (h : H a = some (.dK kvs)) (hb : (valV kvs (.inl i)).isSome = b) (q : Q (.bl b) H) : rDInV Q (.ref a) (.int i) H := ⟨a, _, rfl, DGet.k (k := .inl i) h, by rw [hb]; exact q⟩
theorem rd_dnotin1 {b : Bool} (h : H a = some (.dK kvs)) (hb : (valV kvs (.inl i)).isSome = b) (q : Q (.bl (!b)) H) : rDNinV Q (.ref a) (.int i) H := ⟨a, _, rfl, DGet.k (k := .inl i) h, by rw [hb]; exact q⟩
theorem rd_dput1 {S : Hp → Prop} (h : H a = some (.dK kvs)) (hl : kvs.length < sizeLine) (q : S (upd H a (.dK (putK kvs (.inl i) v)))) : rDPutV S (.ref a) (.int i) v H := ⟨a, _, rfl, DPut.k (k := .inl i) h hl, q⟩
/-! dicts of flags: {k: True for ..}; ks the keys, in order -/
def dFl (ks : List Int) : List (Key × V) := ks.map fun k => (.inl k, .bl true)
abbrev DFl (ks : List Int) : HO := .dK (dFl ks)
theorem dFl_len {ks : List Int} : (dFl ks).length = ks.length := List.length_map ..
theorem dFl_val {i : Int} : ∀ {ks : List Int}, (valV (dFl ks) (.inl i)).isSome = decide (i ∈ ks)
  | [] => by simp [dFl, valV]
  | k :: ks => by
    have ih := dFl_val (i := i) (ks := ks)
    by_cases e : k = i
    · subst e
      have : valV (dFl (k :: ks)) (.inl k) = some (.bl true) := valV_pos (p := ((Sum.inl k : Key), V.bl true)) (r := dFl ks) (k := Sum.inl k) rfl
      rw [this]
      simp
    · have : valV (dFl (k :: ks)) (.inl i) = valV (dFl ks) (.inl i) := valV_neg (p := ((Sum.inl k : Key), V.bl true)) (r := dFl ks) (k := Sum.inl i) fun z => e (Sum.inl.inj z)
      rw [this, ih]
      refine decide_eq_decide.mpr ?_
      rw [List.mem_cons]
      exact ⟨.inr, fun z => z.elim (fun z => absurd z.symm e) id⟩
theorem dFl_put {ks : List Int} {i : Int} : putK (dFl ks) (.inl i) (.bl true) = dFl (insL ks i) := by
  unfold insL
  by_cases h : i ∈ ks
  · rw [if_pos h]
    unfold putK
    rw [if_pos (by rw [valV_any, dFl_val, decide_eq_true h])]
    unfold dFl
    rw [List.map_map]
    refine List.map_congr_left fun k _ => ?_
    by_cases e : k = i
    · subst e
      simp
    · simp [e]
  · rw [if_neg h]
    have hn : valV (dFl ks) (.inl i) = none := by
      have := dFl_val (i := i) (ks := ks)
      rw [decide_eq_false h] at this
      cases hv : valV (dFl ks) (.inl i) with
      | none => rfl
      | some _ => rw [hv] at this; cases this
    rw [putK_new _ hn]
    unfold dFl
    rw [List.map_append]
    rfl
theorem dFl_keys {ks : List Int} : ((dFl ks).map fun kv => kV kv.1) = ks.map V.int := by
  unfold dFl
  rw [List.map_map]
  rfl
theorem rd_dinF {ks : List Int} (h : H a = some (DFl ks)) (q : Q (.bl (decide (i ∈ ks))) H) : rDInV Q (.ref a) (.int i) H := rd_din1 h dFl_val q
theorem rd_dnotinF {ks : List Int} (h : H a = some (DFl ks)) (q : Q (.bl (!decide (i ∈ ks))) H) : rDNinV Q (.ref a) (.int i) H := rd_dnotin1 h dFl_val q
theorem rd_dputF {ks : List Int} {S : Hp → Prop} (h : H a = some (DFl ks)) (hl : ks.length < 1000000) (q : S (upd H a (DFl (insL ks i)))) : rDPutV S (.ref a) (.int i) (.bl true) H :=
  rd_dput1 h (by rw [dFl_len]; exact Nat.lt_trans hl (by decide)) (by rw [dFl_put]; exact q)
def rListDo : List V → Hp → VK → Prop := fun xs H Q => ∃ (a : Addr) (kvs : List (Key × V)), xs = [.ref a] ∧ Rd H a (.dK kvs) ∧ ∀ p, H p = none → Q (.ref p) (upd H p (.lst (kvs.map fun kv => kV kv.1)))
theorem c_listD {X : Cx} (calm : X.calm = true) : CallR X (.type "list") rListDo := call_listD calm
theorem rd_listF {ks : List Int} (h : H a = some (DFl ks)) (q : ∀ p, H p = none → Q (.ref p) (upd H p (.lst (ks.map V.int)))) : rListDo [.ref a] H Q := ⟨a, dFl ks, rfl, .inl h, by rw [dFl_keys]; exact q⟩
/-- y in xs, data of any depth -/
theorem rd_inDp {d : PyData} {ds : List PyData} {p : Prop} [Decidable p] (h1 : Dp K H x d) (h2 : Dp K H y (.list ds)) (o1 : okD d 60 = true) (o2 : okDs ds 59 = true) (hp : d ∈ ds ↔ p) (q : Q (.bl (decide p)) H) : rInD K x y H Q := by
  have s2 : okD (.list ds) 60 = true := by simp [okD, o2]
  refine ⟨d, ds, h1, h2, okD_shaped o1, okD_shaped s2, ?_⟩
  have e : (ds.any fun z => PyData.eqv z d) = decide p := by
    rw [Bool.eq_iff_iff, List.any_eq_true, decide_eq_true_iff, ← hp]
    constructor
    · rintro ⟨z, hz, e⟩
      have oz : okD z 59 = true := by
        clear h2 hp s2 q
        induction ds with
        | nil => cases hz
        | cons b ds ih =>
          simp only [okDs, Bool.and_eq_true] at o2
          rcases List.mem_cons.mp hz with rfl | hz
          · exact o2.1
          · exact ih o2.2 hz
      rw [(okD_eqv z d 59 60 oz o1).mp e] at hz
      exact hz
    · intro hz
      have := (okD_eqv d d 60 60 o1 o1).mpr rfl
      exact ⟨d, hz, this⟩
  rw [e]
  exact q
theorem rd_notInDp {d : PyData} {ds : List PyData} {p : Prop} [Decidable p] (h1 : Dp K H x d) (h2 : Dp K H y (.list ds)) (o1 : okD d 60 = true) (o2 : okDs ds 59 = true) (hp : d ∈ ds ↔ p) (q : Q (.bl (!decide p)) H) : rNotInD K x y H Q := by
  obtain ⟨d', ds', a1, a2, a3, a4, a5⟩ := rd_inDp (Q := fun v H => ∃ b, v = .bl b ∧ Q (.bl (!b)) H) h1 h2 o1 o2 hp ⟨_, rfl, q⟩
  obtain ⟨b, e, q'⟩ := a5
  refine ⟨d', ds', a1, a2, a3, a4, ?_⟩
  rw [V.bl.inj e]
  exact q'
end
end L2
namespace L2
open PySem PySem.Spec PyProof.Rows
theorem room65 {k : Nat} {A : Around} (r : Room k A) : A.units + 65 < cLine := by
  have := r.un
  omega
end L2

namespace L2
open PySem PySem.Spec PyProof.Rows
/-! ### two roads for one expression -/
def tAlt (t u : TE) : TE := fun σ H Q => t σ H Q ∨ u σ H Q
def tAltT (t u : TT) : TT := fun σ H Q => t σ H Q ∨ u σ H Q
def iAlt (t u : TI) : TI := fun σ H S => t σ H S ∨ u σ H S
section
variable {X : Cx} {e tg : Expr}
theorem pe_alt {t u : TE} (h : PE X e t) (k : PE X e u) : PE X e (tAlt t u) := ⟨fun pins s σ H Q I z => z.elim (h.run pins s σ H Q I) (k.run pins s σ H Q I)⟩
theorem pt_alt {t u : TT} (h : PT X e t) (k : PT X e u) : PT X e (tAltT t u) := ⟨fun pins s σ H Q I z => z.elim (h.run pins s σ H Q I) (k.run pins s σ H Q I)⟩
theorem pi_alt {t u : TI} (h : PI X tg e t) (k : PI X tg e u) : PI X tg e (iAlt t u) := ⟨fun pins s σ H S I z => z.elim (h.run pins s σ H S I) (k.run pins s σ H S I)⟩
end
/-! ### operators of own classes -/
def rInO (C : Addr) (sp : Sp) (E : XK) : R2 := fun x y H Q => ∃ a dx fs, y = .ref a ∧ H a = some (.ins C dx fs) ∧ sp [.ref a, x] H (fun v H' => ∃ b, v = .bl b ∧ Q (.bl b) H') E
def rNinO (C : Addr) (sp : Sp) (E : XK) : R2 := fun x y H Q => ∃ a dx fs, y = .ref a ∧ H a = some (.ins C dx fs) ∧ sp [.ref a, x] H (fun v H' => ∃ b, v = .bl b ∧ Q (.bl (!b)) H') E
def rBinO (C : Addr) (sp : Sp) (E : XK) : R2 := fun x y H Q => ∃ a b dx fs dy gs, x = .ref a ∧ y = .ref b ∧ H a = some (.ins C dx fs) ∧ H b = some (.ins C dy gs) ∧ sp [.ref a, .ref b] H (fun v H' => ∃ r, v = .ref r ∧ Q (.ref r) H') E
def rUnO (C : Addr) (sp : Sp) (E : XK) : V → Hp → VK → Prop := fun x H Q => ∃ a dx fs, x = .ref a ∧ H a = some (.ins C dx fs) ∧ sp [.ref a] H Q E
/-- an own instance's truth -/
def rTruO (C : Addr) (sp : Sp) (E : XK) (R : Bool → Hp → Prop) (x : V) (H : Hp) : Prop := ∃ a dx fs, x = .ref a ∧ H a = some (.ins C dx fs) ∧ sp [.ref a] H (fun v H' => ∃ b, v = .bl b ∧ R b H') E
section
variable {X : Cx} {k : Nat} {C : Addr} {ps : List PySem.Str} {sp : Sp} {E : XK} {m : PySem.Str}
theorem own_at {pins : List (Addr × Obj)} {σ : St} {H : Hp} {s : Shared} {a dx : Addr} {fs : List (PySem.Str × V)} (I : Inv X pins σ H s) (ha : H a = some (.ins C dx fs)) : ∃ ox od, PySem.W.InstAt s.heap a ox C (some od) := by
  obtain ⟨mA, J, _⟩ := ins_get I.hok ha
  obtain ⟨od, J, _⟩ := J.look
  exact ⟨_, od, J⟩
theorem op_inO (D : MDef X.prog X.w X.K X.mg X.base k C "__contains__" ps sp) (hr : Room k X.A) (hx : Passes (L2.CX X.prog X.w) X E) : OpR X (compareOp .In) (rInO C sp E) := by
  intro pins s σ H x y v u Q I rx ry ⟨a, dx, fs, ey, ha, go⟩
  subst ey
  cases (show u = Value.ref a from ry)
  obtain ⟨f, fd, F, g, b⟩ := D.ex
  obtain ⟨ox, od, J⟩ := own_at I ha
  obtain ⟨m, hF⟩ := I.fr
  refine PySem.W.in_K hF I.ok.mod.kin J g.at_ g.fn (wpAny_mono (run_fn (dvs := []) (ds := []) (us := [.ref a, v]) (vs := [.ref a, x]) F hr b .nil hx I (.cons rfl (.cons rx .nil)) go) (fun r t done => ?_) fun _ _ z => z)
  obtain ⟨z, H', I', rz, bb, ez, q⟩ := done
  subst ez
  cases (show r = Value.bool bb from rz)
  exact wpAny_truthy_bool ⟨.bl bb, H', I', rfl, q⟩
theorem op_notInO (D : MDef X.prog X.w X.K X.mg X.base k C "__contains__" ps sp) (hr : Room k X.A) (hx : Passes (L2.CX X.prog X.w) X E) : OpR X (compareOp .NotIn) (rNinO C sp E) := by
  intro pins s σ H x y v u Q I rx ry ⟨a, dx, fs, ey, ha, go⟩
  subst ey
  cases (show u = Value.ref a from ry)
  obtain ⟨f, fd, F, g, b⟩ := D.ex
  obtain ⟨ox, od, J⟩ := own_at I ha
  obtain ⟨m, hF⟩ := I.fr
  refine PySem.W.notIn_K hF I.ok.mod.kin J g.at_ g.fn (wpAny_mono (run_fn (dvs := []) (ds := []) (us := [.ref a, v]) (vs := [.ref a, x]) F hr b .nil hx I (.cons rfl (.cons rx .nil)) go) (fun r t done => ?_) fun _ _ z => z)
  obtain ⟨z, H', I', rz, bb, ez, q⟩ := done
  subst ez
  cases (show r = Value.bool bb from rz)
  exact wpAny_truthy_bool ⟨.bl (!bb), H', I', rfl, q⟩
theorem op_binO {op : Operator} (D : MDef X.prog X.w X.K X.mg X.base k C m ps sp) (hm : PySem.dunder op.info.2 = m) (first : PySem.W.selfFirst X.K C = true) (ty : ∀ (H : Hp) (a dx : Addr) (fs : List (PySem.Str × V)), H a = some (.ins C dx fs) → TyX X.K H (.ref a) (.ref C)) (hr : Room k X.A) (hx : Passes (L2.CX X.prog X.w) X E) :
    OpR X (binaryOp op) (rBinO C sp E) := by
  intro pins s σ H x y v u Q I rx ry ⟨a, b, dx, fs, dy, gs, ex, ey, ha, hb, go⟩
  subst ex ey hm
  cases (show v = Value.ref a from rx)
  cases (show u = Value.ref b from ry)
  obtain ⟨f, fd, F, g, bd⟩ := D.ex
  obtain ⟨ox, od, J⟩ := own_at I ha
  obtain ⟨m, hF⟩ := I.fr
  obtain ⟨P, Z, hp, _⟩ := kit_of I (show RelV (V.ref b) (Value.ref b) from rfl) (ty H b dy gs hb)
  refine PySem.W.binop_K hF I.ok.mod.kin J (Z.ty _ s.heap I.kIn hp) first g.at_ g.fn (wpAny_mono (run_fn (dvs := []) (ds := []) (us := [.ref a, .ref b]) (vs := [.ref a, .ref b]) F hr bd .nil hx I (.cons rfl (.cons rfl .nil)) go) (fun r t done => ?_) fun _ _ z => z)
  obtain ⟨z, H', I', rz, rr, ez, q⟩ := done
  subst ez
  cases (show r = Value.ref rr from rz)
  exact ⟨.ref rr, H', I', rfl, q⟩
theorem un_invO (D : MDef X.prog X.w X.K X.mg X.base k C "__invert__" ps sp) (hr : Room k X.A) (hx : Passes (L2.CX X.prog X.w) X E) : UnR X (unaryOp .Invert) (rUnO C sp E) := by
  intro pins s σ H x v Q I rx ⟨a, dx, fs, ex, ha, go⟩
  subst ex
  cases (show v = Value.ref a from rx)
  obtain ⟨f, fd, F, g, b⟩ := D.ex
  obtain ⟨ox, od, J⟩ := own_at I ha
  obtain ⟨m, hF⟩ := I.fr
  exact PySem.W.ksp_inv hF I.ok.mod.kin J g.at_ g.fn (run_fn (dvs := []) (ds := []) (us := [.ref a]) (vs := [.ref a]) F hr b .nil hx I (.cons rfl .nil) go)
theorem un_negO (D : MDef X.prog X.w X.K X.mg X.base k C "__neg__" ps sp) (hr : Room k X.A) (hx : Passes (L2.CX X.prog X.w) X E) : UnR X (unaryOp .USub) (rUnO C sp E) := by
  intro pins s σ H x v Q I rx ⟨a, dx, fs, ex, ha, go⟩
  subst ex
  cases (show v = Value.ref a from rx)
  obtain ⟨f, fd, F, g, b⟩ := D.ex
  obtain ⟨ox, od, J⟩ := own_at I ha
  obtain ⟨m, hF⟩ := I.fr
  exact PySem.W.ksp_neg hF I.ok.mod.kin J g.at_ g.fn (run_fn (dvs := []) (ds := []) (us := [.ref a]) (vs := [.ref a]) F hr b .nil hx I (.cons rfl .nil) go)
theorem truO_ok {pins : List (Addr × Obj)} {σ : St} {H : Hp} {s : Shared} {x : V} {v : Value} {R : Bool → Hp → Prop} (D : MDef X.prog X.w X.K X.mg X.base k C "__bool__" ps sp) (hr : Room k X.A) (hx : Passes (L2.CX X.prog X.w) X E) (I : Inv X pins σ H s) (rx : RelV x v) (h : rTruO C sp E R x H) :
    wpAny (model X.prog X.w) X.A (truthy v) (fun b t => ∃ H', Inv X pins σ H' t ∧ R b H') X.xe s := by
  obtain ⟨a, dx, fs, ex, ha, go⟩ := h
  subst ex
  cases (show v = Value.ref a from rx)
  obtain ⟨f, fd, F, g, b⟩ := D.ex
  obtain ⟨ox, od, J⟩ := own_at I ha
  obtain ⟨m, hF⟩ := I.fr
  refine PySem.W.truthy_K hF I.ok.mod.kin J g.at_ g.fn (wpAny_mono (run_fn (dvs := []) (ds := []) (us := [.ref a]) (vs := [.ref a]) F hr b .nil hx I (.cons rfl .nil) go) (fun r t done => ?_) fun _ _ z => z)
  obtain ⟨z, H', I', rz, bb, ez, q⟩ := done
  subst ez
  cases (show r = Value.bool bb from rz)
  exact ⟨H', I', q⟩
variable {a : Expr} {ta : TE} {pos : Pos}
/-- an instance as a test -/
def tTruO (C : Addr) (sp : Sp) (E : XK) (ta : TE) : TT := fun σ H R => ta σ H (rTruO C sp E R)
theorem pt_truO (D : MDef X.prog X.w X.K X.mg X.base k C "__bool__" ps sp) (hr : Room k X.A) (hx : Passes (L2.CX X.prog X.w) X E) (ha : PE X a ta) (he : ∀ whole, isTrue a X.env whole = (do let v ← whole; standAt a.pos; holding [v] (truthy v))) : PT X a (tTruO C sp E ta) :=
  ⟨fun pins s σ H R I h => isTrue_plain (thn (ha.run pins s σ H _ I h) fun v s1 ⟨x, H1, I1, r1, q1⟩ => truO_ok D hr hx I1 r1 q1) (he _)⟩
/-- not of an instance, as a value -/
def tNotO (C : Addr) (sp : Sp) (E : XK) (ta : TE) : TE := fun σ H Q => ta σ H (rTruO C sp E fun b H' => Q (.bl (!b)) H')
theorem pe_notO (D : MDef X.prog X.w X.K X.mg X.base k C "__bool__" ps sp) (hr : Room k X.A) (hx : Passes (L2.CX X.prog X.w) X E) (ha : PE X a ta) : PE X (.UnaryOp .Not a pos) (tNotO C sp E ta) :=
  ⟨fun pins s σ H Q I h => UnaryOp_ (thn (ha.run pins s σ H _ I h) fun v s1 ⟨x, H1, I1, r1, q1⟩ => not_of (thn (truO_ok D hr hx I1 r1 q1) fun b t ⟨H', I', q⟩ => ⟨.bl (!b), H', I', rfl, q⟩))⟩
end
section
variable {σ : St} {H : Hp} {Q : VK} {R : Bool → Hp → Prop} {C a b dx dy : Addr} {fs gs : List (PySem.Str × V)} {sp : Sp} {E : XK} {x : V} {ta te : TE} {t u : TE}
instance st_tTruO : Stp (tTruO C sp E ta σ H R) (ta σ H (rTruO C sp E R)) := ⟨fun h => h⟩
instance st_tNotO : Stp (tNotO C sp E ta σ H Q) (ta σ H (rTruO C sp E fun b H' => Q (.bl (!b)) H')) := ⟨fun h => h⟩
theorem rd_inO (h : H a = some (.ins C dx fs)) (q : sp [.ref a, x] H (fun v H' => ∃ b, v = .bl b ∧ Q (.bl b) H') E) : rInO C sp E x (.ref a) H Q := ⟨a, dx, fs, rfl, h, q⟩
theorem rd_ninO (h : H a = some (.ins C dx fs)) (q : sp [.ref a, x] H (fun v H' => ∃ b, v = .bl b ∧ Q (.bl (!b)) H') E) : rNinO C sp E x (.ref a) H Q := ⟨a, dx, fs, rfl, h, q⟩
theorem rd_binO (h : H a = some (.ins C dx fs)) (k : H b = some (.ins C dy gs)) (q : sp [.ref a, .ref b] H (fun v H' => ∃ r, v = .ref r ∧ Q (.ref r) H') E) : rBinO C sp E (.ref a) (.ref b) H Q := ⟨a, b, dx, fs, dy, gs, rfl, rfl, h, k, q⟩
theorem rd_unO (h : H a = some (.ins C dx fs)) (q : sp [.ref a] H Q E) : rUnO C sp E (.ref a) H Q := ⟨a, dx, fs, rfl, h, q⟩
theorem rd_truO (h : H a = some (.ins C dx fs)) (q : sp [.ref a] H (fun v H' => ∃ b, v = .bl b ∧ R b H') E) : rTruO C sp E R (.ref a) H := ⟨a, dx, fs, rfl, h, q⟩
end
/-! ### bool(o) -/
section
variable {X : Cx} {k : Nat} {C : Addr} {ps : List PySem.Str} {sp : Sp} {E : XK}
def rBoolO (C : Addr) (sp : Sp) (E : XK) : List V → Hp → VK → Prop := fun xs H Q => ∃ x, xs = [x] ∧ rTruO C sp E (fun b H' => Q (.bl b) H') x H
end
/-! ### classmethods -/
structure CMAt (K : PySem.W.Frag) (C : Addr) (m qual : PySem.Str) (st : Stmt) : Prop where
  ex : ∃ (mc : Value) (p g : Addr) (fd : FuncData), ClX.CRead K C mc ∧ ClX.CMet K C mc m p g ∧ Fun K m qual st g fd
structure CMDef (P : Program) (w : World) (K : PySem.W.Frag) (mg : PySem.Str → Option Value) (base : Heap) (k : Nat) (C : Addr) (m : PySem.Str) (sp : Sp) : Prop where
  ex : ∃ (mc : Value) (p g : Addr), ClX.CRead K C mc ∧ ClX.CMet K C mc m p g ∧ FnR P w K mg base (L2.CX P w) k g sp
section
variable {P : Program} {w : World} {K : PySem.W.Frag} {mg : PySem.Str → Option Value} {base : Heap}
theorem CMDef.imp {k : Nat} {C : Addr} {m : PySem.Str} {sp sp' : Sp} (D : CMDef P w K mg base k C m sp) (h : ∀ vs H Q E, sp' vs H Q E → sp vs H Q E) : CMDef P w K mg base k C m sp' := by
  obtain ⟨mc, p, g, a, b, F⟩ := D.ex
  exact ⟨mc, p, g, a, b, F.imp h⟩
theorem FnR.forget {k : Nat} {f : Addr} {sp : Sp} (F : FnR P w K mg base (L2.CX P w) k f sp) : FnR P w K mg base (L2.CX P w) k f (fun vs H Q E => NoT H ∧ sp vs H (fun v H' => Same H H' ∧ Q v H) E) := by
  intro A outer s H us vs Q E hr he r q
  refine codeAny_mono (F A outer s H us vs _ E hr he r q.2) fun res t done => ?_
  cases res with
  | error er => exact done
  | ok fl =>
    cases fl with
    | ret u =>
      obtain ⟨v, H2, os2, bare2, un2, hok2, rv, sm, q2⟩ := done
      exact ⟨v, H, os2, bare2, ⟨un2.keep, un2.slot, fun _ _ _ n _ => n, un2.there, fun _ _ q => q, fun _ _ _ q => q, fun _ ps q => ⟨#[], by rw [q]; simp⟩⟩, hok_back q.1 hok2 he.hok sm, rv, q2⟩
    | next => exact done
    | brk => exact done
    | cont => exact done
theorem CMDef.forget {k : Nat} {C : Addr} {m : PySem.Str} {sp : Sp} (D : CMDef P w K mg base k C m sp) : CMDef P w K mg base k C m (fun vs H Q E => NoT H ∧ sp vs H (fun v H' => Same H H' ∧ Q v H) E) := by
  obtain ⟨mc, p, g, a, b, F⟩ := D.ex
  exact ⟨mc, p, g, a, b, FnR.forget F⟩
/-- a classmethod with plain parameters -/
theorem CMAt.ok {C : Addr} {m qual : PySem.Str} {st : Stmt} {N ps : List PySem.Str} {k : Nat} {sp : Sp} (D : CMAt K C m qual st) (S : FnScope N ps (defScope st)) (len : ∀ vs H Q E, sp vs H Q E → vs.length = ps.length)
    (binds : ∀ (f : Addr) (fd : FuncData), Fun K m qual st f fd → Binds K fd ps [])
    (hbody : ∀ (f : Addr) (cdv : Value) (A : Around) (outer : List Env) (s : Shared) (H : Hp) (vs : List V) (Q : VK) (E : XK), Room k (A.deeper (envOfC qual (defScope st) s.heap.objs.size f cdv)) → sp vs H Q E →
      ∃ t, PSs (cxOf (L2.CX P w) P w K mg base N qual (defScope st) f cdv A outer s H E) (defBody st) t ∧ t ⟨fun _ H' => Q .non H', Q, fun _ _ => False, fun _ _ => False⟩ (start N vs) H) : CMDef P w K mg base (k + 1) C m sp := by
  obtain ⟨mc, p, g, fd, a, b, F⟩ := D.ex
  refine ⟨mc, p, g, a, b, FnR.imp (FnOk.raw (F.okX S len fun cdv A outer s H vs Q E hr h => hbody g cdv A outer s H vs Q E hr h) (binds g fd F) .nil) fun vs H Q E h => ?_⟩
  rw [List.append_nil]
  exact h
/-- a classmethod with a star parameter behind the plain ones -/
theorem CMAt.okStar {C : Addr} {m qual pv : PySem.Str} {st : Stmt} {N ps : List PySem.Str} {k : Nat} {sp : Sp} (D : CMAt K C m qual st) (S : FnScope N (ps ++ [pv]) (defScope st))
    (binds : ∀ (kV doc pm cdv ct : Value) (an : Option Addr) (us rest : List Value), us.length = ps.length → bindArgs (PySem.W.fnOf m qual (defArgs st) (defBody st) (defScope st) .none kV doc pm an cdv ct) ⟨us ++ rest, []⟩ = (newTuple rest >>= fun t => pure (ps.zip us ++ [(pv, t)])))
    (hbody : ∀ (f : Addr) (cdv : Value) (A : Around) (outer : List Env) (s : Shared) (H : Hp) (vs : List V) (Q : VK) (E : XK), Room k (A.deeper (envOfC qual (defScope st) s.heap.objs.size f cdv)) → sp vs H Q E →
      ∃ t, PSs (cxOf (L2.CX P w) P w K mg base N qual (defScope st) f cdv A outer s H E) (defBody st) t ∧ t ⟨fun _ H' => Q .non H', Q, fun _ _ => False, fun _ _ => False⟩ (start N vs) H) :
    CMDef P w K mg base (k + 1) C m (fun vs H Q E => ∃ ws rest, vs = ws ++ rest ∧ ws.length = ps.length ∧ rest.length ≤ sizeLine ∧ ∀ p, H p = none → sp (ws ++ [V.ref p]) (upd H p (.tup rest)) Q E) := by
  obtain ⟨mc, p, g, fd, a, b, F⟩ := D.ex
  obtain ⟨c0, d0, kV, doc, pm, an, cdv, ct, sl, rfl, lk, hcd⟩ := F.ex
  exact ⟨mc, p, g, a, b, StX.fn_star lk hcd S StX.cxUp (binds kV doc pm cdv ct an) fun A outer s H vs Q E hr h => hbody g cdv A outer s H vs Q E hr h⟩
end
section
variable {X : Cx} {k : Nat} {C : Addr} {m : PySem.Str} {sp : Sp} {E : XK} {o e : Expr} {es : List Expr} {ta : TE} {t : TA} {pos apos : Pos}
theorem pe_cm {pl : Sem Bool} (D : CMDef X.prog X.w X.K X.mg X.base k C m sp) (he : PE X o ta) (hr : Room k X.A) (hx : Passes (L2.CX X.prog X.w) X E) (ha : PA X (e :: es) t)
    (hst : starEach (e :: es) X.env = (false, eval e X.env) :: starEach es X.env := by rfl) (hpl : (backTo pos (starEach es X.env)).any (·.1) = false := by rfl)
    (ht : eval (.Call (.Attribute o m apos) (e :: es) [] pos) X.env = (do
      let self ← eval o X.env
      standAt apos.atName
      let (g, ahead) ← holding [self] (getMethod self m pl)
      callWith pos g ahead (backTo pos (starEach (e :: es) X.env)) (backToKw pos (keywordEach [] X.env))) := by rfl) :
    PE X (.Call (.Attribute o m apos) (e :: es) [] pos) (ClX.tCMeth C sp E ta t) := by
  obtain ⟨mc, p, g, a, b, F⟩ := D.ex
  exact ClX.pe_cmeth he a b F hr hx ha hst hpl ht
theorem pe_cm0 {pl : Sem Bool} (D : CMDef X.prog X.w X.K X.mg X.base k C m sp) (he : PE X o ta) (hr : Room k X.A) (hx : Passes (L2.CX X.prog X.w) X E)
    (ht : eval (.Call (.Attribute o m apos) [] [] pos) X.env = (do
      let self ← eval o X.env
      standAt apos.atName
      let (g, ahead) ← holding [self] (getMethod self m pl)
      callWith pos g ahead (backTo pos (starEach [] X.env)) (backToKw pos (keywordEach [] X.env))) := by rfl) :
    PE X (.Call (.Attribute o m apos) [] [] pos) (ClX.tCMeth C sp E ta tNil) := by
  obtain ⟨mc, p, g, a, b, F⟩ := D.ex
  refine ⟨fun pins s σ H Q I h => PySem.W.methodCall_KW (pl := pl) (thn (he.run pins s σ H _ I h) fun u s1 ⟨x, H1, I1, rx, ex, q⟩ => ?_) ht⟩
  subst ex
  obtain rfl : u = Value.ref C := rx
  refine ClX.getmethcm_ok I1 a b fun s2 I2 => ?_
  exact PySem.W.callWith_M0 (first := []) ⟨ClX.pin_at I2, I2.kIn⟩ b.fi (ClX.run_cm (us := []) F hr hx I2 .nil q)
instance st_cm {σ : St} {H : Hp} {Q : VK} : Stp (ClX.tCMeth C sp E ta t σ H Q) (ta σ H fun x H1 => x = .ref C ∧ t σ H1 fun vs H2 => sp (.ref C :: vs) H2 Q E) := ⟨fun h => h⟩
instance st_cm1 {P : Prop} : Stp (V.ref C = V.ref C ∧ P) P := ⟨fun h => ⟨rfl, h⟩⟩
/-- cls(..), the class in a name -/
def tMakeL (C : Addr) (sp : Sp) (E : XK) (tf : TE) (t : TA) : TE := fun σ H Q => tf σ H fun y H1 => y = .ref C ∧ t σ H1 fun vs H2 => ∀ x dx, H2 x = none → H2 dx = none → dx ≠ x → sp (.ref x :: vs) (upd (upd H2 dx (.own x)) x (.ins C dx [])) (fun v H3 => v = .non ∧ Q (.ref x) H3) E
instance st_makeL {σ : St} {H : Hp} {Q : VK} {tf : TE} : Stp (tMakeL C sp E tf t σ H Q) (tf σ H fun y H1 => y = .ref C ∧ t σ H1 fun vs H2 => ∀ x dx, H2 x = none → H2 dx = none → dx ≠ x → sp (.ref x :: vs) (upd (upd H2 dx (.own x)) x (.ins C dx [])) (fun v H3 => v = .non ∧ Q (.ref x) H3) E) := ⟨fun h => h⟩
theorem pe_mkL {x : PySem.Str} {ps : List PySem.Str} {fe : Expr} {tf : TE} (D : MkDef X.prog X.w X.K X.mg X.base k x C ps sp) (hf : PE X fe tf) (hr : Room (k + 1) X.A) (hx : Passes (L2.CX X.prog X.w) X E) (ha : PA X (e :: es) t)
    (ht : eval (.Call fe (e :: es) [] pos) X.env = (do callWith pos (← eval fe X.env) [] (backTo pos (starEach (e :: es) X.env)) (backToKw pos (keywordEach [] X.env))) := by rfl)
    (he : starEach (e :: es) X.env = (false, eval e X.env) :: starEach es X.env := by rfl) (hpl : (backTo pos (starEach es X.env)).any (·.1) = false := by rfl) :
    PE X (.Call fe (e :: es) [] pos) (tMakeL C sp E tf t) := by
  obtain ⟨f, fd, F, M, b⟩ := D.ex
  refine ⟨fun pins s σ H Q I h => Call_ (thn (hf.run pins s σ H _ I h) fun u s1 ⟨y, H1, I1, ry, ey, q⟩ => ?_) ht⟩
  subst ey
  obtain rfl : u = Value.ref C := ry
  refine PySem.W.callWith_K (h₀ := X.base) I1.ok.mod.kin M.kp (thn (ha.run pos pins s1 σ H1 _ I1 q) fun us s2 ⟨vs, H2, I2, r, q2⟩ => ⟨I2.kIn, ?_⟩) he hpl
  refine run_make (dvs := []) M F hr b .nil hx I2 r ?_
  rw [List.append_nil]
  exact q2
end
end L2
namespace L2
open PySem PySem.Spec PyProof.Rows
/-! ### bool(t), a tuple -/
theorem meets_boolT (a : Addr) (its : Array Value) (small : (its.size : Int) < 2 ^ 63) :
    Meets (Builtin.«bool.__new__» ⟨[.type "bool", .ref a], []⟩) (fun _ R s => IsTup s.heap a its ∧ R (.ok (.ret (.bool (!its.isEmpty)))) { s with toks := s.toks + 1 + 1 }) :=
  Meets.of_wp fun prog w A R s both => by
    obtain ⟨isT, q⟩ := both
    obtain ⟨hp, g, d, tk, os⟩ := s
    have k1 := PySem.F.conv_sub_bool
    repeat (any_goals (first | assumption | (with_reducible refine truthy_tuple isT small ?_) | wp_step | fail))
    all_goals first | exact ⟨_, rfl, q⟩ | exact q | skip
def rBoolT (K : PySem.W.Frag) : List V → Hp → VK → Prop := fun xs H Q => ∃ (a : Addr) (zs : List V), xs = [.ref a] ∧ SqT K H a zs ∧ Q (.bl (!zs.isEmpty)) H
theorem c_boolT {X : Cx} : CallR X (.type "bool") (rBoolT X.K) := by
  intro pins s σ H xs us Q I r ⟨a, zs, ex, isT, q⟩
  subst ex
  obtain rfl := Vals.ref1 r
  obtain ⟨its, rv, pl, hz⟩ := I.tuple isT
  have b1 := line63
  have b2 := rv.length
  refine call_bool_1 (meets_boolT a its.toArray (by simp only [List.size_toArray]; omega)) ⟨pl, rfl, ?_⟩
  exact ⟨.bl (!zs.isEmpty), H, I.tok _, by rw [isEmpty_of rv]; rfl, q⟩
theorem rd_boolT {K : PySem.W.Frag} {H : Hp} {Q : VK} {a : Addr} {zs : List V} (h : SqT K H a zs) (q : Q (.bl (!zs.isEmpty)) H) : rBoolT K [.ref a] H Q := ⟨a, zs, rfl, h, q⟩
end L2
namespace L2
open PySem PySem.Spec PyProof.Rows
/-! ### a def under a second name -/
structure DefAtA (K : PySem.W.Frag) (mg : PySem.Str → Option Value) (y x : PySem.Str) (st : Stmt) (ps : List PySem.Str) : Prop where
  ex : ∃ (f : Addr) (fd : FuncData), Fun K x x st f fd ∧ mg y = some (.ref f) ∧ Binds K fd ps []
theorem DefAtA.ok {P : Program} {w : World} {K : PySem.W.Frag} {mg : PySem.Str → Option Value} {base : Heap} {y x : PySem.Str} {st : Stmt} {N ps : List PySem.Str} {k : Nat} {sp : Sp} (D : DefAtA K mg y x st ps) (S : FnScope N ps (defScope st)) (len : ∀ vs H Q E, sp vs H Q E → vs.length = ps.length)
    (body : ∀ (f : Addr) (cdv : Value) (A : Around) (outer : List Env) (s : Shared) (H : Hp) (vs : List V) (Q : VK) (E : XK), Room k (A.deeper (envOfC x (defScope st) s.heap.objs.size f cdv)) → sp vs H Q E →
      ∃ t, PSs (cxOf (L2.CX P w) P w K mg base N x (defScope st) f cdv A outer s H E) (defBody st) t ∧ t ⟨fun _ H' => Q .non H', Q, fun _ _ => False, fun _ _ => False⟩ (start N vs) H) : Def P w K mg base (k + 1) y ps sp := by
  obtain ⟨f, fd, F, g, b⟩ := D.ex
  exact ⟨f, fd, F.okX S len fun cdv A outer s H vs Q E hr h => body f cdv A outer s H vs Q E hr h, g, F.kp, b⟩
/-! ### {k: v for ..} given to a name -/
theorem ps_setDc {X : Cx} {i : Nat} {y : PySem.Str} {py spos : Pos} {kx vx tg iter : Expr} {ifs : List Expr} {scope : Scope} {own : List (PySem.Str × Nat)} {pos : Pos} {wi : TI} {g : TG} {tt : TT} {tk tv : TE} (calm : X.calm = true) (nd : X.N.Nodup) (hy : X.N[i]? = some y) (loc : X.env.scope.names.lookup y = some .local)
    (swap : swapsWith (.DictComp kx vx [⟨tg, iter, ifs, 0⟩] scope pos) (some (.Name y py)) spos.line X.env = pure true) (it0 : PI X tg iter wi) (ok : BlkOk X.N X.env.scope scope own)
    (pg0 : ∀ (s0 : Shared) (G : Hp) (C : Addr) (cl : List (PySem.Str × Addr)) (fp : List Addr), PG (X.blk s0 G scope (compEnvC scope cl C X.env) fp) tg g)
    (pt0 : ∀ (s0 : Shared) (G : Hp) (C : Addr) (cl : List (PySem.Str × Addr)) (fp : List Addr), PTs (X.blk s0 G scope (compEnvC scope cl C X.env) fp) ifs tt)
    (pk0 : ∀ (s0 : Shared) (G : Hp) (C : Addr) (cl : List (PySem.Str × Addr)) (fp : List Addr), PE (X.blk s0 G scope (compEnvC scope cl C X.env) fp) kx tk)
    (pe0 : ∀ (s0 : Shared) (G : Hp) (C : Addr) (cl : List (PySem.Str × Addr)) (fp : List Addr), PE (X.blk s0 G scope (compEnvC scope cl C X.env) fp) vx tv) (fold : ∀ x, foldedSetIterable iter X.env x = pure x := by intro _; rfl) :
    PS X (.Assign [.Name y py] (.DictComp kx vx [⟨tg, iter, ifs, 0⟩] scope pos) spos) (tAsg (tDc wi g tt tk tv (own.map (·.2))) (gName i)) := by
  refine ⟨fun pins s σ H D I0 want => ?_⟩
  rw [exec_Assign_Name_used _ _ _ _ swap]
  refine wpAny_bind (wpAny_standAt (wpAny_bind ?_))
  show wpAny _ X.A (do let _ ← comprehension (.DictComp kx vx [⟨tg, iter, ifs, 0⟩] scope pos) scope X.env (firstIterPos [⟨tg, iter, ifs, 0⟩] pos) newDict false (eval iter X.env) (some (assign (.Name y py) X.env))) _ _ s
  replace want : tDc wi g tt tk tv (own.map (·.2)) σ H (fun x G => gName i x σ G D.nx) := want
  refine wpAny_bind (thn (dc_core (Qf := fun _ t => SP X pins D .next t) calm nd I0 it0 ok pg0 pt0 pk0 pe0 fold want fun L C t m G J q ns f => ?_) fun _ t hq => wpAny_pure (wpAny_pure hq))
  show wpAny _ _ (assign (.Name y py) X.env (.ref L)) _ _ _
  refine wpAny_assign_Name (store_ok2 (v := V.ref L) J nd hy (.inl loc) rfl (fun t2 J2 ⟨a, sb, ha⟩ => ?_) (.inr loc))
  obtain ⟨g0, g1, g2, g3, g4, g5⟩ := f
  have away : C ≠ a := by
    rcases ha with z | z
    · exact z ▸ g1
    · exact fun e => g4 y a z e.symm
  exact ⟨m, ns.sameBut sb away, fun h3 sb3 => ⟨_, G, J2.turned (t' := t2.toks) (fun b o ne e => (sb3.2 b ne).trans e) g0 g1 g3 g4 g5, q⟩⟩
theorem sw_dc {kx vx : Expr} {gs : List Comprehension} {scope : Scope} {pos py : Pos} {y : PySem.Str} {l : Nat} {env : Env} (kind : env.scope.kind = .function) (loc : env.scope.names.lookup y = some .local) (line : (py.line == pos.line) = true)
    (other : (scope.names.any fun (n, k) => n == y && (k == .local || k == .cell)) = false) : swapsWith (.DictComp kx vx gs scope pos) (some (.Name y py)) l env = pure true := by
  have k1 : env.kindOf y = some .local := loc
  have k2 : env.blockKind = .function := by unfold Env.blockKind; rw [kind]; rfl
  unfold swapsWith
  simp only [k2, k1, other, Expr.pos, line]
  rfl
/-- {x: True for x in xs}, xs a list or tuple of ints -/
def dcB (J : It) (g : TG) (tt : TT) (tk tv : TE) (vs : List Nat) (σ : St) (Q : VK) (H1 : Hp) : Prop := ∀ D, H1 D = none → ∃ W : Nat → Nat → Hp → Prop, (∃ m, W 0 m (upd H1 D (.dK []))) ∧ ∀ i m H, W i m H →
  (J.stop i H ∧ Q (.ref D) H) ∨ (J.go i H ∧ ∃ Nx : Hp → Prop, (∀ H', Nx H' → ∃ m', m' < m ∧ W (i + 1) m' H') ∧ ∀ x H', J.yld i H x H' → g x (wipe σ vs) H' fun σ2 H2 => wipe σ2 vs = wipe σ vs ∧ tt σ2 H2 fun b H3 =>
    if b = true then tk σ2 H3 fun y H4 => tv σ2 H4 fun z H5 => ∃ kvs k, y = kV k ∧ H5 D = some (.dK kvs) ∧ kvs.length < sizeLine ∧ Nx (upd H5 D (.dK (putK kvs k z))) else Nx H3)
section
variable {σ : St} {H : Hp} {Q : VK} {K : PySem.W.Frag} {tk tv : TE} {tt : TT}
instance st_dc {wi : TI} {g : TG} {vs : List Nat} : Stp (tDc wi g tt tk tv vs σ H Q) (wi σ H fun J H1 => dcB J g tt tk tv vs σ Q H1) := ⟨fun h => h⟩
def DcPut (H : Hp) (D : Addr) (xs : List Int) (y z : V) (H5 : Hp) : Prop := ∃ kvs k, y = kV k ∧ H5 D = some (.dK kvs) ∧ kvs.length < sizeLine ∧ upd H5 D (.dK (putK kvs k z)) = upd H D (DFl (ofL xs))
theorem put_F {D : Addr} {xs ys : List Int} {c : Int} (few : xs.length < 100000) (e : ys = xs ++ [c]) : DcPut H D ys (.int c) (.bl true) (upd H D (DFl (ofL xs))) := by
  refine ⟨_, .inl c, rfl, upd_same, ?_, ?_⟩
  · rw [dFl_len]
    exact Nat.lt_trans (Nat.lt_of_le_of_lt len_ofL few) (by decide)
  · rw [upd_upd, dFl_put, e, ofL_snoc]
theorem rd_dcLF {a : Addr} {ns : List Int} {g : TG} {vs : List Nat} (hS : SqL K H a (ns.map V.int))
    (hs : ∀ D l x r, H D = none → ns = l ++ x :: r → g (.int x) (wipe σ vs) (upd H D (DFl (ofL l))) fun σ2 H2 => wipe σ2 vs = wipe σ vs ∧ tk σ2 H2 fun y H4 => tv σ2 H4 fun z H5 => DcPut H D (l ++ [x]) y z H5)
    (q : ∀ D, H D = none → Q (.ref D) (upd H D (DFl (ofL ns)))) : dcB (Itl K a) g tYes tk tv vs σ Q H := by
  intro D hD
  refine ⟨fun i m G => m = ns.length - i ∧ i ≤ ns.length ∧ G = upd H D (DFl (ofL (ns.take i))), ⟨ns.length, by simp, Nat.zero_le _, rfl⟩, ?_⟩
  rintro i m G ⟨rfl, hi, rfl⟩
  have hS' : SqL K (upd H D (DFl (ofL (ns.take i)))) a (ns.map V.int) := (same_new hD).seq hS
  by_cases hlt : i < ns.length
  · have hx : (ns.map V.int)[i]? = some (.int ns[i]) := by simp [hlt]
    have er : ns.take (i + 1) = ns.take i ++ [ns[i]] := by rw [List.take_add_one, List.getElem?_eq_getElem hlt]; rfl
    refine .inr ⟨⟨_, _, hS', hx⟩, fun G' => G' = upd H D (DFl (ofL (ns.take (i + 1)))), fun G' e => ⟨ns.length - (i + 1), by omega, rfl, hlt, e⟩, fun x G' y => ?_⟩
    obtain ⟨e, y⟩ := y
    subst e
    have ex : x = .int ns[i] := Option.some.inj ((y _ hS').symm.trans hx)
    subst ex
    have z := hs D (ns.take i) ns[i] (ns.drop (i + 1)) hD (by rw [List.getElem_cons_drop, List.take_append_drop])
    rw [← er] at z
    exact z
  · have e : i = ns.length := by omega
    subst e
    rw [List.take_length]
    exact .inl ⟨⟨_, (same_new hD).seq hS, by rw [List.length_map]; exact Nat.le_refl _⟩, q D hD⟩
theorem rd_dcTF {a : Addr} {ns : List Int} {g : TG} {vs : List Nat} (hS : SqT K H a (ns.map V.int))
    (hs : ∀ D l x r, H D = none → ns = l ++ x :: r → g (.int x) (wipe σ vs) (upd H D (DFl (ofL l))) fun σ2 H2 => wipe σ2 vs = wipe σ vs ∧ tk σ2 H2 fun y H4 => tv σ2 H4 fun z H5 => DcPut H D (l ++ [x]) y z H5)
    (q : ∀ D, H D = none → Q (.ref D) (upd H D (DFl (ofL ns)))) : dcB (Itt K a) g tYes tk tv vs σ Q H := by
  intro D hD
  refine ⟨fun i m G => m = ns.length - i ∧ i ≤ ns.length ∧ G = upd H D (DFl (ofL (ns.take i))), ⟨ns.length, by simp, Nat.zero_le _, rfl⟩, ?_⟩
  rintro i m G ⟨rfl, hi, rfl⟩
  have hS' : SqT K (upd H D (DFl (ofL (ns.take i)))) a (ns.map V.int) := (same_new hD).seqT hS
  by_cases hlt : i < ns.length
  · have hx : (ns.map V.int)[i]? = some (.int ns[i]) := by simp [hlt]
    have er : ns.take (i + 1) = ns.take i ++ [ns[i]] := by rw [List.take_add_one, List.getElem?_eq_getElem hlt]; rfl
    refine .inr ⟨⟨_, _, hS', hx⟩, fun G' => G' = upd H D (DFl (ofL (ns.take (i + 1)))), fun G' e => ⟨ns.length - (i + 1), by omega, rfl, hlt, e⟩, fun x G' y => ?_⟩
    obtain ⟨e, y⟩ := y
    subst e
    have ex : x = .int ns[i] := Option.some.inj ((y _ hS').symm.trans hx)
    subst ex
    have z := hs D (ns.take i) ns[i] (ns.drop (i + 1)) hD (by rw [List.getElem_cons_drop, List.take_append_drop])
    rw [← er] at z
    exact z
  · have e : i = ns.length := by omega
    subst e
    rw [List.take_length]
    exact .inl ⟨⟨_, (same_new hD).seqT hS, by rw [List.length_map]; exact Nat.le_refl _⟩, q D hD⟩
end
end L2
namespace L2
open PySem PySem.Spec PyProof.Rows
theorem rd_catA {K : PySem.W.Frag} {H : Hp} {Q : VK} {a b : Addr} {xs ys : List V} (h1 : SqT K H a xs) (h2 : SqT K H b ys) (h3 : xs.length + ys.length ≤ sizeLine) (q : ∀ p H', Same H H' → (NoT H → NoT H') → SqT K H' p (xs ++ ys) → Q (.ref p) H') : rCatA K (.ref a) (.ref b) H Q :=
  ⟨a, b, xs, ys, rfl, rfl, h1, h2, h3, fun e => q b H (Same.refl H) id (by rw [e]; exact h2), fun _ e => q a H (Same.refl H) id (by rw [e, List.append_nil]; exact h1), fun _ _ p hp => q p _ (same_new hp) (fun nt => NoT.upd nt rfl) (SqT.of upd_same)⟩
end L2
namespace PySem.W
open PySem PySem.Spec PySem.Calls PyProof.Rows
section
variable {prog : Program} {w : World} {A : Around} {E : Value → Shared → Prop} {s : Shared} {K : Frag} {x C f : Addr} {ox : Obj} {od : Option Obj}
theorem kbo_truthy {M : Model} {A : Around} {Q : Bool → Shared → Prop} (X : K.In s.heap) (I : InstAt s.heap x ox C od) (hs : findIn K (.ref C) "__bool__" = some (some (.ref f))) (hf : isFn K (.ref f) = true)
    (h : wpAny M A (call (.ref f) [.ref x]) (BoolBack Q) E s) : wpAny M A (truthy (.ref x)) Q E s := by
  unfold truthy
  refine wpAny_bind (m := callSpecial? (.ref x) (Str.ofString "__bool__")) (special_fn X I hs (beq_iff_eq.mp hf) (wpAny_mono h (fun r s' hr => ?_) fun _ _ y => y))
  cases r <;> first | exact hr.elim | skip
  exact wpAny_pure hr
theorem kbo_call {Q : Value → Shared → Prop} (X : K.In s.heap) (I : InstAt s.heap x ox C od) (hs : findIn K (.ref C) "__bool__" = some (some (.ref f))) (hf : isFn K (.ref f) = true)
    (h : wpAny (model prog w) A.in1.in1 (call (.ref f) [.ref x]) (BoolBack fun b => Q (.bool b)) E s) : wpAny (model prog w) A (call (.type "bool") [.ref x]) Q E s := by
  refine callType_codes (T := "bool") (Bi := Builtin.«object.__init__») (Q₁ := fun r s₁ => ∃ b, r = .bool b ∧ Q r s₁) PySem.F.called_bool (PySem.F.typeCall_bool_1 _) PySem.F.entry_object_init ?_ ?_
  · refine codeAny_of_tree ?_
    show wpAny _ A.in1.in1 (do checkBuiltinCall "bool.__new__" ⟨[.type "bool", .ref x], []⟩; again (.builtin "bool.__new__" ⟨[.type "bool", .ref x], []⟩)) _ _ s
    refine wpAny_bind (wpAny_of_eq (PySem.F.newCall_bool_1 _) (wpAny_pure ⟨plainId_quiet (by decide +kernel) _, codeAny_builtin PySem.F.entry_bool_new ?_⟩))
    rw [Around.under_plainId (by decide +kernel) _]
    unfold Builtin.«bool.__new__»
    have k1 := PySem.F.conv_sub_bool
    refine wpAny_bind (wpAny_pure ?_)
    dsimp only
    rw [if_neg (by decide)]
    refine wpAny_bind (wpAny_of_eq k1 ?_)
    rw [if_neg (by decide)]
    refine wpAny_bind (m := someArgs "bool" 0 1 _) (wpAny_pure ?_)
    dsimp only
    refine wpAny_bind (kbo_truthy X I hs hf (wpAny_mono h (fun r s' hr => ?_) fun _ _ y => y))
    cases r <;> first | exact hr.elim | skip
    exact wpAny_pure ⟨_, rfl, hr⟩
  · rintro obj s₁ ⟨b, rfl, hq⟩
    exact ⟨typeIs_bool _ _, PySem.F.args_object_init_2 _ _, object_init_meets PySem.F.called_bool.init.lookup PySem.F.called_bool.made (by decide) prog w A.in1 _ s₁ ⟨typeIs_bool _ _, rfl, hq⟩⟩
end
end PySem.W
namespace L2
open PySem PySem.Spec PyProof.Rows
theorem call_boolO {X : Cx} {k : Nat} {C : Addr} {ps : List PySem.Str} {sp : Sp} {E : XK} (D : MDef X.prog X.w X.K X.mg X.base k C "__bool__" ps sp) (hr : Room (k + 2) X.A) (hx : Passes (L2.CX X.prog X.w) X E) : CallR X (.type "bool") (rBoolO C sp E) := by
  intro pins s σ H xs us Q I r h
  obtain ⟨x, rfl, h⟩ := h
  obtain ⟨f, fd, F, g, b⟩ := D.ex
  obtain ⟨a, dx, fs, rfl, ha, hsp⟩ := h
  obtain ⟨u, rfl, hu⟩ := vals1 r
  cases (show u = Value.ref a from hu)
  obtain ⟨mA, J, _⟩ := ins_get I.hok ha
  obtain ⟨od, J, _⟩ := J.look
  refine PySem.W.kbo_call I.kIn J g.at_ g.fn ?_
  have e0 : Env0 X.prog X.w X.K X.mg X.base X.A.in1.in1 X.stack s H := by
    have e := I.env0
    exact ⟨e.frames, e.mod, e.bs, e.bsz, e.funs, e.frf, e.hok, e.bare⟩
  have hl := F.len _ _ _ _ hsp
  have r2 : Vals [V.ref a] [Value.ref a] := .cons rfl .nil
  refine wpAny_call (codeAny_mono (F.run X.A.in1.in1 X.stack s H ⟨[.ref a], []⟩ [.ref a] [.ref a] _ E hr.in1.in1 e0 (by
    have := b s [.ref a] I.kIn (by simpa using hl)
    simpa using this) r2 hsp) fun r s' hq => ?_)
  cases r with
  | error e => exact hx pins σ H s e s' I hq
  | ok fl =>
    cases fl with
    | ret w =>
      obtain ⟨z, H', I', rz, y, ez, q⟩ := I.after hq
      subst ez
      cases (show w = Value.bool y from rz)
      exact ⟨.bl y, H', I', rfl, q⟩
    | next => exact hq.elim
    | brk => exact hq.elim
    | cont => exact hq.elim
section
variable {C a dx : Addr} {fs : List (PySem.Str × V)} {sp : Sp} {E : XK} {H : Hp} {Q : VK}
theorem rd_boolO (h : H a = some (.ins C dx fs)) (q : sp [.ref a] H (fun v H' => ∃ b, v = .bl b ∧ Q (.bl b) H') E) : rBoolO C sp E [.ref a] H Q := ⟨.ref a, rfl, a, dx, fs, rfl, h, q⟩
end
end L2
namespace L2
open PySem PySem.Spec PyProof.Rows
section
variable {σ : St} {H : Hp} {Q : VK} {K : PySem.W.Frag} {te : TE} {tt : TT}
/-- a list comprehension over a list whose tests and items change the heap -/
theorem rd_lcLG {a : Addr} {xs : List V} {g : TG} {vs : List Nat} (J : Addr → Nat → List V → Hp → Prop) (hl : ∀ D i ys H', J D i ys H' → SqL K H' a xs) (h0 : ∀ D, H D = none → J D 0 [] (upd H D (.lst [])))
    (hs : ∀ D i ys x H', H D = none → xs[i]? = some x → H' D = some (.lst ys) → J D i ys H' → g x (wipe σ vs) H' fun σ2 H2 => wipe σ2 vs = wipe σ vs ∧ tt σ2 H2 fun b H3 => if b = true then te σ2 H3 (fun y H4 => ∃ acc, H4 D = some (.lst acc) ∧ acc.length < sizeLine ∧ ∃ ys, (upd H4 D (.lst (acc ++ [y]))) D = some (.lst ys) ∧ J D (i + 1) ys (upd H4 D (.lst (acc ++ [y])))) else ∃ ys, H3 D = some (.lst ys) ∧ J D (i + 1) ys H3)
    (q : ∀ D ys H', H D = none → H' D = some (.lst ys) → J D xs.length ys H' → Q (.ref D) H') : lcB (Itl K a) g tt te vs σ Q H := by
  intro D hD
  refine lc_it (walk_list (K := K) (a := a) (xs := xs)) (fun i H' => ∃ ys, H' D = some (.lst ys) ∧ J D i ys H') ⟨[], upd_same, h0 D hD⟩ (fun i H' _ ⟨ys, _, j⟩ => hl D i ys H' j) ?_ (fun H' ⟨ys, h1, j⟩ => q D ys H' hD h1 j)
  rintro i x H' H'' hi ⟨ys, h1, j⟩ ⟨rfl, hx⟩
  exact hs D i ys x _ hD hx h1 j
end
end L2

namespace L2
open PySem PySem.Spec PyProof.Rows
/-! ### a view of the heap: what is kept of an earlier one, what is ours to change, what stands besides, what no list decides -/
def rigid : HO → Bool
  | .ins _ _ _ => true
  | .tup _ => true
  | _ => false
/-- all that is no list, dict or the like still stands -/
def Keeps (G G' : Hp) : Prop := ∀ b o, rigid o = true → G b = some o → G' b = some o
theorem Keeps.refl (G : Hp) : Keeps G G := fun _ _ _ h => h
theorem Keeps.trans {G G' G'' : Hp} (a : Keeps G G') (b : Keeps G' G'') : Keeps G G'' := fun c o r h => b c o r (a c o r h)
theorem Keeps.of {G G' : Hp} (s : Same G G') : Keeps G G' := fun b o _ h => s b o h
theorem Keeps.put {G : Hp} {x : Addr} {o u : HO} (h : G x = some o) (r : rigid o = false) : Keeps G (upd G x u) := fun b v rv hb => by
  by_cases e : b = x
  · subst e
    rw [h] at hb
    cases hb
    rw [r] at rv
    cases rv
  · rw [upd_ne e]
    exact hb
def Rig (P : Hp → Prop) (G : Hp) : Prop := ∀ G', Keeps G G' → P G'
structure Hv (X : Addr → Prop) (H : Hp) (M L : List (Addr × HO)) (Z : List (Hp → Prop)) (G : Hp) : Prop where
  old : ∀ b o, ¬ X b → H b = some o → G b = some o
  nt : NoT G
  m : ∀ q ∈ M, G q.1 = some q.2 ∧ (X q.1 ∨ H q.1 = none) ∧ rigid q.2 = false
  l : ∀ q ∈ L, G q.1 = some q.2
  nd : M.Pairwise fun q r => q.1 ≠ r.1
  ml : ∀ q ∈ M, ∀ r ∈ L, q.1 ≠ r.1
  z : ∀ P ∈ Z, Rig P G
def noX : Addr → Prop := fun _ => False
/-- nothing but x has changed -/
def But (x : Addr) (H H' : Hp) : Prop := ∀ b o, b ≠ x → H b = some o → H' b = some o
theorem But.of {x : Addr} {H H' : Hp} (h : Same H H') : But x H H' := fun b o _ e => h b o e
theorem But.new {x p : Addr} {H G : Hp} {o : HO} (h : But x H G) (hp : G p = none) : But x H (upd G p o) := fun b o1 n e => upd_keep (h b o1 n e) hp
theorem But.put {x : Addr} {H G : Hp} {o : HO} (h : But x H G) : But x H (upd G x o) := fun b o1 n e => by
  rw [upd_ne n]
  exact h b o1 n e
theorem But.refl {x : Addr} {H : Hp} : But x H H := fun _ _ _ e => e
theorem But.trans {x : Addr} {H G L : Hp} (a : But x H G) (b : But x G L) : But x H L := fun c o n e => b c o n (a c o n e)
theorem But.same {x : Addr} {H G L : Hp} (a : But x H G) (b : Same G L) : But x H L := fun c o n e => b c o (a c o n e)
/-- what stood ahead of x still stands -/
theorem But.old {x : Addr} {H0 H G : Hp} (a : But x H G) (s : Same H0 H) (f : H0 x = none) : Same H0 G := fun c o e => a c o (fun z => by
  rw [z, f] at e
  cases e) (s c o e)
theorem But.fresh {x D : Addr} {H G : Hp} {o : HO} (h : But x H G) (f : H D = none) : But x H (upd G D o) := fun b o1 n e => by
  rw [upd_ne (ne_of_none e f)]
  exact h b o1 n e
theorem but_none {x D : Addr} {H G : Hp} (h : But x H G) (n : D ≠ x) (f : G D = none) : H D = none := by
  cases e : H D with
  | none => rfl
  | some o => rw [h D o n e] at f; cases f
section
variable {X : Addr → Prop} {H G G' : Hp} {M L : List (Addr × HO)} {Z : List (Hp → Prop)} {a b D p x y : Addr} {o u v : HO} {P : Hp → Prop} {xs : List V}
theorem Hv.start (nt : NoT H) : Hv noX H [] [] [] H := ⟨fun _ _ _ h => h, nt, fun _ h => absurd h List.not_mem_nil, fun _ h => absurd h List.not_mem_nil, List.Pairwise.nil, fun _ h => absurd h List.not_mem_nil, fun _ h => absurd h List.not_mem_nil⟩
theorem Hv.pool (nt : NoT H) (h : H p = some (.lst xs)) : Hv (· = p) H [(p, .lst xs)] [] [] H := ⟨fun _ _ _ h => h, nt, fun q hq => by
  rw [List.mem_singleton.mp hq]
  exact ⟨h, .inl rfl, rfl⟩, fun _ h => absurd h List.not_mem_nil, List.pairwise_singleton .., fun _ _ _ h => absurd h List.not_mem_nil, fun _ h => absurd h List.not_mem_nil⟩
theorem Hv.same (B : Hv noX H M L Z G) : Same H G := fun b o h => B.old b o id h
theorem Hv.but1 (B : Hv (· = p) H M L Z G) : But p H G := fun b o n h => B.old b o n h
theorem Hv.mAt (B : Hv X H M L Z G) (h : (a, o) ∈ M) : G a = some o := (B.m _ h).1
theorem Hv.lAt (B : Hv X H M L Z G) (h : (a, o) ∈ L) : G a = some o := B.l _ h
theorem Hv.zAt (B : Hv X H M L Z G) (h : P ∈ Z) : P G := B.z P h G (Keeps.refl G)
theorem Hv.oAt (B : Hv noX H M L Z G) (h : H a = some o) : G a = some o := B.old a o id h
theorem Hv.oAtX (B : Hv (· = p) H M L Z G) (h : H a = some o) (n : a ≠ p) : G a = some o := B.old a o n h
theorem Hv.fr (B : Hv noX H M L Z G) (h : (a, o) ∈ M) : H a = none := (B.m _ h).2.1.elim False.elim id
theorem Hv.frX (B : Hv (· = p) H M L Z G) (h : (a, o) ∈ M) (n : a ≠ p) : H a = none := (B.m _ h).2.1.elim (fun e => absurd e n) id
theorem Hv.free (B : Hv noX H M L Z G) (h : G D = none) : H D = none := B.same.free h
theorem Hv.freeX (B : Hv (· = p) H ((p, o) :: M) L Z G) (h : G D = none) : H D = none := by
  have hp := (B.m _ List.mem_cons_self).1
  cases e : H D with
  | none => rfl
  | some u =>
    have n : D ≠ p := fun z => by
      subst z
      rw [h] at hp
      cases hp
    rw [B.old D u n e] at h
    cases h
theorem Hv.away (B : Hv X H M L Z G) (h : G D = none) : ∀ q ∈ M, q.1 ≠ D := fun q hq e => by
  have := (B.m q hq).1
  rw [e, h] at this
  cases this
theorem Hv.away1 (B : Hv X H ((p, o) :: M) L Z G) (h : G D = none) : ∀ q ∈ (p, u) :: M, q.1 ≠ D := fun q hq => (List.mem_cons.mp hq).elim (fun e => by
  rw [e]
  exact B.away h (p, o) List.mem_cons_self) fun hq => B.away h q (List.mem_cons_of_mem _ hq)
theorem Hv.next (B : Hv X H M L Z G) (s : Same G G') (n : NoT G') : Hv X H M L Z G' := ⟨fun b o h e => s b o (B.old b o h e), n, fun q hq => ⟨s _ _ (B.m q hq).1, (B.m q hq).2⟩, fun q hq => s _ _ (B.l q hq), B.nd, B.ml, fun P hP G2 k => B.z P hP G2 ((Keeps.of s).trans k)⟩
theorem Hv.newG (B : Hv X H M L Z G) (h : G D = none) (f : X D ∨ H D = none) (r : rigid o = false) (hn : noT o = true) : Hv X H ((D, o) :: M) L Z (upd G D o) := by
  have C := B.next (same_new (o := o) h) (NoT.upd B.nt hn)
  refine ⟨C.old, C.nt, fun q hq => ?_, C.l, List.pairwise_cons.mpr ⟨fun q hq => (B.away h q hq).symm, C.nd⟩, fun q hq q2 h2 => ?_, C.z⟩
  · rcases List.mem_cons.mp hq with e | hq
    · subst e
      exact ⟨upd_same, f, r⟩
    · exact C.m q hq
  · rcases List.mem_cons.mp hq with e | hq
    · subst e
      exact fun e => by
        have := B.l q2 h2
        rw [← e, h] at this
        cases this
    · exact C.ml q hq q2 h2
/-- a new thing, ours -/
theorem Hv.new (B : Hv noX H M L Z G) (h : G D = none) (r : rigid o = false := by rfl) (hn : noT o = true := by rfl) : Hv noX H ((D, o) :: M) L Z (upd G D o) := B.newG h (.inr (B.free h)) r hn
theorem Hv.newX (B : Hv (· = p) H ((p, u) :: M) L Z G) (h : G D = none) (r : rigid o = false := by rfl) (hn : noT o = true := by rfl) : Hv (· = p) H ((p, u) :: (D, o) :: M) L Z (upd G D o) := by
  have C := B.newG (o := o) h (.inr (B.freeX h)) r hn
  refine ⟨C.old, C.nt, fun q hq => C.m q ?_, C.l, ?_, fun q hq => C.ml q ?_, C.z⟩
  · simp only [List.mem_cons] at hq ⊢
    exact hq.elim (fun e => .inr (.inl e)) fun e => e.elim .inl fun e => .inr (.inr e)
  · obtain ⟨h1, h2⟩ := List.pairwise_cons.mp C.nd
    obtain ⟨h3, h4⟩ := List.pairwise_cons.mp h2
    exact List.pairwise_cons.mpr ⟨fun q hq => (List.mem_cons.mp hq).elim (fun e => by rw [e]; exact (h1 _ List.mem_cons_self).symm) (h3 q), List.pairwise_cons.mpr ⟨fun q hq => h1 q (List.mem_cons_of_mem _ hq), h4⟩⟩
  · simp only [List.mem_cons] at hq ⊢
    exact hq.elim (fun e => .inr (.inl e)) fun e => e.elim .inl fun e => .inr (.inr e)
/-- a new thing that stays as it is -/
theorem Hv.newL (B : Hv X H M L Z G) (h : G D = none) (hn : noT o = true := by rfl) : Hv X H M ((D, o) :: L) Z (upd G D o) := by
  have C := B.next (same_new (o := o) h) (NoT.upd B.nt hn)
  refine ⟨C.old, C.nt, C.m, fun q hq => ?_, C.nd, fun q hq q2 h2 => ?_, C.z⟩
  · rcases List.mem_cons.mp hq with e | hq
    · subst e
      exact upd_same
    · exact C.l q hq
  · rcases List.mem_cons.mp h2 with e | h2
    · subst e
      exact B.away h q hq
    · exact C.ml q hq q2 h2
/-- what stands besides -/
theorem Hv.add (B : Hv X H M L Z G) (h : G a = some o) (n : ∀ q ∈ M, q.1 ≠ a) : Hv X H M ((a, o) :: L) Z G := ⟨B.old, B.nt, B.m, fun q hq => (List.mem_cons.mp hq).elim (fun e => by rw [e]; exact h) (B.l q), B.nd, fun q hq q2 h2 => (List.mem_cons.mp h2).elim (fun e => by rw [e]; exact n q hq) (B.ml q hq q2), B.z⟩
/-- what a call has made: at D, free ahead of it -/
theorem Hv.got (B : Hv X H M L Z G) (s : Same G G') (n : NoT G') (f : G D = none) (h : G' D = some o) : Hv X H M ((D, o) :: L) Z G' := (B.next s n).add h (B.away f)
theorem Hv.gotM (B : Hv noX H M L Z G) (s : Same G G') (n : NoT G') (f : G D = none) (h : G' D = some o) (r : rigid o = false := by rfl) : Hv noX H ((D, o) :: M) L Z G' := by
  have C := B.next s n
  refine ⟨C.old, C.nt, fun q hq => (List.mem_cons.mp hq).elim (fun e => by rw [e]; exact ⟨h, .inr (B.free f), r⟩) (C.m q), C.l, List.pairwise_cons.mpr ⟨fun q hq => (B.away f q hq).symm, C.nd⟩, fun q hq q2 h2 => (List.mem_cons.mp hq).elim (fun e => ?_) fun hq => C.ml q hq q2 h2, C.z⟩
  rw [e]
  exact fun z => by
    have := B.l q2 h2
    rw [← z, f] at this
    cases this
/-- rigid things -/
theorem Hv.rig (B : Hv X H M L Z G) (h : Rig P G) : Hv X H M L (P :: Z) G := ⟨B.old, B.nt, B.m, B.l, B.nd, B.ml, fun Q hQ => (List.mem_cons.mp hQ).elim (fun e => by rw [e]; exact h) (B.z Q)⟩
/-- ours has changed -/
theorem Hv.but (B : Hv X H ((p, o) :: M) L Z G) (b : But p G G') (n : NoT G') (h : G' p = some u) (r : rigid u = false := by rfl) : Hv X H ((p, u) :: M) L Z G' := by
  obtain ⟨h1, h2, h3⟩ := B.m _ List.mem_cons_self
  obtain ⟨n1, n2⟩ := List.pairwise_cons.mp B.nd
  refine ⟨fun c w hc e => ?_, n, fun q hq => ?_, fun q hq => b _ _ (fun e => B.ml _ List.mem_cons_self q hq e.symm) (B.l q hq), List.pairwise_cons.mpr ⟨fun q hq => n1 q hq, n2⟩, fun q hq q2 k2 => ?_, fun P hP G2 k => B.z P hP G2 (Keeps.trans (fun c w rw hc => ?_) k)⟩
  · by_cases e2 : c = p
    · subst e2
      exact (h2.elim hc fun z => by rw [z] at e; cases e).elim
    · exact b c w e2 (B.old c w hc e)
  · rcases List.mem_cons.mp hq with e | hq
    · subst e
      exact ⟨h, h2, r⟩
    · obtain ⟨k1, k2⟩ := B.m q (List.mem_cons_of_mem _ hq)
      exact ⟨b _ _ (fun e => n1 q hq e.symm) k1, k2⟩
  · rcases List.mem_cons.mp hq with e | hq
    · subst e
      exact B.ml _ List.mem_cons_self q2 k2
    · exact B.ml _ (List.mem_cons_of_mem _ hq) q2 k2
  · refine b c w (fun e => ?_) hc
    subst e
    have : some o = some w := h1.symm.trans hc
    cases this
    have h3' : rigid o = false := h3
    rw [h3'] at rw
    cases rw
theorem Hv.put (B : Hv X H ((x, o) :: M) L Z G) (r : rigid u = false := by rfl) (hn : noT u = true := by rfl) : Hv X H ((x, u) :: M) L Z (upd G x u) := B.but (fun b w n e => by rw [upd_ne n]; exact e) (NoT.upd B.nt hn) upd_same r
theorem Hv.perm {M' : List (Addr × HO)} (B : Hv X H M L Z G) (h : ∀ q ∈ M', q ∈ M) (n : M'.Pairwise fun q r => q.1 ≠ r.1) : Hv X H M' L Z G := ⟨B.old, B.nt, fun q hq => B.m q (h q hq), B.l, n, fun q hq => B.ml q (h q hq), B.z⟩
theorem Hv.swap {q r : Addr × HO} (B : Hv X H (q :: r :: M) L Z G) : Hv X H (r :: q :: M) L Z G := by
  obtain ⟨h1, h2⟩ := List.pairwise_cons.mp B.nd
  obtain ⟨h3, h4⟩ := List.pairwise_cons.mp h2
  refine B.perm (fun k hk => ?_) (List.pairwise_cons.mpr ⟨fun k hk => (List.mem_cons.mp hk).elim (fun e => by rw [e]; exact (h1 _ List.mem_cons_self).symm) (h3 k), List.pairwise_cons.mpr ⟨fun k hk => h1 k (List.mem_cons_of_mem _ hk), h4⟩⟩)
  simp only [List.mem_cons] at hk ⊢
  exact hk.elim (fun e => .inr (.inl e)) fun e => e.elim .inl fun e => .inr (.inr e)
/-- the second of ours to the front, the third -/
theorem Hv.put1 {q : Addr × HO} (B : Hv X H (q :: (x, o) :: M) L Z G) (r : rigid u = false := by rfl) (hn : noT u = true := by rfl) : Hv X H (q :: (x, u) :: M) L Z (upd G x u) := (B.swap.put r hn).swap
theorem Hv.rot {q r t : Addr × HO} (B : Hv X H (q :: r :: t :: M) L Z G) : Hv X H (t :: q :: r :: M) L Z G := by
  obtain ⟨h1, h2⟩ := List.pairwise_cons.mp B.nd
  obtain ⟨h3, h4⟩ := List.pairwise_cons.mp h2
  obtain ⟨h5, h6⟩ := List.pairwise_cons.mp h4
  have e1 := h1 r List.mem_cons_self
  have e2 := h1 t (List.mem_cons_of_mem _ List.mem_cons_self)
  have e3 := h3 t List.mem_cons_self
  refine B.perm (fun k hk => ?_) (List.pairwise_cons.mpr ⟨fun k hk => ?_, List.pairwise_cons.mpr ⟨fun k hk => ?_, List.pairwise_cons.mpr ⟨fun k hk => h3 k (List.mem_cons_of_mem _ hk), h6⟩⟩⟩)
  · simp only [List.mem_cons] at hk ⊢
    rcases hk with e | e | e | e
    · exact .inr (.inr (.inl e))
    · exact .inl e
    · exact .inr (.inl e)
    · exact .inr (.inr (.inr e))
  · rcases List.mem_cons.mp hk with e | hk
    · rw [e]; exact e2.symm
    · rcases List.mem_cons.mp hk with e | hk
      · rw [e]; exact e3.symm
      · exact h5 k hk
  · rcases List.mem_cons.mp hk with e | hk
    · rw [e]; exact e1
    · exact h1 k (List.mem_cons_of_mem _ (List.mem_cons_of_mem _ hk))
theorem Hv.drop {q : Addr × HO} (B : Hv X H (q :: M) L Z G) : Hv X H M L Z G := B.perm (fun k hk => List.mem_cons_of_mem _ hk) (List.pairwise_cons.mp B.nd).2
theorem Hv.drop1 {q r : Addr × HO} (B : Hv X H (q :: r :: M) L Z G) : Hv X H (q :: M) L Z G := B.swap.drop
/-- ours no more to change -/
theorem Hv.fix {q : Addr × HO} (B : Hv X H (q :: M) L Z G) : Hv X H M (q :: L) Z G := by
  obtain ⟨h1, h2⟩ := List.pairwise_cons.mp B.nd
  exact B.drop.add (B.m q List.mem_cons_self).1 fun k hk => (h1 k hk).symm
theorem Hv.ne_m (B : Hv X H M L Z G) (h : (x, o) ∈ M) (k : (y, u) ∈ L) : y ≠ x := fun e => B.ml _ h _ k e.symm
theorem Hv.ne_o (B : Hv noX H M L Z G) (h : (x, o) ∈ M) (k : H y = some u) : y ≠ x := fun e => by
  have := B.fr h
  rw [← e, k] at this
  cases this
theorem sub_nil {α : Type _} {L : List α} : ∀ q ∈ ([] : List α), q ∈ L := fun _ h => absurd h List.not_mem_nil
theorem sub_cons {α : Type _} {a : α} {L L' : List α} (h : a ∈ L) (k : ∀ q ∈ L', q ∈ L) : ∀ q ∈ a :: L', q ∈ L := fun q hq => (List.mem_cons.mp hq).elim (fun e => by rw [e]; exact h) (k q)
theorem Hv.sub {L' : List (Addr × HO)} {Z' : List (Hp → Prop)} (B : Hv X H M L Z G) (h : ∀ q ∈ L', q ∈ L) (k : ∀ q ∈ Z', q ∈ Z) : Hv X H M L' Z' G := ⟨B.old, B.nt, B.m, fun q hq => B.l q (h q hq), B.nd, fun q hq r hr => B.ml q hq r (h r hr), fun P hP => B.z P (k P hP)⟩
/-- the heap by a letter -/
@[elab_as_elim] theorem Hv.gen {motive : Hp → Prop} (B : Hv X H M L Z G) (k : ∀ G', Hv X H M L Z G' → motive G') : motive G := k G B
theorem Hv.weaken (B : Hv X H M L Z G) : Hv X H [] [] [] G := ⟨B.old, B.nt, fun _ h => absurd h List.not_mem_nil, fun _ h => absurd h List.not_mem_nil, List.Pairwise.nil, fun _ h => absurd h List.not_mem_nil, fun _ h => absurd h List.not_mem_nil⟩
end
/-- tuple(xs) -/
abbrev rTupOf (K : PySem.W.Frag) : List V → Hp → VK → Prop := fun xs H Q => ∃ p ys, xs = [.ref p] ∧ ((SqL K H p ys ∧ ∀ l, H l = none → Q (.ref l) (upd H l (.tup ys))) ∨ (SqT K H p ys ∧ Q (.ref p) H))
theorem call_tupN {X : Cx} : CallR X (.type "tuple") (rTupOf X.K) := call_tuple_of
section
variable {K : PySem.W.Frag} {H : Hp} {p : Addr} {ys : List V} {Q : VK}
theorem rd_tupL (h : SqL K H p ys) (q : ∀ l, H l = none → Q (.ref l) (upd H l (.tup ys))) : rTupOf K [.ref p] H Q := ⟨p, ys, rfl, .inl ⟨h, q⟩⟩
theorem rd_tupT (h : SqT K H p ys) (q : Q (.ref p) H) : rTupOf K [.ref p] H Q := ⟨p, ys, rfl, .inr ⟨h, q⟩⟩
end
end L2

namespace L2
open PySem PySem.Spec PyProof.Rows
/-! ### comprehensions over a tuple of ints -/
section
variable {σ : St} {H : Hp} {Q : VK} {K : PySem.W.Frag} {te : TE} {tt : TT}
theorem rd_lcIT {a : Addr} {ns : List Int} {g : TG} {vs : List Nat} (p : Int → Bool) (f : Int → V) (hS : SqT K H a (ns.map V.int))
    (hs : ∀ D l x r, H D = none → ns = l ++ x :: r → g (.int x) (wipe σ vs) (upd H D (.lst (resI p f l))) fun σ2 H2 => wipe σ2 vs = wipe σ vs ∧ tt σ2 H2 fun b H3 => if b = true then te σ2 H3 (LcPut H D (resI p f l) (resI p f (l ++ [x]))) else LcSkip H D (resI p f (l ++ [x])) H3)
    (q : ∀ D, H D = none → Q (.ref D) (upd H D (.lst ((ns.filter p).map f)))) : lcB (Itt K a) g tt te vs σ Q H := by
  intro D hD
  refine ⟨fun i m H' => m = ns.length - i ∧ i ≤ ns.length ∧ H' = upd H D (.lst (resI p f (ns.take i))), ⟨ns.length, by simp, Nat.zero_le _, rfl⟩, ?_⟩
  rintro i m H' ⟨rfl, hi, rfl⟩
  have hS' : SqT K (upd H D (.lst (resI p f (ns.take i)))) a (ns.map V.int) := (same_new hD).seqT hS
  by_cases hlt : i < ns.length
  · have hx : (ns.map V.int)[i]? = some (.int ns[i]) := by simp [hlt]
    have er : ns.take (i + 1) = ns.take i ++ [ns[i]] := by rw [List.take_add_one, List.getElem?_eq_getElem hlt]; rfl
    refine .inr ⟨⟨_, _, hS', hx⟩, fun H' => H' = upd H D (.lst (resI p f (ns.take (i + 1)))), fun H' p' => ⟨ns.length - (i + 1), by omega, rfl, hlt, p'⟩, fun x H' y => ?_⟩
    obtain ⟨e, y⟩ := y
    subst e
    have ex : x = .int ns[i] := Option.some.inj ((y _ hS').symm.trans hx)
    subst ex
    have z := hs D (ns.take i) ns[i] (ns.drop (i + 1)) hD (by rw [List.getElem_cons_drop, List.take_append_drop])
    rw [← er] at z
    exact z
  · have e : i = ns.length := by omega
    subst e
    rw [List.take_length]
    exact .inl ⟨⟨_, (same_new hD).seqT hS, by rw [List.length_map]; exact Nat.le_refl _⟩, q D hD⟩
theorem rd_inTs {x : Int} {ns : List Int} {p : Addr} (h : SqT K H p (ns.map V.int)) (q : Q (.bl (decide (x ∈ ns))) H) : rIn K false (.int x) (.ref p) H Q :=
  rd_inT h rfl flat_ints (by rw [inV_ints]; exact q)
theorem rd_ninTs {x : Int} {ns : List Int} {p : Addr} (h : SqT K H p (ns.map V.int)) (q : Q (.bl (!decide (x ∈ ns))) H) : rIn K true (.int x) (.ref p) H Q :=
  rd_ninT h rfl flat_ints (by rw [inV_ints]; exact q)
theorem rd_extend {l b : Addr} {xs zs : List V} (h : H l = some (.lst xs)) (k : H b = some (.lst zs)) (z : xs.length + zs.length ≤ sizeLine) (q : Q .non (upd H l (.lst (xs ++ zs)))) : rExtend (.ref l) [.ref b] H Q := ⟨l, b, xs, zs, rfl, rfl, h, k, z, q⟩
/-- sep.join(words) -/
abbrev rJoin (K : PySem.W.Frag) : V → List V → Hp → VK → Prop := fun x xs H Q => ∃ a p, ∃ ys : List Str, x = .str a ∧ xs = [.ref p] ∧ (SqL K H p (ys.map V.str) ∨ SqT K H p (ys.map V.str)) ∧ (ys.map (·.length)).sum + ys.length * a.length ≤ 16777216 ∧ Q (.str (Txt.join a ys)) H
theorem rd_join {a : Str} {p : Addr} {ys : List Str} (h : SqL K H p (ys.map V.str)) (z : (ys.map (·.length)).sum + ys.length * a.length ≤ 16777216) (q : Q (.str (Txt.join a ys)) H) : rJoin K (.str a) [.ref p] H Q := ⟨a, p, ys, rfl, rfl, .inl h, z, q⟩
instance st_m1 {r : V → List V → Hp → VK → Prop} {ta tb : TE} : Stp (tM1 r ta tb σ H Q) (ta σ H fun x H1 => (∃ a, x = .str a) ∧ tb σ H1 fun y H2 => r x [y] H2 Q) := ⟨fun h => h⟩
/-! ### ranges with a step -/
def rRng3 (S : It → Hp → Prop) : List V → Hp → Prop := fun vs H1 => ∃ (i j c : Int) (n : Nat), vs = [.int i, .int j, .int c] ∧ RgC i j c n ∧ S (Itc i c n) H1
instance st_iRng3 {ta : TA} {S : It → Hp → Prop} : Stp (iRng3 ta σ H S) (ta σ H (rRng3 S)) := ⟨fun h => h⟩
theorem rd_r3 {S : It → Hp → Prop} {i j c : Int} {n : Nat} (h : RgC i j c n) (q : S (Itc i c n) H) : rRng3 S [.int i, .int j, .int c] H := ⟨i, j, c, n, rfl, h, q⟩
theorem rd_lcC {lo c : Int} {n : Nat} {g : TG} {vs : List Nat} (p : Nat → Bool) (f : Nat → V)
    (hs : ∀ D i, H D = none → i < n → g (.int (lo + (i : Nat) * c)) (wipe σ vs) (upd H D (.lst (resR p f i))) fun σ2 H2 => wipe σ2 vs = wipe σ vs ∧ tt σ2 H2 fun b H3 => if b = true then te σ2 H3 (LcPut H D (resR p f i) (resR p f (i + 1))) else LcSkip H D (resR p f (i + 1)) H3)
    (q : ∀ D, H D = none → Q (.ref D) (upd H D (.lst (((List.range n).filter p).map f)))) : lcB (Itc lo c n) g tt te vs σ Q H := by
  intro D hD
  refine ⟨fun i m H' => m = n - i ∧ i ≤ n ∧ H' = upd H D (.lst (resR p f i)), ⟨n, by simp, Nat.zero_le _, rfl⟩, ?_⟩
  rintro i m H' ⟨rfl, hi, rfl⟩
  by_cases hlt : i < n
  · refine .inr ⟨hlt, fun H' => H' = upd H D (.lst (resR p f (i + 1))), fun H' p' => ⟨n - (i + 1), by omega, rfl, hlt, p'⟩, fun x H' y => ?_⟩
    obtain ⟨e, y⟩ := y
    subst e y
    exact hs D i hD hlt
  · have e : i = n := by omega
    subst e
    exact .inl ⟨Nat.le_refl _, q D hD⟩
end
end L2

/-! a run does not see inside the generators that it does not wake -/
namespace GenS
open PySem
def isRet : Frame → Bool
  | .ret .. => true
  | .gen .. => false
def NoGf (fs : List Frame) : Prop := fs.all isRet = true
theorem NoGf.nil : NoGf [] := rfl
theorem NoGf.tail {F : Frame} {fs : List Frame} (h : NoGf (F :: fs)) : NoGf fs := by
  unfold NoGf at *
  rw [List.all_cons, Bool.and_eq_true] at h
  exact h.2
theorem NoGf.append {a b : List Frame} (h : NoGf a) (k : NoGf b) : NoGf (a ++ b) := by
  unfold NoGf at *
  rw [List.all_append, h, k]
  rfl
theorem NoGf.split : ∀ {fs : List Frame}, NoGf fs → splitAtGen fs = none
  | [], _ => rfl
  | .gen .. :: _, h => by cases h
  | .ret .. :: fs, h => by
    show (splitAtGen fs).map _ = none
    rw [NoGf.split (fs := fs) h.tail]
    rfl
theorem no_uns0 {M : Model} {Γ : Ctx} {p : Pos} {m : String} {s s' : Shared} {e : End} (h : Runs M Γ p (.unsupported m) [] s e s') : False := by cases h
theorem no_uns {M : Model} {Γ : Ctx} {p : Pos} {m : String} {fs : List Frame} {s s' : Shared} {e : End} (h : Runs M Γ p (.unsupported m) fs s e s') : False := by
  cases h with
  | segRet a _ => exact no_uns0 a
  | segGen a _ => exact no_uns0 a
  | segSuspOut _ a => exact no_uns0 a
  | segSuspGen _ a _ _ => exact no_uns0 a
def stuck : Resume → Sem PySem.Fin := fun _ => .unsupported "asleep"
def NoG : GenState → Prop
  | .suspended _ _ _ _ fs _ => NoGf fs
  | _ => True
def EndNoG : End → Prop
  | .susp _ _ _ _ _ _ fs => NoGf fs
  | _ => True
theorem EndNoG.gen {e : End} (h : EndNoG e) : NoG e.genState := by
  cases e with
  | ret r => trivial
  | susp v g l k c p fs => exact h
/-- the generator sleeps and is not to be woken -/
def Stuck (x : GenState) : Prop := ∃ l c p fs cl, x = .suspended stuck l c p fs cl
inductive SG : GenState → GenState → Prop
  | same {x : GenState} (h : NoG x) : SG x x
  | sus {k : Resume → Sem PySem.Fin} {l : List Value} {c : Code} {p : Pos} {fs fs' : List Frame} {cl : Bool} (h : fs'.map Frame.where_ = fs.map Frame.where_) : SG (.suspended stuck l c p fs' cl) (.suspended k l c p fs cl)
theorem SG.seen {x y : GenState} (h : SG x y) : x.seen = y.seen := by
  cases h with
  | same _ => rfl
  | @sus k l c p fs fs' cl h => exact show (GenStatus.suspended, some ((c, p) :: fs'.map Frame.where_)) = (GenStatus.suspended, some ((c, p) :: fs.map Frame.where_)) by rw [h]
theorem SG.bare {x y : GenState} (h : SG x y) : y.bare = x.bare := by
  cases h <;> rfl
structure SimA (a b : Array GenState) : Prop where
  size : b.size = a.size
  at_ : ∀ (i : Nat) (x : GenState), a[i]? = some x → ∃ y, b[i]? = some y ∧ SG x y
/-- those that sleep are kept -/
def Keep (a b a' b' : Array GenState) : Prop := ∀ (i : Nat) (x y : GenState), a[i]? = some x → b[i]? = some y → Stuck x → a'[i]? = some x ∧ b'[i]? = some y
theorem Keep.refl {a b : Array GenState} : Keep a b a b := fun _ _ _ h k _ => ⟨h, k⟩
theorem Keep.trans {a b a' b' a2 b2 : Array GenState} (h : Keep a b a' b') (k : Keep a' b' a2 b2) : Keep a b a2 b2 := fun i x y e f s => let ⟨u, v⟩ := h i x y e f s; k i x y u v s
theorem get_set {a : Array GenState} {g i : Nat} {x : GenState} : (a.setIfInBounds g x)[i]? = if i = g then (if g < a.size then some x else none) else a[i]? := by
  by_cases h : i = g
  · subst h
    rw [if_pos rfl]
    by_cases hs : i < a.size
    · rw [if_pos hs]; simp [hs]
    · rw [if_neg hs]; simp; omega
  · rw [if_neg h, Array.getElem?_setIfInBounds_ne (Ne.symm h)]
theorem get_lt {a : Array GenState} {g : Nat} {x : GenState} (h : a[g]? = some x) : g < a.size := (Array.getElem?_eq_some_iff.mp h).1
theorem SimA.set {a b : Array GenState} {g : Nat} {x : GenState} (h : SimA a b) (hx : NoG x) : SimA (a.setIfInBounds g x) (b.setIfInBounds g x) := by
  refine ⟨by simp [h.size], fun i y hy => ?_⟩
  rw [get_set] at hy ⊢
  split at hy
  · rename_i e
    split at hy
    · rename_i l
      cases hy
      exact ⟨x, by rw [if_pos e, if_pos (by rw [h.size]; exact l)], .same hx⟩
    · cases hy
  · rename_i e
    obtain ⟨z, h1, h2⟩ := h.at_ i y hy
    exact ⟨z, by rw [if_neg e]; exact h1, h2⟩
theorem SimA.push {a b : Array GenState} {x : GenState} (h : SimA a b) (hx : NoG x) : SimA (a.push x) (b.push x) := by
  refine ⟨by simp [h.size], fun i y hy => ?_⟩
  rw [Array.getElem?_push] at hy ⊢
  rw [h.size]
  split at hy
  · rename_i e
    rw [if_pos e]
    cases hy
    exact ⟨x, rfl, .same hx⟩
  · rename_i e
    rw [if_neg e]
    exact h.at_ i y hy
theorem keep_set {a b : Array GenState} {g : Nat} {x z : GenState} (h : a[g]? = some z) (hz : ¬ Stuck z) : Keep a b (a.setIfInBounds g x) (b.setIfInBounds g x) := fun i u v e f s => by
  have n : i ≠ g := fun k => by
    rw [k, h] at e
    cases e
    exact hz s
  rw [get_set, get_set, if_neg n, if_neg n]
  exact ⟨e, f⟩
theorem keep_push {a b : Array GenState} {x : GenState} : Keep a b (a.push x) (b.push x) := fun i u v e f s => by
  rw [Array.getElem?_push, Array.getElem?_push, if_neg (Nat.ne_of_lt (get_lt e)), if_neg (Nat.ne_of_lt (get_lt f))]
  exact ⟨e, f⟩
/-- what is woken and comes back: its own entry may change -/
theorem keep_wake {a b a1 b1 : Array GenState} {g : Nat} {x y z : GenState} (h : a[g]? = some z) (hz : ¬ Stuck z) (k : Keep (a.setIfInBounds g x) (b.setIfInBounds g x) a1 b1) : Keep a b (a1.setIfInBounds g y) (b1.setIfInBounds g y) := fun i u v e f s => by
  have n : i ≠ g := fun k => by
    rw [k, h] at e
    cases e
    exact hz s
  obtain ⟨p, q⟩ := k i u v (by rw [get_set, if_neg n]; exact e) (by rw [get_set, if_neg n]; exact f) s
  rw [get_set, get_set, if_neg n, if_neg n]
  exact ⟨p, q⟩
theorem not_stuck_fresh {c : Code} : ¬ Stuck (.fresh c) := fun ⟨_, _, _, _, _, h⟩ => by cases h
theorem not_stuck_running : ¬ Stuck .running := fun ⟨_, _, _, _, _, h⟩ => by cases h
theorem not_stuck_finished : ¬ Stuck .finished := fun ⟨_, _, _, _, _, h⟩ => by cases h
theorem runs_sim {M : Model} {Γ : Ctx} {p : Pos} {T : Sem PySem.Fin} {fs : List Frame} {s s' : Shared} {e : End} (h : Runs M Γ p T fs s e s') : ∀ (b : Array GenState), SimA s.gens b → NoGf fs →
    ∃ b', Runs M Γ p T fs { s with gens := b } e { s' with gens := b' } ∧ SimA s'.gens b' ∧ EndNoG e ∧ Keep s.gens b s'.gens b' := by
  induction h with
  | done => exact fun b hb _ => ⟨b, .done, hb, trivial, Keep.refl⟩
  | raise => exact fun b hb _ => ⟨b, .raise, hb, trivial, Keep.refl⟩
  | again q _ ih => exact fun b hb n => let ⟨b', r, o⟩ := ih b hb n; ⟨b', .again q r, o⟩
  | rule _ ih => exact fun b hb n => let ⟨b', r, o⟩ := ih b hb n; ⟨b', .rule r, o⟩
  | «at» _ ih => exact fun b hb n => let ⟨b', r, o⟩ := ih b hb n; ⟨b', .at r, o⟩
  | load q _ ih => exact fun b hb n => let ⟨b', r, o⟩ := ih b hb n; ⟨b', .load q r, o⟩
  | update q _ ih => exact fun b hb n => let ⟨b', r, o⟩ := ih b hb n; ⟨b', .update q r, o⟩
  | loadIfAlive _ ih => exact fun b hb n => let ⟨b', r, o⟩ := ih b hb n; ⟨b', .loadIfAlive r, o⟩
  | point _ ih => exact fun b hb n => let ⟨b', r, o⟩ := ih b hb n; ⟨b', .point r, o⟩
  | alloc _ ih => exact fun b hb n => let ⟨b', r, o⟩ := ih b hb n; ⟨b', .alloc r, o⟩
  | fresh _ ih => exact fun b hb n => let ⟨b', r, o⟩ := ih b hb n; ⟨b', .fresh r, o⟩
  | ask _ ih => exact fun b hb n => let ⟨b', r, o⟩ := ih b hb n; ⟨b', .ask r, o⟩
  | choose q _ ih => exact fun b hb n => let ⟨b', r, o⟩ := ih b hb n; ⟨b', .choose q r, o⟩
  | os _ ih => exact fun b hb n => let ⟨b', r, o⟩ := ih b hb n; ⟨b', .os r, o⟩
  | handled _ ih => exact fun b hb n => let ⟨b', r, o⟩ := ih b hb n; ⟨b', .handled r, o⟩
  | genState q _ ih =>
    intro b hb n
    obtain ⟨y, h1, h2⟩ := hb.at_ _ _ q
    obtain ⟨b', r, o⟩ := ih b hb n
    rw [h2.seen] at r
    exact ⟨b', .genState h1 r, o⟩
  | stack _ ih => exact fun b hb n => let ⟨b', r, o⟩ := ih b hb n; ⟨b', .stack r, o⟩
  | thread _ ih => exact fun b hb n => let ⟨b', r, o⟩ := ih b hb n; ⟨b', .thread r, o⟩
  | @newGen k s _ _ _ _ c _ ih =>
    intro b hb n
    obtain ⟨b', r, o1, o2, o3⟩ := ih (b.push (.fresh _)) (hb.push trivial) n
    have r2 := r
    rw [← hb.size] at r2
    exact ⟨b', .newGen r2, o1, o2, keep_push.trans o3⟩
  | call _ _ ih1 ih2 =>
    intro b hb n
    obtain ⟨b1, r1, h1, _, k1⟩ := ih1 b hb NoGf.nil
    obtain ⟨b2, r2, h2, e2, k2⟩ := ih2 b1 h1 NoGf.nil
    exact ⟨b2, .call r1 r2, h2, e2, k1.trans k2⟩
  | callSusp _ ih =>
    intro b hb n
    obtain ⟨b1, r1, h1, e1, k1⟩ := ih b hb NoGf.nil
    exact ⟨b1, .callSusp r1, h1, NoGf.append e1 rfl, k1⟩
  | yield => exact fun b hb n => ⟨b, .yield, hb, NoGf.nil, Keep.refl⟩
  | resumeFresh q _ qe _ ih1 ih2 =>
    intro b hb n
    obtain ⟨y, h1, h2⟩ := hb.at_ _ _ q
    cases h2
    obtain ⟨b1, r1, g1, e1, k1⟩ := ih1 _ (hb.set trivial) NoGf.nil
    obtain ⟨b2, r2, g2, e2, k2⟩ := ih2 _ (g1.set e1.gen) NoGf.nil
    exact ⟨b2, .resumeFresh h1 r1 qe r2, g2, e2, (keep_wake q not_stuck_fresh k1).trans k2⟩
  | @resumeSuspended Γ p g r l k s k₀ l₀ c₀ p₀ fs cl e₁ s₁ e s' q a qe _ ih1 ih2 =>
    intro b hb n
    obtain ⟨y, h1, h2⟩ := hb.at_ _ _ q
    have ns : ¬ Stuck (.suspended k₀ l₀ c₀ p₀ fs cl) := fun ⟨_, _, _, _, _, w⟩ => by
      cases w
      exact no_uns a
    cases h2 with
    | sus _ => exact (no_uns a).elim
    | same hn =>
      obtain ⟨b1, r1, g1, e1, k1⟩ := ih1 _ (hb.set trivial) hn
      obtain ⟨b2, r2, g2, e2, k2⟩ := ih2 _ (g1.set e1.gen) NoGf.nil
      exact ⟨b2, .resumeSuspended h1 r1 qe r2, g2, e2, (keep_wake q ns k1).trans k2⟩
  | resumeJustStarted q v _ ih =>
    intro b hb n
    obtain ⟨y, h1, h2⟩ := hb.at_ _ _ q
    cases h2
    obtain ⟨b1, r1, o⟩ := ih b hb n
    exact ⟨b1, .resumeJustStarted h1 v r1, o⟩
  | resumeThrowFresh q _ ih =>
    intro b hb n
    obtain ⟨y, h1, h2⟩ := hb.at_ _ _ q
    cases h2
    obtain ⟨b1, r1, g1, e1, k1⟩ := ih _ (hb.set trivial) n
    exact ⟨b1, .resumeThrowFresh h1 r1, g1, e1, (keep_set q not_stuck_fresh).trans k1⟩
  | resumeRunning q _ ih =>
    intro b hb n
    obtain ⟨y, h1, h2⟩ := hb.at_ _ _ q
    cases h2
    obtain ⟨b1, r1, o⟩ := ih b hb n
    exact ⟨b1, .resumeRunning h1 r1, o⟩
  | resumeFinished q _ ih =>
    intro b hb n
    obtain ⟨y, h1, h2⟩ := hb.at_ _ _ q
    cases h2
    obtain ⟨b1, r1, o⟩ := ih b hb n
    exact ⟨b1, .resumeFinished h1 r1, o⟩
  | segRet _ _ ih1 ih2 =>
    intro b hb n
    obtain ⟨b1, r1, h1, _, k1⟩ := ih1 b hb NoGf.nil
    obtain ⟨b2, r2, h2, e2, k2⟩ := ih2 b1 h1 n.tail
    exact ⟨b2, .segRet r1 r2, h2, e2, k1.trans k2⟩
  | segGen _ _ _ _ => exact fun b hb n => by cases n
  | segSuspOut q _ ih =>
    intro b hb n
    obtain ⟨b1, r1, h1, e1, k1⟩ := ih b hb NoGf.nil
    exact ⟨b1, .segSuspOut q r1, h1, NoGf.append e1 n, k1⟩
  | segSuspGen q _ _ _ _ _ => exact fun b hb n => by rw [n.split] at q; cases q
/-- the same end, but for what sleeps -/
def Beside (a b : Array GenState) (s1 s' : Shared) : Prop := s' = { s1 with gens := s'.gens } ∧ SimA s1.gens s'.gens ∧ Keep a b s1.gens s'.gens
theorem wp_sim {α : Type} (M : Model) (Γ : Ctx) (t : Sem α) : ∀ (Q : α → Pos → Shared → Prop) (E : Value → Pos → Shared → Prop) (p : Pos) (s : Shared) (a0 b0 b : Array GenState), SimA s.gens b → Keep a0 b0 s.gens b → Sem.wp M Γ t Q E p s →
    Sem.wp M Γ t (fun v p' s' => ∃ s1, Beside a0 b0 s1 s' ∧ Q v p' s1) (fun e p' s' => ∃ s1, Beside a0 b0 s1 s' ∧ E e p' s1) p { s with gens := b } := by
  induction t with
  | pure v => exact fun Q E p s a0 b0 b hb k h => ⟨s, ⟨rfl, hb, k⟩, h⟩
  | raise v => exact fun Q E p s a0 b0 b hb k h => ⟨s, ⟨rfl, hb, k⟩, h⟩
  | unsupported _ => exact fun Q E p s a0 b0 b hb k h => h.elim
  | finish _ => exact fun Q E p s a0 b0 b hb k h => h.elim
  | rule _ k ih => exact fun Q E p s a0 b0 b hb kp h => ih () Q E p s a0 b0 b hb kp h
  | «at» p' k ih => exact fun Q E p s a0 b0 b hb kp h => ih () Q E p' s a0 b0 b hb kp h
  | load a _ k ih => exact fun Q E p s a0 b0 b hb kp h => let ⟨o, ho, h⟩ := h; ⟨o, ho, ih o Q E p s a0 b0 b hb kp h⟩
  | update a _ f k ih => exact fun Q E p s a0 b0 b hb kp h => ⟨h.1, ih () Q E p { s with heap := s.heap.update a f } a0 b0 b hb kp h.2⟩
  | loadIfAlive a k ih => exact fun Q E p s a0 b0 b hb kp h => ih _ Q E p s a0 b0 b hb kp h
  | point _ k ih => exact fun Q E p s a0 b0 b hb kp h => ih () Q E p s a0 b0 b hb kp h
  | register _ _ => exact fun Q E p s a0 b0 b hb k h => h.elim
  | alloc o k ih => exact fun Q E p s a0 b0 b hb kp h => ih s.heap.objs.size Q E p { s with heap := s.heap.push o } a0 b0 b hb kp h
  | fresh k ih => exact fun Q E p s a0 b0 b hb kp h => ih s.toks Q E p { s with toks := s.toks + 1 } a0 b0 b hb kp h
  | ask k ih => exact fun Q E p s a0 b0 b hb kp h => ih _ Q E p s a0 b0 b hb kp h
  | choose src m k ih => exact fun Q E p s a0 b0 b hb kp h => ⟨h.1, ih (M.w.draws src (s.drawn.get src) % m) Q E p { s with drawn := s.drawn.bump src } a0 b0 b hb kp h.2⟩
  | os q _ k ih => exact fun Q E p s a0 b0 b hb kp h => ih (Os.step s.os q).2 Q E p { s with os := (Os.step s.os q).1 } a0 b0 b hb kp h
  | call c hd _ _ k ih =>
    intro Q E p s a0 b0 b hb kp h
    obtain ⟨r, s1, hr, h⟩ := h
    obtain ⟨b1, r1, h1, _, k1⟩ := runs_sim hr b hb NoGf.nil
    exact ⟨r, _, r1, ih r Q E p s1 a0 b0 b1 h1 (kp.trans k1) h⟩
  | handled own k ih => exact fun Q E p s a0 b0 b hb kp h => ih _ Q E p s a0 b0 b hb kp h
  | genState g k ih =>
    intro Q E p s a0 b0 b hb kp h
    obtain ⟨st, hs, h⟩ := h
    obtain ⟨y, h1, h2⟩ := hb.at_ _ _ hs
    rw [h2.seen] at h
    exact ⟨y, h1, ih _ Q E p s a0 b0 b hb kp h⟩
  | newGen c k ih =>
    intro Q E p s a0 b0 b hb kp h
    have q := ih s.gens.size Q E p _ a0 b0 (b.push (.fresh c)) (hb.push (x := .fresh c) trivial) (kp.trans keep_push) h
    rw [← hb.size] at q
    exact q
  | resume g r l k ih =>
    intro Q E p s a0 b0 b hb kp h
    obtain ⟨res, s1, hw, h⟩ := h
    have hk : ∃ b1, Wakes M Γ p g r { s with gens := b } res { s1 with gens := b1 } ∧ SimA s1.gens b1 ∧ Keep s.gens b s1.gens b1 := by
      unfold Wakes at hw ⊢
      cases q : s.gens[g]? with
      | none => rw [q] at hw; exact hw.elim
      | some x =>
        rw [q] at hw
        obtain ⟨y, h1, h2⟩ := hb.at_ _ _ q
        show ∃ b1, (match b[g]? with | _ => _) ∧ _
        cases x with
        | fresh c =>
          cases h2
          rw [h1]
          cases r with
          | send v =>
            by_cases hv : v = .none
            · subst hv
              obtain ⟨e1, s2, hr, qe, rfl, rfl⟩ := hw
              obtain ⟨b1, r1, g1, n1, k1⟩ := runs_sim hr _ (hb.set trivial) NoGf.nil
              exact ⟨_, ⟨e1, _, r1, qe, rfl, rfl⟩, g1.set n1.gen, keep_wake q not_stuck_fresh k1⟩
            · cases v <;> first | exact absurd rfl hv | (obtain ⟨rfl, rfl⟩ := hw; exact ⟨b, ⟨rfl, rfl⟩, hb, Keep.refl⟩)
          | throw v =>
            obtain ⟨rfl, rfl⟩ := hw
            exact ⟨_, ⟨rfl, rfl⟩, hb.set trivial, keep_set q not_stuck_fresh⟩
        | suspended k0 l0 c0 p0 fs cl =>
          obtain ⟨e1, s2, hr, qe, rfl, rfl⟩ := hw
          have ns : ¬ Stuck (.suspended k0 l0 c0 p0 fs cl) := fun ⟨_, _, _, _, _, w⟩ => by
            cases w
            exact no_uns hr
          cases h2 with
          | sus _ => exact (no_uns hr).elim
          | same hn =>
            rw [h1]
            obtain ⟨b1, r1, g1, n1, k1⟩ := runs_sim hr _ (hb.set trivial) hn
            exact ⟨_, ⟨e1, _, r1, qe, rfl, rfl⟩, g1.set n1.gen, keep_wake q ns k1⟩
        | running =>
          cases h2
          rw [h1]
          obtain ⟨rfl, rfl⟩ := hw
          exact ⟨b, ⟨rfl, rfl⟩, hb, Keep.refl⟩
        | finished =>
          cases h2
          rw [h1]
          obtain ⟨rfl, rfl⟩ := hw
          exact ⟨b, ⟨rfl, rfl⟩, hb, Keep.refl⟩
    obtain ⟨b1, w1, g1, k1⟩ := hk
    exact ⟨res, _, w1, ih res Q E p s1 a0 b0 b1 g1 (kp.trans k1) h⟩
  | yield _ _ _ _ => exact fun Q E p s a0 b0 b hb k h => h.elim
  | stack k ih => exact fun Q E p s a0 b0 b hb kp h => ih _ Q E p s a0 b0 b hb kp h
  | fork _ _ => exact fun Q E p s a0 b0 b hb k h => h.elim
  | thread k ih => exact fun Q E p s a0 b0 b hb kp h => ih _ Q E p s a0 b0 b hb kp h
  | await _ _ _ _ _ => exact fun Q E p s a0 b0 b hb k h => h.elim
/-- all that sleep, not to be woken -/
def lull : GenState → GenState
  | .suspended _ l c p fs cl => .suspended stuck l c p (fs.map fun F => .ret (fun _ => .unsupported "asleep") none false [] F.where_.1 F.where_.2 []) cl
  | x => x
theorem lull_sg (x : GenState) : SG (lull x) x := by
  cases x with
  | suspended k l c p fs cl =>
    refine .sus ?_
    rw [List.map_map]
    exact List.map_congr_left fun F _ => rfl
  | fresh c => exact .same trivial
  | running => exact .same trivial
  | finished => exact .same trivial
theorem lull_sim (b : Array GenState) : SimA (b.map lull) b := ⟨by simp, fun i x h => by
  rw [Array.getElem?_map] at h
  obtain ⟨y, hy, e⟩ := Option.map_eq_some_iff.mp h
  exact ⟨y, hy, e ▸ lull_sg y⟩⟩
def Asleep (x : GenState) : Prop := ∃ k l c p fs cl, x = .suspended k l c p fs cl
theorem lull_stuck {x : GenState} (h : Asleep x) : Stuck (lull x) := by
  obtain ⟨k, l, c, p, fs, cl, rfl⟩ := h
  exact ⟨_, _, _, _, _, rfl⟩
/-- who sleeps goes on sleeping -/
def Slept (a b : Array GenState) : Prop := ∀ (i : Nat) (x : GenState), a[i]? = some x → Asleep x → b[i]? = some x
theorem Slept.refl {a : Array GenState} : Slept a a := fun _ _ h _ => h
theorem Slept.trans {a b c : Array GenState} (h : Slept a b) (k : Slept b c) : Slept a c := fun i x e s => k i x (h i x e s) s
theorem bare_lull {b : Array GenState} (h : ∀ y ∈ b, y.bare = true) : ∀ y ∈ b.map lull, y.bare = true := fun y hy => by
  obtain ⟨z, hz, rfl⟩ := Array.mem_map.mp hy
  rw [← (lull_sg z).bare]
  exact h z hz
theorem SimA.bare {a b : Array GenState} (h : SimA a b) (k : ∀ y ∈ a, y.bare = true) : ∀ y ∈ b, y.bare = true := fun y hy => by
  obtain ⟨i, hi, rfl⟩ := Array.mem_iff_getElem.mp hy
  have hi' : i < a.size := by rw [← h.size]; exact hi
  obtain ⟨z, h1, h2⟩ := h.at_ i a[i] (Array.getElem?_eq_getElem hi')
  rw [Array.getElem?_eq_getElem hi] at h1
  cases h1
  rw [h2.bare]
  exact k _ (Array.getElem_mem hi')
/-- THE RULE: what goes on while generators sleep leaves them as they are -/
theorem wpAny_asleep {α : Type} {M : Model} {A : Around} {t : Sem α} {Q : α → Shared → Prop} {E : Value → Shared → Prop} {s : Shared} (h : wpAny M A t Q E { s with gens := s.gens.map lull }) :
    wpAny M A t (fun v s' => ∃ s1, s' = { s1 with gens := s'.gens } ∧ SimA s1.gens s'.gens ∧ Slept s.gens s'.gens ∧ Q v s1) (fun e s' => ∃ s1, s' = { s1 with gens := s'.gens } ∧ SimA s1.gens s'.gens ∧ Slept s.gens s'.gens ∧ E e s1) s := fun Γ p hΓ => by
  have q := wp_sim M Γ t _ _ p { s with gens := s.gens.map lull } (s.gens.map lull) s.gens s.gens (lull_sim _) Keep.refl (h Γ p hΓ)
  have go : ∀ {s1 s' : Shared}, Beside (s.gens.map lull) s.gens s1 s' → Slept s.gens s'.gens := fun {s1 s'} ⟨_, _, k⟩ i x e a => (k i (lull x) x (by rw [Array.getElem?_map, e]; rfl) e (lull_stuck a)).2
  have w := (show wpAny M { A with } t (fun v s' => ∃ s1, Beside (s.gens.map lull) s.gens s1 s' ∧ Q v s1) (fun e s' => ∃ s1, Beside (s.gens.map lull) s.gens s1 s' ∧ E e s1) s from fun Γ p hΓ => wp_sim M Γ t _ _ p { s with gens := s.gens.map lull } (s.gens.map lull) s.gens s.gens (lull_sim _) Keep.refl (h Γ p hΓ))
  exact (wpAny_mono w (fun v s' ⟨s1, b, q⟩ => ⟨s1, b.1, b.2.1, go b, q⟩) fun e s' ⟨s1, b, q⟩ => ⟨s1, b.1, b.2.1, go b, q⟩ : wpAny M A t _ _ s) Γ p hΓ
end GenS

/-! a generator's for over an iterator: its code, step by step -/
namespace GenS
open PySem PySem.Spec PyProof.Rows GenW
section
variable {M : Model} {A : Around} {n : Nat} {s0 s : Shared} {c : Code} {fs : List Frame} {α : Type}
/-- a run up to its yield or its end; what it is, is known at its end only -/
def SegX (M : Model) (A : Around) (R : α → GenEnd) (Y : α → Protocol) (n : Nat) (s0 : Shared) (c : Code) (t : Sem PySem.Fin) (fs : List Frame) (s : Shared) : Prop :=
  ∀ Γ p, Γ.code = c → Γ.Woken A → ∃ (x : α) (e : End) (s' : Shared), Runs M Γ p t fs s e s' ∧ SegEnd (R x) (Y x) n (Seg.next M A (R x) (Y x) n) s0 e s'
variable {R : α → GenEnd} {Y : α → Protocol}
theorem SegX.of {t : Sem PySem.Fin} (x : α) (h : Seg M A (R x) (Y x) n s0 c t fs s) : SegX M A R Y n s0 c t fs s := fun Γ p hc hΓ =>
  let ⟨e, s', r, q⟩ := seg_iff.mp h Γ p hc hΓ
  ⟨x, e, s', r, q⟩
theorem segX_wrap {β : Type} {m : Sem β} {K : β → Sem PySem.Fin} {J : Value → Sem PySem.Fin} {gd : Bool → Bool} {lv : List Value → List Value}
    (h : wpAny M (A.over c fs) m (fun a s' => SegX M A R Y n s0 c (K a) fs s') (fun x s' => SegX M A R Y n s0 c (J x) fs s') s) : SegX M A R Y n s0 c (m.wrap K J gd lv) fs s := by
  rintro Γ p rfl hΓ
  obtain ⟨e, s', r, x, q⟩ := runs_wrap_of_wp (Φ := fun e s' => ∃ x, SegEnd (R x) (Y x) n (Seg.next M A (R x) (Y x) n) s0 e s') K J gd lv m (h (Γ.over fs) p (hΓ.over fs))
    (fun a p' s' h' => let ⟨x, e, s2, r, q⟩ := h' Γ p' rfl hΓ; ⟨e, s2, r, x, q⟩) (fun a p' s' h' => let ⟨x, e, s2, r, q⟩ := h' Γ p' rfl hΓ; ⟨e, s2, r, x, q⟩)
  exact ⟨x, e, s', r, q⟩
theorem segX_bind {β γ : Type} {m : Sem β} {K : β → Sem γ} {K' : γ → Sem PySem.Fin} {J : Value → Sem PySem.Fin} {gd : Bool → Bool} {lv : List Value → List Value}
    (h : wpAny M (A.over c fs) m (fun a s' => SegX M A R Y n s0 c ((K a).wrap K' J gd lv) fs s') (fun x s' => SegX M A R Y n s0 c (J x) fs s') s) : SegX M A R Y n s0 c ((m >>= K).wrap K' J gd lv) fs s := by
  rw [Sem.bind_eq_wrap', Sem.wrap_wrap]
  exact segX_wrap h
theorem segX_at {p' : Pos} {k : Unit → Sem PySem.Fin} (h : SegX M A R Y n s0 c (k ()) fs s) : SegX M A R Y n s0 c (.at p' k) fs s :=
  segX_wrap (m := standAt p') (K := k) (J := .raise) (gd := id) (lv := id) (wpAny_standAt h)
theorem segX_point {l : List Value} {k : Unit → Sem PySem.Fin} (h : SegX M A R Y n s0 c (k ()) fs s) : SegX M A R Y n s0 c (.point l k) fs s :=
  segX_wrap (m := point) (K := k) (J := .raise) (gd := id) (lv := fun _ => l) (wpAny_point h)
end
section
variable {prog : Program} {w : World} {A : Around} {n : Nat} {s0 s : Shared} {c : Code} {fs : List Frame} {α : Type} {R : α → GenEnd} {Y : α → Protocol} {env : Env}
  {K : Flow → Sem PySem.Fin} {J : Value → Sem PySem.Fin} {gd : Bool → Bool} {lv : List Value → List Value} {tg iter : Expr} {body : List Stmt} {pos : Pos}
/-- what a loop's call hands back to the body -/
def loopBack (env : Env) (K : Flow → Sem PySem.Fin) (J : Value → Sem PySem.Fin) (gd : Bool → Bool) (lv : List Value → List Value) : Result → Sem PySem.Fin := fun r =>
  ((match r with | .ok f => (.pure f : Sem Flow) | .error e => .raise e).onRaise (L2.cameBack env)).wrap K J gd lv
theorem segX_for (hs : ∀ x, foldedSetIterable iter env x = pure x)
    (h : wpAny (model prog w) (A.over c fs) (eval iter env) (fun v s1 => wpAny (model prog w) (A.over c fs) (pyIter v) (fun it s2 => ∀ p,
      SegX (model prog w) A R Y n s0 (.forLoop tg it body [] env) ((model prog w).den (.forLoop tg it body [] env)) (.ret (loopBack env K J gd lv) none (gd false) (lv []) c p [] :: fs) s2)
        (fun x s' => SegX (model prog w) A R Y n s0 c (J x) fs s') s1) (fun x s' => SegX (model prog w) A R Y n s0 c (J x) fs s') s) :
    SegX (model prog w) A R Y n s0 c ((exec (.For tg iter body [] pos) env).wrap K J gd lv) fs s := by
  rw [exec_For]
  refine segX_bind (wpAny_standAt ?_)
  refine segX_bind (wpAny_mono h (fun v s1 h1 => ?_) fun x s' hx => hx)
  refine segX_bind (wpAny_of_eq (hs v) ?_)
  refine segX_bind (wpAny_standAt ?_)
  refine segX_bind (wpAny_holding (wpAny_mono h1 (fun it s2 h2 => ?_) fun x s' hx => hx))
  intro Γ p hc hΓ
  obtain ⟨x, e, s', hr, he⟩ := h2 p (Γ.goto _) p rfl (hΓ.goto _)
  subst hc
  exact ⟨x, e, s', runs_call_seg hr, he⟩
end
section
variable {prog : Program} {w : World} {A : Around} {R : GenEnd} {Y : Protocol} {n : Nat} {s0 s : Shared} {fs : List Frame} {env : Env} {tg : Expr} {it : Value} {body : List Stmt}
/-- one turn of the loop -/
theorem seg_forTurn
    (h : wpAny (model prog w) (A.over (.forLoop tg it body [] env) fs) (pyNext it) (fun r s1 => match r with
      | none => ∀ k : Unit, Seg (model prog w) A R Y n s0 (.block [] env) ((model prog w).den (.block [] env)) fs s1
      | some v => wpAny (model prog w) (A.over (.forLoop tg it body [] env) fs) (letOwnedTupleGo tg it v) (fun _ s2 => wpAny (model prog w) (A.over (.forLoop tg it body [] env) fs) (assign tg env v) (fun _ s3 =>
          Seg (model prog w) A R Y n s0 (.forLoop tg it body [] env) ((execs body env).wrap (fun f => match f with
            | .next | .cont => .pure (.again (.forLoop tg it body [] env))
            | .brk => .pure (.done .next)
            | .ret v => .pure (.done (.ret v))) (fun e => (do noteFrame e env; theTreesLotGoes e : Sem Unit).wrap (fun _ => .raise e) .raise id id) id id) fs s3) (fun _ _ => False) s2) (fun _ _ => False) s1) (fun _ _ => False) s) :
    Seg (model prog w) A R Y n s0 (.forLoop tg it body [] env) ((model prog w).den (.forLoop tg it body [] env)) fs s := by
  show Seg _ A R Y n s0 _ ((forTurn tg it body [] env).onRaise (fun x => do noteFrame x env; theTreesLotGoes x)) fs s
  unfold forTurn
  rw [Sem.onRaise_eq_wrap]
  refine seg_bind_wrap (wpAny_standAt ?_)
  refine seg_bind_wrap (wpAny_onRaise (wpAny_mono h (fun r s1 h1 => ?_) fun _ _ x => x.elim))
  cases r with
  | none => exact seg_again rfl (h1 ())
  | some v =>
    refine seg_bind_wrap (wpAny_mono h1 (fun _ s2 h2 => ?_) fun _ _ x => x.elim)
    refine seg_bind_wrap (wpAny_mono h2 (fun _ s3 h3 => ?_) fun _ _ x => x.elim)
    rw [Sem.bind_eq_wrap', Sem.wrap_wrap]
    rw [Sem.wrap_congr (execs body env) _ _
      (K' := fun fl => match fl with
        | .next | .cont => .pure (.again (.forLoop tg it body [] env))
        | .brk => .pure (.done .next)
        | .ret v => .pure (.done (.ret v)))
      (H' := fun x => (do noteFrame x env; theTreesLotGoes x : Sem Unit).wrap
        (fun _ => .raise x) .raise id id)
      (fun fl => by cases fl <;> rfl)
      (fun x => by
        first
          | exact Sem.bind_eq_wrap _ _
          | (show (do noteFrame x env; theTreesLotGoes x : Sem Unit).bind
              (fun _ => .raise x) = _
             rw [Sem.bind_eq_wrap]))]
    exact h3
end
end GenS

/-! a generator's frame, at each waking seen anew -/
namespace L2
open PySem PySem.Spec PyProof.Rows GenW GenS
/-- the objects below L -/
def cutH (L : Nat) (h : Heap) : Heap := { h with objs := h.objs.extract 0 L }
theorem cut_size {L : Nat} {h : Heap} (hl : L ≤ h.objs.size) : (cutH L h).objs.size = L := by
  simp [cutH, Nat.min_eq_left hl]
theorem cut_get {L : Nat} {h : Heap} {b : Addr} : (cutH L h).get? b = if b < L then h.get? b else none := by
  have e : (h.objs.extract 0 L)[b]? = if b < L then h.objs[b]? else none := by
    rw [Array.getElem?_extract, Nat.sub_zero, Nat.zero_add]
    by_cases hb : b < L
    · by_cases hs : b < h.objs.size
      · rw [if_pos (Nat.lt_min.mpr ⟨hb, hs⟩), if_pos hb]
      · rw [if_neg (fun z => hs (Nat.lt_min.mp z).2), if_pos hb, Array.getElem?_eq_none (Nat.not_lt.mp hs)]
    · rw [if_neg (fun z => hb (Nat.lt_min.mp z).1), if_neg hb]
  unfold Heap.get? cutH
  simp only [e]
  by_cases hb : b < L
  · rw [if_pos hb, if_pos hb]
  · rw [if_neg hb, if_neg hb]
def cutG (L : Nat) (s : Shared) : Shared := { s with heap := cutH L s.heap }
/-- all young objects but a few, as they stand -/
def Hy (h : Heap) (L : Nat) (fp : List Addr) : Hp := fun b => if L < b ∧ b ∉ fp then (h.get? b).map (fun o => .ext fun h' => h'.get? b = some o) else none
theorem Hy_at {h : Heap} {L : Nat} {fp : List Addr} {b : Addr} {o : Obj} (hb : L < b) (n : b ∉ fp) (e : h.get? b = some o) : Hy h L fp b = some (.ext fun h' => h'.get? b = some o) := by
  unfold Hy
  rw [if_pos ⟨hb, n⟩, e]
  rfl
theorem Hy_old {h : Heap} {L : Nat} {fp : List Addr} {b : Addr} (hb : ¬ L < b) : Hy h L fp b = none := if_neg fun z => hb z.1
theorem Hy_fp {h : Heap} {L : Nat} {fp : List Addr} {b : Addr} (hb : b ∈ fp) : Hy h L fp b = none := if_neg fun z => z.2 hb
theorem Hy_ext {h : Heap} {L : Nat} {fp : List Addr} {b : Addr} {u : HO} (e : Hy h L fp b = some u) : ∃ o, h.get? b = some o ∧ u = .ext fun h' => h'.get? b = some o := by
  unfold Hy at e
  split at e
  · obtain ⟨o, h1, h2⟩ := Option.map_eq_some_iff.mp e
    exact ⟨o, h1, h2.symm⟩
  · cases e
theorem Hy_ok {P : Program} {w : World} {h : Heap} {L : Nat} {fp : List Addr} : HOk P w (Hy h L fp) h := fun b u e => by
  obtain ⟨o, ho, rfl⟩ := Hy_ext e
  exact ⟨ho, ⟨o, ho⟩, fun h1 h2 a k => k o a⟩
theorem Hy_noT {h : Heap} {L : Nat} {fp : List Addr} : NoT (Hy h L fp) := fun b u e => by
  obtain ⟨o, ho, rfl⟩ := Hy_ext e
  rfl
/-- what a generator's frame leans on -/
structure GW (base : Heap) (outer : List Env) (L : Nat) (s : Shared) : Prop where
  bs : ∀ b o, base.get? b = some o → s.heap.get? b = some o
  funs : s.heap.FunFrames base outer
  bare : AllBare s.gens
  lt : L < s.heap.objs.size
structure GSt (K : PySem.W.Frag) (mg : Str → Option Value) (base : Heap) (scope : Scope) (A : Around) (outer : List Env) (L : Nat) : Prop where
  mod : Mod K mg base
  bsz : base.objs.size ≤ L
  fl : ∀ b ∈ frs outer, b < L
  frames : A.frames = some outer
  hd : A.handled = none
  kind : scope.kind = .function
  flat : ∀ y ∈ scope.names, y.2 ≠ .cell ∧ y.2 ≠ .free
  nocell : ∀ n, cellsFrom n scope.names [] = []
section
variable {P : Program} {w : World} {K : PySem.W.Frag} {mg : Str → Option Value} {base : Heap} {N : List Str} {qual : Str} {scope : Scope} {f : Addr} {cd : Value} {A : Around} {outer : List Env} {L : Nat} {s s' : Shared} {σ σ' : St} {fp : List Addr}
def gX (P : Program) (w : World) (K : PySem.W.Frag) (mg : Str → Option Value) (base : Heap) (N : List Str) (qual : Str) (scope : Scope) (f : Addr) (cd : Value) (A : Around) (outer : List Env) (L : Nat) (s : Shared) : Cx where
  prog := P
  w := w
  K := K
  mg := mg
  base := base
  A := A.deeper (envOfC qual scope L f cd)
  N := N
  s_0 := cutG L s
  H_0 := fun _ => none
  env := envOfC qual scope L f cd
  outer := outer
  stack := envOfC qual scope L f cd :: outer
  ex := []
  fn := fun _ => true
  calm := true
  pn := []
  xe := fun _ _ => False
theorem cut_funs {h : Heap} : ∀ {l : List Env}, (∀ b ∈ frs l, b < L) → h.FunFrames base l → (cutH L h).FunFrames base l
  | [], _, _ => trivial
  | env :: r, hl, ⟨hk, ⟨M, o, hf, hn, ho, hd⟩, hr⟩ => by
    have hM : M < L := hl M (by unfold frs; rw [List.filterMap_cons, hf]; exact List.mem_cons_self)
    exact ⟨hk, ⟨M, o, hf, hn, by rw [cut_get, if_pos hM]; exact ho, hd⟩, cut_funs (fun b hb => hl b (by
      unfold frs at hb ⊢
      rw [List.filterMap_cons, hf]
      exact List.mem_cons_of_mem _ hb)) hr⟩
theorem GSt.nolook (S : GSt K mg base scope A outer L) {x : Str} : ¬ (scope.names.lookup x = some .cell ∨ scope.names.lookup x = some .free) := fun h => by
  rcases h with h | h
  · exact (S.flat _ (PySem.mem_of_lookup h)).1 rfl
  · exact (S.flat _ (PySem.mem_of_lookup h)).2 rfl
theorem inv_g (S : GSt K mg base scope A outer L) (W : GW base outer L s) {m : Str → Option Value} (hn : s.heap.Ns L m) (hl : ∀ (i : Nat) (x : Str) (v : V), N[i]? = some x → σ[i]? = some (some v) → Vis scope x → ∃ u, RelV v u ∧ scope.names.lookup x = some .local ∧ m x = some u) (len : σ.length = N.length) (fp : List Addr) :
    Inv (gX P w K mg base N qual scope f cd A outer L s) [] σ (Hy s.heap L fp) s := by
  have sz : (cutH L s.heap).objs.size = L := cut_size (Nat.le_of_lt W.lt)
  have ec : (envOfC qual scope L f cd).cells = [] := S.nocell (L + 1)
  have nc : ∀ x c, (envOfC qual scope L f cd).cells.lookup x ≠ some c := fun x c h => by
    rw [ec] at h
    cases h
  refine ⟨⟨S.mod, S.kind, rfl, rfl, Nat.le_of_eq sz, fun x y c h => absurd h (nc x c), fun x h => absurd h S.nolook, fun x c _ h => absurd h (nc x c), fun _ => S.hd, Around.frames_deeper S.frames, .inr ⟨rfl, rfl⟩, fun b h => absurd h List.not_mem_nil, fun b o e => ⟨?_, rfl⟩, ?_, fun b o _ h => absurd h List.not_mem_nil, fun b h => absurd h List.not_mem_nil, cut_funs S.fl W.funs, fun b _ => rfl⟩,
    rfl, W.bare, ⟨fun b o e n h1 h2 => ?_, fun b o e n h1 h2 => ?_, fun b o e n h1 => ?_, fun b o e h1 => ?_, fun b xs h => (by cases h), fun b o u h => (by cases h), fun b ps h => (by cases h)⟩, ⟨m, hn, fun i x v h1 h2 h3 => ?_⟩, fun x c h => absurd h (nc x c), Hy_old (Nat.lt_irrefl _), fun x c h => absurd h (nc x c), fun p hp => absurd hp List.not_mem_nil, Hy_ok, len⟩
  · show (cutH L s.heap).get? b = some o
    rw [cut_get, if_pos (Nat.lt_of_lt_of_le (Heap.lt_size e) S.bsz)]
    exact W.bs b o e
  · show base.objs.size ≤ (cutH L s.heap).objs.size
    rw [sz]
    exact S.bsz
  · have e : (cutH L s.heap).get? b = some o := e
    rw [cut_get] at e
    split at e
    · exact e
    · cases e
  · have e : (cutH L s.heap).get? b = some o := e
    rw [cut_get] at e
    split at e
    · exact ⟨o.slots, e⟩
    · cases e
  · have e : (cutH L s.heap).get? b = some o := e
    rw [cut_get] at e
    split at e
    · rename_i h
      exact Hy_old (Nat.not_lt.mpr (Nat.le_of_lt h))
    · cases e
  · have e : (cutH L s.heap).get? b = some o := e
    rw [cut_get] at e
    split at e
    · exact ⟨o, e⟩
    · cases e
  · obtain ⟨u, r, h4, h5⟩ := hl i x v h1 h2 h3
    exact ⟨u, r, .inl ⟨h4, h5⟩⟩
/-- all but L and a few objects are as they were; of the callers' frames the slots may have changed -/
structure Fr (outer : List Env) (fp : List Addr) (s s' : Shared) : Prop where
  os : s'.os = s.os
  keep : ∀ b o, s.heap.get? b = some o → b ∉ fp → b ∉ frs outer → s'.heap.get? b = some o
  slot : ∀ b o, s.heap.get? b = some o → b ∉ fp → b ∈ frs outer → ∃ sl, s'.heap.get? b = some { o with slots := sl }
theorem inv_fr (S : GSt K mg base scope A outer L) (I : Inv (gX P w K mg base N qual scope f cd A outer L s) [] σ (Hy s.heap L fp) s') : Fr outer (L :: fp) s s' := by
  refine ⟨I.os, fun b o e n nf => ?_, fun b o e n hf => ?_⟩
  · by_cases h : L < b
    · have q := I.hok b _ (Hy_at h (fun z => n (List.mem_cons_of_mem _ z)) e)
      exact q.1
    · have hb : b < L := by
        have : b ≠ L := fun z => n (by rw [z]; exact List.mem_cons_self)
        have h1 : b ≤ L := Nat.le_of_not_lt h
        exact Nat.lt_of_le_of_ne h1 this
      exact I.base.keep b o (show (cutH L s.heap).get? b = some o by rw [cut_get, if_pos hb]; exact e) rfl nf List.not_mem_nil
  · have hb := S.fl b hf
    exact I.base.slot b o (show (cutH L s.heap).get? b = some o by rw [cut_get, if_pos hb]; exact e) rfl hf List.not_mem_nil
theorem inv_gw (I : Inv (gX P w K mg base N qual scope f cd A outer L s) [] σ (Hy s.heap L fp) s') : GW base outer L s' := ⟨I.bk, I.funs, I.bare, I.lt⟩
/-- the frame's names, as they stand -/
theorem inv_loc (S : GSt K mg base scope A outer L) {H : Hp} (I : Inv (gX P w K mg base N qual scope f cd A outer L s) [] σ H s') : ∃ m, s'.heap.Ns L m ∧ ∀ (i : Nat) (x : Str) (v : V), N[i]? = some x → σ[i]? = some (some v) → Vis scope x → ∃ u, RelV v u ∧ scope.names.lookup x = some .local ∧ m x = some u := by
  obtain ⟨m, hn, hl⟩ := I.loc
  refine ⟨m, hn, fun i x v h1 h2 h3 => ?_⟩
  obtain ⟨u, r, q⟩ := hl i x v h1 h2 h3
  rcases q with q | ⟨q, _⟩
  · exact ⟨u, r, q.1, q.2⟩
  · exact absurd q S.nolook
end
end L2

/-! for x in range(..): if test: yield e -/
namespace L2
open PySem PySem.Spec PyProof.Rows GenW GenS
/-- what a generator hands out: k turns from i on -/
def itL (pz : Nat → Bool) (fv : Nat → V) : Nat → Nat → List V
  | 0, _ => []
  | k + 1, i => if pz i = true then fv i :: itL pz fv k (i + 1) else itL pz fv k (i + 1)
def GYp (base : Heap) (outer : List Env) (L : Nat) (xs : List V) (fp : List Addr) : Protocol := fun m s0 v s kap =>
  ∃ x, xs[xs.length - (m + 1)]? = some x ∧ m + 1 ≤ xs.length ∧ RelV x v ∧ GW base outer L s ∧ Fr outer (L :: fp) s0 s ∧ (∀ b ∈ fp, L < b) ∧ (∀ b ∈ L :: fp, ∃ o, s.heap.get? b = some o ∧ ∀ v, o.data ≠ .cell v) ∧
    ∀ s', GW base outer L s' → (∀ b ∈ L :: fp, ∀ o, s.heap.get? b = some o → s'.heap.get? b = some o) → kap (.send .none) s'
def GRp (base : Heap) (outer : List Env) (L : Nat) (fp : List Addr) : GenEnd := fun m s0 r s => r = .ok (.ret .none) ∧ m = 0 ∧ GW base outer L s ∧ Fr outer (L :: fp) s0 s ∧ ∀ b ∈ fp, L < b
section
variable {P : Program} {w : World} {K : PySem.W.Frag} {mg : Str → Option Value} {base : Heap} {N : List Str} {qual : Str} {scope : Scope} {f : Addr} {cd : Value} {A : Around} {outer : List Env} {L : Nat} {fp : List Addr}
  {tg iter test e : Expr} {yp ep ip fpos : Pos} {g : TG} {tt : TT} {te : TE} {lo : Int} {n : Nat} {pz : Nat → Bool} {fv : Nat → V} {Ps : St → Prop} {c : Code} {Kn : Flow → Sem PySem.Fin} {Jn : Value → Sem PySem.Fin} {gd : Bool → Bool} {lv : List Value → List Value} {p : Pos} {it : Addr} {tn : Nat → Heap → Prop}
theorem gen_loop (S : GSt K mg base scope A outer L) (T : Turn P w K tg (Itr lo n) fp it tn) (hfp : ∀ b ∈ fp, L < b)
    (hco : scope.isCoroutine = false)
    (hg : ∀ s, PG (gX P w K mg base N qual scope f cd A outer L s) tg g) (ht : ∀ s, PT (gX P w K mg base N qual scope f cd A outer L s) test tt) (he : ∀ s, PE (gX P w K mg base N qual scope f cd A outer L s) e te)
    (hlen : ∀ σ, Ps σ → σ.length = N.length)
    (step : ∀ i σ H, i < n → Ps σ → NoT H → g (.int (lo + i)) σ H fun σ2 H2 => H2 = H ∧ Ps σ2 ∧ tt σ2 H2 fun b H3 => H3 = H ∧ b = pz i ∧ (b = true → te σ2 H3 fun v H4 => H4 = H ∧ v = fv i))
    (hov : A.over (.forLoop tg (.ref it) [.If test [.Expr (.Yield (some e) yp) ep] [] ip] [] (envOfC qual scope L f cd)) (.ret (loopBack (envOfC qual scope L f cd) Kn Jn gd lv) none (gd false) (lv []) c p [] :: []) = A.deeper (envOfC qual scope L f cd))
    (hgd : gd false = false) {xs : List V}
    (fin : ∀ m s0 s, m = 0 → GW base outer L s → Fr outer (L :: fp) s0 s → Seg (model P w) A (GRp base outer L fp) (GYp base outer L xs fp) m s0 c (loopBack (envOfC qual scope L f cd) Kn Jn gd lv (.ok .next)) [] s) :
    ∀ (k i : Nat) (s0 s : Shared) (σ : St), i + k = n → Ps σ → Inv (gX P w K mg base N qual scope f cd A outer L s0) [] σ (Hy s0.heap L fp) s → tn i s.heap →
      (itL pz fv k i).length ≤ xs.length → xs.drop (xs.length - (itL pz fv k i).length) = itL pz fv k i →
      Seg (model P w) A (GRp base outer L fp) (GYp base outer L xs fp) (itL pz fv k i).length s0 (.forLoop tg (.ref it) [.If test [.Expr (.Yield (some e) yp) ep] [] ip] [] (envOfC qual scope L f cd))
        ((model P w).den (.forLoop tg (.ref it) [.If test [.Expr (.Yield (some e) yp) ep] [] ip] [] (envOfC qual scope L f cd))) (.ret (loopBack (envOfC qual scope L f cd) Kn Jn gd lv) none (gd false) (lv []) c p [] :: []) s := by
  intro k
  induction k with
  | zero =>
    intro i s0 s σ hi hP I st hl hx
    have fpo : ∀ b ∈ fp, FpOk (gX P w K mg base N qual scope f cd A outer L s0) [] (Hy s0.heap L fp) b := fun b hb => by
      have hL := hfp b hb
      refine ⟨Hy_fp hb, Nat.ne_of_gt hL, fun z => absurd (S.fl b z) (Nat.not_lt.mpr (Nat.le_of_lt hL)), .inr ?_, fun x c h => ?_, fun q hq => absurd hq List.not_mem_nil⟩
      · exact Nat.le_trans I.ok.above (Nat.le_of_lt hL)
      · have : (envOfC qual scope L f cd).cells = [] := S.nocell (L + 1)
        have h : (envOfC qual scope L f cd).cells.lookup x = some c := h
        rw [this] at h
        cases h
    refine seg_forTurn ?_
    rw [hov]
    refine wpAny_mono (T.done (gX P w K mg base N qual scope f cd A outer L s0) rfl rfl rfl rfl i [] s σ _ (fun _ _ => False) I fpo st (show n ≤ i by omega)) (fun r s1 ⟨hr, I1⟩ => ?_) fun _ _ x => x
    subst hr
    intro _
    have q := fin 0 s0 s1 rfl (inv_gw I1) (inv_fr S I1)
    show Seg _ _ _ _ _ _ _ ((do return Fin.done (← (execs [] (envOfC qual scope L f cd)).onRaise _) : Sem PySem.Fin)) _ s1
    refine seg_bind (wpAny_onRaise (wpAny_pure ?_))
    exact seg_leaf (.ok .next) q
  | succ k ih =>
    intro i s0 s σ hi hP I st hl hx
    have fpo : ∀ b ∈ fp, FpOk (gX P w K mg base N qual scope f cd A outer L s0) [] (Hy s0.heap L fp) b := fun b hb => by
      have hL := hfp b hb
      refine ⟨Hy_fp hb, Nat.ne_of_gt hL, fun z => absurd (S.fl b z) (Nat.not_lt.mpr (Nat.le_of_lt hL)), .inr ?_, fun x c h => ?_, fun q hq => absurd hq List.not_mem_nil⟩
      · exact Nat.le_trans I.ok.above (Nat.le_of_lt hL)
      · have : (envOfC qual scope L f cd).cells = [] := S.nocell (L + 1)
        have h : (envOfC qual scope L f cd).cells.lookup x = some c := h
        rw [this] at h
        cases h
    refine seg_forTurn ?_
    rw [hov]
    refine wpAny_mono (T.item (gX P w K mg base N qual scope f cd A outer L s0) rfl rfl rfl rfl i [] s σ _ (fun _ _ => False) I fpo st (show i < n by omega)) (fun r s1 ⟨u, hr, h1⟩ => ?_) fun _ _ x => x
    subst hr
    refine wpAny_mono h1 (fun _ s2 ⟨x, H2, I2, r2, y2, st2, _⟩ => ?_) fun _ _ x => x
    obtain ⟨e1, e2⟩ := y2
    subst e1 e2
    have stp := step i σ (Hy s0.heap L fp) (by omega) hP Hy_noT
    have I2' := I2.pinned (fun b hb => fpo b hb) (T.obj _ _ st2)
    refine wpAny_mono ((hg s0).run _ s2 σ _ _ u _ I2' r2 stp) (fun _ s3 ⟨σ3, H3, I3, e3, p3, t3⟩ => ?_) fun _ _ x => x.elim
    subst e3
    refine seg_execs_cons ?_
    rw [arm_exec_If]
    refine seg_bind_wrap (wpAny_standAt ?_)
    refine seg_bind_wrap ?_
    rw [hov]
    refine wpAny_mono ((ht s0).run _ s3 σ3 _ _ I3 t3) (fun b s4 ⟨H4, I4, e4, hb, q4⟩ => ?_) fun _ _ x => x.elim
    subst e4
    have keepT : ∀ {s5 : Shared} {σ5 : St}, Inv (gX P w K mg base N qual scope f cd A outer L s0) ([] ++ pinsAt fp s2.heap) σ5 (Hy s0.heap L fp) s5 → tn (i + 1) s5.heap := fun {s5 σ5} I5 =>
      T.keep _ _ _ st2 fun b hb o e => (I5.pin (b, o) (List.mem_append_right _ (List.mem_append_right _ (mem_pinsAt hb e)))).1
    subst hb
    by_cases hz : pz i = true
    · have el : itL pz fv (k + 1) i = fv i :: itL pz fv k (i + 1) := if_pos hz
      rw [el] at hl hx
      rw [el, if_pos hz]
      refine seg_execs_cons ?_
      refine seg_Expr_Yield rfl rfl (by simp [Frame.guarded, hgd]) ?_ hco (show interactive (gX P w K mg base N qual scope f cd A outer L s0).env = false from I4.quiet)
      rw [hov]
      refine wpAny_mono ((he s0).run _ s4 σ3 _ _ I4 (q4 hz)) (fun v s5 ⟨x, H5, I5, r5, e5, e6⟩ => ?_) fun _ _ x => x.elim
      subst e5 e6
      intro kap hk
      have I5' := I5.unpinned
      have st5 := keepT I5
      rw [List.length_cons] at hl hx
      refine ⟨fv i, ?_, hl, r5, inv_gw I5', inv_fr S I5', hfp, fun b hb => ?_, fun s' W' same => ?_⟩
      · have := congrArg List.head? hx
        rw [List.head?_drop] at this
        exact this
      · rcases List.mem_cons.mp hb with z | z
        · obtain ⟨m, ⟨o, es, epp, ho, hd, _⟩, _⟩ := inv_loc S I5'
          exact ⟨o, by rw [z]; exact ho, fun v q => by rw [hd] at q; cases q⟩
        · exact T.obj _ _ st5 b z
      · refine hk .none s' ?_
        obtain ⟨m, ⟨o, es, epp, ho, hd⟩, hloc⟩ := inv_loc S I5'
        have I6 := inv_g (P := P) (w := w) (K := K) (mg := mg) (N := N) (qual := qual) (f := f) (cd := cd) (σ := σ3) S W' (m := m) ⟨o, es, epp, same L List.mem_cons_self o ho, hd⟩ hloc (hlen σ3 p3) fp
        have st6 := T.keep _ _ s'.heap st5 fun b hb o e => same b (List.mem_cons_of_mem _ hb) o e
        refine seg_again rfl (ih (i + 1) s' s' σ3 (by omega) p3 I6 st6 (by omega) ?_)
        have := congrArg List.tail hx
        rw [List.tail_drop, List.tail_cons] at this
        rw [show xs.length - (itL pz fv k (i + 1)).length = xs.length - ((itL pz fv k (i + 1)).length + 1) + 1 by omega]
        exact this
    · have el : itL pz fv (k + 1) i = itL pz fv k (i + 1) := if_neg hz
      rw [el] at hl hx
      rw [el, if_neg hz]
      exact seg_again rfl (ih (i + 1) s0 s4 σ3 (by omega) p3 I4.unpinned (keepT I4) hl hx)
end
end L2

/-! a generator is woken -/
namespace L2
open PySem PySem.Spec PyProof.Rows GenW GenS
section
variable {P : Program} {w : World} {A : Around} {E : Value → Shared → Prop} {s : Shared}
/-- next(a), by what waking gives -/
theorem next_by {a : Addr} {g : Nat} {gs : GenState} {IY : Value → Shared → Prop} {IR : Shared → Prop} {Q : Option Value → Shared → Prop} (hh : A.handled = none) (lim : s.heap.NoLimit) (room : A.depth < recursionLimit)
    (ig : s.heap.IsGen a g) (at_ : s.gens[g]? = some gs) (ok : gs.status = .fresh ∨ gs.status = .suspended)
    (wakes : ∀ (k : GenResult → Sem PySem.Fin) (Q' : PySem.Fin → Shared → Prop) (E' : Value → Shared → Prop), (∀ v t, IY v t → wpAny (model P w) A.in1 (k (.yielded v)) Q' E' t) → (∀ t, IR t → wpAny (model P w) A.in1 (k (.returned .none)) Q' E' t) →
      wpAny (model P w) A.in1 (.resume g (.send .none) [] k) Q' E' s)
    (hY : ∀ v t, IY v t → Q (some v) t) (hR : ∀ t, IR t → ∀ h', (∀ b o, t.heap.get? b = some o → h'.get? b = some o) → Q none { t with heap := h' }) : wpAny (model P w) A (pyNext (.ref a)) Q E s := by
  have slot := slot_gen_next
  unfold pyNext
  refine wpAny_bind (wpAny_attempt (wpAny_callSpecial?_slot
    (name := Str.ofString "__next__") ig.typeIs slot
    (wpAny_call_entry slot ig.typeIs entry_gen_next ?_ (args_gen_next _))))
  show wpAny (model P w) A.in1 (Builtin.Generator.genWake (.ref a) (.send .none)) _ _ s
  unfold Builtin.Generator.genWake
  refine wpAny_bind (wpAny_holding (wpAny_genNumber ig
    (wpAny_bind (wpAny_genState at_ ?_))))
  have go : ∀ (k : GenResult → Sem PySem.Fin) (Q' : PySem.Fin → Shared → Prop) (E' : Value → Shared → Prop), (∀ v, k (.yielded v) = pure (.done (.ret v))) → (k (.returned .none) = ((newExc (.type "StopIteration") [] >>= fun x => (raiseNew x : Sem PUnit)) >>= fun _ => (rule "generator.return-value" >>= fun _ => newExc (.type "StopIteration") [.none] >>= fun x => throw x))) →
      (∀ v t, IY v t → Q' (.done (.ret v)) t) → (∀ t, IR t → ∀ h' x, (∀ b o, t.heap.get? b = some o → h'.get? b = some o) → (∃ o, h'.get? x = some o ∧ o.cls = .type "StopIteration") → E' (.ref x) { t with heap := h' }) → wpAny (model P w) A.in1 (.resume g (.send .none) [] k) Q' E' s := fun k Q' E' k1 k2 y r => by
    refine wakes k Q' E' (fun v t h => ?_) fun t h => ?_
    · rw [k1]
      exact wpAny_pure (y v t h)
    · rw [k2]
      refine wpAny_bind (wpAny_bind ?_)
      simp only [newExc, newTuple]
      refine wpAny_bind ?_
      refine wpAny_newObj_type ?_ (by size_fits)
      refine wpAny_bind (m := firstArgMember _ _) ?_
      refine wpAny_of_eq (a := Value.none) (by first | rfl | (simp only [firstArgMember]; rfl)) ?_
      refine wpAny_newObj_type ?_ (by size_fits)
      simp only [raiseNew]
      refine wpAny_bind ?_
      refine wpAny_handled ?_
      have h0 : A.in1.handled = none := hh
      first | rw [h0] | skip
      refine wpAny_throw ?_
      exact r t h _ _ (fun b o hb => Heap.get?_push_of_some _ (Heap.get?_push_of_some _ hb)) ⟨_, Heap.get?_push_size _ rfl, rfl⟩
  have step := fun (k : GenResult → Sem PySem.Fin) k1 k2 => go k (fun fin s' => ∃ v, fin = .done (.ret v) ∧ Q (some v) s') (fun e s' => ∃ t h' x, IR t ∧ e = .ref x ∧ s' = { t with heap := h' } ∧ (∀ b o, t.heap.get? b = some o → h'.get? b = some o) ∧ ∃ o, h'.get? x = some o ∧ o.cls = .type "StopIteration") k1 k2 (fun v t h => ⟨v, rfl, hY v t h⟩) fun t h h' x kp q => ⟨t, h', x, h, rfl, rfl, kp, q⟩
  have out : ∀ {k : GenResult → Sem PySem.Fin} {Q' : PySem.Fin → Shared → Prop} {E' : Value → Shared → Prop}, wpAny (model P w) A.in1 (.resume g (.send .none) [] k) (fun fin s' => ∃ v, fin = .done (.ret v) ∧ Q (some v) s') (fun e s' => ∃ t h' x, IR t ∧ e = .ref x ∧ s' = { t with heap := h' } ∧ (∀ b o, t.heap.get? b = some o → h'.get? b = some o) ∧ ∃ o, h'.get? x = some o ∧ o.cls = .type "StopIteration") s →
      (∀ v t, Q (some v) t → Q' (.done (.ret v)) t) → (∀ x t, Q none t → (∃ o, t.heap.get? x = some o ∧ o.cls = .type "StopIteration") → E' (.ref x) t) → wpAny (model P w) A.in1 (.resume g (.send .none) [] k) Q' E' s := fun {k Q' E'} h y r =>
    wpAny_mono h (fun fin s' ⟨v, e, q⟩ => by rw [e]; exact y v s' q) fun e s' ⟨t, h', x, q, e1, e2, kp, st⟩ => by
      subst e1 e2
      exact r x _ (hR t q h' kp) st
  have stop : ∀ x t, Q none t → (∃ o, t.heap.get? x = some o ∧ o.cls = .type "StopIteration") → wpAny (model P w) A (do
      let b ← isInstance (.ref x) (.type "StopIteration")
      if b = true then pure none else throw (.ref x)) Q E t := fun x t q ⟨o, ho, hc⟩ => by
    refine wpAny_bind (wpAny_isInstance (T := "StopIteration") (b := true) ⟨o, ho, hc⟩ isSubtype_stop ?_)
    exact wpAny_pure q
  rcases ok with z | z
  · cases gs with
    | fresh c =>
      refine wpAny_bind (wpAny_roomToWake lim room ?_)
      show wpAny (model P w) A.in1 (.resume g (.send .none) [] _) _ _ s
      refine out (step _ (fun v => rfl) rfl) (fun v t q => ?_) fun x t q st => ?_
      · exact ⟨v, rfl, wpAny_pure q⟩
      · exact stop x t q st
    | _ => cases z
  · cases gs with
    | suspended k l c p fs cl =>
      refine wpAny_bind (wpAny_roomToWake lim room ?_)
      show wpAny (model P w) A.in1 (.resume g (.send .none) [] _) _ _ s
      refine out (step _ (fun v => rfl) rfl) (fun v t q => ?_) fun x t q st => ?_
      · exact ⟨v, rfl, wpAny_pure q⟩
      · exact stop x t q st
    | _ => cases z
end
end L2

/-! a generator at work: from its call on -/
namespace L2
open PySem PySem.Spec PyProof.Rows GenW GenS
section
variable {M : Model} {A : Around} {n : Nat} {s : Shared} {g : Nat} {l : List Value} {α β : Type} {k : GenResult → Sem β} {Q : β → Shared → Prop} {E : Value → Shared → Prop}
/-- what stands behind a yield -/
def Goes' (M : Model) (A : Around) (R : GenEnd) (Y : Protocol) (n : Nat) (gs : GenState) : Resume → Shared → Prop := fun r s => match n with
  | 0 => False
  | m + 1 => gs.Goes M A R Y m r s
theorem resume_x {R : α → GenEnd} {Y : α → Protocol} {c : Code} (hg : s.gens[g]? = some (.fresh c)) (h : SegX M A R Y n (s.setGen g .running) c (M.den c) [] (s.setGen g .running))
    (hR : ∀ x r t, R x n (s.setGen g .running) r t → wpAny M A (k (End.ret r).result) Q E (t.setGen g .finished))
    (hY : ∀ x v t gs, gs.bare = true → Asleep gs → Y x (n - 1) (s.setGen g .running) v t (Goes' M A (R x) (Y x) n gs) → wpAny M A (k (.yielded v)) Q E (t.setGen g gs)) : wpAny M A (.resume g (.send .none) l k) Q E s := by
  intro Γ p hΓ
  rw [Sem.wp_resume]
  obtain ⟨x, e, t, hr, he⟩ := h (Γ.wake c p) p rfl (hΓ.wake c p)
  have qt : e.quiet = true := by
    cases e with
    | ret _ => rfl
    | susp v g0 l0 k0 c0 p0 fs0 => exact he.1
  refine ⟨e.result, t.setGen g e.genState, ?_, ?_⟩
  · unfold Wakes
    rw [hg]
    exact ⟨e, t, hr, qt, rfl, rfl⟩
  · cases e with
    | ret r => exact hR x r t he Γ p hΓ
    | susp v g0 l0 k0 c0 p0 fs0 =>
      refine hY x v t _ (End.bare_of_quiet qt) ⟨_, _, _, _, _, _, rfl⟩ ?_ Γ p hΓ
      cases n with
      | zero => exact he.2
      | succ m => exact he.2
theorem resume_s {R : GenEnd} {Y : Protocol} {gs0 : GenState} (hg : s.gens[g]? = some gs0) (as : Asleep gs0) (h : gs0.Goes M A R Y n (.send .none) (s.setGen g .running))
    (hR : ∀ r t, R n (s.setGen g .running) r t → wpAny M A (k (End.ret r).result) Q E (t.setGen g .finished))
    (hY : ∀ v t gs, gs.bare = true → Asleep gs → Y (n - 1) (s.setGen g .running) v t (Goes' M A R Y n gs) → wpAny M A (k (.yielded v)) Q E (t.setGen g gs)) : wpAny M A (.resume g (.send .none) l k) Q E s := by
  obtain ⟨k1, l1, c1, p1, fs1, cl1, rfl⟩ := as
  intro Γ p hΓ
  rw [Sem.wp_resume]
  obtain ⟨e, t, hr, he⟩ := seg_iff.mp h (Γ.wake c1 p) p1 rfl (hΓ.wake c1 p)
  have qt : e.quiet = true := by
    cases e with
    | ret _ => rfl
    | susp v g0 l0 k0 c0 p0 fs0 => exact he.1
  refine ⟨e.result, t.setGen g e.genState, ?_, ?_⟩
  · unfold Wakes
    rw [hg]
    exact ⟨e, t, hr, qt, rfl, rfl⟩
  · cases e with
    | ret r => exact hR r t he Γ p hΓ
    | susp v g0 l0 k0 c0 p0 fs0 =>
      refine hY v t _ (End.bare_of_quiet qt) ⟨_, _, _, _, _, _, rfl⟩ ?_ Γ p hΓ
      cases n with
      | zero => exact he.2
      | succ m => exact he.2
end
section
variable {P : Program} {w : World} {K : PySem.W.Frag} {mg : Str → Option Value} {base : Heap} {N : List Str} {qual : Str} {scope : Scope} {f : Addr} {cd : Value} {A : Around} {outer : List Env} {L : Nat}
  {tg iter test e : Expr} {yp ep ip fpos : Pos} {wi : TI} {g : TG} {tt : TT} {te : TE} {lo : Int} {n : Nat} {pz : Nat → Bool} {fv : Nat → V} {Ps : St → Prop} {σ0 : St}
theorem segX_func {α : Type} {M : Model} {prog : Program} {R : α → GenEnd} {Y : α → Protocol} {m : Nat} {s0 s : Shared} {fs : List Frame} {body : List Stmt} {env : Env}
    (h : SegX (model prog w) A R Y m s0 (.func body env) ((execs body env).wrap (fun f => .pure (.done (.ret (match f with
      | .ret v => v
      | _ => .none)))) (fun e => (leaving env e).wrap (fun _ => .raise e) .raise id id) id id) fs s) : SegX (model prog w) A R Y m s0 (.func body env) ((model prog w).den (.func body env)) fs s := by
  show SegX _ A R Y m s0 _ (.point [] fun _ => ((execs body env).onRaise (leaving env)) >>= _) fs s
  refine segX_point ?_
  have e1 : ∀ (K0 : Flow → Sem PySem.Fin), (∀ f, K0 f = .pure (.done (.ret (match f with
      | .ret v => v
      | _ => .none)))) → ((execs body env).onRaise (leaving env)) >>= K0 = (execs body env).wrap (fun f => .pure (.done (.ret (match f with
      | .ret v => v
      | _ => .none)))) (fun e => (leaving env e).wrap (fun _ => .raise e) .raise id id) id id := fun K0 hK => by
    rw [Sem.onRaise_eq_wrap, Sem.bind_eq_wrap', Sem.wrap_wrap]
    exact Sem.wrap_congr (execs body env) _ _ (fun f => hK f) fun e => by
      rw [Sem.bind_eq_wrap, Sem.wrap_wrap]
      rfl
  rw [e1 _ fun f => by cases f <;> rfl]
  exact h
/-- the whole of it -/
theorem gen_first (S : GSt K mg base scope A outer L) (hco : scope.isCoroutine = false)
    (hi : ∀ s, PI (gX P w K mg base N qual scope f cd A outer L s) tg iter wi) (hg : ∀ s, PG (gX P w K mg base N qual scope f cd A outer L s) tg g) (ht : ∀ s, PT (gX P w K mg base N qual scope f cd A outer L s) test tt) (he : ∀ s, PE (gX P w K mg base N qual scope f cd A outer L s) e te)
    (hs : ∀ x, foldedSetIterable iter (envOfC qual scope L f cd) x = pure x) (hlen : ∀ σ, Ps σ → σ.length = N.length) (h0 : Ps σ0) (hw : ∀ H R, NoT H → R (Itr lo n) H → wi σ0 H R)
    (step : ∀ i σ H, i < n → Ps σ → NoT H → g (.int (lo + i)) σ H fun σ2 H2 => H2 = H ∧ Ps σ2 ∧ tt σ2 H2 fun b H3 => H3 = H ∧ b = pz i ∧ (b = true → te σ2 H3 fun v H4 => H4 = H ∧ v = fv i))
    {s : Shared} (W : GW base outer L s) {m : Str → Option Value} (hn : s.heap.Ns L m) (hl : ∀ (i : Nat) (x : Str) (v : V), N[i]? = some x → σ0[i]? = some (some v) → Vis scope x → ∃ u, RelV v u ∧ scope.names.lookup x = some .local ∧ m x = some u) :
    SegX (α := { fp : List Addr // ∀ b ∈ fp, s.heap.get? b = none }) (model P w) A (fun fp => GRp base outer L fp.1) (fun fp => GYp base outer L (itL pz fv n 0) fp.1) (itL pz fv n 0).length s (.func [.For tg iter [.If test [.Expr (.Yield (some e) yp) ep] [] ip] [] fpos] (envOfC qual scope L f cd))
      ((model P w).den (.func [.For tg iter [.If test [.Expr (.Yield (some e) yp) ep] [] ip] [] fpos] (envOfC qual scope L f cd))) [] s := by
  refine segX_func (M := model P w) ?_
  rw [execs_cons_wrap]
  refine segX_for hs ?_
  rw [over_func]
  have I0 := inv_g (P := P) (w := w) (K := K) (mg := mg) (N := N) (qual := qual) (f := f) (cd := cd) (σ := σ0) S W hn hl (hlen σ0 h0) []
  refine wpAny_mono ((hi s).run [] s σ0 _ (fun J H' => J = Itr lo n ∧ H' = Hy s.heap L []) I0 (hw _ _ Hy_noT ⟨rfl, rfl⟩)) (fun v s1 h1 => ?_) fun _ _ x => x.elim
  refine wpAny_mono h1 (fun itv s2 h2 => ?_) fun _ _ x => x.elim
  obtain ⟨it, fp, tn, J, H', rfl, I2, T, st, f2, rfl, rfl⟩ := h2
  have hfp : ∀ b ∈ fp, L < b := fun b hb => by
    obtain ⟨_, q2, _, q4, _⟩ := f2 b hb
    have q4 : L ≤ b := by
      rcases q4 with z | z
      · exact absurd z List.not_mem_nil
      · have e : (cutG L s).heap.objs.size = L := cut_size (Nat.le_of_lt W.lt)
        have z : (cutG L s).heap.objs.size ≤ b := z
        rwa [e] at z
    exact Nat.lt_of_le_of_ne q4 (Ne.symm q2)
  have eH : Hy s.heap L [] = Hy s.heap L fp := by
    funext b
    by_cases hb : b ∈ fp
    · rw [Hy_fp hb]
      exact (f2 b hb).1
    · unfold Hy
      have : (L < b ∧ b ∉ ([] : List Addr)) ↔ (L < b ∧ b ∉ fp) := ⟨fun h => ⟨h.1, hb⟩, fun h => ⟨h.1, List.not_mem_nil⟩⟩
      simp only [this]
  rw [eH] at I2
  have fresh : ∀ b ∈ fp, s.heap.get? b = none := fun b hb => by
    have q := (f2 b hb).1
    cases e : s.heap.get? b with
    | none => rfl
    | some o =>
      rw [Hy_at (hfp b hb) List.not_mem_nil e] at q
      cases q
  intro p
  refine SegX.of ⟨fp, fresh⟩ ?_
  have ov : A.over (.forLoop tg (.ref it) [.If test [.Expr (.Yield (some e) yp) ep] [] ip] [] (envOfC qual scope L f cd)) (.ret (loopBack (envOfC qual scope L f cd) (fun f_1 => match f_1 with
      | Flow.next => (execs [] (envOfC qual scope L f cd)).wrap (fun f => .pure (.done (.ret (match f with | .ret v => v | _ => .none)))) (fun e => (leaving (envOfC qual scope L f cd) e).wrap (fun _ => .raise e) .raise id id) id id
      | f => .pure (.done (.ret (match f with | .ret v => v | _ => .none)))) (fun e => (leaving (envOfC qual scope L f cd) e).wrap (fun _ => .raise e) .raise id id) id id) none false [] (.func [.For tg iter [.If test [.Expr (.Yield (some e) yp) ep] [] ip] [] fpos] (envOfC qual scope L f cd)) p [] :: []) = A.deeper (envOfC qual scope L f cd) := (over_loop rfl rfl).trans over_func
  refine gen_loop (gd := id) (lv := id) S T hfp hco hg ht he hlen step ov rfl (fun m s0 s3 hm Wm Fm => ?_) n 0 s s2 σ0 (Nat.zero_add n) h0 I2 st (Nat.le_refl _) (by rw [Nat.sub_self]; rfl)
  show Seg (model P w) A _ _ m s0 _ (.pure (.done (.ret .none))) [] s3
  exact seg_end (.ok (.ret .none)) ⟨rfl, hm, Wm, Fm, hfp⟩
end
end L2

/-! a generator that is walked, seen by who walks it -/
namespace L2
open PySem PySem.Spec PyProof.Rows GenW GenS
theorem ObjOk.ex {P : Program} {w : World} {H : Hp} {h : Heap} {a : Addr} {o : HO} (x : ObjOk P w H h a o) : ∃ u, h.get? a = some u := by
  have go : ∀ {u : Obj}, h.get? a = some u → ∃ u, h.get? a = some u := fun q => ⟨_, q⟩
  cases o with
  | lst xs =>
    obtain ⟨_, _, _, _, q⟩ := x
    exact go q
  | tup xs =>
    obtain ⟨_, _, _, ob, q, _⟩ := x
    exact go q
  | dK kvs =>
    obtain ⟨_, _, _, _, o, _, _, q, _⟩ := x
    exact go q
  | dT kvs =>
    obtain ⟨_, _, _, _, o, _, _, q, _⟩ := x
    exact go q
  | set S n =>
    obtain ⟨o, _, _, _, q, _⟩ := x
    exact go q
  | ins C dx fs =>
    obtain ⟨_, _, _, q, _⟩ := x
    exact go q
  | own y =>
    obtain ⟨_, q⟩ := x
    exact go q
  | xd fs =>
    obtain ⟨_, ⟨_, _, _, q, _⟩, _⟩ := x
    exact go q
  | rng lo hi =>
    obtain ⟨_, _, _, q⟩ := x
    exact go q
  | frz ob u =>
    obtain ⟨q, _⟩ := x
    exact go q
  | tbl ps => exact go (show h.get? a = some _ from x)
  | met f y => exact go (show h.get? a = some _ from x)
  | ext φ =>
    obtain ⟨_, ⟨o, q⟩, _⟩ := x
    exact go q
/-- the generator object a with the entry g, its frame's names at L: j items are out; pr: what is its own -/
structure GRd (P : Program) (w : World) (base : Heap) (A : Around) (outer : List Env) (a : Addr) (g : Nat) (L : Addr) (xs : List V) (j : Nat) (pr : List Addr) (s : Shared) : Prop where
  gen : s.heap.IsGen a g
  mem : L ∈ pr
  out : a ∉ pr
  objs : ∀ b ∈ pr, ∃ o, s.heap.get? b = some o ∧ ∀ v, o.data ≠ .cell v
  st : (j = 0 ∧ pr = [L] ∧ ∃ c, s.gens[g]? = some (.fresh c) ∧ ∀ s2, GW base outer L s2 → (∀ o, s.heap.get? L = some o → s2.heap.get? L = some o) →
      SegX (α := { fp : List Addr // ∀ b ∈ fp, s2.heap.get? b = none }) (model P w) A (fun fp => GRp base outer L fp.1) (fun fp => GYp base outer L xs fp.1) xs.length s2 c ((model P w).den c) [] s2) ∨
    ∃ fp gs m, pr = L :: fp ∧ m + j = xs.length ∧ s.gens[g]? = some gs ∧ Asleep gs ∧ (∀ b ∈ fp, L < b) ∧ ∀ s2, GW base outer L s2 → (∀ b ∈ L :: fp, ∀ o, s.heap.get? b = some o → s2.heap.get? b = some o) →
      gs.Goes (model P w) A (GRp base outer L fp) (GYp base outer L xs fp) m (.send .none) s2
section
variable {X : Cx} {pins : List (Addr × Obj)} {σ : St} {H : Hp} {s : Shared} {a : Addr} {g : Nat} {L : Addr} {xs : List V} {j : Nat} {pr : List Addr}
theorem GRd.gw (I : Inv X pins σ H s) (R : GRd X.prog X.w X.base X.A.in1 X.stack a g L xs j pr s) : GW X.base X.stack L (s.setGen g .running) :=
  ⟨I.bk, I.stack, allBare_setGen I.bare rfl, let ⟨o, e, _⟩ := R.objs L R.mem; Heap.lt_size e⟩
/-- behind a turn of it -/
theorem Inv.woke {fp : List Addr} {t : Shared} {x : GenState} (I : Inv X pins σ H s) (fo : ∀ b ∈ L :: fp, FpOk X pins H b) (F : Fr X.stack (L :: fp) (s.setGen g .running) t) (hb : AllBare t.gens) (hx : x.bare = true) : Inv X pins σ H (t.setGen g x) := by
  have nf : ∀ b u, H b = some u → b ∉ L :: fp := fun b u e z => by
    rw [(fo b z).1] at e
    cases e
  have ns : ∀ b u, H b = some u → b ∉ frs X.stack := fun b u e z => by
    rw [I.stkFree b z] at e
    cases e
  refine I.call' (ch := L :: fp) F.os ⟨fun b o e _ h1 h2 => F.keep b o e h2 h1, fun b o e _ h1 h2 => F.slot b o e h2 h1, fun b o _ n _ => n, fun b o e h => ?_, fun _ _ e => e, fun _ _ _ e => e, fun b ps e => ⟨#[], by rw [e]; simp⟩⟩ (fun b u e => ?_) (allBare_setGen hb hx) fun b hb => ?_
  · by_cases z : b ∈ frs X.stack
    · obtain ⟨sl, q⟩ := F.slot b o e h z
      exact ⟨_, q⟩
    · exact ⟨o, F.keep b o e h z⟩
  · refine (I.hok b u e).stay (fun c v hc q => ?_) (fun _ q => q) fun _ _ q => q
    rcases hc with z | z
    · rw [z] at q ⊢
      exact F.keep b v q (nf b u e) (ns b u e)
    · exact F.keep c v q (nf c _ z) (ns c _ z)
  · obtain ⟨_, h2, _, h4, h5, h6⟩ := fo b hb
    exact ⟨h4, h2, h5, h6⟩
/-- what was free is no one's -/
theorem Inv.fpNew (I : Inv X pins σ H s) {b : Addr} (h : s.heap.get? b = none) (y : b ∈ X.ex ∨ X.s_0.heap.objs.size ≤ b) : FpOk X pins H b := by
  have off : ∀ c o, s.heap.get? c = some o → b ≠ c := fun c o e z => by
    rw [← z, h] at e
    cases e
  refine ⟨?_, ?_, fun z => ?_, y, fun x c e z => ?_, fun p hp z => ?_⟩
  · cases e : H b with
    | none => rfl
    | some u =>
      obtain ⟨o, q⟩ := (I.hok b u e).ex
      exact absurd rfl (off b o q)
  · obtain ⟨m, ⟨o, _, _, e, _⟩, _⟩ := I.loc
    exact off _ o e
  · obtain ⟨_, o, e, _⟩ := I.funs.mem z
    exact off b o e rfl
  · obtain ⟨v, o, q, _⟩ := I.cell x c e
    exact off c o q z.symm
  · exact off p.1 p.2 (I.pin p hp).1 z.symm
theorem sub_last {xs : List V} {m j : Nat} (h : m + j = xs.length) (hm : 0 < m) : xs.length - (m - 1 + 1) = j := by omega
/-- the next item -/
theorem GRd.item {x : V} {E : Value → Shared → Prop} (I : Inv X pins σ H s) (R : GRd X.prog X.w X.base X.A.in1 X.stack a g L xs j pr s) (fo : ∀ b ∈ pr, FpOk X pins H b) (young : ∀ b, L < b → s.heap.get? b = none → b ∈ X.ex ∨ X.s_0.heap.objs.size ≤ b) (fa : a ∉ frs X.stack)
    (hd : X.A.handled = none) (room : X.A.depth < recursionLimit) (hx : xs[j]? = some x) :
    wpAny (model X.prog X.w) X.A (pyNext (.ref a)) (fun r t => ∃ u pr', r = some u ∧ RelV x u ∧ Inv X pins σ H t ∧ GRd X.prog X.w X.base X.A.in1 X.stack a g L xs (j + 1) pr' t ∧ (∀ b ∈ pr', FpOk X pins H b) ∧ (∀ b ∈ pr', b ∈ pr ∨ s.heap.get? b = none)) E s := by
  have gw := R.gw I
  have lx : j < xs.length := (List.getElem?_eq_some_iff.mp hx).1
  -- the two ways meet here
  have meet : ∀ (fp : List Addr) (m : Nat) (v : Value) (t : Shared) (gs : GenState), m + j = xs.length → gs.bare = true → Asleep gs → (∀ b ∈ L :: fp, FpOk X pins H b) → (∀ b ∈ L :: fp, b ∈ pr ∨ s.heap.get? b = none) →
      GYp X.base X.stack L xs fp (m - 1) (s.setGen g .running) v t (Goes' (model X.prog X.w) X.A.in1 (GRp X.base X.stack L fp) (GYp X.base X.stack L xs fp) m gs) → g + 1 ≤ (t.setGen g gs).gens.size →
      ∃ pr', RelV x v ∧ Inv X pins σ H (t.setGen g gs) ∧ GRd X.prog X.w X.base X.A.in1 X.stack a g L xs (j + 1) pr' (t.setGen g gs) ∧ (∀ b ∈ pr', FpOk X pins H b) ∧ ∀ b ∈ pr', b ∈ pr ∨ s.heap.get? b = none := fun fp m v t gs hm hb as fo2 old ⟨y, hy, _, rv, W, F, hfp, ob, kap⟩ sz => by
    rw [sub_last hm (by omega), hx] at hy
    cases hy
    have an : a ∉ L :: fp := fun z => by
      rcases old a z with q | q
      · exact R.out q
      · obtain ⟨o, _, _, e, _⟩ := R.gen
        rw [e] at q
        cases q
    refine ⟨L :: fp, rv, I.woke fo2 F W.bare hb, ⟨?_, List.mem_cons_self, an, ob, .inr ⟨fp, gs, m - 1, rfl, by omega, ?_, as, hfp, fun s2 W2 same => ?_⟩⟩, fo2, old⟩
    · obtain ⟨o, nm, qn, e, r⟩ := R.gen
      exact ⟨o, nm, qn, F.keep a o e an fa, r⟩
    · rw [setGen_size] at sz
      exact setGen_at sz
    · obtain ⟨m', rfl⟩ : ∃ m', m = m' + 1 := ⟨m - 1, by omega⟩
      exact kap s2 W2 same
  have hgl : g + 1 ≤ s.gens.size := by
    rcases R.st with ⟨_, _, c, hc, _⟩ | ⟨_, gs, _, _, _, hgs, _⟩
    · exact (Array.getElem?_eq_some_iff.mp hc).1
    · exact (Array.getElem?_eq_some_iff.mp hgs).1
  refine wpAny_gsz (n := g + 1) hgl ?_
  rcases R.st with ⟨j0, hp, c, hc, go⟩ | ⟨fp, gs0, m, hp, hm, hgs, as, hfp, go⟩
  · refine next_by (IY := fun v t => g + 1 ≤ t.gens.size → ∃ pr', RelV x v ∧ Inv X pins σ H t ∧ GRd X.prog X.w X.base X.A.in1 X.stack a g L xs (j + 1) pr' t ∧ (∀ b ∈ pr', FpOk X pins H b) ∧ ∀ b ∈ pr', b ∈ pr ∨ s.heap.get? b = none) (IR := fun _ => False) hd I.nolimit room R.gen hc (.inl rfl) (fun k Q' E' hy hr => ?_) (fun v t q hs => ?_) fun t z => z.elim
    · refine resume_x hc (go (s.setGen g .running) gw fun o e => e) (fun fp r t q => ?_) fun fp v t gs hb as y => ?_
      · have := q.2.1
        omega
      · refine hy v _ fun sz => meet fp.1 xs.length v t gs (by omega) hb as (fun b hb => ?_) (fun b hb => ?_) y sz
        · rcases List.mem_cons.mp hb with z | z
          · rw [z]
            exact fo L R.mem
          · obtain ⟨_, _, _, _, _, _, hfp, _⟩ := y
            exact I.fpNew (fp.2 b z) (young b (hfp b z) (fp.2 b z))
        · rcases List.mem_cons.mp hb with z | z
          · rw [z]
            exact .inl R.mem
          · exact .inr (fp.2 b z)
    · obtain ⟨pr', h1, h2⟩ := q hs
      exact ⟨v, pr', rfl, h1, h2⟩
  · refine next_by (IY := fun v t => g + 1 ≤ t.gens.size → ∃ pr', RelV x v ∧ Inv X pins σ H t ∧ GRd X.prog X.w X.base X.A.in1 X.stack a g L xs (j + 1) pr' t ∧ (∀ b ∈ pr', FpOk X pins H b) ∧ ∀ b ∈ pr', b ∈ pr ∨ s.heap.get? b = none) (IR := fun _ => False) hd I.nolimit room R.gen hgs (.inr (by obtain ⟨_, _, _, _, _, _, rfl⟩ := as; rfl)) (fun k Q' E' hy hr => ?_) (fun v t q hs => ?_) fun t z => z.elim
    · refine resume_s hgs as (go (s.setGen g .running) gw fun b _ o e => e) (fun r t q => ?_) fun v t gs hb as y => ?_
      · have := q.2.1
        omega
      · exact hy v _ fun sz => meet fp m v t gs hm hb as (fun b hb => fo b (by rw [hp]; exact hb)) (fun b hb => .inl (by rw [hp]; exact hb)) y sz
    · obtain ⟨pr', h1, h2⟩ := q hs
      exact ⟨v, pr', rfl, h1, h2⟩
/-- its end -/
theorem GRd.done {E : Value → Shared → Prop} (I : Inv X pins σ H s) (R : GRd X.prog X.w X.base X.A.in1 X.stack a g L xs j pr s) (fo : ∀ b ∈ pr, FpOk X pins H b) (young : ∀ b, L < b → s.heap.get? b = none → b ∈ X.ex ∨ X.s_0.heap.objs.size ≤ b)
    (hd : X.A.handled = none) (room : X.A.depth < recursionLimit) (hx : j = xs.length) :
    wpAny (model X.prog X.w) X.A (pyNext (.ref a)) (fun r t => r = none ∧ Inv X pins σ H t) E s := by
  have gw := R.gw I
  have fin : ∀ (fp : List Addr) (t : Shared), (∀ b ∈ L :: fp, FpOk X pins H b) → AllBare t.gens → Fr X.stack (L :: fp) (s.setGen g .running) t → ∀ h', (∀ b o, (t.setGen g .finished).heap.get? b = some o → h'.get? b = some o) → (none : Option Value) = none ∧ Inv X pins σ H { t.setGen g .finished with heap := h' } := fun fp t fo2 hb F h' k =>
    ⟨rfl, (I.woke fo2 F hb rfl : Inv X pins σ H (t.setGen g .finished)).kept (t' := (t.setGen g .finished).toks) k⟩
  rcases R.st with ⟨j0, hp, c, hc, go⟩ | ⟨fp, gs0, m, hp, hm, hgs, as, hfp, go⟩
  · refine next_by (IY := fun v t => False) (IR := fun t => ∀ h', (∀ b o, t.heap.get? b = some o → h'.get? b = some o) → (none : Option Value) = none ∧ Inv X pins σ H { t with heap := h' }) hd I.nolimit room R.gen hc (.inl rfl) (fun k Q' E' hy hr => ?_) (fun v t q => q.elim) fun t q h' k => q h' k
    refine resume_x hc (go (s.setGen g .running) gw fun o e => e) (fun fp r t q => ?_) fun fp v t gs hb as y => ?_
    · obtain ⟨rfl, _, W, F, hfp⟩ := q
      refine hr _ (fin fp.1 t (fun b hb => ?_) W.bare F)
      rcases List.mem_cons.mp hb with z | z
      · rw [z]
        exact fo L R.mem
      · exact I.fpNew (fp.2 b z) (young b (hfp b z) (fp.2 b z))
    · obtain ⟨_, _, q, _⟩ := y
      omega
  · refine next_by (IY := fun v t => False) (IR := fun t => ∀ h', (∀ b o, t.heap.get? b = some o → h'.get? b = some o) → (none : Option Value) = none ∧ Inv X pins σ H { t with heap := h' }) hd I.nolimit room R.gen hgs (.inr (by obtain ⟨_, _, _, _, _, _, rfl⟩ := as; rfl)) (fun k Q' E' hy hr => ?_) (fun v t q => q.elim) fun t q h' k => q h' k
    have m0 : m = 0 := by omega
    subst m0
    refine resume_s hgs as (go (s.setGen g .running) gw fun b _ o e => e) (fun r t q => ?_) fun v t gs hb as y => ?_
    · obtain ⟨rfl, _, W, F, _⟩ := q
      exact hr _ (fin fp t (fun b hb => fo b (by rw [hp]; exact hb)) W.bare F)
    · obtain ⟨_, _, _, _, W, _, _, _, kap⟩ := y
      exact (kap t W fun b _ o e => e).elim
end
end L2

/-! a call of a generator def -/
namespace L2
open PySem PySem.Spec PyProof.Rows GenW GenS
structure GSc (N P : List Str) (sc : Scope) : Prop where
  kind : sc.kind = .function
  co : sc.isCoroutine = false
  gen : sc.isGenerator = true
  nd : N.Nodup
  pre : N.take P.length = P
  par : ∀ x ∈ P, sc.names.lookup x = some .local
  flat : ∀ y ∈ sc.names, y.2 ≠ .cell ∧ y.2 ≠ .free
  nocell : ∀ n, cellsFrom n sc.names [] = []
/-- what a generator's arguments say of what it hands out -/
abbrev SpY := List V → List V → Prop
structure GFd (P : Program) (w : World) (K : PySem.W.Frag) (mg : Str → Option Value) (base : Heap) (k : Nat) (f : Addr) (fd : FuncData) (ps : List Str) (sp : SpY) : Prop where
  len : ∀ vs xs, sp vs xs → vs.length = ps.length
  run : ∀ (A : Around) (outer : List Env) (s : Shared) (H : Hp) (args : Args) (us : List Value) (vs xs : List V), Room k A → Env0 P w K mg base A outer s H → BindsTo s fd args (ps.zip us) → Vals vs us → sp vs xs →
    codeAny (model P w) A (.call (.ref f) args) (fun r s' => ∃ (a : Addr) (g : Nat), r = .ok (.ret (.ref a)) ∧ s.heap.objs.size < a ∧ (∃ o, s'.heap.get? a = some o ∧ ∀ v, o.data ≠ .cell v) ∧ s'.os = s.os ∧ AllBare s'.gens ∧ (∃ c, s'.gens[g]? = some (.fresh c)) ∧ (∀ b o, s.heap.get? b = some o → s'.heap.get? b = some o) ∧
      ∀ A2, Room k A2 → A2.frames = some outer → GRd P w base A2 outer a g s.heap.objs.size xs 0 [s.heap.objs.size] s') s
section
variable {P : Program} {w : World} {K : PySem.W.Frag} {mg : Str → Option Value} {base : Heap} {N ps : List Str} {x : Str} {st : Stmt} {f : Addr} {fd : FuncData} {k : Nat} {sp : SpY} {tg iter test e : Expr} {yp ep ip fpos : Pos}
theorem gfd_of (F : Fun K x x st f fd) (S : GSc N ps (defScope st)) (len : ∀ vs xs, sp vs xs → vs.length = ps.length) (shape : defBody st = [.For tg iter [.If test [.Expr (.Yield (some e) yp) ep] [] ip] [] fpos])
    (hbody : ∀ (cdv : Value) (A : Around) (outer : List Env) (L : Nat) (vs xs : List V), Room k (A.deeper (envOfC x (defScope st) L f cdv)) → sp vs xs → ∃ (wi : TI) (g : TG) (tt : TT) (te : TE) (lo : Int) (n : Nat) (pz : Nat → Bool) (fv : Nat → V) (Ps : St → Prop),
      (∀ s, PI (gX P w K mg base N x (defScope st) f cdv A outer L s) tg iter wi) ∧ (∀ s, PG (gX P w K mg base N x (defScope st) f cdv A outer L s) tg g) ∧ (∀ s, PT (gX P w K mg base N x (defScope st) f cdv A outer L s) test tt) ∧ (∀ s, PE (gX P w K mg base N x (defScope st) f cdv A outer L s) e te) ∧
      (∀ y, foldedSetIterable iter (envOfC x (defScope st) L f cdv) y = pure y) ∧ xs = itL pz fv n 0 ∧ Ps (start N vs) ∧ (∀ σ, Ps σ → σ.length = N.length) ∧ (∀ H R, NoT H → R (Itr lo n) H → wi (start N vs) H R) ∧
      ∀ i σ H, i < n → Ps σ → NoT H → g (.int (lo + i)) σ H fun σ2 H2 => H2 = H ∧ Ps σ2 ∧ tt σ2 H2 fun b H3 => H3 = H ∧ b = pz i ∧ (b = true → te σ2 H3 fun v H4 => H4 = H ∧ v = fv i)) :
    GFd P w K mg base (k + 1) f fd ps sp := by
  obtain ⟨oc, od, kV, doc, pm, an, cdv, ct, osl, efd, lk, hcd⟩ := F.ex
  subst efd
  refine ⟨len, fun A outer s H args us vs xs hr e0 hb r hsp => ?_⟩
  have hl := len _ _ hsp
  have bs0 : ∀ b o, base.get? b = some o → s.heap.get? b = some o := fun b o e => (e0.bs b o e).1
  have KX : K.In s.heap := e0.mod.kin.keeps bs0
  have lim : s.heap.NoLimit := e0.mod.nolimit.keeps bs0
  have hl2 : us.length = ps.length := by rw [← r.length]; exact hl
  have hkind : ∀ y ∈ ps.zip us, (defScope st).names.lookup y.1 = some .local ∨ ((defScope st).names.lookup y.1 = some .cell ∧ ((cellsFrom (s.heap.objs.size + 1) (defScope st).names []).lookup y.1).isSome = true) := fun y hy => .inl (S.par y.1 (List.of_mem_zip hy).1)
  have rec0 := PySem.W.codeRec_of KX hcd
  refine codeAny_call_generator hr.depth (KX _ _ lk) rfl S.co S.gen rfl rec0 ?_
  refine hb _ _ _ _ ?_
  refine wpAny_newFunctionEnv_cells S.kind hkind fun env he s1 x1 => ?_
  subst he
  have lim1 : s1.heap.NoLimit := lim.keeps x1.toInCall.keep
  refine ⟨lim1, ?_⟩
  obtain ⟨h1, tk, es1, hk1⟩ := x1.done
  have os1 : s1.os = s.os := by rw [es1]
  have gen1 : s1.gens = s.gens := by rw [es1]
  have lt1 : s.heap.objs.size < s1.heap.objs.size := x1.toInCall.ns.lt
  have kp1 : ∀ b o, s.heap.get? b = some o → s1.heap.get? b = some o := x1.toInCall.keep
  have main : ∀ (go : Obj) (nm qn : Value) (tk2 : Nat),
      go.cls = .type "generator" → go.data = .fields #[.int s1.gens.size 0, nm, qn] → go.slots = #[] →
      (∀ h : Heap, (h.push go).get? h.objs.size = some go) →
      ∃ (a : Addr) (g : Nat), (Except.ok (.ret (.ref s1.heap.objs.size)) : Result) = .ok (.ret (.ref a)) ∧ s.heap.objs.size < a ∧ (∃ o, (s1.heap.push go).get? a = some o ∧ ∀ v, o.data ≠ .cell v) ∧ s1.os = s.os ∧ AllBare (s1.gens.push (.fresh (.func (defBody st) (envOfC x (defScope st) s.heap.objs.size f cdv)))) ∧ (∃ c, (s1.gens.push (.fresh (.func (defBody st) (envOfC x (defScope st) s.heap.objs.size f cdv))))[g]? = some (.fresh c)) ∧ (∀ b o, s.heap.get? b = some o → (s1.heap.push go).get? b = some o) ∧
        ∀ A2, Room (k + 1) A2 → A2.frames = some outer → GRd P w base A2 outer a g s.heap.objs.size xs 0 [s.heap.objs.size] { s1 with gens := s1.gens.push (.fresh (.func (defBody st) (envOfC x (defScope st) s.heap.objs.size f cdv))), toks := tk2, heap := s1.heap.push go } := by
    intro go nm qn tk2 gc gd gs gp
    have pushed := gp s1.heap
    refine ⟨s1.heap.objs.size, s1.gens.size, rfl, lt1, ⟨go, pushed, fun v q => by rw [gd] at q; cases q⟩, os1, AllBare.push (by rw [gen1]; exact e0.bare) rfl, ⟨_, Array.getElem?_push_size ..⟩, fun b o e => Heap.get?_push_of_some _ (kp1 b o e), fun A2 hr2 hf2 => ?_⟩
    obtain ⟨o, es, epo, ho, hd, hm⟩ := x1.toInCall.ns
    refine ⟨⟨go, nm, qn, pushed, gc, gd, gs⟩, List.mem_singleton.mpr rfl, fun z => ?_, fun b hb => ?_, .inl ⟨rfl, rfl, _, Array.getElem?_push_size .., fun s2 W same => ?_⟩⟩
    · have := List.mem_singleton.mp z
      rw [this] at lt1
      exact absurd lt1 (Nat.lt_irrefl _)
    · rw [List.mem_singleton.mp hb]
      exact ⟨o, Heap.get?_push_of_some _ ho, fun v q => by rw [hd] at q; cases q⟩
    · obtain ⟨wi, g, tt, te, lo, n, pz, fv, Ps, hi, hg, ht, he, hs, rfl, p0, hlen, hw, step⟩ := hbody cdv A2 outer s.heap.objs.size vs xs (hr2.deeper _) hsp
      have St : GSt K mg base (defScope st) A2 outer s.heap.objs.size := ⟨e0.mod, e0.bsz, fun b hb => let ⟨_, o, e, _⟩ := e0.funs.mem hb; Heap.lt_size e, hf2, hr2.hd, S.kind, S.flat, S.nocell⟩
      have q := gen_first (P := P) (w := w) (N := N) (qual := x) (f := f) (cd := cdv) (yp := yp) (ep := ep) (ip := ip) (fpos := fpos) St S.co hi hg ht he hs hlen p0 hw step W (m := bindL (envOfC x (defScope st) s.heap.objs.size f cdv).kindOf (ps.zip us) fun _ => none) ⟨o, es, epo, same o (Heap.get?_push_of_some _ ho), hd, hm⟩ (fun i y v e1 e2 e3 => ?_)
      · rw [shape]
        exact q
      · have hi : i < vs.length := by
          unfold start at e2
          by_cases hi : i < vs.length
          · exact hi
          · rw [List.getElem?_append_right (by simpa using hi), List.getElem?_replicate] at e2
            split at e2 <;> cases e2
        have ha : vs[i]? = some v := by
          unfold start at e2
          rw [List.getElem?_append_left (by simpa using hi), List.getElem?_map] at e2
          cases q : vs[i]? with
          | none => rw [q] at e2; cases e2
          | some z => rw [q] at e2; cases e2; rfl
        obtain ⟨u, hu, rv⟩ := r.get ha
        have hp : ps[i]? = some y := by
          rw [← S.pre, List.getElem?_take_of_lt (by omega)]
          exact e1
        have ndP : ps.Nodup := by
          rw [← S.pre]
          exact S.nd.sublist (List.take_sublist _ _)
        have kl := S.par y (List.mem_of_getElem? hp)
        exact ⟨u, rv, kl, bindL_get ndP hp hu kl⟩
  refine main _ _ _ _ rfl rfl rfl ?_
  exact fun h => Heap.get?_push_size _ rfl
end
end L2

/-! for over a generator -/
namespace L2
open PySem PySem.Spec PyProof.Rows GenW GenS
structure GDf (P : Program) (w : World) (K : PySem.W.Frag) (mg : Str → Option Value) (base : Heap) (k : Nat) (x : Str) (ps : List Str) (sp : SpY) : Prop where
  ex : ∃ (f : Addr) (fd : FuncData), GFd P w K mg base k f fd ps sp ∧ mg x = some (.ref f) ∧ PySem.W.keepIn K (.ref f) = true ∧ Binds K fd ps []
/-- a generator has come that has not begun -/
structure Come (X : Cx) (k : Nat) (pins : List (Addr × Obj)) (H : Hp) (a : Addr) (g : Nat) (L : Addr) (xs : List V) (s : Shared) : Prop where
  fa : FpOk X pins H a
  fl : FpOk X pins H L
  ob : ∃ o, s.heap.get? a = some o ∧ ∀ v, o.data ≠ .cell v
  young : ∀ b, L < b → X.s_0.heap.objs.size ≤ b
  stk : a ∉ frs X.stack
  la : L ≤ a
  low : ∀ b u, H b = some u → b < L
  up : ∀ (G : Hp) b, L ≤ b → G b = none → FpOk X pins G b
  rd : ∀ A2, Room k A2 → A2.frames = some X.stack → GRd X.prog X.w X.base A2 X.stack a g L xs 0 [L] s
abbrev TGq := L2.St → Hp → (List V → Hp → Prop) → Prop
structure PGn (X : Cx) (k : Nat) (e : Expr) (t : TGq) : Prop where
  run : ∀ (pins : List (Addr × Obj)) (s : Shared) (σ : L2.St) (H : Hp) (cont : List V → Hp → Prop), Inv X pins σ H s → t σ H cont → wpAny (model X.prog X.w) X.A (eval e X.env)
    (fun u s' => ∃ (a : Addr) (g : Nat) (L : Addr) (xs : List V) (H1 : Hp), u = .ref a ∧ Inv X pins σ H1 s' ∧ Come X k pins H1 a g L xs s' ∧ cont xs H1) X.xe s
def tCallY (sp : SpY) (t : TA) : TGq := fun σ H cont => t σ H fun vs H1 => ∃ xs, sp vs xs ∧ cont xs H1
section
variable {X : Cx} {k : Nat} {ps : List Str} {sp : SpY} {x : Str} {p pos' : Pos} {e : Expr} {es : List Expr} {t : TA}
theorem pgn_call (D : GDf X.prog X.w X.K X.mg X.base k x ps sp) (hr : Room k X.A) (hg : Gl X x) (ha : PA X (e :: es) t) (hdb : (x == ("__debug__" : Str)) = false := by decide) (he : starEach (e :: es) X.env = (false, eval e X.env) :: starEach es X.env := by rfl) (hpl : (backTo pos' (starEach es X.env)).any (·.1) = false := by rfl) :
    PGn X k (.Call (.Name x p) (e :: es) [] pos') (tCallY sp t) := by
  obtain ⟨f, fd, F, hm, kp, hb⟩ := D.ex
  refine ⟨fun pins s σ H cont I h => ?_⟩
  refine wpAny_Call_Name_kw (ld_glob I hg hm ?_ hdb)
  refine PySem.W.callWith_K (h₀ := X.base) I.ok.mod.kin kp (thn (ha.run pos' pins s σ H _ I h) fun us s1 hus => ?_) he hpl
  obtain ⟨vs, H1, I1, r, xs, hsp, q⟩ := hus
  refine ⟨I1.kIn, ?_⟩
  have r2 : Vals (vs ++ []) (us ++ []) := r.append .nil
  rw [List.append_nil, List.append_nil] at r2
  have hl := F.len _ _ hsp
  have hl2 : (us ++ ([] : List Value)).length = ps.length := by rw [List.append_nil, ← r2.length]; exact hl
  have hbd := hb s1 us I1.kIn hl2
  rw [List.append_nil] at hbd
  refine wpAny_call (codeAny_mono (F.run X.A X.stack s1 H1 ⟨us, []⟩ us vs xs hr I1.env0 hbd r2 hsp) fun rr s' hq => ?_)
  obtain ⟨a, g, rfl, lt, ob, os, bare, _, kpt, rd⟩ := hq
  have I2 : Inv X pins σ H1 s' := I1.call' (ch := []) os (Un.kept kpt) (I1.hok.kept kpt) bare fun b z => absurd z List.not_mem_nil
  refine ⟨a, g, s1.heap.objs.size, xs, H1, rfl, I2, ⟨I1.fpOk (Nat.le_of_lt lt) (I1.hok.fresh (Nat.le_of_lt lt)), I1.fpOk (Nat.le_refl _) (I1.hok.fresh (Nat.le_refl _)), ob, fun b hb => Nat.le_trans I1.sz (Nat.le_of_lt hb), fun z => ?_, Nat.le_of_lt lt, fun b u e => I1.hok.lt e, fun G b hb hn => I1.fpOk hb hn, rd⟩, q⟩
  obtain ⟨_, o, e, _⟩ := I1.stack.mem z
  exact absurd (Nat.lt_trans (Heap.lt_size e) lt) (Nat.lt_irrefl _)
end
section
variable {X : Cx} {pins : List (Addr × Obj)} {σ : St} {H : Hp} {s s' : Shared} {a : Addr} {g : Nat} {L : Addr} {xs : List V} {j : Nat} {pr : List Addr}
theorem Inv.gens {b : Array GenState} (I : Inv X pins σ H s) (hb : AllBare b) : Inv X pins σ H { s with gens := b } := ⟨I.ok, I.os, hb, I.base, I.loc, I.cell, I.free, I.freeC, I.pin, I.hok, I.len⟩
theorem Inv.gens' (I : Inv X pins σ H s) (e : s' = { s with gens := s'.gens }) (h : SimA s.gens s'.gens) : Inv X pins σ H s' := by
  rw [e]
  exact I.gens (h.bare I.bare)
/-- it sleeps on -/
theorem GRd.keep {P : Program} {w : World} {base : Heap} {A : Around} {outer : List Env} (R : GRd P w base A outer a g L xs (j + 1) pr s) (h : ∀ b ∈ a :: pr, ∀ o, s.heap.get? b = some o → s'.heap.get? b = some o) (k : GenS.Slept s.gens s'.gens) : GRd P w base A outer a g L xs (j + 1) pr s' := by
  refine ⟨?_, R.mem, R.out, fun b hb => ?_, ?_⟩
  · obtain ⟨o, nm, qn, e, r⟩ := R.gen
    exact ⟨o, nm, qn, h a List.mem_cons_self o e, r⟩
  · obtain ⟨o, e, d⟩ := R.objs b hb
    exact ⟨o, h b (List.mem_cons_of_mem _ hb) o e, d⟩
  · rcases R.st with ⟨z, _⟩ | ⟨fp, gs, m, hp, hm, hg, as, hfp, go⟩
    · omega
    · refine .inr ⟨fp, gs, m, hp, hm, k g gs hg as, as, hfp, fun s2 W same => go s2 W fun b hb o e => ?_⟩
      exact same b hb o (h b (List.mem_cons_of_mem _ (by rw [hp]; exact hb)) o e)
/-- what runs while generators sleep -/
theorem asleep {α : Type} {M : Model} {A : Around} {t : Sem α} {Q : α → Shared → Prop} {E : Value → Shared → Prop} (hb : AllBare s.gens) (h : wpAny M A t Q (fun _ _ => False) { s with gens := s.gens.map lull }) :
    wpAny M A t (fun v s' => ∃ s1, s' = { s1 with gens := s'.gens } ∧ SimA s1.gens s'.gens ∧ GenS.Slept s.gens s'.gens ∧ Q v s1) E s := wpAny_mono (wpAny_asleep h) (fun _ _ q => q) fun _ _ ⟨_, _, _, _, z⟩ => z.elim
end
/-- a loop over a generator -/
def tForG (t : TGq) (g : TG) (tb : TS) : TS := fun D σ H => t σ H fun xs H1 => ∃ W : Nat → Nat → St → Hp → Prop, (∃ m, W 0 m σ H1) ∧ ∀ i m σ H, W i m σ H → i ≤ xs.length ∧
  ((i = xs.length ∧ D.nx σ H) ∨ ∃ x, xs[i]? = some x ∧ ∃ N : St → Hp → Prop, (∀ σ' H', N σ' H' → ∃ m', m' < m ∧ W (i + 1) m' σ' H') ∧ g x σ H fun σ2 H2 => tb { D with nx := N, ct := N, bk := D.nx } σ2 H2)
section
variable {X : Cx} {k : Nat} {iter : Expr} {y : Str} {yp pos : Pos} {body : List Stmt} {t : TGq} {g : TG} {tb : TS}
theorem ps_forG (hp : PassesOwn (model X.prog X.w) X.A X.env X.xe) (hr : Room (k + 1) X.A) (hi : PGn X k iter t) (hg : PG X.nox (.Name y yp) g) (hb : PSs X.nox body tb) (hs : ∀ x, foldedSetIterable iter X.env x = pure x := by intro _; rfl) : PS X (.For (.Name y yp) iter body [] pos) (tForG t g tb) := by
  refine ⟨fun pins s σ H D I h => ?_⟩
  refine wpAny_For (thn (hi.run pins s σ H _ I h) fun v s1 h1 => ?_) hs
  obtain ⟨a, gn, L, xs, H1, rfl, I1, C, W, ⟨m0, w0⟩, turn⟩ := h1
  have rd := C.rd X.A.in1 hr.in1 I1.ok.frames
  refine wpAny_pyIter_gen rd.gen ?_
  refine codeAny_forLoop_any (fun n s' => ∃ i pr σ' H', Inv X pins σ' H' s' ∧ GRd X.prog X.w X.base X.A.in1 X.stack a gn L xs i pr s' ∧ (∀ b ∈ a :: pr, FpOk X pins H' b) ∧ (∃ o, s'.heap.get? a = some o ∧ ∀ v, o.data ≠ .cell v) ∧ W i n σ' H') ?_ m0 ⟨0, [L], σ, H1, I1, rd, fun b hb => ?_, C.ob, w0⟩
  · rintro n s3 ⟨i, pr, σ3, H3, I3, R3, f3, o3, w3⟩
    have young : ∀ b, L < b → s3.heap.get? b = none → b ∈ X.ex ∨ X.s_0.heap.objs.size ≤ b := fun b hb _ => .inr (C.young b hb)
    have fpr : ∀ b ∈ pr, FpOk X pins H3 b := fun b hb => f3 b (List.mem_cons_of_mem _ hb)
    have room : X.A.depth < recursionLimit := by
      have := hr.dp
      omega
    obtain ⟨le, q⟩ := turn i n σ3 H3 w3
    rcases q with ⟨he, qn⟩ | ⟨x, hx, N, hN, step⟩
    · refine wpAny_passesOwn hp (thn (R3.done I3 fpr young hr.hd room he) fun r s4 h4 => ?_)
      obtain ⟨rfl, I4⟩ := h4
      exact wpAny_execs_nil ⟨σ3, H3, I4, qn⟩
    · have I3' : Inv X (pins ++ pinsAt [a] s3.heap) σ3 H3 s3 := I3.pinned (fun b hb => by rw [List.mem_singleton.mp hb]; exact f3 a List.mem_cons_self) fun b hb => by rw [List.mem_singleton.mp hb]; exact o3
      have off : ∀ b ∈ pr, FpOk X (pins ++ pinsAt [a] s3.heap) H3 b := fun b hb => by
        obtain ⟨h1, h2, h4, h5, h6, h7⟩ := fpr b hb
        refine ⟨h1, h2, h4, h5, h6, fun p hp => ?_⟩
        rcases List.mem_append.mp hp with z | z
        · exact h7 p (List.mem_append_left _ z)
        · rcases List.mem_append.mp z with z | z
          · exact h7 p (List.mem_append_right _ z)
          · intro e
            have := List.mem_singleton.mp (of_pinsAt z).1
            rw [← e, this] at hb
            exact R3.out hb
      refine wpAny_passesOwn hp (thn (R3.item I3' off young C.stk hr.hd room hx) fun r s4 h4 => ?_)
      obtain ⟨u, pr4, rfl, rv, I4, R4, f4, _⟩ := h4
      refine wpAny_of_eq (rfl : letOwnedTupleGo (.Name y yp) (.ref a) u = pure ()) ?_
      obtain ⟨oa, ea, da⟩ := o3
      have ea4 : s4.heap.get? a = some oa := (I4.pin (a, oa) (List.mem_append_right _ (List.mem_append_right _ (mem_pinsAt List.mem_cons_self ea)))).1
      have I4u := I4.unpinned
      have fall : ∀ b ∈ a :: pr4, FpOk X pins H3 b := fun b hb => by
        rcases List.mem_cons.mp hb with z | z
        · rw [z]
          exact f3 a List.mem_cons_self
        · obtain ⟨h1, h2, h4, h5, h6, h7⟩ := f4 b z
          refine ⟨h1, h2, h4, h5, h6, fun p hp => h7 p ?_⟩
          rcases List.mem_append.mp hp with z | z
          · exact List.mem_append_left _ z
          · exact List.mem_append_right _ (List.mem_append_left _ z)
      have oall : ∀ b ∈ a :: pr4, ∃ o, s4.heap.get? b = some o ∧ ∀ v, o.data ≠ .cell v := fun b hb => by
        rcases List.mem_cons.mp hb with z | z
        · exact ⟨oa, by rw [z]; exact ea4, da⟩
        · exact R4.objs b z
      have I5 := I4u.pinned fall oall
      refine wpAny_passesOwn hp (thn (asleep I5.bare (hg.run (pins ++ pinsAt (a :: pr4) s4.heap) { s4 with gens := s4.gens.map lull } σ3 H3 x u _ ((I5.gens (bare_lull I5.bare)).wish _) rv step)) fun _ s6 h6 => ?_)
      obtain ⟨t6, e6, sim6, sl6, σ6, H6, I6, q6⟩ := h6
      have I6' : Inv X (pins ++ pinsAt (a :: pr4) s4.heap) σ6 H6 s6 := I6.unwish.gens' e6 sim6
      have at_ : ∀ {s7 : Shared} {σ7 : St} {H7 : Hp}, Inv X (pins ++ pinsAt (a :: pr4) s4.heap) σ7 H7 s7 → ∀ b ∈ a :: pr4, ∀ o, s4.heap.get? b = some o → s7.heap.get? b = some o := fun {s7 σ7 H7} I7 b hb o e => (I7.pin (b, o) (List.mem_append_right _ (List.mem_append_right _ (mem_pinsAt hb e)))).1
      refine wpAny_passesOwn hp (thn (asleep I6'.bare (hb.run (pins ++ pinsAt (a :: pr4) s4.heap) { s6 with gens := s6.gens.map lull } σ6 H6 _ ((I6'.gens (bare_lull I6'.bare)).wish _) q6)) fun f s7 h7 => ?_)
      obtain ⟨t7, e7, sim7, sl7, q7⟩ := h7
      have again : ∀ {σ7 : St} {H7 : Hp}, Inv X.nox (pins ++ pinsAt (a :: pr4) s4.heap) σ7 H7 t7 → N σ7 H7 → ∃ m, m < n ∧ ∃ i pr σ' H', Inv X pins σ' H' s7 ∧ GRd X.prog X.w X.base X.A.in1 X.stack a gn L xs i pr s7 ∧ (∀ b ∈ a :: pr, FpOk X pins H' b) ∧ (∃ o, s7.heap.get? a = some o ∧ ∀ v, o.data ≠ .cell v) ∧ W i m σ' H' := fun {σ7 H7} I7 n7 => by
        obtain ⟨m', hm, w7⟩ := hN σ7 H7 n7
        have I7' : Inv X (pins ++ pinsAt (a :: pr4) s4.heap) σ7 H7 s7 := I7.unwish.gens' e7 sim7
        refine ⟨m', hm, i + 1, pr4, σ7, H7, I7'.unpinned, R4.keep (at_ I7') (sl6.trans sl7), fun b hb => ?_, ⟨oa, at_ I7' a List.mem_cons_self oa ea4, da⟩, w7⟩
        obtain ⟨o, e, _⟩ := oall b hb
        obtain ⟨_, h2, h4, h5, h6, h7⟩ := fall b hb
        exact ⟨(I7'.pin (b, o) (List.mem_append_right _ (List.mem_append_right _ (mem_pinsAt hb e)))).2.1, h2, h4, h5, h6, h7⟩
      cases f with
      | next =>
        obtain ⟨σ8, H8, I8, n8⟩ := q7
        exact again I8 n8
      | cont =>
        obtain ⟨σ8, H8, I8, n8⟩ := q7
        exact again I8 n8
      | brk => obtain ⟨σ7, H7, I7, d7⟩ := q7; exact ⟨σ7, H7, (I7.unwish.gens' e7 sim7).unpinned, d7⟩
      | ret v => obtain ⟨x7, σ7, H7, I7, r7, d7⟩ := q7; exact ⟨x7, σ7, H7, (I7.unwish.gens' e7 sim7).unpinned, r7, d7⟩
  · rcases List.mem_cons.mp hb with z | z
    · rw [z]
      exact C.fa
    · rw [List.mem_singleton.mp z]
      exact C.fl
end
end L2

/-! list(g) -/
namespace L2
open PySem PySem.Spec PyProof.Rows GenW GenS
/-- who fills the list at S with what comes, at a resumption -/
structure Fill (base : Heap) (outer : List Env) (L : Nat) (sc : Shared) (H : Hp) (S a : Addr) (g : Nat) (xs : List V) (n N : Nat) (s : Shared) : Prop where
  os : s.os = sc.os
  gen : s.heap.IsGen a g
  old : ∀ b o, sc.heap.get? b = some o → b ∉ frs outer → s.heap.get? b = some o
  slot : ∀ b o, sc.heap.get? b = some o → b ∈ frs outer → ∃ sl, s.heap.get? b = some { o with slots := sl }
  at_ : ∃ (acc : Array Value) (c : Nat), s.heap.get? S = some (lstObj acc c) ∧ Vals (xs.take (xs.length - n)) acc.toList ∧ N + acc.size = sizeLine
section
variable {P : Program} {w : World} {K : PySem.W.Frag} {mg : Str → Option Value} {base : Heap} {A : Around} {outer : List Env} {L : Nat} {sc : Shared} {H : Hp} {S a : Addr} {g : Nat} {xs : List V} {fp : List Addr} {Q : List V → Hp → Prop} {E : XK}
/-- what does not change on the way -/
structure FillK (P : Program) (w : World) (K : PySem.W.Frag) (mg : Str → Option Value) (base : Heap) (outer : List Env) (L : Nat) (sc : Shared) (H : Hp) (S a : Addr) (xs : List V) (fp : List Addr) : Prop where
  mod : Mod K mg base
  bS : ∀ b o, base.get? b = some o → b ≠ S
  hok : HOk P w H sc.heap
  hS : H S = none
  stk : ∀ b ∈ frs outer, H b = none
  len : xs.length ≤ sizeLine
  nS : S ∉ L :: fp
  fS : S ∉ frs outer
  na : a ∉ L :: fp
  aS : a ≠ S
  fa : a ∉ frs outer
  new : ∀ b o, sc.heap.get? b = some o → b ∉ L :: fp ∧ b ≠ S
theorem fill_end (k : FillK P w K mg base outer L sc H S a xs fp) {n N : Nat} {s0 s' : Shared} {e : End} (hQ : Q xs H) (hn : n ≤ xs.length) (F : Fill base outer L sc H S a g xs n N s0)
    (next : ∀ m, n = m + 1 → ∀ (c : Code) (t : Sem PySem.Fin) (fs : List Frame) (s : Shared), Fill base outer L sc H S a g xs m (N - 1) s → Seg (model P w) A (GRp base outer L fp) (GYp base outer L xs fp) m s c t fs s → Seg (model P w) A (REnd P w outer H sc [] S a g Q E) (YItem sc S a g) (N - 1) s c t fs s)
    (h : SegEnd (GRp base outer L fp) (GYp base outer L xs fp) n (Seg.next (model P w) A (GRp base outer L fp) (GYp base outer L xs fp) n) s0 e s') :
    SegEnd (REnd P w outer H sc [] S a g Q E) (YItem sc S a g) N (Seg.next (model P w) A (REnd P w outer H sc [] S a g Q E) (YItem sc S a g) N) s0 e s' := by
  obtain ⟨acc, ca, eS, vacc, hN⟩ := F.at_
  -- a turn leaves it so
  have turn : ∀ {s1 : Shared}, Fr outer (L :: fp) s0 s1 → s1.os = sc.os ∧ s1.heap.IsGen a g ∧ (∀ b o, sc.heap.get? b = some o → b ∉ frs outer → s1.heap.get? b = some o) ∧ (∀ b o, sc.heap.get? b = some o → b ∈ frs outer → ∃ sl, s1.heap.get? b = some { o with slots := sl }) ∧ s1.heap.get? S = some (lstObj acc ca) := fun {s1} G => by
    refine ⟨G.os.trans F.os, ?_, fun b o e nb => G.keep b o (F.old b o e nb) (k.new b o e).1 nb, fun b o e hb => ?_, G.keep S _ eS k.nS k.fS⟩
    · obtain ⟨o, nm, qn, e, r⟩ := F.gen
      exact ⟨o, nm, qn, G.keep a o e k.na k.fa, r⟩
    · obtain ⟨sl, e1⟩ := F.slot b o e hb
      obtain ⟨sl2, e2⟩ := G.slot b _ e1 (k.new b o e).1 hb
      exact ⟨sl2, e2⟩
  cases e with
  | ret r =>
    obtain ⟨hr, h0, W, G, _⟩ := h
    subst hr h0
    obtain ⟨t1, t2, t3, t4, t5⟩ := turn G
    rw [Nat.sub_zero, List.take_length] at vacc
    refine .inl ⟨.inl rfl, H, xs, acc, ca, t1, W.bare, ⟨fun b o e _ nb _ => t3 b o e nb, fun b o e _ hb _ => t4 b o e hb, fun b o _ q _ => q, fun b o e _ => ?_, fun _ _ e => e, fun _ _ _ e => e, fun b ps e => ⟨#[], by rw [e]; simp⟩⟩, fun b u e => ?_, k.hS, t5, vacc, k.len, hQ⟩
    · by_cases z : b ∈ frs outer
      · obtain ⟨sl, q⟩ := t4 b o e z
        exact ⟨_, q⟩
      · exact ⟨o, t3 b o e z⟩
    · have ns : ∀ c v, H c = some v → c ∉ frs outer := fun c v q z => by
        rw [k.stk c z] at q
        cases q
      refine (k.hok b u e).stay (fun c v hc q => ?_) (fun _ q => q) fun _ _ q => q
      rcases hc with z | z
      · rw [z] at q ⊢
        exact t3 b v q (ns b u e)
      · exact t3 c v q (ns c _ z)
  | susp v g0 l0 k0 c0 p0 fs0 =>
    obtain ⟨qt, x, hx, _, rv, W, G, hfp, ob, kap⟩ := h
    obtain ⟨t1, t2, t3, t4, t5⟩ := turn G
    cases n with
    | zero => exact (kap s' W fun b _ o e => e).elim
    | succ m =>
      have al : acc.size = xs.length - (m + 1) := by
        have e1 := vacc.length
        rw [List.length_take] at e1
        have e2 : acc.toList.length = acc.size := by simp
        omega
      have hl := k.len
      obtain ⟨N', rfl⟩ : ∃ N', N = N' + 1 := ⟨N - 1, by omega⟩
      refine ⟨qt, t1, W.bare, k.mod.nolimit.keeps W.bs, t2, ⟨acc, ca, t5, ?_⟩, fun s2 z => ?_⟩
      · show N' + 1 - 1 + 1 + acc.size = sizeLine
        omega
      · have kp : ∀ b o, b ≠ S → s'.heap.get? b = some o → s2.heap.get? b = some o := z.keep
        obtain ⟨c', eS'⟩ := z.own acc ca t5
        have oL := ob L List.mem_cons_self
        have W2 : GW base outer L s2 := by
          refine ⟨fun b o e => kp b o (k.bS b o e) (W.bs b o e), ?_, z.bare, ?_⟩
          · have all : ∀ (l : List Env), (∀ b ∈ frs l, b ≠ S) → s'.heap.FunFrames base l → s2.heap.FunFrames base l := by
              intro l
              induction l with
              | nil => intro _ _; trivial
              | cons env r ih =>
                intro hs hl
                obtain ⟨h1, ⟨M, o, h2, h3, h4, h5⟩, h6⟩ := hl
                have hM : M ≠ S := hs M (by unfold frs; rw [List.filterMap_cons, h2]; exact List.mem_cons_self)
                refine ⟨h1, ⟨M, o, h2, h3, kp M o hM h4, h5⟩, ih (fun b hb => hs b ?_) h6⟩
                unfold frs at hb ⊢
                rw [List.filterMap_cons, h2]
                exact List.mem_cons_of_mem _ hb
            exact all outer (fun b hb e => k.fS (by rw [← e]; exact hb)) W.funs
          · obtain ⟨o, e, _⟩ := oL
            exact Heap.lt_size (kp L o (fun e => k.nS (by rw [e]; exact List.mem_cons_self)) e)
        have go := kap s2 W2 fun b hb o e => kp b o (fun e => k.nS (by rw [← e]; exact hb)) e
        refine next m rfl c0 (k0 (.send .none)) fs0 s2 ⟨z.os.trans t1, ?_, fun b o e nb => kp b o (k.new b o e).2 (t3 b o e nb), fun b o e hb => ?_, ⟨acc.push v, c', eS', ?_, ?_⟩⟩ go
        · obtain ⟨o, nm, qn, e, r⟩ := t2
          exact ⟨o, nm, qn, kp a o k.aS e, r⟩
        · obtain ⟨sl, q⟩ := t4 b o e hb
          exact ⟨sl, kp b _ (k.new b o e).2 q⟩
        · have e1 : xs.length - m = xs.length - (m + 1) + 1 := by omega
          have hx2 : xs[xs.length - (m + 1)]? = some x := hx
          rw [e1, List.take_add_one, hx2, Array.toList_push]
          exact vacc.append (.cons rv .nil)
        · rw [Array.size_push]
          show N' + 1 - 1 + (acc.size + 1) = sizeLine
          omega
theorem fill_seg (k : FillK P w K mg base outer L sc H S a xs fp) (hQ : Q xs H) : ∀ (n N : Nat) (c : Code) (t : Sem PySem.Fin) (fs : List Frame) (s : Shared), n ≤ xs.length → Fill base outer L sc H S a g xs n N s → Seg (model P w) A (GRp base outer L fp) (GYp base outer L xs fp) n s c t fs s →
    Seg (model P w) A (REnd P w outer H sc [] S a g Q E) (YItem sc S a g) N s c t fs s := by
  intro n
  induction n with
  | zero =>
    intro N c t fs s hn F h
    rw [seg_iff] at h ⊢
    intro Γ p hc hΓ
    obtain ⟨e, s', r, q⟩ := h Γ p hc hΓ
    exact ⟨e, s', r, fill_end k hQ hn F (fun m e => by omega) q⟩
  | succ n ih =>
    intro N c t fs s hn F h
    rw [seg_iff] at h ⊢
    intro Γ p hc hΓ
    obtain ⟨e, s', r, q⟩ := h Γ p hc hΓ
    refine ⟨e, s', r, fill_end k hQ hn F (fun m e c t fs s F2 h2 => ?_) q⟩
    obtain rfl : n = m := by omega
    exact ih (N - 1) c t fs s (by omega) F2 h2
end
/-- an expression that is a call of a generator def, for list(..) -/
def tCallY2 (sp : SpY) (t : TA) : TGen := fun σ H cont => t σ H fun vs H1 => ∃ xs, sp vs xs ∧ xs.length ≤ sizeLine ∧ cont xs H1
section
variable {X : Cx} {k : Nat} {ps : List Str} {sp : SpY} {x : Str} {p pos' : Pos} {e : Expr} {es : List Expr} {t : TA} {E : XK}
theorem pgen_of (D : GDf X.prog X.w X.K X.mg X.base k x ps sp) (hr : Room k X.A) (hg : Gl X x) (ha : PA X (e :: es) t) (hdb : (x == ("__debug__" : Str)) = false := by decide) (he : starEach (e :: es) X.env = (false, eval e X.env) :: starEach es X.env := by rfl) (hpl : (backTo pos' (starEach es X.env)).any (·.1) = false := by rfl) :
    PGen X k (.Call (.Name x p) (e :: es) [] pos') (tCallY2 sp t) E := by
  obtain ⟨f, fd, F, hm, kp, hb⟩ := D.ex
  refine ⟨fun pins s σ H cont I h => ?_⟩
  refine wpAny_Call_Name_kw (ld_glob I hg hm ?_ hdb)
  refine PySem.W.callWith_K (h₀ := X.base) I.ok.mod.kin kp (thn (ha.run pos' pins s σ H _ I h) fun us s1 hus => ?_) he hpl
  obtain ⟨vs, H1, I1, r, xs, hsp, hlen, q⟩ := hus
  refine ⟨I1.kIn, ?_⟩
  have r2 : Vals (vs ++ []) (us ++ []) := r.append .nil
  rw [List.append_nil, List.append_nil] at r2
  have hl := F.len _ _ hsp
  have hl2 : (us ++ ([] : List Value)).length = ps.length := by rw [List.append_nil, ← r2.length]; exact hl
  have hbd := hb s1 us I1.kIn hl2
  rw [List.append_nil] at hbd
  refine wpAny_call (codeAny_mono (F.run X.A X.stack s1 H1 ⟨us, []⟩ us vs xs hr I1.env0 hbd r2 hsp) fun rr s' hq => ?_)
  obtain ⟨a, g, rfl, lt, ⟨oa, ea, da⟩, os, bare, ⟨c, hc⟩, kpt, rd⟩ := hq
  have rd0 := rd X.A hr I1.ok.frames
  refine ⟨H1, s1, [], I1, .nil, a, g, c, rfl, Nat.le_of_lt lt, Heap.lt_size ea, rd0.gen, hc, os, bare, I1.nolimit.keeps kpt, kpt, fun A S s2 hra hfr hS ks2 hso hos hba => ?_⟩
  have R2 := rd A hra hfr
  obtain ⟨oL, eL, _⟩ := R2.objs _ R2.mem
  have ltL := Heap.lt_size eL
  have W : GW X.base X.stack s1.heap.objs.size s2 := ⟨fun b o e => ks2 b o (kpt b o (I1.bk b o e)), I1.stack.of_keeps fun b o e _ => ⟨o, ks2 b o (kpt b o e), rfl⟩, hba, Heap.lt_size (ks2 _ oL eL)⟩
  rcases R2.st with ⟨_, _, c2, hc2, go⟩ | ⟨fp, gs, m, hp, hm2, hg2, as, _⟩
  · rw [hc] at hc2
    cases hc2
    have q1 := go s2 W fun o e => ks2 _ o e
    rw [seg_iff]
    intro Γ pp hcc hΓ
    obtain ⟨⟨fp, fresh⟩, ee, t', hrun, hend⟩ := q1 Γ pp hcc hΓ
    refine ⟨ee, t', hrun, ?_⟩
    obtain ⟨cS, eS⟩ := hso
    have szS : s'.heap.objs.size ≤ S := hS
    have there : ∀ b o, s2.heap.get? b = some o → b ∉ fp := fun b o e z => by
      rw [fresh b z] at e
      cases e
    have oldlt : ∀ b o, s1.heap.get? b = some o → b < s1.heap.objs.size := fun b o e => Heap.lt_size e
    have K0 : FillK X.prog X.w X.K X.mg X.base X.stack s1.heap.objs.size s1 H1 S a xs fp := by
      have ltS : s1.heap.objs.size < S := Nat.lt_of_lt_of_le ltL szS
      refine ⟨I1.ok.mod, fun b o e z => ?_, I1.hok, I1.hok.fresh (Nat.le_of_lt ltS), I1.stkFree, hlen, fun z => ?_, fun z => ?_, fun z => ?_, fun z => ?_, fun z => ?_, fun b o e => ⟨fun z => ?_, fun z => ?_⟩⟩
      · have h := oldlt b o (I1.bk b o e)
        rw [z] at h
        exact Nat.lt_asymm h ltS
      · rcases List.mem_cons.mp z with z | z
        · rw [z] at ltS
          exact Nat.lt_irrefl _ ltS
        · exact there S _ eS z
      · obtain ⟨_, o, e, _⟩ := I1.stack.mem z
        exact Nat.lt_asymm (oldlt S o e) ltS
      · rcases List.mem_cons.mp z with z | z
        · rw [z] at lt
          exact Nat.lt_irrefl _ lt
        · exact there a oa (ks2 a oa ea) z
      · have h := Heap.lt_size ea
        rw [z] at h
        exact absurd (Nat.lt_of_lt_of_le h szS) (Nat.lt_irrefl _)
      · obtain ⟨_, o, e, _⟩ := I1.stack.mem z
        exact Nat.lt_asymm (oldlt a o e) lt
      · rcases List.mem_cons.mp z with z | z
        · have h := oldlt b o e
          rw [z] at h
          exact Nat.lt_irrefl _ h
        · exact there b o (ks2 b o (kpt b o e)) z
      · have h := oldlt b o e
        rw [z] at h
        exact Nat.lt_asymm h ltS
    have F0 : Fill X.base X.stack s1.heap.objs.size s1 H1 S a g xs xs.length sizeLine s2 := by
      refine ⟨hos, ?_, fun b o e _ => ks2 b o (kpt b o e), fun b o e _ => ⟨o.slots, ks2 b o (kpt b o e)⟩, #[], cS, eS, ?_, rfl⟩
      · obtain ⟨o, nm, qn, e, rr⟩ := rd0.gen
        exact ⟨o, nm, qn, ks2 a o e, rr⟩
      · rw [Nat.sub_self]
        exact .nil
    refine fill_end K0 q (Nat.le_refl _) F0 (fun m em c t fs s F2 h2 => ?_) hend
    exact fill_seg K0 q m (sizeLine - 1) c t fs s (by omega) F2 h2
  · rw [hc] at hg2
    cases hg2
    obtain ⟨_, _, _, _, _, _, z⟩ := as
    cases z
end
end L2

/-! [e for x in g] -/
namespace L2
open PySem PySem.Spec PyProof.Rows GenW GenS
section
variable {X : Cx}
def tLcG (t : TGq) (g : TG) (te : TE) (vs : List Nat) : TE := fun σ H Q => t σ H fun xs H1 => ∀ D, H1 D = none → ∃ W : Nat → Hp → Prop, W 0 (upd H1 D (.lst [])) ∧ ∀ i G, W i G → i ≤ xs.length ∧ (∃ acc, G D = some (.lst acc)) ∧ (i = xs.length → Q (.ref D) G) ∧
  ∀ x, xs[i]? = some x → g x (wipe σ vs) G fun σ2 G2 => wipe σ2 vs = wipe σ vs ∧ te σ2 G2 fun y G4 => ∃ acc, G4 D = some (.lst acc) ∧ acc.length < sizeLine ∧ W (i + 1) (upd G4 D (.lst (acc ++ [y])))
theorem pe_lcG {k : Nat} {elt iter : Expr} {z : Str} {zp : Pos} {scope : Scope} {own : List (Str × Nat)} {pos : Pos} {t : TGq} {g : TG} {te : TE} (hc : X.calm = true) (nd : X.N.Nodup) (hr : Room (k + 1) X.A) (hi : PGn X k iter t) (ok : BlkOk X.N X.env.scope scope own)
    (pg0 : ∀ (s0 : Shared) (G : Hp) (C : Addr) (cl : List (Str × Addr)) (ex : List Addr), PG (X.blk s0 G scope (compEnvC scope cl C X.env) ex) (.Name z zp) g)
    (pe0 : ∀ (s0 : Shared) (G : Hp) (C : Addr) (cl : List (Str × Addr)) (ex : List Addr), PE (X.blk s0 G scope (compEnvC scope cl C X.env) ex) elt te) (fold : ∀ x, foldedSetIterable iter X.env x = pure x := by intro _; rfl) :
    PE X (.ListComp elt [⟨.Name z zp, iter, [], 0⟩] scope pos) (tLcG t g te (own.map (·.2))) := by
  refine ⟨fun pins s σ H Q I h => ?_⟩
  rw [eval_ListComp]
  have frees : ∀ q ∈ scope.names, q.2 = .free → ∃ c, X.env.cells.lookup q.1 = some c := fun q hq e => (ok.free q hq e).elim (fun u => I.ok.has _ (.inl u)) fun u => I.ok.has _ (.inr u)
  refine wpAny_comprehension_free rfl fold (closure_ok frees) ok.kind (fun q hq e => by rw [ok.uniq q hq, e]) ?_
  refine thn (hi.run pins s σ H _ I h) fun v s2 h2 => ?_
  obtain ⟨a, gn, L, xs, H2, rfl, I2, C, q⟩ := h2
  have rd := C.rd X.A.in1 hr.in1 I2.ok.frames
  refine wpAny_pyIter_gen rd.gen ?_
  refine wpAny_newObj_type ?_ (by show 0 ≤ sizeLine; decide)
  refine newEnv_comp ?_
  generalize hD : s2.heap.objs.size = D
  have Dn : H2 D = none := I2.hok.fresh (Nat.le_of_eq hD)
  obtain ⟨W, w0, turn⟩ := q D Dn
  generalize es3 : ({ s2 with heap := s2.heap.push { cls := .type "list", data := .seq ([] : List Value).toArray } } : Shared) = s3
  have h3 : s3.heap = s2.heap.push { cls := .type "list", data := .seq ([] : List Value).toArray } := by rw [← es3]
  have g3 : s3.gens = s2.gens := by rw [← es3]
  have kp3 : ∀ b o, s2.heap.get? b = some o → s3.heap.get? b = some o := fun b o e => by rw [h3]; exact Heap.get?_push_of_some _ e
  have I3 : Inv X pins σ (upd H2 D (.lst [])) s3 := by
    rw [← es3]
    have old : ∀ b o, s2.heap.get? b = some o → (s2.heap.push { cls := .type "list", data := .seq ([] : List Value).toArray }).get? b = some o := fun b o e => Heap.get?_push_of_some _ e
    refine I2.laid (t' := s2.toks) old (Nat.le_of_eq hD) ⟨Nat.zero_le _, [], 0, .nil, ?_⟩
    rw [← hD]
    exact Heap.get?_push_size _ rfl
  generalize eH3 : upd H2 D (.lst []) = H3 at I3 w0
  have H3D : H3 D = some (.lst []) := by rw [← eH3]; exact upd_same
  have H3o : ∀ b, b ≠ D → H3 b = H2 b := fun b n => by rw [← eH3]; exact upd_ne n
  have sz3 : s3.heap.objs.size = D + 1 := by rw [h3, Heap.size_push, hD]
  have mem_ex : ∀ b, b ∈ (List.range s3.heap.objs.size).filter (fun b => decide (L ≤ b) && (H3 b).isNone) ↔ b < s3.heap.objs.size ∧ L ≤ b ∧ H3 b = none := fun b => by
    rw [List.mem_filter, List.mem_range, Bool.and_eq_true, decide_eq_true_iff, Option.isNone_iff_eq_none]
  generalize eex : (List.range s3.heap.objs.size).filter (fun b => decide (L ≤ b) && (H3 b).isNone) = ex at mem_ex
  have fex : ∀ b ∈ ex, FpOk X pins H3 b ∧ b < s3.heap.objs.size := fun b hb => by
    obtain ⟨h1, h2, h4⟩ := (mem_ex b).mp hb
    exact ⟨C.up H3 b h2 h4, h1⟩
  have I4 := block_start I3 ok nd fex
  have pg := pg0 s3 H3 s3.heap.objs.size (cellsFrom (s3.heap.objs.size + 1) scope.names (cloFrom X.env.cells scope.names [])) ex
  have pe := pe0 s3 H3 s3.heap.objs.size (cellsFrom (s3.heap.objs.size + 1) scope.names (cloFrom X.env.cells scope.names [])) ex
  show codeAny _ _ (.compStart (.ListComp elt [⟨.Name z zp, iter, [], 0⟩] scope pos) 0 (.ref a) (.ref D)
    (compEnvC scope (cellsFrom (s3.heap.objs.size + 1) scope.names (cloFrom X.env.cells scope.names [])) s3.heap.objs.size X.env)) _
    { s3 with heap := pushCells (s3.heap.push { cls := .type "dict", data := .dict #[] }) scope.names }
  generalize ece : compEnvC scope (cellsFrom (s3.heap.objs.size + 1) scope.names (cloFrom X.env.cells scope.names [])) s3.heap.objs.size X.env = ce at I4 pg pe ⊢
  have cL : ce.locals = s3.heap.objs.size := by subst ece; rfl
  have kp4 : ∀ b o, s3.heap.get? b = some o → (pushCells (s3.heap.push { cls := .type "dict", data := .dict #[] }) scope.names).get? b = some o := fun b o e => pushCells_keeps _ _ _ _ (Heap.get?_push_of_some _ e)
  generalize es4 : ({ s3 with heap := pushCells (s3.heap.push { cls := .type "dict", data := .dict #[] }) scope.names } : Shared) = s4 at I4 ⊢
  have kp24 : ∀ b o, s2.heap.get? b = some o → s4.heap.get? b = some o := fun b o e => by rw [← es4]; exact kp4 b o (kp3 b o e)
  have g4 : s4.gens = s2.gens := by rw [← es4]; exact g3
  -- the generator, as the block sees it
  have R4 : GRd X.prog X.w X.base X.A.in1 X.stack a gn L xs 0 [L] s4 := by
    refine ⟨?_, rd.mem, rd.out, fun b hb => ?_, ?_⟩
    · obtain ⟨o, nm, qn, e, r⟩ := rd.gen
      exact ⟨o, nm, qn, kp24 a o e, r⟩
    · obtain ⟨o, e, d⟩ := rd.objs b hb
      exact ⟨o, kp24 b o e, d⟩
    · rcases rd.st with ⟨j0, hp, c, hc2, go⟩ | ⟨fp, gs, m, hp, hm, hg2, as, hfp, go⟩
      · refine .inl ⟨j0, hp, c, by rw [g4]; exact hc2, fun s5 W5 same => go s5 W5 fun o e => same o (kp24 L o e)⟩
      · refine .inr ⟨fp, gs, m, hp, hm, by rw [g4]; exact hg2, as, hfp, fun s5 W5 same => ?_⟩
        have ef : fp = [] := (List.cons.inj hp).2.symm
        subst ef
        refine go s5 W5 fun b hb o e => same b hb o (kp24 b o e)
  have La : L ∈ ex := by
    obtain ⟨o, e, _⟩ := rd.objs L rd.mem
    refine (mem_ex L).mpr ⟨?_, Nat.le_refl _, ?_⟩
    · rw [h3, Heap.size_push]
      exact Nat.lt_succ_of_lt (Heap.lt_size e)
    · rw [H3o L (fun e2 => by
        have := Heap.lt_size e
        rw [hD, e2] at this
        exact Nat.lt_irrefl _ this)]
      exact C.fl.1
  have aex : a ∈ ex := by
    obtain ⟨o, e, _⟩ := C.ob
    refine (mem_ex a).mpr ⟨?_, C.la, ?_⟩
    · rw [h3, Heap.size_push]
      exact Nat.lt_succ_of_lt (Heap.lt_size e)
    · rw [H3o a (fun e2 => by
        have := Heap.lt_size e
        rw [hD, e2] at this
        exact Nat.lt_irrefl _ this)]
      exact C.fa.1
  have stat : ∀ {σ' : St} {H' : Hp} {s' : Shared} {b : Addr}, Inv (X.blk s3 H3 scope ce ex) [] σ' H' s' → b ∈ ex → H' b = none → FpOk (X.blk s3 H3 scope ce ex) [] H' b := fun {σ' H' s' b} I' hb hn =>
    ⟨hn, (I'.ok.exf b hb).1, I'.ok.exfs b hb, .inl hb, fun x c e => (I'.ok.exf b hb).2 x c e, fun p hp => absurd (show p ∈ ([] : List (Addr × Obj)) ++ [] from hp) (by simp)⟩
  obtain ⟨oa, ea, da⟩ := C.ob
  have room : X.A.depth < recursionLimit := by
    have := hr.dp
    omega
  have loop : codeAny (model X.prog X.w) X.A (.compLoop (.ListComp elt [⟨.Name z zp, iter, [], 0⟩] scope pos) 0 (.ref a) (.ref D) ce) (compPost (model X.prog X.w) X.A X.xe none (EP X pins σ Q) (.ref D) s3.heap.objs.size) s4 := by
    refine compLoop_any (fun n s' => ∃ i pr H', n = xs.length - i ∧ Inv (X.blk s3 H3 scope ce ex) [] (wipe σ (own.map (·.2))) H' s' ∧ GRd X.prog X.w X.base X.A.in1 X.stack a gn L xs i pr s' ∧ (∀ b ∈ pr, FpOk (X.blk s3 H3 scope ce ex) [] H' b) ∧ H' a = none ∧ s'.heap.get? a = some oa ∧ W i H') ?_ xs.length ⟨0, [L], H3, rfl, I4, R4, fun b hb => ?_, ?_, kp24 a oa ea, w0⟩
    · rintro n s5 ⟨i, pr, H5, rfl, I5, R5, f5, n5, a5, w5⟩
      obtain ⟨le, ⟨accD, hD5⟩, fin, step⟩ := turn i H5 w5
      have young : ∀ b, L < b → s5.heap.get? b = none → b ∈ (X.blk s3 H3 scope ce ex).ex ∨ (X.blk s3 H3 scope ce ex).s_0.heap.objs.size ≤ b := fun b hb hn => by
        by_cases hs : b < s3.heap.objs.size
        · refine .inl ((mem_ex b).mpr ⟨hs, Nat.le_of_lt hb, ?_⟩)
          by_cases hbD : b = D
          · obtain ⟨o, e⟩ := (I5.hok D _ hD5).ex
            rw [hbD, e] at hn
            cases hn
          · rw [H3o b hbD]
            cases hb2 : H2 b with
            | none => rfl
            | some u =>
              exact absurd (C.low b u hb2) (Nat.not_lt.mpr (Nat.le_of_lt hb))
        · exact .inr (Nat.not_lt.mp hs)
      have Y0 : (X.blk s3 H3 scope ce ex).A.handled = none := hr.hd
      have stkA : a ∉ frs (X.blk s3 H3 scope ce ex).stack := C.stk
      have fa5 : FpOk (X.blk s3 H3 scope ce ex) [] H5 a := stat I5 aex n5
      by_cases he : i = xs.length
      · refine thnF (GRd.done (X := X.blk s3 H3 scope ce ex) (E := fun _ _ => False) I5 R5 f5 young Y0 room he) fun r s6 h6 => ?_
        obtain ⟨rfl, I6⟩ := h6
        have I7 : Inv X pins σ H5 s6 := I3.call' (ch := ex) I6.os I6.base I6.hok I6.bare fun b hb => by
          obtain ⟨⟨_, u2, _, u4, u5, u6⟩, _⟩ := fex b hb
          exact ⟨u4, u2, u5, u6⟩
        have nC : H5 s3.heap.objs.size = none := by
          have q2 : H5 ce.locals = none := I6.free
          rwa [cL] at q2
        obtain ⟨m, hn, _⟩ := I6.loc
        have hn : s6.heap.Ns ce.locals m := hn
        rw [cL] at hn
        refine ⟨m, hn, fun h'' sb => ?_⟩
        obtain ⟨u0, u1, u2, u3, u4, u5⟩ := I3.fpOk (Nat.le_refl _) nC
        exact ⟨.ref D, H5, I7.turned (t' := s6.toks) (fun b o hb e => (sb.2 b hb).trans e) u0 u1 u3 u4 u5, rfl, fin he⟩
      · obtain ⟨x, hx⟩ : ∃ x, xs[i]? = some x := ⟨xs[i]'(by omega), List.getElem?_eq_getElem (by omega)⟩
        have I5' : Inv (X.blk s3 H3 scope ce ex) ([] ++ pinsAt [a] s5.heap) (wipe σ (own.map (·.2))) H5 s5 := I5.pinned (fun b hb => by rw [List.mem_singleton.mp hb]; exact fa5) fun b hb => ⟨oa, by rw [List.mem_singleton.mp hb]; exact a5, da⟩
        have off : ∀ b ∈ pr, FpOk (X.blk s3 H3 scope ce ex) ([] ++ pinsAt [a] s5.heap) H5 b := fun b hb => by
          obtain ⟨h1, h2, h4, h5, h6, h7⟩ := f5 b hb
          refine ⟨h1, h2, h4, h5, h6, fun p hp e => ?_⟩
          rcases List.mem_append.mp hp with z | z
          · exact h7 p (List.mem_append_left _ z) e
          · rcases List.mem_append.mp z with z | z
            · cases z
            · have := List.mem_singleton.mp (of_pinsAt z).1
              rw [← e, this] at hb
              exact R5.out hb
        refine thnF (GRd.item (X := X.blk s3 H3 scope ce ex) (E := fun _ _ => False) I5' R5 off young stkA Y0 room hx) fun r s6 h6 => ?_
        obtain ⟨u, pr6, rfl, rv, I6, R6, f6, _⟩ := h6
        refine wpAny_of_eq (rfl : letOwnedTupleGo (.Name z zp) (.ref a) u = pure ()) ?_
        have a6 : s6.heap.get? a = some oa := (I6.pin (a, oa) (List.mem_append_right _ (List.mem_append_right _ (mem_pinsAt List.mem_cons_self a5)))).1
        have fall : ∀ b ∈ a :: pr6, FpOk (X.blk s3 H3 scope ce ex) [] H5 b := fun b hb => by
          rcases List.mem_cons.mp hb with z | z
          · rw [z]
            exact fa5
          · obtain ⟨h1, h2, h4, h5, h6, h7⟩ := f6 b z
            refine ⟨h1, h2, h4, h5, h6, fun p hp => h7 p ?_⟩
            rcases List.mem_append.mp hp with z | z
            · exact List.mem_append_left _ z
            · cases z
        have oall : ∀ b ∈ a :: pr6, ∃ o, s6.heap.get? b = some o ∧ ∀ v, o.data ≠ .cell v := fun b hb => by
          rcases List.mem_cons.mp hb with z | z
          · exact ⟨oa, by rw [z]; exact a6, da⟩
          · exact R6.objs b z
        have I7 : Inv (X.blk s3 H3 scope ce ex) ([] ++ pinsAt (a :: pr6) s6.heap) (wipe σ (own.map (·.2))) H5 s6 := (I6.unpinned (pins := [])).pinned fall oall
        refine thnF (asleep I7.bare (pg.run ([] ++ pinsAt (a :: pr6) s6.heap) { s6 with gens := s6.gens.map lull } _ H5 x u _ (I7.gens (bare_lull I7.bare)) rv (step x hx))) fun _ s8 h8 => ?_
        obtain ⟨t8, e8, sim8, sl8, σ8, H8, I8, hw8, q8⟩ := h8
        have I8' := I8.gens' e8 sim8
        refine wpAny_tests_nil ?_
        rw [if_pos rfl]
        refine thnF (asleep I8'.bare (pe.run ([] ++ pinsAt (a :: pr6) s6.heap) { s8 with gens := s8.gens.map lull } σ8 H8 _ (I8'.gens (bare_lull I8'.bare)) q8)) fun w s10 h10 => ?_
        obtain ⟨t10, e10, sim10, sl10, yv, H10, I10, r10, acc, hD10, hz10, nx⟩ := h10
        have I10' := I10.gens' e10 sim10
        refine thnF (asleep I10'.bare (app_ok (X := X.blk s3 H3 scope ce ex) (E := fun _ _ => False) (Q := fun _ s11 => Inv (X.blk s3 H3 scope ce ex) ([] ++ pinsAt (a :: pr6) s6.heap) σ8 (upd H10 D (.lst (acc ++ [yv]))) s11) (I10'.gens (bare_lull I10'.bare)) hD10 hz10 r10 fun s11 I11 => I11)) fun _ s11 h11 => ?_
        obtain ⟨t11, e11, sim11, sl11, I11⟩ := h11
        have I11' := I11.gens' e11 sim11
        have pin' : ∀ b ∈ a :: pr6, ∀ o, s6.heap.get? b = some o → s11.heap.get? b = some o ∧ upd H10 D (.lst (acc ++ [yv])) b = none := fun b hb o e => by
          have q2 := I11'.pin (b, o) (List.mem_append_right _ (List.mem_append_right _ (mem_pinsAt hb e)))
          exact ⟨q2.1, q2.2.1⟩
        have hl : (wipe σ (own.map (·.2))).length = σ8.length := by
          rw [← hw8, wipe_length]
        refine ⟨xs.length - (i + 1), by omega, i + 1, pr6, upd H10 D (.lst (acc ++ [yv])), rfl, (I11'.unpinned (pins := [])).weak hl (fun j v e => ?_), R6.keep (fun b hb o e => (pin' b hb o e).1) ((sl8.trans sl10).trans sl11), fun b hb => ?_, (pin' a List.mem_cons_self oa a6).2, (pin' a List.mem_cons_self oa a6).1, nx⟩
        · rw [← hw8] at e
          exact (wipe_some e).1
        · obtain ⟨o, e, _⟩ := R6.objs b hb
          obtain ⟨_, h2, h4, h5, h6, h7⟩ := fall b (List.mem_cons_of_mem _ hb)
          exact ⟨(pin' b (List.mem_cons_of_mem _ hb) o e).2, h2, h4, h5, h6, h7⟩
    · rw [List.mem_singleton.mp hb]
      exact stat I4 La ((mem_ex L).mp La).2.2
    · exact ((mem_ex a).mp aex).2.2
  exact codeAny_compStart_list loop (wpAny_pyIter_gen R4.gen loop)
end
end L2
namespace L2
open PySem PySem.Spec PyProof.Rows
section
variable {K : PySem.W.Frag} {sp : SpY} {t : TA} {σ : St} {H : Hp} {Q : VK} {g : TG} {te : TE} {vs : List Nat} {tb : TS} {D : Ends}
/-! readings -/
instance st_listG : Stp (tListG (tCallY2 sp t) σ H Q) (t σ H fun us H1 => ∃ xs, sp us xs ∧ xs.length ≤ sizeLine ∧ ∀ p, H1 p = none → Q (.ref p) (upd H1 p (.lst xs))) := ⟨fun h => h⟩
def lcY (g : TG) (te : TE) (vs : List Nat) (xs : List V) (σ : St) (Q : VK) (H : Hp) : Prop := ∀ D, H D = none → ∃ W : Nat → Hp → Prop, W 0 (upd H D (.lst [])) ∧ ∀ i G, W i G → i ≤ xs.length ∧ (∃ acc, G D = some (.lst acc)) ∧ (i = xs.length → Q (.ref D) G) ∧
  ∀ x, xs[i]? = some x → g x (wipe σ vs) G fun σ2 G2 => wipe σ2 vs = wipe σ vs ∧ te σ2 G2 fun y G4 => ∃ acc, G4 D = some (.lst acc) ∧ acc.length < sizeLine ∧ W (i + 1) (upd G4 D (.lst (acc ++ [y])))
instance st_lcG : Stp (tLcG (tCallY sp t) g te vs σ H Q) (t σ H fun us H1 => ∃ xs, sp us xs ∧ lcY g te vs xs σ Q H1) := ⟨fun h => h⟩
def YPut (H : Hp) (D : Addr) (f : V → V) (xs : List V) (i : Nat) : VK := fun y G => ∃ acc, G D = some (.lst acc) ∧ acc.length < sizeLine ∧ i + 1 ≤ xs.length ∧ upd G D (.lst (acc ++ [y])) = upd H D (.lst ((xs.take (i + 1)).map f))
theorem put_Y {f : V → V} {xs : List V} {i : Nat} {x y : V} {D : Addr} (hx : xs[i]? = some x) (hl : xs.length < sizeLine) (e : y = f x) : YPut H D f xs i y (upd H D (.lst ((xs.take i).map f))) := by
  have lt : i < xs.length := (List.getElem?_eq_some_iff.mp hx).1
  refine ⟨_, upd_same, ?_, lt, ?_⟩
  · rw [List.length_map, List.length_take]
    omega
  · rw [upd_upd, List.take_add_one, hx, List.map_append, e]
    rfl
/-- each item by itself -/
theorem rd_lcY {xs : List V} (f : V → V) (hs : ∀ D i x, H D = none → xs[i]? = some x → g x (wipe σ vs) (upd H D (.lst ((xs.take i).map f))) fun σ2 G2 => wipe σ2 vs = wipe σ vs ∧ te σ2 G2 (YPut H D f xs i)) (q : ∀ D, H D = none → Q (.ref D) (upd H D (.lst (xs.map f)))) : lcY g te vs xs σ Q H := by
  intro D hD
  refine ⟨fun i G => i ≤ xs.length ∧ G = upd H D (.lst ((xs.take i).map f)), ⟨Nat.zero_le _, by simp⟩, ?_⟩
  rintro i G ⟨hi, rfl⟩
  refine ⟨hi, ⟨_, upd_same⟩, fun e => ?_, fun x hx => hs D i x hD hx⟩
  rw [e, List.take_length]
  exact q D hD
def fgY (g : TG) (tb : TS) (xs : List V) (D : Ends) (σ : St) (H : Hp) : Prop := ∃ W : Nat → Nat → St → Hp → Prop, (∃ m, W 0 m σ H) ∧ ∀ i m σ H, W i m σ H → i ≤ xs.length ∧
  ((i = xs.length ∧ D.nx σ H) ∨ ∃ x, xs[i]? = some x ∧ ∃ N : St → Hp → Prop, (∀ σ' H', N σ' H' → ∃ m', m' < m ∧ W (i + 1) m' σ' H') ∧ g x σ H fun σ2 H2 => tb { D with nx := N, ct := N, bk := D.nx } σ2 H2)
instance st_forG : Stp (tForG (tCallY sp t) g tb D σ H) (t σ H fun us H1 => ∃ xs, sp us xs ∧ fgY g tb xs D σ H1) := ⟨fun h => h⟩
theorem rd_fgY {xs : List V} (Pv : Nat → St → Hp → Prop) (h0 : Pv 0 σ H) (hs : ∀ i x σ H, xs[i]? = some x → Pv i σ H → g x σ H fun σ2 H2 => tb { D with nx := Pv (i + 1), ct := Pv (i + 1), bk := D.nx } σ2 H2) (hd : ∀ σ H, Pv xs.length σ H → D.nx σ H) : fgY g tb xs D σ H := by
  refine ⟨fun i m σ H => m = xs.length - i ∧ i ≤ xs.length ∧ Pv i σ H, ⟨_, rfl, Nat.zero_le _, h0⟩, ?_⟩
  rintro i m σ H ⟨rfl, hi, p⟩
  refine ⟨hi, ?_⟩
  by_cases e : i = xs.length
  · subst e
    exact .inl ⟨rfl, hd σ H p⟩
  · have lt : i < xs.length := by omega
    refine .inr ⟨xs[i], List.getElem?_eq_getElem lt, fun σ' H' => Pv (i + 1) σ' H', fun σ' H' q => ⟨xs.length - (i + 1), by omega, rfl, lt, q⟩, ?_⟩
    exact hs i _ σ H (List.getElem?_eq_getElem lt) p
end
end L2

namespace L2
open PySem PySem.Spec PyProof.Rows
/-! ### errors without fields; errors that keep a list -/
section
variable {X : Cx} {e : Expr} {es : List Expr} {ta : TA} {p pos : Pos}
/-- C(), whose __init__ writes no field -/
def tMkN (C : Addr) (sp : Sp) : St → Hp → XK → Prop := fun _ H Q => ∀ a, H a = none → sp [.ref a] (upd H a (exo a C none)) (fun v H2 => v = .non ∧ H2 a = some (exo a C none) ∧ Q (.ref C) none (del H2 a)) (fun _ _ _ => False)
theorem made_bare {pins : List (Addr × Obj)} {σ : St} {A0 A2 : Hp} {Q : XK} {x0 x1 x2 : Heap} {ga gb : Array GenState} {da db : Drawn} {ta tb : Nat} {oa ob : OsState} {a C : Addr}
    (R : Raises X (.ref C)) (I : Inv X pins σ A0 ⟨x0, ga, da, ta, oa⟩) (far : x0.objs.size ≤ a) (kp : ∀ b o, x0.get? b = some o → x1.get? b = some o)
    (un : Un (frs X.stack) [] (upd A0 a (exo a C none)) A2 x1 x2) (ok : HOk X.prog X.w A2 x2) (eo : ob = oa) (bare : AllBare gb)
    (ea : A2 a = some (exo a C none)) (q : Q (.ref C) none (del A2 a)) : MkP X pins σ Q (.ref a) ⟨x2, gb, db, tb, ob⟩ := by
  have na : A0 a = none := I.hok.fresh far
  obtain ⟨t0, at0⟩ := exo_at ok ea
  obtain ⟨Y, y1, y2⟩ := restrict x2 (fun b => decide (b ≠ a))
  have yk : ∀ {b}, b ≠ a → Y.get? b = x2.get? b := fun {b} n => y1 b (decide_eq_true n)
  have ya : Y.get? a = none := y2 a (decide_eq_false fun n => n rfl)
  have off : ∀ {b : Addr} {o : Obj}, x0.get? b = some o → b ≠ a := fun {b o} z => by
    exact Nat.ne_of_lt (Nat.lt_of_lt_of_le (Heap.lt_size z) far)
  have pass : ∀ {b : Addr} {o : Obj}, x0.get? b = some o → A0 b = none → upd A0 a (exo a C none) b = none := fun z n => (upd_ne (off z)).trans n
  have U : Un (frs X.stack) [] A0 (del A2 a) x0 Y :=
    { keep := fun b o z n h1 h2 => (yk (off z)).trans (un.keep b o (kp b o z) (pass z n) h1 h2)
      slot := fun b o z n h1 h2 => by
        have := un.slot b o (kp b o z) (pass z n) h1 h2
        rwa [← yk (off z)] at this
      free := fun b o z n h => (del_ne (off z)).trans (un.free b o (kp b o z) (pass z n) h)
      there := fun b o z h => by
        have := un.there b o (kp b o z) h
        rwa [← yk (off z)] at this
      tups := fun b xs z => (del_ne (ne_of_none z na)).trans (un.tups b xs ((upd_ne (ne_of_none z na)).trans z))
      frzs := fun b o v z => (del_ne (ne_of_none z na)).trans (un.frzs b o v ((upd_ne (ne_of_none z na)).trans z))
      tbls := fun b ps z => by
        obtain ⟨more, hm⟩ := un.tbls b ps ((upd_ne (ne_of_none z na)).trans z)
        exact ⟨more, (del_ne (ne_of_none z na)).trans hm⟩ }
  have ok3 : HOk X.prog X.w (del A2 a) Y := fun b o z => by
    have n : b ≠ a := fun e => by
      rw [e, del_same] at z
      cases z
    rw [del_ne n] at z
    have away : ∀ {c : Addr}, A2 c = some (.own b) → c ≠ a := fun hc => at_ne ea hc exo_own
    refine (ok b o z).stay (fun c v hc y => ?_) (fun c hc => (del_ne (away hc)).trans hc) fun c xs hc => (del_ne (at_ne ea hc exo_tup)).trans hc
    refine (yk ?_).trans y
    rcases hc with hc | hc
    · exact fun z => n (hc.symm.trans z)
    · exact away hc
  have J : Inv X pins σ (del A2 a) ⟨Y, gb, db, tb, ob⟩ := I.call' (ch := []) eo U ok3 bare fun b z => absurd z List.not_mem_nil
  refine ⟨a, _, _, ⟨Y, gb, db, tb, ob⟩, _, .ref C, none, rfl, J, fun b o z => ?_, ya, at0, ⟨rfl, rfl⟩, rfl, rfl, del_same, rfl, bare, R, q⟩
  by_cases n : b = a
  · subst n
    rw [ya] at z
    cases z
  · exact (yk n).symm.trans z
theorem pmk_bare {CX : CXT} {x : Str} {C fI : Addr} {k : Nat} {fd : FuncData} {ps : List Str} {sp : Sp} (T : OexC X.K C) (hr : Room (k + 1) X.A)
    (iC : PySem.W.findIn X.K (.ref C) "__init__" = some (some (.ref fI)))
    (tI : PySem.W.typeIn X.K (.ref fI) = some (.type "function"))
    (F1 : FnOk X.prog X.w X.K X.mg X.base CX k fI fd ps sp) (hb : Binds X.K fd ps []) (hx : Passes CX X (fun _ _ _ => False))
    (hg : Gl X x) (hm : X.mg x = some (.ref C)) (hdb : (x == ("__debug__" : Str)) = false := by decide) : PMk X (.Call (.Name x p) [] [] pos) (tMkN C sp) := by
  rintro pins ⟨x0, ga, da, ta, oa⟩ σ H Q I h
  obtain ⟨nm, q, N, bs, bm, sn, sub, ab, col, dd, m0, m1, m2, m3, m5, hC, hbm⟩ := T.cls
  refine wpAny_Call_Name_kw (ld_glob I hg hm (PySem.W.callWith_K0 I.kIn T.kC ?_) hdb)
  have far : x0.objs.size ≤ x0.objs.size + 1 := Nat.le_succ _
  have na : H (x0.objs.size + 1) = none := I.hok.fresh far
  have kp : ∀ b o, x0.get? b = some o → ((x0.push (PySem.W.kdv_tup [])).push (PySem.HandSPX.excO C x0.objs.size)).get? b = some o := fun b o z =>
    Heap.get?_push_of_some _ (Heap.get?_push_of_some _ z)
  have at1 : ((x0.push (PySem.W.kdv_tup [])).push (PySem.HandSPX.excO C x0.objs.size)).get? (x0.objs.size + 1) = some (PySem.HandSPX.excO C x0.objs.size) := by
    heap_get
  have J : Inv X pins σ (upd H (x0.objs.size + 1) (exo (x0.objs.size + 1) C none)) ⟨(x0.push (PySem.W.kdv_tup [])).push (PySem.HandSPX.excO C x0.objs.size), ga, da, ta, oa⟩ :=
    I.laid (t' := ta) kp far (exo_ok at1)
  have hq := h _ na
  have len : ([Value.ref (x0.objs.size + 1)] : List Value).length = ps.length := (F1.len _ _ _ _ hq)
  refine wpAny_call (PySem.HandSPX.call_own (rest := []) F.excBase_ValueError (fun Y => PySem.HandSPX.refsVE_contains Y bm hbm) (I.kIn _ _ hC) (PySem.W.looks_findIn I.kIn iC) (fun self => PySem.W.bind_fn I.kIn self tI) (Nat.zero_le _) ?_)
  refine codeAny_mono (F1.run _ X.stack _ _ ⟨[Value.ref (x0.objs.size + 1)], []⟩ [Value.ref (x0.objs.size + 1)] _ _ (fun _ _ _ => False) (hr.make C [] []) (J.env0.make C [] []) (hb _ [Value.ref (x0.objs.size + 1)] J.kIn len) (show Vals [V.ref (x0.objs.size + 1)] [Value.ref (x0.objs.size + 1)] from .cons rfl .nil) hq) fun r s' hq' => ?_
  cases r with
  | error er => exact hx pins σ _ _ er s' J hq'
  | ok fl =>
    cases fl with
    | ret u =>
      obtain ⟨v, H2, os2, bare2, un2, hok2, rv, ev, ea, q2⟩ := hq'
      subst ev
      obtain ⟨h2, g2, d2, t2, os'⟩ := s'
      exact ⟨rv, made_bare (raises_own T.exC T.tyC) I far kp un2 hok2 os2 bare2 ea q2⟩
    | next => exact hq'.elim
    | brk => exact hq'.elim
    | cont => exact hq'.elim
end
/-- __init__ of an error without fields -/
def spErrN (C : Addr) : Sp := fun vs H Q _ => ∃ a : Addr, vs = [.ref a] ∧ H a = some (exo a C none) ∧ Q .non H
structure ErrN (P : Program) (w : World) (K : PySem.W.Frag) (mg : Str → Option Value) (base : Heap) (x : Str) (C : Addr) : Prop where
  g : mg x = some (.ref C)
  T : OexC K C
  self : PySem.W.exmOne K (.ref C) (.ref C) = some true
  ini : ∃ (fI : Addr) (fd : FuncData) (ps : List Str), PySem.W.findIn K (.ref C) "__init__" = some (some (.ref fI)) ∧ PySem.W.typeIn K (.ref fI) = some (.type "function") ∧ FnOk P w K mg base (L2.CX P w) 1 fI fd ps (spErrN C) ∧ Binds K fd ps []
theorem ErrN.of {P : Program} {w : World} {K : PySem.W.Frag} {mg : Str → Option Value} {base : Heap} {x : Str} {C : Addr} {sI : Stmt} {qual : Str} {ps : List Str} (R : ErrRaw K mg x C sI qual ps)
    (h : ∀ (fI : Addr) (fd : FuncData), Fun K "__init__" qual sI fI fd → FnOk P w K mg base (L2.CX P w) 1 fI fd ps (spErrN C)) : ErrN P w K mg base x C := by
  obtain ⟨fI, fd, i, t, F, b⟩ := R.ini
  exact ⟨R.g, R.T, R.self, fI, fd, ps, i, t, h fI fd F, b⟩
theorem pmk_errN {X : Cx} {x : Str} {C : Addr} {p pos : Pos} (Z : ErrN X.prog X.w X.K X.mg X.base x C) (hr : Room 2 X.A) (hg : Gl X x := by rfl) (hdb : (x == ("__debug__" : Str)) = false := by decide) : PMk X (.Call (.Name x p) [] [] pos) (tMkN C (spErrN C)) := by
  obtain ⟨fI, fd, ps, iC, tI, F, b⟩ := Z.ini
  exact pmk_bare Z.T hr iC tI F b passL hg Z.g hdb
theorem rd_mkN {C : Addr} {σ : St} {H : Hp} {Q : XK} (q : Q (.ref C) none H) : tMkN C (spErrN C) σ H Q := fun a na => by
  refine ⟨a, rfl, upd_same, rfl, upd_same, ?_⟩
  have e : del (upd H a (exo a C none)) a = H := by
    funext b
    by_cases hb : b = a
    · rw [hb, del_same, na]
    · rw [del_ne hb, upd_ne hb]
  rw [e]
  exact q
instance st_mkN {C : Addr} {σ : St} {H : Hp} {Q : XK} : Stp (tMkN C (spErrN C) σ H Q) (Q (.ref C) none H) := ⟨fun h => rd_mkN h⟩
/-- __init__ of an error that keeps a list of what it is given -/
def spErrL (K : PySem.W.Frag) (C : Addr) (f : Str) : Sp := fun vs H Q _ => ∃ (a c : Addr) (xs : List V), vs = [.ref a, .ref c] ∧ H a = some (exo a C none) ∧ SqL K H c xs ∧
  ∀ l dx, H l = none → l ≠ a → H dx = none → dx ≠ l → dx ≠ a → Q .non (upd (upd (upd H l (.lst xs)) dx (exd dx [(f, .ref l)])) a (exo a C (some dx)))
structure ErrL (P : Program) (w : World) (K : PySem.W.Frag) (mg : Str → Option Value) (base : Heap) (x : Str) (f : Str) (C : Addr) : Prop where
  g : mg x = some (.ref C)
  T : OexC K C
  X : XfC K C
  self : PySem.W.exmOne K (.ref C) (.ref C) = some true
  ini : ∃ (fI : Addr) (fd : FuncData) (ps : List Str), PySem.W.findIn K (.ref C) "__init__" = some (some (.ref fI)) ∧ PySem.W.typeIn K (.ref fI) = some (.type "function") ∧ FnOk P w K mg base (L2.CX P w) 1 fI fd ps (spErrL K C f) ∧ Binds K fd ps []
theorem ErrL.of {P : Program} {w : World} {K : PySem.W.Frag} {mg : Str → Option Value} {base : Heap} {x f : Str} {C : Addr} {sI : Stmt} {qual : Str} {ps : List Str} (R : ErrRaw K mg x C sI qual ps)
    (h : ∀ (fI : Addr) (fd : FuncData), Fun K "__init__" qual sI fI fd → FnOk P w K mg base (L2.CX P w) 1 fI fd ps (spErrL K C f)) : ErrL P w K mg base x f C := by
  obtain ⟨fI, fd, i, t, F, b⟩ := R.ini
  exact ⟨R.g, R.T, R.X, R.self, fI, fd, ps, i, t, h fI fd F, b⟩
theorem pmk_errL {X : Cx} {x f : Str} {C : Addr} {e : Expr} {es : List Expr} {ta : TA} {p pos : Pos} (Z : ErrL X.prog X.w X.K X.mg X.base x f C) (hr : Room 2 X.A) (ha : PA X (e :: es) ta) (hg : Gl X x := by rfl)
    (hdb : (x == ("__debug__" : Str)) = false := by decide) (he : starEach (e :: es) X.env = (false, eval e X.env) :: starEach es X.env := by rfl) (hpl : (backTo pos (starEach es X.env)).any (·.1) = false := by rfl) :
    PMk X (.Call (.Name x p) (e :: es) [] pos) (tMkO C (spErrL X.K C f) [] ta) := by
  obtain ⟨fI, fd, ps, iC, tI, F, b⟩ := Z.ini
  exact pmk_oex Z.T iC tI F hr b .nil passL hg Z.g ha hdb he hpl
/-- what the raising asks -/
def MkL (K : PySem.W.Frag) (C : Addr) (f : Str) (Q : XK) (vs : List V) (H1 : Hp) : Prop := vs.length ≤ 1000 ∧ ∀ a, H1 a = none → spErrL K C f (.ref a :: (vs ++ [])) (upd H1 a (exo a C none))
  (fun v H2 => v = .non ∧ ∃ (d : Addr) (fs : List (Str × V)), H2 a = some (exo a C (some d)) ∧ H2 d = some (exd d fs) ∧ H1 d = none ∧ Q (.ref C) (some d) (upd (del H2 a) d (.xd fs))) (fun _ _ _ => False)
instance st_mkL {K : PySem.W.Frag} {C : Addr} {f : Str} {ta : TA} {σ : St} {H : Hp} {Q : XK} : Stp (tMkO C (spErrL K C f) [] ta σ H Q) (ta σ H (MkL K C f Q)) := ⟨fun h => h⟩
theorem rd_mkL {K : PySem.W.Frag} {C c : Addr} {f : Str} {xs : List V} {H1 : Hp} {Q : XK} (hc : SqL K H1 c xs) (q : ∀ l d, H1 l = none → H1 d = none → d ≠ l → Q (.ref C) (some d) (upd (upd H1 l (.lst xs)) d (.xd [(f, .ref l)]))) : MkL K C f Q [.ref c] H1 := by
  refine ⟨by show 1 ≤ 1000; decide, fun a na => ⟨a, c, xs, rfl, upd_same, (same_new na).seq hc, fun l dx nl la nd dl da => ⟨rfl, dx, [(f, .ref l)], upd_same, ?_, ?_, ?_⟩⟩⟩
  · rw [upd_ne da, upd_same]
  · rw [upd_ne da] at nd
    exact nd
  · rw [upd_ne la] at nl
    rw [upd_ne da] at nd
    refine Eq.mp (congrArg (Q _ _) ?_) (q l dx nl nd dl)
    funext b
    by_cases hb : b = dx
    · rw [hb, upd_same, upd_same]
    · rw [upd_ne hb, upd_ne hb]
      by_cases ha : b = a
      · rw [ha, del_same, upd_ne (Ne.symm la), na]
      · rw [del_ne ha, upd_ne ha, upd_ne hb]
        by_cases hl : b = l
        · rw [hl, upd_same, upd_same]
        · rw [upd_ne hl, upd_ne hl, upd_ne ha]
end L2

namespace My
open PySem PySem.Spec PyProof.Rows L2
/-! one step of a reading, by its head -/
local macro_rules | `(tactic| wtm_at "r") => `(tactic| first
  | (with_reducible refine rd_var rfl ?_)
  | (with_reducible refine Stp.mp ?_)
  | (with_reducible first
    | refine rd_I ?_ ?_
    | refine rd_augC rfl ?_
    | refine rd_augG rfl ?_
    | refine rd_r1 ?_ ?_ ?_
    | refine rd_r2 ?_ ?_
    | refine rd_pure ?_ ?_
    | refine rd_pureT ?_ ?_
    | refine rd_back (by assumption) ?_
    | fail)
  | fail)
/-! branch -/
local macro_rules | `(tactic| wtm_at "i") => `(tactic| (with_reducible first
  | refine rd_ite (fun _ => ?_) (fun _ => ?_)
  | refine rd_iteN (fun _ => ?_) (fun _ => ?_)
  | refine rd_iteb (fun _ => ?_) (fun _ => ?_)))
/-! the view of the heap (PreS): membership -/
local macro_rules | `(tactic| wtm_at "mem") => `(tactic| first
  | (with_reducible exact List.mem_cons_self)
  | ((with_reducible refine List.mem_cons_of_mem _ ?_); wtm_at "mem")
  | fail)
local macro_rules | `(tactic| wtm_at "vsub") => `(tactic| first
  | (with_reducible exact sub_nil)
  | ((with_reducible refine sub_cons ?h1 ?h2); (case h1 => wtm_at "mem"); (case h2 => wtm_at "vsub"))
  | fail)
/-! where something stands in the heap; two places differ -/
local macro_rules | `(tactic| wtm_at "ne") => `(tactic| with_reducible first
  | assumption
  | exact Ne.symm (by assumption)
  | exact ne_of_none (by assumption) (by assumption)
  | exact Ne.symm (ne_of_none (by assumption) (by assumption))
  | fail)
local macro_rules | `(tactic| wtm_at "h") => `(tactic| first
  | with_reducible assumption
  | with_reducible exact upd_same
  | ((with_reducible rw [upd_upd]); wtm_at "h")
  | ((with_reducible refine upd_at ?h1 ?h2); (case h1 => wtm_at "h"); (case h2 => intro hh; first | with_reducible exact ne_of_none hh (by assumption) | wtm_at "ne" | fail))
  | (with_reducible exact Hv.mAt (by assumption) (by wtm_at "mem"))
  | (with_reducible exact Hv.lAt (by assumption) (by wtm_at "mem"))
  | (with_reducible exact Hv.oAt (by assumption) (by assumption))
  | (with_reducible exact Hv.oAtX (by assumption) (by assumption) (by wtm_at "ne"))
  | fail)
/-! what was tracked stands -/
local macro_rules | `(tactic| wtm_at "sm") => `(tactic| first
  | with_reducible assumption
  | (with_reducible exact Same.refl _)
  | ((with_reducible refine same_upd3 ?_ (by with_reducible assumption)); wtm_at "sm")
  | ((with_reducible refine same_upd2 ?_ (by with_reducible assumption)); wtm_at "sm")
  | (refine same_upd2 ?_ (by first | with_reducible assumption | (refine Same.free ?_ (by with_reducible assumption); wtm_at "sm") | fail); wtm_at "sm")
  | (refine Same.trans ?_ (by with_reducible assumption); wtm_at "sm")
  | (refine Same.trans (by with_reducible assumption) ?_; wtm_at "sm")
  | (with_reducible exact Hv.same (by assumption))
  | fail)
local macro_rules | `(tactic| wtm_at "q") => `(tactic| first
  | with_reducible assumption
  | ((with_reducible refine SqL.of ?h1); (case h1 => wtm_at "h"))
  | ((with_reducible refine SqT.of ?h1); (case h1 => wtm_at "h"))
  | ((with_reducible refine Same.seq ?_ (by assumption)); wtm_at "sm")
  | ((with_reducible refine Same.seqT ?_ (by assumption)); wtm_at "sm")
  | ((with_reducible refine Same.lst ?_ (by assumption)); wtm_at "sm")
  | assumption
  | fail)
/-! data, read off the heap -/
local macro_rules | `(tactic| wtm_at "dp") => `(tactic| first
  | with_reducible assumption
  | exact Dp.int _
  | exact Dp.bl _
  | exact Dp.str _
  | exact Dp.non
  | exact DpAll.nil
  | (with_reducible exact dpAll_ints _)
  | (with_reducible exact dpAll_bls _)
  | ((with_reducible refine DpAll.cons (d := ?d) (ds := ?ds) ?h1 ?h2); (case h1 => wtm_at "dp"); (case h2 => wtm_at "dp"))
  | ((with_reducible refine Dp.lst (xs := ?xs) (ds := ?ds) ?h1 ?h2); (case h1 => wtm_at "q"); (case h2 => wtm_at "dp"))
  | ((with_reducible refine Dp.tup (xs := ?xs) (ds := ?ds) ?h1 ?h2); (case h1 => wtm_at "q"); (case h2 => wtm_at "dp"))
  | ((with_reducible refine Dp.same ?_ (by assumption)); wtm_at "sm")
  | fail)
/-! no dict with tuple keys -/
local macro_rules | `(tactic| wtm_at "nt") => `(tactic| first
  | with_reducible assumption
  | ((with_reducible refine NoT.upd ?_ rfl); wtm_at "nt")
  | (with_reducible exact Hv.nt (by assumption))
  | fail)
/-! what is asked on the side -/
local macro_rules | `(tactic| wtm_at "s") => `(tactic| first
  | ((with_reducible show NoT _); wtm_at "nt")
  | ((with_reducible show (_ : Int) < _); omega)
  | ((with_reducible show CMulB _ _); assumption)
  | ((with_reducible show CMulB _ _); exact Or.inl (Or.inl ⟨by omega, by omega⟩))
  | ((with_reducible show CMulB _ _); exact Or.inl (Or.inr ⟨by omega, by omega⟩))
  | ((with_reducible show CMulB _ _); exact CMulB.wide ⟨by omega, by omega⟩ ⟨by omega, by omega⟩)
  | ((with_reducible show CDivB _ _); exact ⟨by omega, by omega⟩)
  | ((with_reducible refine rd_powN ?h1 ?h2 ?h3 ?_); (case h1 => rfl); (case h2 => decide); (case h3 => first | decide | omega))
  | ((with_reducible refine rd_setL (xs := ?xs) (j := ?j) ?h1 ?h2 ?_); (case h1 => wtm_at "h"); (case h2 => rfl))
  | ((with_reducible refine rd_ixL (xs := ?xs) (v := ?v) ?h1 ?h2 ?_); (case h1 => wtm_at "q"); (case h2 => rfl))
  | ((with_reducible refine rd_ixT (xs := ?xs) (v := ?v) ?h1 ?h2 ?_); (case h1 => wtm_at "q"); (case h2 => rfl))
  | ((with_reducible show -2 ^ 62 ≤ (_ : Int)); omega)
  | ((with_reducible show (_ : Int) ≤ _); omega)
  | ((with_reducible show (_ : Int) ≤ _ ∧ _); exact ⟨by omega, by omega, by omega, by omega⟩)
  | ((with_reducible refine rd_iL1 (xs := ?xs) ?h1 ?_); (case h1 => wtm_at "q"))
  | ((with_reducible refine rd_iT1 (xs := ?xs) ?h1 ?_); (case h1 => wtm_at "q"))
  | ((with_reducible refine rd_eqD (d := ?d) (e := ?e) ?h1 ?h2 ?h3 ?h4 ?_); (case h1 => wtm_at "dp"); (case h2 => wtm_at "dp"); (case h3 => rfl); (case h4 => rfl))
  | ((with_reducible refine rd_neD (d := ?d) (e := ?e) ?h1 ?h2 ?h3 ?h4 ?_); (case h1 => wtm_at "dp"); (case h2 => wtm_at "dp"); (case h3 => rfl); (case h4 => rfl))
  | ((with_reducible refine rd_xfb (fs := ?fs) (v := ?v) ?h1 ?h2 ?_); (case h1 => wtm_at "h"); (case h2 => rfl))
  | ((with_reducible refine rd_append (xs := ?xs) ?h1 ?h2 ?_); (case h1 => wtm_at "h"); (case h2 => first | assumption | exact Nat.le_of_ble_eq_true rfl | (refine Nat.lt_of_le_of_lt (m := 1000000) ?_ (by decide); omega)))
  | ((with_reducible refine rd_lenL (ys := ?ys) ?h1 ?_); (case h1 => wtm_at "q"))
  | ((with_reducible refine rd_lenT (ys := ?ys) ?h1 ?_); (case h1 => wtm_at "q"))
  | ((with_reducible refine rd_new ?h1 ?_); (case h1 => exact Nat.le_of_ble_eq_true rfl); intro p hp)
  | ((with_reducible refine rd_tyL (xs := ?xs) ?h1 ?_); (case h1 => wtm_at "h"))
  | ((with_reducible refine rd_gtup (xs := ?xs) ?h1 ?h2 ?_); (case h1 => wtm_at "q"); (case h2 => rfl))
  | ((with_reducible refine rd_unl (xs := ?xs) ?h1 ?h2 ?_); (case h1 => wtm_at "q"); (case h2 => rfl))
  | ((with_reducible refine rd_slL (xs := ?xs) ?h1 ?_); (case h1 => wtm_at "q"); intro p hp)
  | ((with_reducible refine rd_cat (xs := ?xs) (zs := ?zs) ?h1 ?h2 ?h3 ?_); (case h1 => wtm_at "h"); (case h2 => wtm_at "h"); (case h3 => first | assumption | exact Nat.le_of_ble_eq_true rfl); intro p hp)
  | ((with_reducible refine rd_isiL (xs := ?xs) ?h1 ?_); (case h1 => wtm_at "h"))
  | ((with_reducible refine rd_isiT (xs := ?xs) ?h1 ?_); (case h1 => wtm_at "h"))
  | ((with_reducible refine rd_mk1 ?h1 ?h2 ?_); (case h1 => rfl); (case h2 => decide)))
local macro_rules | `(tactic| wtm_at "s") => `(tactic| first
  | ((with_reducible refine rd_neF ?h1 ?_); (case h1 => first | with_reducible rfl | assumption | fail))
  | ((with_reducible refine rd_eqT ?h1 ?_); (case h1 => first | with_reducible rfl | assumption | fail))
  | ((with_reducible refine rd_neT ?h1 ?_); (case h1 => first | assumption | exact non_int | exact non_ref | exact Bool.false_ne_true | exact Bool.false_ne_true.symm | fail))
  | ((with_reducible refine rd_eqF ?h1 ?_); (case h1 => first | assumption | exact non_int | exact non_ref | exact Bool.false_ne_true | exact Bool.false_ne_true.symm | fail))
  | fail)
local macro_rules | `(tactic| wtm_at "bd") => `(tactic| first
  | with_reducible assumption
  | exact Bd.mono (by with_reducible assumption) (by decide)
  | exact Bd.lit (by decide) (by decide)
  | ((with_reducible refine Bd.mulN ?_ ?_) <;> wtm_at "bd")
  | ((with_reducible refine Bd.addN ?h1 ?h2 ?h3); (case h1 => wtm_at "bd"); (case h2 => wtm_at "bd"); (case h3 => decide))
  | ((with_reducible refine Bd.subN ?h1 ?h2 ?h3); (case h1 => wtm_at "bd"); (case h2 => wtm_at "bd"); (case h3 => decide))
  | ((with_reducible refine Bd.neg ?h1); (case h1 => wtm_at "bd"))
  | fail)
local macro_rules | `(tactic| wtm_at "s") => `(tactic| first
  | ((with_reducible refine rd_fld1 (dx := ?dx) (fs := ?fs) (v := ?v) ?h1 ?h2 ?_); (case h1 => wtm_at "h"); (case h2 => rfl))
  | ((with_reducible refine rd_meth1 (dx := ?dx) (fs := ?fs) ?h1 ?h2 ?_); (case h1 => wtm_at "h"); (case h2 => rfl))
  | ((with_reducible refine rd_sfld1 (dx := ?dx) (fs := ?fs) ?h1 ?h2 ?_); (case h1 => wtm_at "h"); (case h2 => exact Nat.le_of_ble_eq_true rfl))
  | ((with_reducible refine rd_fmtI ?h1 ?_); (case h1 => exact Nat.lt_trans (txI_len (n := 1000) (by wtm_at "bd") (Nat.le_refl _)).2 (by decide)))
  | ((with_reducible refine rd_strI ?h1 ?_); (case h1 => exact Nat.lt_trans (txI_len (n := 1000) (by wtm_at "bd") (Nat.le_refl _)).2 (by decide)))
  | ((with_reducible refine rd_eqInts (ns := ?ns) (ms := ?ms) ?h1 ?h2 ?_); (case h1 => wtm_at "q"); (case h2 => wtm_at "q"))
  | ((with_reducible refine rd_neInts (ns := ?ns) (ms := ?ms) ?h1 ?h2 ?_); (case h1 => wtm_at "q"); (case h2 => wtm_at "q"))
  | ((with_reducible refine rd_listOfL (ys := ?ys) ?h1 ?_); (case h1 => wtm_at "q"); intro l hl)
  | ((with_reducible refine rd_revV (xs := ?xs) ?h1 ?_); (case h1 => wtm_at "q"); intro p hp)
  | ((with_reducible refine rd_iRev1 (xs := ?xs) ?h1 ?_); (case h1 => wtm_at "q"))
  | ((with_reducible refine rd_callO2 (dx := ?dx) (fs := ?fs) ?h1 ?_); (case h1 => wtm_at "h"))
  | ((with_reducible show CMulB _ _); refine CMulB.bd ?_ ?_ <;> wtm_at "bd")
  | fail)
local macro_rules | `(tactic| wtm_at "s") => `(tactic| first
  | ((with_reducible refine rd_dinF (ks := ?ks) ?h1 ?_); (case h1 => wtm_at "h"))
  | ((with_reducible refine rd_dnotinF (ks := ?ks) ?h1 ?_); (case h1 => wtm_at "h"))
  | ((with_reducible refine rd_listF (ks := ?ks) ?h1 ?_); (case h1 => wtm_at "h"); intro l hl)
  | ((with_reducible refine rd_sortedI (ns := ?ns) ?h1 ?_); (case h1 => wtm_at "q"))
  | fail)
local macro_rules | `(tactic| wtm_at "tp") => `(tactic| first
  | ((with_reducible refine rd_tupL (ys := ?ys) ?h1 ?_); (case h1 => wtm_at "q"); intro l hl)
  | ((with_reducible refine rd_tupT (ys := ?ys) ?h1 ?_); (case h1 => wtm_at "q"))
  | fail)
/-! a test that omega answers -/
local macro_rules | `(tactic| wtm_at "o") => `(tactic| first
  | ((with_reducible refine rd_neF ?h1 ?_); (case h1 => omega))
  | ((with_reducible refine rd_eqT ?h1 ?_); (case h1 => omega))
  | ((with_reducible refine rd_neT ?h1 ?_); (case h1 => omega))
  | ((with_reducible refine rd_eqF ?h1 ?_); (case h1 => omega))
  | fail)
/-! steps while there is one way -/
local macro_rules | `(tactic| wtm_at "rs") => `(tactic| repeat' (first | wtm_at "r" | wtm_at "s" | fail))
/-! all ways -/
local macro_rules | `(tactic| wtm_at "ra") => `(tactic| repeat' (first | wtm_at "r" | wtm_at "s" | wtm_at "i" | fail))
local macro_rules | `(tactic| wtm_at "ro") => `(tactic| repeat' (first | wtm_at "r" | wtm_at "s" | wtm_at "o" | fail))
local macro_rules | `(tactic| wtm_at "rao") => `(tactic| repeat' (first | wtm_at "r" | wtm_at "s" | wtm_at "o" | wtm_at "i" | fail))

/-! ## mathematics -/
/-! part m_signs -/
def factorOf (rule : Str) (n m : Int) : Int :=
  if rule = "two" ∧ (m % 8 = 3 ∨ m % 8 = 5) then -1
  else if rule = "minus" ∧ m % 4 = 3 then -1
  else if rule = "turn" ∧ n % 4 = 3 ∧ m % 4 = 3 then -1
  else 1
theorem factorOf_pm (rule : Str) (n m : Int) : factorOf rule n m = 1 ∨ factorOf rule n m = -1 := by
  unfold factorOf
  split
  · exact .inr rfl
  · split
    · exact .inr rfl
    · split
      · exact .inr rfl
      · exact .inl rfl
def facT (m : Nat) : Int := if m % 8 = 3 ∨ m % 8 = 5 then -1 else 1
def facR (n m : Nat) : Int := if n % 4 = 3 ∧ m % 4 = 3 then -1 else 1
theorem str_ne1 : ¬ (("turn" : Str) = "two") := by decide +kernel
theorem str_ne2 : ¬ (("turn" : Str) = "minus") := by decide +kernel
theorem str_ne3 : ¬ (("two" : Str) = "minus") := by decide +kernel
theorem str_ne4 : ¬ (("two" : Str) = "turn") := by decide +kernel
theorem str_ne5 : ¬ (("rest" : Str) = "two") := by decide +kernel
theorem str_ne6 : ¬ (("rest" : Str) = "minus") := by decide +kernel
theorem str_ne7 : ¬ (("rest" : Str) = "turn") := by decide +kernel
theorem str_ne8 : ¬ (("two" : Str) = "rest") := by decide +kernel
theorem str_ne9 : ¬ (("turn" : Str) = "rest") := by decide +kernel
theorem str_ne10 : ¬ (("minus" : Str) = "rest") := by decide +kernel
theorem str_ne11 : ¬ (("minus" : Str) = "two") := by decide +kernel
theorem str_ne12 : ¬ (("minus" : Str) = "turn") := by decide +kernel
theorem factorOf_two (n m : Int) (hm : 0 < m) : factorOf "two" n m = facT m.toNat := by
  unfold factorOf facT
  have e : (m % 8 = 3 ∨ m % 8 = 5) ↔ (m.toNat % 8 = 3 ∨ m.toNat % 8 = 5) := by omega
  by_cases h : m % 8 = 3 ∨ m % 8 = 5
  · rw [if_pos ⟨rfl, h⟩, if_pos (e.mp h)]
  · rw [if_neg (fun z => h z.2), if_neg (fun z => str_ne3 z.1), if_neg (fun z => str_ne4 z.1), if_neg (fun z => h (e.mpr z))]
theorem factorOf_turn (n m : Int) (hn : 0 ≤ n) (hm : 0 < m) : factorOf "turn" n m = facR n.toNat m.toNat := by
  unfold factorOf facR
  have e : (n % 4 = 3 ∧ m % 4 = 3) ↔ (n.toNat % 4 = 3 ∧ m.toNat % 4 = 3) := by omega
  by_cases h : n % 4 = 3 ∧ m % 4 = 3
  · rw [if_neg (fun z => str_ne1 z.1), if_neg (fun z => str_ne2 z.1), if_pos ⟨rfl, h⟩, if_pos (e.mp h)]
  · rw [if_neg (fun z => str_ne1 z.1), if_neg (fun z => str_ne2 z.1), if_neg (fun z => h z.2), if_neg (fun z => h (e.mpr z))]
/-- the sign, by the program's own steps -/
def jac (n m : Nat) : Int :=
  if _h : n = 0 then (if m = 1 then 1 else 0)
  else if n % 2 = 0 then facT m * jac (n / 2) m
  else facR n m * jac (m % n) n
termination_by n
decreasing_by
  · omega
  · exact Nat.mod_lt _ (by omega)
theorem jac_zero (m : Nat) : jac 0 m = if m = 1 then 1 else 0 := by
  rw [jac]
  simp
theorem jac_two {n m : Nat} (h0 : n ≠ 0) (h : n % 2 = 0) : jac n m = facT m * jac (n / 2) m := by
  rw [jac, dif_neg h0, if_pos h]
theorem jac_turn {n m : Nat} (h : n % 2 = 1) : jac n m = facR n m * jac (m % n) n := by
  rw [jac, dif_neg (by omega), if_neg (by omega)]
def sgn (n m : Int) : Int := jac (n % m).toNat m.toNat
/-! part m_prime -/
namespace QR
def Pm (p : Int) : Prop := 2 ≤ p ∧ ∀ d : Int, 2 ≤ d → d < p → ¬ d ∣ p
theorem split_le {n d e : Int} (h2 : 2 ≤ d) (hdn : d < n) (he : n = d * e) : (d * d ≤ n ∨ e * e ≤ n) ∧ 2 ≤ e := by
  have e0 : 2 ≤ e := by
    rcases Int.lt_or_le e 2 with z | z
    · exfalso
      have : d * e ≤ d * 1 := Int.mul_le_mul_of_nonneg_left (by omega) (by omega)
      omega
    · exact z
  refine ⟨?_, e0⟩
  rcases Int.le_total d e with z | z
  · left
    have : d * d ≤ d * e := Int.mul_le_mul_of_nonneg_left z (by omega)
    omega
  · right
    have : e * e ≤ d * e := Int.mul_le_mul_of_nonneg_right z (by omega)
    omega
theorem pm_of_trial {n k : Int} (h2 : 2 ≤ n) (hk0 : 0 ≤ k) (hk : n < k * k) (h : ∀ d : Int, 2 ≤ d → d < k → ¬ d ∣ n) : Pm n := by
  refine ⟨h2, fun d hd hn hdv => ?_⟩
  obtain ⟨e, he⟩ := hdv
  have lt : ∀ x : Int, 0 ≤ x → x * x ≤ n → x < k := fun x hx hxx => by
    rcases Int.lt_or_le x k with z | z
    · exact z
    · exfalso
      have a : k * k ≤ x * k := Int.mul_le_mul_of_nonneg_right z hk0
      have b : x * k ≤ x * x := Int.mul_le_mul_of_nonneg_left z hx
      omega
  obtain ⟨a, b⟩ := split_le hd hn he
  rcases a with a | a
  · exact h d hd (lt d (by omega) a) ⟨e, he⟩
  · exact h e b (lt e (by omega) a) ⟨d, by rw [he, Int.mul_comm]⟩
theorem pm_of_odd_trial {n k : Int} (h3 : 3 ≤ n) (ho : n % 2 = 1) (hk0 : 0 ≤ k) (hk : n < k * k) (h : ∀ d : Int, 3 ≤ d → d % 2 = 1 → d < k → ¬ d ∣ n) : Pm n := by
  refine pm_of_trial (by omega) hk0 hk fun d hd hdk hdv => ?_
  have : d % 2 = 1 := by
    obtain ⟨e, he⟩ := hdv
    rcases Int.emod_two_eq d with z | z
    · exfalso
      rw [he, Int.mul_emod, z, Int.zero_mul] at ho
      simp at ho
    · exact z
  exact h d (by omega) this hdk hdv
theorem not_pm {n k : Int} (h2 : 2 ≤ k) (hk : k * k ≤ n) (hd : n % k = 0) : ¬ Pm n := fun hp => by
  have : k < k * k := by
    have : k * 2 ≤ k * k := Int.mul_le_mul_of_nonneg_left h2 (by omega)
    omega
  exact hp.2 k h2 (by omega) (Int.dvd_of_emod_eq_zero hd)
theorem no_dvd_step {n k : Int} (h : ∀ d : Int, 2 ≤ d → d < k → ¬ d ∣ n) (hd : n % k ≠ 0) : ∀ d : Int, 2 ≤ d → d < k + 1 → ¬ d ∣ n := fun d h2 hk z => by
  by_cases e : d = k
  · rw [e] at z
    exact hd (Int.emod_eq_zero_of_dvd z)
  · exact h d h2 (by omega) z
theorem no_dvd_step2 {n k : Int} (hk : k % 2 = 1) (h : ∀ d : Int, 3 ≤ d → d % 2 = 1 → d < k → ¬ d ∣ n) (hd : n % k ≠ 0) : ∀ d : Int, 3 ≤ d → d % 2 = 1 → d < k + 2 → ¬ d ∣ n := fun d h2 ho hk z => by
  by_cases e : d = k
  · rw [e] at z
    exact hd (Int.emod_eq_zero_of_dvd z)
  · exact h d h2 ho (by omega) z
theorem sq_bound {k n : Int} (h0 : 0 ≤ k) (hk : k * k ≤ n) (hn : n < 2 ^ 120) : k < 2 ^ 60 := by
  rcases Int.lt_or_le k (2 ^ 60) with z | z
  · exact z
  · exfalso
    have a : (2 : Int) ^ 60 * 2 ^ 60 ≤ k * 2 ^ 60 := Int.mul_le_mul_of_nonneg_right z (by decide)
    have b : k * 2 ^ 60 ≤ k * k := Int.mul_le_mul_of_nonneg_left z h0
    have c : (2 : Int) ^ 60 * 2 ^ 60 = 2 ^ 120 := by decide
    omega
theorem le_sq {k : Int} (h : 1 ≤ k) : k ≤ k * k := by
  have : k * 1 ≤ k * k := Int.mul_le_mul_of_nonneg_left h (by omega)
  omega
/-- an odd prime -/
def OP (n : Int) : Prop := Pm n ∧ n % 2 = 1
theorem OP.three {n : Int} (h : OP n) : 3 ≤ n := by
  have := h.1.1
  have := h.2
  omega
theorem pm_two : Pm 2 := ⟨by omega, fun d h1 h2 => by omega⟩
theorem pm_odd {n : Int} (h : Pm n) (h3 : 3 ≤ n) : n % 2 = 1 := by
  rcases Int.emod_two_eq n with z | z
  · exact absurd (Int.dvd_of_emod_eq_zero z) (h.2 2 (by omega) (by omega))
  · exact z
/-- a prime, by looking at all divisors up to a side -/
theorem op_by {n : Nat} (k : Nat) (h3 : 3 ≤ n) (ho : n % 2 = 1) (hk : n < k * k) (h : (List.range k).all (fun d => d < 2 || n % d != 0) = true) : OP n := by
  refine ⟨pm_of_trial (k := k) (by omega) (by omega) (by exact_mod_cast hk) fun d h2 hd hv => ?_, by omega⟩
  have := List.all_eq_true.mp h d.toNat (List.mem_range.mpr (by omega))
  have hz : n % d.toNat = 0 := by
    have e := Int.emod_eq_zero_of_dvd hv
    rw [show d = ((d.toNat : Nat) : Int) by omega, ← Int.natCast_emod] at e
    exact_mod_cast e
  have h2' : ¬ d.toNat < 2 := by omega
  simp [hz, h2'] at this
open Classical in
noncomputable instance decPm (n : Int) : Decidable (Pm n) := Classical.propDecidable _
noncomputable instance decOP (n : Int) : Decidable (OP n) := instDecidableAnd
end QR
/-! part m_rows -/
/-- the list that a list of tuples holds -/
def RowsAt (H : Hp) : List Addr → List (List V) → Prop
  | [], [] => True
  | t :: ts, l :: ls => H t = some (.tup l) ∧ RowsAt H ts ls
  | _, _ => False
theorem RowsAt.mono {H H' : Hp} (s : Same H H') : ∀ {ts : List Addr} {ls : List (List V)}, RowsAt H ts ls → RowsAt H' ts ls
  | [], [], _ => trivial
  | _ :: _, _ :: _, h => ⟨s _ _ h.1, RowsAt.mono s h.2⟩
  | [], _ :: _, h => h.elim
  | _ :: _, [], h => h.elim
theorem RowsAt.len {H : Hp} : ∀ {ts : List Addr} {ls : List (List V)}, RowsAt H ts ls → ts.length = ls.length
  | [], [], _ => rfl
  | _ :: _, _ :: _, h => by rw [List.length_cons, List.length_cons, RowsAt.len h.2]
  | [], _ :: _, h => h.elim
  | _ :: _, [], h => h.elim
theorem RowsAt.snoc {H : Hp} {t : Addr} {l : List V} (ht : H t = some (.tup l)) : ∀ {ts : List Addr} {ls : List (List V)}, RowsAt H ts ls → RowsAt H (ts ++ [t]) (ls ++ [l])
  | [], [], _ => ⟨ht, trivial⟩
  | _ :: _, _ :: _, h => ⟨h.1, RowsAt.snoc ht h.2⟩
  | [], _ :: _, h => h.elim
  | _ :: _, [], h => h.elim
theorem RowsAt.other {H : Hp} {p : Addr} {xs : List V} {o : HO} (hp : H p = some (.lst xs)) : ∀ {ts : List Addr} {ls : List (List V)}, RowsAt H ts ls → RowsAt (upd H p o) ts ls
  | [], [], _ => trivial
  | t :: _, _ :: _, h => ⟨by
      rw [upd_ne (ne_of h.1 hp (by intro z; cases z))]
      exact h.1, RowsAt.other hp h.2⟩
  | [], _ :: _, h => h.elim
  | _ :: _, [], h => h.elim
theorem RowsAt.at {H : Hp} : ∀ {ts : List Addr} {ls : List (List V)} {i : Nat} {v : V}, RowsAt H ts ls → (ts.map V.ref)[i]? = some v → ∃ (t : Addr) (l : List V), v = .ref t ∧ H t = some (.tup l) ∧ ls[i]? = some l
  | t :: ts, l :: ls, 0, v, h, e => ⟨t, l, (Option.some.inj e).symm, h.1, rfl⟩
  | t :: ts, l :: ls, i + 1, v, h, e => RowsAt.at h.2 (i := i) e
  | [], _, _, _, _, e => by cases e
  | _ :: _, [], _, _, h, _ => h.elim
theorem RowsAt.rig {H : Hp} {ts : List Addr} {ls : List (List V)} (h : RowsAt H ts ls) : Rig (fun G => RowsAt G ts ls) H := fun G k => by
  induction ts generalizing ls with
  | nil => cases ls with
    | nil => trivial
    | cons l ls => exact h.elim
  | cons t ts ih => cases ls with
    | nil => exact h.elim
    | cons l ls => exact ⟨k _ _ rfl h.1, ih h.2⟩
/-! part m_pow -/
/-! powers on a clock -/
theorem cg_pow {p a b : Int} (h : p ∣ a - b) : ∀ e : Nat, p ∣ a ^ e - b ^ e
  | 0 => ⟨0, by simp⟩
  | e + 1 => by
    obtain ⟨c, hc⟩ := cg_pow h e
    obtain ⟨d, hd⟩ := h
    exact ⟨c * a + b ^ e * d, by rw [Int.pow_succ, Int.pow_succ, Int.mul_add, ← Int.mul_assoc, ← hc, Int.mul_left_comm, ← hd]; grind⟩
theorem sq_pow (b : Int) : ∀ e : Nat, (b * b) ^ e = b ^ (2 * e)
  | 0 => by simp
  | e + 1 => by rw [Int.pow_succ, sq_pow b e, show 2 * (e + 1) = 2 * e + 1 + 1 by omega, Int.pow_succ, Int.pow_succ, Int.mul_assoc]
theorem pw_even {p r b X : Int} {e : Nat} (h : p ∣ r * b ^ e - X) (he : e % 2 = 0) : p ∣ r * (b * b % p) ^ (e / 2) - X := by
  have e1 := Int.mul_ediv_add_emod (b * b) p
  obtain ⟨c, hc⟩ := cg_pow (p := p) (a := b * b % p) (b := b * b) ⟨-(b * b / p), by rw [Int.mul_neg]; omega⟩ (e / 2)
  obtain ⟨d, hd⟩ := h
  rw [sq_pow, show 2 * (e / 2) = e by omega] at hc
  exact ⟨r * c + d, by rw [Int.mul_add, ← hd, Int.mul_left_comm, ← hc]; grind⟩
theorem pw_odd {p r b X : Int} {e : Nat} (h : p ∣ r * b ^ e - X) (he : e % 2 = 1) : p ∣ r * b % p * (b * b % p) ^ (e / 2) - X := by
  refine pw_even (e := e - 1) ?_ (by omega) |> fun z => by rw [show (e - 1) / 2 = e / 2 by omega] at z; exact z
  have e1 := Int.mul_ediv_add_emod (r * b) p
  obtain ⟨d, hd⟩ := h
  rw [show e = (e - 1) + 1 by omega, Int.pow_succ] at hd
  generalize r * b / p = q at *
  generalize r * b % p = s at *
  have es : s = r * b - p * q := by omega
  refine ⟨d - q * b ^ (e - 1), ?_⟩
  rw [Int.mul_sub, ← hd, es]
  clear hd e1 es he
  grind
theorem pw_fin {p r X : Int} (h : p ∣ r * X ^ 0 - Y) (h0 : 0 ≤ r) (h1 : r < p) : r = Y % p := by
  obtain ⟨c, hc⟩ := h
  rw [Int.pow_zero, Int.mul_one] at hc
  rw [show Y = r + p * -c by rw [Int.mul_neg]; omega, Int.add_mul_emod_self_left, Int.emod_eq_of_lt h0 h1]
/-! part m_qr -/
namespace QR
def Pr : Nat → (Nat → Int) → Int
  | 0, _ => 1
  | n + 1, f => Pr n f * f n
theorem P_mul : ∀ (n : Nat) (f g : Nat → Int), Pr n (fun i => f i * g i) = Pr n f * Pr n g
  | 0, _, _ => rfl
  | n + 1, f, g => by
    simp only [Pr, P_mul n]
    grind
theorem P_congr : ∀ (n : Nat) {f g : Nat → Int}, (∀ i, i < n → f i = g i) → Pr n f = Pr n g
  | 0, _, _, _ => rfl
  | n + 1, f, g, h => by
    simp only [Pr]
    rw [P_congr n fun i hi => h i (by omega), h n (by omega)]
theorem P_one : ∀ n : Nat, Pr n (fun _ => 1) = 1
  | 0 => rfl
  | n + 1 => by
    simp only [Pr, P_one n]
    rfl
theorem P_neg : ∀ n : Nat, Pr n (fun _ => -1) = if n % 2 = 0 then 1 else -1
  | 0 => rfl
  | n + 1 => by
    simp only [Pr, P_neg n]
    split <;> split <;> omega
theorem P_swap (k : Nat) (f : Nat → Nat → Int) : ∀ h : Nat, Pr h (fun x => Pr k (fun y => f x y)) = Pr k (fun y => Pr h (fun x => f x y))
  | 0 => by simp only [Pr, P_one]
  | h + 1 => by
    simp only [Pr]
    rw [P_swap k f h, ← P_mul]
theorem P_zero : ∀ (n : Nat) (f : Nat → Int) (i : Nat), i < n → f i = 0 → Pr n f = 0
  | 0, _, _, h, _ => by omega
  | n + 1, f, i, h, e => by
    simp only [Pr]
    by_cases hi : i = n
    · rw [← hi, e, Int.mul_zero]
    · rw [P_zero n f i (by omega) e, Int.zero_mul]
theorem P_pm : ∀ (n : Nat) (f : Nat → Int), (∀ i, i < n → f i = 1 ∨ f i = -1) → Pr n f = 1 ∨ Pr n f = -1
  | 0, _, _ => .inl rfl
  | n + 1, f, h => by
    simp only [Pr]
    rcases P_pm n f (fun i hi => h i (by omega)) with a | a <;> rcases h n (by omega) with b | b <;> rw [a, b] <;> decide
def pl : List Int → Int
  | [] => 1
  | x :: l => x * pl l
theorem pl_append : ∀ l k : List Int, pl (l ++ k) = pl l * pl k
  | [], k => by simp [pl]
  | x :: l, k => by
    simp only [List.cons_append, pl, pl_append l k, Int.mul_assoc]
theorem pl_perm {l k : List Int} (h : l.Perm k) : pl l = pl k := by
  induction h with
  | nil => rfl
  | cons x _ ih => simp only [pl, ih]
  | swap x y l => simp only [pl]; grind
  | trans _ _ a b => exact a.trans b
theorem P_pl : ∀ (n : Nat) (f : Nat → Int), Pr n f = pl ((List.range n).map f)
  | 0, _ => rfl
  | n + 1, f => by
    rw [List.range_succ, List.map_append, pl_append, ← P_pl n f]
    simp [Pr, pl]
theorem perm_of : ∀ (l k : List Nat), l.Nodup → (∀ x, x ∈ l → x ∈ k) → k.length ≤ l.length → l.Perm k
  | [], k, _, _, h => by
    have : k = [] := List.eq_nil_of_length_eq_zero (by simpa using h)
    rw [this]
  | x :: l, k, hn, hs, hl => by
    have hx : x ∈ k := hs x (List.mem_cons_self ..)
    have hp := List.perm_cons_erase hx
    have hn' := List.nodup_cons.mp hn
    have hlen : (k.erase x).length + 1 = k.length := by
      rw [List.length_erase_of_mem hx]
      have := List.length_pos_of_mem hx
      omega
    refine List.Perm.trans (List.Perm.cons x (perm_of l (k.erase x) hn'.2 (fun y hy => ?_) ?_)) hp.symm
    · refine (List.mem_erase_of_ne ?_).mpr (hs y (List.mem_cons_of_mem _ hy))
      rintro rfl
      exact hn'.1 hy
    · simp only [List.length_cons] at hl
      omega
theorem nodup_map {f : Nat → Nat} : ∀ l : List Nat, l.Nodup → (∀ x, x ∈ l → ∀ y, y ∈ l → f x = f y → x = y) → (l.map f).Nodup
  | [], _, _ => List.nodup_nil
  | x :: l, hn, hi => by
    have hn' := List.nodup_cons.mp hn
    rw [List.map_cons, List.nodup_cons]
    refine ⟨fun hm => ?_, nodup_map l hn'.2 fun a ha b hb => hi a (List.mem_cons_of_mem _ ha) b (List.mem_cons_of_mem _ hb)⟩
    obtain ⟨y, hy, e⟩ := List.mem_map.mp hm
    have := hi y (List.mem_cons_of_mem _ hy) x (List.mem_cons_self ..) e
    rw [this] at hy
    exact hn'.1 hy
theorem perm_range {n : Nat} {π : Nat → Nat} (h1 : ∀ i, i < n → π i < n) (h2 : ∀ i, i < n → ∀ j, j < n → π i = π j → i = j) : ((List.range n).map π).Perm (List.range n) := by
  refine perm_of _ _ (nodup_map _ List.nodup_range fun x hx y hy => h2 x (List.mem_range.mp hx) y (List.mem_range.mp hy)) (fun x hx => ?_) (by simp)
  obtain ⟨i, hi, rfl⟩ := List.mem_map.mp hx
  exact List.mem_range.mpr (h1 i (List.mem_range.mp hi))
theorem P_perm {n : Nat} {π : Nat → Nat} (f : Nat → Int) (h1 : ∀ i, i < n → π i < n) (h2 : ∀ i, i < n → ∀ j, j < n → π i = π j → i = j) : Pr n (fun i => f (π i)) = Pr n f := by
  rw [P_pl, P_pl]
  have := pl_perm ((perm_range h1 h2).map f)
  rw [List.map_map] at this
  exact this
theorem P_flip (n : Nat) (f : Nat → Int) : Pr n (fun i => f (n - 1 - i)) = Pr n f :=
  P_perm (π := fun i => n - 1 - i) f (fun i hi => by show n - 1 - i < n; omega) (fun i hi j hj h => by
    have h : n - 1 - i = n - 1 - j := h
    omega)
/-- one mark in a row -/
theorem P_mark (c : Nat) (p : Prop) [Decidable p] : ∀ k : Nat, Pr k (fun y => if y = c ∧ p then -1 else 1) = if c < k ∧ p then -1 else 1
  | 0 => by simp [Pr]
  | k + 1 => by
    simp only [Pr]
    rw [P_mark c p k]
    by_cases hp : p
    · simp only [hp, and_true]
      by_cases h1 : c < k
      · rw [if_pos h1, if_neg (by omega), if_pos (by omega)]
        rfl
      · by_cases h2 : k = c
        · rw [if_neg h1, if_pos h2, if_pos (by omega)]
          rfl
        · rw [if_neg h1, if_neg h2, if_neg (by omega)]
          rfl
    · simp [hp]
/-- the sign of the absolutely least rest, to the modulus 2 h + 1 -/
def sg (h : Nat) (a : Int) : Int :=
  if a % (2 * h + 1) = 0 then 0 else if a % (2 * h + 1) ≤ h then 1 else -1
theorem rem_lo (h : Nat) (a : Int) : 0 ≤ a % (2 * h + 1) := Int.emod_nonneg a (by omega)
theorem rem_hi (h : Nat) (a : Int) : a % (2 * h + 1) ≤ 2 * h := by
  have := Int.emod_lt_of_pos a (show (0 : Int) < 2 * h + 1 by omega)
  omega
theorem dvd_rem (h : Nat) (a : Int) : (2 * (h : Int) + 1) ∣ a - a % (2 * h + 1) := ⟨a / (2 * h + 1), by
  have := Int.mul_ediv_add_emod a (2 * (h : Int) + 1)
  omega⟩
theorem sgv {h : Nat} {a r : Int} (hd : (2 * (h : Int) + 1) ∣ a - r) (h0 : 0 ≤ r) (h1 : r ≤ 2 * h) : sg h a = if r = 0 then 0 else if r ≤ h then 1 else -1 := by
  have e : a % (2 * h + 1) = r := by
    have := Int.emod_eq_emod_iff_emod_sub_eq_zero.mpr (Int.emod_eq_zero_of_dvd hd)
    rw [this, Int.emod_eq_of_lt h0 (by omega)]
  unfold sg
  rw [e]
theorem sg_congr {h : Nat} {a b : Int} (hd : (2 * (h : Int) + 1) ∣ a - b) : sg h a = sg h b := by
  unfold sg
  rw [Int.emod_eq_emod_iff_emod_sub_eq_zero.mpr (Int.emod_eq_zero_of_dvd hd)]
theorem sg_neg (h : Nat) (a : Int) : sg h (-a) = -sg h a := by
  have h0 := rem_lo h a
  have h1 := rem_hi h a
  obtain ⟨k, hk⟩ := dvd_rem h a
  rw [sgv (a := a) (dvd_rem h a) h0 h1]
  by_cases hz : a % (2 * h + 1) = 0
  · rw [sgv (r := 0) ⟨-k, by grind⟩ (by omega) (by omega), if_pos rfl, if_pos hz]
    rfl
  · rw [sgv (r := 2 * h + 1 - a % (2 * h + 1)) ⟨-k - 1, by grind⟩ (by omega) (by omega), if_neg (by omega), if_neg hz]
    split <;> split <;> omega
theorem sg_smul {h : Nat} {s : Int} (hs : s = 1 ∨ s = -1) (a : Int) : sg h (s * a) = s * sg h a := by
  rcases hs with rfl | rfl
  · rw [Int.one_mul, Int.one_mul]
  · rw [Int.neg_mul, Int.one_mul, sg_neg, Int.neg_mul, Int.one_mul]
theorem sg_pm {h : Nat} {a : Int} (ha : a % (2 * h + 1) ≠ 0) : sg h a = 1 ∨ sg h a = -1 := by
  unfold sg
  rw [if_neg ha]
  split
  · exact .inl rfl
  · exact .inr rfl
/-- the absolutely least rest, less one -/
def al (h : Nat) (a : Int) : Nat := if a % (2 * h + 1) ≤ h then (a % (2 * h + 1) - 1).toNat else (2 * h - a % (2 * h + 1)).toNat
theorem al_lt {h : Nat} {a : Int} (ha : a % (2 * h + 1) ≠ 0) : al h a < h := by
  have h0 := rem_lo h a
  have h1 := rem_hi h a
  unfold al
  split <;> omega
theorem al_dvd {h : Nat} {a : Int} (ha : a % (2 * h + 1) ≠ 0) : (2 * (h : Int) + 1) ∣ a - sg h a * (al h a + 1) := by
  have h0 := rem_lo h a
  have h1 := rem_hi h a
  obtain ⟨k, hk⟩ := dvd_rem h a
  unfold sg al
  rw [if_neg ha]
  by_cases hr : a % (2 * h + 1) ≤ h
  · rw [if_pos hr, if_pos hr, show (((a % (2 * h + 1) - 1).toNat : Int)) = a % (2 * h + 1) - 1 by omega]
    exact ⟨k, by omega⟩
  · rw [if_neg hr, if_neg hr, show (((2 * h - a % (2 * h + 1)).toNat : Int)) = 2 * h - a % (2 * h + 1) by omega]
    exact ⟨k + 1, by grind⟩
theorem small_dvd {m x : Int} (hd : m ∣ x) (h1 : -m < x) (h2 : x < m) : x = 0 := by
  rcases Int.lt_trichotomy x 0 with h | h | h
  · have := Int.le_of_dvd (show 0 < -x by omega) (Int.dvd_neg.mpr hd)
    omega
  · exact h
  · have := Int.le_of_dvd h hd
    omega
theorem cop_dvd {b m : Int} (hc : Int.gcd b m = 1) {x : Int} (hd : m ∣ b * x) : m ∣ x := by
  have h1 : m.natAbs ∣ b.natAbs * x.natAbs := by
    rw [← Int.natAbs_mul]
    exact Int.natAbs_dvd_natAbs.mpr hd
  have h2 : m.natAbs.Coprime b.natAbs := by
    unfold Nat.Coprime
    rw [Nat.gcd_comm]
    exact hc
  exact Int.natAbs_dvd_natAbs.mp (h2.dvd_of_dvd_mul_left h1)
def G (a : Int) (h : Nat) : Int := Pr h (fun i => sg h (a * ((i : Int) + 1)))
theorem cop_ne {b : Int} {h : Nat} (hc : Int.gcd b (2 * h + 1) = 1) {i : Nat} (hi : i < h) : (b * ((i : Int) + 1)) % (2 * h + 1) ≠ 0 := by
  intro z
  have := small_dvd (cop_dvd hc (Int.dvd_of_emod_eq_zero z)) (by omega) (by omega)
  omega
theorem G_congr {h : Nat} {a b : Int} (hd : (2 * (h : Int) + 1) ∣ a - b) : G a h = G b h := by
  refine P_congr h fun i hi => sg_congr ?_
  rw [← Int.sub_mul]
  exact Int.dvd_mul_of_dvd_left hd
theorem G_pm {h : Nat} {a : Int} (hc : Int.gcd a (2 * h + 1) = 1) : G a h = 1 ∨ G a h = -1 :=
  P_pm h _ fun i hi => sg_pm (cop_ne hc hi)
theorem G_zero {h : Nat} {a : Int} (hc : Int.gcd a (2 * h + 1) ≠ 1) : G a h = 0 := by
  obtain ⟨k, hk⟩ := Int.gcd_dvd_right a (2 * (h : Int) + 1)
  obtain ⟨l, hl⟩ := Int.gcd_dvd_left a (2 * (h : Int) + 1)
  generalize hg : Int.gcd a (2 * h + 1) = g at *
  have g0 : g ≠ 0 := by
    rintro rfl
    simp at hk
    omega
  have g2 : g ≠ 2 := by
    rintro rfl
    simp at hk
    omega
  have k0 : 0 < k := by
    rcases Int.lt_trichotomy k 0 with z | z | z
    · have := Int.mul_neg_of_pos_of_neg (show (0 : Int) < g by omega) z
      omega
    · rw [z] at hk
      omega
    · exact z
  have k1 : 3 * k ≤ g * k := Int.mul_le_mul_of_nonneg_right (by omega) (by omega)
  refine P_zero h _ (k - 1).toNat (by omega) ?_
  have e : (((k - 1).toNat : Int)) + 1 = k := by omega
  rw [e]
  unfold sg
  rw [if_pos]
  refine Int.emod_eq_zero_of_dvd ⟨l, ?_⟩
  rw [hk]
  conv => lhs; rw [hl]
  grind
theorem G_mul (a b : Int) (h : Nat) : G (a * b) h = G a h * G b h := by
  by_cases hc : Int.gcd b (2 * h + 1) = 1
  · have hp : Pr h (fun i => sg h (a * ((al h (b * ((i : Int) + 1)) : Int) + 1))) = Pr h (fun i => sg h (a * ((i : Int) + 1))) := by
      refine P_perm (π := fun i => al h (b * ((i : Int) + 1))) (fun i => sg h (a * ((i : Int) + 1))) (fun i hi => al_lt (cop_ne hc hi)) (fun i hi j hj e => ?_)
      have e : al h (b * ((i : Int) + 1)) = al h (b * ((j : Int) + 1)) := e
      obtain ⟨u, hu⟩ := al_dvd (cop_ne hc hi)
      obtain ⟨v, hv⟩ := al_dvd (cop_ne hc hj)
      rw [e] at hu
      rcases sg_pm (cop_ne hc hi) with s | s <;> rcases sg_pm (cop_ne hc hj) with t | t <;> rw [s] at hu <;> rw [t] at hv
      · have := small_dvd (cop_dvd (x := (i : Int) - j) hc ⟨u - v, by grind⟩) (by omega) (by omega)
        omega
      · have := small_dvd (cop_dvd (x := (i : Int) + j + 2) hc ⟨u + v, by grind⟩) (by omega) (by omega)
        omega
      · have := small_dvd (cop_dvd (x := (i : Int) + j + 2) hc ⟨u + v, by grind⟩) (by omega) (by omega)
        omega
      · have := small_dvd (cop_dvd (x := (i : Int) - j) hc ⟨u - v, by grind⟩) (by omega) (by omega)
        omega
    have e : G (a * b) h = Pr h (fun i => sg h (a * ((al h (b * ((i : Int) + 1)) : Int) + 1)) * sg h (b * ((i : Int) + 1))) := by
      refine P_congr h fun i hi => ?_
      rw [Int.mul_comm _ (sg h (b * ((i : Int) + 1))), ← sg_smul (sg_pm (cop_ne hc hi))]
      refine sg_congr ?_
      obtain ⟨u, hu⟩ := al_dvd (cop_ne hc hi)
      exact ⟨a * u, by grind⟩
    rw [e, P_mul, hp]
    rfl
  · rw [G_zero hc, Int.mul_zero, G_zero]
    intro z
    apply hc
    have h1 : Int.gcd b (2 * h + 1) ∣ Int.gcd (a * b) (2 * h + 1) := Int.dvd_gcd (Int.dvd_mul_of_dvd_right (Int.gcd_dvd_left ..)) (Int.gcd_dvd_right ..)
    rw [z] at h1
    exact Nat.dvd_one.mp h1

def tq (h k x y : Nat) : Int := (2 * k + 1) * ((x : Int) + 1) - (2 * h + 1) * ((y : Int) + 1)
def eqq (h k x y : Nat) : Int := if tq h k x y < 0 ∧ -(h : Int) ≤ tq h k x y then -1 else 1
theorem tq_comm (h k x y : Nat) : tq k h y x = -tq h k x y := by
  unfold tq
  omega
theorem q_in {h k x : Nat} (hx : x < h) (hr : (h : Int) < ((2 * k + 1) * ((x : Int) + 1)) % (2 * h + 1)) : ((2 * k + 1) * ((x : Int) + 1)) / (2 * h + 1) < k := by
  have e := Int.mul_ediv_add_emod ((2 * (k : Int) + 1) * ((x : Int) + 1)) (2 * (h : Int) + 1)
  generalize ((2 * (k : Int) + 1) * ((x : Int) + 1)) / (2 * (h : Int) + 1) = q at *
  have h1 : (2 * (k : Int) + 1) * ((x : Int) + 1) ≤ (2 * (k : Int) + 1) * h := Int.mul_le_mul_of_nonneg_left (by omega) (by omega)
  have h2 : (2 * (h : Int) + 1) * (q + 1) < (2 * (h : Int) + 1) * (k + 1) := by grind
  have := Int.lt_of_mul_lt_mul_left h2 (by omega)
  omega
theorem inner {h k x : Nat} (hc : Int.gcd (2 * k + 1) (2 * h + 1) = 1) (hx : x < h) : Pr k (fun y => eqq h k x y) = sg h ((2 * k + 1) * ((x : Int) + 1)) := by
  have hne := cop_ne hc hx
  have h0 := rem_lo h ((2 * k + 1) * ((x : Int) + 1))
  have h1 := rem_hi h ((2 * k + 1) * ((x : Int) + 1))
  have e := Int.mul_ediv_add_emod ((2 * (k : Int) + 1) * ((x : Int) + 1)) (2 * (h : Int) + 1)
  have q0 : 0 ≤ ((2 * (k : Int) + 1) * ((x : Int) + 1)) / (2 * (h : Int) + 1) := Int.ediv_nonneg (Int.mul_nonneg (by omega) (by omega)) (by omega)
  have qi := @q_in h k x hx
  unfold sg
  rw [if_neg hne]
  have hm : ∀ y, y < k → eqq h k x y = if y = (((2 * (k : Int) + 1) * ((x : Int) + 1)) / (2 * (h : Int) + 1)).toNat ∧ ¬ ((2 * (k : Int) + 1) * ((x : Int) + 1)) % (2 * h + 1) ≤ h then -1 else 1 := by
    intro y hy
    unfold eqq tq
    generalize ((2 * (k : Int) + 1) * ((x : Int) + 1)) / (2 * (h : Int) + 1) = q at *
    generalize ((2 * (k : Int) + 1) * ((x : Int) + 1)) % (2 * (h : Int) + 1) = r at *
    rw [← e]
    have hz : (2 * (h : Int) + 1) * q + r - (2 * (h : Int) + 1) * ((y : Int) + 1) = (2 * (h : Int) + 1) * (q - y - 1) + r := by grind
    rw [hz]
    congr 1
    refine propext ⟨fun ⟨a, b⟩ => ?_, fun ⟨a, b⟩ => ?_⟩
    · rcases Int.lt_trichotomy (q - y) 0 with z | z | z
      · have : (2 * (h : Int) + 1) * (q - y - 1) ≤ (2 * (h : Int) + 1) * (-2) := Int.mul_le_mul_of_nonneg_left (by omega) (by omega)
        omega
      · have z : q - y - 1 = -1 := by omega
        rw [z] at a b
        omega
      · have : 0 ≤ (2 * (h : Int) + 1) * (q - y - 1) := Int.mul_nonneg (by omega) (by omega)
        omega
    · have z : q - y - 1 = -1 := by omega
      rw [z]
      omega
  rw [P_congr k hm, P_mark]
  by_cases hr : ((2 * (k : Int) + 1) * ((x : Int) + 1)) % (2 * h + 1) ≤ h
  · rw [if_neg (fun z => z.2 hr), if_pos hr]
  · rw [if_pos ⟨by have := qi (by omega); omega, hr⟩, if_neg hr]
theorem tq_ne {h k x y : Nat} (hc : Int.gcd (2 * k + 1) (2 * h + 1) = 1) (hx : x < h) : tq h k x y ≠ 0 := by
  intro z
  apply cop_ne hc hx
  unfold tq at z
  exact Int.emod_eq_zero_of_dvd ⟨(y : Int) + 1, by omega⟩
theorem PP_pm (h k : Nat) (f : Nat → Nat → Int) (hf : ∀ x y, f x y = 1 ∨ f x y = -1) : Pr h (fun x => Pr k (fun y => f x y)) = 1 ∨ Pr h (fun x => Pr k (fun y => f x y)) = -1 :=
  P_pm h _ fun x _ => P_pm k _ fun y _ => hf x y
theorem PP_flip (h k : Nat) (f : Nat → Nat → Int) : Pr h (fun x => Pr k (fun y => f (h - 1 - x) (k - 1 - y))) = Pr h (fun x => Pr k (fun y => f x y)) := by
  rw [P_congr h fun x _ => P_flip k (fun y => f (h - 1 - x) y)]
  exact P_flip h (fun x => Pr k (fun y => f x y))
def bq (h k x y : Nat) : Int := if tq h k x y < -(h : Int) then -1 else 1
def cq (h k x y : Nat) : Int := if (k : Int) < tq h k x y then -1 else 1
theorem bc (h k : Nat) : Pr h (fun x => Pr k (fun y => bq h k x y)) = Pr h (fun x => Pr k (fun y => cq h k x y)) := by
  rw [← PP_flip h k (fun x y => cq h k x y)]
  refine P_congr h fun x hx => P_congr k fun y hy => ?_
  unfold bq cq
  have e : tq h k (h - 1 - x) (k - 1 - y) = k - h - tq h k x y := by
    unfold tq
    rw [show (((h - 1 - x : Nat) : Int)) = h - 1 - x by omega, show (((k - 1 - y : Nat) : Int)) = k - 1 - y by omega]
    grind
  rw [e]
  split <;> split <;> omega
theorem recip0 {h k : Nat} (hc : Int.gcd (2 * k + 1) (2 * h + 1) = 1) : G (2 * k + 1) h * G (2 * h + 1) k = if h % 2 = 1 ∧ k % 2 = 1 then -1 else 1 := by
  have e1 : G (2 * k + 1) h = Pr h (fun x => Pr k (fun y => eqq h k x y)) := P_congr h fun x hx => (inner hc hx).symm
  have e2 : G (2 * h + 1) k = Pr h (fun x => Pr k (fun y => eqq k h y x)) := by
    rw [P_swap]
    exact P_congr k fun y hy => (inner (by rw [Int.gcd_comm]; exact hc) hy).symm
  have e3 : Pr h (fun x => Pr k (fun y => eqq h k x y * eqq k h y x * (bq h k x y * cq h k x y))) = Pr h (fun _ => Pr k (fun _ => -1)) := by
    refine P_congr h fun x hx => P_congr k fun y hy => ?_
    have := tq_ne (y := y) hc hx
    unfold eqq bq cq
    rw [tq_comm h k x y]
    generalize tq h k x y = t at *
    split <;> split <;> split <;> split <;> omega
  have e4 : Pr h (fun x => Pr k (fun y => eqq h k x y * eqq k h y x * (bq h k x y * cq h k x y))) = Pr h (fun x => Pr k (fun y => eqq h k x y)) * Pr h (fun x => Pr k (fun y => eqq k h y x)) * (Pr h (fun x => Pr k (fun y => bq h k x y)) * Pr h (fun x => Pr k (fun y => cq h k x y))) := by
    simp only [P_mul]
  rw [bc, ← e1, ← e2, e3] at e4
  have hb : Pr h (fun x => Pr k (fun y => cq h k x y)) * Pr h (fun x => Pr k (fun y => cq h k x y)) = 1 := by
    rcases PP_pm h k (fun x y => cq h k x y) (fun x y => by unfold cq; split <;> omega) with z | z <;> rw [z] <;> rfl
  rw [hb, Int.mul_one] at e4
  rw [← e4]
  simp only [P_neg]
  split
  · rw [P_one, if_neg (by omega)]
  · rw [P_neg]
    split <;> split <;> omega
def RR (h k : Nat) : Int := if h % 2 = 1 ∧ k % 2 = 1 then -1 else 1
theorem recip (h k : Nat) : G (2 * k + 1) h = RR h k * G (2 * h + 1) k := by
  by_cases hc : Int.gcd (2 * k + 1) (2 * h + 1) = 1
  · have e := recip0 hc
    have h1 : Int.gcd (2 * h + 1) (2 * k + 1) = 1 := by rw [Int.gcd_comm]; exact hc
    unfold RR
    rw [← e, Int.mul_assoc]
    rcases G_pm h1 with z | z <;> rw [z] <;> simp
  · rw [G_zero hc, G_zero (a := 2 * h + 1) (h := k) (by rw [Int.gcd_comm]; exact hc), Int.mul_zero]
theorem P_cut (c : Nat) : ∀ n : Nat, Pr n (fun i => if i < c then 1 else -1) = if (n - c) % 2 = 0 then 1 else -1
  | 0 => by simp [Pr]
  | n + 1 => by
    simp only [Pr]
    rw [P_cut c n]
    split <;> split <;> split <;> omega
theorem G_neg1 (h : Nat) : G (-1) h = if h % 2 = 0 then 1 else -1 := by
  rw [← P_neg]
  refine P_congr h fun i hi => ?_
  rw [Int.neg_mul, Int.one_mul, sg_neg, sgv (r := (i : Int) + 1) ⟨0, by omega⟩ (by omega) (by omega), if_neg (by omega), if_pos (by omega)]
theorem G_two (h : Nat) : G 2 h = if (2 * h + 1) % 8 = 3 ∨ (2 * h + 1) % 8 = 5 then -1 else 1 := by
  have e : G 2 h = Pr h (fun i => if i < h / 2 then 1 else -1) := by
    refine P_congr h fun i hi => ?_
    rw [sgv (r := 2 * ((i : Int) + 1)) ⟨0, by omega⟩ (by omega) (by omega), if_neg (by omega)]
    split <;> split <;> omega
  rw [e, P_cut]
  split <;> split <;> omega
theorem G_one (h : Nat) : G 1 h = 1 := by
  refine Eq.trans (P_congr h fun i hi => ?_) (P_one h)
  rw [Int.one_mul, sgv (r := (i : Int) + 1) ⟨0, by omega⟩ (by omega) (by omega), if_neg (by omega), if_pos (by omega)]
theorem G_at0 (h : Nat) : G 0 h = if h = 0 then 1 else 0 := by
  by_cases hh : h = 0
  · rw [if_pos hh, hh]
    rfl
  · rw [if_neg hh]
    refine P_zero h _ 0 (by omega) ?_
    rw [Int.zero_mul]
    rfl
/-- an odd positive number of the same rest -/
theorem odd_rep (a : Int) (H : Nat) : ∃ k : Nat, (2 * (H : Int) + 1) ∣ a - (2 * (k : Int) + 1) := by
  have h0 := rem_lo H a
  obtain ⟨u, hu⟩ := dvd_rem H a
  by_cases he : a % (2 * H + 1) % 2 = 1
  · refine ⟨((a % (2 * H + 1) - 1) / 2).toNat, u, ?_⟩
    rw [show 2 * ((((a % (2 * H + 1) - 1) / 2).toNat : Int)) + 1 = a % (2 * H + 1) by omega]
    exact hu
  · refine ⟨((a % (2 * H + 1) + 2 * H) / 2).toNat, u - 1, ?_⟩
    rw [show 2 * ((((a % (2 * H + 1) + 2 * H) / 2).toNat : Int)) + 1 = a % (2 * H + 1) + (2 * H + 1) by omega]
    grind
theorem G_mod_mul (a : Int) {h h' H : Nat} (hH : (2 * (H : Int) + 1) = (2 * h + 1) * (2 * h' + 1)) : G a H = G a h * G a h' := by
  obtain ⟨k, u, hu⟩ := odd_rep a H
  rw [G_congr (h := H) ⟨u, hu⟩, G_congr (h := h) (a := a) (b := 2 * k + 1) ⟨(2 * h' + 1) * u, by rw [hu, hH, Int.mul_assoc]⟩, G_congr (h := h') (a := a) (b := 2 * k + 1) ⟨(2 * h + 1) * u, by rw [hu, hH]; grind⟩,
    recip, recip h k, recip h' k, hH, G_mul]
  have e : (H : Int) = 2 * (h * h') + h + h' := by grind
  have e' : H = 2 * (h * h') + h + h' := by exact_mod_cast e
  have er : RR H k = RR h k * RR h' k := by
    unfold RR
    generalize h * h' = z at *
    split <;> split <;> split <;> omega
  rw [er]
  grind
theorem G_eq_zero {a : Int} {h : Nat} : G a h = 0 ↔ Int.gcd a (2 * h + 1) ≠ 1 := by
  constructor
  · intro z hc
    rcases G_pm hc with e | e <;> rw [e] at z <;> cases z
  · exact G_zero
end QR
section
open QR
theorem jac_G : ∀ (n h : Nat), jac n (2 * h + 1) = G n h := by
  intro n
  induction n using Nat.strongRecOn with
  | ind n ih =>
    intro h
    by_cases h0 : n = 0
    · subst h0
      rw [jac_zero, show ((0 : Nat) : Int) = 0 from rfl, G_at0]
      split <;> split <;> omega
    · by_cases h2 : n % 2 = 0
      · rw [jac_two h0 h2, ih (n / 2) (by omega) h, show (n : Int) = 2 * ((n / 2 : Nat) : Int) by omega, G_mul, G_two]
        rfl
      · obtain ⟨k, rfl⟩ : ∃ k, n = 2 * k + 1 := ⟨n / 2, by omega⟩
        rw [jac_turn (by omega), ih ((2 * h + 1) % (2 * k + 1)) (Nat.mod_lt _ (by omega)) k]
        have e : G (((2 * k + 1 : Nat) : Int)) h = RR h k * G (2 * h + 1) k := by
          rw [← recip]
          rfl
        rw [e]
        have e2 : G (((2 * h + 1) % (2 * k + 1) : Nat) : Int) k = G (2 * h + 1) k := by
          refine G_congr ⟨-((2 * (h : Int) + 1) / (2 * k + 1)), ?_⟩
          have := Int.mul_ediv_add_emod (2 * (h : Int) + 1) (2 * k + 1)
          rw [Int.natCast_emod, show ((2 * h + 1 : Nat) : Int) = 2 * (h : Int) + 1 by omega, show ((2 * k + 1 : Nat) : Int) = 2 * (k : Int) + 1 by omega, Int.mul_neg]
          omega
        rw [e2]
        congr 1
        unfold facR RR
        split <;> split <;> omega
theorem sgn_G (n : Int) (h : Nat) : sgn n (2 * h + 1) = G n h := by
  unfold sgn
  rw [show (2 * (h : Int) + 1).toNat = 2 * h + 1 by omega, jac_G]
  have h0 := rem_lo h n
  rw [Int.toNat_of_nonneg h0]
  obtain ⟨u, hu⟩ := dvd_rem h n
  exact G_congr ⟨-u, by rw [Int.mul_neg, ← hu]; omega⟩
theorem odd_half {m : Int} (h1 : 1 ≤ m) (h2 : m % 2 = 1) : ∃ h : Nat, m = 2 * h + 1 := ⟨(m / 2).toNat, by omega⟩
end
section
open QR
variable {m : Int} (h1 : 1 ≤ m) (h2 : m % 2 = 1)
include h1 h2
theorem sgn_mul (a b : Int) : sgn (a * b) m = sgn a m * sgn b m := by
  obtain ⟨h, rfl⟩ := odd_half h1 h2
  rw [sgn_G, sgn_G, sgn_G, G_mul]
theorem sgn_mod_mul (a : Int) {t : Int} (h3 : 1 ≤ t) (h4 : t % 2 = 1) : sgn a (m * t) = sgn a m * sgn a t := by
  obtain ⟨h, rfl⟩ := odd_half h1 h2
  obtain ⟨k, rfl⟩ := odd_half h3 h4
  have e : (2 * (h : Int) + 1) * (2 * k + 1) = 2 * ((2 * (h * k) + h + k : Nat) : Int) + 1 := by
    push_cast
    grind
  rw [e, sgn_G, sgn_G, sgn_G, G_mod_mul a e.symm]
theorem sgn_congr {a b : Int} (hd : m ∣ a - b) : sgn a m = sgn b m := by
  obtain ⟨h, rfl⟩ := odd_half h1 h2
  rw [sgn_G, sgn_G, G_congr hd]
theorem sgn_neg1 : sgn (-1) m = 2 - m % 4 := by
  obtain ⟨h, rfl⟩ := odd_half h1 h2
  rw [sgn_G, G_neg1]
  split <;> omega
theorem sgn_two : sgn 2 m = if m % 8 = 3 ∨ m % 8 = 5 then -1 else 1 := by
  obtain ⟨h, rfl⟩ := odd_half h1 h2
  rw [sgn_G, G_two]
  split <;> split <;> omega
theorem sgn_turn {t : Int} (h3 : 1 ≤ t) (h4 : t % 2 = 1) : sgn t m = (if m % 4 = 3 ∧ t % 4 = 3 then -1 else 1) * sgn m t := by
  obtain ⟨h, rfl⟩ := odd_half h1 h2
  obtain ⟨k, rfl⟩ := odd_half h3 h4
  rw [sgn_G, sgn_G, recip]
  congr 1
  unfold RR
  split <;> split <;> omega
theorem sgn_zero {a : Int} : sgn a m = 0 ↔ Int.gcd a m ≠ 1 := by
  obtain ⟨h, rfl⟩ := odd_half h1 h2
  rw [sgn_G, G_eq_zero]
theorem sgn_pm {a : Int} (hc : Int.gcd a m = 1) : sgn a m = 1 ∨ sgn a m = -1 := by
  obtain ⟨h, rfl⟩ := odd_half h1 h2
  rw [sgn_G]
  exact G_pm hc
theorem sgn_sq (a : Int) : sgn a m * sgn a m = if Int.gcd a m = 1 then 1 else 0 := by
  by_cases hc : Int.gcd a m = 1
  · rw [if_pos hc]
    rcases sgn_pm h1 h2 hc with e | e <;> rw [e] <;> rfl
  · rw [if_neg hc, (sgn_zero h1 h2).mpr hc]
    rfl
end
/-! part m_euler -/
namespace QR
theorem al_inj {b : Int} {h : Nat} (hc : Int.gcd b (2 * h + 1) = 1) : ∀ i, i < h → ∀ j, j < h → al h (b * ((i : Int) + 1)) = al h (b * ((j : Int) + 1)) → i = j := by
  intro i hi j hj e
  obtain ⟨u, hu⟩ := al_dvd (cop_ne hc hi)
  obtain ⟨v, hv⟩ := al_dvd (cop_ne hc hj)
  rw [e] at hu
  rcases sg_pm (cop_ne hc hi) with s | s <;> rcases sg_pm (cop_ne hc hj) with t | t <;> rw [s] at hu <;> rw [t] at hv
  · have := small_dvd (cop_dvd (x := (i : Int) - j) hc ⟨u - v, by grind⟩) (by omega) (by omega)
    omega
  · have := small_dvd (cop_dvd (x := (i : Int) + j + 2) hc ⟨u + v, by grind⟩) (by omega) (by omega)
    omega
  · have := small_dvd (cop_dvd (x := (i : Int) + j + 2) hc ⟨u + v, by grind⟩) (by omega) (by omega)
    omega
  · have := small_dvd (cop_dvd (x := (i : Int) - j) hc ⟨u - v, by grind⟩) (by omega) (by omega)
    omega
theorem Pm.cop {p : Int} (hp : Pm p) {x : Int} (hx : ¬ p ∣ x) : Int.gcd x p = 1 := by
  have hd := Int.gcd_dvd_right x p
  have hl := Int.gcd_dvd_left x p
  have h2 := hp.1
  have hle := Int.le_of_dvd (by omega) hd
  generalize hg : Int.gcd x p = g at *
  by_cases h1 : (g : Int) = p
  · rw [h1] at hl
    exact absurd hl hx
  · by_cases h0 : g = 0
    · rw [h0] at hd
      have := Int.zero_dvd.mp hd
      omega
    · have := hp.2 g
      by_cases hz : g = 1
      · exact hz
      · exact absurd hd (this (by omega) (by omega))
theorem Pm.dvd_mul {p : Int} (hp : Pm p) {x y : Int} (h : p ∣ x * y) : p ∣ x ∨ p ∣ y := by
  by_cases hx : p ∣ x
  · exact .inl hx
  · exact .inr (cop_dvd (hp.cop hx) h)
theorem Pr_dvd {m : Int} : ∀ (n : Nat) (f g : Nat → Int), (∀ i, i < n → m ∣ f i - g i) → m ∣ Pr n f - Pr n g
  | 0, _, _, _ => ⟨0, by simp [Pr]⟩
  | n + 1, f, g, h => by
    obtain ⟨u, hu⟩ := Pr_dvd n f g fun i hi => h i (by omega)
    obtain ⟨v, hv⟩ := h n (by omega)
    exact ⟨u * f n + Pr n g * v, by simp only [Pr]; grind⟩
theorem Pr_cancel {m : Int} : ∀ (n : Nat) (f : Nat → Int) (x : Int), (∀ i, i < n → Int.gcd (f i) m = 1) → m ∣ Pr n f * x → m ∣ x
  | 0, _, x, _, h => by simpa [Pr] using h
  | n + 1, f, x, hc, h => by
    simp only [Pr] at h
    rw [Int.mul_assoc] at h
    exact cop_dvd (hc n (by omega)) (Pr_cancel n f _ (fun i hi => hc i (by omega)) h)
theorem Pr_const (a : Int) (f : Nat → Int) : ∀ n : Nat, Pr n (fun i => a * f i) = a ^ n * Pr n f
  | 0 => by simp [Pr]
  | n + 1 => by
    simp only [Pr]
    rw [Pr_const a f n, Int.pow_succ]
    grind
theorem Pr_first (f : Nat → Int) : ∀ n : Nat, Pr (n + 1) f = f 0 * Pr n (fun i => f (i + 1))
  | 0 => by simp [Pr]
  | n + 1 => by
    have := Pr_first f n
    simp only [Pr] at *
    rw [this]
    grind
theorem gauss {h : Nat} (hp : Pm (2 * h + 1)) {a : Int} (ha : ¬ (2 * (h : Int) + 1) ∣ a) : (2 * (h : Int) + 1) ∣ a ^ h - G a h := by
  have hc := hp.cop ha
  have h1 : (2 * (h : Int) + 1) ∣ Pr h (fun i => a * ((i : Int) + 1)) - Pr h (fun i => sg h (a * ((i : Int) + 1)) * ((al h (a * ((i : Int) + 1)) : Int) + 1)) :=
    Pr_dvd h _ _ fun i hi => al_dvd (cop_ne hc hi)
  have h2 : Pr h (fun i => (al h (a * ((i : Int) + 1)) : Int) + 1) = Pr h (fun i => (i : Int) + 1) :=
    P_perm (π := fun i => al h (a * ((i : Int) + 1))) (fun i => (i : Int) + 1) (fun i hi => al_lt (cop_ne hc hi)) (al_inj hc)
  rw [Pr_const, P_mul, h2] at h1
  refine Pr_cancel h (fun i => (i : Int) + 1) _ (fun i hi => hp.cop fun z => ?_) ?_
  · have := Int.le_of_dvd (by omega) z
    omega
  · obtain ⟨u, hu⟩ := h1
    exact ⟨u, by unfold G; grind⟩
theorem solve {h : Nat} {x : Int} (hc : Int.gcd x (2 * h + 1) = 1) {a : Int} (ha : ¬ (2 * (h : Int) + 1) ∣ a) : ∃ j, j < 2 * h ∧ (2 * (h : Int) + 1) ∣ x * ((j : Int) + 1) - a := by
  have hne : ∀ j : Nat, j < 2 * h → (x * ((j : Int) + 1)) % (2 * h + 1) ≠ 0 := by
    intro j hj z
    have := Int.le_of_dvd (by omega) (cop_dvd hc (Int.dvd_of_emod_eq_zero z))
    omega
  have hp := perm_range (n := 2 * h) (π := fun j => ((x * ((j : Int) + 1)) % (2 * h + 1) - 1).toNat) (fun j hj => by
    have h0 := rem_lo h (x * ((j : Int) + 1))
    have h1 := rem_hi h (x * ((j : Int) + 1))
    have := hne j hj
    show ((x * ((j : Int) + 1)) % (2 * h + 1) - 1).toNat < 2 * h
    omega) (fun i hi j hj e => by
    have e : ((x * ((i : Int) + 1)) % (2 * h + 1) - 1).toNat = ((x * ((j : Int) + 1)) % (2 * h + 1) - 1).toNat := e
    have h0 := rem_lo h (x * ((j : Int) + 1))
    have h1 := rem_lo h (x * ((i : Int) + 1))
    have n0 := hne i hi
    have n1 := hne j hj
    obtain ⟨u, hu⟩ := dvd_rem h (x * ((i : Int) + 1))
    obtain ⟨v, hv⟩ := dvd_rem h (x * ((j : Int) + 1))
    have e2 : (x * ((i : Int) + 1)) % (2 * h + 1) = (x * ((j : Int) + 1)) % (2 * h + 1) := by omega
    have := small_dvd (cop_dvd (x := (i : Int) - j) hc ⟨u - v, by grind⟩) (by omega) (by omega)
    omega)
  have h0 := rem_lo h a
  have h1 := rem_hi h a
  have h2 : a % (2 * h + 1) ≠ 0 := fun z => ha (Int.dvd_of_emod_eq_zero z)
  have hm : (a % (2 * h + 1) - 1).toNat ∈ List.range (2 * h) := List.mem_range.mpr (by omega)
  obtain ⟨j, hj, e⟩ := List.mem_map.mp (hp.mem_iff.mpr hm)
  have hj := List.mem_range.mp hj
  have k0 := rem_lo h (x * ((j : Int) + 1))
  have k1 := hne j hj
  have e2 : (x * ((j : Int) + 1)) % (2 * h + 1) = a % (2 * h + 1) := by omega
  obtain ⟨u, hu⟩ := dvd_rem h (x * ((j : Int) + 1))
  obtain ⟨v, hv⟩ := dvd_rem h a
  exact ⟨j, hj, u - v, by grind⟩
theorem pairs {m a : Int} : ∀ (n : Nat) (L : List Int), L.length ≤ n → L.Nodup → (∀ x, x ∈ L → ∃ y, y ∈ L ∧ y ≠ x ∧ m ∣ x * y - a) → (∀ x, x ∈ L → ∀ y, y ∈ L → ∀ z, z ∈ L → m ∣ x * y - a → m ∣ x * z - a → y = z) → m ∣ pl L - a ^ (L.length / 2) := by
  intro n
  induction n with
  | zero =>
    intro L hl _ _ _
    have : L = [] := List.eq_nil_of_length_eq_zero (by omega)
    subst this
    exact ⟨0, by simp [pl]⟩
  | succ n ih =>
    intro L hl hn hx hu
    match L, hl, hn, hx, hu with
    | [], _, _, _, _ => exact ⟨0, by simp [pl]⟩
    | x :: T, hl, hn, hx, hu =>
      have hn' := List.nodup_cons.mp hn
      obtain ⟨y, hy, yx, hd⟩ := hx x (List.mem_cons_self ..)
      have hyT : y ∈ T := by
        rcases List.mem_cons.mp hy with z | z
        · exact absurd z yx
        · exact z
      have hp := List.perm_cons_erase hyT
      have hlen : (T.erase y).length + 1 = T.length := by
        rw [List.length_erase_of_mem hyT]
        have := List.length_pos_of_mem hyT
        omega
      have hnd : (y :: T.erase y).Nodup := hp.nodup hn'.2
      have hnd' := List.nodup_cons.mp hnd
      have sub : ∀ z, z ∈ T.erase y → z ∈ T := fun z hz => hp.mem_iff.mpr (List.mem_cons_of_mem _ hz)
      have hI := ih (T.erase y) (by simp only [List.length_cons] at hl; omega) hnd'.2 (fun z hz => by
        have hzT := sub z hz
        have hzL := List.mem_cons_of_mem x hzT
        obtain ⟨w, hw, wz, hd2⟩ := hx z hzL
        have wx : w ≠ x := by
          rintro rfl
          have : z = y := hu w (List.mem_cons_self ..) z hzL y hy (by rw [Int.mul_comm]; exact hd2) hd
          rw [this] at hz
          exact hnd'.1 hz
        have wy : w ≠ y := by
          rintro rfl
          have : z = x := hu w hy z hzL x (List.mem_cons_self ..) (by rw [Int.mul_comm]; exact hd2) (by rw [Int.mul_comm]; exact hd)
          rw [this] at hzT
          exact hn'.1 hzT
        refine ⟨w, ?_, wz, hd2⟩
        rcases List.mem_cons.mp hw with q | q
        · exact absurd q wx
        · rcases List.mem_cons.mp (hp.mem_iff.mp q) with q | q
          · exact absurd q wy
          · exact q) (fun z hz w hw v hv => hu z (List.mem_cons_of_mem _ (sub z hz)) w (List.mem_cons_of_mem _ (sub w hw)) v (List.mem_cons_of_mem _ (sub v hv)))
      obtain ⟨s, hs⟩ := hI
      obtain ⟨t, ht⟩ := hd
      have e : pl (x :: T) = x * (y * pl (T.erase y)) := by
        rw [pl, pl_perm hp]
        rfl
      have e2 : (x :: T).length / 2 = (T.erase y).length / 2 + 1 := by
        simp only [List.length_cons]
        omega
      rw [e, e2, Int.pow_succ]
      exact ⟨t * pl (T.erase y) + a * s, by grind⟩
theorem nodup_mapI {f : Nat → Int} : ∀ l : List Nat, l.Nodup → (∀ x y, f x = f y → x = y) → (l.map f).Nodup
  | [], _, _ => List.nodup_nil
  | x :: l, hn, hi => by
    have hn' := List.nodup_cons.mp hn
    rw [List.map_cons, List.nodup_cons]
    refine ⟨fun hm => ?_, nodup_mapI l hn'.2 hi⟩
    obtain ⟨y, hy, e⟩ := List.mem_map.mp hm
    rw [hi y x e] at hy
    exact hn'.1 hy
theorem mem_row {n : Nat} {c x : Int} : x ∈ (List.range n).map (fun i : Nat => (i : Int) + c) ↔ c ≤ x ∧ x < n + c := by
  constructor
  · intro hx
    obtain ⟨i, hi, rfl⟩ := List.mem_map.mp hx
    have := List.mem_range.mp hi
    omega
  · intro ⟨a, b⟩
    exact List.mem_map.mpr ⟨(x - c).toNat, List.mem_range.mpr (by omega), by omega⟩
section
variable {h : Nat} (hp : Pm (2 * h + 1))
include hp
theorem uniq {a x y z : Int} (hx : ¬ (2 * (h : Int) + 1) ∣ x) (h1 : (2 * (h : Int) + 1) ∣ x * y - a) (h2 : (2 * (h : Int) + 1) ∣ x * z - a) (hy : 0 < y ∧ y ≤ 2 * h) (hz : 0 < z ∧ z ≤ 2 * h) : y = z := by
  obtain ⟨u, hu⟩ := h1
  obtain ⟨v, hv⟩ := h2
  have := small_dvd (cop_dvd (x := y - z) (hp.cop hx) ⟨u - v, by grind⟩) (by omega) (by omega)
  omega
theorem not_dvd {x : Int} (h1 : 0 < x) (h2 : x ≤ 2 * h) : ¬ (2 * (h : Int) + 1) ∣ x := fun z => by
  have := Int.le_of_dvd h1 z
  omega
theorem all_prod {a : Int} (ha : ¬ (2 * (h : Int) + 1) ∣ a) (hn : ∀ x : Int, ¬ (2 * (h : Int) + 1) ∣ x * x - a) : (2 * (h : Int) + 1) ∣ Pr (2 * h) (fun i => (i : Int) + 1) - a ^ h := by
  have := pairs (m := 2 * h + 1) (a := a) _ ((List.range (2 * h)).map fun i : Nat => (i : Int) + 1) (Nat.le_refl _) (nodup_mapI _ List.nodup_range fun x y e => by omega) (fun x hx => by
    have hx := mem_row.mp hx
    have nx := not_dvd hp (x := x) (by omega) (by omega)
    obtain ⟨j, hj, hd⟩ := solve (hp.cop nx) ha
    refine ⟨(j : Int) + 1, mem_row.mpr (by omega), ?_, hd⟩
    intro e
    rw [e] at hd
    exact hn x hd) (fun x hx y hy z hz h1 h2 => by
    have hx := mem_row.mp hx
    have hy := mem_row.mp hy
    have hz := mem_row.mp hz
    exact uniq hp (not_dvd hp (by omega) (by omega)) h1 h2 (by omega) (by omega))
  rw [← P_pl] at this
  simpa using this
theorem wilson : (2 * (h : Int) + 1) ∣ Pr (2 * h) (fun i => (i : Int) + 1) + 1 := by
  have h3 := hp.1
  obtain ⟨g, rfl⟩ : ∃ g, h = g + 1 := ⟨h - 1, by omega⟩
  have n1 : ¬ (2 * ((g + 1 : Nat) : Int) + 1) ∣ 1 := not_dvd hp (by omega) (by omega)
  have := pairs (m := 2 * ((g + 1 : Nat) : Int) + 1) (a := 1) _ ((List.range (2 * g)).map fun i : Nat => (i : Int) + 2) (Nat.le_refl _) (nodup_mapI _ List.nodup_range fun x y e => by omega) (fun x hx => by
    have hx := mem_row.mp hx
    have nx := not_dvd hp (x := x) (by omega) (by omega)
    obtain ⟨j, hj, hd⟩ := solve (hp.cop nx) n1
    refine ⟨(j : Int) + 1, mem_row.mpr ?_, ?_, hd⟩
    · by_cases j0 : j = 0
      · subst j0
        have := small_dvd (x := x - 1) (by simpa using hd) (by omega) (by omega)
        omega
      · by_cases j1 : j = 2 * g + 1
        · subst j1
          obtain ⟨u, hu⟩ := hd
          have := small_dvd (m := 2 * ((g + 1 : Nat) : Int) + 1) (x := -x - 1 + (2 * ((g + 1 : Nat) : Int) + 1)) ⟨u - x + 1, by grind⟩ (by omega) (by omega)
          omega
        · omega
    · intro e
      rw [e] at hd
      have hd2 : (2 * ((g + 1 : Nat) : Int) + 1) ∣ (x - 1) * (x + 1) := by
        rw [show (x - 1) * (x + 1) = x * x - 1 by grind]
        exact hd
      rcases hp.dvd_mul hd2 with q | q
      · exact not_dvd hp (by omega) (by omega) q
      · exact not_dvd hp (by omega) (by omega) q) (fun x hx y hy z hz h1 h2 => by
    have hx := mem_row.mp hx
    have hy := mem_row.mp hy
    have hz := mem_row.mp hz
    exact uniq hp (not_dvd hp (by omega) (by omega)) h1 h2 (by omega) (by omega))
  rw [← P_pl, Int.one_pow] at this
  obtain ⟨u, hu⟩ := this
  rw [show 2 * (g + 1) = 2 * g + 1 + 1 by omega]
  have e : Pr (2 * g + 1 + 1) (fun i => (i : Int) + 1) = Pr (2 * g) (fun i => (i : Int) + 2) * (2 * g + 2) := by
    rw [Pr, Pr_first]
    have : Pr (2 * g) (fun i => ((i + 1 : Nat) : Int) + 1) = Pr (2 * g) (fun i => (i : Int) + 2) := P_congr _ fun i _ => by omega
    rw [this]
    simp
    grind
  rw [e]
  exact ⟨u * (2 * g + 2) + 1, by push_cast at *; grind⟩
/-- the sign to a prime modulus is by squares -/
theorem euler {a : Int} (ha : ¬ (2 * (h : Int) + 1) ∣ a) : G a h = 1 ↔ ∃ x : Int, (2 * (h : Int) + 1) ∣ x * x - a := by
  constructor
  · intro hg
    refine Classical.byContradiction fun hn => ?_
    obtain ⟨u, hu⟩ := all_prod hp ha fun x hx => hn ⟨x, hx⟩
    obtain ⟨v, hv⟩ := wilson hp
    obtain ⟨w, hw⟩ := gauss hp ha
    rw [hg] at hw
    have : (2 * (h : Int) + 1) ∣ 2 := ⟨v - u - w, by grind⟩
    have := Int.le_of_dvd (by omega) this
    have := hp.1
    omega
  · rintro ⟨x, hx⟩
    rw [← G_congr hx, G_mul]
    have hc : Int.gcd x (2 * h + 1) = 1 := hp.cop fun z => ha (by
      have := Int.dvd_sub (Int.dvd_mul_of_dvd_left z (c := x)) hx
      rw [show x * x - (x * x - a) = a by omega] at this
      exact this)
    rcases G_pm hc with e | e <;> rw [e] <;> rfl
end
end QR
/-! part m_sq -/
open QR in
theorem sq_mem {p n : Int} (hp : QR.OP p) (hn : ¬ n % p = 0) : (n % p ∈ (List.range (p - 1).toNat).map (fun i : Nat => (1 + (i : Int)) * (1 + (i : Int)) % p)) ↔ sgn n p = 1 := by
  have p3 := hp.three
  obtain ⟨h, rfl⟩ := odd_half (by omega) hp.2
  rw [sgn_G, euler hp.1 (fun z => hn (Int.emod_eq_zero_of_dvd z)), List.mem_map]
  constructor
  · rintro ⟨i, _, e⟩
    exact ⟨1 + i, Int.dvd_of_emod_eq_zero (Int.emod_eq_emod_iff_emod_sub_eq_zero.mp e)⟩
  · rintro ⟨x, hx⟩
    have h0 := rem_lo h x
    have h1 := rem_hi h x
    have hz : x % (2 * (h : Int) + 1) ≠ 0 := by
      intro z
      obtain ⟨u, hu⟩ := Int.dvd_of_emod_eq_zero z
      obtain ⟨v, hv⟩ := hx
      exact hn (Int.emod_eq_zero_of_dvd ⟨u * x - v, by grind⟩)
    refine ⟨(x % (2 * h + 1) - 1).toNat, List.mem_range.mpr (by omega), ?_⟩
    rw [show 1 + (((x % (2 * h + 1) - 1).toNat : Nat) : Int) = x % (2 * h + 1) by omega]
    obtain ⟨u, hu⟩ := dvd_rem h x
    obtain ⟨v, hv⟩ := hx
    refine Int.emod_eq_emod_iff_emod_sub_eq_zero.mpr (Int.emod_eq_zero_of_dvd ⟨v - u * x - u * (x % (2 * h + 1)), ?_⟩)
    grind
theorem sgn_away {p n : Int} (hp : QR.OP p) (hn : ¬ n % p = 0) : sgn n p = 1 ∨ sgn n p = -1 :=
  sgn_pm (by have := hp.three; omega) hp.2 (hp.1.cop fun z => hn (Int.emod_eq_zero_of_dvd z))
theorem sgn_at0 {p n : Int} (hp : QR.OP p) (hn : n % p = 0) : sgn n p = 0 :=
  (sgn_zero (by have := hp.three; omega) hp.2).mpr fun z => by
    have := hp.three
    have hd := Int.dvd_of_emod_eq_zero hn
    have h1 : p ∣ ((Int.gcd n p : Nat) : Int) := Int.dvd_coe_gcd hd (Int.dvd_refl p)
    rw [z] at h1
    have := Int.le_of_dvd (by decide) h1
    omega
theorem cut_ints (ns : List Int) (lo hi : Option Int) : ∃ ms : List Int, cutV (ns.map V.int) lo hi = ms.map V.int := by
  unfold cutV
  exact ⟨_, by rw [← List.map_drop, ← List.map_take]⟩
theorem sgn_b {n p : Int} (hp : QR.OP p) : -1 ≤ sgn n p ∧ sgn n p ≤ 1 := by
  by_cases h : n % p = 0
  · rw [sgn_at0 hp h]
    decide
  · rcases sgn_away hp h with e | e <;> rw [e] <;> decide
theorem sgn_1 (n : Int) : sgn n 1 = 1 := by
  unfold sgn
  rw [Int.emod_one, show (0 : Int).toNat = 0 from rfl, show (1 : Int).toNat = 1 from rfl, jac_zero, if_pos rfl]
/-! part m_cip -/
namespace QR
/-! binomial numbers, and that a prime divides the inner ones -/
def ch : Nat → Nat → Int
  | _, 0 => 1
  | 0, _ + 1 => 0
  | n + 1, k + 1 => ch n k + ch n (k + 1)
theorem ch_zero (n : Nat) : ch n 0 = 1 := by cases n <;> rfl
theorem ch_succ (n k : Nat) : ch (n + 1) (k + 1) = ch n k + ch n (k + 1) := rfl
theorem ch_out : ∀ (n k : Nat), n < k → ch n k = 0
  | 0, k + 1, _ => rfl
  | n + 1, k + 1, h => by rw [ch_succ, ch_out n k (by omega), ch_out n (k + 1) (by omega)]; rfl
  | _, 0, h => by omega
theorem ch_self : ∀ n : Nat, ch n n = 1
  | 0 => rfl
  | n + 1 => by rw [ch_succ, ch_self n, ch_out n (n + 1) (by omega)]; rfl
theorem ch_mul : ∀ (n k : Nat), ((k : Int) + 1) * ch (n + 1) (k + 1) = ((n : Int) + 1) * ch n k
  | 0, 0 => rfl
  | 0, k + 1 => by rw [ch_out 1 (k + 2) (by omega), ch_out 0 (k + 1) (by omega)]; simp
  | n + 1, 0 => by
    have h := ch_mul n 0
    have e : ch (n + 1 + 1) (0 + 1) = ch (n + 1) 0 + ch (n + 1) (0 + 1) := rfl
    rw [e, ch_zero, Int.mul_add, h, ch_zero]
    push_cast
    omega
  | n + 1, k + 1 => by
    have h1 := ch_mul n k
    have h2 := ch_mul n (k + 1)
    rw [ch_succ (n + 1) (k + 1)]
    rw [ch_succ n k] at *
    have e1 : (((k + 1 : Nat) : Int)) = (k : Int) + 1 := by omega
    have e2 : (((n + 1 : Nat) : Int)) = (n : Int) + 1 := by omega
    rw [e1] at *
    rw [e2]
    grind
theorem ch_dvd {p : Nat} (hp : Pm p) {k : Nat} (h : k + 1 < p) : (p : Int) ∣ ch p (k + 1) := by
  obtain ⟨n, rfl⟩ : ∃ n, p = n + 1 := ⟨p - 1, by omega⟩
  have e := ch_mul n k
  have hd : (((n + 1 : Nat) : Int)) ∣ ((k : Int) + 1) * ch (n + 1) (k + 1) := ⟨ch n k, by rw [e]; push_cast; rfl⟩
  rcases hp.dvd_mul hd with z | z
  · have := Int.le_of_dvd (by omega) z
    omega
  · exact z
def Sm : Nat → (Nat → Int) → Int
  | 0, _ => 0
  | n + 1, f => Sm n f + f n
theorem Sm_congr : ∀ (n : Nat) {f g : Nat → Int}, (∀ i, i < n → f i = g i) → Sm n f = Sm n g
  | 0, _, _, _ => rfl
  | n + 1, f, g, h => by rw [Sm, Sm, Sm_congr n fun i hi => h i (by omega), h n (by omega)]
theorem Sm_add (f g : Nat → Int) : ∀ n : Nat, Sm n (fun i => f i + g i) = Sm n f + Sm n g
  | 0 => rfl
  | n + 1 => by
    rw [Sm, Sm, Sm, Sm_add f g n]
    omega
theorem Sm_mul (c : Int) (f : Nat → Int) : ∀ n : Nat, Sm n (fun i => c * f i) = c * Sm n f
  | 0 => by simp [Sm]
  | n + 1 => by rw [Sm, Sm, Sm_mul c f n, Int.mul_add]
theorem Sm_first (f : Nat → Int) : ∀ n : Nat, Sm (n + 1) f = f 0 + Sm n (fun i => f (i + 1))
  | 0 => by simp [Sm]
  | n + 1 => by
    rw [Sm, Sm_first f n, Sm]
    omega
theorem Sm_dvd {m : Int} : ∀ (n : Nat) (f : Nat → Int), (∀ i, i < n → m ∣ f i) → m ∣ Sm n f
  | 0, _, _ => ⟨0, by simp [Sm]⟩
  | n + 1, f, h => Int.dvd_add (Sm_dvd n f fun i hi => h i (by omega)) (h n (by omega))
/-- the n-th power of t and a step -/
def Fb (t : Int) : Nat → (Nat → Int) → Int
  | 0, s => s 0
  | n + 1, s => t * Fb t n s + Fb t n (fun k => s (k + 1))
theorem Fb_sum (t : Int) : ∀ (n : Nat) (s : Nat → Int), Fb t n s = Sm (n + 1) (fun k => ch n k * t ^ (n - k) * s k)
  | 0, s => by simp [Fb, Sm, ch]
  | n + 1, s => by
    rw [Fb, Fb_sum t n s, Fb_sum t n, Sm_first _ (n + 1), ← Sm_mul]
    have e1 : Sm (n + 1) (fun k => t * (ch n k * t ^ (n - k) * s k)) = t ^ (n + 1) * s 0 + Sm (n + 1) (fun k => ch n (k + 1) * t ^ (n - k) * s (k + 1)) := by
      rw [Sm_first _ n]
      conv => rhs; rw [Sm]
      rw [ch_out n (n + 1) (by omega), ch_zero]
      have e2 : Sm n (fun i => t * (ch n (i + 1) * t ^ (n - (i + 1)) * s (i + 1))) = Sm n (fun k => ch n (k + 1) * t ^ (n - k) * s (k + 1)) := by
        refine Sm_congr n fun i hi => ?_
        have : n - i = (n - (i + 1)) + 1 := by omega
        rw [this, Int.pow_succ]
        grind
      rw [e2, Nat.sub_zero, Int.pow_succ]
      grind
    rw [e1, ch_zero, Nat.sub_zero]
    have e3 : Sm (n + 1) (fun i => ch (n + 1) (i + 1) * t ^ (n + 1 - (i + 1)) * s (i + 1)) = Sm (n + 1) (fun k => ch n (k + 1) * t ^ (n - k) * s (k + 1)) + Sm (n + 1) (fun k => ch n k * t ^ (n - k) * s (k + 1)) := by
      rw [← Sm_add]
      refine Sm_congr _ fun i hi => ?_
      rw [ch_succ, show n + 1 - (i + 1) = n - i by omega]
      grind
    rw [e3]
    grind
theorem Fb_frob {p : Nat} (hp : Pm p) (t : Int) (s : Nat → Int) : (p : Int) ∣ Fb t p s - (t ^ p * s 0 + s p) := by
  have h2 := hp.1
  obtain ⟨n, rfl⟩ : ∃ n, p = n + 1 := ⟨p - 1, by omega⟩
  rw [Fb_sum, Sm_first, Sm]
  rw [ch_zero, ch_self, Nat.sub_zero, Nat.sub_self, Int.pow_zero]
  have : (((n + 1 : Nat)) : Int) ∣ Sm n (fun i => ch (n + 1) (i + 1) * t ^ (n + 1 - (i + 1)) * s (i + 1)) := Sm_dvd n _ fun i hi => by
    obtain ⟨c, hc⟩ := ch_dvd hp (k := i) (by omega)
    exact ⟨c * t ^ (n + 1 - (i + 1)) * s (i + 1), by rw [hc]; grind⟩
  obtain ⟨c, hc⟩ := this
  exact ⟨c, by rw [hc]; grind⟩
/-! sums of an integer and a multiple of a root of w -/
def mulQ (w : Int) (x y : Int × Int) : Int × Int := (x.1 * y.1 + x.2 * y.2 * w, x.1 * y.2 + x.2 * y.1)
def powQ (w : Int) (x : Int × Int) : Nat → Int × Int
  | 0 => (1, 0)
  | n + 1 => mulQ w (powQ w x n) x
theorem mulQ_assoc (w : Int) (x y z : Int × Int) : mulQ w (mulQ w x y) z = mulQ w x (mulQ w y z) := by
  simp only [mulQ, Prod.mk.injEq]
  constructor <;> grind
theorem mulQ_comm (w : Int) (x y : Int × Int) : mulQ w x y = mulQ w y x := by
  simp only [mulQ, Prod.mk.injEq]
  constructor <;> grind
theorem mulQ_one (w : Int) (x : Int × Int) : mulQ w x (1, 0) = x := by
  simp [mulQ]
theorem powQ_add (w : Int) (x : Int × Int) (m : Nat) : ∀ n : Nat, powQ w x (m + n) = mulQ w (powQ w x m) (powQ w x n)
  | 0 => (mulQ_one w _).symm
  | n + 1 => by
    rw [← Nat.add_assoc, powQ, powQ_add w x m n, powQ, mulQ_assoc]
theorem powQ_sq (w : Int) (x : Int × Int) (n : Nat) : powQ w (mulQ w x x) n = powQ w x (2 * n) := by
  induction n with
  | zero => rfl
  | succ n ih =>
    rw [powQ, ih, show 2 * (n + 1) = 2 * n + 1 + 1 by omega, powQ, powQ, mulQ_assoc]
def sE (w : Int) (k : Nat) : Int := if k % 2 = 0 then w ^ (k / 2) else 0
def sO (w : Int) (k : Nat) : Int := if k % 2 = 0 then 0 else w ^ (k / 2)
theorem Fb_mul (t c : Int) : ∀ (n : Nat) (s : Nat → Int), Fb t n (fun k => c * s k) = c * Fb t n s
  | 0, s => rfl
  | n + 1, s => by
    rw [Fb, Fb, Fb_mul t c n s, Fb_mul t c n fun k => s (k + 1)]
    grind
theorem powQ_Fb (w t : Int) : ∀ n : Nat, powQ w (t, 1) n = (Fb t n (sE w), Fb t n (sO w))
  | 0 => by simp [powQ, Fb, sE, sO]
  | n + 1 => by
    have h1 : (fun k => sE w (k + 1)) = fun k => w * sO w k := by
      funext k
      unfold sE sO
      rcases Nat.mod_two_eq_zero_or_one k with h | h
      · rw [if_neg (by omega), if_pos h, Int.mul_zero]
      · rw [if_pos (by omega), if_neg (by omega), show (k + 1) / 2 = k / 2 + 1 by omega, Int.pow_succ, Int.mul_comm]
    have h2 : (fun k => sO w (k + 1)) = fun k => sE w k := by
      funext k
      unfold sE sO
      rcases Nat.mod_two_eq_zero_or_one k with h | h
      · rw [if_neg (by omega), if_pos h, show (k + 1) / 2 = k / 2 by omega]
      · rw [if_pos (by omega), if_neg (by omega)]
    rw [powQ, powQ_Fb w t n, Fb, Fb, h1, h2, Fb_mul]
    simp only [mulQ, Prod.mk.injEq]
    constructor <;> grind
section
variable {h : Nat}
theorem G_eq_dvd {a : Int} : G a h = 0 ↔ Int.gcd a (2 * h + 1) ≠ 1 := G_eq_zero
theorem fermat (hp : Pm (2 * (h : Int) + 1)) (t : Int) : (2 * (h : Int) + 1) ∣ t ^ (2 * h + 1) - t := by
  by_cases ht : (2 * (h : Int) + 1) ∣ t
  · obtain ⟨c, hc⟩ := ht
    refine ⟨t ^ (2 * h) * c - c, ?_⟩
    rw [Int.pow_succ]
    generalize t ^ (2 * h) = X
    rw [hc]
    grind
  · obtain ⟨c, hc⟩ := gauss hp ht
    have hg := G_pm (hp.cop ht)
    have hgg : G t h * G t h = 1 := by rcases hg with e | e <;> rw [e] <;> rfl
    have e : t ^ h = (2 * (h : Int) + 1) * c + G t h := by omega
    have e2 : t ^ (2 * h + 1) = t ^ h * t ^ h * t := by
      rw [Int.pow_succ, show 2 * h = h + h by omega, Int.pow_add]
    exact ⟨((2 * (h : Int) + 1) * c * c + 2 * c * G t h) * t, by rw [e2, e]; grind⟩
/-- the power with the exponent p + 1 is the norm -/
theorem frob (hp : Pm (2 * (h : Int) + 1)) {w t : Int} (hw : G w h = -1) : (2 * (h : Int) + 1) ∣ (powQ w (t, 1) (2 * h + 2)).1 - (t * t - w) ∧ (2 * (h : Int) + 1) ∣ (powQ w (t, 1) (2 * h + 2)).2 := by
  have hp' : Pm (((2 * h + 1 : Nat)) : Int) := by
    have : (((2 * h + 1 : Nat)) : Int) = 2 * (h : Int) + 1 := by omega
    rw [this]
    exact hp
  have wd : ¬ (2 * (h : Int) + 1) ∣ w := fun z => by
    have : G w h = 0 := by
      have h2 := hp.1
      obtain ⟨c, hc⟩ := z
      rw [G_congr (b := 0) ⟨c, by rw [hc]; omega⟩]
      rw [G_at0, if_neg (by omega)]
    rw [this] at hw
    exact absurd hw (by decide)
  obtain ⟨c1, e1⟩ := Fb_frob hp' t (sE w)
  obtain ⟨c2, e2⟩ := Fb_frob hp' t (sO w)
  obtain ⟨c3, e3⟩ := fermat hp t
  obtain ⟨c4, e4⟩ := gauss hp wd
  have cst : (((2 * h + 1 : Nat)) : Int) = 2 * (h : Int) + 1 := by omega
  rw [cst] at e1 e2
  have s1 : sE w 0 = 1 := by simp [sE]
  have s2 : sE w (2 * h + 1) = 0 := if_neg (by omega)
  have s3 : sO w 0 = 0 := by simp [sO]
  have s4 : sO w (2 * h + 1) = w ^ h := by
    unfold sO
    rw [if_neg (by omega), show (2 * h + 1) / 2 = h by omega]
  rw [s1, s2] at e1
  rw [s3, s4] at e2
  rw [hw] at e4
  rw [show 2 * h + 2 = 2 * h + 1 + 1 from rfl, powQ, powQ_Fb]
  simp only [mulQ]
  generalize Fb t (2 * h + 1) (sE w) = A at *
  generalize Fb t (2 * h + 1) (sO w) = B at *
  generalize t ^ (2 * h + 1) = T at *
  generalize w ^ h = W at *
  generalize 2 * (h : Int) + 1 = p at *
  have eA : A = t + p * (c1 + c3) := by rw [Int.mul_add]; omega
  have eB : B = -1 + p * (c2 + c4) := by rw [Int.mul_add]; omega
  exact ⟨⟨(c1 + c3) * t + (c2 + c4) * w, by rw [eA, eB]; grind⟩, ⟨c1 + c3 + (c2 + c4) * t, by rw [eA, eB]; grind⟩⟩
/-- the half power is a root -/
theorem cipolla (hp : Pm (2 * (h : Int) + 1)) {n w t : Int} (hw : G w h = -1) (hn : G n h = 1) (hwn : (2 * (h : Int) + 1) ∣ t * t - n - w) {r : Int × Int} (hr1 : (2 * (h : Int) + 1) ∣ r.1 - (powQ w (t, 1) (h + 1)).1) (hr2 : (2 * (h : Int) + 1) ∣ r.2 - (powQ w (t, 1) (h + 1)).2) : (2 * (h : Int) + 1) ∣ r.1 * r.1 - n := by
  obtain ⟨⟨d1, f1⟩, ⟨d2, f2⟩⟩ := frob hp (t := t) hw
  rw [show 2 * h + 2 = (h + 1) + (h + 1) by omega, powQ_add] at f1 f2
  simp only [mulQ] at f1 f2
  generalize (powQ w (t, 1) (h + 1)).1 = a at *
  generalize (powQ w (t, 1) (h + 1)).2 = b at *
  have h2 := hp.1
  have h3 : Pm (2 * (h : Int) + 1) := hp
  have hd2 : (2 * (h : Int) + 1) ∣ 2 * (a * b) := ⟨d2, by rw [← f2]; grind⟩
  have n2 : ¬ (2 * (h : Int) + 1) ∣ 2 := fun z => by
    have := Int.le_of_dvd (by decide) z
    omega
  have hab : (2 * (h : Int) + 1) ∣ a * b := (hp.dvd_mul hd2).resolve_left n2
  obtain ⟨g, hg⟩ := hwn
  obtain ⟨k1, hk1⟩ := hr1
  generalize hpp : 2 * (h : Int) + 1 = p at *
  have era : r.1 = a + p * k1 := by omega
  have etn : t * t - w = n + p * g := by omega
  have ef : a * a + b * b * w = n + p * (g + d1) := by rw [Int.mul_add]; omega
  rcases h3.dvd_mul hab with z | z
  · exfalso
    obtain ⟨u, hu⟩ := z
    have hc : p ∣ b * b * w - n := ⟨g + d1 - a * u, by rw [hu] at ef ⊢; grind⟩
    rw [← hpp] at hc
    have e1 := G_congr hc
    rw [G_mul, hw, hn, G_mul] at e1
    have e2 : 0 ≤ G b h * G b h := by
      rcases Int.le_total 0 (G b h) with y | y
      · exact Int.mul_nonneg y y
      · have := Int.mul_nonneg (show 0 ≤ -G b h by omega) (show 0 ≤ -G b h by omega)
        rw [Int.neg_mul_neg] at this
        exact this
    omega
  · obtain ⟨u, hu⟩ := z
    refine ⟨g + d1 - b * u * w + 2 * a * k1 + p * k1 * k1, ?_⟩
    rw [era]
    have : b * b * w = p * (b * u * w) := by rw [hu]; grind
    grind
end
end QR
/-! part m_rt -/
/-! roots on a clock -/
def cg (p a b : Int) : Prop := p ∣ a - b
theorem cg.mulQ1 {p w a b c d a' b' c' d' : Int} (h1 : p ∣ a - a') (h2 : p ∣ b - b') (h3 : p ∣ c - c') (h4 : p ∣ d - d') : p ∣ (a * c + b * d * w) % p - (a' * c' + b' * d' * w) := by
  obtain ⟨x, hx⟩ := h1
  obtain ⟨y, hy⟩ := h2
  obtain ⟨z, hz⟩ := h3
  obtain ⟨u, hu⟩ := h4
  have e := Int.mul_ediv_add_emod (a * c + b * d * w) p
  generalize (a * c + b * d * w) / p = q at *
  generalize (a * c + b * d * w) % p = r at *
  have ea : a = a' + p * x := by omega
  have eb : b = b' + p * y := by omega
  have ec : c = c' + p * z := by omega
  have ed : d = d' + p * u := by omega
  refine ⟨a' * z + x * c' + p * x * z + (b' * u + y * d' + p * y * u) * w - q, ?_⟩
  have : r = a * c + b * d * w - p * q := by omega
  rw [this, ea, eb, ec, ed]
  grind
theorem cg.mulQ2 {p a b c d a' b' c' d' : Int} (h1 : p ∣ a - a') (h2 : p ∣ b - b') (h3 : p ∣ c - c') (h4 : p ∣ d - d') : p ∣ (a * d + b * c) % p - (a' * d' + b' * c') := by
  obtain ⟨x, hx⟩ := h1
  obtain ⟨y, hy⟩ := h2
  obtain ⟨z, hz⟩ := h3
  obtain ⟨u, hu⟩ := h4
  have e := Int.mul_ediv_add_emod (a * d + b * c) p
  generalize (a * d + b * c) / p = q at *
  generalize (a * d + b * c) % p = r at *
  have ea : a = a' + p * x := by omega
  have eb : b = b' + p * y := by omega
  have ec : c = c' + p * z := by omega
  have ed : d = d' + p * u := by omega
  refine ⟨a' * u + x * d' + p * x * u + (b' * z + y * c' + p * y * z) - q, ?_⟩
  have : r = a * d + b * c - p * q := by omega
  rw [this, ea, eb, ec, ed]
  grind
namespace QR
/-- what the loop keeps: the pairs stand for sums, and result times power to the exponent is one and the same -/
def Keep (p w t : Int) (h : Nat) (a b c d : Int) (e : Nat) : Prop := ∃ R S : Int × Int, p ∣ a - R.1 ∧ p ∣ b - R.2 ∧ p ∣ c - S.1 ∧ p ∣ d - S.2 ∧ mulQ w R (powQ w S e) = powQ w (t, 1) h
theorem Keep.start {p w t : Int} {h : Nat} : Keep p w t h 1 0 (t % p) 1 h :=
  ⟨(1, 0), (t, 1), ⟨0, by simp⟩, ⟨0, by simp⟩, ⟨-(t / p), by have := Int.mul_ediv_add_emod t p; rw [Int.mul_neg]; dsimp only; omega⟩, ⟨0, by simp⟩, by rw [mulQ_comm, mulQ_one]⟩
theorem Keep.odd {p w t a b c d : Int} {h e : Nat} (k : Keep p w t h a b c d e) (ho : e % 2 = 1) : Keep p w t h ((a * c + b * d * w) % p) ((a * d + b * c) % p) ((c * c + d * d * w) % p) ((c * d + d * c) % p) (e / 2) := by
  obtain ⟨R, S, h1, h2, h3, h4, he⟩ := k
  refine ⟨mulQ w R S, mulQ w S S, cg.mulQ1 h1 h2 h3 h4, cg.mulQ2 h1 h2 h3 h4, cg.mulQ1 h3 h4 h3 h4, cg.mulQ2 h3 h4 h3 h4, ?_⟩
  rw [powQ_sq, mulQ_assoc, mulQ_comm w S, ← he]
  rw [show e = 2 * (e / 2) + 1 by omega, powQ, show (2 * (e / 2) + 1) / 2 = e / 2 by omega]
theorem Keep.even {p w t a b c d : Int} {h e : Nat} (k : Keep p w t h a b c d e) (ho : e % 2 = 0) : Keep p w t h a b ((c * c + d * d * w) % p) ((c * d + d * c) % p) (e / 2) := by
  obtain ⟨R, S, h1, h2, h3, h4, he⟩ := k
  refine ⟨R, mulQ w S S, h1, h2, cg.mulQ1 h3 h4 h3 h4, cg.mulQ2 h3 h4 h3 h4, ?_⟩
  rw [powQ_sq, ← he, show 2 * (e / 2) = e by omega]
theorem Keep.fin {p n t a b c d : Int} (hp : OP p) (hn : sgn n p = 1) (hw : sgn (t * t - n) p = -1) (k : Keep p ((t * t - n) % p) t ((p + 1) / 2).toNat a b c d 0) : p ∣ a * a - n := by
  obtain ⟨h, rfl⟩ := odd_half (by have := hp.three; omega) hp.2
  rw [sgn_G] at hn hw
  obtain ⟨R, S, h1, h2, h3, h4, he⟩ := k
  rw [powQ, mulQ_one] at he
  subst he
  have e := Int.mul_ediv_add_emod (t * t - n) (2 * (h : Int) + 1)
  have hwn : (2 * (h : Int) + 1) ∣ t * t - n - (t * t - n) % (2 * (h : Int) + 1) := ⟨(t * t - n) / (2 * (h : Int) + 1), by omega⟩
  rw [show ((2 * (h : Int) + 1 + 1) / 2).toNat = h + 1 by omega] at h1 h2
  refine cipolla (r := (a, b)) hp.1 (w := (t * t - n) % (2 * (h : Int) + 1)) (t := t) ?_ hn hwn h1 h2
  rw [← hw]
  exact G_congr ⟨-((t * t - n) / (2 * (h : Int) + 1)), by rw [Int.mul_neg]; omega⟩
theorem has_root {p n : Int} (hp : OP p) (hn : sgn n p ≠ -1) : ∃ r : Int, 0 ≤ r ∧ r < p ∧ p ∣ r * r - n := by
  have h3 := hp.three
  have : ∃ r : Int, p ∣ r * r - n := by
    by_cases h0 : n % p = 0
    · obtain ⟨c, hc⟩ := Int.dvd_of_emod_eq_zero h0
      exact ⟨0, -c, by rw [hc, Int.mul_neg]; omega⟩
    · obtain ⟨h, rfl⟩ := odd_half (by omega) hp.2
      have hd : ¬ (2 * (h : Int) + 1) ∣ n := fun z => h0 (Int.emod_eq_zero_of_dvd z)
      have e := (sgn_away hp h0).resolve_right hn
      rw [sgn_G] at e
      exact (euler hp.1 hd).mp e
  obtain ⟨r, c, hc⟩ := this
  refine ⟨r % p, Int.emod_nonneg _ (by omega), Int.emod_lt_of_pos _ (by omega), ?_⟩
  have e := Int.mul_ediv_add_emod r p
  generalize r / p = q at *
  generalize r % p = s at *
  exact ⟨c - 2 * q * s - p * q * q, by rw [← e] at hc; grind⟩
theorem root_mod {p n x : Int} (h : p ∣ x * x - n % p) : p ∣ x * x - n := by
  obtain ⟨c, hc⟩ := h
  have e := Int.mul_ediv_add_emod n p
  exact ⟨c - n / p, by rw [Int.mul_sub]; omega⟩
theorem root_neg {p n x : Int} (h : p ∣ x * x - n) : p ∣ (p - x) * (p - x) - n := by
  obtain ⟨c, hc⟩ := h
  exact ⟨p - 2 * x + c, by rw [Int.mul_add, ← hc]; grind⟩
theorem root_one {p n x y : Int} (hp : OP p) (hx : 0 ≤ x) (hx2 : 2 * x < p) (hxn : p ∣ x * x - n) (hy : 0 ≤ y) (hy2 : 2 * y < p) (hyn : p ∣ y * y - n) : x = y := by
  have h3 := hp.three
  have : p ∣ (x - y) * (x + y) := by
    obtain ⟨c, hc⟩ := hxn
    obtain ⟨d, hd⟩ := hyn
    exact ⟨c - d, by rw [Int.mul_sub, ← hc, ← hd]; grind⟩
  rcases hp.1.dvd_mul this with z | z
  · rcases Int.lt_trichotomy x y with l | l | l
    · have := Int.le_of_dvd (by omega) (Int.dvd_neg.mpr z)
      omega
    · exact l
    · have := Int.le_of_dvd (by omega) z
      omega
  · by_cases h : x + y = 0
    · omega
    · have := Int.le_of_dvd (by omega) z
      omega
end QR
/-! part m_clk -/
/-! odd primes up to 10000019, and Euler's power -/
theorem op_top : QR.OP (10000019 : Int) := QR.op_by (n := 10000019) 3163 (by decide) (by decide) (by decide) (by decide +kernel)
theorem op_nine : ∀ z ∈ ([97, 193, 257, 12289, 40961, 65537, 786433, 5767169, 7340033] : List Int), QR.OP z ∧ z ≤ 10000019 := by
  intro z hz
  simp only [List.mem_cons, List.not_mem_nil, or_false] at hz
  rcases hz with rfl | rfl | rfl | rfl | rfl | rfl | rfl | rfl | rfl
  · exact ⟨QR.op_by (n := 97) 10 (by decide) (by decide) (by decide) (by decide +kernel), by decide⟩
  · exact ⟨QR.op_by (n := 193) 14 (by decide) (by decide) (by decide) (by decide +kernel), by decide⟩
  · exact ⟨QR.op_by (n := 257) 17 (by decide) (by decide) (by decide) (by decide +kernel), by decide⟩
  · exact ⟨QR.op_by (n := 12289) 111 (by decide) (by decide) (by decide) (by decide +kernel), by decide⟩
  · exact ⟨QR.op_by (n := 40961) 203 (by decide) (by decide) (by decide) (by decide +kernel), by decide⟩
  · exact ⟨QR.op_by (n := 65537) 257 (by decide) (by decide) (by decide) (by decide +kernel), by decide⟩
  · exact ⟨QR.op_by (n := 786433) 887 (by decide) (by decide) (by decide) (by decide +kernel), by decide⟩
  · exact ⟨QR.op_by (n := 5767169) 2402 (by decide) (by decide) (by decide) (by decide +kernel), by decide⟩
  · exact ⟨QR.op_by (n := 7340033) 2710 (by decide) (by decide) (by decide) (by decide +kernel), by decide⟩
theorem rest_by {p r Y : Int} (h : p ∣ Y - r) (h0 : 0 ≤ r) (h1 : r < p) : Y % p = r := by
  obtain ⟨c, hc⟩ := h
  rw [show Y = r + p * c by omega, Int.add_mul_emod_self_left, Int.emod_eq_of_lt h0 h1]
theorem euler_pow {n p : Int} (hp : QR.OP p) : n ^ ((p - 1) / 2).toNat % p = p - 1 ↔ sgn n p = -1 := by
  have h3 := hp.three
  obtain ⟨h, rfl⟩ := odd_half (by omega) hp.2
  rw [show ((2 * (h : Int) + 1 - 1) / 2).toNat = h by omega]
  by_cases h0 : n % (2 * (h : Int) + 1) = 0
  · rw [sgn_at0 hp h0]
    obtain ⟨c, hc⟩ := Int.dvd_of_emod_eq_zero h0
    have : n ^ h % (2 * (h : Int) + 1) = 0 := by
      refine Int.emod_eq_zero_of_dvd ?_
      obtain ⟨k, rfl⟩ : ∃ k, h = k + 1 := ⟨h - 1, by omega⟩
      rw [Int.pow_succ]
      exact Int.dvd_mul_of_dvd_right ⟨c, hc⟩
    rw [this]
    omega
  · obtain ⟨c, hc⟩ := QR.gauss hp.1 (a := n) fun z => h0 (Int.emod_eq_zero_of_dvd z)
    rw [sgn_G]
    rcases sgn_away hp h0 with e | e
    · rw [sgn_G] at e
      rw [e] at hc ⊢
      rw [rest_by (r := 1) ⟨c, hc⟩ (by omega) (by omega)]
      omega
    · rw [sgn_G] at e
      rw [e] at hc ⊢
      rw [rest_by (r := 2 * (h : Int) + 1 - 1) ⟨c - 1, by rw [Int.mul_sub]; omega⟩ (by omega) (by omega)]
      omega
theorem sgn_shift {n m p k : Int} (hp : QR.OP p) (e : m = n + p * k) : sgn m p = sgn n p :=
  sgn_congr (by have := hp.three; omega) hp.2 ⟨k, by omega⟩
theorem root_shift {n m p k x : Int} (e : m = n + p * k) (h : p ∣ x * x - m) : p ∣ x * x - n := by
  obtain ⟨c, hc⟩ := h
  exact ⟨c + k, by rw [Int.mul_add]; omega⟩
theorem ix_mem {ns : List Int} {i : Int} (h0 : 0 ≤ i) (h1 : i < ns.length) : ∃ z ∈ ns, L2.atI (ns.map L2.V.int) i = some (.int z) := by
  have hl : i.toNat < ns.length := by omega
  refine ⟨ns[i.toNat]'hl, List.getElem_mem hl, ?_⟩
  have e : i = (i.toNat : Int) := by omega
  refine (congrArg (L2.atI _) e).trans (L2.atI_nat ?_)
  rw [List.getElem?_map, List.getElem?_eq_getElem (by omega)]
  rfl
/-! part m_gaussl -/
theorem euler_sgn {n p : Int} (hp : QR.OP p) : (if n ^ ((p - 1) / 2).toNat % p = p - 1 then -1 else n ^ ((p - 1) / 2).toNat % p) = sgn n p := by
  have h3 := hp.three
  by_cases e : n ^ ((p - 1) / 2).toNat % p = p - 1
  · rw [if_pos e]
    exact ((euler_pow hp).mp e).symm
  · rw [if_neg e]
    have ne : sgn n p ≠ -1 := fun z => e ((euler_pow hp).mpr z)
    obtain ⟨h, rfl⟩ := odd_half (by omega) hp.2
    rw [show ((2 * (h : Int) + 1 - 1) / 2).toNat = h by omega]
    by_cases h0 : n % (2 * (h : Int) + 1) = 0
    · rw [sgn_at0 hp h0]
      obtain ⟨c, hc⟩ := Int.dvd_of_emod_eq_zero h0
      refine Int.emod_eq_zero_of_dvd ?_
      obtain ⟨k, rfl⟩ : ∃ k, h = k + 1 := ⟨h - 1, by omega⟩
      rw [Int.pow_succ]
      exact Int.dvd_mul_of_dvd_right ⟨c, hc⟩
    · obtain ⟨c, hc⟩ := QR.gauss hp.1 (a := n) fun z => h0 (Int.emod_eq_zero_of_dvd z)
      rcases sgn_away hp h0 with e1 | e1
      · rw [e1]
        rw [sgn_G] at e1
        rw [e1] at hc
        exact rest_by (r := 1) ⟨c, hc⟩ (by omega) (by omega)
      · exact absurd e1 ne
/-- the signs of the first half of the multiples -/
def gL (n p : Int) : List Int := (List.range ((p - 1) / 2).toNat).map fun i : Nat => if 2 * ((1 + (i : Int)) * n % p) < p then 1 else -1
theorem pl_map (f : Nat → Int) (n : Nat) : QR.pl ((List.range n).map f) = QR.Pr n f := (QR.P_pl n f).symm
theorem gL_prod {n p : Int} (hp : QR.OP p) (hn : ¬ p ∣ n) : QR.pl (gL n p) = sgn n p := by
  have h3 := hp.three
  obtain ⟨h, rfl⟩ := odd_half (by omega) hp.2
  unfold gL
  rw [show ((2 * (h : Int) + 1 - 1) / 2).toNat = h by omega, pl_map, sgn_G]
  refine QR.P_congr h fun i hi => ?_
  have d := QR.dvd_rem h (n * ((i : Int) + 1))
  have lo := QR.rem_lo h (n * ((i : Int) + 1))
  have hi2 := QR.rem_hi h (n * ((i : Int) + 1))
  have ne : (n * ((i : Int) + 1)) % (2 * h + 1) ≠ 0 := QR.cop_ne (hp.1.cop hn) hi
  rw [QR.sgv d lo hi2, if_neg ne, show (1 + (i : Int)) * n = n * ((i : Int) + 1) by rw [Int.mul_comm]; congr 1; omega]
  split <;> split <;> omega
theorem gL_pm {n p k : Int} (h : k ∈ gL n p) : k = 1 ∨ k = -1 := by
  unfold gL at h
  obtain ⟨i, _, rfl⟩ := List.mem_map.mp h
  split
  · exact .inl rfl
  · exact .inr rfl
/-! part m_cut -/
theorem sIx_nn {n d : Nat} {i : Int} (h : 0 ≤ i) : HT.sIx n d (some i) = min i.toNat n := by
  unfold HT.sIx
  simp
  omega
theorem cut_map {α : Type} {f : α → V} {l : List α} {lo hi : Option Int} : ∃ m : List α, cutV (l.map f) lo hi = m.map f ∧ (∀ x ∈ m, x ∈ l) := by
  refine ⟨(l.drop (HT.sIx l.length 0 lo)).take (HT.sIx l.length l.length hi - HT.sIx l.length 0 lo), ?_, fun x hx => List.mem_of_mem_drop (List.mem_of_mem_take hx)⟩
  unfold cutV
  rw [List.length_map, List.map_take, List.map_drop]
theorem cut_len {xs : List V} {lo hi : Int} (h0 : 0 ≤ lo) (h : lo ≤ hi) : ((cutV xs (some lo) (some hi)).length : Int) ≤ hi - lo := by
  unfold cutV
  rw [sIx_nn h0, sIx_nn (by omega), List.length_take, List.length_drop]
  omega
theorem cut_last {xs : List V} {y : V} : cutV (xs ++ [y]) none (some (-1)) = xs := by
  have e : cutV (xs ++ [y]) none (some (-1)) = (xs ++ [y]).take xs.length := by
    unfold cutV
    rw [show HT.sIx (xs ++ [y]).length 0 none = 0 from rfl, List.drop_zero, show HT.sIx (xs ++ [y]).length (xs ++ [y]).length (some (-1)) = xs.length by
      unfold HT.sIx
      simp
      omega]
    simp
  rw [e]
  simp
/-! part m_cop -/
namespace QR
theorem exists_pm : ∀ (n : Nat), 2 ≤ n → ∃ p : Int, Pm p ∧ p ∣ (n : Int) := by
  intro n
  induction n using Nat.strongRecOn with
  | _ n ih =>
    intro h2
    by_cases hp : Pm (n : Int)
    · exact ⟨n, hp, Int.dvd_refl _⟩
    · have : ∃ d : Int, 2 ≤ d ∧ d < n ∧ d ∣ (n : Int) := Classical.byContradiction fun h => hp ⟨by omega, fun d a b c => h ⟨d, a, b, c⟩⟩
      obtain ⟨d, a, b, c⟩ := this
      obtain ⟨p, q1, q2⟩ := ih d.toNat (by omega) (by omega)
      rw [show ((d.toNat : Nat) : Int) = d by omega] at q2
      exact ⟨p, q1, Int.dvd_trans q2 c⟩
theorem dvd_gcd {d x m : Int} (h : d ∣ x) (k : d ∣ m) : d ∣ ((Int.gcd x m : Nat) : Int) := Int.dvd_coe_gcd h k
/-- coprime: no prime divides both -/
theorem cop_iff {x m : Int} : Int.gcd x m = 1 ↔ ∀ p : Int, Pm p → p ∣ x → ¬ p ∣ m := by
  constructor
  · intro h p hp a b
    have := dvd_gcd a b
    rw [h] at this
    have := Int.le_of_dvd (by decide) this
    have := hp.1
    omega
  · intro h
    rcases Nat.lt_or_ge (Int.gcd x m) 2 with z | z
    · rcases Nat.lt_or_ge 0 (Int.gcd x m) with y | y
      · omega
      · exfalso
        have e : Int.gcd x m = 0 := by omega
        obtain ⟨e1, e2⟩ := Int.gcd_eq_zero_iff.mp e
        subst e1 e2
        exact h 2 pm_two (Int.dvd_zero 2) (Int.dvd_zero 2)
    · obtain ⟨p, hp, hd⟩ := exists_pm _ z
      exact absurd (Int.dvd_trans hd (Int.gcd_dvd_right ..)) (h p hp (Int.dvd_trans hd (Int.gcd_dvd_left ..)))
theorem cop_dvd_right {x m n : Int} (h : Int.gcd x m = 1) (d : n ∣ m) : Int.gcd x n = 1 := cop_iff.mpr fun p hp a b => cop_iff.mp h p hp a (Int.dvd_trans b d)
theorem cop_congr {x y m : Int} (h : m ∣ x - y) : Int.gcd x m = 1 ↔ Int.gcd y m = 1 := by
  have key : ∀ x y : Int, m ∣ x - y → Int.gcd x m = 1 → Int.gcd y m = 1 := fun x y h hx => cop_iff.mpr fun p hp a b => cop_iff.mp hx p hp (by
    have := Int.dvd_add (Int.dvd_trans b h) a
    rwa [Int.sub_add_cancel] at this) b
  refine ⟨key x y h, key y x ?_⟩
  obtain ⟨k, hk⟩ := h
  exact ⟨-k, by rw [Int.mul_neg, ← hk]; omega⟩
theorem dvd_sub_emod (x m : Int) : m ∣ x - x % m := ⟨x / m, by have := Int.mul_ediv_add_emod x m; omega⟩
theorem cop_emod {x m : Int} : Int.gcd (x % m) m = 1 ↔ Int.gcd x m = 1 := (cop_congr (dvd_sub_emod x m)).symm
theorem cop_mul {x m n : Int} (h : Int.gcd x m = 1) (k : Int.gcd x n = 1) : Int.gcd x (m * n) = 1 := cop_iff.mpr fun p hp a b => (Pm.dvd_mul hp b).elim (cop_iff.mp h p hp a) (cop_iff.mp k p hp a)
theorem emod_eq_of_dvd {x y m : Int} (h : m ∣ x - y) : x % m = y % m := Int.emod_eq_emod_iff_emod_sub_eq_zero.mpr (Int.emod_eq_zero_of_dvd h)
theorem dvd_of_emod_eq {x y m : Int} (h : x % m = y % m) : m ∣ x - y := Int.dvd_of_emod_eq_zero (Int.emod_eq_emod_iff_emod_sub_eq_zero.mp h)
theorem pm_cop {p m : Int} (hp : Pm p) : Int.gcd p m = 1 ↔ ¬ p ∣ m := by
  constructor
  · intro h d
    exact cop_iff.mp h p hp (Int.dvd_refl p) d
  · intro h
    refine cop_iff.mpr fun q hq a b => ?_
    have q2 := hq.1
    have hle := Int.le_of_dvd (by have := hp.1; omega) a
    rcases Int.lt_or_eq_of_le hle with z | z
    · exact hp.2 q q2 z a
    · exact h (z ▸ b)
end QR
/-- the ints from 0 on below m coprime to it -/
def uL (m : Int) : List Int := ((List.range m.toNat).map (fun i : Nat => (i : Int))).filter (fun r => decide (Int.gcd r m = 1))
theorem mem_uL {m k : Int} : k ∈ uL m ↔ 0 ≤ k ∧ k < m ∧ Int.gcd k m = 1 := by
  unfold uL
  rw [List.mem_filter, decide_eq_true_iff, List.mem_map]
  constructor
  · rintro ⟨⟨i, hi, rfl⟩, h⟩
    rw [List.mem_range] at hi
    exact ⟨by omega, by omega, h⟩
  · rintro ⟨a, b, h⟩
    exact ⟨⟨k.toNat, List.mem_range.mpr (by omega), by omega⟩, h⟩
theorem uL_inc {m : Int} : (uL m).Pairwise (· < ·) := by
  unfold uL
  refine List.Pairwise.filter _ (List.pairwise_map.mpr ?_)
  exact List.pairwise_lt_range.imp fun h => by omega
theorem uL_len {m : Int} : (uL m).length ≤ m.toNat := by
  unfold uL
  refine Nat.le_trans (List.length_filter_le _ _) ?_
  rw [List.length_map, List.length_range]
  exact Nat.le_refl _
theorem uL_one {m : Int} (h : 1 ≤ m) : (1 % m) ∈ uL m := by
  refine mem_uL.mpr ⟨Int.emod_nonneg _ (by omega), Int.emod_lt_of_pos _ (by omega), ?_⟩
  rw [QR.cop_emod]
  exact Int.one_gcd
theorem uL_pos {m : Int} (h : 1 ≤ m) : 0 < (uL m).length := List.length_pos_of_mem (uL_one h)
theorem uL_nodup {m : Int} : (uL m).Nodup := uL_inc.imp fun h e => by omega
/-! part m_factors -/
def prodF : List (Int × Nat) → Int
  | [] => 1
  | x :: l => x.1 ^ x.2 * prodF l
def rowF (x : Int × Nat) : List V := [.int x.1, .int x.2]
/-- the primes of a number with their exponents -/
structure FacOk (n : Int) (fs : List (Int × Nat)) : Prop where
  prod : prodF fs = n
  prime : ∀ x, x ∈ fs → QR.Pm x.1 ∧ 1 ≤ x.2
  asc : fs.Pairwise fun a b => a.1 < b.1
theorem prodF_snoc (x : Int × Nat) : ∀ fs : List (Int × Nat), prodF (fs ++ [x]) = prodF fs * x.1 ^ x.2
  | [] => by simp [prodF]
  | y :: l => by
    simp only [List.cons_append, prodF]
    rw [prodF_snoc x l, Int.mul_assoc]
theorem prodF_big : ∀ fs : List (Int × Nat), (∀ x, x ∈ fs → QR.Pm x.1 ∧ 1 ≤ x.2) → (2 : Int) ^ fs.length ≤ prodF fs
  | [], _ => by simp [prodF]
  | x :: l, h => by
    have hx := h x (List.mem_cons_self ..)
    have ih := prodF_big l fun y hy => h y (List.mem_cons_of_mem _ hy)
    have h2 := hx.1.1
    obtain ⟨e, he⟩ : ∃ e, x.2 = e + 1 := ⟨x.2 - 1, by omega⟩
    have p1 : (1 : Int) ≤ x.1 ^ e := Int.pow_pos (by omega)
    have p0 : (0 : Int) < 2 ^ l.length := Int.pow_pos (by decide)
    simp only [prodF, List.length_cons]
    rw [he, Int.pow_succ, Int.pow_succ, Int.mul_comm (2 ^ l.length) 2]
    have p2 : 2 ≤ x.1 ^ e * x.1 := by
      have : 1 * x.1 ≤ x.1 ^ e * x.1 := Int.mul_le_mul_of_nonneg_right p1 (by omega)
      omega
    have a1 : 2 * 2 ^ l.length ≤ (x.1 ^ e * x.1) * 2 ^ l.length := Int.mul_le_mul_of_nonneg_right p2 (by omega)
    have a2 : (x.1 ^ e * x.1) * 2 ^ l.length ≤ (x.1 ^ e * x.1) * prodF l := Int.mul_le_mul_of_nonneg_left ih (by omega)
    omega
/-- while the factors are found: fs so far, n left, d next -/
structure FacInv (n0 n d : Int) (fs : List (Int × Nat)) : Prop where
  pos : 1 ≤ n
  two : 2 ≤ d
  prod : prodF fs * n = n0
  prime : ∀ x, x ∈ fs → QR.Pm x.1 ∧ 1 ≤ x.2 ∧ x.1 < d
  asc : fs.Pairwise fun a b => a.1 < b.1
  none : ∀ e : Int, 2 ≤ e → e < d → ¬ e ∣ n
theorem FacInv.len {n0 n d : Int} {fs : List (Int × Nat)} (h : FacInv n0 n d fs) (hn : n0 < 2 ^ 100) : fs.length < 100 := by
  have a := prodF_big fs fun x hx => ⟨(h.prime x hx).1, (h.prime x hx).2.1⟩
  have p0 : (0 : Int) < 2 ^ fs.length := Int.pow_pos (by decide)
  have b : prodF fs * 1 ≤ prodF fs * n := Int.mul_le_mul_of_nonneg_left h.pos (by omega)
  rw [h.prod] at b
  rcases Nat.lt_or_ge fs.length 100 with z | z
  · exact z
  · exfalso
    have : (2 : Int) ^ 100 ≤ 2 ^ fs.length := by
      have := Nat.pow_le_pow_right (show 0 < 2 by decide) z
      exact_mod_cast this
    omega
theorem FacInv.start {n : Int} (h : 1 ≤ n) : FacInv n n 2 [] :=
  ⟨h, by omega, by simp [prodF], fun _ h => absurd h List.not_mem_nil, List.Pairwise.nil, fun e h1 h2 => by omega⟩
/-- one divisor: n = m * d ^ e with no d left in m -/
theorem FacInv.next0 {n0 n d : Int} {fs : List (Int × Nat)} (h : FacInv n0 n d fs) (hd : ¬ d ∣ n) : FacInv n0 n (d + 1) fs :=
  ⟨h.pos, by have := h.two; omega, h.prod, fun x hx => ⟨(h.prime x hx).1, (h.prime x hx).2.1, by have := (h.prime x hx).2.2; omega⟩, h.asc, fun e h1 h2 z => by
    by_cases he : e = d
    · rw [he] at z
      exact hd z
    · exact h.none e h1 (by omega) z⟩
theorem FacInv.next {n0 n d m : Int} {e : Nat} {fs : List (Int × Nat)} (h : FacInv n0 n d fs) (he : 0 < e) (hm : m * d ^ e = n) (hm0 : 1 ≤ m) (hd : ¬ d ∣ m) : FacInv n0 m (d + 1) (fs ++ [(d, e)]) := by
  have h2 := h.two
  have dn : d ∣ n := by
    obtain ⟨k, rfl⟩ : ∃ k, e = k + 1 := ⟨e - 1, by omega⟩
    exact ⟨m * d ^ k, by rw [← hm, Int.pow_succ]; grind⟩
  have mn : m ∣ n := ⟨d ^ e, hm.symm⟩
  refine ⟨hm0, by omega, ?_, ?_, ?_, ?_⟩
  · rw [prodF_snoc, ← h.prod, ← hm]
    grind
  · intro x hx
    rcases List.mem_append.mp hx with hx | hx
    · exact ⟨(h.prime x hx).1, (h.prime x hx).2.1, by have := (h.prime x hx).2.2; omega⟩
    · rw [List.mem_singleton.mp hx]
      refine ⟨⟨h2, fun c c1 c2 c3 => h.none c c1 c2 (Int.dvd_trans c3 dn)⟩, he, ?_⟩
      show d < d + 1
      omega
  · rw [List.pairwise_append]
    refine ⟨h.asc, List.pairwise_singleton .., fun a ha b hb => ?_⟩
    rw [List.mem_singleton.mp hb]
    exact (h.prime a ha).2.2
  · intro c c1 c2 c3
    by_cases hc : c = d
    · rw [hc] at c3
      exact hd c3
    · exact h.none c c1 (by omega) (Int.dvd_trans c3 mn)
theorem FacInv.done1 {n0 d : Int} {fs : List (Int × Nat)} (h : FacInv n0 1 d fs) : FacOk n0 fs :=
  ⟨by have := h.prod; omega, fun x hx => ⟨(h.prime x hx).1, (h.prime x hx).2.1⟩, h.asc⟩
theorem FacInv.done {n0 n d : Int} {fs : List (Int × Nat)} (h : FacInv n0 n d fs) (hn : 1 < n) (hd : n < d * d) : FacOk n0 (fs ++ [(n, 1)]) := by
  have hp : QR.Pm n := QR.pm_of_trial (by omega) (by have := h.two; omega) hd h.none
  refine ⟨by rw [prodF_snoc, Int.pow_one]; exact h.prod, ?_, ?_⟩
  · intro x hx
    rcases List.mem_append.mp hx with hx | hx
    · exact ⟨(h.prime x hx).1, (h.prime x hx).2.1⟩
    · rw [List.mem_singleton.mp hx]
      exact ⟨hp, Nat.le_refl 1⟩
  · rw [List.pairwise_append]
    refine ⟨h.asc, List.pairwise_singleton .., fun a ha b hb => ?_⟩
    rw [List.mem_singleton.mp hb]
    have := (h.prime a ha).2.2
    show a.1 < n
    rcases Int.lt_or_le n d with z | z
    · exact absurd (Int.dvd_refl n) (h.none n (by omega) z)
    · omega
/-! part m_germ -/
/-- rests modulo m tell no less modulo s -/
def Lv (m : Int) (R : List Int) (s : Int) : Prop := ∀ x y : Int, Int.gcd x m = 1 → Int.gcd y m = 1 → s ∣ x - y → (x % m ∈ R ↔ y % m ∈ R)
/-- the same told by a smaller modulus -/
structure Sub (m : Int) (R : List Int) (m' : Int) (R' : List Int) : Prop where
  dvd : m' ∣ m
  same : ∀ x : Int, Int.gcd x m = 1 → (x % m' ∈ R' ↔ x % m ∈ R)
theorem Sub.refl (m : Int) (R : List Int) : Sub m R m R := ⟨Int.dvd_refl m, fun _ _ => Iff.rfl⟩
theorem Sub.trans {m m1 m2 : Int} {R R1 R2 : List Int} (a : Sub m R m1 R1) (b : Sub m1 R1 m2 R2) : Sub m R m2 R2 := ⟨Int.dvd_trans b.dvd a.dvd, fun x h => (b.same x (QR.cop_dvd_right h a.dvd)).trans (a.same x h)⟩
structure Desc (m : Int) (R S : List Int) : Prop where
  pos : 1 ≤ m
  rests : ∀ r ∈ R, 0 ≤ r ∧ r < m ∧ Int.gcd r m = 1
  singles : ∀ p ∈ S, QR.OP p
def toldP (m : Int) (R : List Int) (p : Int) : Prop := ¬ p ∣ m ∧ p % m ∈ R
instance (m : Int) (R : List Int) (p : Int) : Decidable (toldP m R p) := inferInstanceAs (Decidable (¬ p ∣ m ∧ p % m ∈ R))
def memP (m : Int) (R S : List Int) (p : Int) : Prop := ¬ (toldP m R p ↔ p ∈ S)
instance (m : Int) (R S : List Int) (p : Int) : Decidable (memP m R S p) := inferInstanceAs (Decidable (¬ (toldP m R p ↔ p ∈ S)))
/-- what shortening shows -/
structure Short (m : Int) (R : List Int) (s : Int) (L : List Int) : Prop where
  inc : L.Pairwise (· < ·)
  mem : ∀ k ∈ L, k ∈ uL s
  same : ∀ x : Int, Int.gcd x m = 1 → (x % s ∈ L ↔ x % m ∈ R)
def liftsL (r s q : Int) : List Int := (List.range q.toNat).map fun k : Nat => r + (0 + (k : Int)) * s
def lftL (m r s q : Int) : List Int := (liftsL r s q).filter fun l => decide (Int.gcd l m = 1)
section
variable {m s q r : Int} {R : List Int}
theorem mem_lifts {l : Int} : l ∈ liftsL r s q ↔ ∃ k : Int, 0 ≤ k ∧ k < q ∧ l = r + k * s := by
  unfold liftsL
  rw [List.mem_map]
  constructor
  · rintro ⟨k, hk, rfl⟩
    rw [List.mem_range] at hk
    exact ⟨k, by omega, by omega, by rw [Int.zero_add]⟩
  · rintro ⟨k, a, b, rfl⟩
    exact ⟨k.toNat, List.mem_range.mpr (by omega), by rw [Int.zero_add, show ((k.toNat : Nat) : Int) = k by omega]⟩
theorem lift_bound {k : Int} (hs : 0 < s) (hm : m = s * q) (r0 : 0 ≤ r) (r1 : r < s) (k0 : 0 ≤ k) (k1 : k < q) : 0 ≤ r + k * s ∧ r + k * s < m := by
  have a : 0 ≤ k * s := Int.mul_nonneg k0 (by omega)
  have b : k * s ≤ (q - 1) * s := Int.mul_le_mul_of_nonneg_right (by omega) (by omega)
  have c : (q - 1) * s = s * q - s := by grind
  omega
theorem lift_mod {k : Int} (r0 : 0 ≤ r) (r1 : r < s) : (r + k * s) % s = r := by
  rw [Int.add_mul_emod_self_right, Int.emod_eq_of_lt r0 r1]
/-- a coprime lift there is -/
theorem lft_ne (hq : QR.Pm q) (hs : 0 < s) (hm : m = s * q) (hr : r ∈ uL s) : lftL m r s q ≠ [] := by
  obtain ⟨r0, r1, rc⟩ := mem_uL.mp hr
  have q2 := hq.1
  have c0 : ∀ k : Int, Int.gcd (r + k * s) s = 1 := fun k => (QR.cop_congr (y := r) ⟨k, by rw [Int.mul_comm]; omega⟩).mpr rc
  have : ∃ k : Int, 0 ≤ k ∧ k < q ∧ Int.gcd (r + k * s) m = 1 := by
    by_cases a : q ∣ r
    · refine ⟨1, by omega, by omega, ?_⟩
      rw [hm]
      refine QR.cop_mul (c0 1) (QR.cop_iff.mpr fun p hp b c => ?_)
      have pq : p = q := by
        rcases Int.lt_or_eq_of_le (Int.le_of_dvd (by omega) c) with z | z
        · exact absurd c (hq.2 p hp.1 z)
        · exact z
      subst pq
      have d : p ∣ s := by
        have := Int.dvd_sub b a
        rwa [Int.one_mul, Int.add_comm, Int.add_sub_cancel] at this
      exact QR.cop_iff.mp rc p hp a d
    · refine ⟨0, by omega, by omega, ?_⟩
      rw [hm, Int.zero_mul, Int.add_zero]
      refine QR.cop_mul rc (QR.cop_iff.mpr fun p hp b c => ?_)
      have pq : p = q := by
        rcases Int.lt_or_eq_of_le (Int.le_of_dvd (by omega) c) with z | z
        · exact absurd c (hq.2 p hp.1 z)
        · exact z
      exact a (pq ▸ b)
  obtain ⟨k, k0, k1, kc⟩ := this
  intro e
  have : r + k * s ∈ lftL m r s q := List.mem_filter.mpr ⟨mem_lifts.mpr ⟨k, k0, k1, rfl⟩, decide_eq_true kc⟩
  rw [e] at this
  cases this
theorem lft_prop (hs : 0 < s) (hm : m = s * q) (hr : r ∈ uL s) {l : Int} (hl : l ∈ lftL m r s q) : Int.gcd l m = 1 ∧ l % m = l ∧ l % s = r := by
  obtain ⟨r0, r1, rc⟩ := mem_uL.mp hr
  obtain ⟨a, b⟩ := List.mem_filter.mp hl
  obtain ⟨k, k0, k1, rfl⟩ := mem_lifts.mp a
  obtain ⟨b0, b1⟩ := lift_bound hs hm r0 r1 k0 k1
  exact ⟨of_decide_eq_true b, Int.emod_eq_of_lt b0 b1, lift_mod r0 r1⟩
theorem lft_all (hs : 0 < s) (hq : 0 < q) (hm : m = s * q) {x : Int} (hx : Int.gcd x m = 1) (hr : x % s = r) : x % m ∈ lftL m r s q := by
  have m0 : 0 < m := by rw [hm]; exact Int.mul_pos hs hq
  have e0 := Int.emod_nonneg x (show m ≠ 0 by omega)
  have e1 := Int.emod_lt_of_pos x m0
  refine List.mem_filter.mpr ⟨mem_lifts.mpr ⟨x % m / s, ?_, ?_, ?_⟩, decide_eq_true (QR.cop_emod.mpr hx)⟩
  · exact Int.ediv_nonneg e0 (by omega)
  · exact Int.ediv_lt_of_lt_mul hs (by rw [Int.mul_comm]; omega)
  · have e2 : x % m % s = r := by rw [← hr]; exact Int.emod_emod_of_dvd x ⟨q, hm⟩
    have := Int.mul_ediv_add_emod (x % m) s
    rw [e2] at this
    rw [Int.mul_comm (x % m / s)]
    omega
theorem unit_of (h : s ∣ m) {x : Int} (hs : 0 < s) (hx : Int.gcd x m = 1) : x % s ∈ uL s := mem_uL.mpr ⟨Int.emod_nonneg x (by omega), Int.emod_lt_of_pos x hs, QR.cop_emod.mpr (QR.cop_dvd_right hx h)⟩
/-- kept so far: of the units in us -/
structure Kept (m : Int) (R : List Int) (s : Int) (us L : List Int) : Prop where
  inc : L.Pairwise (· < ·)
  mem : ∀ k ∈ L, k ∈ us
  same : ∀ x : Int, Int.gcd x m = 1 → x % s ∈ us → (x % s ∈ L ↔ x % m ∈ R)
theorem Kept.nil : Kept m R s [] [] := ⟨List.Pairwise.nil, fun _ h => absurd h List.not_mem_nil, fun _ _ h => absurd h List.not_mem_nil⟩
theorem Kept.put {us L : List Int} (h : Kept m R s us L) (hlt : ∀ k ∈ us, k < r) (hall : ∀ x : Int, Int.gcd x m = 1 → x % s = r → x % m ∈ R) : Kept m R s (us ++ [r]) (L ++ [r]) := by
  refine ⟨List.pairwise_append.mpr ⟨h.inc, List.pairwise_singleton .., fun a ha b hb => by rw [List.mem_singleton.mp hb]; exact hlt a (h.mem a ha)⟩, fun k hk => ?_, fun x hx hu => ?_⟩
  · rcases List.mem_append.mp hk with hk | hk
    · exact List.mem_append_left _ (h.mem k hk)
    · exact List.mem_append_right _ hk
  · rcases List.mem_append.mp hu with hu | hu
    · rw [List.mem_append, ← h.same x hx hu, List.mem_singleton]
      refine ⟨fun z => z.elim id fun e => ?_, .inl⟩
      have := hlt _ hu
      omega
    · have e := List.mem_singleton.mp hu
      exact ⟨fun _ => hall x hx e, fun _ => List.mem_append_right _ hu⟩
theorem Kept.skip {us L : List Int} (h : Kept m R s us L) (hlt : ∀ k ∈ us, k < r) (hall : ∀ x : Int, Int.gcd x m = 1 → x % s = r → x % m ∉ R) : Kept m R s (us ++ [r]) L := by
  refine ⟨h.inc, fun k hk => List.mem_append_left _ (h.mem k hk), fun x hx hu => ?_⟩
  rcases List.mem_append.mp hu with hu | hu
  · exact h.same x hx hu
  · have e := List.mem_singleton.mp hu
    refine ⟨fun z => ?_, fun z => absurd z (hall x hx e)⟩
    have := hlt _ (h.mem _ z)
    omega
theorem Kept.done {L : List Int} (h : Kept m R s (uL s) L) (hd : s ∣ m) (hs : 0 < s) : Short m R s L := ⟨h.inc, h.mem, fun x hx => h.same x hx (unit_of hd hs hx)⟩
theorem Short.lv {L : List Int} (h : Short m R s L) : Lv m R s := fun x y hx hy d => by
  rw [← h.same x hx, ← h.same y hy, QR.emod_eq_of_dvd d]
theorem Short.sub {L : List Int} (h : Short m R s L) (hd : s ∣ m) : Sub m R s L := ⟨hd, h.same⟩
/-- what stays told no less by a divisor stays so ahead of a shortening -/
theorem Lv.up {m' s' : Int} {R' : List Int} (h : Sub m R m' R') (l : Lv m' R' s') (hd : s' ∣ s) : Lv m R s := fun x y hx hy d => by
  rw [← h.same x hx, ← h.same y hy]
  exact l x y (QR.cop_dvd_right hx h.dvd) (QR.cop_dvd_right hy h.dvd) (Int.dvd_trans hd d)
end
/-- a single prime changes sides -/
def togL (S : List Int) (p : Int) : List Int := if p ∈ S then S.filter (fun o => !decide (o = p)) else S ++ [p]
theorem mem_tog {S : List Int} {p k : Int} : k ∈ togL S p ↔ if k = p then p ∉ S else k ∈ S := by
  unfold togL
  by_cases h : p ∈ S
  · rw [if_pos h]
    by_cases e : k = p
    · subst e
      simp [h]
    · simp [e]
  · rw [if_neg h]
    by_cases e : k = p
    · subst e
      simp [h]
    · simp [e]
theorem tog_nodup {S : List Int} {p : Int} (h : S.Nodup) : (togL S p).Nodup := by
  unfold togL
  split
  · exact h.filter _
  · rename_i hp
    refine List.nodup_append.mpr ⟨h, by simp, fun a ha b hb e => hp ?_⟩
    rw [List.mem_singleton] at hb
    rw [← hb, ← e]
    exact ha
theorem tog_len {S : List Int} {p : Int} : (togL S p).length ≤ S.length + 1 := by
  unfold togL
  split
  · exact Nat.le_succ_of_le (List.length_filter_le _ _)
  · simp
/-- the singles behind a shortening by q -/
def nextS (m : Int) (L S : List Int) (q : Int) : List Int := if q ≠ 2 ∧ toldP m L q then togL S q else S
/-- an odd prime, or coprime to the modulus -/
def PrOk (m p : Int) : Prop := QR.OP p ∨ (2 ≤ p ∧ Int.gcd p m = 1)
theorem PrOk.two {m p : Int} (h : PrOk m p) : 2 ≤ p := h.elim (fun h => h.1.1) (·.1)
theorem PrOk.cop {m p : Int} (h : PrOk m p) (d : ¬ p ∣ m) : Int.gcd p m = 1 := h.elim (fun h => (QR.pm_cop h.1).mpr d) (·.2)
theorem PrOk.dvd {m m' p : Int} (h : PrOk m p) (d : m' ∣ m) : PrOk m' p := h.imp_right fun h => ⟨h.1, QR.cop_dvd_right h.2 d⟩
theorem PrOk.ndvd {m p : Int} (h2 : 2 ≤ p) (h : Int.gcd p m = 1) : ¬ p ∣ m := fun d => by
  have e := QR.dvd_gcd (Int.dvd_refl p) d
  rw [h] at e
  have := Int.le_of_dvd (by decide) e
  omega
theorem memP_next {m q : Int} {R L S : List Int} (hq : QR.Pm q) (hs : 1 ≤ m / q) (hd : q ∣ m) (h : Short m R (m / q) L) {p : Int} (hp : PrOk m p) : memP (m / q) L (nextS (m / q) L S q) p ↔ memP m R S p := by
  have hm : m = m / q * q := (Int.ediv_mul_cancel hd).symm
  unfold memP nextS
  by_cases e : p = q
  · subst e
    have op : QR.OP p := hp.elim id fun z => absurd hd (PrOk.ndvd z.1 z.2)
    have p2 : p ≠ 2 := fun z => by have := op.2; omega
    have t0 : ¬ toldP m R p := fun z => z.1 hd
    by_cases t : toldP (m / p) L p
    · rw [if_pos ⟨p2, t⟩, mem_tog, if_pos rfl]
      simp [t, t0]
    · rw [if_neg fun z => t z.2]
      simp [t, t0]
  · have td : p ∣ m ↔ p ∣ m / q := by
      constructor
      · intro z
        rcases hp with hp | hp
        · rw [hm] at z
          rcases QR.Pm.dvd_mul hp.1 z with z | z
          · exact z
          · exfalso
            have p2 := hp.1.1
            rcases Int.lt_or_eq_of_le (Int.le_of_dvd (by have := hq.1; omega) z) with y | y
            · exact hq.2 p p2 y z
            · exact e y
        · exact absurd z (PrOk.ndvd hp.1 hp.2)
      · intro z
        rw [hm]
        exact Int.dvd_mul_of_dvd_left z
    have t : toldP (m / q) L p ↔ toldP m R p := by
      unfold toldP
      rw [td]
      by_cases z : p ∣ m / q
      · simp [z]
      · have := h.same p (hp.cop fun y => z (td.mp y))
        simp [z, this]
    rw [t]
    have s : p ∈ (if q ≠ 2 ∧ toldP (m / q) L q then togL S q else S) ↔ p ∈ S := by
      split
      · rw [mem_tog, if_neg e]
      · exact Iff.rfl
    rw [s]
/-! part m_facs -/
theorem pow_dvd {p q : Int} (hp : QR.Pm p) (hq : QR.Pm q) : ∀ e : Nat, p ∣ q ^ e → p = q
  | 0, h => by
    rw [Int.pow_zero] at h
    have := Int.le_of_dvd (by decide) h
    have := hp.1
    omega
  | e + 1, h => by
    rw [Int.pow_succ] at h
    rcases QR.Pm.dvd_mul hp h with h | h
    · exact pow_dvd hp hq e h
    · rcases Int.lt_or_eq_of_le (Int.le_of_dvd (by have := hq.1; omega) h) with z | z
      · exact absurd h (hq.2 p hp.1 z)
      · exact z
theorem prodF_dvd {p : Int} (hp : QR.Pm p) : ∀ {fs : List (Int × Nat)}, (∀ x, x ∈ fs → QR.Pm x.1 ∧ 1 ≤ x.2) → (p ∣ prodF fs ↔ ∃ x ∈ fs, x.1 = p)
  | [], _ => by
    constructor
    · intro h
      have := Int.le_of_dvd (by simp [prodF]) h
      have := hp.1
      simp [prodF] at *
      omega
    · rintro ⟨x, h, _⟩
      cases h
  | y :: fs, h => by
    have ih := prodF_dvd hp (fs := fs) fun x hx => h x (List.mem_cons_of_mem _ hx)
    obtain ⟨y1, y2⟩ := h y List.mem_cons_self
    constructor
    · intro d
      rcases QR.Pm.dvd_mul hp (show p ∣ y.1 ^ y.2 * prodF fs from d) with d | d
      · exact ⟨y, List.mem_cons_self, (pow_dvd hp y1 _ d).symm⟩
      · obtain ⟨x, hx, e⟩ := ih.mp d
        exact ⟨x, List.mem_cons_of_mem _ hx, e⟩
    · rintro ⟨x, hx, e⟩
      show p ∣ y.1 ^ y.2 * prodF fs
      rcases List.mem_cons.mp hx with rfl | hx
      · refine Int.dvd_mul_of_dvd_left ?_
        rw [e]
        obtain ⟨k, hk⟩ : ∃ k, x.2 = k + 1 := ⟨x.2 - 1, by omega⟩
        rw [hk, Int.pow_succ]
        exact Int.dvd_mul_left _ _
      · exact Int.dvd_mul_of_dvd_right (ih.mpr ⟨x, hx, e⟩)
theorem FacOk.mem {n p : Int} {fs : List (Int × Nat)} (h : FacOk n fs) : (∃ x ∈ fs, x.1 = p) ↔ QR.Pm p ∧ p ∣ n := by
  constructor
  · rintro ⟨x, hx, rfl⟩
    have hp := (h.prime x hx).1
    exact ⟨hp, by rw [← h.prod]; exact (prodF_dvd hp h.prime).mpr ⟨x, hx, rfl⟩⟩
  · rintro ⟨hp, d⟩
    rw [← h.prod] at d
    exact (prodF_dvd hp h.prime).mp d
theorem FacOk.len {n : Int} {fs : List (Int × Nat)} (h : FacOk n fs) (hn : n < 2 ^ 99) : fs.length < 100 := by
  have := prodF_big fs h.prime
  rw [h.prod] at this
  rcases Nat.lt_or_ge fs.length 100 with z | z
  · exact z
  · exfalso
    have a : (2 : Nat) ^ 100 ≤ 2 ^ fs.length := Nat.pow_le_pow_right (by decide) z
    have b : ((2 ^ fs.length : Nat) : Int) = 2 ^ fs.length := by rw [Int.natCast_pow]; rfl
    have c : (2 : Int) ^ 99 < ((2 ^ 100 : Nat) : Int) := by decide
    omega
/-! part m_least -/
structure LeastOk (m : Int) (R S : List Int) (m' : Int) (R' S' : List Int) : Prop where
  desc : Desc m' R' S'
  sub : Sub m R m' R'
  rn : R'.Nodup
  sn : S'.Nodup
  mem : ∀ p, PrOk m p → (memP m' R' S' p ↔ memP m R S p)
  len : m' * 2 ^ S'.length ≤ m * 2 ^ S.length
  src : ∀ p ∈ S', p ∈ S ∨ p ∣ m
/-- no divisor of the modulus by one of its primes tells as much -/
def LowAt (m : Int) (R : List Int) (q : Int) : Prop := q ∣ m → ¬ Lv m R (m / q)
theorem LeastOk.refl {m : Int} {R S : List Int} (h : Desc m R S) (rn : R.Nodup) (sn : S.Nodup) : LeastOk m R S m R S := ⟨h, Sub.refl m R, rn, sn, fun _ _ => Iff.rfl, Int.le_refl _, fun _ h => .inl h⟩
section
variable {m m' q : Int} {R S R' S' L : List Int}
theorem div_pos_of {m q : Int} (hm : 1 ≤ m) (hq : 2 ≤ q) (hd : q ∣ m) : 1 ≤ m / q ∧ m / q + 1 ≤ m := by
  have e := Int.ediv_mul_cancel hd
  have a : 1 ≤ m / q := by
    rcases Int.lt_or_le 0 (m / q) with z | z
    · exact z
    · have := Int.mul_le_mul_of_nonneg_right z (show 0 ≤ q by omega)
      omega
  refine ⟨a, ?_⟩
  have := Int.mul_le_mul_of_nonneg_left hq (show 0 ≤ m / q by omega)
  omega
theorem pow2_mono {a b : Nat} (h : a ≤ b) : (2 : Int) ^ a ≤ 2 ^ b := by
  have := Nat.pow_le_pow_right (show 0 < 2 by decide) h
  exact_mod_cast this
theorem LeastOk.next (h : LeastOk m R S m' R' S') (hq : QR.Pm q) (hd : q ∣ m') (k : Short m' R' (m' / q) L) : LeastOk m R S (m' / q) L (nextS (m' / q) L S' q) := by
  have q2 := hq.1
  obtain ⟨s1, s2⟩ := div_pos_of h.desc.pos q2 hd
  refine ⟨⟨s1, fun r hr => ?_, fun p hp => ?_⟩, h.sub.trans (k.sub ⟨q, (Int.ediv_mul_cancel hd).symm⟩), k.inc.imp fun h => by omega, ?_, fun p hp => (memP_next hq s1 hd k (hp.dvd h.sub.dvd)).trans (h.mem p hp), ?_, fun p hp => ?_⟩
  · exact mem_uL.mp (k.mem r hr)
  · unfold nextS at hp
    split at hp
    · rename_i z
      rw [mem_tog] at hp
      by_cases e : p = q
      · exact ⟨e ▸ hq, QR.pm_odd (e ▸ hq) (by omega)⟩
      · rw [if_neg e] at hp
        exact h.desc.singles p hp
    · exact h.desc.singles p hp
  · unfold nextS
    split
    · exact tog_nodup h.sn
    · exact h.sn
  · refine Int.le_trans ?_ h.len
    have a : (2 : Int) ^ (nextS (m' / q) L S' q).length ≤ 2 ^ S'.length * 2 := by
      rw [← Int.pow_succ]
      refine pow2_mono ?_
      unfold nextS
      split
      · exact tog_len
      · omega
    refine Int.le_trans (Int.mul_le_mul_of_nonneg_left a (by omega)) ?_
    rw [Int.mul_comm (2 ^ S'.length), ← Int.mul_assoc]
    refine Int.mul_le_mul_of_nonneg_right ?_ (Int.pow_nonneg (by decide))
    have := Int.mul_le_mul_of_nonneg_left q2 (show 0 ≤ m' / q by omega)
    rw [Int.ediv_mul_cancel hd] at this
    exact this
  · unfold nextS at hp
    split at hp
    · rw [mem_tog] at hp
      by_cases e : p = q
      · exact .inr (e ▸ Int.dvd_trans hd h.sub.dvd)
      · rw [if_neg e] at hp
        exact h.src p hp
    · exact h.src p hp
theorem LeastOk.few (h : LeastOk m R S m' R' S') (hm : m ≤ 4000) : S'.length ≤ S.length + 11 := by
  rcases Nat.lt_or_ge (S.length + 11) S'.length with z | z
  · exfalso
    have a := h.len
    have b : (2 : Int) ^ S.length * 2 ^ 12 ≤ 2 ^ S'.length := by
      rw [← Int.pow_add]
      exact pow2_mono (by omega)
    have c : m * 2 ^ S.length ≤ 4000 * 2 ^ S.length := Int.mul_le_mul_of_nonneg_right hm (Int.pow_nonneg (by decide))
    have d := Int.mul_le_mul_of_nonneg_right h.desc.pos (show (0 : Int) ≤ 2 ^ S'.length from Int.pow_nonneg (by decide))
    have p0 : (0 : Int) < 2 ^ S.length := Int.pow_pos (by decide)
    omega
  · exact z
theorem LowAt.next {q0 : Int} (l : LowAt m' R' q0) (hq : QR.Pm q) (hq0 : QR.Pm q0) (p1 : 1 ≤ m') (hd : q ∣ m') (k : Short m' R' (m' / q) L) : LowAt (m' / q) L q0 := by
  intro d z
  have e := (Int.ediv_mul_cancel hd)
  have d' : q0 ∣ m' := by rw [← e]; exact Int.dvd_mul_of_dvd_left d
  have q2 := hq0.1
  have e2 := Int.ediv_mul_cancel d
  have e3 : m' = m' / q / q0 * q * q0 := by rw [Int.mul_assoc, Int.mul_comm q q0, ← Int.mul_assoc, e2, e]
  exact l d' (Lv.up (k.sub ⟨q, e.symm⟩) z ⟨q, Int.ediv_eq_of_eq_mul_left (by omega) e3⟩)
theorem lowAt_of_not (h : ¬ Lv m R (m / q)) : LowAt m R q := fun _ => h
theorem lowAt_nd (h : ¬ q ∣ m) : LowAt m R q := fun z => absurd z h
theorem dvd_next {x : Int} (hx : QR.Pm x) (hq : QR.Pm q) (hd : q ∣ m) (h : x ∣ m) (ne : x ≠ q) : x ∣ m / q := by
  rw [← Int.ediv_mul_cancel hd] at h
  rcases QR.Pm.dvd_mul hx h with z | z
  · exact z
  · exfalso
    rcases Int.lt_or_eq_of_le (Int.le_of_dvd (by have := hq.1; omega) z) with y | y
    · exact hq.2 x hx.1 y z
    · exact ne y
end
/-- a least description, in order -/
structure IsLeast (m : Int) (R S : List Int) : Prop where
  desc : Desc m R S
  ri : R.Pairwise (· < ·)
  si : S.Pairwise (· < ·)
  low : ∀ q, QR.Pm q → LowAt m R q
/-- what making a set gives -/
structure Made (m : Int) (R S : List Int) (m' : Int) (R' S' : List Int) : Prop where
  least : IsLeast m' R' S'
  sub : Sub m R m' R'
  mem : ∀ p, PrOk m p → (memP m' R' S' p ↔ memP m R S p)
  few : S'.length ≤ S.length + 11
  src : ∀ p ∈ S', p ∈ S ∨ p ∣ m
def SameL (a b : List Int) : Prop := ∀ k, k ∈ a ↔ k ∈ b
theorem Lv.congr {m : Int} {R R' : List Int} {s : Int} (h : SameL R R') : Lv m R s ↔ Lv m R' s := by
  unfold Lv
  exact ⟨fun l x y a b c => by rw [← h, ← h]; exact l x y a b c, fun l x y a b c => by rw [h, h]; exact l x y a b c⟩
theorem toldP_congr {m p : Int} {R R' : List Int} (h : SameL R R') : toldP m R p ↔ toldP m R' p := by
  unfold toldP
  rw [h]
theorem memP_congr {m p : Int} {R R' S S' : List Int} (h : SameL R R') (k : SameL S S') : memP m R S p ↔ memP m R' S' p := by
  unfold memP
  rw [toldP_congr h, k]
theorem LeastOk.made {m : Int} {R S R0 S0 : List Int} {m' : Int} {R1 S1 R' S' : List Int} (h : LeastOk m R0 S0 m' R1 S1) (low : ∀ q, QR.Pm q → LowAt m' R1 q) (hm : m ≤ 4000) (e1 : SameL R0 R) (e2 : SameL S0 S) (l0 : S0.length ≤ S.length) (e3 : SameL R' R1) (e4 : SameL S' S1) (l1 : S'.length ≤ S1.length) (r : R'.Pairwise (· < ·)) (s : S'.Pairwise (· < ·)) : Made m R S m' R' S' := by
  refine ⟨⟨⟨h.desc.pos, fun x hx => h.desc.rests x ((e3 x).mp hx), fun x hx => h.desc.singles x ((e4 x).mp hx)⟩, r, s, fun q hq d z => low q hq d ((Lv.congr e3).mp z)⟩, ⟨h.sub.dvd, fun x hx => ?_⟩, fun p hp => ?_, ?_, fun p hp => ?_⟩
  · rw [e3, h.sub.same x hx, e1]
  · rw [memP_congr e3 e4, h.mem p hp, memP_congr e1 e2]
  · have := h.few hm
    omega
  · exact (h.src p ((e4 p).mp hp)).imp_left (e2 p).mp
theorem nodup_sub_len : ∀ {l s : List Int}, l.Nodup → (∀ k ∈ l, k ∈ s) → l.length ≤ s.length
  | [], _, _, _ => Nat.zero_le _
  | k :: l, s, h, hs => by
    have hk := hs k List.mem_cons_self
    obtain ⟨h1, h2⟩ := List.nodup_cons.mp h
    have := nodup_sub_len (l := l) (s := s.erase k) h2 fun j hj => (List.mem_erase_of_ne fun (e : j = k) => h1 (e ▸ hj)).mpr (hs j (List.mem_cons_of_mem _ hj))
    rw [List.length_erase_of_mem hk] at this
    have := List.length_pos_of_mem hk
    rw [List.length_cons]
    omega
/-- a unit of a divisor comes from a unit -/
theorem unit_lift : ∀ (n : Nat) {m s r : Int}, 0 < s → m = s * n → 0 < n → r ∈ uL s → ∃ x, Int.gcd x m = 1 ∧ x % s = r := by
  intro n
  induction n using Nat.strongRecOn with
  | _ n ih =>
    intro m s r hs hm hn hr
    rcases Nat.lt_or_ge n 2 with h | h
    · obtain ⟨r0, r1, rc⟩ := mem_uL.mp hr
      have : n = 1 := by omega
      subst this
      refine ⟨r, ?_, Int.emod_eq_of_lt r0 r1⟩
      rw [hm, show s * ((1 : Nat) : Int) = s by simp]
      exact rc
    · obtain ⟨q, hq, hd⟩ := QR.exists_pm n h
      have q2 := hq.1
      obtain ⟨l, hl⟩ := List.exists_mem_of_ne_nil _ (lft_ne (m := s * q) hq hs rfl hr)
      obtain ⟨c, e1, e2⟩ := lft_prop hs rfl hr hl
      obtain ⟨k, hk⟩ := hd
      have sq : 0 < s * q := Int.mul_pos hs (by omega)
      have k0 : 0 < k := by
        rcases Int.lt_or_le 0 k with z | z
        · exact z
        · have := Int.mul_le_mul_of_nonneg_left z (show 0 ≤ q by omega)
          omega
      have hu : l ∈ uL (s * q) := mem_uL.mpr ⟨by rw [← e1]; exact Int.emod_nonneg _ (by omega), by rw [← e1]; exact Int.emod_lt_of_pos _ sq, c⟩
      have kn : k.toNat < n := by
        have := Int.mul_le_mul_of_nonneg_right q2 (show 0 ≤ k by omega)
        omega
      obtain ⟨x, x1, x2⟩ := ih k.toNat kn sq (show m = s * q * ((k.toNat : Nat) : Int) by rw [hm, hk, show ((k.toNat : Nat) : Int) = k by omega, Int.mul_assoc, Int.mul_comm q k]) (by omega) hu
      refine ⟨x, x1, ?_⟩
      have : x % (s * q) % s = x % s := Int.emod_emod_of_dvd x ⟨q, rfl⟩
      rw [← this, x2, e2]
theorem Sub.lift {m m' : Int} {R R' : List Int} (h : Sub m R m' R') (m1 : 1 ≤ m) (m2 : 1 ≤ m') {r : Int} (hr : r ∈ uL m') : ∃ x, Int.gcd x m = 1 ∧ x % m' = r := by
  obtain ⟨k, hk⟩ := h.dvd
  have k0 : 0 < k := by
    rcases Int.lt_or_le 0 k with z | z
    · exact z
    · have := Int.mul_le_mul_of_nonneg_left z (show 0 ≤ m' by omega)
      omega
  exact unit_lift k.toNat (by omega) (by rw [hk, show ((k.toNat : Nat) : Int) = k by omega]) (by omega) hr
theorem Made.nil_iff {m m' : Int} {R S R' S' : List Int} (h : Made m R S m' R' S') (m1 : 1 ≤ m) (hR : ∀ r ∈ R, 0 ≤ r ∧ r < m ∧ Int.gcd r m = 1) : R' = [] ↔ R = [] := by
  constructor
  · intro e
    refine List.eq_nil_iff_forall_not_mem.mpr fun r hr => ?_
    obtain ⟨r0, r1, rc⟩ := hR r hr
    have := (h.sub.same r rc).mpr (by rw [Int.emod_eq_of_lt r0 r1]; exact hr)
    rw [e] at this
    cases this
  · intro e
    refine List.eq_nil_iff_forall_not_mem.mpr fun r hr => ?_
    obtain ⟨x, x1, x2⟩ := h.sub.lift m1 h.least.desc.pos (mem_uL.mpr (h.least.desc.rests r hr))
    have := (h.sub.same x x1).mp (by rw [x2]; exact hr)
    rw [e] at this
    cases this
/-- no rests, and no singles but those told -/
theorem Made.nil_sing {m m' : Int} {S R' S' : List Int} (h : Made m [] S m' R' S') (m1 : 1 ≤ m) : R' = [] ∧ ∀ p, QR.OP p → (p ∈ S' ↔ p ∈ S) := by
  have e := (h.nil_iff m1 fun r hr => absurd hr List.not_mem_nil).mpr rfl
  refine ⟨e, fun p hp => ?_⟩
  have := h.mem p (.inl hp)
  subst e
  simpa [memP, toldP] using this
/-! part m_can -/
theorem bez : ∀ (b a : Nat), ∃ u v : Int, (a : Int) * u + b * v = (Nat.gcd a b : Nat) := by
  intro b
  induction b using Nat.strongRecOn with
  | _ b ih =>
    intro a
    rcases Nat.eq_zero_or_pos b with h | h
    · subst h
      exact ⟨1, 0, by simp⟩
    · obtain ⟨u, v, e⟩ := ih (a % b) (Nat.mod_lt _ h) b
      refine ⟨v, u - (a / b : Nat) * v, ?_⟩
      have g : Nat.gcd a b = Nat.gcd b (a % b) := by rw [Nat.gcd_comm a b, Nat.gcd_rec b a, Nat.gcd_comm]
      rw [g, ← e]
      have d : (a : Int) = b * (a / b : Nat) + (a % b : Nat) := by
        have := Nat.div_add_mod a b
        omega
      generalize ((a / b : Nat) : Int) = q at *
      generalize ((a % b : Nat) : Int) = r at *
      rw [d]
      grind
theorem crt {s t x y : Int} (hs : 0 ≤ s) (ht : 0 ≤ t) (h : ((Int.gcd s t : Nat) : Int) ∣ x - y) : ∃ z, s ∣ z - x ∧ t ∣ z - y := by
  obtain ⟨u, v, e⟩ := bez t.toNat s.toNat
  obtain ⟨k, hk⟩ := h
  have g : Nat.gcd s.toNat t.toNat = Int.gcd s t := by
    rw [Int.gcd]
    congr 1 <;> omega
  rw [g, show ((s.toNat : Nat) : Int) = s by omega, show ((t.toNat : Nat) : Int) = t by omega] at e
  rw [← e] at hk
  exact ⟨x - s * u * k, ⟨-(u * k), by grind⟩, ⟨v * k, by grind⟩⟩
theorem lift_of_dvd {m L z : Int} (m1 : 1 ≤ m) (L0 : 0 ≤ L) (d : L ∣ m) (h : Int.gcd z L = 1) : ∃ w, Int.gcd w m = 1 ∧ L ∣ w - z := by
  obtain ⟨k, hk⟩ := d
  have L1 : 0 < L := by
    rcases Int.lt_or_eq_of_le L0 with c | c
    · exact c
    · rw [← c, Int.zero_mul] at hk
      omega
  have k0 : 0 < k := by
    rcases Int.lt_or_le 0 k with c | c
    · exact c
    · have := Int.mul_le_mul_of_nonneg_left c (show 0 ≤ L by omega)
      omega
  obtain ⟨w, w1, w2⟩ := unit_lift k.toNat (m := m) (r := z % L) L1 (by rw [hk, show ((k.toNat : Nat) : Int) = k by omega]) (by omega) (mem_uL.mpr ⟨Int.emod_nonneg _ (by omega), Int.emod_lt_of_pos _ L1, QR.cop_emod.mpr h⟩)
  exact ⟨w, w1, QR.dvd_of_emod_eq w2⟩
section
variable {m s t : Int} {R : List Int}
/-- a unit of the whole with given rests, where they agree -/
theorem meet {x y : Int} (m1 : 1 ≤ m) (s1 : 1 ≤ s) (t1 : 1 ≤ t) (hs : s ∣ m) (ht : t ∣ m) (hx : Int.gcd x m = 1) (hy : Int.gcd y m = 1) (d : ((Int.gcd s t : Nat) : Int) ∣ x - y) : ∃ z, Int.gcd z m = 1 ∧ s ∣ z - x ∧ t ∣ z - y := by
  obtain ⟨z, zx, zy⟩ := crt (by omega) (by omega) d
  have hL : ((Int.lcm s t : Nat) : Int) ∣ m := Int.coe_lcm_dvd hs ht
  have sL : s ∣ ((Int.lcm s t : Nat) : Int) := Int.dvd_lcm_left ..
  have tL : t ∣ ((Int.lcm s t : Nat) : Int) := Int.dvd_lcm_right ..
  have Lst : ((Int.lcm s t : Nat) : Int) ∣ s * t := Int.coe_lcm_dvd (Int.dvd_mul_right ..) (Int.dvd_mul_left ..)
  have lcm0 : (0 : Int) ≤ ((Int.lcm s t : Nat) : Int) := by omega
  generalize ((Int.lcm s t : Nat) : Int) = L at *
  have cz : Int.gcd z L = 1 := QR.cop_iff.mpr fun p hp a b => by
    rcases QR.Pm.dvd_mul hp (Int.dvd_trans b Lst) with c | c
    · refine QR.cop_iff.mp hx p hp ?_ (Int.dvd_trans c hs)
      have := Int.dvd_sub a (Int.dvd_trans c zx)
      rwa [show z - (z - x) = x by omega] at this
    · refine QR.cop_iff.mp hy p hp ?_ (Int.dvd_trans c ht)
      have := Int.dvd_sub a (Int.dvd_trans c zy)
      rwa [show z - (z - y) = y by omega] at this
  obtain ⟨w, w1, w2⟩ := lift_of_dvd m1 lcm0 hL cz
  refine ⟨w, w1, ?_, ?_⟩
  · have := Int.dvd_add (Int.dvd_trans sL w2) zx
    rwa [show w - z + (z - x) = w - x by omega] at this
  · have := Int.dvd_add (Int.dvd_trans tL w2) zy
    rwa [show w - z + (z - y) = w - y by omega] at this
/-- what two divisors tell, their common divisor tells -/
theorem Lv.gcd (m1 : 1 ≤ m) (s1 : 1 ≤ s) (t1 : 1 ≤ t) (hs : s ∣ m) (ht : t ∣ m) (a : Lv m R s) (b : Lv m R t) : Lv m R ((Int.gcd s t : Nat) : Int) := by
  intro x y hx hy d
  obtain ⟨w, w1, w2, w3⟩ := meet m1 s1 t1 hs ht hx hy d
  exact (a w x w1 hx w2).symm.trans (b w y w1 hy w3)
theorem Lv.mono (h : Lv m R s) (d : s ∣ t) : Lv m R t := fun x y hx hy e => h x y hx hy (Int.dvd_trans d e)
/-- told ahead of a shortening, told behind it -/
theorem Lv.down {m' : Int} {R' : List Int} (h : Sub m R m' R') (m1 : 1 ≤ m) (p1 : 1 ≤ m') (l : Lv m R s) (d : s ∣ m') : Lv m' R' s := fun x y hx hy e => by
  obtain ⟨u, u1, u2⟩ := lift_of_dvd m1 (by omega) h.dvd hx
  obtain ⟨v, v1, v2⟩ := lift_of_dvd m1 (by omega) h.dvd hy
  have := l u v u1 v1 (by
    have a := Int.dvd_sub (Int.dvd_add (Int.dvd_trans d u2) e) (Int.dvd_trans d v2)
    rwa [show u - x + (x - y) - (v - y) = u - v by omega] at a)
  rw [← h.same u u1, ← h.same v v1, QR.emod_eq_of_dvd u2, QR.emod_eq_of_dvd v2] at this
  exact this
/-- a least modulus divides each that tells as much -/
theorem low_dvd {m' : Int} {R' : List Int} (h : Sub m R m' R') (m1 : 1 ≤ m) (p1 : 1 ≤ m') (low : ∀ q, QR.Pm q → LowAt m' R' q) (t1 : 1 ≤ t) (ht : t ∣ m) (l : Lv m R t) : m' ∣ t := by
  have lm : Lv m R m' := fun x y hx hy e => by rw [← h.same x hx, ← h.same y hy, QR.emod_eq_of_dvd e]
  have lg := Lv.gcd m1 p1 t1 h.dvd ht lm l
  have gd : ((Int.gcd m' t : Nat) : Int) ∣ m' := Int.gcd_dvd_left ..
  have gt : ((Int.gcd m' t : Nat) : Int) ∣ t := Int.gcd_dvd_right ..
  have g0 : 0 ≤ ((Int.gcd m' t : Nat) : Int) := by omega
  generalize ((Int.gcd m' t : Nat) : Int) = g at *
  obtain ⟨k, hk⟩ := gd
  have k1 : 1 ≤ k := by
    rcases Int.lt_or_le 0 k with c | c
    · omega
    · have := Int.mul_le_mul_of_nonneg_left c g0
      omega
  rcases Int.lt_or_le k 2 with c | c
  · have : k = 1 := by omega
    rw [this, Int.mul_one] at hk
    exact hk ▸ gt
  · exfalso
    obtain ⟨q, hq, qd⟩ := QR.exists_pm k.toNat (by omega)
    rw [show ((k.toNat : Nat) : Int) = k by omega] at qd
    obtain ⟨j, hj⟩ := qd
    have q2 := hq.1
    have e : m' = g * j * q := by rw [hk, hj, Int.mul_assoc, Int.mul_comm q j]
    have md : q ∣ m' := ⟨g * j, by rw [e, Int.mul_comm]⟩
    have mq : m' / q = g * j := Int.ediv_eq_of_eq_mul_left (by omega) e
    refine low q hq md (Lv.down h m1 p1 (Lv.mono lg ⟨j, mq⟩) ⟨q, ?_⟩)
    rw [mq]
    exact e
end
theorem inc_same : ∀ {a b : List Int}, a.Pairwise (· < ·) → b.Pairwise (· < ·) → (∀ k, k ∈ a ↔ k ∈ b) → a = b
  | [], [], _, _, _ => rfl
  | [], y :: b, _, _, h => absurd ((h y).mpr List.mem_cons_self) List.not_mem_nil
  | x :: a, [], _, _, h => absurd ((h x).mp List.mem_cons_self) List.not_mem_nil
  | x :: a, y :: b, ha, hb, h => by
    obtain ⟨a1, a2⟩ := List.pairwise_cons.mp ha
    obtain ⟨b1, b2⟩ := List.pairwise_cons.mp hb
    have e : x = y := by
      rcases List.mem_cons.mp ((h x).mp List.mem_cons_self) with e | m1
      · exact e
      · rcases List.mem_cons.mp ((h y).mpr List.mem_cons_self) with e | m2
        · exact e.symm
        · have := b1 x m1
          have := a1 y m2
          omega
    subst e
    rw [inc_same a2 b2 fun k => ?_]
    constructor
    · intro hk
      rcases List.mem_cons.mp ((h k).mp (List.mem_cons_of_mem _ hk)) with e | z
      · have := a1 k hk
        omega
      · exact z
    · intro hk
      rcases List.mem_cons.mp ((h k).mpr (List.mem_cons_of_mem _ hk)) with e | z
      · have := b1 k hk
        omega
      · exact z
/-- two least descriptions with the same germ and members are one -/
theorem least_unique {M m1 m2 : Int} {R1 R2 S1 S2 : List Int} (M1 : 1 ≤ M) (d1 : m1 ∣ M) (d2 : m2 ∣ M) (l1 : IsLeast m1 R1 S1) (l2 : IsLeast m2 R2 S2) (g : ∀ x, Int.gcd x M = 1 → (x % m1 ∈ R1 ↔ x % m2 ∈ R2)) (mem : ∀ p, QR.OP p → (memP m1 R1 S1 p ↔ memP m2 R2 S2 p)) : m1 = m2 ∧ R1 = R2 ∧ S1 = S2 := by
  have p1 := l1.desc.pos
  have p2 := l2.desc.pos
  have s1 : Sub M ((uL M).filter fun u => decide (u % m1 ∈ R1)) m1 R1 := ⟨d1, fun x hx => by
    rw [List.mem_filter, decide_eq_true_iff, Int.emod_emod_of_dvd x d1]
    exact ⟨fun h => ⟨unit_of (Int.dvd_refl M) (by omega) hx, h⟩, fun h => h.2⟩⟩
  have s2 : Sub M ((uL M).filter fun u => decide (u % m1 ∈ R1)) m2 R2 := ⟨d2, fun x hx => by
    rw [← g x hx, s1.same x hx]⟩
  have lv : ∀ {m' : Int} {R' : List Int}, Sub M ((uL M).filter fun u => decide (u % m1 ∈ R1)) m' R' → Lv M ((uL M).filter fun u => decide (u % m1 ∈ R1)) m' := fun h x y hx hy e => by rw [← h.same x hx, ← h.same y hy, QR.emod_eq_of_dvd e]
  have e : m1 = m2 := Int.le_antisymm (Int.le_of_dvd (by omega) (low_dvd s1 M1 p1 l1.low p2 d2 (lv s2))) (Int.le_of_dvd (by omega) (low_dvd s2 M1 p2 l2.low p1 d1 (lv s1)))
  subst e
  have eR : R1 = R2 := inc_same l1.ri l2.ri fun r => by
    constructor
    · intro hr
      obtain ⟨x, x1, x2⟩ := s1.lift M1 p1 (mem_uL.mpr (l1.desc.rests r hr))
      have := (g x x1).mp (by rw [x2]; exact hr)
      rwa [x2] at this
    · intro hr
      obtain ⟨x, x1, x2⟩ := s1.lift M1 p1 (mem_uL.mpr (l2.desc.rests r hr))
      have := (g x x1).mpr (by rw [x2]; exact hr)
      rwa [x2] at this
  subst eR
  refine ⟨rfl, rfl, inc_same l1.si l2.si fun p => ?_⟩
  by_cases hp : QR.OP p
  · have := mem p hp
    unfold memP at this
    by_cases t : toldP m1 R1 p <;> by_cases a : p ∈ S1 <;> by_cases b : p ∈ S2 <;> simp [t, a, b] at this ⊢
  · exact ⟨fun h => absurd (l1.desc.singles p h) hp, fun h => absurd (l2.desc.singles p h) hp⟩
/-! part m_max3 -/
def max3 (i j k : Int) : Int := if (if i < j then j else i) < k then k else (if i < j then j else i)
def rMax3 : List V → Hp → VK → Prop := fun xs H Q => ∃ i j k, xs = [.int i, .int j, .int k] ∧ Q (.int (max3 i j k)) H
theorem c_max3 {X : Cx} (hc : X.calm = true) : CallR X (.builtin "max") rMax3 := by
  intro pins s σ H xs us Q I r h
  obtain ⟨i, j, k, rfl, q⟩ := h
  refine call_max3Nu hc pins s σ H _ us Q I r ⟨.int i, .int j, .int k, .int (max3 i j k), rfl, ?_, q⟩
  have e : ∀ a b : Int, nuMax2 (.int a) (.int b) = some (.int (if a < b then b else a)) := fun a b => by
    unfold nuMax2 nuLt nuCB
    simp only [Option.map]
    by_cases h : a < b <;> simp [h]
  unfold nuMax3
  rw [e]
  show nuMax2 _ _ = _
  rw [e]
  rfl
theorem max3_max {i j k : Int} : max3 i j k = max k (max j i) := by
  unfold max3
  omega
/-! part m_draw -/
/-- what was drawn below each size -/
def DrawOk : List Int → List Int → Prop
  | [], [] => True
  | d :: ds, s :: ss => (0 ≤ d ∧ d < s) ∧ DrawOk ds ss
  | _, _ => False
theorem DrawOk.len : ∀ {ds ss : List Int}, DrawOk ds ss → ds.length = ss.length
  | [], [], _ => rfl
  | _ :: _, _ :: _, h => by rw [List.length_cons, List.length_cons, DrawOk.len h.2]
  | [], _ :: _, h => h.elim
  | _ :: _, [], h => h.elim
theorem DrawOk.snoc : ∀ {ds ss : List Int} {d s : Int}, DrawOk ds ss → 0 ≤ d ∧ d < s → DrawOk (ds ++ [d]) (ss ++ [s])
  | [], [], _, _, _, h => ⟨h, trivial⟩
  | _ :: _, _ :: _, _, _, h, k => ⟨h.1, DrawOk.snoc h.2 k⟩
  | [], _ :: _, _, _, h, _ => h.elim
  | _ :: _, [], _, _, h, _ => h.elim
theorem DrawOk.cons_inv {ds ss : List Int} {s : Int} (h : DrawOk ds (s :: ss)) : ∃ d ds', ds = d :: ds' ∧ 0 ≤ d ∧ d < s ∧ DrawOk ds' ss := by
  cases ds with
  | nil => exact h.elim
  | cons d ds' => exact ⟨d, ds', rfl, h.1.1, h.1.2, h.2⟩
theorem DrawOk.nil_inv {ds : List Int} (h : DrawOk ds []) : ds = [] := by
  cases ds with
  | nil => rfl
  | cons d ds' => exact h.elim
/-! part m_but -/
theorem ix_in {ns : List Int} {i : Int} (h0 : 0 ≤ i) (h1 : i < ns.length) : ∃ z ∈ ns, atI (ns.map V.int) i = some (.int z) := by
  obtain ⟨n, rfl⟩ : ∃ n : Nat, i = n := ⟨i.toNat, by omega⟩
  have hn : n < ns.length := by omega
  refine ⟨ns[n], List.getElem_mem hn, atI_nat ?_⟩
  rw [List.getElem?_map, List.getElem?_eq_getElem hn]
  rfl
/-- a loop over a list or tuple that a name holds -/
theorem rd_forS {K : PySem.W.Frag} {σ : L2.St} {H : Hp} {i : Nat} {a : Addr} {xs : List V} {g : TG} {t : TS} {nx : L2.St → Hp → Prop} {rt : VK} (hv : σ[i]? = some (some (.ref a))) (hS : SqL K H a xs ∨ SqT K H a xs) (Pv : Nat → L2.St → Prop) (h0 : Pv 0 σ)
    (hs : ∀ i x σ, xs[i]? = some x → Pv i σ → g x σ H fun σ2 H2 => t ⟨fun σ' H' => H = H' ∧ Pv (i + 1) σ', rt, nx, fun σ' H' => H = H' ∧ Pv (i + 1) σ'⟩ σ2 H2) (hd : ∀ σ, Pv xs.length σ → nx σ H) :
    iAlt (iList K (tVar i)) (iTup K (tVar i)) σ H fun J H1 => fBody J g t nx rt σ H1 :=
  hS.elim (fun h => .inl (rd_var hv ⟨a, rfl, ⟨_, h⟩, rd_forLs Pv h h0 hs hd⟩)) fun h => .inr (rd_var hv ⟨a, rfl, ⟨_, h⟩, rd_forTs Pv h h0 hs hd⟩)
/-- {x: True for x in xs}, xs a list or tuple of ints that a name holds -/
theorem rd_dcS {K : PySem.W.Frag} {σ : L2.St} {H : Hp} {Q : VK} {tk tv : TE} {i : Nat} {a : Addr} {ns : List Int} {g : TG} {vs : List Nat} (hv : σ[i]? = some (some (.ref a))) (hS : SqL K H a (ns.map V.int) ∨ SqT K H a (ns.map V.int))
    (hs : ∀ D l x r, H D = none → ns = l ++ x :: r → g (.int x) (wipe σ vs) (upd H D (DFl (ofL l))) fun σ2 H2 => wipe σ2 vs = wipe σ vs ∧ tk σ2 H2 fun y H4 => tv σ2 H4 fun z H5 => DcPut H D (l ++ [x]) y z H5)
    (q : ∀ D, H D = none → Q (.ref D) (upd H D (DFl (ofL ns)))) : iAlt (iList K (tVar i)) (iTup K (tVar i)) σ H fun J H1 => dcB J g tYes tk tv vs σ Q H1 :=
  hS.elim (fun h => .inl (rd_var hv ⟨a, rfl, ⟨_, h⟩, rd_dcLF h hs q⟩)) fun h => .inr (rd_var hv ⟨a, rfl, ⟨_, h⟩, rd_dcTF h hs q⟩)
/-! ## the text by places -/
def topS (i : Nat) : Stmt := PySem.Challenge.pw_everyprime_k86_quizzes.main.body.getD i (.Pass ⟨0, 0, 0, 0⟩)
abbrev s_checked_modulus : Stmt := topS 6
theorem sc_checked_modulus : FnScope ["m"] ["m"] (defScope s_checked_modulus) := ⟨rfl, rfl, rfl, by decide +kernel, rfl, by decide +kernel, by decide +kernel⟩
abbrev s_factor_of : Stmt := topS 7
theorem sc_factor_of : FnScope ["rule", "n", "m"] ["rule", "n", "m"] (defScope s_factor_of) := ⟨rfl, rfl, rfl, by decide +kernel, rfl, by decide +kernel, by decide +kernel⟩
abbrev s_sign : Stmt := topS 8
theorem sc_sign : FnScope ["n", "m", "result"] ["n", "m"] (defScope s_sign) := ⟨rfl, rfl, rfl, by decide +kernel, rfl, by decide +kernel, by decide +kernel⟩
abbrev s_fitting : Stmt := topS 15
theorem sc_fitting : FnScope ["clocks", "answers", "p", "n", "s"] ["clocks", "answers"] (defScope s_fitting) := ⟨rfl, rfl, rfl, by decide +kernel, rfl, by decide +kernel, by decide +kernel⟩
abbrev s_clash_of : Stmt := topS 16
theorem sc_clash_of : FnScope ["clocks", "answers", "kept", "at", "others", "k"] ["clocks", "answers"] (defScope s_clash_of) := ⟨rfl, rfl, rfl, by decide +kernel, rfl, by decide +kernel, by decide +kernel⟩
abbrev s_law_sign : Stmt := topS 24
theorem sc_law_sign : FnScope ["_law_n", "_law_p", "_law_result", "_law_base", "_law_exponent"] ["_law_n", "_law_p"] (defScope s_law_sign) := ⟨rfl, rfl, rfl, by decide +kernel, rfl, by decide +kernel, by decide +kernel⟩
abbrev s_law_left : Stmt := topS 25
theorem sc_law_left : FnScope ["_law_clocks", "_law_answers", "_law_p", "_law_n", "_law_s"] ["_law_clocks", "_law_answers"] (defScope s_law_left) := ⟨rfl, rfl, rfl, by decide +kernel, rfl, by decide +kernel, by decide +kernel⟩
abbrev s_law_clash : Stmt := topS 26
theorem sc_law_clash : FnScope ["_law_clocks", "_law_answers", "_law_kept", "_law_at", "_law_others", "_law_k"] ["_law_clocks", "_law_answers"] (defScope s_law_clash) := ⟨rfl, rfl, rfl, by decide +kernel, rfl, by decide +kernel, by decide +kernel⟩
abbrev s_is_prime : Stmt := topS 10
theorem sc_is_prime : FnScope ["n", "divisor"] ["n"] (defScope s_is_prime) := ⟨rfl, rfl, rfl, by decide +kernel, rfl, by decide +kernel, by decide +kernel⟩
abbrev s_primes : Stmt := topS 11
theorem sc_primes : GSc ["start", "stop", "n"] ["start", "stop"] (defScope s_primes) := ⟨rfl, rfl, rfl, by decide +kernel, rfl, by decide +kernel, by decide +kernel, fun _ => rfl⟩
abbrev s_Quiz_init : Stmt := inClass (topS 17) 0
theorem sc_Quiz_init : FnScope ["self", "most"] ["self", "most"] (defScope s_Quiz_init) := ⟨rfl, rfl, rfl, by decide +kernel, rfl, by decide +kernel, by decide +kernel⟩
abbrev s_Quiz_left : Stmt := inClass (topS 17) 1
theorem sc_Quiz_left : FnScope ["self"] ["self"] (defScope s_Quiz_left) := ⟨rfl, rfl, rfl, by decide +kernel, rfl, by decide +kernel, by decide +kernel⟩
abbrev s_Quiz_hear : Stmt := inClass (topS 17) 2
theorem sc_Quiz_hear : FnScope ["self", "n", "s", "answers"] ["self", "n", "s"] (defScope s_Quiz_hear) := ⟨rfl, rfl, rfl, by decide +kernel, rfl, by decide +kernel, by decide +kernel⟩
abbrev s_law_hear : Stmt := topS 27
theorem sc_law_hear : FnScope ["_law_quiz", "_law_n", "_law_s", "_law_told", "e"] ["_law_quiz", "_law_n", "_law_s"] (defScope s_law_hear) := ⟨rfl, rfl, rfl, by decide +kernel, rfl, by decide +kernel, by decide +kernel⟩
abbrev s_Quiz_undo : Stmt := inClass (topS 17) 5
theorem sc_Quiz_undo : FnScope ["self"] ["self"] (defScope s_Quiz_undo) := ⟨rfl, rfl, rfl, by decide +kernel, rfl, by decide +kernel, by decide +kernel⟩
abbrev s_law_undo : Stmt := topS 28
theorem sc_law_undo : FnScope ["_law_quiz", "_law_told"] ["_law_quiz"] (defScope s_law_undo) := ⟨rfl, rfl, rfl, by decide +kernel, rfl, by decide +kernel, by decide +kernel⟩
abbrev s_row_of_questions : Stmt := topS 14
theorem sc_row_of_questions : FnScope ["q"] [] (defScope s_row_of_questions) := ⟨rfl, rfl, rfl, by decide +kernel, rfl, by decide +kernel, by decide +kernel⟩
abbrev s_Quiz_next_number : Stmt := inClass (topS 17) 3
theorem sc_Quiz_next_number : FnScope ["self", "possible", "found", "fewest", "n", "signs", "worst", "p", "s"] ["self"] (defScope s_Quiz_next_number) := ⟨rfl, rfl, rfl, by decide +kernel, rfl, by decide +kernel, by decide +kernel⟩
abbrev s_law_is_prime : Stmt := topS 22
theorem sc_law_is_prime : FnScope ["_law_n", "_law_k"] ["_law_n"] (defScope s_law_is_prime) := ⟨rfl, rfl, rfl, by decide +kernel, rfl, by decide +kernel, by decide +kernel⟩
abbrev s_law_next : Stmt := topS 29
theorem sc_law_next : FnScope ["_law_left_here", "_law_row", "_law_q", "_law_due", "_law_fewest", "_law_n", "_law_signs", "_law_worst", "_law_p"] ["_law_left_here"] (defScope s_law_next) := ⟨rfl, rfl, rfl, by decide +kernel, rfl, by decide +kernel, by decide +kernel⟩
abbrev s_Quiz_heard : Stmt := inClass (topS 17) 4
theorem sc_Quiz_heard : FnScope ["self"] ["self"] (defScope s_Quiz_heard) := ⟨rfl, rfl, rfl, by decide +kernel, rfl, by decide +kernel, by decide +kernel⟩
abbrev s_law_cell : Stmt := topS 19
theorem sc_law_cell : FnScope ["_law_script", "_law_k"] ["_law_script", "_law_k"] (defScope s_law_cell) := ⟨rfl, rfl, rfl, by decide +kernel, rfl, by decide +kernel, by decide +kernel⟩
abbrev s_law_draws : Stmt := topS 20
theorem sc_law_draws : FnScope ["_law_cell_here", "_law_sizes", "_law_drawn", "_law_left_here", "_law_at", "_law_mixed"] ["_law_cell_here", "_law_sizes"] (defScope s_law_draws) := ⟨rfl, rfl, rfl, by decide +kernel, rfl, by decide +kernel, by decide +kernel⟩
abbrev s_law : Stmt := topS 30
theorem sc_law : FnScope ["_law_script", "_law_head", "_law_most", "_law_clocks", "_law_secret", "_law_quiz", "_law_answers", "_law_cell_here", "_law_drawn", "_law_n", "_law_s", "_law_due", "_law_told", "_law_p"] ["_law_script"] (defScope s_law) := ⟨rfl, rfl, rfl, by decide +kernel, rfl, by decide +kernel, by decide +kernel⟩
abbrev s_BadModulus_init : Stmt := inClass (topS 2) 0
abbrev s_Contradiction_init : Stmt := inClass (topS 3) 0
abbrev s_NothingToUndo_init : Stmt := inClass (topS 4) 0
/-- the addresses of the classes -/
structure Adr where
  c_BadModulus : Addr
  c_Contradiction : Addr
  c_NothingToUndo : Addr
  c_Quiz : Addr
  c_base : Addr
  t_GREATEST_ASKED : Tok
structure Txt (K : PySem.W.Frag) (mg : Str → Option Value) (Ad : Adr) : Prop where
  b_abs : mg "abs" = none
  b_all : mg "all" = none
  b_int : mg "int" = none
  b_len : mg "len" = none
  b_list : mg "list" = none
  b_max : mg "max" = none
  b_range : mg "range" = none
  d_checked_modulus : DefAt K mg "checked_modulus" s_checked_modulus ["m"]
  d_factor_of : DefAt K mg "factor_of" s_factor_of ["rule", "n", "m"]
  d_sign : DefAt K mg "sign" s_sign ["n", "m"]
  d_fitting : DefAt K mg "fitting" s_fitting ["clocks", "answers"]
  d_clash_of : DefAt K mg "clash_of" s_clash_of ["clocks", "answers"]
  d_law_sign : DefAt K mg "_law_sign" s_law_sign ["_law_n", "_law_p"]
  d_law_left : DefAt K mg "_law_left" s_law_left ["_law_clocks", "_law_answers"]
  d_law_clash : DefAt K mg "_law_clash" s_law_clash ["_law_clocks", "_law_answers"]
  d_is_prime : DefAt K mg "is_prime" s_is_prime ["n"]
  d_primes : DefAt K mg "primes" s_primes ["start", "stop"]
  d_Quiz_init : MkAt K mg "Quiz" Ad.c_Quiz "Quiz.__init__" s_Quiz_init ["self", "most"]
  d_Quiz_left : MethAt K Ad.c_Quiz "left" "Quiz.left" s_Quiz_left ["self"]
  d_Quiz_hear : MethAt K Ad.c_Quiz "hear" "Quiz.hear" s_Quiz_hear ["self", "n", "s"]
  d_law_hear : DefAt K mg "_law_hear" s_law_hear ["_law_quiz", "_law_n", "_law_s"]
  d_Quiz_undo : MethAt K Ad.c_Quiz "undo" "Quiz.undo" s_Quiz_undo ["self"]
  d_law_undo : DefAt K mg "_law_undo" s_law_undo ["_law_quiz"]
  d_row_of_questions : DefAt K mg "row_of_questions" s_row_of_questions []
  d_Quiz_next_number : MethAt K Ad.c_Quiz "next_number" "Quiz.next_number" s_Quiz_next_number ["self"]
  d_law_is_prime : DefAt K mg "_law_is_prime" s_law_is_prime ["_law_n"]
  d_law_next : DefAt K mg "_law_next" s_law_next ["_law_left_here"]
  d_Quiz_heard : MethAt K Ad.c_Quiz "heard" "Quiz.heard" s_Quiz_heard ["self"]
  d_law_cell : DefAt K mg "_law_cell" s_law_cell ["_law_script", "_law_k"]
  d_law_draws : DefAt K mg "_law_draws" s_law_draws ["_law_cell_here", "_law_sizes"]
  g_Quiz : mg "Quiz" = some (.ref Ad.c_Quiz)
  cl_Quiz : Cls K Ad.c_Quiz
  ty_Quiz : ∀ (H : Hp) (a dx : Addr) (fs : List (Str × V)), H a = some (.ins Ad.c_Quiz dx fs) → TyX K H (.ref a) (.ref Ad.c_Quiz)
  ki_Quiz : PySem.W.kitOne K (.ref Ad.c_Quiz) (.ref Ad.c_Quiz) = some true
  kl_Quiz : PySem.W.kitOne K (.type "list") (.ref Ad.c_Quiz) = some false
  nl_Quiz : PySem.W.notFirst K Ad.c_Quiz (.type "list") = true
  nf_Quiz_answers : NoAttr K Ad.c_Quiz "answers"
  nf_Quiz_clocks : NoAttr K Ad.c_Quiz "clocks"
  k_GREATEST_ASKED : mg "GREATEST_ASKED" = some (.int 50 Ad.t_GREATEST_ASKED)
  base : BaseC K mg Ad.c_base
  r_BadModulus : ErrRaw K mg "BadModulus" Ad.c_BadModulus s_BadModulus_init "BadModulus.__init__" ["self", "modulus"]
  no_BadModulus_modulus : PySem.W.findIn K (.ref Ad.c_BadModulus) "modulus" = some none
  r_Contradiction : ErrRaw K mg "Contradiction" Ad.c_Contradiction s_Contradiction_init "Contradiction.__init__" ["self", "clash"]
  no_Contradiction_clash : PySem.W.findIn K (.ref Ad.c_Contradiction) "clash" = some none
  r_NothingToUndo : ErrRaw K mg "NothingToUndo" Ad.c_NothingToUndo s_NothingToUndo_init "NothingToUndo.__init__" ["self"]
  triv : True
section
variable {P : Program} {w : World} {K : PySem.W.Frag} {mg : Str → Option Value} {base : Heap} {Ad : Adr}
def fl_BadModulus (ws : List V) : List (Str × V) := match ws with | [v0] => [("modulus", v0)] | _ => []
theorem sc_BadModulus_init : FnScope ["self", "modulus"] ["self", "modulus"] (defScope s_BadModulus_init) := ⟨rfl, rfl, rfl, by decide +kernel, rfl, by decide +kernel, by decide +kernel⟩
theorem Txt.err_BadModulus (T : Txt K mg Ad) : ErrC P w K mg base "BadModulus" 1 fl_BadModulus Ad.c_BadModulus := by
  refine ErrC.of T.r_BadModulus fun fI fd F => ?_
  refine F.okX sc_BadModulus_init (fun vs H Q E h => ?_) (fun cdv A outer s H vs Q E hr h => ?_)
  · obtain ⟨a, ws, rfl, hl, _⟩ := h
    simp [hl]
  · obtain ⟨a, ws, rfl, hl, ha, q⟩ := h
    obtain ⟨v0, rfl⟩ := len_1 hl
    refine ⟨_, pss_cons (ps_expr (pe_ceinit T.base (pa_cons (pv 0) (pa_cons pe_str pa_nil)))) (pss_one (ps_ost (pv 0) (pv 1))), ?_⟩
    refine ⟨.ref a, rfl, a, Ad.c_BadModulus, [.str _], rfl, by show 1 ≤ 1000; decide, T.r_BadModulus.T, ha, ?_⟩
    refine ⟨v0, rfl, .ref a, rfl, a, Ad.c_BadModulus, rfl, T.r_BadModulus.T, T.no_BadModulus_modulus, .inl ⟨ha, fun dx nd ne => ?_⟩⟩
    exact q dx nd ne
theorem sc_Contradiction_init : FnScope ["self", "clash"] ["self", "clash"] (defScope s_Contradiction_init) := ⟨rfl, rfl, rfl, by decide +kernel, rfl, by decide +kernel, by decide +kernel⟩
theorem Txt.err_Contradiction (T : Txt K mg Ad) : ErrL P w K mg base "Contradiction" "clash" Ad.c_Contradiction := by
  refine ErrL.of T.r_Contradiction fun fI fd F => ?_
  refine F.okX sc_Contradiction_init (fun vs H Q E h => ?_) (fun cdv A outer s H vs Q E hr h => ?_)
  · obtain ⟨a, l, xs, rfl, _⟩ := h
    rfl
  · obtain ⟨a, l, xs, rfl, ha, hl, q⟩ := h
    refine ⟨_, (pss_cons (ps_expr (pe_ceinit T.base (pa_cons (pv 0) (pa_cons pe_str pa_nil)))) (pss_one (ps_ost (pv 0) (pe_callTy c_listOf (by rfl) T.b_list (by decide +kernel) (pa_cons (pv 1) pa_nil))))), ?_⟩
    refine ⟨.ref a, rfl, a, Ad.c_Contradiction, [.str _], rfl, by show 1 ≤ 1000; decide, T.r_Contradiction.T, ha, ?_⟩
    refine ⟨.ref l, rfl, ?_⟩
    refine ⟨l, xs, rfl, .inl hl, fun l2 n2 => ?_⟩
    have la : l2 ≠ a := fun z => by
      rw [z, ha] at n2
      cases n2
    refine ⟨.ref a, rfl, a, Ad.c_Contradiction, rfl, T.r_Contradiction.T, T.no_Contradiction_clash, .inl ⟨by rw [upd_ne (Ne.symm la)]; exact ha, fun dx nd ne => ?_⟩⟩
    have dl : dx ≠ l2 := fun z => by
      rw [z, upd_same] at nd
      cases nd
    rw [upd_ne dl] at nd
    exact q l2 dx n2 la nd dl ne
theorem sc_NothingToUndo_init : FnScope ["self"] ["self"] (defScope s_NothingToUndo_init) := ⟨rfl, rfl, rfl, by decide +kernel, rfl, by decide +kernel, by decide +kernel⟩
theorem Txt.err_NothingToUndo (T : Txt K mg Ad) : ErrN P w K mg base "NothingToUndo" Ad.c_NothingToUndo := by
  refine ErrN.of T.r_NothingToUndo fun fI fd F => ?_
  refine F.okX sc_NothingToUndo_init (fun vs H Q E h => ?_) (fun cdv A outer s H vs Q E hr h => ?_)
  · obtain ⟨a, rfl, _⟩ := h
    rfl
  · obtain ⟨a, rfl, ha, q⟩ := h
    refine ⟨_, (pss_one (ps_expr (pe_ceinit T.base (pa_cons (pv 0) (pa_cons pe_str pa_nil))))), ?_⟩
    exact ⟨.ref a, rfl, a, Ad.c_NothingToUndo, [.str _], rfl, by show 1 ≤ 1000; decide, T.r_NothingToUndo.T, ha, q⟩
/-! ### checked_modulus -/
def spCheckedModulus (C : Addr) : Sp := fun vs H Q E => ∃ m : Int, vs = [.int m] ∧ (m < 1 ∨ m % 2 = 0 → ∀ d, H d = none → E (.ref C) (some d) (upd H d (.xd [("modulus", .int m)]))) ∧ (1 ≤ m → m % 2 = 1 → Q .non H)
theorem ok_checked_modulus (T : Txt K mg Ad) : Def P w K mg base 3 "checked_modulus" ["m"] (spCheckedModulus Ad.c_BadModulus) := by
  refine T.d_checked_modulus.ok sc_checked_modulus (fun vs H Q E h => ?_) (fun f cdv A outer s H vs Q E hr h => ?_)
  · obtain ⟨m, rfl, _⟩ := h
    rfl
  · obtain ⟨m, rfl, qe, qo⟩ := h
    refine ⟨_, (pss_one (ps_if (PW.pt (pw_or (pt_cmpR op_lt (pv 0) pe_int (nomark _)) (pw_or1 (pt_cmpR op_eq (pe_op op_mod (pv 0) pe_int) pe_int (nomark _))))) (pss_one (ps_raise rfl (takes_of rfl rfl rfl rfl) (pmk_err (T.err_BadModulus) (hr.mono (by decide)) (pa_cons (pv 0) pa_nil)))) pss_nil)), ?_⟩
    try dsimp only [cxOf]
    wtm_at "ra"
    · exact qe (by omega)
    · exact qe (by omega)
    · exact qo (by omega) (by omega)
/-! ### factor_of -/
def spFactorOf : Sp := fun vs H Q _ => ∃ (rule : Str) (n m : Int), vs = [.str rule, .int n, .int m] ∧ NoT H ∧ Q (.int (factorOf rule n m)) H
theorem ok_factor_of (T : Txt K mg Ad) : Def P w K mg base 1 "factor_of" ["rule", "n", "m"] spFactorOf := by
  refine T.d_factor_of.ok sc_factor_of (fun vs H Q E h => ?_) (fun f cdv A outer s H vs Q E hr h => ?_)
  · obtain ⟨rule, n, m, rfl, _⟩ := h
    rfl
  · obtain ⟨rule, n, m, rfl, nt, q⟩ := h
    refine ⟨_, (pss_cons (ps_if (PW.pt (pw_and (pt_cmpR op_eq (pv 0) pe_str (nomark _)) (pw_and1 (pt_pure (pt_cmpR op_in_seq (pe_op op_mod (pv 2) pe_int) (pe_tup (pa_cons pe_int (pa_cons pe_int pa_nil))) (by rfl)))))) (pss_one (ps_ret (pe_un un_neg pe_int))) pss_nil)
      (pss_cons (ps_if (PW.pt (pw_and (pt_cmpR op_eq (pv 0) pe_str (nomark _)) (pw_and1 (pt_cmpR op_eq (pe_op op_mod (pv 2) pe_int) pe_int (nomark _))))) (pss_one (ps_ret (pe_un un_neg pe_int))) pss_nil)
      (pss_cons (ps_if (PW.pt (pw_and (pt_cmpR op_eq (pv 0) pe_str (nomark _)) (pw_and (pt_cmpR op_eq (pe_op op_mod (pv 1) pe_int) pe_int (nomark _)) (pw_and1 (pt_cmpR op_eq (pe_op op_mod (pv 2) pe_int) pe_int (nomark _)))))) (pss_one (ps_ret (pe_un un_neg pe_int))) pss_nil)
      (pss_one (ps_ret pe_int))))), ?_⟩
    try dsimp only [cxOf]
    wtm_at "ra"
    all_goals (refine Eq.mp (congrArg (fun z => Q (V.int z) H) ?_) q; first | (simp [factorOf, *]; done) | (subst_vars; simp [factorOf, str_ne1, str_ne2, str_ne3, str_ne4, *]))
theorem use_factor_of {rule : Str} {n m : Int} {H : Hp} {Q : VK} {E : XK} (nt : NoT H) (q : ∀ z : Int, z = factorOf rule n m → z = 1 ∨ z = -1 → Q (.int z) H) : spFactorOf [.str rule, .int n, .int m] H Q E :=
  ⟨rule, n, m, rfl, nt, q _ rfl (factorOf_pm rule n m)⟩
local macro_rules | `(tactic| wtm_at "s") => `(tactic| ((with_reducible refine use_factor_of (by wtm_at "nt") ?_); intro z hz hpm))
/-! ### sign -/
def spSign (C : Addr) : Sp := fun vs H Q E => ∃ (n m : Int), vs = [.int n, .int m] ∧ NoT H ∧ (m < 1 ∨ m % 2 = 0 → ∀ d, H d = none → E (.ref C) (some d) (upd H d (.xd [("modulus", .int m)]))) ∧ (1 ≤ m → m % 2 = 1 → Q (.int (sgn n m)) H)
theorem ok_sign (T : Txt K mg Ad) : Def P w K mg base 4 "sign" ["n", "m"] (spSign Ad.c_BadModulus) := by
  refine T.d_sign.ok sc_sign (fun vs H Q E h => ?_) (fun f cdv A outer s H vs Q E hr h => ?_)
  · obtain ⟨n, m, rfl, _⟩ := h
    rfl
  · obtain ⟨n, m, rfl, nt, qe, qo⟩ := h
    refine ⟨_, (pss_cons (ps_expr (pe_d (ok_checked_modulus T) (hr.mono (by decide)) (passes_call (takes_of rfl rfl rfl rfl) (fun _ _ _ _ h => h)) (pa_cons (pv 1) pa_nil)))
      (pss_cons (ps_set (i := 2) sc_sign.nd rfl (Or.inl rfl) pe_int)
      (pss_cons (ps_set (i := 0) sc_sign.nd rfl (Or.inl rfl) (pe_op op_mod (pv 0) (pv 1)))
      (pss_cons (ps_while (passes_of rfl) (pt_cmpR op_ne (pv 0) pe_int (nomark _)) (pss_cons (ps_while (passes_of rfl) (pt_cmpR op_eq (pe_op op_mod (pv 0) pe_int) pe_int (nomark _)) (pss_cons (ps_set (i := 0) sc_sign.nd rfl (Or.inl rfl) (pe_op op_fdivB (pv 0) pe_int))
      (pss_one (ps_set (i := 2) sc_sign.nd rfl (Or.inl rfl) (pe_op op_mulB (pv 2) (pe_d (ok_factor_of T) (hr.mono (by decide)) (passes_call (takes_of rfl rfl rfl rfl) (fun _ _ _ _ h => h)) (pa_cons pe_str (pa_cons (pv 0) (pa_cons (pv 1) pa_nil)))))))))
      (pss_cons (ps_set (i := 2) sc_sign.nd rfl (Or.inl rfl) (pe_op op_mulB (pv 2) (pe_d (ok_factor_of T) (hr.mono (by decide)) (passes_call (takes_of rfl rfl rfl rfl) (fun _ _ _ _ h => h)) (pa_cons pe_str (pa_cons (pv 0) (pa_cons (pv 1) pa_nil))))))
      (pss_one (ps_par (i := 0) (j := 1) rfl sc_sign.nd rfl rfl (by decide) rfl rfl (pa_cons (pe_op op_mod (pv 1) (pv 0)) (pa_cons (pv 0) pa_nil)) (by rfl))))))
      (pss_cons (ps_if (pt_cmpR op_eq (pv 1) pe_int (nomark _)) (pss_one (ps_ret (pv 2))) pss_nil)
      (pss_one (ps_ret pe_int))))))), ?_⟩
    try dsimp only [cxOf]
    wtm_at "rs"
    refine ⟨m, rfl, qe, fun h1 h2 => ?_⟩
    wtm_at "rs"
    refine rd_while (fun μ σ H' => ∃ (r a b : Int), μ = a.toNat ∧ σ = [some (.int a), some (.int b), some (.int r)] ∧ H = H' ∧ 0 ≤ a ∧ 0 < b ∧ b % 2 = 1 ∧ r * jac a.toNat b.toNat = sgn n m) (n % m).toNat
      ⟨1, n % m, m, rfl, rfl, rfl, Int.emod_nonneg _ (by omega), by omega, h2, by rw [Int.one_mul]; rfl⟩ ?_
    rintro μ σ H' ⟨r, a, b, rfl, rfl, rfl, ha, hb, hb2, inv⟩
    wtm_at "rs"
    wtm_at "i"
    · wtm_at "rs"
      refine rd_while (fun μ σ H' => ∃ (r a' : Int), μ = a'.toNat ∧ σ = [some (.int a'), some (.int b), some (.int r)] ∧ H = H' ∧ 0 < a' ∧ a' ≤ a ∧ r * jac a'.toNat b.toNat = sgn n m) a.toNat
        ⟨r, a, rfl, rfl, rfl, by omega, by omega, inv⟩ ?_
      rintro μ σ H' ⟨r, a', rfl, rfl, rfl, ha', hle, inv⟩
      wtm_at "rs"
      wtm_at "i"
      · wtm_at "rs"
        rename_i h0 _ he z hz hpm
        refine ⟨_, ?_, r * z, a' / 2, rfl, rfl, rfl, by omega, by omega, ?_⟩
        · omega
        · rw [hz, factorOf_two _ _ hb]
          rw [jac_two (by omega) (by omega)] at inv
          rw [show (a' / 2).toNat = a'.toNat / 2 by omega, Int.mul_assoc]
          exact inv
      · wtm_at "rs"
        rename_i h0 _ he z hz hpm
        refine ⟨_, ?_, r * z, b % a', a', rfl, rfl, rfl, Int.emod_nonneg _ (by omega), by omega, by omega, ?_⟩
        · have := Int.emod_lt_of_pos b ha'
          omega
        · rw [hz, factorOf_turn _ _ (by omega) hb]
          rw [jac_turn (by omega)] at inv
          rw [show (b % a').toNat = b.toNat % a'.toNat from Int.toNat_emod (by omega) (by omega), Int.mul_assoc]
          exact inv
    · rename_i h0
      have e0 : a = 0 := by simpa using h0
      subst e0
      have jz := jac_zero b.toNat
      rw [show (0 : Int).toNat = 0 from rfl, jz] at inv
      have q := qo h1 h2
      rw [← inv] at q
      wtm_at "ra"
      · rename_i hb1
        rw [if_pos (by omega), Int.mul_one] at q
        exact q
      · rename_i hb1
        rw [if_neg (by omega), Int.mul_zero] at q
        exact q
theorem use_sign {C : Addr} {n m : Int} {H : Hp} {Q : VK} {E : XK} (nt : NoT H) (h1 : 1 ≤ m) (h2 : m % 2 = 1) (q : Q (.int (sgn n m)) H) : spSign C [.int n, .int m] H Q E :=
  ⟨n, m, rfl, nt, fun h => by omega, fun _ _ => q⟩
/-! ### fitting -/
/-- the answers that a list holds -/
def ansV (as : List (Int × Int)) : List (List V) := as.map fun q => [.int q.1, .int q.2]
/-- the primes on whose clocks all answers are true -/
noncomputable def fitL (ps : List Int) (as : List (Int × Int)) : List Int := ps.filter fun p => as.all fun q => decide (sgn q.1 p = q.2)
theorem fitL_pos {l : List Int} {p : Int} {as : List (Int × Int)} (h : (as.all fun q => decide (sgn q.1 p = q.2)) = true) : fitL (l ++ [p]) as = fitL l as ++ [p] := by
  unfold fitL
  rw [List.filter_append]
  refine congrArg _ ?_
  show List.filter _ [p] = [p]
  simp only [List.filter, h]
theorem fitL_neg {l : List Int} {p : Int} {as : List (Int × Int)} (h : ¬ (as.all fun q => decide (sgn q.1 p = q.2)) = true) : fitL (l ++ [p]) as = fitL l as := by
  unfold fitL
  rw [List.filter_append]
  have e : List.filter (fun p => as.all fun q => decide (sgn q.1 p = q.2)) [p] = [] := by
    simp only [List.filter, Bool.eq_false_iff.mpr h]
  rw [e, List.append_nil]
structure AnsAt (H : Hp) (a : Addr) (as : List (Int × Int)) : Prop where
  ex : ∃ ts : List Addr, H a = some (.lst (ts.map V.ref)) ∧ RowsAt H ts (ansV as)
def spFit (K : PySem.W.Frag) : Sp := fun vs H Q _ => ∃ (c a : Addr) (ps : List Int) (as : List (Int × Int)), vs = [.ref c, .ref a] ∧ SqL K H c (ps.map V.int) ∧ AnsAt H a as ∧ NoT H ∧ (∀ p ∈ ps, QR.OP p ∧ p < 2 ^ 60) ∧ (∀ q ∈ as, Bd 200 q.1 ∧ Bd 200 q.2) ∧ ps.length ≤ 10000 ∧ as.length ≤ 1000 ∧
  ∀ p G, H p = none → Same H G → NoT G → G p = some (.lst ((fitL ps as).map V.int)) → Q (.ref p) G
theorem ok_fitting (T : Txt K mg Ad) : Def P w K mg base 5 "fitting" ["clocks", "answers"] (spFit K) := by
  refine T.d_fitting.ok sc_fitting (fun vs H Q E h => ?_) (fun f cdv A outer s H vs Q E hr h => ?_)
  · obtain ⟨c, a, ps, as, rfl, _⟩ := h
    rfl
  · obtain ⟨c, a, ps, as, rfl, hc, ha, nt, op, bs, pl, al, q⟩ := h
    refine ⟨_, (pss_one (ps_ret (pe_lc (own := [("p", 2)])  (te := (tVar 2)) (tt := (tB (tCB (rAll K) (tCons (tLc (iList K (tVar 1)) (gTup K 2 (gCons (gName 3) (gCons (gName 4) gNil))) tYes (tOp rEq (tCall (spSign Ad.c_BadModulus) [] E0 (tCons (tVar 3) (tCons (tVar 2) tNil))) (tVar 4)) [3, 4]) tNil)))) rfl sc_fitting.nd  (pi_list (pv 0)) (blkOk_by (own := [("p", 2)]) (N := ["clocks", "answers", "p", "n", "s"]) (sc := defScope s_fitting) (by decide +kernel)) (fun _ _ _ _ _ => (pg_name (i := 2) sc_fitting.nd rfl (Or.inr rfl))) (fun _ _ _ _ _ => (pts_one (pt_val (pe_callB (cr_all rfl) (by rfl) T.b_all (by decide +kernel) (pa_cons (by exact (pe_lc (own := [("n", 3), ("s", 4)])  (g := (gTup K 2 (gCons (gName 3) (gCons (gName 4) gNil)))) (te := (tOp rEq (tCall (spSign Ad.c_BadModulus) [] E0 (tCons (tVar 3) (tCons (tVar 2) tNil))) (tVar 4))) rfl sc_fitting.nd  (pi_list (pv 1)) (show BlkOk _ { kind := .function, names := [(".0", .local), ("p", .cell), ("all", .globalImplicit), ("answers", .cell)], isGenerator := false, isCoroutine := false } _ _ from blkOk_by (own := [("n", 3), ("s", 4)]) (N := ["clocks", "answers", "p", "n", "s"]) (by decide +kernel)) (fun _ _ _ _ _ => (pg_tup rfl (pgs_cons (pg_name (i := 3) sc_fitting.nd rfl (Or.inl rfl)) (pgs_cons (pg_name (i := 4) sc_fitting.nd rfl (Or.inl rfl)) pgs_nil)))) (fun _ _ _ _ _ => pts_nil) (fun _ _ _ _ _ => (pe_cmpR op_eq (pe_d (E := E0) (ok_sign T) (hr.mono (by decide)) passL (pa_cons (pv 3) (pa_cons (pv 2) pa_nil))) (pv 4) (nomark _))))) pa_nil))))) (fun _ _ _ _ _ => (pv 2))))), ?_⟩
    try dsimp only [cxOf]
    wtm_at "rs"
    obtain ⟨ts, hta, rw0⟩ := ha.ex
    refine rd_lcP (fun i ys => ys = (fitL (ps.take i) as).map V.int) hc nt rfl (fun D i ys x G hx sm nG hD hGD hy => ?_) fun D ys G hD hGD sm nG hy => ?_
    · rw [List.getElem?_map] at hx
      obtain ⟨p, hpi, ep⟩ := Option.map_eq_some_iff.mp hx
      subst ep
      have hp := List.mem_of_getElem? hpi
      obtain ⟨opp, pb⟩ := op p hp
      wtm_at "rs"
      refine ⟨rfl, ?_⟩
      wtm_at "rs"
      refine rd_lcP (fun j zs => zs = ((as.take j).map fun q => decide (sgn q.1 p = q.2)).map V.bl) (SqL.of (sm _ _ hta)) nG rfl (fun D2 j zs z G2 hz sm2 nG2 hD2 hGD2 hzs => ?_) fun D2 zs G2 hD2 hGD2 sm2 nG2 hzs => ?_
      · obtain ⟨t, l, rfl, ht, hl⟩ := (rw0.mono (sm.trans sm2)).at hz
        rw [ansV, List.getElem?_map] at hl
        obtain ⟨⟨n, s⟩, hqi, rfl⟩ := Option.map_eq_some_iff.mp hl
        have hq := List.mem_of_getElem? hqi
        have lj : j < as.length := (List.getElem?_eq_some_iff.mp hqi).1
        have pp := opp.three
        have := (bs _ hq).1
        wtm_at "rs"
        refine ⟨rfl, ?_⟩
        wtm_at "rs"
        refine use_sign nG2 (by omega) opp.2 ?_
        wtm_at "rs"
        refine put_P hGD2 (by rw [hzs, List.length_map, List.length_map, List.length_take]; unfold sizeLine; omega) sm2 hD2 nG2 ?_
        rw [hzs, List.take_add_one, hqi, List.map_append, List.map_append]
        rfl
      · wtm_at "rs"
        have el : (ts.map V.ref).length = as.length := by
          rw [List.length_map, rw0.len, ansV, List.length_map]
        rw [el, List.take_length] at hzs
        refine ⟨D2, as.map fun q => decide (sgn q.1 p = q.2), rfl, SqL.of (by rw [hGD2, hzs]), ?_⟩
        rw [List.all_map]
        have ef : (fun x => x) ∘ (fun q : Int × Int => decide (sgn q.1 p = q.2)) = fun q : Int × Int => decide (sgn q.1 p = q.2) := rfl
        have hD' : G2 D = some (.lst ys) := sm2 _ _ hGD
        have li : i < ps.length := (List.getElem?_eq_some_iff.mp hpi).1
        have fl : (fitL (ps.take i) as).length ≤ ps.length := Nat.le_trans (List.length_filter_le _ _) (by rw [List.length_take]; omega)
        by_cases hall : (as.all fun q => decide (sgn q.1 p = q.2)) = true
        · refine ⟨true, congrArg V.bl hall, ?_⟩
          rw [if_pos rfl]
          wtm_at "rs"
          refine put_P hD' (by rw [hy, List.length_map]; unfold sizeLine; omega) (sm.trans sm2) hD nG2 ?_
          rw [hy, List.take_add_one, hpi]
          rw [Option.toList_some, fitL_pos hall, List.map_append]
          rfl
        · refine ⟨false, congrArg V.bl (Bool.eq_false_iff.mpr hall), ?_⟩
          rw [if_neg (by decide)]
          refine ⟨ys, hD', sm.trans sm2, nG2, ?_⟩
          rw [hy, List.take_add_one, hpi]
          rw [Option.toList_some, fitL_neg hall]
    · refine q D G hD sm nG ?_
      rw [hGD, hy, List.length_map, List.take_length]
theorem use_fit {c a : Addr} {ps : List Int} {as : List (Int × Int)} {H : Hp} {Q : VK} {E : XK} (hc : SqL K H c (ps.map V.int)) (ha : AnsAt H a as) (nt : NoT H) (op : ∀ p ∈ ps, QR.OP p ∧ p < 2 ^ 60) (bs : ∀ q ∈ as, Bd 200 q.1 ∧ Bd 200 q.2) (pl : ps.length ≤ 10000) (al : as.length ≤ 1000)
    (q : ∀ p G, H p = none → Same H G → NoT G → G p = some (.lst ((fitL ps as).map V.int)) → Q (.ref p) G) : spFit K [.ref c, .ref a] H Q E := ⟨c, a, ps, as, rfl, hc, ha, nt, op, bs, pl, al, q⟩
theorem AnsAt.keeps {H G : Hp} {a : Addr} {as : List (Int × Int)} (h : AnsAt H a as) (k : Keeps H G) (e : G a = H a) : AnsAt G a as := by
  obtain ⟨ts, h1, h2⟩ := h.ex
  exact ⟨ts, e.trans h1, h2.rig G k⟩
theorem AnsAt.mono {H G : Hp} {a : Addr} {as : List (Int × Int)} (h : AnsAt H a as) (s : Same H G) : AnsAt G a as := by
  obtain ⟨ts, h1, h2⟩ := h.ex
  exact ⟨ts, s _ _ h1, h2.mono s⟩
def ansD (as : List (Int × Int)) : PyData := .list (as.map fun q => .tuple [.int q.1, .int q.2])
theorem dpAll_ans {K : PySem.W.Frag} {G : Hp} : ∀ {ts : List Addr} {as : List (Int × Int)}, RowsAt G ts (ansV as) → DpAll K G (ts.map V.ref) (as.map fun q => .tuple [.int q.1, .int q.2])
  | [], [], _ => .nil
  | [], _ :: _, h => h.elim
  | _ :: _, [], h => h.elim
  | t :: ts, (n, s) :: as, h => .cons (.tup (SqT.of h.1) (.cons (.int n) (.cons (.int s) .nil))) (dpAll_ans h.2)
theorem dp_ans {K : PySem.W.Frag} {G : Hp} {a : Addr} {as : List (Int × Int)} (h : AnsAt G a as) : Dp K G (.ref a) (ansD as) := by
  obtain ⟨ts, h1, h2⟩ := h.ex
  exact .lst (SqL.of h1) (dpAll_ans h2)
theorem okDs_ans {n : Nat} (hn : 1 < n) : ∀ as : List (Int × Int), okDs (as.map fun q => PyData.tuple [.int q.1, .int q.2]) n = true
  | [] => rfl
  | q :: as => by
    simp only [List.map_cons, okDs, okD, Bool.and_eq_true, decide_eq_true_eq]
    exact ⟨⟨by omega, by simp⟩, okDs_ans hn as⟩
theorem okD_ans {as : List (Int × Int)} : okD (ansD as) 60 = true := by
  unfold ansD
  simp only [okD, Bool.and_eq_true, decide_eq_true_eq]
  exact ⟨by omega, okDs_ans (by omega) as⟩
theorem ansD_inj {as bs : List (Int × Int)} : ansD as = ansD bs ↔ as = bs := by
  refine ⟨fun h => ?_, fun h => by rw [h]⟩
  unfold ansD at h
  have h := PyData.list.inj h
  induction as generalizing bs with
  | nil => cases bs with
    | nil => rfl
    | cons b bs => simp at h
  | cons a as ih => cases bs with
    | nil => simp at h
    | cons b bs =>
      obtain ⟨a1, a2⟩ := a
      obtain ⟨b1, b2⟩ := b
      simp only [List.map_cons, List.cons.injEq, PyData.tuple.injEq, PyData.int.injEq, and_true] at h
      rw [h.1.1, h.1.2, ih (congrArg PyData.list h.2) h.2]
/-! ### clash_of -/
/-- the answers at some places -/
def pickL (as : List (Int × Int)) (ks : List Int) : List (Int × Int) := ks.map fun k => as.getD k.toNat (0, 0)
noncomputable def clStep (ps : List Int) (as : List (Int × Int)) (kept : List Int) (at_ : Int) : List Int := if fitL ps (pickL as (kept.filter fun k => !decide (k = at_))) = [] then kept.filter fun k => !decide (k = at_) else kept
def upL (n : Nat) : List Int := (List.range n).map fun i : Nat => (i : Int)
/-- the answers that are needed for a contradiction -/
noncomputable def clashL (ps : List Int) (as : List (Int × Int)) : List Int := (upL as.length).foldl (clStep ps as) (upL as.length)
theorem clStep_sub {ps : List Int} {as : List (Int × Int)} {kept : List Int} {i : Int} : (∀ k ∈ clStep ps as kept i, k ∈ kept) ∧ (clStep ps as kept i).length ≤ kept.length := by
  unfold clStep
  split
  · exact ⟨fun k h => (List.mem_filter.mp h).1, List.length_filter_le _ _⟩
  · exact ⟨fun _ h => h, Nat.le_refl _⟩
theorem upL_snoc {n : Nat} : upL (n + 1) = upL n ++ [(n : Int)] := by
  unfold upL
  rw [List.range_succ, List.map_append]
  rfl
theorem upL_mem {n : Nat} {k : Int} : k ∈ upL n ↔ 0 ≤ k ∧ k < n := by
  unfold upL
  rw [List.mem_map]
  constructor
  · rintro ⟨i, hi, rfl⟩
    have := List.mem_range.mp hi
    omega
  · rintro ⟨h1, h2⟩
    exact ⟨k.toNat, List.mem_range.mpr (by omega), by omega⟩
theorem upL_len {n : Nat} : (upL n).length = n := by rw [upL, List.length_map, List.length_range]
theorem clash_sub {ps : List Int} {as : List (Int × Int)} : ∀ {R kept : List Int}, (∀ k ∈ R.foldl (clStep ps as) kept, k ∈ kept) ∧ (R.foldl (clStep ps as) kept).length ≤ kept.length
  | [], _ => ⟨fun _ h => h, Nat.le_refl _⟩
  | i :: R, kept => by
    obtain ⟨h1, h2⟩ := clash_sub (R := R) (kept := clStep ps as kept i)
    obtain ⟨h3, h4⟩ := clStep_sub (ps := ps) (as := as) (kept := kept) (i := i)
    exact ⟨fun k h => h3 k (h1 k h), Nat.le_trans h2 h4⟩
theorem RowsAt.pick {H : Hp} {ts : List Addr} {as : List (Int × Int)} (h : RowsAt H ts (ansV as)) : ∀ {ks : List Int}, (∀ k ∈ ks, 0 ≤ k ∧ k < as.length) → RowsAt H (ks.map fun k => ts.getD k.toNat 0) (ansV (pickL as ks))
  | [], _ => trivial
  | k :: ks, hk => by
    refine ⟨?_, RowsAt.pick h fun k hk' => hk k (List.mem_cons_of_mem _ hk')⟩
    have hb := hk k List.mem_cons_self
    have tl : ts.length = as.length := by rw [RowsAt.len h, ansV, List.length_map]
    have e1 : (ts.map V.ref)[k.toNat]? = some (.ref (ts.getD k.toNat 0)) := by
      rw [List.getElem?_map, List.getD_eq_getElem?_getD, List.getElem?_eq_getElem (by omega)]
      rfl
    obtain ⟨t, l, e2, ht, hl⟩ := RowsAt.at h e1
    show H (ts.getD k.toNat 0) = some (.tup [.int (as.getD k.toNat (0, 0)).1, .int (as.getD k.toNat (0, 0)).2])
    rw [V.ref.inj e2, ht]
    rw [ansV, List.getElem?_map, List.getElem?_eq_getElem (by omega)] at hl
    rw [← Option.some.inj hl, List.getD_eq_getElem?_getD, List.getElem?_eq_getElem (by omega)]
    rfl
theorem rd_lstRg1 {ta : TE} {σ : L2.St} {H : Hp} {Q : VK} (h : ta σ H fun x H1 => ∃ n, x = .int n ∧ RgOk 0 n ∧ ∀ q, H1 q = none → Q (.ref q) (upd H1 q (.lst (rgV 0 n)))) : tLstRg (tRg1 ta) σ H Q := h
theorem rgV_up {n : Nat} : rgV 0 (n : Int) = (upL n).map V.int := by
  unfold rgV upL
  rw [List.map_map, Int.sub_zero, Int.toNat_natCast]
  exact List.map_congr_left fun i _ => by simp
def spClash (K : PySem.W.Frag) : Sp := fun vs H Q _ => ∃ (c a : Addr) (ps : List Int) (as : List (Int × Int)), vs = [.ref c, .ref a] ∧ H c = some (.lst (ps.map V.int)) ∧ AnsAt H a as ∧ NoT H ∧ (∀ p ∈ ps, QR.OP p ∧ p < 2 ^ 60) ∧ (∀ q ∈ as, Bd 200 q.1 ∧ Bd 200 q.2) ∧ ps.length ≤ 10000 ∧ as.length ≤ 1000 ∧
  ∀ p G, Same H G → NoT G → G p = some (.lst ((clashL ps as).map V.int)) → Q (.ref p) G
theorem use_clash {K : PySem.W.Frag} {c a : Addr} {ps : List Int} {as : List (Int × Int)} {H : Hp} {Q : VK} {E : XK} (hc : H c = some (.lst (ps.map V.int))) (ha : AnsAt H a as) (nt : NoT H) (op : ∀ p ∈ ps, QR.OP p ∧ p < 2 ^ 60) (bs : ∀ q ∈ as, Bd 200 q.1 ∧ Bd 200 q.2) (pl : ps.length ≤ 10000) (al : as.length ≤ 1000)
    (q : ∀ p G, Same H G → NoT G → G p = some (.lst ((clashL ps as).map V.int)) → Q (.ref p) G) : spClash K [.ref c, .ref a] H Q E := ⟨c, a, ps, as, rfl, hc, ha, nt, op, bs, pl, al, q⟩
theorem ok_clash_of (T : Txt K mg Ad) : Def P w K mg base 6 "clash_of" ["clocks", "answers"] (spClash K) := by
  refine T.d_clash_of.ok sc_clash_of (fun vs H Q E h => ?_) (fun f cdv A outer s H vs Q E hr h => ?_)
  · obtain ⟨c, a, ps, as, rfl, _⟩ := h
    rfl
  · obtain ⟨c, a, ps, as, rfl, hc, ha, nt, op, bs, pl, al, q⟩ := h
    refine ⟨_, (pss_cons (ps_set (i := 2) sc_clash_of.nd rfl (Or.inl rfl) (pe_listRg rfl (by rfl) T.b_list (prg_1 (by rfl) T.b_range (pe_callB c_len (by rfl) T.b_len PySem.boot_len (pa_cons (pv 1) pa_nil)))))
      (pss_cons (ps_for (passes_of rfl) rfl (pi_range1 (by rfl) T.b_range (pa_cons (pe_callB c_len (by rfl) T.b_len PySem.boot_len (pa_cons (pv 1) pa_nil)) pa_nil)) (pg_name (i := 3) sc_clash_of.nd rfl (Or.inr rfl)) (pss_cons (ps_setLc (i := 4) (own := [("k", 5)])  (te := (tVar 5)) (tt := (tTest (tOp rNe (tVar 5) (tVar 3)))) rfl sc_clash_of.nd rfl rfl (sw_true rfl rfl rfl (by decide +kernel)) (pi_list (pv 2)) (blkOk_by (own := [("k", 5)]) (N := ["clocks", "answers", "kept", "at", "others", "k"]) (sc := defScope s_clash_of) (by decide +kernel)) (fun _ _ _ _ _ => (pg_name (i := 5) sc_clash_of.nd rfl (Or.inl rfl))) (fun _ _ _ _ _ => (pts_one (pt_cmpR op_ne (pv 5) (pv 3) (nomark _)))) (fun _ _ _ _ _ => (pv 5)))
      (pss_one (ps_if (pt_cmpR (op_eqD hr.units) (pe_d (ok_fitting T) (hr.mono (by decide)) (passes_call (takes_of rfl rfl rfl rfl) (fun _ _ _ _ h => h)) (pa_cons (pv 0) (pa_cons (pe_lc (own := [("k", 5)])  (te := (tOp (rIxL K) (tVar 1) (tVar 5))) rfl sc_clash_of.nd  (pi_list (pv 4)) (blkOk_by (own := [("k", 5)]) (N := ["clocks", "answers", "kept", "at", "others", "k"]) (sc := defScope s_clash_of) (by decide +kernel)) (fun _ _ _ _ _ => (pg_name (i := 5) sc_clash_of.nd rfl (Or.inl rfl))) (fun _ _ _ _ _ => pts_nil) (fun _ _ _ _ _ => (pe_ix ix_list (pv 1) (pv 5) (fun _ _ => rfl)))) pa_nil))) (pe_lst pa_nil) (nomark _)) (pss_one (ps_set (i := 2) sc_clash_of.nd rfl (Or.inl rfl) (pv 4))) pss_nil))))
      (pss_one (ps_ret (pv 2))))), ?_⟩
    try dsimp only [cxOf]
    obtain ⟨ts, hta, hrw⟩ := ha.ex
    have tl : ts.length = as.length := by rw [hrw.len, ansV, List.length_map]
    wtm_at "rs"
    refine rd_lstRg1 ?_
    wtm_at "rs"
    refine ⟨_, rfl, RgOk.of_le (by omega) (by rw [List.length_map]; omega) (by omega) (by omega), fun p hp => ?_⟩
    rw [List.length_map, tl, rgV_up]
    have B := (Hv.start nt).newL (o := .lst ((upL as.length).map V.int)) hp
    have len62 : ((ts.map V.ref).length : Int) < 2 ^ 62 := by rw [List.length_map, tl]; omega
    refine B.gen fun G B => ?_
    wtm_at "rs"
    refine rd_forR (fun i σ G => ∃ (l : Addr) (v3 v4 : Option V), σ = [some (.ref c), some (.ref a), some (.ref l), v3, v4, none] ∧ Hv noX H [] [(l, .lst (((upL i).foldl (clStep ps as) (upL as.length)).map V.int))] [] G) ⟨p, none, none, rfl, B⟩ ?_ ?_
    · rintro i σ G hi ⟨l, v3, v4, rfl, B⟩
      have hi2 : i < as.length := by
        rw [List.length_map, tl] at hi
        omega
      rw [upL_snoc, List.foldl_append]
      have hk : ∀ k ∈ (upL i).foldl (clStep ps as) (upL as.length), 0 ≤ k ∧ k < as.length := fun k h => upL_mem.mp (clash_sub.1 k h)
      have lk : ((upL i).foldl (clStep ps as) (upL as.length)).length ≤ as.length := by
        have := (clash_sub (ps := ps) (as := as) (R := upL i) (kept := upL as.length)).2
        rwa [upL_len] at this
      generalize (upL i).foldl (clStep ps as) (upL as.length) = kept at *
      wtm_at "rs"
      rw [Int.zero_add]
      refine rd_lcI (ns := kept) (fun k => !decide (k = (i : Int))) V.int (SqL.of (B.lAt (a := l) (by wtm_at "mem"))) (fun D l1 x r2 hD hl => ?_) fun D hD => ?_
      · have lb : l1.length ≤ kept.length := by rw [hl]; simp
        wtm_at "r"
        refine ⟨rfl, ?_⟩
        wtm_at "rs"
        by_cases hx : x = (i : Int)
        · refine rd_neF hx ?_
          exact skip_I (by rw [decide_eq_true hx]; rfl)
        · refine rd_neT hx ?_
          wtm_at "rs"
          exact put_I (by omega) (by rw [decide_eq_false hx]; rfl) rfl
      · have ec : List.foldl (clStep ps as) kept [(i : Int)] = if fitL ps (pickL as (kept.filter fun k => !decide (k = (i : Int)))) = [] then kept.filter fun k => !decide (k = (i : Int)) else kept := rfl
        rw [ec]
        have ho : ∀ k ∈ kept.filter fun k => !decide (k = (i : Int)), 0 ≤ k ∧ k < as.length := fun k h => hk k (List.mem_filter.mp h).1
        have lo : (kept.filter fun k => !decide (k = (i : Int))).length ≤ as.length := Nat.le_trans (List.length_filter_le _ _) lk
        have B := B.newL (o := .lst ((kept.filter fun k => !decide (k = (i : Int))).map V.int)) hD
        generalize kept.filter (fun k => !decide (k = (i : Int))) = oth at *
        refine B.gen fun G B => ?_
        wtm_at "rs"
        refine rd_lcI (ns := oth) (fun _ => true) (fun k => .ref (ts.getD k.toNat 0)) (SqL.of (B.lAt (a := D) (by wtm_at "mem"))) (fun D2 l1 x r2 hD2 hl => ?_) fun D2 hD2 => ?_
        · have lb : l1.length ≤ oth.length := by rw [hl]; simp
          have hx := ho x (by rw [hl]; simp)
          wtm_at "r"
          refine ⟨rfl, ?_⟩
          wtm_at "rs"
          refine rd_ixL (SqL.of (upd_keep (B.oAt hta) hD2)) (show atI (ts.map V.ref) x = some (.ref (ts.getD x.toNat 0)) from ?_) ?_
          · obtain ⟨j, rfl⟩ : ∃ j : Nat, x = (j : Int) := ⟨x.toNat, by omega⟩
            exact atI_nat (by rw [List.getElem?_map, Int.toNat_natCast, List.getD_eq_getElem?_getD, List.getElem?_eq_getElem (by omega)]; rfl)
          · exact put_I (by omega) rfl rfl
        · rw [List.filter_eq_self.mpr fun _ _ => rfl]
          have B := B.newL (o := .lst (oth.map fun k => V.ref (ts.getD k.toNat 0))) hD2
          refine B.gen fun G B => ?_
          wtm_at "rs"
          refine use_fit (SqL.of (B.oAt hc)) ⟨oth.map fun k => ts.getD k.toNat 0, by rw [B.lAt (a := D2) (by wtm_at "mem"), List.map_map]; rfl, (hrw.mono B.same).pick ho⟩ B.nt op (fun q hq => ?_) pl (by rw [pickL, List.length_map]; omega) fun p2 G2 hp2 s2 n2 hp2' => ?_
          · obtain ⟨k, hk2, rfl⟩ := List.mem_map.mp hq
            have := ho k hk2
            rw [List.getD_eq_getElem?_getD, List.getElem?_eq_getElem (by omega)]
            exact bs _ (List.getElem_mem _)
          · have B := B.got s2 n2 hp2 hp2'
            clear s2 n2 hp2 hp2'
            refine B.gen fun G B => ?_
            wtm_at "rs"
            rename_i p3 hp3
            have B := B.newL (o := .lst []) hp3
            refine B.gen fun G B => ?_
            refine rd_eqInts (ns := fitL ps (pickL as oth)) (ms := []) (SqL.of (B.lAt (a := p2) (by wtm_at "mem"))) (SqL.of (B.lAt (a := p3) (o := .lst []) (by wtm_at "mem"))) ?_
            refine ⟨_, rfl, ?_⟩
            by_cases he : fitL ps (pickL as oth) = []
            · rw [if_pos (decide_eq_true he), if_pos he]
              wtm_at "rs"
              exact ⟨D, _, _, rfl, B.sub (by wtm_at "vsub") sub_nil⟩
            · rw [if_neg (by rw [decide_eq_true_iff]; exact he), if_neg he]
              wtm_at "rs"
              exact ⟨l, _, _, rfl, B.sub (by wtm_at "vsub") sub_nil⟩
    · rintro σ G ⟨l, v3, v4, rfl, B⟩
      wtm_at "rs"
      refine q l G B.same B.nt ?_
      rw [B.lAt (a := l) (by wtm_at "mem"), List.length_map, tl, Int.toNat_natCast]
      rfl
/-! ### _law_sign -/
def spLSgn : Sp := fun vs H Q E => ∃ (n p : Int), vs = [.int n, .int p] ∧ QR.OP p ∧ p < 2 ^ 100 ∧ Q (.int (sgn n p)) H
theorem use_LSgn {n p : Int} {H : Hp} {Q : VK} {E : XK} (hp : QR.OP p) (hb : p < 2 ^ 100) (q : Q (.int (sgn n p)) H) : spLSgn [.int n, .int p] H Q E := ⟨n, p, rfl, hp, hb, q⟩
theorem ok_law_sign (T : Txt K mg Ad) : Def P w K mg base 1 "_law_sign" ["_law_n", "_law_p"] spLSgn := by
  refine T.d_law_sign.ok sc_law_sign (fun vs H Q E h => ?_) (fun f cdv A outer s H vs Q E hr h => ?_)
  · obtain ⟨n, p, rfl, _⟩ := h
    rfl
  · obtain ⟨n, p, rfl, hp, hb, q⟩ := h
    refine ⟨_, (pss_cons (ps_set (i := 2) sc_law_sign.nd rfl (Or.inl rfl) pe_int)
      (pss_cons (ps_set (i := 3) sc_law_sign.nd rfl (Or.inl rfl) (pe_op op_mod (pe_callTy c_int1 (by rfl) T.b_int (by decide +kernel) (pa_cons (pv 0) pa_nil)) (pv 1)))
      (pss_cons (ps_set (i := 4) sc_law_sign.nd rfl (Or.inl rfl) (pe_op op_fdivB (pe_op op_sub (pv 1) pe_int) pe_int))
      (pss_cons (ps_while (passes_of rfl) (pt_cmpR op_gt (pv 4) pe_int (nomark _)) (pss_cons (ps_if (pt_cmpR op_eq (pe_op op_mod (pv 4) pe_int) pe_int (nomark _)) (pss_one (ps_set (i := 2) sc_law_sign.nd rfl (Or.inl rfl) (pe_op op_mod (pe_callTy c_int1 (by rfl) T.b_int (by decide +kernel) (pa_cons (pe_op op_mulB (pv 2) (pv 3)) pa_nil)) (pv 1)))) pss_nil)
      (pss_cons (ps_set (i := 3) sc_law_sign.nd rfl (Or.inl rfl) (pe_op op_mod (pe_callTy c_int1 (by rfl) T.b_int (by decide +kernel) (pa_cons (pe_op op_mulB (pv 3) (pv 3)) pa_nil)) (pv 1)))
      (pss_one (ps_set (i := 4) sc_law_sign.nd rfl (Or.inl rfl) (pe_op op_fdivB (pv 4) pe_int))))))
      (pss_cons (ps_if (pt_cmpR op_eq (pv 2) (pe_op op_sub (pv 1) pe_int) (nomark _)) (pss_one (ps_ret (pe_un un_neg pe_int))) pss_nil)
      (pss_one (ps_ret (pv 2)))))))), ?_⟩
    try dsimp only [cxOf]
    have h3 := hp.three
    have m1 := fun z => Int.emod_nonneg z (show p ≠ 0 by omega)
    have m2 := fun z => Int.emod_lt_of_pos z (show 0 < p by omega)
    have m3 := m1 n
    have m4 := m2 n
    obtain ⟨e0, he0⟩ : ∃ e0, e0 = ((p - 1) / 2).toNat := ⟨_, rfl⟩
    have he1 : (p - 1) / 2 = (e0 : Int) := by omega
    have eu := euler_sgn (n := n) hp
    rw [← he0] at eu
    wtm_at "rs"
    rw [he1]
    refine rd_while (fun μ σ H' => ∃ (d : Nat) (r b : Int), μ = d ∧ σ = [some (.int n), some (.int p), some (.int r), some (.int b), some (.int (d : Int))] ∧ H = H' ∧ 0 ≤ r ∧ r < p ∧ 0 ≤ b ∧ b < p ∧ p ∣ r * b ^ d - n ^ e0) _
      ⟨e0, 1, n % p, rfl, rfl, rfl, by omega, by omega, m3, m4, by rw [Int.one_mul]; exact cg_pow ⟨-(n / p), by have := Int.mul_ediv_add_emod n p; rw [Int.mul_neg]; omega⟩ e0⟩ ?_
    rintro μ σ H' ⟨d, r, b, rfl, rfl, rfl, r0, r1, b0, b1, inv⟩
    have Br : Bd 100 r := Bd.of (by omega) (by omega)
    have Bb : Bd 100 b := Bd.of (by omega) (by omega)
    wtm_at "rs"
    wtm_at "i"
    · wtm_at "rs"
      wtm_at "i"
      · wtm_at "rs"
        exact ⟨_, by omega, μ / 2, _, _, rfl, by rw [show ((μ / 2 : Nat) : Int) = (μ : Int) / 2 by omega]; rfl, rfl, m1 _, m2 _, m1 _, m2 _, pw_odd inv (by omega)⟩
      · wtm_at "rs"
        exact ⟨_, by omega, μ / 2, _, _, rfl, by rw [show ((μ / 2 : Nat) : Int) = (μ : Int) / 2 by omega]; rfl, rfl, r0, r1, m1 _, m2 _, pw_even inv (by omega)⟩
    · rename_i h0
      have e : μ = 0 := by omega
      subst e
      have er := pw_fin (Y := n ^ e0) inv r0 r1
      rw [← er] at eu
      wtm_at "rs"
      by_cases c : r = p - 1
      · rw [if_pos (decide_eq_true c)]
        rw [if_pos c] at eu
        wtm_at "rs"
        rw [eu]
        exact q
      · rw [if_neg (by rw [decide_eq_true_iff]; exact c)]
        rw [if_neg c] at eu
        wtm_at "rs"
        rw [eu]
        exact q
/-! ### _law_left -/
/-- the answers that are not true on a clock -/
noncomputable def wrongL (as : List (Int × Int)) (p : Int) : List Int := (as.filter fun q => !decide (sgn q.1 p = q.2)).map fun q => q.1
theorem wrong_nil {as : List (Int × Int)} {p : Int} : wrongL as p = [] ↔ (as.all fun q => decide (sgn q.1 p = q.2)) = true := by
  unfold wrongL
  rw [List.map_eq_nil_iff, List.filter_eq_nil_iff, List.all_eq_true]
  simp
def spLLeft (K : PySem.W.Frag) : Sp := fun vs H Q _ => ∃ (c a : Addr) (ps : List Int) (as : List (Int × Int)), vs = [.ref c, .ref a] ∧ H c = some (.lst (ps.map V.int)) ∧ AnsAt H a as ∧ NoT H ∧ (∀ p ∈ ps, QR.OP p ∧ p < 2 ^ 60) ∧ ps.length ≤ 10000 ∧ as.length ≤ 1000 ∧
  ∀ p G, H p = none → Same H G → NoT G → G p = some (.lst ((fitL ps as).map V.int)) → Q (.ref p) G
theorem use_lleft {K : PySem.W.Frag} {c a : Addr} {ps : List Int} {as : List (Int × Int)} {H : Hp} {Q : VK} {E : XK} (hc : H c = some (.lst (ps.map V.int))) (ha : AnsAt H a as) (nt : NoT H) (op : ∀ p ∈ ps, QR.OP p ∧ p < 2 ^ 60) (pl : ps.length ≤ 10000) (al : as.length ≤ 1000)
    (q : ∀ p G, H p = none → Same H G → NoT G → G p = some (.lst ((fitL ps as).map V.int)) → Q (.ref p) G) : spLLeft K [.ref c, .ref a] H Q E := ⟨c, a, ps, as, rfl, hc, ha, nt, op, pl, al, q⟩
theorem ok_law_left (T : Txt K mg Ad) : Def P w K mg base 2 "_law_left" ["_law_clocks", "_law_answers"] (spLLeft K) := by
  refine T.d_law_left.ok sc_law_left (fun vs H Q E h => ?_) (fun f cdv A outer s H vs Q E hr h => ?_)
  · obtain ⟨c, a, ps, as, rfl, _⟩ := h
    rfl
  · obtain ⟨c, a, ps, as, rfl, hc, ha, nt, op, pl, al, q⟩ := h
    refine ⟨_, (pss_one (ps_ret (pe_lc (own := [("_law_p", 2)])  (te := (tVar 2)) (tt := (tTest (tOp (rEqD K) (tLc (iList K (tVar 1)) (gTup K 2 (gCons (gName 3) (gCons (gName 4) gNil))) (tTest (tOp rNe (tCall (spLSgn) [] E0 (tCons (tVar 3) (tCons (tVar 2) tNil))) (tVar 4))) (tVar 3) [3, 4]) (tLst tNil)))) rfl sc_law_left.nd  (pi_list (pv 0)) (blkOk_by (own := [("_law_p", 2)]) (N := ["_law_clocks", "_law_answers", "_law_p", "_law_n", "_law_s"]) (sc := defScope s_law_left) (by decide +kernel)) (fun _ _ _ _ _ => (pg_name (i := 2) sc_law_left.nd rfl (Or.inr rfl))) (fun _ _ _ _ _ => (pts_one (pt_cmpR (show OpR _ _ (rEqD K) from op_eqD hr.units) (by exact (pe_lc (own := [("_law_n", 3), ("_law_s", 4)])  (g := (gTup K 2 (gCons (gName 3) (gCons (gName 4) gNil)))) (te := (tVar 3)) (tt := (tTest (tOp rNe (tCall (spLSgn) [] E0 (tCons (tVar 3) (tCons (tVar 2) tNil))) (tVar 4)))) rfl sc_law_left.nd  (pi_list (pv 1)) (show BlkOk _ { kind := .function, names := [(".0", .local), ("_law_p", .cell), ("_law_answers", .cell)], isGenerator := false, isCoroutine := false } _ _ from blkOk_by (own := [("_law_n", 3), ("_law_s", 4)]) (N := ["_law_clocks", "_law_answers", "_law_p", "_law_n", "_law_s"]) (by decide +kernel)) (fun _ _ _ _ _ => (pg_tup rfl (pgs_cons (pg_name (i := 3) sc_law_left.nd rfl (Or.inl rfl)) (pgs_cons (pg_name (i := 4) sc_law_left.nd rfl (Or.inl rfl)) pgs_nil)))) (fun _ _ _ _ _ => (pts_one (pt_cmpR op_ne (pe_d (E := E0) (ok_law_sign T) (hr.mono (by decide)) passL (pa_cons (pv 3) (pa_cons (pv 2) pa_nil))) (pv 4) (nomark _)))) (fun _ _ _ _ _ => (pv 3)))) (pe_lst pa_nil) (nomark _)))) (fun _ _ _ _ _ => (pv 2))))), ?_⟩
    try dsimp only [cxOf]
    wtm_at "rs"
    obtain ⟨ts, hta, rw0⟩ := ha.ex
    refine rd_lcP (fun i ys => ys = (fitL (ps.take i) as).map V.int) (SqL.of hc) nt rfl (fun D i ys x G hx sm nG hD hGD hy => ?_) fun D ys G hD hGD sm nG hy => ?_
    · rw [List.getElem?_map] at hx
      obtain ⟨p, hpi, ep⟩ := Option.map_eq_some_iff.mp hx
      subst ep
      have hp := List.mem_of_getElem? hpi
      obtain ⟨opp, pb⟩ := op p hp
      wtm_at "rs"
      refine ⟨rfl, ?_⟩
      wtm_at "rs"
      refine rd_lcP (fun j zs => zs = (wrongL (as.take j) p).map V.int) (SqL.of (sm _ _ hta)) nG rfl (fun D2 j zs z G2 hz sm2 nG2 hD2 hGD2 hzs => ?_) fun D2 zs G2 hD2 hGD2 sm2 nG2 hzs => ?_
      · obtain ⟨t, l, rfl, ht, hl⟩ := (rw0.mono (sm.trans sm2)).at hz
        rw [ansV, List.getElem?_map] at hl
        obtain ⟨⟨n, s⟩, hqi, rfl⟩ := Option.map_eq_some_iff.mp hl
        have hq := List.mem_of_getElem? hqi
        have lj : j < as.length := (List.getElem?_eq_some_iff.mp hqi).1
        have wl : (wrongL (as.take j) p).length ≤ as.length := by
          unfold wrongL
          rw [List.length_map]
          exact Nat.le_trans (List.length_filter_le _ _) (by rw [List.length_take]; omega)
        have ws : wrongL (as.take (j + 1)) p = wrongL (as.take j) p ++ (if sgn n p = s then [] else [n]) := by
          unfold wrongL
          rw [List.take_add_one, hqi, List.filter_append, List.map_append]
          by_cases h : sgn n p = s <;> simp [h]
        wtm_at "rs"
        refine ⟨rfl, ?_⟩
        wtm_at "rs"
        refine use_LSgn opp (by omega) ?_
        wtm_at "rs"
        by_cases h : sgn n p = s
        · refine rd_neF h ?_
          exact ⟨_, hGD2, sm2, nG2, by rw [hzs, ws, if_pos h, List.append_nil]⟩
        · refine rd_neT h ?_
          wtm_at "rs"
          refine put_P hGD2 (by rw [hzs, List.length_map]; unfold sizeLine; omega) sm2 hD2 nG2 ?_
          rw [hzs, ws, if_neg h, List.map_append]
          rfl
      · have el : (ts.map V.ref).length = as.length := by
          rw [List.length_map, rw0.len, ansV, List.length_map]
        rw [el, List.take_length] at hzs
        wtm_at "rs"
        rename_i p3 hp3
        have hG2 : upd G2 p3 (.lst []) D2 = some (.lst ((wrongL as p).map V.int)) := by rw [← hzs]; exact upd_keep hGD2 hp3
        refine rd_eqInts (ns := wrongL as p) (ms := []) (SqL.of hG2) (SqL.of upd_same) ?_
        refine ⟨_, rfl, ?_⟩
        have s3 := (sm.trans sm2).trans (same_new (o := .lst []) hp3)
        have n3 := NoT.upd (o := .lst []) (p := p3) nG2 rfl
        have hD' : upd G2 p3 (.lst []) D = some (.lst ys) := (sm2.trans (same_new hp3)) _ _ hGD
        have li : i < ps.length := (List.getElem?_eq_some_iff.mp hpi).1
        have fl : (fitL (ps.take i) as).length ≤ ps.length := Nat.le_trans (List.length_filter_le _ _) (by rw [List.length_take]; omega)
        by_cases hw : wrongL as p = []
        · have hall := wrong_nil.mp hw
          rw [if_pos (decide_eq_true hw)]
          wtm_at "rs"
          refine put_P hD' (by rw [hy, List.length_map]; unfold sizeLine; omega) s3 hD n3 ?_
          rw [hy, List.take_add_one, hpi]
          rw [Option.toList_some, fitL_pos hall, List.map_append]
          rfl
        · have hall : ¬ (as.all fun q => decide (sgn q.1 p = q.2)) = true := fun z => hw (wrong_nil.mpr z)
          rw [if_neg (by rw [decide_eq_true_iff]; exact hw)]
          refine ⟨ys, hD', s3, n3, ?_⟩
          rw [hy, List.take_add_one, hpi]
          rw [Option.toList_some, fitL_neg hall]
    · refine q D G hD sm nG ?_
      rw [hGD, hy, List.length_map, List.take_length]
/-! ### _law_clash -/
def spLClash (K : PySem.W.Frag) : Sp := fun vs H Q _ => ∃ (c a : Addr) (ps : List Int) (as : List (Int × Int)), vs = [.ref c, .ref a] ∧ H c = some (.lst (ps.map V.int)) ∧ AnsAt H a as ∧ NoT H ∧ (∀ p ∈ ps, QR.OP p ∧ p < 2 ^ 60) ∧ ps.length ≤ 10000 ∧ as.length ≤ 1000 ∧
  ∀ p G, Same H G → NoT G → G p = some (.lst ((clashL ps as).map V.int)) → Q (.ref p) G
theorem use_lclash {K : PySem.W.Frag} {c a : Addr} {ps : List Int} {as : List (Int × Int)} {H : Hp} {Q : VK} {E : XK} (hc : H c = some (.lst (ps.map V.int))) (ha : AnsAt H a as) (nt : NoT H) (op : ∀ p ∈ ps, QR.OP p ∧ p < 2 ^ 60) (pl : ps.length ≤ 10000) (al : as.length ≤ 1000)
    (q : ∀ p G, Same H G → NoT G → G p = some (.lst ((clashL ps as).map V.int)) → Q (.ref p) G) : spLClash K [.ref c, .ref a] H Q E := ⟨c, a, ps, as, rfl, hc, ha, nt, op, pl, al, q⟩
theorem ok_law_clash (T : Txt K mg Ad) : Def P w K mg base 3 "_law_clash" ["_law_clocks", "_law_answers"] (spLClash K) := by
  refine T.d_law_clash.ok sc_law_clash (fun vs H Q E h => ?_) (fun f cdv A outer s H vs Q E hr h => ?_)
  · obtain ⟨c, a, ps, as, rfl, _⟩ := h
    rfl
  · obtain ⟨c, a, ps, as, rfl, hc, ha, nt, op, pl, al, q⟩ := h
    refine ⟨_, (pss_cons (ps_set (i := 2) sc_law_clash.nd rfl (Or.inl rfl) (pe_listRg rfl (by rfl) T.b_list (prg_1 (by rfl) T.b_range (pe_callB c_len (by rfl) T.b_len PySem.boot_len (pa_cons (pv 1) pa_nil)))))
      (pss_cons (ps_for (passes_of rfl) rfl (pi_range1 (by rfl) T.b_range (pa_cons (pe_callB c_len (by rfl) T.b_len PySem.boot_len (pa_cons (pv 1) pa_nil)) pa_nil)) (pg_name (i := 3) sc_law_clash.nd rfl (Or.inr rfl)) (pss_cons (ps_setLc (i := 4) (own := [("_law_k", 5)])  (te := (tVar 5)) (tt := (tTest (tOp rNe (tVar 5) (tVar 3)))) rfl sc_law_clash.nd rfl rfl (sw_true rfl rfl rfl (by decide +kernel)) (pi_list (pv 2)) (blkOk_by (own := [("_law_k", 5)]) (N := ["_law_clocks", "_law_answers", "_law_kept", "_law_at", "_law_others", "_law_k"]) (sc := defScope s_law_clash) (by decide +kernel)) (fun _ _ _ _ _ => (pg_name (i := 5) sc_law_clash.nd rfl (Or.inl rfl))) (fun _ _ _ _ _ => (pts_one (pt_cmpR op_ne (pv 5) (pv 3) (nomark _)))) (fun _ _ _ _ _ => (pv 5)))
      (pss_one (ps_if (pt_cmpR (op_eqD hr.units) (pe_d (ok_law_left T) (hr.mono (by decide)) (passes_call (takes_of rfl rfl rfl rfl) (fun _ _ _ _ h => h)) (pa_cons (pv 0) (pa_cons (pe_lc (own := [("_law_k", 5)])  (te := (tOp (rIxL K) (tVar 1) (tVar 5))) rfl sc_law_clash.nd  (pi_list (pv 4)) (blkOk_by (own := [("_law_k", 5)]) (N := ["_law_clocks", "_law_answers", "_law_kept", "_law_at", "_law_others", "_law_k"]) (sc := defScope s_law_clash) (by decide +kernel)) (fun _ _ _ _ _ => (pg_name (i := 5) sc_law_clash.nd rfl (Or.inl rfl))) (fun _ _ _ _ _ => pts_nil) (fun _ _ _ _ _ => (pe_ix ix_list (pv 1) (pv 5) (fun _ _ => rfl)))) pa_nil))) (pe_lst pa_nil) (nomark _)) (pss_one (ps_set (i := 2) sc_law_clash.nd rfl (Or.inl rfl) (pv 4))) pss_nil))))
      (pss_one (ps_ret (pv 2))))), ?_⟩
    try dsimp only [cxOf]
    obtain ⟨ts, hta, hrw⟩ := ha.ex
    have tl : ts.length = as.length := by rw [hrw.len, ansV, List.length_map]
    wtm_at "rs"
    refine rd_lstRg1 ?_
    wtm_at "rs"
    refine ⟨_, rfl, RgOk.of_le (by omega) (by rw [List.length_map]; omega) (by omega) (by omega), fun p hp => ?_⟩
    rw [List.length_map, tl, rgV_up]
    have B := (Hv.start nt).newL (o := .lst ((upL as.length).map V.int)) hp
    have len62 : ((ts.map V.ref).length : Int) < 2 ^ 62 := by rw [List.length_map, tl]; omega
    refine B.gen fun G B => ?_
    wtm_at "rs"
    refine rd_forR (fun i σ G => ∃ (l : Addr) (v3 v4 : Option V), σ = [some (.ref c), some (.ref a), some (.ref l), v3, v4, none] ∧ Hv noX H [] [(l, .lst (((upL i).foldl (clStep ps as) (upL as.length)).map V.int))] [] G) ⟨p, none, none, rfl, B⟩ ?_ ?_
    · rintro i σ G hi ⟨l, v3, v4, rfl, B⟩
      have hi2 : i < as.length := by
        rw [List.length_map, tl] at hi
        omega
      rw [upL_snoc, List.foldl_append]
      have hk : ∀ k ∈ (upL i).foldl (clStep ps as) (upL as.length), 0 ≤ k ∧ k < as.length := fun k h => upL_mem.mp (clash_sub.1 k h)
      have lk : ((upL i).foldl (clStep ps as) (upL as.length)).length ≤ as.length := by
        have := (clash_sub (ps := ps) (as := as) (R := upL i) (kept := upL as.length)).2
        rwa [upL_len] at this
      generalize (upL i).foldl (clStep ps as) (upL as.length) = kept at *
      wtm_at "rs"
      rw [Int.zero_add]
      refine rd_lcI (ns := kept) (fun k => !decide (k = (i : Int))) V.int (SqL.of (B.lAt (a := l) (by wtm_at "mem"))) (fun D l1 x r2 hD hl => ?_) fun D hD => ?_
      · have lb : l1.length ≤ kept.length := by rw [hl]; simp
        wtm_at "r"
        refine ⟨rfl, ?_⟩
        wtm_at "rs"
        by_cases hx : x = (i : Int)
        · refine rd_neF hx ?_
          exact skip_I (by rw [decide_eq_true hx]; rfl)
        · refine rd_neT hx ?_
          wtm_at "rs"
          exact put_I (by omega) (by rw [decide_eq_false hx]; rfl) rfl
      · have ec : List.foldl (clStep ps as) kept [(i : Int)] = if fitL ps (pickL as (kept.filter fun k => !decide (k = (i : Int)))) = [] then kept.filter fun k => !decide (k = (i : Int)) else kept := rfl
        rw [ec]
        have ho : ∀ k ∈ kept.filter fun k => !decide (k = (i : Int)), 0 ≤ k ∧ k < as.length := fun k h => hk k (List.mem_filter.mp h).1
        have lo : (kept.filter fun k => !decide (k = (i : Int))).length ≤ as.length := Nat.le_trans (List.length_filter_le _ _) lk
        have B := B.newL (o := .lst ((kept.filter fun k => !decide (k = (i : Int))).map V.int)) hD
        generalize kept.filter (fun k => !decide (k = (i : Int))) = oth at *
        refine B.gen fun G B => ?_
        wtm_at "rs"
        refine rd_lcI (ns := oth) (fun _ => true) (fun k => .ref (ts.getD k.toNat 0)) (SqL.of (B.lAt (a := D) (by wtm_at "mem"))) (fun D2 l1 x r2 hD2 hl => ?_) fun D2 hD2 => ?_
        · have lb : l1.length ≤ oth.length := by rw [hl]; simp
          have hx := ho x (by rw [hl]; simp)
          wtm_at "r"
          refine ⟨rfl, ?_⟩
          wtm_at "rs"
          refine rd_ixL (SqL.of (upd_keep (B.oAt hta) hD2)) (show atI (ts.map V.ref) x = some (.ref (ts.getD x.toNat 0)) from ?_) ?_
          · obtain ⟨j, rfl⟩ : ∃ j : Nat, x = (j : Int) := ⟨x.toNat, by omega⟩
            exact atI_nat (by rw [List.getElem?_map, Int.toNat_natCast, List.getD_eq_getElem?_getD, List.getElem?_eq_getElem (by omega)]; rfl)
          · exact put_I (by omega) rfl rfl
        · rw [List.filter_eq_self.mpr fun _ _ => rfl]
          have B := B.newL (o := .lst (oth.map fun k => V.ref (ts.getD k.toNat 0))) hD2
          refine B.gen fun G B => ?_
          wtm_at "rs"
          refine use_lleft (B.oAt hc) ⟨oth.map fun k => ts.getD k.toNat 0, by rw [B.lAt (a := D2) (by wtm_at "mem"), List.map_map]; rfl, (hrw.mono B.same).pick ho⟩ B.nt op pl (by rw [pickL, List.length_map]; omega) fun p2 G2 hp2 s2 n2 hp2' => ?_
          have B := B.got s2 n2 hp2 hp2'
          clear s2 n2 hp2 hp2'
          refine B.gen fun G B => ?_
          wtm_at "rs"
          rename_i p3 hp3
          have B := B.newL (o := .lst []) hp3
          refine B.gen fun G B => ?_
          refine rd_eqInts (ns := fitL ps (pickL as oth)) (ms := []) (SqL.of (B.lAt (a := p2) (by wtm_at "mem"))) (SqL.of (B.lAt (a := p3) (o := .lst []) (by wtm_at "mem"))) ?_
          refine ⟨_, rfl, ?_⟩
          by_cases he : fitL ps (pickL as oth) = []
          · rw [if_pos (decide_eq_true he), if_pos he]
            wtm_at "rs"
            exact ⟨D, _, _, rfl, B.sub (by wtm_at "vsub") sub_nil⟩
          · rw [if_neg (by rw [decide_eq_true_iff]; exact he), if_neg he]
            wtm_at "rs"
            exact ⟨l, _, _, rfl, B.sub (by wtm_at "vsub") sub_nil⟩
    · rintro σ G ⟨l, v3, v4, rfl, B⟩
      wtm_at "rs"
      refine q l G B.same B.nt ?_
      rw [B.lAt (a := l) (by wtm_at "mem"), List.length_map, tl, Int.toNat_natCast]
      rfl
/-! ### is_prime -/
def spPm : Sp := fun vs H Q _ => ∃ n : Int, vs = [.int n] ∧ n < 2 ^ 120 ∧ Q (.bl (decide (QR.Pm n))) H
theorem ok_is_prime (T : Txt K mg Ad) : Def P w K mg base 1 "is_prime" ["n"] spPm := by
  refine T.d_is_prime.ok sc_is_prime (fun vs H Q E h => ?_) (fun f cdv A outer s H vs Q E hr h => ?_)
  · obtain ⟨n, rfl, _⟩ := h
    rfl
  · obtain ⟨n, rfl, hn, q⟩ := h
    refine ⟨_, (pss_cons (ps_if (pt_cmpR op_lt (pv 0) pe_int (nomark _)) (pss_one (ps_ret pe_bl)) pss_nil)
      (pss_cons (ps_set (i := 1) sc_is_prime.nd rfl (Or.inl rfl) pe_int)
      (pss_cons (ps_while (passes_of rfl) (pt_cmpR op_le (pe_op op_mulB (pv 1) (pv 1)) (pv 0) (nomark _)) (pss_cons (ps_if (pt_cmpR op_eq (pe_op op_mod (pv 0) (pv 1)) pe_int (nomark _)) (pss_one (ps_ret pe_bl)) pss_nil)
      (pss_one (ps_aug (i := 1) sc_is_prime.nd rfl (Or.inl rfl) pe_int ip_add))))
      (pss_one (ps_ret pe_bl))))), ?_⟩
    try dsimp only [cxOf]
    wtm_at "ra"
    · rw [decide_eq_false (fun z : QR.Pm n => by have := z.1; omega)] at q
      exact q
    · refine rd_while (fun μ σ H' => ∃ k : Int, μ = (n + 1 - k).toNat ∧ σ = [some (.int n), some (.int k)] ∧ H = H' ∧ 2 ≤ k ∧ k < 2 ^ 61 ∧ ∀ d : Int, 2 ≤ d → d < k → ¬ d ∣ n) (n - 1).toNat
        ⟨2, by omega, rfl, rfl, by omega, by omega, fun d _ _ => by omega⟩ ?_
      rintro μ σ H' ⟨k, rfl, rfl, rfl, hk, hk3, inv⟩
      wtm_at "ra"
      · rename_i hle hz
        rw [decide_eq_false (fun z : QR.Pm n => QR.not_pm (by omega) hle hz z)] at q
        exact q
      · rename_i hle hz
        have b := QR.sq_bound (by omega) hle hn
        have c := QR.le_sq (show 1 ≤ k by omega)
        exact ⟨_, by omega, k + 1, rfl, rfl, rfl, by omega, by omega, QR.no_dvd_step inv hz⟩
      · rename_i hgt
        rw [decide_eq_true (show QR.Pm n from QR.pm_of_trial (by omega) (by omega) (by omega) inv)] at q
        exact q
theorem use_Pm {n : Int} {H : Hp} {Q : VK} {E : XK} (h : n < 2 ^ 120) (q : Q (.bl (decide (QR.Pm n))) H) : spPm [.int n] H Q E := ⟨n, rfl, h, q⟩
local macro_rules | `(tactic| wtm_at "s") => `(tactic| ((with_reducible refine use_Pm ?h1 ?_); (case h1 => omega)))
/-! ### primes -/
theorem itL_eq {pz : Nat → Bool} {fv : Nat → V} : ∀ k i : Nat, itL pz fv k i = (((List.range k).map fun j => i + j).filter pz).map fv := fun k => by
  induction k with
  | zero => intro i; rfl
  | succ k ih =>
    intro i
    have e : (List.range (k + 1)).map (fun j => i + j) = i :: (List.range k).map fun j => (i + 1) + j := by
      rw [List.range_succ_eq_map, List.map_cons, List.map_map]
      refine congrArg (i :: ·) (List.map_congr_left fun j _ => ?_)
      simp
      omega
    rw [e, itL, ih (i + 1)]
    by_cases h : pz i = true
    · rw [if_pos h, List.filter_cons_of_pos h, List.map_cons]
    · rw [if_neg h, List.filter_cons_of_neg h]
/-- the odd primes from a on that are less than b -/
noncomputable def prsL (a b : Int) : List Int := ((List.range (b - (if a < 3 then 3 else a)).toNat).map fun i : Nat => (if a < 3 then 3 else a) + (i : Int)).filter fun n => decide (QR.OP n)
theorem prsL_op {a b p : Int} (h : p ∈ prsL a b) : QR.OP p ∧ a ≤ p ∧ p < b := by
  obtain ⟨h1, h2⟩ := List.mem_filter.mp h
  obtain ⟨i, hi, e⟩ := List.mem_map.mp h1
  have := List.mem_range.mp hi
  refine ⟨of_decide_eq_true h2, ?_, ?_⟩ <;> split at e <;> rename_i hh <;> simp only [hh, if_true, if_false] at this <;> omega
theorem mem_prsL {a b p : Int} : p ∈ prsL a b ↔ QR.OP p ∧ a ≤ p ∧ p < b := by
  refine ⟨prsL_op, fun ⟨op, h1, h2⟩ => ?_⟩
  have h3 := op.three
  refine List.mem_filter.mpr ⟨List.mem_map.mpr ⟨(p - (if a < 3 then 3 else a)).toNat, List.mem_range.mpr ?_, ?_⟩, decide_eq_true op⟩
  · split <;> omega
  · split <;> omega
theorem prsL_len {a b : Int} : (prsL a b).length ≤ (b - (if a < 3 then 3 else a)).toNat := by
  unfold prsL
  refine Nat.le_trans (List.length_filter_le _ _) ?_
  rw [List.length_map, List.length_range]
  exact Nat.le_refl _
def spPrs : SpY := fun vs xs => ∃ a b : Int, vs = [.int a, .int b] ∧ -(2 ^ 60) < a ∧ a < 2 ^ 60 ∧ -(2 ^ 60) < b ∧ b < 2 ^ 60 ∧ xs = (prsL a b).map V.int
theorem ok_primes (T : Txt K mg Ad) : GDf P w K mg base 2 "primes" ["start", "stop"] spPrs := by
  obtain ⟨f, fd, F, hm, hb⟩ := T.d_primes.ex
  refine ⟨f, fd, gfd_of F sc_primes (fun vs xs h => ?_) rfl (fun cdv A outer L vs xs hr h => ?_), hm, F.kp, hb⟩
  · obtain ⟨a, b, rfl, _⟩ := h
    rfl
  · obtain ⟨a, b, rfl, a1, a2, b1, b2, rfl⟩ := h
    have h3 : 3 ≤ (if a < 3 then 3 else a) := by split <;> omega
    have h4 : (if a < 3 then (3 : Int) else a) < 2 ^ 60 := by split <;> omega
    generalize hlo : (if a < 3 then (3 : Int) else a) = lo at h3 h4
    refine ⟨_, _, _, _, lo, (b - lo).toNat, fun i : Nat => decide (QR.OP (lo + (i : Int))), fun i : Nat => V.int (lo + (i : Int)), fun σ => ∃ v, σ = [some (.int a), some (.int b), v], fun s => (pi_range2 (by rfl) T.b_range (pa_cons (pe_callB (c_max2 rfl) (by rfl) T.b_max (by decide +kernel) (pa_cons (pv 0) (pa_cons pe_int pa_nil))) (pa_cons (pv 1) pa_nil))), fun s => (pg_name (i := 2) sc_primes.nd rfl (Or.inl rfl)), fun s => (PW.pt (pw_and (pt_cmpR op_eq (pe_op op_mod (pv 2) pe_int) pe_int (nomark _)) (pw_and1 (pt_val (pe_d (E := E0) (ok_is_prime T) (hr.mono (by decide)) passL (pa_cons (pv 2) pa_nil)))))), fun s => (pv 2), fun y => rfl, ?_, ⟨none, rfl⟩, fun σ ⟨v, e⟩ => by rw [e]; rfl, fun H R nt q => ?_, fun i σ H hi ⟨v, e⟩ nt => ?_⟩
    · rw [itL_eq, prsL, hlo]
      have e : (List.range (b - lo).toNat).map (fun j => 0 + j) = List.range (b - lo).toNat := by
        refine (List.map_congr_left fun j _ => Nat.zero_add j).trans (List.map_id _)
      rw [e, List.filter_map, List.map_map]
      rfl
    · wtm_at "rs"
      have e : (if 3 > a then 3 else a) = lo := hlo
      rw [e]
      exact q
    · subst e
      wtm_at "r"
      refine ⟨rfl, ⟨_, rfl⟩, ?_⟩
      wtm_at "rs"
      by_cases ho : (lo + (i : Int)) % 2 = 1
      · rw [if_pos (decide_eq_true ho)]
        wtm_at "rs"
        refine ⟨rfl, decide_eq_decide.mpr ⟨fun h => ⟨h, ho⟩, fun h => h.1⟩, fun _ => ?_⟩
        wtm_at "rs"
        exact ⟨rfl, rfl⟩
      · rw [if_neg (by rw [decide_eq_true_iff]; exact ho)]
        exact ⟨rfl, (decide_eq_false fun h => ho h.2).symm, fun z => by cases z⟩
/-! ### Quiz.__init__ -/
theorem nqca : ¬ (("clocks" : Str) = "answers") := by decide +kernel
def qzF (a b : V) : List (Str × V) := [("clocks", a), ("answers", b)]
theorem qzF_put (a b : V) : putF "answers" b (putF "clocks" a []) = qzF a b := by
  simp only [putF, if_neg nqca, qzF]
theorem qzF_put2 (a b c : V) : putF "answers" c (qzF a b) = qzF a c := by
  simp only [putF, if_neg nqca, qzF, if_true]
def spQzI (C : Addr) : Sp := fun vs H Q _ => ∃ (x dx : Addr) (m : Int), vs = [.ref x, .int m] ∧ H x = some (.ins C dx []) ∧ NoT H ∧ 0 ≤ m ∧ m ≤ 100000 ∧
  ∀ c a G, Same H G → NoT G → H c = none → H a = none → c ≠ x → a ≠ x → a ≠ c → G c = some (.lst ((prsL 3 (m + 1)).map V.int)) → G a = some (.lst []) → Q .non (upd G x (.ins C dx (qzF (.ref c) (.ref a))))
theorem ok_Quiz_init (T : Txt K mg Ad) : MkDef P w K mg base 6 "Quiz" Ad.c_Quiz ["self", "most"] (spQzI Ad.c_Quiz) := by
  refine T.d_Quiz_init.ok sc_Quiz_init (fun vs H Q E h => ?_) (fun f cdv A outer s H vs Q E hr h => ?_)
  · obtain ⟨x, dx, m, rfl, _⟩ := h
    rfl
  · obtain ⟨x, dx, m, rfl, hx, nt, m0, m1, q⟩ := h
    refine ⟨_, (pss_cons (ps_fldC (pv 0) (pe_listG (pgen_of (E := E0) (ok_primes T) (hr.mono (by decide)) (by rfl) (pa_cons pe_int (pa_cons (pe_op op_add (pv 1) pe_int) pa_nil))) passL (fun _ _ _ h => h.elim) (hr.mono (by decide)) (by rfl) T.b_list (by decide +kernel)) T.cl_Quiz T.nf_Quiz_clocks)
      (pss_one (ps_fldC (pv 0) (pe_lst pa_nil) T.cl_Quiz T.nf_Quiz_answers))), ?_⟩
    try dsimp only [cxOf]
    wtm_at "rs"
    refine ⟨_, ⟨3, m + 1, rfl, by omega, by omega, by omega, by omega, rfl⟩, by rw [List.length_map]; exact Nat.le_trans prsL_len (by unfold sizeLine; split <;> omega), fun p hp => ?_⟩
    wtm_at "rs"
    rename_i p2 hp2
    have px : x ≠ p := fun z => by
      rw [← z, hx] at hp
      cases hp
    have h2x : p2 ≠ x := fun z => by
      rw [z, upd_same] at hp2
      cases hp2
    rw [upd_ne h2x] at hp2
    have h2p : p2 ≠ p := fun z => by
      rw [z, upd_same] at hp2
      cases hp2
    have hp2' := hp2
    rw [upd_ne h2p] at hp2'
    rw [qzF_put]
    have e : upd (upd (upd (upd H p (.lst ((prsL 3 (m + 1)).map V.int))) x (.ins Ad.c_Quiz dx (putF "clocks" (.ref p) []))) p2 (.lst [])) x (.ins Ad.c_Quiz dx (qzF (.ref p) (.ref p2))) = upd (upd (upd H p (.lst ((prsL 3 (m + 1)).map V.int))) p2 (.lst [])) x (.ins Ad.c_Quiz dx (qzF (.ref p) (.ref p2))) := by
      funext b
      by_cases hb : b = x
      · rw [hb, upd_same, upd_same]
      · rw [upd_ne hb, upd_ne hb]
        by_cases h2 : b = p2
        · rw [h2, upd_same, upd_same]
        · rw [upd_ne h2, upd_ne h2, upd_ne hb]
    refine Eq.subst (motive := fun h => Q .non h) e.symm ?_
    refine q p p2 _ ((same_new hp).trans (same_new (by rw [upd_ne h2p]; exact hp2'))) (NoT.upd (NoT.upd nt rfl) rfl) hp hp2' (fun z => px z.symm) h2x h2p ?_ upd_same
    rw [upd_ne (fun z => h2p z.symm), upd_same]
/-- the object q is a quiz with these primes and these answers -/
structure IsQz (C : Addr) (H : Hp) (q c a dx : Addr) : Prop where
  ob : H q = some (.ins C dx (qzF (.ref c) (.ref a)))
theorem mk_Qz {C : Addr} {H1 : Hp} {R : Addr → Hp → Prop} {E : XK} {m : Int} (nt : NoT H1) (m0 : 0 ≤ m) (m1 : m ≤ 100000)
    (q : ∀ x dx c a G, Same H1 G → NoT G → H1 x = none → H1 c = none → H1 a = none → c ≠ x → a ≠ x → a ≠ c → G x = some (.ins C dx (qzF (.ref c) (.ref a))) → G c = some (.lst ((prsL 3 (m + 1)).map V.int)) → G a = some (.lst []) → R x G) :
    ∀ x dx, H1 x = none → H1 dx = none → dx ≠ x → spQzI C [.ref x, .int m] (upd (upd H1 dx (.own x)) x (.ins C dx [])) (fun v H2 => v = .non ∧ R x H2) E := by
  intro x dx nx nd ne
  have s2 : Same H1 (upd (upd H1 dx (.own x)) x (.ins C dx [])) := same_upd2 (same_new nd) nx
  refine ⟨x, dx, m, rfl, upd_same, NoT.upd (NoT.upd nt rfl) rfl, m0, m1, fun c a G sm nG hc ha cx ax ac gc ga => ⟨rfl, ?_⟩⟩
  refine q x dx c a _ (same_upd2 (s2.trans sm) nx) (NoT.upd nG rfl) nx (s2.free hc) (s2.free ha) cx ax ac upd_same ?_ ?_
  · rw [upd_ne cx]
    exact gc
  · rw [upd_ne ax]
    exact ga
/-! ### Quiz.left -/
/-- what a quiz holds -/
structure QzAt (C : Addr) (K : PySem.W.Frag) (H : Hp) (q dx c a : Addr) (ps : List Int) (as : List (Int × Int)) : Prop where
  ob : H q = some (.ins C dx (qzF (.ref c) (.ref a)))
  cl : H c = some (.lst (ps.map V.int))
  an : AnsAt H a as
  op : ∀ p ∈ ps, QR.OP p ∧ p < 2 ^ 60
  bs : ∀ q ∈ as, Bd 200 q.1 ∧ Bd 200 q.2
  pl : ps.length ≤ 10000
  al : as.length ≤ 900
theorem QzAt.mono {C : Addr} {K : PySem.W.Frag} {H G : Hp} {q dx c a : Addr} {ps : List Int} {as : List (Int × Int)} (h : QzAt C K H q dx c a ps as) (s : Same H G) : QzAt C K G q dx c a ps as := ⟨s _ _ h.ob, s _ _ h.cl, h.an.mono s, h.op, h.bs, h.pl, h.al⟩
theorem RowsAt.otherI {H : Hp} {q C dx : Addr} {fs : List (Str × V)} {o : HO} (hq : H q = some (.ins C dx fs)) : ∀ {ts : List Addr} {ls : List (List V)}, RowsAt H ts ls → RowsAt (upd H q o) ts ls
  | [], [], _ => trivial
  | t :: _, _ :: _, h => ⟨by
      rw [upd_ne (ne_of h.1 hq (by intro z; cases z))]
      exact h.1, RowsAt.otherI hq h.2⟩
  | [], _ :: _, h => h.elim
  | _ :: _, [], h => h.elim
theorem AnsAt.otherI {H : Hp} {q C dx a : Addr} {fs : List (Str × V)} {o : HO} {as : List (Int × Int)} (hq : H q = some (.ins C dx fs)) (h : AnsAt H a as) : AnsAt (upd H q o) a as := by
  obtain ⟨ts, h1, h2⟩ := h.ex
  exact ⟨ts, by rw [upd_ne (ne_of h1 hq (by intro z; cases z))]; exact h1, h2.otherI hq⟩
/-- the answers of a quiz are others -/
theorem QzAt.put {C : Addr} {K : PySem.W.Frag} {H : Hp} {q dx c a a' : Addr} {ps : List Int} {as as' : List (Int × Int)} (h : QzAt C K H q dx c a ps as) (k : AnsAt H a' as') (bs : ∀ q ∈ as', Bd 200 q.1 ∧ Bd 200 q.2) (al : as'.length ≤ 900) : QzAt C K (upd H q (.ins C dx (qzF (.ref c) (.ref a')))) q dx c a' ps as' :=
  ⟨upd_same, by rw [upd_ne (ne_of h.cl h.ob (by intro z; cases z))]; exact h.cl, k.otherI h.ob, h.op, bs, h.pl, al⟩
def spLeft (C : Addr) (K : PySem.W.Frag) : Sp := fun vs H Q _ => ∃ (q dx c a : Addr) (ps : List Int) (as : List (Int × Int)), vs = [.ref q] ∧ QzAt C K H q dx c a ps as ∧ NoT H ∧
  ∀ p G, H p = none → Same H G → NoT G → G p = some (.lst ((fitL ps as).map V.int)) → Q (.ref p) G
theorem ok_Quiz_left (T : Txt K mg Ad) : MDef P w K mg base 6 Ad.c_Quiz "left" ["self"] (spLeft Ad.c_Quiz K) := by
  refine T.d_Quiz_left.ok sc_Quiz_left (fun vs H Q E h => ?_) (fun f cdv A outer s H vs Q E hr h => ?_)
  · obtain ⟨q, dx, c, a, ps, as, rfl, _⟩ := h
    rfl
  · obtain ⟨q, dx, c, a, ps, as, rfl, qz, nt, k⟩ := h
    have hob := qz.ob
    refine ⟨_, (pss_one (ps_ret (pe_d (ok_fitting T) (hr.mono (by decide)) (passes_call (takes_of rfl rfl rfl rfl) (fun _ _ _ _ h => h)) (pa_cons (pe_fldC (pv 0) T.cl_Quiz T.nf_Quiz_clocks) (pa_cons (pe_fldC (pv 0) T.cl_Quiz T.nf_Quiz_answers) pa_nil))))), ?_⟩
    try dsimp only [cxOf]
    wtm_at "rs"
    refine use_fit (SqL.of qz.cl) qz.an nt qz.op qz.bs qz.pl (by have := qz.al; omega) fun p G hp sm nG hG => ?_
    wtm_at "rs"
    exact k p G hp sm nG hG
theorem use_left {C : Addr} {K : PySem.W.Frag} {q dx c a : Addr} {ps : List Int} {as : List (Int × Int)} {H : Hp} {Q : VK} {E : XK} (qz : QzAt C K H q dx c a ps as) (nt : NoT H)
    (k : ∀ p G, H p = none → Same H G → NoT G → G p = some (.lst ((fitL ps as).map V.int)) → Q (.ref p) G) : spLeft C K [.ref q] H Q E := ⟨q, dx, c, a, ps, as, rfl, qz, nt, k⟩
/-! ### Quiz.hear -/
def spHear86 (C CC : Addr) (K : PySem.W.Frag) : Sp := fun vs H Q E => ∃ (q dx c a : Addr) (ps : List Int) (as : List (Int × Int)) (n s : Int), vs = [.ref q, .int n, .int s] ∧ QzAt C K H q dx c a ps as ∧ NoT H ∧ Bd 200 n ∧ Bd 200 s ∧ as.length ≤ 800 ∧
  (fitL ps (as ++ [(n, s)]) = [] → ∀ l d G, Same H G → NoT G → G d = some (.xd [("clash", .ref l)]) → G l = some (.lst ((clashL ps (as ++ [(n, s)])).map V.int)) → E (.ref CC) (some d) G) ∧
  (fitL ps (as ++ [(n, s)]) ≠ [] → ∀ a' G, H a' = none → But q H G → NoT G → QzAt C K G q dx c a' ps (as ++ [(n, s)]) → Q .non G)
theorem ok_Quiz_hear (T : Txt K mg Ad) : MDef P w K mg base 7 Ad.c_Quiz "hear" ["self", "n", "s"] (spHear86 Ad.c_Quiz Ad.c_Contradiction K) := by
  refine T.d_Quiz_hear.ok sc_Quiz_hear (fun vs H Q E h => ?_) (fun f cdv A outer s H vs Q E hr h => ?_)
  · obtain ⟨q, dx, c, a, ps, as, n, s, rfl, _⟩ := h
    rfl
  · obtain ⟨q, dx, c, a, ps, as, n, s, rfl, qz, nt, bn, bs, al, kno, k⟩ := h
    have hob := qz.ob
    refine ⟨_, (pss_cons (ps_set (i := 3) sc_Quiz_hear.nd rfl (Or.inl rfl) (pe_op op_cat (pe_fldC (pv 0) T.cl_Quiz T.nf_Quiz_answers) (pe_lst (pa_cons (pe_tup (pa_cons (pv 1) (pa_cons (pv 2) pa_nil))) pa_nil))))
      (pss_cons (ps_if (pt_cmpR (op_eqD hr.units) (pe_d (ok_fitting T) (hr.mono (by decide)) (passes_call (takes_of rfl rfl rfl rfl) (fun _ _ _ _ h => h)) (pa_cons (pe_fldC (pv 0) T.cl_Quiz T.nf_Quiz_clocks) (pa_cons (pv 3) pa_nil))) (pe_lst pa_nil) (nomark _)) (pss_one (ps_raise rfl (takes_of rfl rfl rfl rfl) (pmk_errL (T.err_Contradiction) (hr.mono (by decide)) (pa_cons (pe_d (ok_clash_of T) (hr.mono (by decide)) (passes_call (takes_of rfl rfl rfl rfl) (fun _ _ _ _ h => h)) (pa_cons (pe_fldC (pv 0) T.cl_Quiz T.nf_Quiz_clocks) (pa_cons (pv 3) pa_nil))) pa_nil)))) pss_nil)
      (pss_one (ps_fldC (pv 0) (pv 3) T.cl_Quiz T.nf_Quiz_answers)))), ?_⟩
    try dsimp only [cxOf]
    wtm_at "rs"
    rename_i t1 ht1 p1 hp1
    obtain ⟨ts, hta, hrw⟩ := qz.an.ex
    have tl : ts.length = as.length := by rw [hrw.len, ansV, List.length_map]
    have B := ((Hv.start nt).newL (o := .tup [.int n, .int s]) ht1).newL (o := .lst [.ref t1]) hp1
    refine rd_cat (B.oAt hta) (B.lAt (a := p1) (by wtm_at "mem")) ?_ fun p hp => ?_
    · rw [List.length_map, tl]
      have := qz.al
      unfold sizeLine
      simp
      omega
    rw [show ts.map V.ref ++ [V.ref t1] = (ts ++ [t1]).map V.ref by rw [List.map_append]; rfl]
    have B0 := B
    have B := B.newL (o := .lst ((ts ++ [t1]).map V.ref)) hp
    have rwA : RowsAt (upd (upd (upd H t1 (.tup [.int n, .int s])) p1 (.lst [.ref t1])) p (.lst ((ts ++ [t1]).map V.ref))) (ts ++ [t1]) (ansV (as ++ [(n, s)])) := by
      rw [show ansV (as ++ [(n, s)]) = ansV as ++ [[.int n, .int s]] by unfold ansV; rw [List.map_append]; rfl]
      exact RowsAt.snoc (B.lAt (a := t1) (by wtm_at "mem")) (hrw.mono B.same)
    have B := B.rig rwA.rig
    have hp0 := B0.free hp
    refine B.gen fun G B => ?_
    wtm_at "rs"
    refine use_fit (SqL.of (B.same _ _ qz.cl)) ⟨_, B.lAt (a := p) (by wtm_at "mem"), B.zAt (P := fun G => RowsAt G (ts ++ [t1]) (ansV (as ++ [(n, s)]))) (by wtm_at "mem")⟩ B.nt qz.op (fun r hr => ?_) qz.pl (by rw [List.length_append]; show as.length + 1 ≤ 1000; omega) fun p2 G2 hp2 s2 n2 hL => ?_
    · rcases List.mem_append.mp hr with hr | hr
      · exact qz.bs _ hr
      · rw [List.mem_singleton.mp hr]
        exact ⟨bn, bs⟩
    have B := B.got s2 n2 hp2 hL
    clear s2 n2 hp2 hL
    refine B.gen fun G B => ?_
    wtm_at "rs"
    rename_i p3 hp3
    refine rd_eqInts (ns := fitL ps (as ++ [(n, s)])) (ms := []) ((same_new hp3).seq (SqL.of (B.lAt (a := p2) (by wtm_at "mem")))) (SqL.of upd_same) ?_
    have B := B.newL (o := .lst []) hp3
    refine B.gen fun G B => ?_
    refine ⟨_, rfl, ?_⟩
    by_cases ne : fitL ps (as ++ [(n, s)]) = []
    · rw [if_pos (decide_eq_true ne)]
      have al2 : (as ++ [(n, s)]).length ≤ 1000 := by
        rw [List.length_append]
        show as.length + 1 ≤ 1000
        omega
      have hob := B.same _ _ hob
      wtm_at "rs"
      refine use_clash (B.same _ _ qz.cl) ⟨_, B.lAt (a := p) (by wtm_at "mem"), B.zAt (P := fun G => RowsAt G (ts ++ [t1]) (ansV (as ++ [(n, s)]))) (by wtm_at "mem")⟩ B.nt qz.op (fun r hr => ?_) qz.pl al2 fun p4 G4 s4 n4 h4 => ?_
      · rcases List.mem_append.mp hr with hr | hr
        · exact qz.bs _ hr
        · rw [List.mem_singleton.mp hr]
          exact ⟨bn, bs⟩
      · wtm_at "rs"
        refine rd_mkL (SqL.of h4) fun l d hl hd dl => ?_
        have s5 := (B.same.trans s4).trans (same_upd2 (o1 := .xd [("clash", .ref l)]) (same_new (o := .lst ((clashL ps (as ++ [(n, s)])).map V.int)) hl) hd)
        refine kno ne l d _ s5 (NoT.upd (NoT.upd n4 rfl) rfl) upd_same ?_
        rw [upd_ne (fun z => dl z.symm), upd_same]
    · rw [if_neg (by rw [decide_eq_true_iff]; exact ne)]
      have hob := B.same _ _ hob
      wtm_at "rs"
      rw [qzF_put2]
      refine k ne p _ hp0 (But.put (But.of B.same)) (NoT.upd B.nt rfl) ((qz.mono B.same).put ⟨_, B.lAt (a := p) (by wtm_at "mem"), B.zAt (P := fun G => RowsAt G (ts ++ [t1]) (ansV (as ++ [(n, s)]))) (by wtm_at "mem")⟩ (fun r hr => ?_) (by rw [List.length_append]; show as.length + 1 ≤ 900; omega))
      rcases List.mem_append.mp hr with hr | hr
      · exact qz.bs _ hr
      · rw [List.mem_singleton.mp hr]
        exact ⟨bn, bs⟩
/-! ### _law_hear -/
def spLHear (C : Addr) (K : PySem.W.Frag) : Sp := fun vs H Q E => ∃ (q dx c a : Addr) (ps : List Int) (as : List (Int × Int)) (n s : Int), vs = [.ref q, .int n, .int s] ∧ QzAt C K H q dx c a ps as ∧ NoT H ∧ Bd 200 n ∧ Bd 200 s ∧ as.length ≤ 800 ∧
  (fitL ps (as ++ [(n, s)]) = [] → ∀ l G, Same H G → NoT G → G l = some (.lst ((clashL ps (as ++ [(n, s)])).map V.int)) → Q (.ref l) G) ∧
  (fitL ps (as ++ [(n, s)]) ≠ [] → ∀ a' G, H a' = none → But q H G → NoT G → QzAt C K G q dx c a' ps (as ++ [(n, s)]) → Q .non G)
theorem ok_law_hear (T : Txt K mg Ad) : Def P w K mg base 8 "_law_hear" ["_law_quiz", "_law_n", "_law_s"] (spLHear Ad.c_Quiz K) := by
  refine T.d_law_hear.ok sc_law_hear (fun vs H Q E h => ?_) (fun f cdv A outer s H vs Q E hr h => ?_)
  · obtain ⟨q, dx, c, a, ps, as, n, s, rfl, _⟩ := h
    rfl
  · obtain ⟨q, dx, c, a, ps, as, n, s, rfl, qz, nt, bn, bs, al, kno, k⟩ := h
    have hob := qz.ob
    refine ⟨_, (pss_cons (ps_try_as (i := 4) (tb := fun W => (tAsg (tMethT Ad.c_Quiz "hear" ((spHear86 Ad.c_Quiz Ad.c_Contradiction K)) (WE W) (tVar 0) (tCons (tVar 1) (tCons (tVar 2) tNil))) (gName 3))) (ts := fun a cls d => (tRet (tCB (rListOf K) (tCons (tXf a cls d Ad.c_Contradiction "clash" (tVar 4)) tNil)))) (Wout := fun cls d _ H => E cls d H) rfl rfl sc_law_hear.nd rfl rfl ⟨rfl, by decide, .inl T.r_Contradiction.g⟩ (takes_of rfl rfl rfl rfl) (fun W pn xe tk _ => (pss_one (ps_set (i := 3) sc_law_hear.nd rfl (Or.inl rfl) (by exact (pe_mdS (ok_Quiz_hear T) (pv 0) T.cl_Quiz (hr.mono (by decide)) tk (pa_cons (pv 1) (pa_cons (pv 2) pa_nil))))))) (fun a oe cls d pn hz hf => (pss_one (ps_ret (pe_callTy c_listOf (by rfl) T.b_list (by decide +kernel) (pa_cons (pe_xf T.r_Contradiction.X T.no_Contradiction_clash hz hf (pv 4)) pa_nil))))))
      (pss_one (ps_ret (pv 3)))), ?_⟩
    try dsimp only [cxOf]
    wtm_at "rs"
    refine ⟨q, dx, c, a, ps, as, n, s, rfl, qz, nt, bn, bs, al, fun ne l d G sm nG hd hl => ?_, fun ne a' G ha b nG qz => ?_⟩
    · refine rd_was T.r_Contradiction.self fun a ha => ?_
      wtm_at "rs"
      rename_i l2 hl2
      exact kno ne l2 _ (sm.trans (same_new hl2)) (NoT.upd nG rfl) upd_same
    · wtm_at "rs"
      exact k ne a' G ha b nG qz
/-! ### Quiz.undo -/
theorem RowsAt.take {H : Hp} : ∀ {ts : List Addr} {ls : List (List V)} (n : Nat), RowsAt H ts ls → RowsAt H (ts.take n) (ls.take n)
  | [], [], n, _ => by rw [List.take_nil, List.take_nil]; trivial
  | t :: ts, l :: ls, 0, _ => trivial
  | t :: ts, l :: ls, n + 1, h => ⟨h.1, RowsAt.take n h.2⟩
  | [], _ :: _, _, h => h.elim
  | _ :: _, [], _, h => h.elim
theorem cut_drop {xs : List V} (h : xs ≠ []) : cutV xs none (some (-1)) = xs.take (xs.length - 1) := by
  have e := cut_last (xs := xs.dropLast) (y := xs.getLast h)
  rw [List.dropLast_concat_getLast] at e
  rw [e, List.dropLast_eq_take]
def spUndo86 (C CC : Addr) (K : PySem.W.Frag) : Sp := fun vs H Q E => ∃ (q dx c a : Addr) (ps : List Int) (as : List (Int × Int)), vs = [.ref q] ∧ QzAt C K H q dx c a ps as ∧ NoT H ∧ (as = [] → ∀ G, Same H G → NoT G → E (.ref CC) none G) ∧
  (as ≠ [] → ∀ a' G, H a' = none → But q H G → NoT G → QzAt C K G q dx c a' ps as.dropLast → Q .non G)
theorem ok_Quiz_undo (T : Txt K mg Ad) : MDef P w K mg base 3 Ad.c_Quiz "undo" ["self"] (spUndo86 Ad.c_Quiz Ad.c_NothingToUndo K) := by
  refine T.d_Quiz_undo.ok sc_Quiz_undo (fun vs H Q E h => ?_) (fun f cdv A outer s H vs Q E hr h => ?_)
  · obtain ⟨q, dx, c, a, ps, as, rfl, _⟩ := h
    rfl
  · obtain ⟨q, dx, c, a, ps, as, rfl, qz, nt, kno, k⟩ := h
    have hob := qz.ob
    refine ⟨_, (pss_cons (ps_if (pt_cmpR (op_eqD hr.units) (pe_fldC (pv 0) T.cl_Quiz T.nf_Quiz_answers) (pe_lst pa_nil) (nomark _)) (pss_one (ps_raise rfl (takes_of rfl rfl rfl rfl) (pmk_errN (T.err_NothingToUndo) (hr.mono (by decide))))) pss_nil)
      (pss_one (ps_fldC (pv 0) (pe_slice sl_list (pe_fldC (pv 0) T.cl_Quiz T.nf_Quiz_answers) po_none (po_some (pe_un un_neg pe_int))) T.cl_Quiz T.nf_Quiz_answers))), ?_⟩
    try dsimp only [cxOf]
    wtm_at "rs"
    rename_i p1 hp1
    obtain ⟨ts, hta, hrw⟩ := qz.an.ex
    have tl : ts.length = as.length := by rw [hrw.len, ansV, List.length_map]
    have B := (Hv.start nt).newL (o := .lst []) hp1
    refine rd_eqP (d := ansD as) (e := ansD []) (p := as = []) (dp_ans (qz.an.mono B.same)) (.lst (SqL.of (B.lAt (a := p1) (by wtm_at "mem"))) .nil) okD_ans okD_ans ansD_inj ?_
    refine ⟨_, rfl, ?_⟩
    by_cases ne : as = []
    · rw [if_pos (decide_eq_true ne)]
      wtm_at "rs"
      exact kno ne _ B.same B.nt
    · rw [if_neg (by rw [decide_eq_true_iff]; exact ne)]
      refine B.gen fun G B => ?_
      wtm_at "rs"
      rename_i p2 hp2
      have hp0 := B.free hp2
      have B := B.newL (o := .lst (cutV (ts.map V.ref) none (some (-1)))) hp2
      have ne2 : ts.map V.ref ≠ [] := fun e => ne (List.length_eq_zero_iff.mp (by rw [← tl, ← List.length_map (as := ts) V.ref, e]; rfl))
      rw [qzF_put2]
      refine k ne p2 _ hp0 (But.put (But.of B.same)) (NoT.upd B.nt rfl) ((qz.mono B.same).put ⟨ts.take (as.length - 1), ?_, ?_⟩ (fun r hr => qz.bs _ (List.dropLast_subset _ hr)) (by have := qz.al; rw [List.length_dropLast]; omega))
      · rw [upd_same, cut_drop ne2, List.length_map, tl, List.map_take]
      · rw [show ansV as.dropLast = (ansV as).take (as.length - 1) by unfold ansV; rw [List.dropLast_eq_take, List.map_take]]
        exact RowsAt.take _ (hrw.mono B.same)
/-! ### _law_undo -/
def spLUndo (C : Addr) (K : PySem.W.Frag) : Sp := fun vs H Q E => ∃ (q dx c a : Addr) (ps : List Int) (as : List (Int × Int)), vs = [.ref q] ∧ QzAt C K H q dx c a ps as ∧ NoT H ∧
  (as = [] → ∀ G, Same H G → NoT G → Q (.str "nothing") G) ∧
  (as ≠ [] → ∀ a' G, H a' = none → But q H G → NoT G → QzAt C K G q dx c a' ps as.dropLast → Q .non G)
theorem ok_law_undo (T : Txt K mg Ad) : Def P w K mg base 4 "_law_undo" ["_law_quiz"] (spLUndo Ad.c_Quiz K) := by
  refine T.d_law_undo.ok sc_law_undo (fun vs H Q E h => ?_) (fun f cdv A outer s H vs Q E hr h => ?_)
  · obtain ⟨q, dx, c, a, ps, as, rfl, _⟩ := h
    rfl
  · obtain ⟨q, dx, c, a, ps, as, rfl, qz, nt, kno, k⟩ := h
    have hob := qz.ob
    refine ⟨_, (pss_cons (ps_try_only (tb := fun W => (tAsg (tMethT Ad.c_Quiz "undo" ((spUndo86 Ad.c_Quiz Ad.c_NothingToUndo K)) (WE W) (tVar 0) tNil) (gName 1))) (ts := fun a cls d => (tRet (tC (.str "nothing")))) (Wout := fun cls d _ H => E cls d H) rfl rfl ⟨rfl, by decide, .inl T.r_NothingToUndo.g⟩ (takes_of rfl rfl rfl rfl) (fun W pn xe tk _ => (pss_one (ps_set (i := 1) sc_law_undo.nd rfl (Or.inl rfl) (by exact (pe_md0S (ok_Quiz_undo T) (pv 0) T.cl_Quiz (hr.mono (by decide)) tk))))) (fun a oe cls d pn hz hf => (pss_one (ps_ret pe_str))))
      (pss_one (ps_ret (pv 1)))), ?_⟩
    try dsimp only [cxOf]
    wtm_at "rs"
    refine ⟨q, dx, c, a, ps, as, rfl, qz, nt, fun ne G sm nG => ?_, fun ne a' G ha b nG qz => ?_⟩
    · refine rd_wonly T.r_NothingToUndo.self ?_
      intro a ha
      wtm_at "rs"
      exact kno ne G sm nG
    · wtm_at "rs"
      exact k ne a' G ha b nG qz
/-! ### row_of_questions -/
def qRow : List Int := [-1, 2, -3, 5, -7, -11, 13, 17, -19, -23, 29, -31, 37, 41, -43, -47]
def spQRow : Sp := fun vs H Q _ => vs = [] ∧ NoT H ∧ ∀ p G, H p = none → Same H G → NoT G → G p = some (.lst (qRow.map V.int)) → Q (.ref p) G
theorem use_QRow {H : Hp} {Q : VK} {E : XK} (nt : NoT H) (q : ∀ p G, H p = none → Same H G → NoT G → G p = some (.lst (qRow.map V.int)) → Q (.ref p) G) : spQRow [] H Q E := ⟨rfl, nt, q⟩
theorem qRow_prs : [-1, 2] ++ (prsL 3 51).map (fun n : Int => if n % 4 = 1 then n else -n) = qRow := by
  have e : prsL 3 51 = [3, 5, 7, 11, 13, 17, 19, 23, 29, 31, 37, 41, 43, 47] := by
    refine inc_same (by unfold prsL; refine List.Pairwise.filter _ ?_; rw [List.pairwise_map]; exact List.pairwise_lt_range.imp fun h => by omega) (by simp) fun p => ?_
    rw [mem_prsL]
    constructor
    · rintro ⟨op, h1, h2⟩
      have h4 := op.2
      have nn : ∀ a b : Int, 1 < a → a < p → p ≠ a * b := fun a b h1 h2 e => op.1.2 a h1 h2 ⟨b, e⟩
      have n9 := nn 3 3 (by omega)
      have n15 := nn 3 5 (by omega)
      have n21 := nn 3 7 (by omega)
      have n25 := nn 5 5 (by omega)
      have n27 := nn 3 9 (by omega)
      have n33 := nn 3 11 (by omega)
      have n35 := nn 5 7 (by omega)
      have n39 := nn 3 13 (by omega)
      have n45 := nn 3 15 (by omega)
      have n49 := nn 7 7 (by omega)
      simp only [List.mem_cons, List.not_mem_nil, or_false]
      omega
    · intro h
      simp only [List.mem_cons, List.not_mem_nil, or_false] at h
      rcases h with rfl | rfl | rfl | rfl | rfl | rfl | rfl | rfl | rfl | rfl | rfl | rfl | rfl | rfl
      · exact ⟨QR.op_by (n := 3) 3 (by decide) (by decide) (by decide) (by decide +kernel), by decide, by decide⟩
      · exact ⟨QR.op_by (n := 5) 3 (by decide) (by decide) (by decide) (by decide +kernel), by decide, by decide⟩
      · exact ⟨QR.op_by (n := 7) 6 (by decide) (by decide) (by decide) (by decide +kernel), by decide, by decide⟩
      all_goals exact ⟨QR.op_by 8 (by decide) (by decide) (by decide) (by decide +kernel), by decide, by decide⟩
  rw [e]
  decide +kernel
theorem prsL_snoc {i : Nat} : prsL 3 (3 + ((i + 1 : Nat) : Int)) = prsL 3 (3 + (i : Int)) ++ (if QR.OP (3 + (i : Int)) then [3 + (i : Int)] else []) := by
  unfold prsL
  simp only [show ¬ (3 : Int) < 3 by decide, if_false]
  rw [show (3 + ((i + 1 : Nat) : Int) - 3).toNat = i + 1 by omega, show (3 + (i : Int) - 3).toNat = i by omega, List.range_succ, List.map_append, List.filter_append]
  refine congrArg _ ?_
  show List.filter _ [3 + (i : Int)] = _
  by_cases h : QR.OP (3 + (i : Int)) <;> simp [h]
theorem clocks_prs {b : Int} : ((List.range (b - 3).toNat).filter fun i : Nat => decide (QR.OP (3 + (i : Int)))).map (fun i : Nat => V.int (3 + (i : Int))) = (prsL 3 b).map V.int := by
  unfold prsL
  simp only [show ¬ (3 : Int) < 3 by decide, if_false]
  rw [List.filter_map, List.map_map]
  rfl
theorem ok_row_of_questions (T : Txt K mg Ad) : Def P w K mg base 6 "row_of_questions" [] spQRow := by
  refine T.d_row_of_questions.ok sc_row_of_questions (fun vs H Q E h => ?_) (fun f cdv A outer s H vs Q E hr h => ?_)
  · obtain ⟨rfl, _⟩ := h
    rfl
  · obtain ⟨rfl, nt, q⟩ := h
    refine ⟨_, (pss_one (ps_ret (pe_op op_cat (pe_lst (pa_cons (pe_un un_neg pe_int) (pa_cons pe_int pa_nil))) (pe_lcG (own := [("q", 0)]) (te := (tIf (tTest (tOp rEq (tOp (rI (fun _ j => 0 < j) fun i j => .int (i % j)) (tVar 0) (tC (.int 4))) (tC (.int 1)))) (tVar 0) (tUn (rU fun i => .int (-i)) (tVar 0)))) rfl sc_row_of_questions.nd (hr.mono (by decide)) (pgn_call (ok_primes T) (hr.mono (by decide)) (by rfl) (pa_cons pe_int (pa_cons (pe_op op_add (pe_glob (v := .int 50) rfl T.k_GREATEST_ASKED ⟨_, rfl⟩) pe_int) pa_nil))) (blkOk_by (own := [("q", 0)]) (N := ["q"]) (sc := defScope s_row_of_questions) (by decide +kernel)) (fun _ _ _ _ _ => (pg_name (i := 0) sc_row_of_questions.nd rfl (Or.inl rfl))) (fun _ _ _ _ _ => (pe_ifExp (pt_cmpR op_eq (pe_op op_mod (pv 0) pe_int) pe_int (nomark _)) (pv 0) (pe_un un_neg (pv 0)))))))), ?_⟩
    try dsimp only [cxOf]
    wtm_at "rs"
    rename_i p0 hp0
    refine ⟨_, ⟨3, 50 + 1, rfl, by omega, by omega, by omega, by omega, rfl⟩, rd_lcY (fun v => match v with | .int n => .int (if n % 4 = 1 then n else -n) | v => v) (fun D2 i x hD2 hx => ?_) fun D2 hD2 => ?_⟩
    · obtain ⟨z, _, ez⟩ := List.mem_map.mp (List.mem_of_getElem? hx)
      subst ez
      wtm_at "rs"
      refine ⟨rfl, ?_⟩
      wtm_at "rs"
      split
      · rename_i hz
        wtm_at "rs"
        exact put_Y hx (by rw [List.length_map]; exact Nat.lt_of_le_of_lt prsL_len (by decide)) (congrArg V.int (if_pos (of_decide_eq_true hz)).symm)
      · rename_i hz
        wtm_at "rs"
        exact put_Y hx (by rw [List.length_map]; exact Nat.lt_of_le_of_lt prsL_len (by decide)) (congrArg V.int (if_neg fun h => hz (decide_eq_true h)).symm)
    · have B := (Hv.start nt).newL (o := .lst [V.int (-1), V.int 2]) hp0
      have B := B.newL (o := .lst (((prsL 3 51).map (fun n : Int => if n % 4 = 1 then n else -n)).map V.int)) (D := D2) (by exact hD2)
      have e : List.map (fun v : V => match v with | V.int n => V.int (if n % 4 = 1 then n else -n) | v => v) (List.map V.int (prsL 3 (50 + 1))) = ((prsL 3 51).map (fun n : Int => if n % 4 = 1 then n else -n)).map V.int := by
        rw [List.map_map, List.map_map]
        rfl
      rw [e]
      refine B.gen fun G B => ?_
      refine rd_cat (B.lAt (a := p0) (by wtm_at "mem")) (B.lAt (a := D2) (by wtm_at "mem")) ?_ fun p hp => ?_
      · rw [List.length_map, List.length_map]
        exact Nat.le_trans (Nat.add_le_add_left prsL_len _) (by decide)
      · refine q p _ (B.free hp) (B.same.trans (same_new hp)) (NoT.upd B.nt rfl) ?_
        rw [upd_same]
        refine congrArg (fun l => some (HO.lst l)) ?_
        rw [← qRow_prs, List.map_append]
        rfl
/-! ### Quiz.next_number -/
/-- the greatest part of the primes by the sign of n -/
noncomputable def worstQ (ps : List Int) (n : Int) : Int := max (((ps.map fun p => sgn n p).count (-1) : Nat) : Int) (max (((ps.map fun p => sgn n p).count 0 : Nat) : Int) (((ps.map fun p => sgn n p).count 1 : Nat) : Int))
noncomputable def nextStep (ps : List Int) (st : V × Int) (n : Int) : V × Int := if worstQ ps n < st.2 then (.int n, worstQ ps n) else st
/-- the best question for the primes that are left -/
noncomputable def nextQ (ps : List Int) : V := (qRow.foldl (nextStep ps) (.non, (ps.length : Int))).1
theorem fitL_snoc {ps : List Int} {as : List (Int × Int)} {n s : Int} : (fitL ps as).filter (fun p => decide (sgn n p = s)) = fitL ps (as ++ [(n, s)]) := by
  unfold fitL
  rw [List.filter_filter]
  refine List.filter_congr fun p _ => ?_
  rw [List.all_append]
  simp [Bool.and_comm]
theorem fitL_nil {ps : List Int} : fitL ps [] = ps := List.filter_eq_self.mpr fun _ _ => rfl
theorem nextQ_kind {L : List Int} : nextQ L = .non ∨ ∃ n, nextQ L = .int n := by
  unfold nextQ
  generalize hst : ((V.non, (L.length : Int)) : V × Int) = st
  have h : st.1 = .non ∨ ∃ n, st.1 = .int n := by
    subst hst
    exact .inl rfl
  clear hst
  revert st
  induction qRow with
  | nil => exact fun st h => h
  | cons n ns ih =>
    intro st h
    refine ih (nextStep L st n) ?_
    unfold nextStep
    split
    · exact .inr ⟨_, rfl⟩
    · exact h
theorem rd_neSelf {x : V} {H : Hp} {Q : VK} (h : x = .non ∨ ∃ n, x = .int n) (q : Q (.bl false) H) : rNe x x H Q := by
  rcases h with h | ⟨n, h⟩ <;> subst h <;> exact ⟨rfl, by simpa using q⟩
def spNext (C : Addr) (K : PySem.W.Frag) : Sp := fun vs H Q _ => ∃ (q dx c a : Addr) (ps : List Int) (as : List (Int × Int)), vs = [.ref q] ∧ QzAt C K H q dx c a ps as ∧ NoT H ∧
  ∀ G, Same H G → NoT G → Q (nextQ (fitL ps as)) G
theorem ok_Quiz_next_number (T : Txt K mg Ad) : MDef P w K mg base 7 Ad.c_Quiz "next_number" ["self"] (spNext Ad.c_Quiz K) := by
  refine T.d_Quiz_next_number.ok sc_Quiz_next_number (fun vs H Q E h => ?_) (fun f cdv A outer s H vs Q E hr h => ?_)
  · obtain ⟨q, dx, c, a, ps, as, rfl, _⟩ := h
    rfl
  · obtain ⟨q, dx, c, a, ps, as, rfl, qz, nt, k⟩ := h
    have hob := qz.ob
    refine ⟨_, (pss_cons (ps_set (i := 1) sc_Quiz_next_number.nd rfl (Or.inl rfl) (pe_md0 (ok_Quiz_left T) (pv 0) T.cl_Quiz (hr.mono (by decide)) (passes_call (takes_of rfl rfl rfl rfl) (fun _ _ _ _ h => h))))
      (pss_cons (ps_set (i := 2) sc_Quiz_next_number.nd rfl (Or.inl rfl) pe_non)
      (pss_cons (ps_set (i := 3) sc_Quiz_next_number.nd rfl (Or.inl rfl) (pe_callB c_len (by rfl) T.b_len PySem.boot_len (pa_cons (pv 1) pa_nil)))
      (pss_cons (ps_for (passes_of rfl) rfl (pi_list (pe_d0 (ok_row_of_questions T) (hr.mono (by decide)) (passes_call (takes_of rfl rfl rfl rfl) (fun _ _ _ _ h => h)))) (pg_name (i := 4) sc_Quiz_next_number.nd rfl (Or.inr rfl)) (pss_cons (ps_set (i := 5) sc_Quiz_next_number.nd rfl (Or.inr rfl) (pe_lc (own := [("p", 7)])  (te := (tCall (spSign Ad.c_BadModulus) [] E0 (tCons (tVar 4) (tCons (tVar 7) tNil)))) rfl sc_Quiz_next_number.nd  (pi_list (pv 1)) (blkOk_by (own := [("p", 7)]) (N := ["self", "possible", "found", "fewest", "n", "signs", "worst", "p", "s"]) (sc := defScope s_Quiz_next_number) (by decide +kernel)) (fun _ _ _ _ _ => (pg_name (i := 7) sc_Quiz_next_number.nd rfl (Or.inl rfl))) (fun _ _ _ _ _ => pts_nil) (fun _ _ _ _ _ => (pe_d (E := E0) (ok_sign T) (hr.mono (by decide)) passL (pa_cons (pv 4) (pa_cons (pv 7) pa_nil))))))
      (pss_cons (ps_set (i := 6) sc_Quiz_next_number.nd rfl (Or.inl rfl) (pe_callB (cr_max rfl) (by rfl) T.b_max (by decide +kernel) (pa_cons (pe_lc (own := [("s", 8)])  (te := (tBM K "list" (rCntI K) (tVar 5) (tCons (tVar 8) tNil))) rfl sc_Quiz_next_number.nd  (pi_tup (pe_tup (pa_cons (pe_un un_neg pe_int) (pa_cons pe_int (pa_cons pe_int pa_nil))))) (blkOk_by (own := [("s", 8)]) (N := ["self", "possible", "found", "fewest", "n", "signs", "worst", "p", "s"]) (sc := defScope s_Quiz_next_number) (by decide +kernel)) (fun _ _ _ _ _ => (pg_name (i := 8) sc_Quiz_next_number.nd rfl (Or.inl rfl))) (fun _ _ _ _ _ => pts_nil) (fun _ _ _ _ _ => (pe_bm PySem.F.plainAttrs_list PySem.F.slot_list_count PySem.F.type_list_count mt_lcount (pv 5) (pa_cons (pv 8) pa_nil)))) pa_nil)))
      (pss_one (ps_if (pt_cmpR op_lt (pv 6) (pv 3) (nomark _)) (pss_cons (ps_set (i := 2) sc_Quiz_next_number.nd rfl (Or.inl rfl) (pv 4))
      (pss_one (ps_set (i := 3) sc_Quiz_next_number.nd rfl (Or.inl rfl) (pv 6)))) pss_nil)))))
      (pss_one (ps_ret (pv 2))))))), ?_⟩
    try dsimp only [cxOf]
    wtm_at "rs"
    refine use_left qz nt fun p G hp sm nG hG => ?_
    have B := (Hv.start nt).got sm nG hp hG
    clear sm nG hp hG
    have hps : ∀ p ∈ fitL ps as, QR.OP p ∧ p < 2 ^ 60 := fun p hp => qz.op p (List.mem_filter.mp hp).1
    have hpl : (fitL ps as).length ≤ 10000 := Nat.le_trans (List.length_filter_le _ _) qz.pl
    generalize fitL ps as = L at *
    refine B.gen fun G B => ?_
    wtm_at "rs"
    refine use_QRow B.nt fun r G2 hr s2 n2 hR => ?_
    have B := B.got s2 n2 hr hR
    clear s2 n2 hr hR
    refine B.gen fun G B => ?_
    wtm_at "rs"
    refine rd_forL (fun i σ G' => ∃ vn vs vw : Option V, σ = [some (.ref q), some (.ref p), some ((qRow.take i).foldl (nextStep L) (.non, (L.length : Int))).1, some (.int ((qRow.take i).foldl (nextStep L) (.non, (L.length : Int))).2), vn, vs, vw, none, none] ∧ Hv noX H [] [(r, .lst (qRow.map V.int)), (p, .lst (L.map V.int))] [] G') ⟨none, none, none, by rw [List.length_map]; rfl, B⟩ (fun i σ G' _ ⟨_, _, _, _, B⟩ => SqL.of (B.lAt (a := r) (by wtm_at "mem"))) ?_ ?_
    · rintro i x σ G' hx ⟨vn, vs, vw, rfl, B⟩
      rw [List.getElem?_map] at hx
      obtain ⟨z, hz, ez⟩ := Option.map_eq_some_iff.mp hx
      subst ez
      have e : qRow.take (i + 1) = qRow.take i ++ [z] := by rw [List.take_add_one, hz]; rfl
      rw [e, List.foldl_append]
      generalize (qRow.take i).foldl (nextStep L) (.non, (L.length : Int)) = st
      wtm_at "rs"
      refine rd_lcI (ns := L) (fun _ => true) (fun x => .int (sgn z x)) (SqL.of (B.lAt (a := p) (by wtm_at "mem"))) (fun D2 l1 x r2 hD2 hl => ?_) fun D0 hD0 => ?_
      · have hx : x ∈ L := by rw [hl]; simp
        have opx := (hps x hx).1
        have x3 := opx.three
        have lb : l1.length ≤ L.length := by rw [hl]; simp
        wtm_at "r"
        refine ⟨rfl, ?_⟩
        wtm_at "rs"
        refine use_sign (NoT.upd B.nt rfl) (by omega) opx.2 ?_
        exact put_I (by omega) rfl rfl
      · rw [List.filter_eq_self.mpr fun _ _ => rfl]
        have B := B.newL (o := .lst ((L.map fun x => sgn z x).map V.int)) (D := D0) hD0
        rw [show L.map (fun x => V.int (sgn z x)) = (L.map fun x => sgn z x).map V.int by rw [List.map_map]; rfl]
        refine B.gen fun G B => ?_
        wtm_at "rs"
        rename_i p5 hp5
        have B := B.newL (o := .tup [.int (-1), .int 0, .int 1]) hp5
        refine B.gen fun G B => ?_
        have kc : K = K := rfl
        refine rd_lcIT (ns := [-1, 0, 1]) (fun _ => true) (fun s => .int (((L.map fun x => sgn z x).count s : Nat) : Int)) (SqT.of (B.lAt (a := p5) (o := .tup [.int (-1), .int 0, .int 1]) (by wtm_at "mem"))) (fun D2 l1 x r2 hD2 hl => ?_) fun D2 hD2 => ?_
        · have lb : l1.length ≤ 3 := by
            have := congrArg List.length hl
            simp at this
            omega
          wtm_at "rs"
          refine ⟨rfl, ?_⟩
          wtm_at "rs"
          refine ⟨_, L.map fun x => sgn z x, x, rfl, rfl, SqL.of (upd_keep (B.lAt (a := D0) (by wtm_at "mem")) hD2), put_I (by omega) rfl rfl⟩
        · rw [List.filter_eq_self.mpr fun _ _ => rfl]
          have B := B.newL (o := .lst ([(-1 : Int), 0, 1].map fun s => V.int (((L.map fun x => sgn z x).count s : Nat) : Int))) (D := D2) hD2
          refine B.gen fun G B => ?_
          wtm_at "rs"
          refine ⟨D2, [((L.map fun x => sgn z x).count (-1) : Nat), ((L.map fun x => sgn z x).count 0 : Nat), ((L.map fun x => sgn z x).count 1 : Nat)], rfl, SqL.of (B.lAt (a := D2) (o := .lst ([(-1 : Int), 0, 1].map fun s => V.int (((L.map fun x => sgn z x).count s : Nat) : Int))) (by wtm_at "mem")), Nat.zero_lt_succ _, fun m hm hle => ?_⟩
          have em : m = worstQ L z := by
            unfold worstQ
            have h1 := hle _ List.mem_cons_self
            have h2 := hle _ (List.mem_cons_of_mem _ List.mem_cons_self)
            have h3 := hle _ (List.mem_cons_of_mem _ (List.mem_cons_of_mem _ List.mem_cons_self))
            simp only [List.mem_cons, List.not_mem_nil, or_false] at hm
            omega
          subst em
          wtm_at "rs"
          wtm_at "i"
          · rename_i hlt
            wtm_at "rs"
            have es : List.foldl (nextStep L) st [z] = (.int z, worstQ L z) := if_pos hlt
            rw [es]
            exact ⟨_, _, _, rfl, B.sub (by wtm_at "vsub") sub_nil⟩
          · rename_i hlt
            wtm_at "rs"
            have es : List.foldl (nextStep L) st [z] = st := if_neg hlt
            rw [es]
            exact ⟨_, _, _, rfl, B.sub (by wtm_at "vsub") sub_nil⟩
    · rintro σ G' ⟨vn, vs, vw, rfl, B⟩
      rw [List.length_map, List.take_length]
      wtm_at "rs"
      exact k _ B.same B.nt
theorem use_next {C : Addr} {K : PySem.W.Frag} {q dx c a : Addr} {ps : List Int} {as : List (Int × Int)} {H : Hp} {Q : VK} {E : XK} (qz : QzAt C K H q dx c a ps as) (nt : NoT H)
    (k : ∀ G, Same H G → NoT G → Q (nextQ (fitL ps as)) G) : spNext C K [.ref q] H Q E := ⟨q, dx, c, a, ps, as, rfl, qz, nt, k⟩
/-! ### _law_is_prime -/
def spOP : Sp := fun vs H Q _ => ∃ n : Int, vs = [.int n] ∧ n < 2 ^ 120 ∧ Q (.bl (decide (QR.OP n))) H
theorem ok_law_is_prime (T : Txt K mg Ad) : Def P w K mg base 1 "_law_is_prime" ["_law_n"] spOP := by
  refine T.d_law_is_prime.ok sc_law_is_prime (fun vs H Q E h => ?_) (fun f cdv A outer s H vs Q E hr h => ?_)
  · obtain ⟨n, rfl, _⟩ := h
    rfl
  · obtain ⟨n, rfl, hn, q⟩ := h
    refine ⟨_, (pss_cons (ps_if (PW.pt (pw_or (pt_cmpR op_lt (pv 0) pe_int (nomark _)) (pw_or1 (pt_cmpR op_eq (pe_op op_mod (pv 0) pe_int) pe_int (nomark _))))) (pss_one (ps_ret pe_bl)) pss_nil)
      (pss_cons (ps_set (i := 1) sc_law_is_prime.nd rfl (Or.inl rfl) pe_int)
      (pss_cons (ps_while (passes_of rfl) (pt_cmpR op_le (pe_op op_mulB (pv 1) (pv 1)) (pv 0) (nomark _)) (pss_cons (ps_if (pt_cmpR op_eq (pe_op op_mod (pv 0) (pv 1)) pe_int (nomark _)) (pss_one (ps_ret pe_bl)) pss_nil)
      (pss_one (ps_set (i := 1) sc_law_is_prime.nd rfl (Or.inl rfl) (pe_op op_add (pv 1) pe_int)))))
      (pss_one (ps_ret pe_bl))))), ?_⟩
    try dsimp only [cxOf]
    wtm_at "ra"
    · rw [decide_eq_false (fun z : QR.OP n => by have := z.three; omega)] at q
      exact q
    · rw [decide_eq_false (fun z : QR.OP n => by have := z.2; omega)] at q
      exact q
    · refine rd_while (fun μ σ H' => ∃ k : Int, μ = (n + 2 - k).toNat ∧ σ = [some (.int n), some (.int k)] ∧ H = H' ∧ 3 ≤ k ∧ k % 2 = 1 ∧ k < 2 ^ 61 ∧ ∀ d : Int, 3 ≤ d → d % 2 = 1 → d < k → ¬ d ∣ n) (n - 1).toNat
        ⟨3, by omega, rfl, rfl, by omega, by omega, by omega, fun d _ _ _ => by omega⟩ ?_
      rintro μ σ H' ⟨k, rfl, rfl, rfl, hk, hk2, hk3, inv⟩
      wtm_at "ra"
      · rename_i hle hz
        rw [decide_eq_false (fun z : QR.OP n => QR.not_pm (by omega) hle hz z.1)] at q
        exact q
      · rename_i hle hz
        have b := QR.sq_bound (by omega) hle hn
        have c := QR.le_sq (show 1 ≤ k by omega)
        exact ⟨_, by omega, k + 2, rfl, rfl, rfl, by omega, by omega, by omega, QR.no_dvd_step2 hk2 inv hz⟩
      · rename_i hgt
        rw [decide_eq_true (show QR.OP n from ⟨QR.pm_of_odd_trial (by omega) (by omega) (by omega) (by omega) inv, by omega⟩)] at q
        exact q
theorem use_OP {n : Int} {H : Hp} {Q : VK} {E : XK} (h : n < 2 ^ 120) (q : Q (.bl (decide (QR.OP n))) H) : spOP [.int n] H Q E := ⟨n, rfl, h, q⟩
local macro_rules | `(tactic| wtm_at "s") => `(tactic| ((with_reducible refine use_OP ?h1 ?_); (case h1 => omega)))
/-! ### _law_next -/
def spLNx (K : PySem.W.Frag) : Sp := fun vs H Q _ => ∃ (l : Addr) (L : List Int), vs = [.ref l] ∧ H l = some (.lst (L.map V.int)) ∧ NoT H ∧ (∀ p ∈ L, QR.OP p ∧ p < 2 ^ 60) ∧ L.length ≤ 10000 ∧ ∀ G, Same H G → NoT G → Q (nextQ L) G
theorem use_LNx {K : PySem.W.Frag} {l : Addr} {L : List Int} {H : Hp} {Q : VK} {E : XK} (hl : H l = some (.lst (L.map V.int))) (nt : NoT H) (op : ∀ p ∈ L, QR.OP p ∧ p < 2 ^ 60) (few : L.length ≤ 10000) (q : ∀ G, Same H G → NoT G → Q (nextQ L) G) : spLNx K [.ref l] H Q E := ⟨l, L, rfl, hl, nt, op, few, q⟩
theorem ok_law_next (T : Txt K mg Ad) : Def P w K mg base 2 "_law_next" ["_law_left_here"] (spLNx K) := by
  refine T.d_law_next.ok sc_law_next (fun vs H Q E h => ?_) (fun f cdv A outer s H vs Q E hr h => ?_)
  · obtain ⟨l, L, rfl, _⟩ := h
    rfl
  · obtain ⟨l, L, rfl, hl, nt, op, few, q⟩ := h
    refine ⟨_, (pss_cons (ps_set (i := 1) sc_law_next.nd rfl (Or.inl rfl) (pe_lst (pa_cons (pe_un un_neg pe_int) (pa_cons pe_int pa_nil))))
      (pss_cons (ps_for (passes_of rfl) rfl (pi_range2 (by rfl) T.b_range (pa_cons pe_int (pa_cons pe_int pa_nil))) (pg_name (i := 2) sc_law_next.nd rfl (Or.inl rfl)) (pss_one (ps_if (pt_val (pe_d (ok_law_is_prime T) (hr.mono (by decide)) (passes_call (takes_of rfl rfl rfl rfl) (fun _ _ _ _ h => h)) (pa_cons (pv 2) pa_nil))) (pss_one (ps_expr (pe_bm PySem.F.plainAttrs_list PySem.F.slot_list_append PySem.F.type_list_append mt_append (pv 1) (pa_cons (pe_ix ix_list (pe_lst (pa_cons pe_int (pa_cons (pv 2) (pa_cons pe_int (pa_cons (pe_un un_neg (pv 2)) pa_nil))))) (pe_op op_mod (pe_callTy c_int1 (by rfl) T.b_int (by decide +kernel) (pa_cons (pv 2) pa_nil)) pe_int) (fun _ _ => rfl)) pa_nil)))) pss_nil)))
      (pss_cons (ps_set (i := 3) sc_law_next.nd rfl (Or.inl rfl) pe_non)
      (pss_cons (ps_set (i := 4) sc_law_next.nd rfl (Or.inl rfl) (pe_callB c_len (by rfl) T.b_len PySem.boot_len (pa_cons (pv 0) pa_nil)))
      (pss_cons (ps_for (passes_of rfl) rfl (pi_list (pv 1)) (pg_name (i := 5) sc_law_next.nd rfl (Or.inr rfl)) (pss_cons (ps_setLc (i := 6) (own := [("_law_p", 8)])  (te := (tCall (spLSgn) [] E0 (tCons (tVar 5) (tCons (tVar 8) tNil)))) rfl sc_law_next.nd rfl rfl (sw_true rfl rfl rfl (by decide +kernel)) (pi_list (pv 0)) (blkOk_by (own := [("_law_p", 8)]) (N := ["_law_left_here", "_law_row", "_law_q", "_law_due", "_law_fewest", "_law_n", "_law_signs", "_law_worst", "_law_p"]) (sc := defScope s_law_next) (by decide +kernel)) (fun _ _ _ _ _ => (pg_name (i := 8) sc_law_next.nd rfl (Or.inl rfl))) (fun _ _ _ _ _ => pts_nil) (fun _ _ _ _ _ => (pe_d (E := E0) (ok_law_sign T) (hr.mono (by decide)) passL (pa_cons (pv 5) (pa_cons (pv 8) pa_nil)))))
      (pss_cons (ps_set (i := 7) sc_law_next.nd rfl (Or.inl rfl) (pe_callB (c_max3 rfl) (by rfl) T.b_max (by decide +kernel) (pa_cons (pe_bm PySem.F.plainAttrs_list PySem.F.slot_list_count PySem.F.type_list_count mt_lcount (pv 6) (pa_cons pe_int pa_nil)) (pa_cons (pe_bm PySem.F.plainAttrs_list PySem.F.slot_list_count PySem.F.type_list_count mt_lcount (pv 6) (pa_cons pe_int pa_nil)) (pa_cons (pe_bm PySem.F.plainAttrs_list PySem.F.slot_list_count PySem.F.type_list_count mt_lcount (pv 6) (pa_cons (pe_un un_neg pe_int) pa_nil)) pa_nil)))))
      (pss_one (ps_if (pt_cmpR op_lt (pv 7) (pv 4) (nomark _)) (pss_cons (ps_set (i := 4) sc_law_next.nd rfl (Or.inl rfl) (pv 7))
      (pss_one (ps_set (i := 3) sc_law_next.nd rfl (Or.inl rfl) (pv 5)))) pss_nil)))))
      (pss_one (ps_ret (pv 3)))))))), ?_⟩
    try dsimp only [cxOf]
    wtm_at "rs"
    rename_i p hp
    have B := (Hv.start nt).new (o := .lst [.int (-1), .int 2]) hp
    clear hp
    refine B.gen fun G B => ?_
    refine rd_forR (fun i σ G => ∃ v : Option V, σ = [some (.ref l), some (.ref p), v, none, none, none, none, none, none] ∧ Hv noX H [(p, .lst (([-1, 2] ++ (prsL 3 (3 + (i : Int))).map (fun n : Int => if n % 4 = 1 then n else -n)).map V.int))] [] [] G) ⟨none, rfl, B⟩ ?_ ?_
    · rintro i σ G hi ⟨v, rfl, B⟩
      have hi2 : (i : Int) < 48 := by omega
      have len : (prsL 3 (3 + (i : Int))).length ≤ 48 := Nat.le_trans prsL_len (by split <;> omega)
      wtm_at "rs"
      by_cases ho : QR.OP (3 + (i : Int))
      · rw [if_pos (decide_eq_true ho)]
        have h2 := ho.2
        wtm_at "rs"
        rename_i d hd
        refine rd_ixL (xs := [.int 0, .int (3 + (i : Int)), .int 0, .int (-(3 + (i : Int)))]) (v := .int (if (3 + (i : Int)) % 4 = 1 then 3 + (i : Int) else -(3 + (i : Int)))) (SqL.of upd_same) ?_ ?_
        · rcases (show (3 + (i : Int)) % 4 = 1 ∨ (3 + (i : Int)) % 4 = 3 by omega) with e | e
          · rw [e, if_pos rfl]
            rfl
          · rw [e, if_neg (by decide)]
            rfl
        have B := B.newL (o := .lst [.int 0, .int (3 + (i : Int)), .int 0, .int (-(3 + (i : Int)))]) hd
        refine B.gen fun G B => ?_
        wtm_at "r"
        refine rd_append (B.mAt (a := p) (by wtm_at "mem")) (by rw [List.length_map, List.length_append, List.length_map]; exact Nat.lt_of_le_of_lt (Nat.add_le_add_left len _) (by decide)) ?_
        have B := B.put (u := .lst (([-1, 2] ++ (prsL 3 (3 + ((i + 1 : Nat) : Int))).map (fun n : Int => if n % 4 = 1 then n else -n)).map V.int))
        have e : (([-1, 2] ++ (prsL 3 (3 + ((i + 1 : Nat) : Int))).map (fun n : Int => if n % 4 = 1 then n else -n)).map V.int) = ([-1, 2] ++ (prsL 3 (3 + (i : Int))).map (fun n : Int => if n % 4 = 1 then n else -n)).map V.int ++ [.int (if (3 + (i : Int)) % 4 = 1 then 3 + (i : Int) else -(3 + (i : Int)))] := by
          rw [prsL_snoc, if_pos ho]
          simp
        refine ⟨_, rfl, ?_⟩
        rw [← e]
        exact B.sub sub_nil sub_nil
      · rw [if_neg (by rw [decide_eq_true_iff]; exact ho)]
        wtm_at "rs"
        refine ⟨_, rfl, ?_⟩
        rw [prsL_snoc, if_neg ho, List.append_nil]
        exact B
    · rintro σ G ⟨v, rfl, B⟩
      rw [show [-1, 2] ++ (prsL 3 (3 + (((51 : Int) - 3).toNat : Int))).map (fun n : Int => if n % 4 = 1 then n else -n) = qRow from qRow_prs] at B
      have B := B.fix
      wtm_at "rs"
      refine rd_forL (xs := qRow.map V.int) (fun i σ G => ∃ v5 v6 v7 : Option V, σ = [some (.ref l), some (.ref p), v, some ((qRow.take i).foldl (nextStep L) (.non, (L.length : Int))).1, some (.int ((qRow.take i).foldl (nextStep L) (.non, (L.length : Int))).2), v5, v6, v7, none] ∧ Hv noX H [] [(p, .lst (qRow.map V.int))] [] G) ⟨none, none, none, by rw [List.length_map]; rfl, B⟩ (fun i σ G' _ ⟨_, _, _, _, B⟩ => SqL.of (B.lAt (a := p) (by wtm_at "mem"))) ?_ ?_
      · rintro i x σ G hx ⟨v5, v6, v7, rfl, B⟩
        rw [List.getElem?_map] at hx
        obtain ⟨z, hz, ez⟩ := Option.map_eq_some_iff.mp hx
        subst ez
        rw [show qRow.take (i + 1) = qRow.take i ++ [z] by rw [List.take_add_one, hz]; rfl, List.foldl_append]
        generalize (qRow.take i).foldl (nextStep L) (.non, (L.length : Int)) = st
        wtm_at "rs"
        refine rd_lcI (ns := L) (fun _ => true) (fun x => .int (sgn z x)) (SqL.of (B.oAt hl)) (fun D2 l1 x r2 hD2 hl => ?_) fun D hD => ?_
        · have hx : x ∈ L := by rw [hl]; simp
          have opx := op x hx
          have lb : l1.length ≤ L.length := by rw [hl]; simp
          wtm_at "r"
          refine ⟨rfl, ?_⟩
          wtm_at "rs"
          refine use_LSgn opx.1 (by omega) ?_
          wtm_at "rs"
          exact put_I (by omega) rfl rfl
        · rw [List.filter_eq_self.mpr fun _ _ => rfl]
          have s2 := B.same.trans (same_new (o := .lst (L.map fun x => V.int (sgn z x))) hD)
          have n2 := NoT.upd (o := .lst (L.map fun x => V.int (sgn z x))) (p := D) B.nt rfl
          have hD2 : upd G D (.lst (L.map fun x => V.int (sgn z x))) D = some (.lst ((L.map fun x => sgn z x).map V.int)) := by
            rw [upd_same, List.map_map]
            rfl
          have B2 := B.next (same_new (o := .lst (L.map fun x => V.int (sgn z x))) hD) n2
          generalize upd G D (.lst (L.map fun x => V.int (sgn z x))) = G2 at *
          wtm_at "rs"
          refine ⟨D, _, _, rfl, rfl, SqL.of hD2, ?_⟩
          wtm_at "rs"
          refine ⟨D, _, _, rfl, rfl, SqL.of hD2, ?_⟩
          wtm_at "rs"
          refine ⟨D, _, _, rfl, rfl, SqL.of hD2, ?_⟩
          wtm_at "rs"
          refine ⟨_, _, _, rfl, ?_⟩
          rw [show max3 ((L.map fun x => sgn z x).count 1 : Nat) ((L.map fun x => sgn z x).count 0 : Nat) ((L.map fun x => sgn z x).count (-1) : Nat) = worstQ L z from max3_max]
          wtm_at "rs"
          by_cases hlt : worstQ L z < st.2
          · rw [if_pos (decide_eq_true hlt)]
            have es : List.foldl (nextStep L) st [z] = (.int z, worstQ L z) := if_pos hlt
            rw [es]
            wtm_at "rs"
            exact ⟨_, _, _, rfl, B2⟩
          · rw [if_neg (by rw [decide_eq_true_iff]; exact hlt)]
            have es : List.foldl (nextStep L) st [z] = st := if_neg hlt
            rw [es]
            wtm_at "rs"
            exact ⟨_, _, _, rfl, B2⟩
      · rintro σ G ⟨v5, v6, v7, rfl, B⟩
        rw [List.length_map, List.take_length]
        wtm_at "rs"
        exact q G B.same B.nt
/-! ### Quiz.heard -/
def spHeard (C : Addr) (K : PySem.W.Frag) : Sp := fun vs H Q _ => ∃ (q dx c a : Addr) (ps : List Int) (as : List (Int × Int)), vs = [.ref q] ∧ QzAt C K H q dx c a ps as ∧ NoT H ∧
  ∀ p G, H p = none → Same H G → NoT G → AnsAt G p as → Q (.ref p) G
theorem ok_Quiz_heard (T : Txt K mg Ad) : MDef P w K mg base 1 Ad.c_Quiz "heard" ["self"] (spHeard Ad.c_Quiz K) := by
  refine T.d_Quiz_heard.ok sc_Quiz_heard (fun vs H Q E h => ?_) (fun f cdv A outer s H vs Q E hr h => ?_)
  · obtain ⟨q, dx, c, a, ps, as, rfl, _⟩ := h
    rfl
  · obtain ⟨q, dx, c, a, ps, as, rfl, qz, nt, k⟩ := h
    have hob := qz.ob
    obtain ⟨ts, h1, h2⟩ := qz.an.ex
    refine ⟨_, (pss_one (ps_ret (pe_callTy c_listOf (by rfl) T.b_list (by decide +kernel) (pa_cons (pe_fldC (pv 0) T.cl_Quiz T.nf_Quiz_answers) pa_nil)))), ?_⟩
    try dsimp only [cxOf]
    wtm_at "rs"
    rename_i p hp
    exact k p _ hp (same_new hp) (NoT.upd nt rfl) ⟨ts, upd_same, h2.mono (same_new hp)⟩
theorem use_heard {C : Addr} {K : PySem.W.Frag} {q dx c a : Addr} {ps : List Int} {as : List (Int × Int)} {H : Hp} {Q : VK} {E : XK} (qz : QzAt C K H q dx c a ps as) (nt : NoT H)
    (k : ∀ p G, H p = none → Same H G → NoT G → AnsAt G p as → Q (.ref p) G) : spHeard C K [.ref q] H Q E := ⟨q, dx, c, a, ps, as, rfl, qz, nt, k⟩
/-! ### _law_cell -/
theorem getD_at {ns : List Int} {i : Nat} (h : i < ns.length) : atI (ns.map V.int) (i : Int) = some (.int (ns.getD i 0)) := by
  refine atI_nat ?_
  rw [List.getElem?_map, List.getElem?_eq_getElem h, List.getD_eq_getElem?_getD, List.getElem?_eq_getElem h]
  rfl
theorem getD_out {ns : List Int} {i : Nat} (h : ¬ i < ns.length) : ns.getD i 0 = 0 := by
  rw [List.getD_eq_getElem?_getD, List.getElem?_eq_none (by omega)]
  rfl
def spCell (K : PySem.W.Frag) : Sp := fun vs H Q _ => ∃ (a : Addr) (ns : List Int) (i : Nat), vs = [.ref a, .int i] ∧ SqL K H a (ns.map V.int) ∧ Q (.int (ns.getD i 0)) H
theorem ok_law_cell (T : Txt K mg Ad) : Def P w K mg base 1 "_law_cell" ["_law_script", "_law_k"] (spCell K) := by
  refine T.d_law_cell.ok sc_law_cell (fun vs H Q E h => ?_) (fun f cdv A outer s H vs Q E hr h => ?_)
  · obtain ⟨a, ns, i, rfl, _⟩ := h
    rfl
  · obtain ⟨a, ns, i, rfl, hS, q⟩ := h
    refine ⟨_, (pss_cons (ps_if (pt_cmpR op_lt (pv 1) (pe_callB c_len (by rfl) T.b_len PySem.boot_len (pa_cons (pv 0) pa_nil)) (nomark _)) (pss_one (ps_ret (pe_ix ix_list (pv 0) (pv 1) (fun _ _ => rfl)))) pss_nil)
      (pss_one (ps_ret pe_int))), ?_⟩
    try dsimp only [cxOf]
    wtm_at "rs"
    wtm_at "i"
    · rename_i h
      rw [List.length_map] at h
      wtm_at "rs"
      exact rd_ixL hS (getD_at (by omega)) q
    · rename_i h
      rw [List.length_map] at h
      rw [getD_out (by omega)] at q
      wtm_at "rs"
      exact q
theorem use_cell {a : Addr} {ns : List Int} {i : Nat} {H : Hp} {Q : VK} {E : XK} {z : Int} (hS : SqL K H a (ns.map V.int)) (hz : z = (i : Int)) (q : Q (.int (ns.getD i 0)) H) : spCell K [.ref a, .int z] H Q E :=
  ⟨a, ns, i, by rw [hz], hS, q⟩
local macro_rules | `(tactic| wtm_at "s") => `(tactic| ((with_reducible refine use_cell (ns := ?ns) (i := ?i) ?h1 ?h2 ?_); (case h1 => wtm_at "q"); (case h2 => first | rfl | exact (Int.zero_add _) | exact (Int.natCast_succ _).symm)))
/-! ### _law_draws -/
def spDraws (K : PySem.W.Frag) : Sp := fun vs H Q E => ∃ (c : Int) (a : Addr) (ss : List Int), vs = [.int c, .ref a] ∧ SqL K H a (ss.map V.int) ∧ (∀ s ∈ ss, 0 < s ∧ s < 2 ^ 240) ∧ ss.length ≤ 1000 ∧ NoT H ∧ ∀ D ds H', Same H H' → NoT H' → H D = none → H' D = some (.lst (ds.map V.int)) → DrawOk ds ss → Q (.ref D) H'
theorem ok_law_draws (T : Txt K mg Ad) : Def P w K mg base 1 "_law_draws" ["_law_cell_here", "_law_sizes"] (spDraws K) := by
  refine T.d_law_draws.ok sc_law_draws (fun vs H Q E h => ?_) (fun f cdv A outer s H vs Q E hr h => ?_)
  · obtain ⟨c, a, ss, rfl, _⟩ := h
    rfl
  · obtain ⟨c, a, ss, rfl, hS, hs, hlen, nt, q⟩ := h
    have hml : (ss.map V.int).length = ss.length := List.length_map ..
    refine ⟨_, (pss_cons (ps_set (i := 2) sc_law_draws.nd rfl (Or.inl rfl) (pe_lst pa_nil))
      (pss_cons (ps_set (i := 3) sc_law_draws.nd rfl (Or.inl rfl) (pe_callB c_abs (by rfl) T.b_abs (by decide +kernel) (pa_cons (pv 0) pa_nil)))
      (pss_cons (ps_for (passes_of rfl) rfl (pi_range1 (by rfl) T.b_range (pa_cons (pe_callB c_len (by rfl) T.b_len PySem.boot_len (pa_cons (pv 1) pa_nil)) pa_nil)) (pg_name (i := 4) sc_law_draws.nd rfl (Or.inl rfl)) (pss_one (ps_if (pt_cmpR op_ge (pe_callB c_abs (by rfl) T.b_abs (by decide +kernel) (pa_cons (pv 0) pa_nil)) (pe_op (op_powN 18) pe_int pe_int) (nomark _)) (pss_cons (ps_expr (pe_bm PySem.F.plainAttrs_list PySem.F.slot_list_append PySem.F.type_list_append mt_append (pv 2) (pa_cons (pe_op op_mod (pe_callTy c_int1 (by rfl) T.b_int (by decide +kernel) (pa_cons (pv 3) pa_nil)) (pe_ix ix_list (pv 1) (pv 4) (fun _ _ => rfl))) pa_nil)))
      (pss_one (ps_set (i := 3) sc_law_draws.nd rfl (Or.inl rfl) (pe_op op_fdivB (pv 3) (pe_ix ix_list (pv 1) (pv 4) (fun _ _ => rfl)))))) (pss_cons (ps_set (i := 5) sc_law_draws.nd rfl (Or.inl rfl) (pe_op op_mod (pe_callTy c_int1 (by rfl) T.b_int (by decide +kernel) (pa_cons (pe_op op_mulB (pe_op op_add (pe_op op_add (pv 3) (pe_op op_mulB pe_int (pv 4))) pe_int) pe_int) pa_nil)) pe_int))
      (pss_cons (ps_set (i := 5) sc_law_draws.nd rfl (Or.inl rfl) (pe_op op_mod (pe_callTy c_int1 (by rfl) T.b_int (by decide +kernel) (pa_cons (pe_op op_add (pe_op op_add (pe_op op_mulB (pe_op op_mulB (pv 5) (pv 5)) pe_int) (pe_op op_mulB pe_int (pv 4))) (pv 5)) pa_nil)) pe_int))
      (pss_one (ps_expr (pe_bm PySem.F.plainAttrs_list PySem.F.slot_list_append PySem.F.type_list_append mt_append (pv 2) (pa_cons (pe_op op_mod (pe_op op_fdivB (pv 5) pe_int) (pe_ix ix_list (pv 1) (pv 4) (fun _ _ => rfl))) pa_nil)))))))))
      (pss_one (ps_ret (pv 2)))))), ?_⟩
    try dsimp only [cxOf]
    wtm_at "rs"
    rename_i D hD
    refine rd_forR (fun i σ H' => ∃ (L : Int) (ds : List Int) (v4 v5 : Option V), σ = [some (.int c), some (.ref a), some (.ref D), some (.int L), v4, v5] ∧ Same H H' ∧ NoT H' ∧ H' D = some (.lst (ds.map V.int)) ∧ DrawOk ds (ss.take i)) ⟨_, [], _, _, rfl, same_new hD, NoT.upd nt rfl, upd_same, trivial⟩ ?_ ?_
    · rintro i σ H' hi ⟨L, ds, v4, v5, rfl, sm, nt', hd, hok⟩
      have hil : i < ss.length := by simpa using hi
      have hS' := sm.seq hS
      have hix : atI (ss.map V.int) (0 + (i : Int)) = some (.int (ss.getD i 0)) := by
        rw [Int.zero_add]
        refine atI_nat ?_
        rw [List.getElem?_map, List.getElem?_eq_getElem hil, List.getD_eq_getElem?_getD, List.getElem?_eq_getElem hil]
        rfl
      obtain ⟨s0, s1⟩ := hs (ss.getD i 0) (by rw [List.getD_eq_getElem?_getD, List.getElem?_eq_getElem hil]; exact List.getElem_mem hil)
      have htk : ss.take (i + 1) = ss.take i ++ [ss.getD i 0] := by
        rw [List.take_add_one, List.getElem?_eq_getElem hil, List.getD_eq_getElem?_getD, List.getElem?_eq_getElem hil]
        rfl
      generalize ss.getD i 0 = z at *
      have hroom : (ds.map V.int).length < 10000 := by
        rw [List.length_map, hok.len, List.length_take]
        omega
      have hDa : D = D := rfl
      wtm_at "ra"
      · refine rd_ixL hS' hix ?_
        wtm_at "rs"
        refine rd_ixL ((show Same H _ by wtm_at "sm").seq hS) hix ?_
        wtm_at "rs"
        exact ⟨_, ds ++ [L % z], _, _, rfl, by wtm_at "sm", by wtm_at "nt", by rw [upd_same, List.map_append]; rfl, by rw [htk]; exact hok.snoc ⟨Int.emod_nonneg _ (by omega), Int.emod_lt_of_pos _ s0⟩⟩
      · refine rd_ixL hS' hix ?_
        wtm_at "rs"
        exact ⟨_, ds ++ [_ % z], _, _, rfl, by wtm_at "sm", by wtm_at "nt", by rw [upd_same, List.map_append]; rfl, by rw [htk]; exact hok.snoc ⟨Int.emod_nonneg _ (by omega), Int.emod_lt_of_pos _ s0⟩⟩
    · rintro σ H' ⟨L, ds, v4, v5, rfl, sm, nt', hd, hok⟩
      rw [show (Int.toNat ((ss.map V.int).length : Int)) = ss.length by simp, List.take_length] at hok
      wtm_at "rs"
      exact q D ds H' sm nt' hD hd hok
theorem use_draws {c : Int} {a : Addr} {ss : List Int} {H : Hp} {Q : VK} {E : XK} (hS : SqL K H a (ss.map V.int)) (hs : ∀ s ∈ ss, 0 < s ∧ s < 2 ^ 240) (hl : ss.length ≤ 1000) (nt : NoT H) (q : ∀ D ds H', Same H H' → NoT H' → H D = none → H' D = some (.lst (ds.map V.int)) → DrawOk ds ss → Q (.ref D) H') : spDraws K [.int c, .ref a] H Q E :=
  ⟨c, a, ss, rfl, hS, hs, hl, nt, q⟩
/-! ### law -/
theorem RowsAt.but {H G : Hp} {q C dx : Addr} {fs : List (Str × V)} (hq : H q = some (.ins C dx fs)) (b : But q H G) : ∀ {ts : List Addr} {ls : List (List V)}, RowsAt H ts ls → RowsAt G ts ls
  | [], [], _ => trivial
  | t :: _, _ :: _, h => ⟨b _ _ (ne_of h.1 hq (by intro z; cases z)) h.1, RowsAt.but hq b h.2⟩
  | [], _ :: _, h => h.elim
  | _ :: _, [], h => h.elim
theorem AnsAt.but {H G : Hp} {q C dx a : Addr} {fs : List (Str × V)} {as : List (Int × Int)} (hq : H q = some (.ins C dx fs)) (b : But q H G) (h : AnsAt H a as) : AnsAt G a as := by
  obtain ⟨ts, h1, h2⟩ := h.ex
  exact ⟨ts, b _ _ (ne_of h1 hq (by intro z; cases z)) h1, h2.but hq b⟩
theorem rd_catAns {H : Hp} {A p1 t1 : Addr} {as : List (Int × Int)} {n s : Int} {Q : VK} (an : AnsAt H A as) (nt : NoT H) (ht : H t1 = some (.tup [.int n, .int s])) (hp : H p1 = some (.lst [.ref t1])) (few : as.length ≤ 1000)
    (q : ∀ p G, H p = none → Same H G → NoT G → AnsAt G p (as ++ [(n, s)]) → Q (.ref p) G) : rCat (.ref A) (.ref p1) H Q := by
  obtain ⟨ts, h1, h2⟩ := an.ex
  have tl : ts.length = as.length := by rw [h2.len, ansV, List.length_map]
  refine rd_cat h1 hp (by rw [List.length_map, tl]; show as.length + 1 ≤ _; unfold sizeLine; omega) fun p hp => ?_
  refine q p _ hp (same_new hp) (NoT.upd nt rfl) ⟨ts ++ [t1], by rw [upd_same, List.map_append]; rfl, ?_⟩
  rw [show ansV (as ++ [(n, s)]) = ansV as ++ [[.int n, .int s]] by unfold ansV; rw [List.map_append]; rfl]
  exact RowsAt.snoc (same_new hp _ _ ht) (h2.mono (same_new hp))
theorem rd_slAns {K : PySem.W.Frag} {H : Hp} {A : Addr} {as : List (Int × Int)} {Q : VK} (an : AnsAt H A as) (nt : NoT H) (q : ∀ p G, H p = none → Same H G → NoT G → AnsAt G p as.dropLast → Q (.ref p) G) : rSlL K (.ref A) none (some (-1)) H Q := by
  obtain ⟨ts, h1, h2⟩ := an.ex
  have tl : ts.length = as.length := by rw [h2.len, ansV, List.length_map]
  refine rd_slL (SqL.of h1) fun p hp => ?_
  refine q p _ hp (same_new hp) (NoT.upd nt rfl) ⟨ts.take (as.length - 1), ?_, ?_⟩
  · rw [upd_same, List.map_take]
    by_cases e : ts.map V.ref = []
    · rw [e]
      simp [cutV]
    · rw [cut_drop e, List.length_map, tl]
  · rw [show ansV as.dropLast = (ansV as).take (as.length - 1) by unfold ansV; rw [List.dropLast_eq_take, List.map_take]]
    exact RowsAt.take _ (h2.mono (same_new hp))
theorem okD_told {ns : List Int} {as : List (Int × Int)} : okD (.list [.list (ns.map PyData.int), ansD as]) 60 = true := by
  unfold ansD
  simp only [okD, okDs, Bool.and_eq_true, decide_eq_true_eq, and_true]
  exact ⟨by omega, ⟨by omega, okDs_map fun _ _ => rfl⟩, by omega, okDs_ans (by omega) as⟩
theorem dp_told {K : PySem.W.Frag} {G : Hp} {p a b : Addr} {ns : List Int} {as : List (Int × Int)} (h : G p = some (.lst [.ref a, .ref b])) (ha : G a = some (.lst (ns.map V.int))) (hb : AnsAt G b as) : Dp K G (.ref p) (.list [.list (ns.map PyData.int), ansD as]) :=
  .lst (SqL.of h) (.cons (dp_ints (SqL.of ha)) (.cons (dp_ans hb) .nil))
theorem ok_law {f : Addr} {fd : FuncData} (F : Fun K "law" "law" s_law f fd) (T : Txt K mg Ad) : FnOk P w K mg base (L2.CX P w) 9 f fd ["_law_script"] (spLaw K) := by
  refine F.okX sc_law (fun vs H Q E h => ?_) (fun cdv A outer s H vs Q E hr h => ?_)
  · obtain ⟨a, ns, rfl, _⟩ := h
    rfl
  · obtain ⟨a, ns, rfl, hS, hlen, nt, kq⟩ := h
    refine ⟨_, (pss_cons (ps_set (i := 1) sc_law.nd rfl (Or.inl rfl) (pe_d (ok_law_draws T) (hr.mono (by decide)) (passes_call (takes_of rfl rfl rfl rfl) (fun _ _ _ _ h => h)) (pa_cons (pe_d (ok_law_cell T) (hr.mono (by decide)) (passes_call (takes_of rfl rfl rfl rfl) (fun _ _ _ _ h => h)) (pa_cons (pv 0) (pa_cons pe_int pa_nil))) (pa_cons (pe_lst (pa_cons pe_int (pa_cons pe_int pa_nil))) pa_nil))))
      (pss_cons (ps_set (i := 2) sc_law.nd rfl (Or.inl rfl) (pe_op op_add pe_int (pe_ix ix_list (pv 1) pe_int (fun _ _ => rfl))))
      (pss_cons (ps_setLc (i := 3) (own := [("_law_p", 13)])  (te := (tVar 13)) (tt := (tB (tCall (spOP) [] E0 (tCons (tVar 13) tNil)))) rfl sc_law.nd rfl rfl (sw_true rfl rfl rfl (by decide +kernel)) (pi_range2 (by rfl) T.b_range (pa_cons pe_int (pa_cons (pe_op op_add (pv 2) pe_int) pa_nil))) (blkOk_by (own := [("_law_p", 13)]) (N := ["_law_script", "_law_head", "_law_most", "_law_clocks", "_law_secret", "_law_quiz", "_law_answers", "_law_cell_here", "_law_drawn", "_law_n", "_law_s", "_law_due", "_law_told", "_law_p"]) (sc := defScope s_law) (by decide +kernel)) (fun _ _ _ _ _ => (pg_name (i := 13) sc_law.nd rfl (Or.inl rfl))) (fun _ _ _ _ _ => (pts_one (pt_val (pe_d (E := E0) (ok_law_is_prime T) (hr.mono (by decide)) passL (pa_cons (pv 13) pa_nil))))) (fun _ _ _ _ _ => (pv 13)))
      (pss_cons (ps_set (i := 4) sc_law.nd rfl (Or.inl rfl) (pe_ix ix_list (pv 3) (pe_op op_mod (pe_ix ix_list (pv 1) pe_int (fun _ _ => rfl)) (pe_callB c_len (by rfl) T.b_len PySem.boot_len (pa_cons (pv 3) pa_nil))) (fun _ _ => rfl)))
      (pss_cons (ps_set (i := 5) sc_law.nd rfl (Or.inl rfl) (pe_mkd (ok_Quiz_init T) (hr.mono (by decide)) (passes_call (takes_of rfl rfl rfl rfl) (fun _ _ _ _ h => h)) (pa_cons (pv 2) pa_nil)))
      (pss_cons (ps_set (i := 6) sc_law.nd rfl (Or.inl rfl) (pe_lst pa_nil))
      (pss_cons (ps_for (passes_of rfl) rfl (pi_list (pe_slice sl_list (pv 0) (po_some pe_int) (po_some pe_int))) (pg_name (i := 7) sc_law.nd rfl (Or.inl rfl)) (pss_cons (ps_set (i := 8) sc_law.nd rfl (Or.inl rfl) (pe_d (ok_law_draws T) (hr.mono (by decide)) (passes_call (takes_of rfl rfl rfl rfl) (fun _ _ _ _ h => h)) (pa_cons (pv 7) (pa_cons (pe_lst (pa_cons pe_int (pa_cons pe_int (pa_cons (pe_op op_mulB pe_int (pe_op (op_powN 20) pe_int pe_int)) (pa_cons pe_int (pa_cons pe_int pa_nil)))))) pa_nil))))
      (pss_cons (ps_set (i := 9) sc_law.nd rfl (Or.inl rfl) (pe_op op_sub (pe_ix ix_list (pv 8) pe_int (fun _ _ => rfl)) pe_int))
      (C8.pss_cut (ps_if (pt_cmpR op_eq (pe_ix ix_list (pv 8) pe_int (fun _ _ => rfl)) pe_int (nomark _)) (pss_one (ps_set (i := 9) sc_law.nd rfl (Or.inl rfl) (pe_op op_sub (pe_ix ix_list (pv 8) pe_int (fun _ _ => rfl)) (pe_op (op_powN 20) pe_int pe_int)))) pss_nil)
      (pss_cons (ps_set (i := 10) sc_law.nd rfl (Or.inl rfl) (pe_d (ok_law_sign T) (hr.mono (by decide)) (passes_call (takes_of rfl rfl rfl rfl) (fun _ _ _ _ h => h)) (pa_cons (pv 9) (pa_cons (pv 4) pa_nil))))
      (C8.pss_cut (ps_if (pt_cmpR op_eq (pe_ix ix_list (pv 8) pe_int (fun _ _ => rfl)) pe_int (nomark _)) (pss_one (ps_set (i := 10) sc_law.nd rfl (Or.inl rfl) (pe_op op_sub (pe_ix ix_list (pv 8) pe_int (fun _ _ => rfl)) pe_int))) pss_nil)
      (C8.pss_cut (ps_if (pt_cmpR op_eq (pe_ix ix_list (pv 8) pe_int (fun _ _ => rfl)) pe_int (nomark _)) (pss_cons (ps_set (i := 11) sc_law.nd rfl (Or.inl rfl) pe_non)
      (C8.pss_cut (ps_if (pt_cmpR (op_eqD hr.units) (pv 6) (pe_lst pa_nil) (nomark _)) (pss_one (ps_set (i := 11) sc_law.nd rfl (Or.inl rfl) pe_str)) pss_nil)
      (pss_cons (ps_if (pt_cmpR (op_neD hr.units) (pe_d (ok_law_undo T) (hr.mono (by decide)) (passes_call (takes_of rfl rfl rfl rfl) (fun _ _ _ _ h => h)) (pa_cons (pv 5) pa_nil)) (pv 11) (nomark _)) (pss_one (ps_ret pe_bl)) pss_nil)
      (pss_one (ps_set (i := 6) sc_law.nd rfl (Or.inl rfl) (pe_slice sl_list (pv 6) po_none (po_some (pe_un un_neg pe_int)))))))) (pss_cons (ps_set (i := 11) sc_law.nd rfl (Or.inl rfl) pe_non)
      (C8.pss_cut (ps_if (pt_cmpR (op_eqD hr.units) (pe_d (ok_law_left T) (hr.mono (by decide)) (passes_call (takes_of rfl rfl rfl rfl) (fun _ _ _ _ h => h)) (pa_cons (pv 3) (pa_cons (pe_op op_cat (pv 6) (pe_lst (pa_cons (pe_tup (pa_cons (pv 9) (pa_cons (pv 10) pa_nil))) pa_nil))) pa_nil))) (pe_lst pa_nil) (nomark _)) (pss_one (ps_set (i := 11) sc_law.nd rfl (Or.inl rfl) (pe_d (ok_law_clash T) (hr.mono (by decide)) (passes_call (takes_of rfl rfl rfl rfl) (fun _ _ _ _ h => h)) (pa_cons (pv 3) (pa_cons (pe_op op_cat (pv 6) (pe_lst (pa_cons (pe_tup (pa_cons (pv 9) (pa_cons (pv 10) pa_nil))) pa_nil))) pa_nil))))) pss_nil)
      (pss_cons (ps_if (pt_cmpR (op_neD hr.units) (pe_d (ok_law_hear T) (hr.mono (by decide)) (passes_call (takes_of rfl rfl rfl rfl) (fun _ _ _ _ h => h)) (pa_cons (pv 5) (pa_cons (pv 9) (pa_cons (pv 10) pa_nil)))) (pv 11) (nomark _)) (pss_one (ps_ret pe_bl)) pss_nil)
      (pss_one (ps_if (pt_cmpR op_isN (pv 11) pe_non (nomark _)) (pss_one (ps_set (i := 6) sc_law.nd rfl (Or.inl rfl) (pe_op op_cat (pv 6) (pe_lst (pa_cons (pe_tup (pa_cons (pv 9) (pa_cons (pv 10) pa_nil))) pa_nil))))) pss_nil))))))
      (pss_cons (ps_if (pt_cmpR op_ne (pe_md0 (ok_Quiz_next_number T) (pv 5) T.cl_Quiz (hr.mono (by decide)) (passes_call (takes_of rfl rfl rfl rfl) (fun _ _ _ _ h => h))) (pe_d (ok_law_next T) (hr.mono (by decide)) (passes_call (takes_of rfl rfl rfl rfl) (fun _ _ _ _ h => h)) (pa_cons (pe_d (ok_law_left T) (hr.mono (by decide)) (passes_call (takes_of rfl rfl rfl rfl) (fun _ _ _ _ h => h)) (pa_cons (pv 3) (pa_cons (pv 6) pa_nil))) pa_nil)) (nomark _)) (pss_one (ps_ret pe_bl)) pss_nil)
      (pss_cons (ps_set (i := 12) sc_law.nd rfl (Or.inl rfl) (pe_lst (pa_cons (pe_md0 (ok_Quiz_left T) (pv 5) T.cl_Quiz (hr.mono (by decide)) (passes_call (takes_of rfl rfl rfl rfl) (fun _ _ _ _ h => h))) (pa_cons (pe_md0 (ok_Quiz_heard T) (pv 5) T.cl_Quiz (hr.mono (by decide)) (passes_call (takes_of rfl rfl rfl rfl) (fun _ _ _ _ h => h))) pa_nil))))
      (pss_cons (ps_if (pt_cmpR (op_neD hr.units) (pv 12) (pe_lst (pa_cons (pe_d (ok_law_left T) (hr.mono (by decide)) (passes_call (takes_of rfl rfl rfl rfl) (fun _ _ _ _ h => h)) (pa_cons (pv 3) (pa_cons (pv 6) pa_nil))) (pa_cons (pv 6) pa_nil))) (nomark _)) (pss_one (ps_ret pe_bl)) pss_nil)
      (pss_cons (ps_expr (pe_bm PySem.F.plainAttrs_list PySem.F.slot_list_append PySem.F.type_list_append mt_append (pe_ix ix_list (pv 12) pe_int (fun _ _ => rfl)) (pa_cons pe_int pa_nil)))
      (pss_one (ps_expr (pe_bm PySem.F.plainAttrs_list PySem.F.slot_list_append PySem.F.type_list_append mt_append (pe_ix ix_list (pv 12) pe_int (fun _ _ => rfl)) (pa_cons pe_int pa_nil)))))))))))))))
      (pss_one (ps_ret (pe_and (pe_cmpR (op_eqD hr.units) (pe_lst (pa_cons (pe_md0 (ok_Quiz_left T) (pv 5) T.cl_Quiz (hr.mono (by decide)) (passes_call (takes_of rfl rfl rfl rfl) (fun _ _ _ _ h => h))) (pa_cons (pe_md0 (ok_Quiz_heard T) (pv 5) T.cl_Quiz (hr.mono (by decide)) (passes_call (takes_of rfl rfl rfl rfl) (fun _ _ _ _ h => h))) pa_nil))) (pe_lst (pa_cons (pe_d (ok_law_left T) (hr.mono (by decide)) (passes_call (takes_of rfl rfl rfl rfl) (fun _ _ _ _ h => h)) (pa_cons (pv 3) (pa_cons (pv 6) pa_nil))) (pa_cons (pv 6) pa_nil))) (nomark _)) (pe_one (pe_cmpR (op_eqD hr.units) (pe_md0 (ok_Quiz_left T) (pe_mkd (ok_Quiz_init T) (hr.mono (by decide)) (passes_call (takes_of rfl rfl rfl rfl) (fun _ _ _ _ h => h)) (pa_cons (pv 2) pa_nil)) T.cl_Quiz (hr.mono (by decide)) (passes_call (takes_of rfl rfl rfl rfl) (fun _ _ _ _ h => h))) (pv 3) (nomark _))))))))))))), ?_⟩
    try dsimp only [cxOf]
    wtm_at "rs"
    rename_i p0 hp0
    refine use_draws (ss := [198, 997]) (SqL.of upd_same) (by simp) (by decide) (NoT.upd nt rfl) fun D ds H1 s1 n1 hD0 hD dok => ?_
    obtain ⟨h0, ds1, rfl, h00, h01, dok⟩ := dok.cons_inv
    obtain ⟨h1, ds2, rfl, h10, h11, dok⟩ := dok.cons_inv
    obtain rfl := dok.nil_inv
    have B := ((Hv.start nt).newL (o := .lst [.int 198, .int 997]) hp0).got s1 n1 hD0 hD
    clear s1 n1 hD0 hD hp0
    refine B.gen fun G B => ?_
    wtm_at "rs"
    refine rd_lcR (fun i : Nat => decide (QR.OP (3 + (i : Int)))) (fun i : Nat => V.int (3 + (i : Int))) (fun D i hD hi => ?_) fun cA hcA => ?_
    · have hi2 : (i : Int) < 300 := by omega
      wtm_at "rs"
      refine ⟨rfl, ?_⟩
      wtm_at "rs"
      by_cases ho : QR.OP (3 + (i : Int))
      · rw [if_pos (decide_eq_true ho)]
        wtm_at "rs"
        exact put_R (by omega) (decide_eq_true ho) rfl
      · rw [if_neg (by rw [decide_eq_true_iff]; exact ho)]
        exact skip_R (decide_eq_false ho)
    · rw [clocks_prs]
      have m3 : 3 + h0 ≤ 300 := by omega
      have h3 : (3 : Int) ∈ prsL 3 (3 + h0 + 1) := mem_prsL.mpr ⟨QR.op_by (n := 3) 3 (by decide) (by decide) (by decide) (by decide +kernel), by omega, by omega⟩
      have hps : ∀ p ∈ prsL 3 (3 + h0 + 1), QR.OP p ∧ p < 2 ^ 60 := fun p hp => by
        have := mem_prsL.mp hp
        exact ⟨this.1, by omega⟩
      have hpl : (prsL 3 (3 + h0 + 1)).length ≤ 300 := Nat.le_trans prsL_len (by split <;> omega)
      have B := B.newL (o := .lst ((prsL 3 (3 + h0 + 1)).map V.int)) hcA
      generalize eps : prsL 3 (3 + h0 + 1) = ps at *
      have lpos : 0 < ps.length := List.length_pos_of_mem h3
      obtain ⟨k, hk, ek⟩ : ∃ k : Nat, k < ps.length ∧ h1 % (ps.length : Int) = (k : Int) := by
        have e1 := Int.emod_nonneg h1 (show (ps.length : Int) ≠ 0 by omega)
        have e2 := Int.emod_lt_of_pos h1 (show 0 < (ps.length : Int) by omega)
        exact ⟨(h1 % (ps.length : Int)).toNat, by omega, by omega⟩
      obtain ⟨sec, hsec⟩ : ∃ sec, ps[k]? = some sec := ⟨ps[k], List.getElem?_eq_getElem hk⟩
      have hsp := List.mem_of_getElem? hsec
      have lpos2 : (0 : Int) < ((ps.map V.int).length : Int) := by rw [List.length_map]; omega
      refine B.gen fun G B => ?_
      wtm_at "rs"
      rw [List.length_map, ek]
      refine rd_ixL (SqL.of (B.lAt (a := cA) (by wtm_at "mem"))) (show atI (ps.map V.int) ((k : Nat) : Int) = some (.int sec) from atI_nat (by rw [List.getElem?_map, hsec]; rfl)) ?_
      wtm_at "rs"
      refine mk_Qz B.nt (by omega) (by omega) fun q dx c a' G2 s2 n2 hq0 hc0 ha0 cx ax ac hq hc ha => ?_
      rw [eps] at hc
      have qz : QzAt Ad.c_Quiz K G2 q dx c a' ps [] := ⟨hq, hc, ⟨[], ha, trivial⟩, hps, fun _ h => absurd h List.not_mem_nil, by omega, by decide⟩
      have B := B.next s2 n2
      clear hc0 ha0 cx ax ac hq hc ha
      revert qz
      refine B.gen fun G B qz => ?_
      wtm_at "rs"
      rename_i A hA X hX
      obtain ⟨cs, ecs, _⟩ := cut_map (f := V.int) (l := ns) (lo := some 1) (hi := some 8)
      have lcs : ((cutV (ns.map V.int) (some 1) (some 8)).length : Int) ≤ 8 - 1 := cut_len (by decide) (by decide)
      rw [ecs] at lcs ⊢
      rw [List.length_map] at lcs
      have qz := qz.mono ((same_new (o := .lst []) hA).trans (same_new (o := .lst (cs.map V.int)) hX))
      have B := (B.newL (o := .lst []) hA).newL (o := .lst (cs.map V.int)) (by exact hX)
      have an : AnsAt (upd (upd G A (.lst [])) X (.lst (cs.map V.int))) A [] := ⟨[], B.lAt (a := A) (o := .lst []) (by wtm_at "mem"), trivial⟩
      clear hA hX
      revert qz an
      refine B.gen fun G B qz an => ?_
      refine rd_forL (xs := cs.map V.int) (fun i σ G => ∃ (as : List (Int × Int)) (a1 A : Addr) (v7 v8 v9 v10 v11 v12 : Option V), σ = [some (.ref a), some (.ref D), some (.int (3 + h0)), some (.ref cA), some (.int sec), some (.ref q), some (.ref A), v7, v8, v9, v10, v11, v12, none] ∧ NoT G ∧ QzAt Ad.c_Quiz K G q dx c a1 ps as ∧ AnsAt G A as ∧ G cA = some (.lst (ps.map V.int)) ∧ G X = some (.lst (cs.map V.int)) ∧ as.length ≤ i) ⟨[], a', A, none, none, none, none, none, none, rfl, B.nt, qz, an, B.lAt (a := cA) (by wtm_at "mem"), B.lAt (a := X) (by wtm_at "mem"), Nat.le_refl _⟩ (fun i σ G _ ⟨_, _, _, _, _, _, _, _, _, _, _, _, _, _, h, _⟩ => SqL.of h) ?_ ?_
      · clear B qz an
        rintro i x σ G hx ⟨as, a1, A, v7, v8, v9, v10, v11, v12, rfl, nG, qz, an, hc, hX, al⟩
        rw [List.getElem?_map] at hx
        obtain ⟨z, hz, rfl⟩ := Option.map_eq_some_iff.mp hx
        have hi := (List.getElem?_eq_some_iff.mp hz).1
        have op := hps sec hsp
        wtm_at "rs"
        rename_i p2 hp2
        refine use_draws (ss := [6, 61, 2 * 10 ^ 20, 5, 3]) (SqL.of upd_same) (by decide) (by decide) (NoT.upd nG rfl) fun D2 ds H1 s1 n1 hD0 hD dok => ?_
        obtain ⟨d0, ds1, rfl, d00, d01, dok⟩ := dok.cons_inv
        obtain ⟨d1, ds2, rfl, d10, d11, dok⟩ := dok.cons_inv
        obtain ⟨d2, ds3, rfl, d20, d21, dok⟩ := dok.cons_inv
        obtain ⟨d3, ds4, rfl, d30, d31, dok⟩ := dok.cons_inv
        obtain ⟨d4, ds5, rfl, d40, d41, dok⟩ := dok.cons_inv
        obtain rfl := dok.nil_inv
        have sm := (same_new hp2).trans s1
        have qz := qz.mono sm
        have an := an.mono sm
        have hc := sm _ _ hc
        have hX := sm _ _ hX
        clear hD0 s1 hp2 sm nG
        wtm_at "rs"
        refine rd_cut (fun σ G => ∃ n : Int, σ = [some (.ref a), some (.ref D), some (.int (3 + h0)), some (.ref cA), some (.int sec), some (.ref q), some (.ref A), some (.int z), some (.ref D2), some (.int n), v10, v11, v12, none] ∧ G = H1 ∧ -(10 ^ 20) ≤ n ∧ n ≤ 10 ^ 20) ?_ ?_
        · wtm_at "rs"
          wtm_at "i"
          · wtm_at "rs"
            exact ⟨_, rfl, rfl, by omega, by omega⟩
          · wtm_at "rs"
            exact ⟨_, rfl, rfl, by omega, by omega⟩
        · rintro σ G ⟨n, rfl, rfl, n0, n1'⟩
          wtm_at "rs"
          refine use_LSgn op.1 (by omega) ?_
          have sb := sgn_b (n := n) op.1
          wtm_at "rs"
          refine rd_cut (fun σ G' => ∃ s : Int, σ = [some (.ref a), some (.ref D), some (.int (3 + h0)), some (.ref cA), some (.int sec), some (.ref q), some (.ref A), some (.int z), some (.ref D2), some (.int n), some (.int s), v11, v12, none] ∧ G' = G ∧ -1 ≤ s ∧ s ≤ 1) ?_ ?_
          · wtm_at "rs"
            wtm_at "i"
            · wtm_at "rs"
              exact ⟨_, rfl, rfl, by omega, by omega⟩
            · wtm_at "rs"
              exact ⟨_, rfl, rfl, by omega, by omega⟩
          · rintro σ G' ⟨s, rfl, rfl, s0, s1⟩
            wtm_at "rs"
            refine rd_cut (fun σ G => ∃ (as : List (Int × Int)) (a1 A : Addr) (v11 : Option V), σ = [some (.ref a), some (.ref D), some (.int (3 + h0)), some (.ref cA), some (.int sec), some (.ref q), some (.ref A), some (.int z), some (.ref D2), some (.int n), some (.int s), v11, v12, none] ∧ NoT G ∧ QzAt Ad.c_Quiz K G q dx c a1 ps as ∧ AnsAt G A as ∧ G cA = some (.lst (ps.map V.int)) ∧ G X = some (.lst (cs.map V.int)) ∧ as.length ≤ i + 1) ?_ ?_
            · wtm_at "rs"
              wtm_at "i"
              · wtm_at "rs"
                refine rd_cut (fun σ G => σ = [some (.ref a), some (.ref D), some (.int (3 + h0)), some (.ref cA), some (.int sec), some (.ref q), some (.ref A), some (.int z), some (.ref D2), some (.int n), some (.int s), some (if as = [] then .str "nothing" else .non), v12, none] ∧ Same G' G ∧ NoT G) ?_ ?_
                · wtm_at "rs"
                  rename_i p3 hp3
                  refine rd_eqP (d := ansD as) (e := ansD []) (p := as = []) (dp_ans (an.mono (same_new hp3))) (.lst (SqL.of upd_same) .nil) okD_ans okD_ans ansD_inj ?_
                  refine ⟨_, rfl, ?_⟩
                  by_cases e : as = []
                  · rw [if_pos (decide_eq_true e), if_pos e]
                    wtm_at "rs"
                    exact ⟨rfl, same_new hp3, NoT.upd n1 rfl⟩
                  · rw [if_neg (by rw [decide_eq_true_iff]; exact e), if_neg e]
                    wtm_at "rs"
                    exact ⟨rfl, same_new hp3, NoT.upd n1 rfl⟩
                · rintro σ G ⟨rfl, sm, nG⟩
                  have qz := qz.mono sm
                  have an := an.mono sm
                  have hc := sm _ _ hc
                  have hX := sm _ _ hX
                  have hob := qz.ob
                  clear n1 sm hD
                  wtm_at "rs"
                  refine ⟨q, dx, c, a1, ps, as, rfl, qz, nG, fun e G sm nG => ?_, fun ne a2 G ha2 b nG qz => ?_⟩
                  · have qz := qz.mono sm
                    have an := an.mono sm
                    have hc := sm _ _ hc
                    have hX := sm _ _ hX
                    rw [if_pos e]
                    subst e
                    wtm_at "rs"
                    refine rd_neSame (d := .str "nothing") (.str _) (.str _) (okD_shaped (by decide +kernel)) ?_
                    wtm_at "rs"
                    refine rd_slAns an nG fun p G2 _ s2 n2 an => ?_
                    wtm_at "rs"
                    exact ⟨[], a1, p, _, rfl, n2, qz.mono s2, an, s2 _ _ hc, s2 _ _ hX, by simp⟩
                  · have an := an.but hob b
                    have hc := b _ _ (ne_of hc hob (by intro z; cases z)) hc
                    have hX := b _ _ (ne_of hX hob (by intro z; cases z)) hX
                    rw [if_neg ne]
                    wtm_at "rs"
                    rw [SeqAt.eqv_refl PyData.none rfl, if_neg (by decide)]
                    wtm_at "rs"
                    refine rd_slAns an nG fun p G2 _ s2 n2 an => ?_
                    wtm_at "rs"
                    exact ⟨_, a2, p, _, rfl, n2, qz.mono s2, an, s2 _ _ hc, s2 _ _ hX, by rw [List.length_dropLast]; omega⟩
              · wtm_at "rs"
                have lc : cs.length ≤ 7 := by omega
                have al2 : (as ++ [(n, s)]).length ≤ 1000 := by
                  rw [List.length_append]
                  show as.length + 1 ≤ 1000
                  omega
                refine rd_cut (fun σ G => ∃ v : V, σ = [some (.ref a), some (.ref D), some (.int (3 + h0)), some (.ref cA), some (.int sec), some (.ref q), some (.ref A), some (.int z), some (.ref D2), some (.int n), some (.int s), some v, v12, none] ∧ Same G' G ∧ NoT G ∧ (fitL ps (as ++ [(n, s)]) = [] ∧ (∃ l, v = .ref l ∧ G l = some (.lst ((clashL ps (as ++ [(n, s)])).map V.int))) ∨ fitL ps (as ++ [(n, s)]) ≠ [] ∧ v = .non)) ?_ ?_
                · wtm_at "rs"
                  rename_i t1 ht1 p1 hp1
                  have sm := (same_new (o := .tup [.int n, .int s]) ht1).trans (same_new (o := .lst [.ref t1]) hp1)
                  have nt2 : NoT (upd (upd G' t1 (.tup [.int n, .int s])) p1 (.lst [.ref t1])) := NoT.upd (NoT.upd n1 rfl) rfl
                  refine rd_catAns (an.mono sm) nt2 (same_new hp1 _ _ upd_same) upd_same (by omega) fun p2 G2 _ s2 n2 an2 => ?_
                  have sm := sm.trans s2
                  clear nt2 s2 hp1 ht1
                  wtm_at "rs"
                  refine use_lleft (sm _ _ hc) an2 n2 hps (by omega) al2 fun p4 G4 _ s4 n4 h4 => ?_
                  have sm := sm.trans s4
                  clear s4 n2 an2
                  wtm_at "rs"
                  rename_i p5 hp5
                  refine rd_eqInts (ns := fitL ps (as ++ [(n, s)])) (ms := []) (SqL.of (same_new hp5 _ _ h4)) (SqL.of upd_same) ?_
                  refine ⟨_, rfl, ?_⟩
                  have sm := sm.trans (same_new (o := .lst []) hp5)
                  have n5 := NoT.upd (o := .lst []) (p := p5) n4 rfl
                  generalize upd G4 p5 (.lst []) = G5 at *
                  clear n4 hp5 h4
                  by_cases e : fitL ps (as ++ [(n, s)]) = []
                  · rw [if_pos (decide_eq_true e)]
                    wtm_at "rs"
                    rename_i t6 ht6 p6 hp6
                    have sm6 := (same_new (o := .tup [.int n, .int s]) ht6).trans (same_new (o := .lst [.ref t6]) hp6)
                    refine rd_catAns (an.mono (sm.trans sm6)) (NoT.upd (NoT.upd n5 rfl) rfl) (same_new hp6 _ _ upd_same) upd_same (by omega) fun p7 G7 _ s7 n7 an7 => ?_
                    have sm := (sm.trans sm6).trans s7
                    clear s7 sm6 hp6 ht6
                    wtm_at "rs"
                    refine use_lclash (sm _ _ hc) an7 n7 hps (by omega) al2 fun p8 G8 s8 n8 h8 => ?_
                    wtm_at "rs"
                    exact ⟨_, rfl, sm.trans s8, n8, .inl ⟨e, p8, rfl, h8⟩⟩
                  · rw [if_neg (by rw [decide_eq_true_iff]; exact e)]
                    wtm_at "rs"
                    exact ⟨_, rfl, sm, n5, .inr ⟨e, rfl⟩⟩
                · rintro σ G ⟨v, rfl, sm, nG, hv⟩
                  have qz := qz.mono sm
                  have an := an.mono sm
                  have hc := sm _ _ hc
                  have hX := sm _ _ hX
                  have hob := qz.ob
                  clear n1 sm hD
                  wtm_at "rs"
                  refine ⟨q, dx, c, a1, ps, as, n, s, rfl, qz, nG, Bd.of (by omega) (by omega), Bd.of (by omega) (by omega), by omega, fun e l G2 sm nG2 hl => ?_, fun ne a2 G2 ha2 b nG2 qz => ?_⟩
                  · rcases hv with ⟨_, l0, rfl, hl0⟩ | ⟨e2, _⟩
                    · have hl0 := sm _ _ hl0
                      wtm_at "rs"
                      exact ⟨as, a1, A, _, rfl, nG2, qz.mono sm, an.mono sm, sm _ _ hc, sm _ _ hX, by omega⟩
                    · exact absurd e e2
                  · rcases hv with ⟨e2, _⟩ | ⟨_, rfl⟩
                    · exact absurd e2 ne
                    · have an := an.but hob b
                      have hc := b _ _ (ne_of hc hob (by intro z; cases z)) hc
                      have hX := b _ _ (ne_of hX hob (by intro z; cases z)) hX
                      wtm_at "rs"
                      rw [SeqAt.eqv_refl PyData.none rfl, if_neg (by decide)]
                      wtm_at "rs"
                      rename_i t6 ht6 p6 hp6
                      have sm6 := (same_new (o := .tup [.int n, .int s]) ht6).trans (same_new (o := .lst [.ref t6]) hp6)
                      refine rd_catAns (an.mono sm6) (NoT.upd (NoT.upd nG2 rfl) rfl) (same_new hp6 _ _ upd_same) upd_same (by omega) fun p7 G7 _ s7 n7 an7 => ?_
                      have s8 := sm6.trans s7
                      wtm_at "rs"
                      exact ⟨_, a2, p7, _, rfl, n7, qz.mono s8, an7, s8 _ _ hc, s8 _ _ hX, by rw [List.length_append]; show as.length + 1 ≤ i + 1; omega⟩
            · rintro σ G ⟨as, a1, A, v11, rfl, nG, qz, an, hc, hX, al⟩
              have lc : cs.length ≤ 7 := by omega
              have hpL : ∀ p ∈ fitL ps as, QR.OP p ∧ p < 2 ^ 60 := fun p hp => hps p (List.mem_filter.mp hp).1
              have fl : (fitL ps as).length ≤ ps.length := List.length_filter_le _ _
              have hob := qz.ob
              have B := Hv.start nG
              wtm_at "rs"
              refine use_next qz B.nt fun G2 s2 n2 => ?_
              have B := B.next s2 n2
              clear s2 n2
              refine B.gen fun G2 B => ?_
              wtm_at "rs"
              refine use_lleft (B.oAt hc) (an.mono B.same) B.nt hps (by omega) (by omega) fun p4 G4 hp4 s4 n4 h4 => ?_
              have B := B.got s4 n4 hp4 h4
              clear s4 n4 hp4 h4
              refine B.gen fun G2 B => ?_
              wtm_at "rs"
              refine use_LNx (B.lAt (a := p4) (by wtm_at "mem")) B.nt hpL (by omega) fun G2 s2 n2 => ?_
              have B := B.next s2 n2
              clear s2 n2
              refine B.gen fun G2 B => ?_
              refine rd_neSelf nextQ_kind ?_
              wtm_at "rs"
              refine use_left (qz.mono B.same) B.nt fun p5 G5 hp5 s5 n5 h5 => ?_
              have B := B.gotM s5 n5 hp5 h5
              clear s5 n5 hp5 h5
              refine B.gen fun G2 B => ?_
              wtm_at "rs"
              refine use_heard (qz.mono B.same) B.nt fun p6 G6 hp6 s6 n6 an6 => ?_
              obtain ⟨ts6, h6, hr6⟩ := an6.ex
              have B := (B.gotM s6 n6 hp6 h6).rig hr6.rig
              clear s6 n6 hp6 h6 hr6 an6
              refine B.gen fun G2 B => ?_
              wtm_at "rs"
              rename_i p7 hp7
              have B := B.newL (o := .lst [.ref p5, .ref p6]) hp7
              refine B.gen fun G2 B => ?_
              refine use_lleft (B.oAt hc) (an.mono B.same) B.nt hps (by omega) (by omega) fun p8 G8 hp8 s8 n8 h8 => ?_
              have B := B.got s8 n8 hp8 h8
              clear s8 n8 hp8 h8
              refine B.gen fun G2 B => ?_
              wtm_at "rs"
              rename_i p9 hp9
              have B := B.newL (o := .lst [.ref p8, .ref A]) hp9
              refine B.gen fun G2 B => ?_
              refine rd_neSame (dp_told (ns := fitL ps as) (as := as) (B.lAt (a := p7) (by wtm_at "mem")) (B.mAt (a := p5) (by wtm_at "mem")) ⟨ts6, B.mAt (a := p6) (by wtm_at "mem"), B.zAt (P := fun G => RowsAt G ts6 (ansV as)) (by wtm_at "mem")⟩) (dp_told (B.lAt (a := p9) (by wtm_at "mem")) (B.lAt (a := p8) (by wtm_at "mem")) (an.mono B.same)) (okD_shaped okD_told) ?_
              wtm_at "rs"
              have tl6 : ts6.length = as.length := by rw [RowsAt.len (B.zAt (P := fun G => RowsAt G ts6 (ansV as)) (by wtm_at "mem")), ansV, List.length_map]
              refine rd_append (B.mAt (a := p5) (by wtm_at "mem")) (by rw [List.length_map]; exact Nat.lt_of_le_of_lt (m := 10000) (by omega) (by decide)) ?_
              have B := B.put1 (u := .lst ((fitL ps as).map V.int ++ [.int 4]))
              refine B.gen fun G2 B => ?_
              wtm_at "rs"
              refine rd_append (B.mAt (a := p6) (by wtm_at "mem")) (by rw [List.length_map]; exact Nat.lt_of_le_of_lt (m := 10000) (by omega) (by decide)) ?_
              have B := B.put (u := .lst (ts6.map V.ref ++ [.int 4]))
              exact ⟨as, a1, A, _, _, _, _, _, _, rfl, B.nt, qz.mono B.same, an.mono B.same, B.oAt hc, B.oAt hX, by omega⟩
      · rintro σ G ⟨as, a1, A, v7, v8, v9, v10, v11, v12, rfl, nG, qz, an, hc, hX, al⟩
        have lc : cs.length ≤ 7 := by omega
        rw [List.length_map] at al
        have hpL : ∀ p ∈ fitL ps as, QR.OP p ∧ p < 2 ^ 60 := fun p hp => hps p (List.mem_filter.mp hp).1
        have hob := qz.ob
        have B := Hv.start nG
        wtm_at "rs"
        refine use_left (qz.mono B.same) B.nt fun p5 G5 hp5 s5 n5 h5 => ?_
        have B := B.got s5 n5 hp5 h5
        clear s5 n5 hp5 h5
        refine B.gen fun G2 B => ?_
        wtm_at "rs"
        refine use_heard (qz.mono B.same) B.nt fun p6 G6 hp6 s6 n6 an6 => ?_
        obtain ⟨ts6, h6, hr6⟩ := an6.ex
        have B := (B.got s6 n6 hp6 h6).rig hr6.rig
        clear s6 n6 hp6 h6 hr6 an6
        refine B.gen fun G2 B => ?_
        wtm_at "rs"
        rename_i p7 hp7
        have B := B.newL (o := .lst [.ref p5, .ref p6]) hp7
        refine B.gen fun G2 B => ?_
        refine use_lleft (B.oAt hc) (an.mono B.same) B.nt hps (by omega) (by omega) fun p8 G8 hp8 s8 n8 h8 => ?_
        have B := B.got s8 n8 hp8 h8
        clear s8 n8 hp8 h8
        refine B.gen fun G2 B => ?_
        wtm_at "rs"
        rename_i p9 hp9
        have B := B.newL (o := .lst [.ref p8, .ref A]) hp9
        refine B.gen fun G2 B => ?_
        refine rd_eqSame (dp_told (ns := fitL ps as) (as := as) (B.lAt (a := p7) (by wtm_at "mem")) (B.lAt (a := p5) (by wtm_at "mem")) ⟨ts6, B.lAt (a := p6) (by wtm_at "mem"), B.zAt (P := fun G => RowsAt G ts6 (ansV as)) (by wtm_at "mem")⟩) (dp_told (B.lAt (a := p9) (by wtm_at "mem")) (B.lAt (a := p8) (by wtm_at "mem")) (an.mono B.same)) (okD_shaped okD_told) ?_
        have hc := B.oAt hc
        have nG := B.nt
        clear B
        wtm_at "rs"
        refine mk_Qz nG (by omega) (by omega) fun q dx c a' G2 s2 n2 hq0 hc0 ha0 cx ax ac hq hc' ha => ?_
        rw [eps] at hc'
        have qz : QzAt Ad.c_Quiz K G2 q dx c a' ps [] := ⟨hq, hc', ⟨[], ha, trivial⟩, hps, fun _ h => absurd h List.not_mem_nil, by omega, by decide⟩
        have hob := qz.ob
        have hc := s2 _ _ hc
        wtm_at "rs"
        refine use_left qz n2 fun p5 G5 hp5 s5 n5 h5 => ?_
        rw [show fitL ps [] = ps from fitL_nil] at h5
        have hc := s5 _ _ hc
        wtm_at "rs"
        rw [decide_eq_true rfl]
        exact kq _
end
/-! ## what the top has left, and the end -/
theorem all_mk {P : Program} {w : World} {K : PySem.W.Frag} {h : Heap} {mg : Str → Option Value} {fa : Addr} (X : K.In h) (G : h.Ns mainGlobals mg) (hfa : mg "law" = some (.ref fa))
    {tk_GREATEST_ASKED : Tok}
    {CO_Quiz : Addr}
    {f0 : Addr} {od0 an0 : Option Addr} {sl0 : Array (Option Value)} {oc0 kV0 dc0 pm0 cd0 ct0 : Value}
    {f1 : Addr} {od1 an1 : Option Addr} {sl1 : Array (Option Value)} {oc1 kV1 dc1 pm1 cd1 ct1 : Value}
    {f2 : Addr} {od2 an2 : Option Addr} {sl2 : Array (Option Value)} {oc2 kV2 dc2 pm2 cd2 ct2 : Value}
    {f3 : Addr} {od3 an3 : Option Addr} {sl3 : Array (Option Value)} {oc3 kV3 dc3 pm3 cd3 ct3 : Value}
    {f4 : Addr} {od4 an4 : Option Addr} {sl4 : Array (Option Value)} {oc4 kV4 dc4 pm4 cd4 ct4 : Value}
    {f5 : Addr} {od5 an5 : Option Addr} {sl5 : Array (Option Value)} {oc5 kV5 dc5 pm5 cd5 ct5 : Value}
    {f6 : Addr} {od6 an6 : Option Addr} {sl6 : Array (Option Value)} {oc6 kV6 dc6 pm6 cd6 ct6 : Value}
    {f7 : Addr} {od7 an7 : Option Addr} {sl7 : Array (Option Value)} {oc7 kV7 dc7 pm7 cd7 ct7 : Value}
    {f8 : Addr} {od8 an8 : Option Addr} {sl8 : Array (Option Value)} {oc8 kV8 dc8 pm8 cd8 ct8 : Value}
    {f9 : Addr} {od9 an9 : Option Addr} {sl9 : Array (Option Value)} {oc9 kV9 dc9 pm9 cd9 ct9 : Value}
    {f10 : Addr} {od10 an10 : Option Addr} {sl10 : Array (Option Value)} {oc10 kV10 dc10 pm10 cd10 ct10 : Value}
    {f11 : Addr} {od11 an11 : Option Addr} {sl11 : Array (Option Value)} {oc11 kV11 dc11 pm11 cd11 ct11 : Value}
    {f12 : Addr} {od12 an12 : Option Addr} {sl12 : Array (Option Value)} {oc12 kV12 dc12 pm12 cd12 ct12 : Value}
    {f13 : Addr} {od13 an13 : Option Addr} {sl13 : Array (Option Value)} {oc13 kV13 dc13 pm13 cd13 ct13 : Value}
    {f14 : Addr} {od14 an14 : Option Addr} {sl14 : Array (Option Value)} {oc14 kV14 dc14 pm14 cd14 ct14 : Value}
    {f15 : Addr} {od15 an15 : Option Addr} {sl15 : Array (Option Value)} {oc15 kV15 dc15 pm15 cd15 ct15 : Value}
    {f16 : Addr} {od16 an16 : Option Addr} {sl16 : Array (Option Value)} {oc16 kV16 dc16 pm16 cd16 ct16 : Value}
    {f17 : Addr} {od17 an17 : Option Addr} {sl17 : Array (Option Value)} {oc17 kV17 dc17 pm17 cd17 ct17 : Value}
    {f18 : Addr} {od18 an18 : Option Addr} {sl18 : Array (Option Value)} {oc18 kV18 dc18 pm18 cd18 ct18 : Value}
    {f19 : Addr} {od19 an19 : Option Addr} {sl19 : Array (Option Value)} {oc19 kV19 dc19 pm19 cd19 ct19 : Value}
    {f20 : Addr} {od20 an20 : Option Addr} {sl20 : Array (Option Value)} {oc20 kV20 dc20 pm20 cd20 ct20 : Value}
    {f21 : Addr} {od21 an21 : Option Addr} {sl21 : Array (Option Value)} {oc21 kV21 dc21 pm21 cd21 ct21 : Value}
    {f22 : Addr} {od22 an22 : Option Addr} {sl22 : Array (Option Value)} {oc22 kV22 dc22 pm22 cd22 ct22 : Value}
    {f23 : Addr} {od23 an23 : Option Addr} {sl23 : Array (Option Value)} {oc23 kV23 dc23 pm23 cd23 ct23 : Value}
    {CB : Addr}
    {C0 g0 N0 : Addr} {nm0 qq0 : Str} {bs0 bm0 : List Value} {sn0 : List Str} {sub0 : List Value} {ab0 : Bool} {col0 : Option Bool} {dd0 : Option Addr} {m00 m10 m20 m30 m50 : Option Value} {odE0 anE0 : Option Addr} {slE0 : Array (Option Value)} {ocE0 kVE0 dcE0 pmE0 cdE0 ctE0 : Value}
    {C1 g1 N1 : Addr} {nm1 qq1 : Str} {bs1 bm1 : List Value} {sn1 : List Str} {sub1 : List Value} {ab1 : Bool} {col1 : Option Bool} {dd1 : Option Addr} {m01 m11 m21 m31 m51 : Option Value} {odE1 anE1 : Option Addr} {slE1 : Array (Option Value)} {ocE1 kVE1 dcE1 pmE1 cdE1 ctE1 : Value}
    {C2 g2 N2 : Addr} {nm2 qq2 : Str} {bs2 bm2 : List Value} {sn2 : List Str} {sub2 : List Value} {ab2 : Bool} {col2 : Option Bool} {dd2 : Option Addr} {m02 m12 m22 m32 m52 : Option Value} {odE2 anE2 : Option Addr} {slE2 : Array (Option Value)} {ocE2 kVE2 dcE2 pmE2 cdE2 ctE2 : Value}
    (z_abs : PySem.W.nsIn K mainGlobals "abs" = some none)
    (z_all : PySem.W.nsIn K mainGlobals "all" = some none)
    (z_int : PySem.W.nsIn K mainGlobals "int" = some none)
    (z_len : PySem.W.nsIn K mainGlobals "len" = some none)
    (z_list : PySem.W.nsIn K mainGlobals "list" = some none)
    (z_max : PySem.W.nsIn K mainGlobals "max" = some none)
    (z_range : PySem.W.nsIn K mainGlobals "range" = some none)
    (q_GREATEST_ASKED : PySem.W.nsIn K mainGlobals "GREATEST_ASKED" = some (some (.int 50 tk_GREATEST_ASKED)))
    (og_Quiz : PySem.W.nsIn K mainGlobals "Quiz" = some (some (.ref CO_Quiz)))
    (opg_Quiz : PySem.W.plainGet K CO_Quiz Str.empty = true)
    (ohd_Quiz : PySem.W.hasDictIn K CO_Quiz = true)
    (opo_Quiz : PySem.W.plainOver K CO_Quiz = true)
    (osa_Quiz : PySem.W.findIn K (.ref CO_Quiz) "__setattr__" = some (some (.builtin "object.__setattr__")))
    (omk_Quiz : PySem.W.makesIn K CO_Quiz = true)
    (okc_Quiz : PySem.W.keepIn K (.ref CO_Quiz) = true)
    (oha_Quiz : PySem.W.findIn K (.ref CO_Quiz) "__class__" = some (some (.builtin "object.__class__")))
    (ohn_Quiz : PySem.W.specialIn K (.builtin "object.__class__") "__get__" = some (some (.builtin "getset_descriptor.__get__")))
    (otk_Quiz : PySem.W.takesIn K (.builtin "object.__class__") = some true)
    (omr_Quiz : PySem.W.mroIn K CO_Quiz (.type "object") = some true)
    (oci_Quiz : PySem.W.isClsIn K CO_Quiz = true)
    (oct_Quiz : PySem.W.typeIn K (.ref CO_Quiz) = some (.type "type"))
    (onf_Quiz_answers : PySem.W.findIn K (.ref CO_Quiz) "answers" = some none)
    (onf_Quiz_clocks : PySem.W.findIn K (.ref CO_Quiz) "clocks" = some none)
    (a0 : PySem.W.nsIn K mainGlobals "checked_modulus" = some (some (.ref f0)))
    (l0 : K.lookup f0 = some ⟨oc0, od0, .func (PySem.W.fnOf "checked_modulus" "checked_modulus" (defArgs s_checked_modulus) (defBody s_checked_modulus) (defScope s_checked_modulus) .none kV0 dc0 pm0 an0 cd0 ct0), sl0⟩)
    (c0 : PySem.W.codeIn K cd0 "checked_modulus" = true)
    (k0 : PySem.W.keepIn K (.ref f0) = true)
    (a1 : PySem.W.nsIn K mainGlobals "factor_of" = some (some (.ref f1)))
    (l1 : K.lookup f1 = some ⟨oc1, od1, .func (PySem.W.fnOf "factor_of" "factor_of" (defArgs s_factor_of) (defBody s_factor_of) (defScope s_factor_of) .none kV1 dc1 pm1 an1 cd1 ct1), sl1⟩)
    (c1 : PySem.W.codeIn K cd1 "factor_of" = true)
    (k1 : PySem.W.keepIn K (.ref f1) = true)
    (a2 : PySem.W.nsIn K mainGlobals "sign" = some (some (.ref f2)))
    (l2 : K.lookup f2 = some ⟨oc2, od2, .func (PySem.W.fnOf "sign" "sign" (defArgs s_sign) (defBody s_sign) (defScope s_sign) .none kV2 dc2 pm2 an2 cd2 ct2), sl2⟩)
    (c2 : PySem.W.codeIn K cd2 "sign" = true)
    (k2 : PySem.W.keepIn K (.ref f2) = true)
    (a3 : PySem.W.nsIn K mainGlobals "fitting" = some (some (.ref f3)))
    (l3 : K.lookup f3 = some ⟨oc3, od3, .func (PySem.W.fnOf "fitting" "fitting" (defArgs s_fitting) (defBody s_fitting) (defScope s_fitting) .none kV3 dc3 pm3 an3 cd3 ct3), sl3⟩)
    (c3 : PySem.W.codeIn K cd3 "fitting" = true)
    (k3 : PySem.W.keepIn K (.ref f3) = true)
    (a4 : PySem.W.nsIn K mainGlobals "clash_of" = some (some (.ref f4)))
    (l4 : K.lookup f4 = some ⟨oc4, od4, .func (PySem.W.fnOf "clash_of" "clash_of" (defArgs s_clash_of) (defBody s_clash_of) (defScope s_clash_of) .none kV4 dc4 pm4 an4 cd4 ct4), sl4⟩)
    (c4 : PySem.W.codeIn K cd4 "clash_of" = true)
    (k4 : PySem.W.keepIn K (.ref f4) = true)
    (a5 : PySem.W.nsIn K mainGlobals "_law_sign" = some (some (.ref f5)))
    (l5 : K.lookup f5 = some ⟨oc5, od5, .func (PySem.W.fnOf "_law_sign" "_law_sign" (defArgs s_law_sign) (defBody s_law_sign) (defScope s_law_sign) .none kV5 dc5 pm5 an5 cd5 ct5), sl5⟩)
    (c5 : PySem.W.codeIn K cd5 "_law_sign" = true)
    (k5 : PySem.W.keepIn K (.ref f5) = true)
    (a6 : PySem.W.nsIn K mainGlobals "_law_left" = some (some (.ref f6)))
    (l6 : K.lookup f6 = some ⟨oc6, od6, .func (PySem.W.fnOf "_law_left" "_law_left" (defArgs s_law_left) (defBody s_law_left) (defScope s_law_left) .none kV6 dc6 pm6 an6 cd6 ct6), sl6⟩)
    (c6 : PySem.W.codeIn K cd6 "_law_left" = true)
    (k6 : PySem.W.keepIn K (.ref f6) = true)
    (a7 : PySem.W.nsIn K mainGlobals "_law_clash" = some (some (.ref f7)))
    (l7 : K.lookup f7 = some ⟨oc7, od7, .func (PySem.W.fnOf "_law_clash" "_law_clash" (defArgs s_law_clash) (defBody s_law_clash) (defScope s_law_clash) .none kV7 dc7 pm7 an7 cd7 ct7), sl7⟩)
    (c7 : PySem.W.codeIn K cd7 "_law_clash" = true)
    (k7 : PySem.W.keepIn K (.ref f7) = true)
    (a8 : PySem.W.nsIn K mainGlobals "is_prime" = some (some (.ref f8)))
    (l8 : K.lookup f8 = some ⟨oc8, od8, .func (PySem.W.fnOf "is_prime" "is_prime" (defArgs s_is_prime) (defBody s_is_prime) (defScope s_is_prime) .none kV8 dc8 pm8 an8 cd8 ct8), sl8⟩)
    (c8 : PySem.W.codeIn K cd8 "is_prime" = true)
    (k8 : PySem.W.keepIn K (.ref f8) = true)
    (a9 : PySem.W.nsIn K mainGlobals "primes" = some (some (.ref f9)))
    (l9 : K.lookup f9 = some ⟨oc9, od9, .func (PySem.W.fnOf "primes" "primes" (defArgs s_primes) (defBody s_primes) (defScope s_primes) .none kV9 dc9 pm9 an9 cd9 ct9), sl9⟩)
    (c9 : PySem.W.codeIn K cd9 "primes" = true)
    (k9 : PySem.W.keepIn K (.ref f9) = true)
    (a10 : PySem.W.findIn K (.ref CO_Quiz) "__init__" = some (some (.ref f10)))
    (i10 : PySem.W.isFn K (.ref f10) = true)
    (l10 : K.lookup f10 = some ⟨oc10, od10, .func (PySem.W.fnOf "__init__" "Quiz.__init__" (defArgs s_Quiz_init) (defBody s_Quiz_init) (defScope s_Quiz_init) .none kV10 dc10 pm10 an10 cd10 ct10), sl10⟩)
    (c10 : PySem.W.codeIn K cd10 "Quiz.__init__" = true)
    (k10 : PySem.W.keepIn K (.ref f10) = true)
    (a11 : PySem.W.findIn K (.ref CO_Quiz) "left" = some (some (.ref f11)))
    (i11 : PySem.W.isFn K (.ref f11) = true)
    (l11 : K.lookup f11 = some ⟨oc11, od11, .func (PySem.W.fnOf "left" "Quiz.left" (defArgs s_Quiz_left) (defBody s_Quiz_left) (defScope s_Quiz_left) .none kV11 dc11 pm11 an11 cd11 ct11), sl11⟩)
    (c11 : PySem.W.codeIn K cd11 "Quiz.left" = true)
    (k11 : PySem.W.keepIn K (.ref f11) = true)
    (a12 : PySem.W.findIn K (.ref CO_Quiz) "hear" = some (some (.ref f12)))
    (i12 : PySem.W.isFn K (.ref f12) = true)
    (l12 : K.lookup f12 = some ⟨oc12, od12, .func (PySem.W.fnOf "hear" "Quiz.hear" (defArgs s_Quiz_hear) (defBody s_Quiz_hear) (defScope s_Quiz_hear) .none kV12 dc12 pm12 an12 cd12 ct12), sl12⟩)
    (c12 : PySem.W.codeIn K cd12 "Quiz.hear" = true)
    (k12 : PySem.W.keepIn K (.ref f12) = true)
    (a13 : PySem.W.nsIn K mainGlobals "_law_hear" = some (some (.ref f13)))
    (l13 : K.lookup f13 = some ⟨oc13, od13, .func (PySem.W.fnOf "_law_hear" "_law_hear" (defArgs s_law_hear) (defBody s_law_hear) (defScope s_law_hear) .none kV13 dc13 pm13 an13 cd13 ct13), sl13⟩)
    (c13 : PySem.W.codeIn K cd13 "_law_hear" = true)
    (k13 : PySem.W.keepIn K (.ref f13) = true)
    (a14 : PySem.W.findIn K (.ref CO_Quiz) "undo" = some (some (.ref f14)))
    (i14 : PySem.W.isFn K (.ref f14) = true)
    (l14 : K.lookup f14 = some ⟨oc14, od14, .func (PySem.W.fnOf "undo" "Quiz.undo" (defArgs s_Quiz_undo) (defBody s_Quiz_undo) (defScope s_Quiz_undo) .none kV14 dc14 pm14 an14 cd14 ct14), sl14⟩)
    (c14 : PySem.W.codeIn K cd14 "Quiz.undo" = true)
    (k14 : PySem.W.keepIn K (.ref f14) = true)
    (a15 : PySem.W.nsIn K mainGlobals "_law_undo" = some (some (.ref f15)))
    (l15 : K.lookup f15 = some ⟨oc15, od15, .func (PySem.W.fnOf "_law_undo" "_law_undo" (defArgs s_law_undo) (defBody s_law_undo) (defScope s_law_undo) .none kV15 dc15 pm15 an15 cd15 ct15), sl15⟩)
    (c15 : PySem.W.codeIn K cd15 "_law_undo" = true)
    (k15 : PySem.W.keepIn K (.ref f15) = true)
    (a16 : PySem.W.nsIn K mainGlobals "row_of_questions" = some (some (.ref f16)))
    (l16 : K.lookup f16 = some ⟨oc16, od16, .func (PySem.W.fnOf "row_of_questions" "row_of_questions" (defArgs s_row_of_questions) (defBody s_row_of_questions) (defScope s_row_of_questions) .none kV16 dc16 pm16 an16 cd16 ct16), sl16⟩)
    (c16 : PySem.W.codeIn K cd16 "row_of_questions" = true)
    (k16 : PySem.W.keepIn K (.ref f16) = true)
    (a17 : PySem.W.findIn K (.ref CO_Quiz) "next_number" = some (some (.ref f17)))
    (i17 : PySem.W.isFn K (.ref f17) = true)
    (l17 : K.lookup f17 = some ⟨oc17, od17, .func (PySem.W.fnOf "next_number" "Quiz.next_number" (defArgs s_Quiz_next_number) (defBody s_Quiz_next_number) (defScope s_Quiz_next_number) .none kV17 dc17 pm17 an17 cd17 ct17), sl17⟩)
    (c17 : PySem.W.codeIn K cd17 "Quiz.next_number" = true)
    (k17 : PySem.W.keepIn K (.ref f17) = true)
    (a18 : PySem.W.nsIn K mainGlobals "_law_is_prime" = some (some (.ref f18)))
    (l18 : K.lookup f18 = some ⟨oc18, od18, .func (PySem.W.fnOf "_law_is_prime" "_law_is_prime" (defArgs s_law_is_prime) (defBody s_law_is_prime) (defScope s_law_is_prime) .none kV18 dc18 pm18 an18 cd18 ct18), sl18⟩)
    (c18 : PySem.W.codeIn K cd18 "_law_is_prime" = true)
    (k18 : PySem.W.keepIn K (.ref f18) = true)
    (a19 : PySem.W.nsIn K mainGlobals "_law_next" = some (some (.ref f19)))
    (l19 : K.lookup f19 = some ⟨oc19, od19, .func (PySem.W.fnOf "_law_next" "_law_next" (defArgs s_law_next) (defBody s_law_next) (defScope s_law_next) .none kV19 dc19 pm19 an19 cd19 ct19), sl19⟩)
    (c19 : PySem.W.codeIn K cd19 "_law_next" = true)
    (k19 : PySem.W.keepIn K (.ref f19) = true)
    (a20 : PySem.W.findIn K (.ref CO_Quiz) "heard" = some (some (.ref f20)))
    (i20 : PySem.W.isFn K (.ref f20) = true)
    (l20 : K.lookup f20 = some ⟨oc20, od20, .func (PySem.W.fnOf "heard" "Quiz.heard" (defArgs s_Quiz_heard) (defBody s_Quiz_heard) (defScope s_Quiz_heard) .none kV20 dc20 pm20 an20 cd20 ct20), sl20⟩)
    (c20 : PySem.W.codeIn K cd20 "Quiz.heard" = true)
    (k20 : PySem.W.keepIn K (.ref f20) = true)
    (a21 : PySem.W.nsIn K mainGlobals "_law_cell" = some (some (.ref f21)))
    (l21 : K.lookup f21 = some ⟨oc21, od21, .func (PySem.W.fnOf "_law_cell" "_law_cell" (defArgs s_law_cell) (defBody s_law_cell) (defScope s_law_cell) .none kV21 dc21 pm21 an21 cd21 ct21), sl21⟩)
    (c21 : PySem.W.codeIn K cd21 "_law_cell" = true)
    (k21 : PySem.W.keepIn K (.ref f21) = true)
    (a22 : PySem.W.nsIn K mainGlobals "_law_draws" = some (some (.ref f22)))
    (l22 : K.lookup f22 = some ⟨oc22, od22, .func (PySem.W.fnOf "_law_draws" "_law_draws" (defArgs s_law_draws) (defBody s_law_draws) (defScope s_law_draws) .none kV22 dc22 pm22 an22 cd22 ct22), sl22⟩)
    (c22 : PySem.W.codeIn K cd22 "_law_draws" = true)
    (k22 : PySem.W.keepIn K (.ref f22) = true)
    (a23 : PySem.W.nsIn K mainGlobals "law" = some (some (.ref f23)))
    (l23 : K.lookup f23 = some ⟨oc23, od23, .func (PySem.W.fnOf "law" "law" (defArgs s_law) (defBody s_law) (defScope s_law) .none kV23 dc23 pm23 an23 cd23 ct23), sl23⟩)
    (c23 : PySem.W.codeIn K cd23 "law" = true)
    (k23 : PySem.W.keepIn K (.ref f23) = true)
    (gB : PySem.W.nsIn K mainGlobals "ClockError" = some (some (.ref CB)))
    (rB : PySem.W.readsIn K CB (.type "type") = true)
    (aB : PySem.W.specialIn K (.ref CB) "__getattribute__" = some (some (.builtin "type.__getattribute__")))
    (iB : PySem.W.findCls K (.ref CB) (.type "type") "__init__" = some (.val (.builtin "ValueError.__init__")))
    (eg0 : PySem.W.nsIn K mainGlobals "BadModulus" = some (some (.ref C0)))
    (ex0 : K.lookup C0 = some (excClassObj nm0 qq0 C0 N0 bs0 bm0 true sn0 sub0 ab0 col0 dd0 m00 m10 m20 m30 m50 "ValueError.__new__"))
    (eb0 : PySem.HandSPX.refsVE bm0 = true)
    (es0 : PySem.W.findIn K (.ref C0) "__setattr__" = some (some (.builtin "object.__setattr__")))
    (ee0 : PySem.W.subIn K (.ref C0) (.type "BaseException") = some true)
    (et0 : PySem.W.typeIn K (.ref C0) = some (.type "type"))
    (ek0 : PySem.W.keepIn K (.ref C0) = true)
    (ega0 : PySem.W.findIn K (.ref C0) "__getattribute__" = some (some (.builtin "BaseException.__getattribute__")))
    (egg0 : PySem.W.findIn K (.ref C0) "__getattr__" = some none)
    (eh0 : PySem.W.hasDictIn K C0 = true)
    (ei0 : PySem.W.isClsIn K C0 = true)
    (eu0 : PySem.W.subIn K (.ref C0) (.ref C0) = some true)
    (ef0 : PySem.W.findIn K (.ref C0) "__init__" = some (some (.ref g0)))
    (ey0 : PySem.W.typeIn K (.ref g0) = some (.type "function"))
    (el0 : K.lookup g0 = some ⟨ocE0, odE0, .func (PySem.W.fnOf "__init__" "BadModulus.__init__" (defArgs s_BadModulus_init) (defBody s_BadModulus_init) (defScope s_BadModulus_init) .none kVE0 dcE0 pmE0 anE0 cdE0 ctE0), slE0⟩)
    (ec0 : PySem.W.codeIn K cdE0 "BadModulus.__init__" = true)
    (ej0 : PySem.W.keepIn K (.ref g0) = true)
    (en0_modulus : PySem.W.findIn K (.ref C0) "modulus" = some none)
    (eg1 : PySem.W.nsIn K mainGlobals "Contradiction" = some (some (.ref C1)))
    (ex1 : K.lookup C1 = some (excClassObj nm1 qq1 C1 N1 bs1 bm1 true sn1 sub1 ab1 col1 dd1 m01 m11 m21 m31 m51 "ValueError.__new__"))
    (eb1 : PySem.HandSPX.refsVE bm1 = true)
    (es1 : PySem.W.findIn K (.ref C1) "__setattr__" = some (some (.builtin "object.__setattr__")))
    (ee1 : PySem.W.subIn K (.ref C1) (.type "BaseException") = some true)
    (et1 : PySem.W.typeIn K (.ref C1) = some (.type "type"))
    (ek1 : PySem.W.keepIn K (.ref C1) = true)
    (ega1 : PySem.W.findIn K (.ref C1) "__getattribute__" = some (some (.builtin "BaseException.__getattribute__")))
    (egg1 : PySem.W.findIn K (.ref C1) "__getattr__" = some none)
    (eh1 : PySem.W.hasDictIn K C1 = true)
    (ei1 : PySem.W.isClsIn K C1 = true)
    (eu1 : PySem.W.subIn K (.ref C1) (.ref C1) = some true)
    (ef1 : PySem.W.findIn K (.ref C1) "__init__" = some (some (.ref g1)))
    (ey1 : PySem.W.typeIn K (.ref g1) = some (.type "function"))
    (el1 : K.lookup g1 = some ⟨ocE1, odE1, .func (PySem.W.fnOf "__init__" "Contradiction.__init__" (defArgs s_Contradiction_init) (defBody s_Contradiction_init) (defScope s_Contradiction_init) .none kVE1 dcE1 pmE1 anE1 cdE1 ctE1), slE1⟩)
    (ec1 : PySem.W.codeIn K cdE1 "Contradiction.__init__" = true)
    (ej1 : PySem.W.keepIn K (.ref g1) = true)
    (en1_clash : PySem.W.findIn K (.ref C1) "clash" = some none)
    (eg2 : PySem.W.nsIn K mainGlobals "NothingToUndo" = some (some (.ref C2)))
    (ex2 : K.lookup C2 = some (excClassObj nm2 qq2 C2 N2 bs2 bm2 true sn2 sub2 ab2 col2 dd2 m02 m12 m22 m32 m52 "ValueError.__new__"))
    (eb2 : PySem.HandSPX.refsVE bm2 = true)
    (es2 : PySem.W.findIn K (.ref C2) "__setattr__" = some (some (.builtin "object.__setattr__")))
    (ee2 : PySem.W.subIn K (.ref C2) (.type "BaseException") = some true)
    (et2 : PySem.W.typeIn K (.ref C2) = some (.type "type"))
    (ek2 : PySem.W.keepIn K (.ref C2) = true)
    (ega2 : PySem.W.findIn K (.ref C2) "__getattribute__" = some (some (.builtin "BaseException.__getattribute__")))
    (egg2 : PySem.W.findIn K (.ref C2) "__getattr__" = some none)
    (eh2 : PySem.W.hasDictIn K C2 = true)
    (ei2 : PySem.W.isClsIn K C2 = true)
    (eu2 : PySem.W.subIn K (.ref C2) (.ref C2) = some true)
    (ef2 : PySem.W.findIn K (.ref C2) "__init__" = some (some (.ref g2)))
    (ey2 : PySem.W.typeIn K (.ref g2) = some (.type "function"))
    (el2 : K.lookup g2 = some ⟨ocE2, odE2, .func (PySem.W.fnOf "__init__" "NothingToUndo.__init__" (defArgs s_NothingToUndo_init) (defBody s_NothingToUndo_init) (defScope s_NothingToUndo_init) .none kVE2 dcE2 pmE2 anE2 cdE2 ctE2), slE2⟩)
    (ec2 : PySem.W.codeIn K cdE2 "NothingToUndo.__init__" = true)
    (ej2 : PySem.W.keepIn K (.ref g2) = true) :
    ∃ fd : FuncData, (∀ (s : Shared) (v : Value), BindsTo s fd ⟨[v], []⟩ [("_law_script", v)]) ∧ ∀ base : Heap, K.In base → base.Ns mainGlobals mg → FnOk P w K mg base (L2.CX P w) 9 fa fd ["_law_script"] (spLaw K) := by
  have e := hfa.symm.trans (PySem.W.mg_of X G a23)
  cases e
  have F0 := fun_mk (st := s_checked_modulus) l0 c0 k0
  have b0 := F0.binds (ps := ["m"]) fun _ _ _ _ _ _ us hl => match us, hl with | [_], _ => rfl
  have F1 := fun_mk (st := s_factor_of) l1 c1 k1
  have b1 := F1.binds (ps := ["rule", "n", "m"]) fun _ _ _ _ _ _ us hl => match us, hl with | [_, _, _], _ => rfl
  have F2 := fun_mk (st := s_sign) l2 c2 k2
  have b2 := F2.binds (ps := ["n", "m"]) fun _ _ _ _ _ _ us hl => match us, hl with | [_, _], _ => rfl
  have F3 := fun_mk (st := s_fitting) l3 c3 k3
  have b3 := F3.binds (ps := ["clocks", "answers"]) fun _ _ _ _ _ _ us hl => match us, hl with | [_, _], _ => rfl
  have F4 := fun_mk (st := s_clash_of) l4 c4 k4
  have b4 := F4.binds (ps := ["clocks", "answers"]) fun _ _ _ _ _ _ us hl => match us, hl with | [_, _], _ => rfl
  have F5 := fun_mk (st := s_law_sign) l5 c5 k5
  have b5 := F5.binds (ps := ["_law_n", "_law_p"]) fun _ _ _ _ _ _ us hl => match us, hl with | [_, _], _ => rfl
  have F6 := fun_mk (st := s_law_left) l6 c6 k6
  have b6 := F6.binds (ps := ["_law_clocks", "_law_answers"]) fun _ _ _ _ _ _ us hl => match us, hl with | [_, _], _ => rfl
  have F7 := fun_mk (st := s_law_clash) l7 c7 k7
  have b7 := F7.binds (ps := ["_law_clocks", "_law_answers"]) fun _ _ _ _ _ _ us hl => match us, hl with | [_, _], _ => rfl
  have F8 := fun_mk (st := s_is_prime) l8 c8 k8
  have b8 := F8.binds (ps := ["n"]) fun _ _ _ _ _ _ us hl => match us, hl with | [_], _ => rfl
  have F9 := fun_mk (st := s_primes) l9 c9 k9
  have b9 := F9.binds (ps := ["start", "stop"]) fun _ _ _ _ _ _ us hl => match us, hl with | [_, _], _ => rfl
  have F10 := fun_mk (st := s_Quiz_init) l10 c10 k10
  have b10 := F10.binds (ps := ["self", "most"]) fun _ _ _ _ _ _ us hl => match us, hl with | [_, _], _ => rfl
  have F11 := fun_mk (st := s_Quiz_left) l11 c11 k11
  have b11 := F11.binds (ps := ["self"]) fun _ _ _ _ _ _ us hl => match us, hl with | [_], _ => rfl
  have F12 := fun_mk (st := s_Quiz_hear) l12 c12 k12
  have b12 := F12.binds (ps := ["self", "n", "s"]) fun _ _ _ _ _ _ us hl => match us, hl with | [_, _, _], _ => rfl
  have F13 := fun_mk (st := s_law_hear) l13 c13 k13
  have b13 := F13.binds (ps := ["_law_quiz", "_law_n", "_law_s"]) fun _ _ _ _ _ _ us hl => match us, hl with | [_, _, _], _ => rfl
  have F14 := fun_mk (st := s_Quiz_undo) l14 c14 k14
  have b14 := F14.binds (ps := ["self"]) fun _ _ _ _ _ _ us hl => match us, hl with | [_], _ => rfl
  have F15 := fun_mk (st := s_law_undo) l15 c15 k15
  have b15 := F15.binds (ps := ["_law_quiz"]) fun _ _ _ _ _ _ us hl => match us, hl with | [_], _ => rfl
  have F16 := fun_mk (st := s_row_of_questions) l16 c16 k16
  have b16 := F16.binds (ps := []) fun _ _ _ _ _ _ us hl => match us, hl with | [], _ => rfl
  have F17 := fun_mk (st := s_Quiz_next_number) l17 c17 k17
  have b17 := F17.binds (ps := ["self"]) fun _ _ _ _ _ _ us hl => match us, hl with | [_], _ => rfl
  have F18 := fun_mk (st := s_law_is_prime) l18 c18 k18
  have b18 := F18.binds (ps := ["_law_n"]) fun _ _ _ _ _ _ us hl => match us, hl with | [_], _ => rfl
  have F19 := fun_mk (st := s_law_next) l19 c19 k19
  have b19 := F19.binds (ps := ["_law_left_here"]) fun _ _ _ _ _ _ us hl => match us, hl with | [_], _ => rfl
  have F20 := fun_mk (st := s_Quiz_heard) l20 c20 k20
  have b20 := F20.binds (ps := ["self"]) fun _ _ _ _ _ _ us hl => match us, hl with | [_], _ => rfl
  have F21 := fun_mk (st := s_law_cell) l21 c21 k21
  have b21 := F21.binds (ps := ["_law_script", "_law_k"]) fun _ _ _ _ _ _ us hl => match us, hl with | [_, _], _ => rfl
  have F22 := fun_mk (st := s_law_draws) l22 c22 k22
  have b22 := F22.binds (ps := ["_law_cell_here", "_law_sizes"]) fun _ _ _ _ _ _ us hl => match us, hl with | [_, _], _ => rfl
  have F23 := fun_mk (st := s_law) l23 c23 k23
  have G0 := fun_mk (st := s_BadModulus_init) el0 ec0 ej0
  have bG0 := G0.binds (ps := ["self", "modulus"]) fun _ _ _ _ _ _ us hl => match us, hl with | [_, _], _ => rfl
  have G1 := fun_mk (st := s_Contradiction_init) el1 ec1 ej1
  have bG1 := G1.binds (ps := ["self", "clash"]) fun _ _ _ _ _ _ us hl => match us, hl with | [_, _], _ => rfl
  have G2 := fun_mk (st := s_NothingToUndo_init) el2 ec2 ej2
  have bG2 := G2.binds (ps := ["self"]) fun _ _ _ _ _ _ us hl => match us, hl with | [_], _ => rfl
  have T : Txt K mg ⟨C0, C1, C2, CO_Quiz, CB, tk_GREATEST_ASKED⟩ := {
    b_abs := PySem.W.mg_none_of X G z_abs
    b_all := PySem.W.mg_none_of X G z_all
    b_int := PySem.W.mg_none_of X G z_int
    b_len := PySem.W.mg_none_of X G z_len
    b_list := PySem.W.mg_none_of X G z_list
    b_max := PySem.W.mg_none_of X G z_max
    b_range := PySem.W.mg_none_of X G z_range
    d_checked_modulus := ⟨_, _, F0, PySem.W.mg_of X G a0, b0⟩
    d_factor_of := ⟨_, _, F1, PySem.W.mg_of X G a1, b1⟩
    d_sign := ⟨_, _, F2, PySem.W.mg_of X G a2, b2⟩
    d_fitting := ⟨_, _, F3, PySem.W.mg_of X G a3, b3⟩
    d_clash_of := ⟨_, _, F4, PySem.W.mg_of X G a4, b4⟩
    d_law_sign := ⟨_, _, F5, PySem.W.mg_of X G a5, b5⟩
    d_law_left := ⟨_, _, F6, PySem.W.mg_of X G a6, b6⟩
    d_law_clash := ⟨_, _, F7, PySem.W.mg_of X G a7, b7⟩
    d_is_prime := ⟨_, _, F8, PySem.W.mg_of X G a8, b8⟩
    d_primes := ⟨_, _, F9, PySem.W.mg_of X G a9, b9⟩
    d_Quiz_init := ⟨⟨_, _, F10, ⟨omk_Quiz, a10, i10, okc_Quiz⟩, b10⟩, PySem.W.mg_of X G og_Quiz⟩
    d_Quiz_left := ⟨_, _, F11, ⟨a11, i11, k11⟩, b11⟩
    d_Quiz_hear := ⟨_, _, F12, ⟨a12, i12, k12⟩, b12⟩
    d_law_hear := ⟨_, _, F13, PySem.W.mg_of X G a13, b13⟩
    d_Quiz_undo := ⟨_, _, F14, ⟨a14, i14, k14⟩, b14⟩
    d_law_undo := ⟨_, _, F15, PySem.W.mg_of X G a15, b15⟩
    d_row_of_questions := ⟨_, _, F16, PySem.W.mg_of X G a16, b16⟩
    d_Quiz_next_number := ⟨_, _, F17, ⟨a17, i17, k17⟩, b17⟩
    d_law_is_prime := ⟨_, _, F18, PySem.W.mg_of X G a18, b18⟩
    d_law_next := ⟨_, _, F19, PySem.W.mg_of X G a19, b19⟩
    d_Quiz_heard := ⟨_, _, F20, ⟨a20, i20, k20⟩, b20⟩
    d_law_cell := ⟨_, _, F21, PySem.W.mg_of X G a21, b21⟩
    d_law_draws := ⟨_, _, F22, PySem.W.mg_of X G a22, b22⟩
    g_Quiz := PySem.W.mg_of X G og_Quiz
    cl_Quiz := ⟨opg_Quiz, ohd_Quiz, opo_Quiz, osa_Quiz⟩
    ty_Quiz := fun H a dx fs h => .base (.ins h ⟨opg_Quiz, ohd_Quiz, opo_Quiz, osa_Quiz⟩ oha_Quiz ohn_Quiz otk_Quiz omr_Quiz)
    ki_Quiz := kit_self
    kl_Quiz := kit_list oci_Quiz oct_Quiz
    nl_Quiz := notFirst_list
    nf_Quiz_answers := onf_Quiz_answers
    nf_Quiz_clocks := onf_Quiz_clocks
    k_GREATEST_ASKED := PySem.W.mg_of X G q_GREATEST_ASKED
    base := ⟨PySem.W.mg_of X G gB, rB, aB, iB⟩
    r_BadModulus := ⟨PySem.W.mg_of X G eg0, ⟨⟨_, _, _, _, _, _, _, _, _, _, _, _, _, _, _, ex0, eb0⟩, es0, ee0, et0, ek0⟩, ⟨ega0, egg0, ee0, eh0⟩, exm_self ee0 ei0 et0 eu0, ⟨_, _, ef0, ey0, G0, bG0⟩⟩
    no_BadModulus_modulus := en0_modulus
    r_Contradiction := ⟨PySem.W.mg_of X G eg1, ⟨⟨_, _, _, _, _, _, _, _, _, _, _, _, _, _, _, ex1, eb1⟩, es1, ee1, et1, ek1⟩, ⟨ega1, egg1, ee1, eh1⟩, exm_self ee1 ei1 et1 eu1, ⟨_, _, ef1, ey1, G1, bG1⟩⟩
    no_Contradiction_clash := en1_clash
    r_NothingToUndo := ⟨PySem.W.mg_of X G eg2, ⟨⟨_, _, _, _, _, _, _, _, _, _, _, _, _, _, _, ex2, eb2⟩, es2, ee2, et2, ek2⟩, ⟨ega2, egg2, ee2, eh2⟩, exm_self ee2 ei2 et2 eu2, ⟨_, _, ef2, ey2, G2, bG2⟩⟩
    triv := trivial }
  exact ⟨_, fun s v => .of_eq rfl, fun base _ _ => ok_law (base := base) F23 T⟩
theorem walk {l : PySem.W.OpenLaw} {q : Program} {loose : List Str} {XP : (Str → Option Value) → Heap → Prop} {YP : World → Heap → Prop} {d : DefRec} {K : Params → PySem.W.Frag} (hn : l.most = some 63) (hdf : d.params.defaults = [])
    (hY : ∀ (w : World) (h : Heap), YP w h → (K w.params).In h)
    (F : ∀ (w : World) (mg : Str → Option Value) (fa : Addr) (h : Heap), (K w.params).In h → h.Ns mainGlobals mg → mg d.name = some (.ref fa) →
      ∃ fd : FuncData, (∀ (s : Shared) (u : Value), BindsTo s fd ⟨[u], []⟩ [("_law_script", u)]) ∧ ∀ base : Heap, (K w.params).In base → base.Ns mainGlobals mg → FnOk l.prog w (K w.params) mg base (L2.CX l.prog w) 9 fa fd ["_law_script"] (spLaw (K w.params))) :
    PySem.W.WalkO q loose XP YP l.row.toRowW d [] (fun f vs => PySem.call f vs) :=
  L2.walk_of (n := 63) (k := 9) (x := "_law_script") (CX := fun w => L2.CX l.prog w) (sp := fun w => spLaw (K w.params)) hn (by decide) hdf ⟨rfl, by decide, by decide⟩ hY F (fun _ _ a ns hl hO hS => ⟨a, ns, rfl, hS, hl, NoT.only hO, fun _ => rfl⟩) fun _ _ _ _ _ h => by
    obtain ⟨_, _, _, _, _, _, _, _, _, _, _, _, z⟩ := h
    exact z.elim
end My
open PySem PySem.W PyProof.Rows
set_option maxRecDepth 100000 in
set_option maxHeartbeats 0 in
theorem PySem.Challenge.cw_everyprime_k86_quizzes_holds : PySem.Challenge.rw_everyprime_k86_quizzes.Holds := by
  w_on; o_law; k_head; (case hw => w_witness2)
  k_fill
  refine My.walk (l := PySem.Challenge.rw_everyprime_k86_quizzes) rfl rfl (fun w h Y => PySem.W.kIn_of Y) ?F
  case F =>
    intro w mg fa h KX G hmg
    refine' My.all_mk KX G hmg ?z_abs ?z_all ?z_int ?z_len ?z_list ?z_max ?z_range ?q_GREATEST_ASKED ?og_Quiz ?opg_Quiz ?ohd_Quiz ?opo_Quiz ?osa_Quiz ?omk_Quiz ?okc_Quiz ?oha_Quiz ?ohn_Quiz ?otk_Quiz ?omr_Quiz ?oci_Quiz ?oct_Quiz ?onf_Quiz_answers ?onf_Quiz_clocks ?a0 ?l0 ?c0 ?k0 ?a1 ?l1 ?c1 ?k1 ?a2 ?l2 ?c2 ?k2 ?a3 ?l3 ?c3 ?k3 ?a4 ?l4 ?c4 ?k4 ?a5 ?l5 ?c5 ?k5 ?a6 ?l6 ?c6 ?k6 ?a7 ?l7 ?c7 ?k7 ?a8 ?l8 ?c8 ?k8 ?a9 ?l9 ?c9 ?k9 ?a10 ?i10 ?l10 ?c10 ?k10 ?a11 ?i11 ?l11 ?c11 ?k11 ?a12 ?i12 ?l12 ?c12 ?k12 ?a13 ?l13 ?c13 ?k13 ?a14 ?i14 ?l14 ?c14 ?k14 ?a15 ?l15 ?c15 ?k15 ?a16 ?l16 ?c16 ?k16 ?a17 ?i17 ?l17 ?c17 ?k17 ?a18 ?l18 ?c18 ?k18 ?a19 ?l19 ?c19 ?k19 ?a20 ?i20 ?l20 ?c20 ?k20 ?a21 ?l21 ?c21 ?k21 ?a22 ?l22 ?c22 ?k22 ?a23 ?l23 ?c23 ?k23 ?gB ?rB ?aB ?iB ?eg0 ?ex0 ?eb0 ?es0 ?ee0 ?et0 ?ek0 ?ega0 ?egg0 ?eh0 ?ei0 ?eu0 ?ef0 ?ey0 ?el0 ?ec0 ?ej0 ?en0_modulus ?eg1 ?ex1 ?eb1 ?es1 ?ee1 ?et1 ?ek1 ?ega1 ?egg1 ?eh1 ?ei1 ?eu1 ?ef1 ?ey1 ?el1 ?ec1 ?ej1 ?en1_clash ?eg2 ?ex2 ?eb2 ?es2 ?ee2 ?et2 ?ek2 ?ega2 ?egg2 ?eh2 ?ei2 ?eu2 ?ef2 ?ey2 ?el2 ?ec2 ?ej2
    (case z_abs => k_is)
    (case z_all => k_is)
    (case z_int => k_is)
    (case z_len => k_is)
    (case z_list => k_is)
    (case z_max => k_is)
    (case z_range => k_is)
    (case q_GREATEST_ASKED => k_is)
    (case og_Quiz => k_is)
    (case opg_Quiz => k_is)
    (case ohd_Quiz => k_is)
    (case opo_Quiz => k_is)
    (case osa_Quiz => k_is)
    (case omk_Quiz => k_is)
    (case okc_Quiz => k_is)
    (case oha_Quiz => k_is)
    (case ohn_Quiz => k_is)
    (case otk_Quiz => k_is)
    (case omr_Quiz => k_is)
    (case oci_Quiz => k_is)
    (case oct_Quiz => k_is)
    (case onf_Quiz_answers => k_is)
    (case onf_Quiz_clocks => k_is)
    (case a0 => k_is)
    (case l0 => k_is)
    (case c0 => k_is)
    (case k0 => k_is)
    (case a1 => k_is)
    (case l1 => k_is)
    (case c1 => k_is)
    (case k1 => k_is)
    (case a2 => k_is)
    (case l2 => k_is)
    (case c2 => k_is)
    (case k2 => k_is)
    (case a3 => k_is)
    (case l3 => k_is)
    (case c3 => k_is)
    (case k3 => k_is)
    (case a4 => k_is)
    (case l4 => k_is)
    (case c4 => k_is)
    (case k4 => k_is)
    (case a5 => k_is)
    (case l5 => k_is)
    (case c5 => k_is)
    (case k5 => k_is)
    (case a6 => k_is)
    (case l6 => k_is)
    (case c6 => k_is)
    (case k6 => k_is)
    (case a7 => k_is)
    (case l7 => k_is)
    (case c7 => k_is)
    (case k7 => k_is)
    (case a8 => k_is)
    (case l8 => k_is)
    (case c8 => k_is)
    (case k8 => k_is)
    (case a9 => k_is)
    (case l9 => k_is)
    (case c9 => k_is)
    (case k9 => k_is)
    (case a10 => k_is)
    (case i10 => k_is)
    (case l10 => k_is)
    (case c10 => k_is)
    (case k10 => k_is)
    (case a11 => k_is)
    (case i11 => k_is)
    (case l11 => k_is)
    (case c11 => k_is)
    (case k11 => k_is)
    (case a12 => k_is)
    (case i12 => k_is)
    (case l12 => k_is)
    (case c12 => k_is)
    (case k12 => k_is)
    (case a13 => k_is)
    (case l13 => k_is)
    (case c13 => k_is)
    (case k13 => k_is)
    (case a14 => k_is)
    (case i14 => k_is)
    (case l14 => k_is)
    (case c14 => k_is)
    (case k14 => k_is)
    (case a15 => k_is)
    (case l15 => k_is)
    (case c15 => k_is)
    (case k15 => k_is)
    (case a16 => k_is)
    (case l16 => k_is)
    (case c16 => k_is)
    (case k16 => k_is)
    (case a17 => k_is)
    (case i17 => k_is)
    (case l17 => k_is)
    (case c17 => k_is)
    (case k17 => k_is)
    (case a18 => k_is)
    (case l18 => k_is)
    (case c18 => k_is)
    (case k18 => k_is)
    (case a19 => k_is)
    (case l19 => k_is)
    (case c19 => k_is)
    (case k19 => k_is)
    (case a20 => k_is)
    (case i20 => k_is)
    (case l20 => k_is)
    (case c20 => k_is)
    (case k20 => k_is)
    (case a21 => k_is)
    (case l21 => k_is)
    (case c21 => k_is)
    (case k21 => k_is)
    (case a22 => k_is)
    (case l22 => k_is)
    (case c22 => k_is)
    (case k22 => k_is)
    (case a23 => k_is)
    (case l23 => k_is)
    (case c23 => k_is)
    (case k23 => k_is)
    (case gB => k_is)
    (case rB => k_is)
    (case aB => k_is)
    (case iB => k_is)
    (case eg0 => k_is)
    (case ex0 => k_is)
    (case eb0 => decide +kernel)
    (case es0 => k_is)
    (case ee0 => k_is)
    (case et0 => k_is)
    (case ek0 => k_is)
    (case ega0 => k_is)
    (case egg0 => k_is)
    (case eh0 => k_is)
    (case ei0 => k_is)
    (case eu0 => first | rfl | k_is)
    (case ef0 => k_is)
    (case ey0 => k_is)
    (case el0 => k_is)
    (case ec0 => k_is)
    (case ej0 => k_is)
    (case en0_modulus => k_is)
    (case eg1 => k_is)
    (case ex1 => k_is)
    (case eb1 => decide +kernel)
    (case es1 => k_is)
    (case ee1 => k_is)
    (case et1 => k_is)
    (case ek1 => k_is)
    (case ega1 => k_is)
    (case egg1 => k_is)
    (case eh1 => k_is)
    (case ei1 => k_is)
    (case eu1 => first | rfl | k_is)
    (case ef1 => k_is)
    (case ey1 => k_is)
    (case el1 => k_is)
    (case ec1 => k_is)
    (case ej1 => k_is)
    (case en1_clash => k_is)
    (case eg2 => k_is)
    (case ex2 => k_is)
    (case eb2 => decide +kernel)
    (case es2 => k_is)
    (case ee2 => k_is)
    (case et2 => k_is)
    (case ek2 => k_is)
    (case ega2 => k_is)
    (case egg2 => k_is)
    (case eh2 => k_is)
    (case ei2 => k_is)
    (case eu2 => first | rfl | k_is)
    (case ef2 => k_is)
    (case ey2 => k_is)
    (case el2 => k_is)
    (case ec2 => k_is)
    (case ej2 => k_is)
#print axioms PySem.Challenge.cw_everyprime_k86_quizzes_holds
