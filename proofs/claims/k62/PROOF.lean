import PyProof.Rows.All
import Wide.All
import OpenK.AllK
import Wide.FinOn
import HandS.Base
import HandS.Call
import HandS.List
import HandS.Ends
import HandS.Words
import HandS.Wide
import HandS.WordsList
import HandS.Comp
import HandS.Exc
import HandS.ExcOwn
import HandS.TryOnly
import HandS.WordsExc
import HandS.ExcInit
import HandS.ExcField
import HandS.ClsMeth
import HandS.Codes
import HandS.NoneIn
import HandS.IsInst
import HandS.SortInts
import HandS.Style
import HandS.Star
import HandS.FStr
import HandS.Iter
import HandS.Dict
import HandS.Walk
import HandS.Strs
import HandS.SetBool
import HandS.SetIn
import HandS.TryMany
import HandS.More
import HandS.DictComp
import HandS.Deep
import KE.KOpsOwn
import HandS.Small
import HandS.TupAny
import PyProof.EqAt
import PyProof.MeetsIn
import PyProof.NeKinds
import HandS.Zip
import KE.IntTextLaws
import PyProof.StrLawsChain
import HandS.RaiseMore
import PySem.Challenge.RW_everyprime_k62_texts_that_are_no_sayings
set_option Elab.async false
set_option linter.all false
set_option maxRecDepth 100000
set_option maxHeartbeats 4000000
namespace L2
open PySem PySem.Spec PyProof.Rows
/-- one step of a reading, found by its head -/
class Stp (G : Prop) (N : outParam Prop) : Prop where
  mp : N → G
/-! ### forgetting what was made on the way -/
/-- no dict with tuple keys is tracked -/
def noT : HO -> Bool
  | .dT _ => false
  | .frz _ u => noT u
  | _ => true
def NoT (H : Hp) : Prop := ∀ a o, H a = some o → noT o = true
theorem NoT.upd {H : Hp} {p : Addr} {o : HO} (n : NoT H) (h : noT o = true) : NoT (upd H p o) := fun a u e => by
  by_cases hb : a = p
  · subst hb
    rw [upd_same] at e
    cases e
    exact h
  · rw [upd_ne hb] at e
    exact n a u e
theorem obj_back {P : Program} {w : World} {H H' : Hp} {h h' : Heap} {a : Addr} : ∀ {o : HO}, noT o = true → ObjOk P w H' h' a o → ObjOk P w H h a o → ObjOk P w H h' a o := by
  intro o
  induction o with
  | dT kvs => intro n; cases n
  | frz ob u ih =>
    intro n x y
    exact ⟨x.1, ih n x.2 y.2⟩
  | ins C dx fs =>
    intro n x y
    exact ⟨y.1, x.2⟩
  | lst xs => intro n x y; exact x
  | tup xs => intro n x y; exact x
  | dK kvs => intro n x y; exact x
  | set S m => intro n x y; exact x
  | own z => intro n x y; exact x
  | xd fs => intro n x y; exact x
  | rng lo hi => intro n x y; exact x
  | tbl ps => intro n x y; exact x
  | met f z => intro n x y; exact x
  | ext phi => intro n x y; exact x
theorem hok_back {P : Program} {w : World} {H H' : Hp} {h h' : Heap} (n : NoT H) (x : HOk P w H' h') (y : HOk P w H h) (e : Same H H') : HOk P w H h' := fun a o q =>
  obj_back (n a o q) (x a o (e a o q)) (y a o q)
theorem Inv.forget {X : Cx} {pins pins' : List (Addr × Obj)} {σ σ' : St} {H H' : Hp} {s s' : Shared} (I : Inv X pins σ H s) (J : Inv X pins' σ' H' s') (e : Same H H') (n : NoT H) : Inv X pins' σ' H s' :=
  ⟨J.ok, J.os, J.bare, ⟨J.base.keep, J.base.slot, I.base.free, J.base.there, I.base.tups, I.base.frzs, I.base.tbls⟩, J.loc, J.cell, I.free, I.freeC,
    fun p hp => let ⟨a, b, c⟩ := J.pin p hp; ⟨a, e.free b, c⟩, hok_back n J.hok I.hok e, J.len⟩
/-- an expression whose making leaves things behind that nobody asks of -/
def tPure (t : TE) : TE := fun σ H Q => NoT H ∧ t σ H fun v H' => Same H H' ∧ Q v H
theorem pe_pure {X : Cx} {e : Expr} {t : TE} (h : PE X e t) : PE X e (tPure t) :=
  ⟨fun pins s σ H Q I ⟨n, q⟩ => thn (h.run pins s σ H _ I q) fun u s' ⟨v, H', J, r, sm, q'⟩ => ⟨v, H, I.forget J sm n, r, q'⟩⟩
def tPureT (t : TT) : TT := fun σ H Q => NoT H ∧ t σ H fun b H' => Same H H' ∧ Q b H
theorem pt_pure {X : Cx} {e : Expr} {t : TT} (h : PT X e t) : PT X e (tPureT t) :=
  ⟨fun pins s σ H Q I ⟨n, q⟩ => thn (h.run pins s σ H _ I q) fun u s' ⟨H', J, sm, q'⟩ => ⟨H, I.forget J sm n, q'⟩⟩
theorem fn_forget {P : Program} {w : World} {K : PySem.W.Frag} {mg : Str → Option Value} {base : Heap} {CX : CXT} {k : Nat} {f : Addr} {fd : FuncData} {ps : List Str} {sp : Sp} (F : FnOk P w K mg base CX k f fd ps sp) :
    FnOk P w K mg base CX k f fd ps (fun vs H Q E => NoT H ∧ sp vs H (fun v H' => Same H H' ∧ Q v H) E) := by
  refine ⟨fun vs H Q E q => F.len vs H _ E q.2, fun A outer s H args us vs Q E hr he hb hv hs => ?_⟩
  refine codeAny_mono (F.run A outer s H args us vs _ E hr he hb hv hs.2) fun r s' q => ?_
  cases r with
  | error er => exact q
  | ok fl =>
    cases fl with
    | ret u =>
      obtain ⟨v, H2, os2, bare2, un2, hok2, rv, sm, q2⟩ := q
      exact ⟨v, H, os2, bare2, ⟨un2.keep, un2.slot, fun _ _ _ n _ => n, un2.there, fun _ _ q => q, fun _ _ _ q => q, fun _ ps q => ⟨#[], by rw [q]; simp⟩⟩, hok_back hs.1 hok2 he.hok sm, rv, q2⟩
    | next => exact q
    | brk => exact q
    | cont => exact q
end L2

namespace L2
open PySem PySem.Spec PyProof.Rows
/-! ### operators in the forms that are used here -/
def CMulB (i j : Int) : Prop := CMul i j ∨ CMulW i j
theorem CMulB.ok {i j : Int} (h : CMulB i j) : IntMulOk i j := by
  rcases h with h | h
  · exact h.ok
  · exact h.ok
def CDivB (_ j : Int) : Prop := 0 < j ∧ j < 2 ^ 250
section
variable {X : Cx}
theorem op_mulB : OpR X (binaryOp .Mult) (rI CMulB fun i j => .int (i * j)) := opI fun _ _ _ _ _ _ _ hc q => mul_int q hc.ok
theorem op_fdivB : OpR X (binaryOp .FloorDiv) (rI CDivB fun i j => .int (i / j)) := fun pins s σ H x y v u Q I rx ry ⟨i, j, e1, e2, hc, q⟩ =>
  op_fdivW pins s σ H x y v u Q I rx ry ⟨i, j, e1, e2, wide_div (b := 250) hc.1 (by
    have h1 := hc.1
    have h2 := hc.2
    have h3 : j = (j.natAbs : Int) := by omega
    have h4 : (j.natAbs : Int) < ((2 ^ 250 : Nat) : Int) := by
      rw [← h3, Int.natCast_pow]
      exact h2
    exact Int.ofNat_lt.mp h4) (by decide) (by decide), q⟩
end
/-! ### the readings, one lemma each -/
section
variable {σ : St} {H : Hp} {Q : VK} {R : Bool → Hp → Prop} {RA : List V → Hp → Prop} {K : PySem.W.Frag} {v x y z : V} {i j : Int} {ta tb tc te : TE} {tt uu : TT} {t t1 t2 u : TS} {tr : TA} {r : R2}
variable {nx : St → Hp → Prop} {rt : VK} {bk ct : St → Hp → Prop}
theorem rd_var {n : Nat} (h : σ[n]? = some (some v)) (q : Q v H) : tVar n σ H Q := ⟨v, h, q⟩
theorem rd_c (q : Q v H) : tC v σ H Q := q
instance st_c  : Stp (tC v σ H Q) (Q v H) := ⟨fun h => rd_c h⟩
theorem rd_op (h : ta σ H fun x H1 => tb σ H1 fun y H2 => r x y H2 Q) : tOp r ta tb σ H Q := h
instance st_op  : Stp (tOp r ta tb σ H Q) (ta σ H fun x H1 => tb σ H1 fun y H2 => r x y H2 Q) := ⟨fun h => rd_op h⟩
theorem rd_un {ru : V → Hp → VK → Prop} (h : ta σ H fun x H1 => ru x H1 Q) : tUn ru ta σ H Q := h
instance st_un {ru : V → Hp → VK → Prop} : Stp (tUn ru ta σ H Q) (ta σ H fun x H1 => ru x H1 Q) := ⟨fun h => rd_un h⟩
theorem rd_I {C : Int → Int → Prop} {g : Int → Int → V} (hc : C i j) (q : Q (g i j) H) : rI C g (.int i) (.int j) H Q := ⟨i, j, rfl, rfl, hc, q⟩
theorem rd_I0 {g : Int → Int → V} (q : Q (g i j) H) : rI0 g (.int i) (.int j) H Q := ⟨i, j, rfl, rfl, q⟩
instance st_I0 {g : Int → Int → V} : Stp (rI0 g (.int i) (.int j) H Q) (Q (g i j) H) := ⟨fun h => rd_I0 h⟩
theorem rd_U {g : Int → V} (q : Q (g i) H) : rU g (.int i) H Q := ⟨i, rfl, q⟩
instance st_U {g : Int → V} : Stp (rU g (.int i) H Q) (Q (g i) H) := ⟨fun h => rd_U h⟩
theorem rd_eqI (q : Q (.bl (decide (i = j))) H) : rEq (.int i) (.int j) H Q := ⟨rfl, by
  have e : decide (V.int i = V.int j) = decide (i = j) := decide_eq_decide.mpr ⟨fun z => V.int.inj z, fun z => by rw [z]⟩
  rw [e]
  exact q⟩
instance st_eqI  : Stp (rEq (.int i) (.int j) H Q) (Q (.bl (decide (i = j))) H) := ⟨fun h => rd_eqI h⟩
theorem rd_neI (q : Q (.bl (!decide (i = j))) H) : rNe (.int i) (.int j) H Q := ⟨rfl, by
  have e : decide (V.int i = V.int j) = decide (i = j) := decide_eq_decide.mpr ⟨fun z => V.int.inj z, fun z => by rw [z]⟩
  rw [e]
  exact q⟩
instance st_neI  : Stp (rNe (.int i) (.int j) H Q) (Q (.bl (!decide (i = j))) H) := ⟨fun h => rd_neI h⟩
theorem rd_eqS {i j : Str} (q : Q (.bl (decide (i = j))) H) : rEq (.str i) (.str j) H Q := ⟨rfl, by
  have e : decide (V.str i = V.str j) = decide (i = j) := decide_eq_decide.mpr ⟨fun z => V.str.inj z, fun z => by rw [z]⟩
  rw [e]
  exact q⟩
instance st_eqS {i j : Str} : Stp (rEq (.str i) (.str j) H Q) (Q (.bl (decide (i = j))) H) := ⟨fun h => rd_eqS h⟩
theorem rd_neS {i j : Str} (q : Q (.bl (!decide (i = j))) H) : rNe (.str i) (.str j) H Q := ⟨rfl, by
  have e : decide (V.str i = V.str j) = decide (i = j) := decide_eq_decide.mpr ⟨fun z => V.str.inj z, fun z => by rw [z]⟩
  rw [e]
  exact q⟩
instance st_neS {i j : Str} : Stp (rNe (.str i) (.str j) H Q) (Q (.bl (!decide (i = j))) H) := ⟨fun h => rd_neS h⟩
theorem rd_eqB {i j : Bool} (q : Q (.bl (decide (i = j))) H) : rEq (.bl i) (.bl j) H Q := ⟨rfl, by
  have e : decide (V.bl i = V.bl j) = decide (i = j) := decide_eq_decide.mpr ⟨fun z => V.bl.inj z, fun z => by rw [z]⟩
  rw [e]
  exact q⟩
instance st_eqB {i j : Bool} : Stp (rEq (.bl i) (.bl j) H Q) (Q (.bl (decide (i = j))) H) := ⟨fun h => rd_eqB h⟩
theorem rd_neB {i j : Bool} (q : Q (.bl (!decide (i = j))) H) : rNe (.bl i) (.bl j) H Q := ⟨rfl, by
  have e : decide (V.bl i = V.bl j) = decide (i = j) := decide_eq_decide.mpr ⟨fun z => V.bl.inj z, fun z => by rw [z]⟩
  rw [e]
  exact q⟩
instance st_neB {i j : Bool} : Stp (rNe (.bl i) (.bl j) H Q) (Q (.bl (!decide (i = j))) H) := ⟨fun h => rd_neB h⟩
theorem rd_eqV (h : scal x y = true) (q : Q (.bl (decide (x = y))) H) : rEq x y H Q := ⟨h, q⟩
theorem rd_test (h : te σ H fun x H' => ∃ k, x = .bl k ∧ R k H') : tTest te σ H R := h
instance st_test  : Stp (tTest te σ H R) (te σ H fun x H' => ∃ k, x = .bl k ∧ R k H') := ⟨fun h => rd_test h⟩
theorem rd_B (h : te σ H fun x H' => ∃ k, x = .bl k ∧ R k H') : tB te σ H R := h
instance st_B  : Stp (tB te σ H R) (te σ H fun x H' => ∃ k, x = .bl k ∧ R k H') := ⟨fun h => rd_B h⟩
theorem rd_k {b : Bool} {P : Bool → Prop} (q : P b) : ∃ k, V.bl b = .bl k ∧ P k := ⟨b, rfl, q⟩
instance st_k {b : Bool} {P : Bool → Prop} : Stp (∃ k, V.bl b = .bl k ∧ P k) (P b) := ⟨fun h => rd_k h⟩
theorem rd_and (h : tt σ H fun c H1 => if c = true then uu σ H1 R else R false H1) : tAnd tt uu σ H R := h
instance st_and  : Stp (tAnd tt uu σ H R) (tt σ H fun c H1 => if c = true then uu σ H1 R else R false H1) := ⟨fun h => rd_and h⟩
theorem rd_or (h : tt σ H fun c H1 => if c = true then R true H1 else uu σ H1 R) : tOr tt uu σ H R := h
instance st_or  : Stp (tOr tt uu σ H R) (tt σ H fun c H1 => if c = true then R true H1 else uu σ H1 R) := ⟨fun h => rd_or h⟩
theorem rd_not (h : tt σ H fun c H1 => R (!c) H1) : tNot tt σ H R := h
instance st_not  : Stp (tNot tt σ H R) (tt σ H fun c H1 => R (!c) H1) := ⟨fun h => rd_not h⟩
theorem rd_andV (h : ta σ H fun x H1 => ∃ c, x = .bl c ∧ if c = true then tb σ H1 Q else Q (.bl false) H1) : tAndV ta tb σ H Q := h
instance st_andV  : Stp (tAndV ta tb σ H Q) (ta σ H fun x H1 => ∃ c, x = .bl c ∧ if c = true then tb σ H1 Q else Q (.bl false) H1) := ⟨fun h => rd_andV h⟩
theorem rd_orV (h : ta σ H fun x H1 => ∃ c, x = .bl c ∧ if c = true then Q (.bl true) H1 else tb σ H1 Q) : tOrV ta tb σ H Q := h
instance st_orV  : Stp (tOrV ta tb σ H Q) (ta σ H fun x H1 => ∃ c, x = .bl c ∧ if c = true then Q (.bl true) H1 else tb σ H1 Q) := ⟨fun h => rd_orV h⟩
theorem rd_notV (h : ta σ H fun x H1 => ∃ c, x = .bl c ∧ Q (.bl (!c)) H1) : tNotV ta σ H Q := h
instance st_notV  : Stp (tNotV ta σ H Q) (ta σ H fun x H1 => ∃ c, x = .bl c ∧ Q (.bl (!c)) H1) := ⟨fun h => rd_notV h⟩
theorem rd_ifx (h : tt σ H fun c H1 => if c = true then ta σ H1 Q else tb σ H1 Q) : tIf tt ta tb σ H Q := h
instance st_ifx  : Stp (tIf tt ta tb σ H Q) (tt σ H fun c H1 => if c = true then ta σ H1 Q else tb σ H1 Q) := ⟨fun h => rd_ifx h⟩
theorem rd_chain {r' : R2} (h : ta σ H fun x H1 => tb σ H1 fun y H2 => r x y H2 fun z H3 => ∃ k, z = .bl k ∧ (if k = true then tc σ H3 fun w' H4 => r' y w' H4 Q else Q (.bl false) H3)) : tChain r r' ta tb tc σ H Q := h
instance st_chain {r' : R2} : Stp (tChain r r' ta tb tc σ H Q) (ta σ H fun x H1 => tb σ H1 fun y H2 => r x y H2 fun z H3 => ∃ k, z = .bl k ∧ (if k = true then tc σ H3 fun w' H4 => r' y w' H4 Q else Q (.bl false) H3)) := ⟨fun h => rd_chain h⟩
theorem rd_nil (q : RA [] H) : tNil σ H RA := q
instance st_nil  : Stp (tNil σ H RA) (RA [] H) := ⟨fun h => rd_nil h⟩
theorem rd_cons (h : ta σ H fun x H1 => tr σ H1 fun xs H2 => RA (x :: xs) H2) : tCons ta tr σ H RA := h
instance st_cons  : Stp (tCons ta tr σ H RA) (ta σ H fun x H1 => tr σ H1 fun xs H2 => RA (x :: xs) H2) := ⟨fun h => rd_cons h⟩
theorem rd_tup (h : tr σ H fun xs H1 => xs.length ≤ sizeLine ∧ ∀ p, H1 p = none → Q (.ref p) (upd H1 p (.tup xs))) : tTup tr σ H Q := h
instance st_tup  : Stp (tTup tr σ H Q) (tr σ H fun xs H1 => xs.length ≤ sizeLine ∧ ∀ p, H1 p = none → Q (.ref p) (upd H1 p (.tup xs))) := ⟨fun h => rd_tup h⟩
theorem rd_lst (h : tr σ H fun xs H1 => xs.length ≤ sizeLine ∧ ∀ p, H1 p = none → Q (.ref p) (upd H1 p (.lst xs))) : tLst tr σ H Q := h
instance st_lst  : Stp (tLst tr σ H Q) (tr σ H fun xs H1 => xs.length ≤ sizeLine ∧ ∀ p, H1 p = none → Q (.ref p) (upd H1 p (.lst xs))) := ⟨fun h => rd_lst h⟩
theorem rd_pure (n : NoT H) (h : te σ H fun v H' => Same H H' ∧ Q v H) : tPure te σ H Q := ⟨n, h⟩
theorem rd_pureT (n : NoT H) (h : tt σ H fun v H' => Same H H' ∧ R v H) : tPureT tt σ H R := ⟨n, h⟩
theorem rd_call {sp : Sp} {E : XK} (h : tr σ H fun vs H1 => sp vs H1 Q E) : tCall sp [] E tr σ H Q := by
  show tr σ H fun vs H1 => sp (vs ++ []) H1 Q E
  simp only [List.append_nil]
  exact h
instance st_call {sp : Sp} {E : XK} : Stp (tCall sp [] E tr σ H Q) (tr σ H fun vs H1 => sp vs H1 Q E) := ⟨fun h => rd_call h⟩
theorem rd_cb {rr : List V → Hp → VK → Prop} (h : tr σ H fun vs H1 => rr vs H1 Q) : tCB rr tr σ H Q := h
instance st_cb {rr : List V → Hp → VK → Prop} : Stp (tCB rr tr σ H Q) (tr σ H fun vs H1 => rr vs H1 Q) := ⟨fun h => rd_cb h⟩
/-! statements -/
theorem rd_seq (h : t ⟨u ⟨nx, rt, bk, ct⟩, rt, bk, ct⟩ σ H) : tSeq t u ⟨nx, rt, bk, ct⟩ σ H := h
instance st_seq  : Stp (tSeq t u ⟨nx, rt, bk, ct⟩ σ H) (t ⟨u ⟨nx, rt, bk, ct⟩, rt, bk, ct⟩ σ H) := ⟨fun h => rd_seq h⟩
theorem rd_next (q : nx σ H) : tNext ⟨nx, rt, bk, ct⟩ σ H := q
instance st_next  : Stp (tNext ⟨nx, rt, bk, ct⟩ σ H) (nx σ H) := ⟨fun h => rd_next h⟩
theorem rd_break (q : bk σ H) : tBreak ⟨nx, rt, bk, ct⟩ σ H := q
instance st_break  : Stp (tBreak ⟨nx, rt, bk, ct⟩ σ H) (bk σ H) := ⟨fun h => rd_break h⟩
theorem rd_cont (q : ct σ H) : tCont ⟨nx, rt, bk, ct⟩ σ H := q
instance st_cont  : Stp (tCont ⟨nx, rt, bk, ct⟩ σ H) (ct σ H) := ⟨fun h => rd_cont h⟩
theorem rd_ret (h : te σ H rt) : tRet te ⟨nx, rt, bk, ct⟩ σ H := h
instance st_ret  : Stp (tRet te ⟨nx, rt, bk, ct⟩ σ H) (te σ H rt) := ⟨fun h => rd_ret h⟩
theorem rd_retN (h : rt .non H) : tRetN ⟨nx, rt, bk, ct⟩ σ H := h
instance st_retN  : Stp (tRetN ⟨nx, rt, bk, ct⟩ σ H) (rt .non H) := ⟨fun h => rd_retN h⟩
theorem rd_drop (h : te σ H fun _ H1 => nx σ H1) : tDrop te ⟨nx, rt, bk, ct⟩ σ H := h
instance st_drop  : Stp (tDrop te ⟨nx, rt, bk, ct⟩ σ H) (te σ H fun _ H1 => nx σ H1) := ⟨fun h => rd_drop h⟩
theorem rd_asg {g : TG} (h : te σ H fun x H1 => g x σ H1 nx) : tAsg te g ⟨nx, rt, bk, ct⟩ σ H := h
instance st_asg {g : TG} : Stp (tAsg te g ⟨nx, rt, bk, ct⟩ σ H) (te σ H fun x H1 => g x σ H1 nx) := ⟨fun h => rd_asg h⟩
theorem rd_gname {n : Nat} {N : St → Hp → Prop} (q : N (σ.set n (some v)) H) : gName n v σ H N := q
instance st_gname {n : Nat} {N : St → Hp → Prop} : Stp (gName n v σ H N) (N (σ.set n (some v)) H) := ⟨fun h => rd_gname h⟩
theorem rd_ifS (h : tt σ H fun b H1 => if b = true then t1 ⟨nx, rt, bk, ct⟩ σ H1 else t2 ⟨nx, rt, bk, ct⟩ σ H1) : tIfS tt t1 t2 ⟨nx, rt, bk, ct⟩ σ H := h
instance st_ifS  : Stp (tIfS tt t1 t2 ⟨nx, rt, bk, ct⟩ σ H) (tt σ H fun b H1 => if b = true then t1 ⟨nx, rt, bk, ct⟩ σ H1 else t2 ⟨nx, rt, bk, ct⟩ σ H1) := ⟨fun h => rd_ifS h⟩
theorem rd_par {m n : Nat} (h : tr σ H fun vs H1 => ∃ v w, vs = [v, w] ∧ nx ((σ.set m (some v)).set n (some w)) H1) : tPar m n tr ⟨nx, rt, bk, ct⟩ σ H := h
instance st_par {m n : Nat} : Stp (tPar m n tr ⟨nx, rt, bk, ct⟩ σ H) (tr σ H fun vs H1 => ∃ v w, vs = [v, w] ∧ nx ((σ.set m (some v)).set n (some w)) H1) := ⟨fun h => rd_par h⟩
theorem rd_par2 {v w : V} {P : V → V → Prop} (q : P v w) : ∃ v' w', [v, w] = [v', w'] ∧ P v' w' := ⟨v, w, rfl, q⟩
instance st_par2 {v w : V} {P : V → V → Prop} : Stp (∃ v' w', [v, w] = [v', w'] ∧ P v' w') (P v w) := ⟨fun h => rd_par2 h⟩
theorem rd_aug {n : Nat} {f : Int → Int → Int} (h : σ[n]? = some (some (.int i))) (q : te σ H fun y H1 => ∃ j, y = .int j ∧ nx (σ.set n (some (.int (f i j)))) H1) (mono : ∀ Q Q' : VK, (∀ v H, Q v H → Q' v H) → te σ H Q → te σ H Q') :
    tAug n te (ipI f) ⟨nx, rt, bk, ct⟩ σ H := ⟨.int i, h, mono _ _ (fun y H1 ⟨j, e, q⟩ => ⟨i, j, rfl, e, q⟩) q⟩
theorem rd_augG {n : Nat} {x : V} {te : TE} {ti : TIp} (h : σ[n]? = some (some x)) (q : te σ H fun y H1 => ti x y H1 fun z H2 => nx (σ.set n (some z)) H2) : tAug n te ti ⟨nx, rt, bk, ct⟩ σ H := ⟨x, h, q⟩
theorem rd_ipI {f : Int → Int → Int} {i j : Int} {R : VK} (q : R (.int (f i j)) H) : ipI f (.int i) (.int j) H R := ⟨i, j, rfl, rfl, q⟩
instance st_ipI {f : Int → Int → Int} {i j : Int} {R : VK} : Stp (ipI f (.int i) (.int j) H R) (R (.int (f i j)) H) := ⟨fun h => rd_ipI h⟩
theorem rd_augC {n : Nat} {f : Int → Int → Int} (h : σ[n]? = some (some (.int i))) (q : nx (σ.set n (some (.int (f i j)))) H) : tAug n (tC (.int j)) (ipI f) ⟨nx, rt, bk, ct⟩ σ H := ⟨.int i, h, i, j, rfl, rfl, q⟩
/-! ifs -/
theorem rd_ite {p A B : Prop} [Decidable p] (h1 : p → A) (h2 : ¬ p → B) : if decide p = true then A else B := by
  by_cases h : p
  · rw [if_pos (decide_eq_true h)]
    exact h1 h
  · rw [if_neg (by rw [decide_eq_false h]; decide)]
    exact h2 h
theorem rd_iteN {p A B : Prop} [Decidable p] (h1 : ¬ p → A) (h2 : p → B) : if (!decide p) = true then A else B := by
  by_cases h : p
  · rw [if_neg (by rw [decide_eq_true h]; decide)]
    exact h2 h
  · rw [if_pos (by rw [decide_eq_false h]; decide)]
    exact h1 h
theorem rd_iteb {b : Bool} {A B : Prop} (h1 : b = true → A) (h2 : b = false → B) : if b = true then A else B := by
  cases b with
  | true => exact h1 rfl
  | false => exact h2 rfl
theorem rd_iteNT {A B : Prop} (h : B) : if (!true) = true then A else B := h
instance st_iteNT {A B : Prop} : Stp (if (!true) = true then A else B) (B) := ⟨fun h => rd_iteNT h⟩
theorem rd_iteNF {A B : Prop} (h : A) : if (!false) = true then A else B := h
instance st_iteNF {A B : Prop} : Stp (if (!false) = true then A else B) (A) := ⟨fun h => rd_iteNF h⟩
theorem rd_iteT {A B : Prop} (h : A) : if true = true then A else B := iteT h
instance st_iteT {A B : Prop} : Stp (if true = true then A else B) (A) := ⟨fun h => rd_iteT h⟩
theorem rd_iteF {A B : Prop} (h : B) : if false = true then A else B := iteF h
instance st_iteF {A B : Prop} : Stp (if false = true then A else B) (B) := ⟨fun h => rd_iteF h⟩
/-! while, for -/
def lBody (W : Nat → St → Hp → Prop) (m : Nat) (tb : TS) (nx : St → Hp → Prop) (rt : VK) : St → Hp → Prop := fun σ H =>
  ∃ N : St → Hp → Prop, (∀ σ' H', N σ' H' → ∃ m', m' < m ∧ W m' σ' H') ∧ tb ⟨N, rt, nx, N⟩ σ H
theorem rd_lBody {W : Nat → St → Hp → Prop} {m : Nat} (h : t ⟨fun σ' H' => ∃ m', m' < m ∧ W m' σ' H', rt, nx, fun σ' H' => ∃ m', m' < m ∧ W m' σ' H'⟩ σ H) : lBody W m t nx rt σ H := ⟨_, fun _ _ q => q, h⟩
instance st_lBody {W : Nat → St → Hp → Prop} {m : Nat} : Stp (lBody W m t nx rt σ H) (t ⟨fun σ' H' => ∃ m', m' < m ∧ W m' σ' H', rt, nx, fun σ' H' => ∃ m', m' < m ∧ W m' σ' H'⟩ σ H) := ⟨fun h => rd_lBody h⟩
theorem rd_while (W : Nat → St → Hp → Prop) (m0 : Nat) (h0 : W m0 σ H) (turn : ∀ m σ H, W m σ H → tt σ H fun b H1 => if b = true then lBody W m t nx rt σ H1 else nx σ H1) : tWhile tt t ⟨nx, rt, bk, ct⟩ σ H :=
  ⟨W, ⟨m0, h0⟩, fun m σ H w => turn m σ H w⟩
def fBody (J : It) (g : TG) (tb : TS) (nx : St → Hp → Prop) (rt : VK) : St → Hp → Prop := fun σ H => ∃ W : Nat → Nat → St → Hp → Prop, (∃ m, W 0 m σ H) ∧ ∀ i m σ H, W i m σ H →
  (J.stop i H ∧ nx σ H) ∨ (J.go i H ∧ ∃ N : St → Hp → Prop, (∀ σ' H', N σ' H' → ∃ m', m' < m ∧ W (i + 1) m' σ' H') ∧ ∀ x H', J.yld i H x H' → g x σ H' fun σ2 H2 => tb ⟨N, rt, nx, N⟩ σ2 H2)
theorem rd_for {wi : TI} {g : TG} (h : wi σ H fun J H1 => fBody J g t nx rt σ H1) : tFor wi g t ⟨nx, rt, bk, ct⟩ σ H := h
instance st_for {wi : TI} {g : TG} : Stp (tFor wi g t ⟨nx, rt, bk, ct⟩ σ H) (wi σ H fun J H1 => fBody J g t nx rt σ H1) := ⟨fun h => rd_for h⟩
theorem rd_rng1 {n : Int} {S : It → Hp → Prop} (h1 : -(2 ^ 62) ≤ n) (h2 : n < 2 ^ 62) (q : S (Itr 0 n.toNat) H) : ∃ j : Int, ([.int n] : List V) = [.int j] ∧ -(2 ^ 62) ≤ j ∧ j < 2 ^ 62 ∧ S (Itr 0 j.toNat) H := ⟨n, rfl, h1, h2, q⟩
theorem rd_iRng1 {S : It → Hp → Prop} (h : tr σ H fun vs H1 => ∃ j : Int, vs = [.int j] ∧ -(2 ^ 62) ≤ j ∧ j < 2 ^ 62 ∧ S (Itr 0 j.toNat) H1) : iRng1 tr σ H S := h
theorem rd_iRng2 {S : It → Hp → Prop} (h : tr σ H fun vs H1 => ∃ i j : Int, vs = [.int i, .int j] ∧ (-(2 ^ 62) ≤ i ∧ i < 2 ^ 62 ∧ -(2 ^ 62) ≤ j ∧ j < 2 ^ 62) ∧ S (Itr i (j - i).toNat) H1) : iRng2 tr σ H S := h
theorem rd_rng2 {m n : Int} {S : It → Hp → Prop} (h1 : -(2 ^ 62) ≤ m ∧ m < 2 ^ 62 ∧ -(2 ^ 62) ≤ n ∧ n < 2 ^ 62) (q : S (Itr m (n - m).toNat) H) : ∃ i j : Int, ([.int m, .int n] : List V) = [.int i, .int j] ∧ (-(2 ^ 62) ≤ i ∧ i < 2 ^ 62 ∧ -(2 ^ 62) ≤ j ∧ j < 2 ^ 62) ∧ S (Itr i (j - i).toNat) H := ⟨m, n, rfl, h1, q⟩
theorem rd_forR {lo : Int} {n : Nat} {g : TG} (Pv : Nat → St → Hp → Prop) (h0 : Pv 0 σ H)
    (hs : ∀ i σ H, i < n → Pv i σ H → g (.int (lo + i)) σ H fun σ2 H2 => t ⟨Pv (i + 1), rt, nx, Pv (i + 1)⟩ σ2 H2) (hd : ∀ σ H, Pv n σ H → nx σ H) : fBody (Itr lo n) g t nx rt σ H :=
  for_range (D := ⟨nx, rt, fun _ _ => False, fun _ _ => False⟩) Pv h0 hs hd
theorem rd_forL {a : Addr} {xs : List V} {g : TG} (Pv : Nat → St → Hp → Prop) (h0 : Pv 0 σ H) (hl : ∀ i σ H, i ≤ xs.length → Pv i σ H → SqL K H a xs)
    (hs : ∀ i x σ H, xs[i]? = some x → Pv i σ H → g x σ H fun σ2 H2 => t ⟨Pv (i + 1), rt, nx, Pv (i + 1)⟩ σ2 H2) (hd : ∀ σ H, Pv xs.length σ H → nx σ H) : fBody (Itl K a) g t nx rt σ H :=
  for_list (D := ⟨nx, rt, fun _ _ => False, fun _ _ => False⟩) Pv h0 hl hs hd
theorem rd_forT {a : Addr} {xs : List V} {g : TG} (Pv : Nat → St → Hp → Prop) (h0 : Pv 0 σ H) (hl : ∀ i σ H, i ≤ xs.length → Pv i σ H → SqT K H a xs)
    (hs : ∀ i x σ H, xs[i]? = some x → Pv i σ H → g x σ H fun σ2 H2 => t ⟨Pv (i + 1), rt, nx, Pv (i + 1)⟩ σ2 H2) (hd : ∀ σ H, Pv xs.length σ H → nx σ H) : fBody (Itt K a) g t nx rt σ H :=
  for_tup (D := ⟨nx, rt, fun _ _ => False, fun _ _ => False⟩) Pv h0 hl hs hd
theorem rd_iList {S : It → Hp → Prop} (h : ta σ H fun x H1 => ∃ a, x = .ref a ∧ (∃ xs, SqL K H1 a xs) ∧ S (Itl K a) H1) : iList K ta σ H S := h
theorem rd_iTup {S : It → Hp → Prop} (h : ta σ H fun x H1 => ∃ a, x = .ref a ∧ (∃ xs, SqT K H1 a xs) ∧ S (Itt K a) H1) : iTup K ta σ H S := h
theorem rd_ixL {p : Addr} {xs : List V} (h : SqL K H p xs) (ha : atI xs i = some v) (q : Q v H) : rIxL K (.ref p) (.int i) H Q := ⟨p, xs, i, v, rfl, rfl, h, ha, q⟩
theorem rd_ixT {p : Addr} {xs : List V} (h : SqT K H p xs) (ha : atI xs i = some v) (q : Q v H) : rIxT K (.ref p) (.int i) H Q := ⟨p, xs, i, v, rfl, rfl, h, ha, q⟩
theorem rd_inL {p : Addr} {xs : List V} (h : SqL K H p xs) (hx : flatV x = true) (hf : xs.all flatV = true) (q : Q (.bl (inV x xs)) H) : rIn K false x (.ref p) H Q := ⟨p, xs, rfl, .inl h, hx, hf, q⟩
theorem rd_inT {p : Addr} {xs : List V} (h : SqT K H p xs) (hx : flatV x = true) (hf : xs.all flatV = true) (q : Q (.bl (inV x xs)) H) : rIn K false x (.ref p) H Q := ⟨p, xs, rfl, .inr h, hx, hf, q⟩
theorem rd_ninT {p : Addr} {xs : List V} (h : SqT K H p xs) (hx : flatV x = true) (hf : xs.all flatV = true) (q : Q (.bl (!inV x xs)) H) : rIn K true x (.ref p) H Q := ⟨p, xs, rfl, .inr h, hx, hf, q⟩
end
theorem same_new {H : Hp} {p : Addr} {o : HO} (h : H p = none) : Same H (upd H p o) := fun b x e => by
  rw [upd_ne (ne_of_none e h)]
  exact e
end L2

namespace L2
open PySem PySem.Spec PyProof.Rows
section
variable {σ : St} {H : Hp} {Q : VK} {K : PySem.W.Frag} {v : V} {N : St → Hp → Prop} {S : Hp → Prop}
theorem rd_gsub {to ti : TE} {t : TSet} (h : to σ H fun o H1 => ti σ H1 fun i H2 => t o i v H2 fun H3 => N σ H3) : gSub to ti t v σ H N := h
instance st_gsub {to ti : TE} {t : TSet} : Stp (gSub to ti t v σ H N) (to σ H fun o H1 => ti σ H1 fun i H2 => t o i v H2 fun H3 => N σ H3) := ⟨fun h => rd_gsub h⟩
theorem rd_setL {p : Addr} {xs : List V} {k : Int} {j : Nat} (h : H p = some (.lst xs)) (hj : ixN xs.length k = some j) (q : S (upd H p (.lst (xs.set j v)))) : rSetL (.ref p) (.int k) v H S := ⟨p, xs, k, j, rfl, rfl, h, hj, q⟩
theorem rd_ixH {p : Addr} {xs : List V} {i : Int} (h : H p = some (.lst xs)) (ha : atI xs i = some v) (q : Q v H) : rIxL K (.ref p) (.int i) H Q := ⟨p, xs, i, v, rfl, rfl, SqL.of h, ha, q⟩
end
end L2

namespace L2
open PySem PySem.Spec PyProof.Rows
section
variable {σ : St} {H : Hp} {Q : VK} {K : PySem.W.Frag} {v x y : V} {N : St → Hp → Prop} {S : Hp → Prop} {p : Addr} {o : HO}
theorem rd_new {n : Nat} {F : Addr → Prop} (h : n ≤ sizeLine) (q : ∀ p, H p = none → F p) : n ≤ sizeLine ∧ ∀ p, H p = none → F p := ⟨h, q⟩
theorem rd_back {P : Prop} (hp : H p = none) (q : P) : Same H (upd H p o) ∧ P := ⟨same_new hp, q⟩
theorem rd_backR {P : Prop} (q : P) : Same H H ∧ P := ⟨Same.refl H, q⟩
instance st_backR {P : Prop} : Stp (Same H H ∧ P) (P) := ⟨fun h => rd_backR h⟩
theorem inV2 {i a b : Int} : inV (.int i) [.int a, .int b] = decide (i = a ∨ i = b) := by
  simp only [inV, eqV, List.any_cons, List.any_nil, Bool.or_false]
  by_cases h1 : i = a
  · subst h1
    simp
  · by_cases h2 : i = b
    · subst h2
      simp
    · have e1 : (a == i) = false := by simpa using Ne.symm h1
      have e2 : (b == i) = false := by simpa using Ne.symm h2
      rw [e1, e2]
      simp [h1, h2]
theorem rd_in2 {i a b : Int} (q : Q (.bl (decide (i = a ∨ i = b))) (upd H p (.tup [.int a, .int b]))) : rIn K false (.int i) (.ref p) (upd H p (.tup [.int a, .int b])) Q :=
  ⟨p, _, rfl, .inr (SqT.of upd_same), rfl, rfl, by
    show Q (.bl (inV (.int i) [.int a, .int b])) _
    rw [inV2]
    exact q⟩
instance st_in2 {i a b : Int} : Stp (rIn K false (.int i) (.ref p) (upd H p (.tup [.int a, .int b])) Q) (Q (.bl (decide (i = a ∨ i = b))) (upd H p (.tup [.int a, .int b]))) := ⟨fun h => rd_in2 h⟩
theorem rd_gtup {a : Addr} {xs : List V} {n : Nat} {t : TGs} (h : SqT K H a xs) (hn : xs.length = n) (q : t xs σ H N) : gTup K n t (.ref a) σ H N := ⟨a, xs, rfl, h, hn, q⟩
theorem rd_gcons {t : TG} {u : TGs} {xs : List V} (q : t x σ H fun σ' H' => u xs σ' H' N) : gCons t u (x :: xs) σ H N := ⟨x, xs, rfl, q⟩
instance st_gcons {t : TG} {u : TGs} {xs : List V} : Stp (gCons t u (x :: xs) σ H N) (t x σ H fun σ' H' => u xs σ' H' N) := ⟨fun h => rd_gcons h⟩
theorem rd_gnil (q : N σ H) : gNil [] σ H N := ⟨rfl, q⟩
instance st_gnil  : Stp (gNil [] σ H N) (N σ H) := ⟨fun h => rd_gnil h⟩
theorem rd_bm {T : String} {r : V → List V → Hp → VK → Prop} {to : TE} {t : TA} (h : to σ H fun x H1 => tyV K T x H1 ∧ t σ H1 fun xs H2 => r x xs H2 Q) : tBM K T r to t σ H Q := h
instance st_bm {T : String} {r : V → List V → Hp → VK → Prop} {to : TE} {t : TA} : Stp (tBM K T r to t σ H Q) (to σ H fun x H1 => tyV K T x H1 ∧ t σ H1 fun xs H2 => r x xs H2 Q) := ⟨fun h => rd_bm h⟩
theorem rd_bm0 {T : String} {r : V → List V → Hp → VK → Prop} {to : TE} (h : to σ H fun x H1 => tyV K T x H1 ∧ r x [] H1 Q) : tBM0 K T r to σ H Q := h
instance st_bm0 {T : String} {r : V → List V → Hp → VK → Prop} {to : TE} : Stp (tBM0 K T r to σ H Q) (to σ H fun x H1 => tyV K T x H1 ∧ r x [] H1 Q) := ⟨fun h => rd_bm0 h⟩
theorem rd_tyL {xs : List V} {P : Prop} (h : H p = some (.lst xs)) (q : P) : tyV K "list" (.ref p) H ∧ P := ⟨.inl ⟨rfl, _, SqL.of h⟩, q⟩
theorem rd_append {xs : List V} (h : H p = some (.lst xs)) (hl : xs.length < sizeLine) (q : Q .non (upd H p (.lst (xs ++ [y])))) : rAppend (.ref p) [y] H Q := ⟨p, xs, y, rfl, rfl, h, hl, q⟩
theorem same_upd2 {H' : Hp} {o1 : HO} (h : Same H H') (hp : H p = none) : Same H (upd H' p o1) := fun b x e => by
  rw [upd_ne (ne_of_none e hp)]
  exact h b x e
theorem upd_keep {q : Addr} {u : HO} (h : H p = some o) (hq : H q = none) : upd H q u p = some o := (upd_ne (ne_of_none h hq)).trans h
theorem upd_lst {H : Hp} {p : Addr} {a b : HO} : upd (upd H p a) p b = upd H p b := upd_upd
/-- the raising, its argument read -/
theorem rd_err {C : Addr} {n : Nat} {fl : List V → List (Str × V)} {vs : List V} {Q : XK} (hl : vs.length = n) (hn : n ≤ 1000) (h : ∀ d, H d = none → Q (.ref C) (some d) (upd H d (.xd (fl vs)))) : True := trivial
end
end L2

namespace L2
open PySem PySem.Spec PyProof.Rows
theorem rd_cut {σ : St} {H : Hp} {t u : TS} {nx : St → Hp → Prop} {rt : VK} {bk ct : St → Hp → Prop} (Mid : St → Hp → Prop) (h : t ⟨Mid, rt, bk, ct⟩ σ H) (q : ∀ σ' H', Mid σ' H' → u ⟨nx, rt, bk, ct⟩ σ' H') : C8.tCut t u ⟨nx, rt, bk, ct⟩ σ H := ⟨Mid, h, q⟩
/-! ### built-ins, by name -/
def rLenQ (K : PySem.W.Frag) : List V → Hp → VK → Prop := fun xs H Q => ∃ p ys, xs = [.ref p] ∧ (SqL K H p ys ∨ SqT K H p ys) ∧ Q (.int ys.length) H
def rLenS : List V → Hp → VK → Prop := fun xs H Q => ∃ z, xs = [.str z] ∧ z.length ≤ sizeLine ∧ Q (.int z.length) H
def rAbs : List V → Hp → VK → Prop := fun xs H Q => ∃ i, xs = [.int i] ∧ Q (.int (if i < 0 then -i else i)) H
def rMax2 : List V → Hp → VK → Prop := fun xs H Q => ∃ i j, xs = [.int i, .int j] ∧ Q (.int (if j > i then j else i)) H
def rMin2 : List V → Hp → VK → Prop := fun xs H Q => ∃ i j, xs = [.int i, .int j] ∧ Q (.int (if j < i then j else i)) H
def rInt1 : List V → Hp → VK → Prop := fun xs H Q => (∃ i, xs = [.int i] ∧ Q (.int i) H) ∨ ∃ k, xs = [.bl k] ∧ Q (.int (if k then 1 else 0)) H
def rListOf (K : PySem.W.Frag) : List V → Hp → VK → Prop := fun xs H Q => ∃ p ys, xs = [.ref p] ∧ (SqL K H p ys ∨ SqT K H p ys) ∧ ∀ l, H l = none → Q (.ref l) (upd H l (.lst ys))
section
variable {X : Cx}
theorem c_len : CallR X (.builtin "len") (rLenQ X.K) := call_len_seq
theorem c_lenS : CallR X (.builtin "len") rLenS := call_len_str
theorem c_abs : CallR X (.builtin "abs") rAbs := call_abs
theorem c_max2 (hc : X.calm = true) : CallR X (.builtin "max") rMax2 := call_max2 hc
theorem c_min2 (hc : X.calm = true) : CallR X (.builtin "min") rMin2 := call_min2 hc
theorem c_int1 : CallR X (.type "int") rInt1 := call_int1
theorem c_listOf : CallR X (.type "list") (rListOf X.K) := call_list_of
end
section
variable {H : Hp} {Q : VK} {K : PySem.W.Frag} {i j : Int} {p : Addr} {ys : List V}
theorem rd_abs (q : Q (.int (if i < 0 then -i else i)) H) : rAbs [.int i] H Q := ⟨i, rfl, q⟩
instance st_abs  : Stp (rAbs [.int i] H Q) (Q (.int (if i < 0 then -i else i)) H) := ⟨fun h => rd_abs h⟩
theorem rd_max2 (q : Q (.int (if j > i then j else i)) H) : rMax2 [.int i, .int j] H Q := ⟨i, j, rfl, q⟩
instance st_max2  : Stp (rMax2 [.int i, .int j] H Q) (Q (.int (if j > i then j else i)) H) := ⟨fun h => rd_max2 h⟩
theorem rd_min2 (q : Q (.int (if j < i then j else i)) H) : rMin2 [.int i, .int j] H Q := ⟨i, j, rfl, q⟩
instance st_min2  : Stp (rMin2 [.int i, .int j] H Q) (Q (.int (if j < i then j else i)) H) := ⟨fun h => rd_min2 h⟩
theorem rd_int (q : Q (.int i) H) : rInt1 [.int i] H Q := .inl ⟨i, rfl, q⟩
instance st_int  : Stp (rInt1 [.int i] H Q) (Q (.int i) H) := ⟨fun h => rd_int h⟩
theorem rd_intB {b : Bool} (q : Q (.int (if b then 1 else 0)) H) : rInt1 [.bl b] H Q := .inr ⟨b, rfl, q⟩
instance st_intB {b : Bool} : Stp (rInt1 [.bl b] H Q) (Q (.int (if b then 1 else 0)) H) := ⟨fun h => rd_intB h⟩
theorem rd_lenL (h : SqL K H p ys) (q : Q (.int ys.length) H) : rLenQ K [.ref p] H Q := ⟨p, ys, rfl, .inl h, q⟩
theorem rd_lenT (h : SqT K H p ys) (q : Q (.int ys.length) H) : rLenQ K [.ref p] H Q := ⟨p, ys, rfl, .inr h, q⟩
theorem rd_lenS {z : Str} (h : z.length ≤ sizeLine) (q : Q (.int z.length) H) : rLenS [.str z] H Q := ⟨z, rfl, h, q⟩
theorem rd_listOfL (h : SqL K H p ys) (q : ∀ l, H l = none → Q (.ref l) (upd H l (.lst ys))) : rListOf K [.ref p] H Q := ⟨p, ys, rfl, .inl h, q⟩
theorem rd_listOfT (h : SqT K H p ys) (q : ∀ l, H l = none → Q (.ref l) (upd H l (.lst ys))) : rListOf K [.ref p] H Q := ⟨p, ys, rfl, .inr h, q⟩
end
end L2

namespace L2
open PySem PySem.Spec PyProof.Rows
/-- a power with a written exponent -/
def rPowN (e : Nat) : R2 := fun x y H Q => ∃ i, x = .int i ∧ y = .int (e : Int) ∧ e ≤ 1000000 ∧ i.natAbs < 2 ^ 64 ∧ Q (.int (i ^ e)) H
theorem op_powN {X : Cx} (e : Nat) : OpR X (binaryOp .Pow) (rPowN e) := fun pins s σ H x y v u Q I rx ry ⟨i, e1, e2, h1, h2, q⟩ =>
  op_pow pins s σ H x y v u Q I rx ry ⟨i, (e : Int), e1, e2, ⟨Int.natCast_nonneg _, by omega, h2⟩, q⟩
theorem rd_powN {e : Nat} {i z : Int} {H : Hp} {Q : VK} (hz : z = (e : Int)) (h1 : e ≤ 1000000) (h2 : i.natAbs < 2 ^ 64) (q : Q (.int (i ^ e)) H) : rPowN e (.int i) (.int z) H Q := ⟨i, rfl, by rw [hz], h1, h2, q⟩
end L2

namespace L2
open PySem PySem.Spec PyProof.Rows
/-! ### a def of the text, and what it keeps -/
structure DefAt (K : PySem.W.Frag) (mg : Str → Option Value) (x : Str) (st : Stmt) (ps : List Str) : Prop where
  ex : ∃ (f : Addr) (fd : FuncData), Fun K x x st f fd ∧ mg x = some (.ref f) ∧ Binds K fd ps []
structure Def (P : Program) (w : World) (K : PySem.W.Frag) (mg : Str → Option Value) (base : Heap) (k : Nat) (x : Str) (ps : List Str) (sp : Sp) : Prop where
  ex : ∃ (f : Addr) (fd : FuncData), FnOk P w K mg base (L2.CX P w) k f fd ps sp ∧ mg x = some (.ref f) ∧ PySem.W.keepIn K (.ref f) = true ∧ Binds K fd ps []
section
variable {P : Program} {w : World} {K : PySem.W.Frag} {mg : Str → Option Value} {base : Heap}
theorem DefAt.ok {x : Str} {st : Stmt} {N ps : List Str} {k : Nat} {sp : Sp} (D : DefAt K mg x st ps) (S : FnScope N ps (defScope st)) (len : ∀ vs H Q E, sp vs H Q E → vs.length = ps.length)
    (hbody : ∀ (f : Addr) (cdv : Value) (A : Around) (outer : List Env) (s : Shared) (H : Hp) (vs : List V) (Q : VK) (E : XK), Room k (A.deeper (envOfC x (defScope st) s.heap.objs.size f cdv)) → sp vs H Q E →
      ∃ t, PSs (cxOf (L2.CX P w) P w K mg base N x (defScope st) f cdv A outer s H E) (defBody st) t ∧ t ⟨fun _ H' => Q .non H', Q, fun _ _ => False, fun _ _ => False⟩ (start N vs) H) : Def P w K mg base (k + 1) x ps sp := by
  obtain ⟨f, fd, F, g, b⟩ := D.ex
  exact ⟨f, fd, F.okX S len fun cdv A outer s H vs Q E hr h => hbody f cdv A outer s H vs Q E hr h, g, F.kp, b⟩
theorem Def.imp {k : Nat} {x : Str} {ps : List Str} {sp sp' : Sp} (D : Def P w K mg base k x ps sp) (h : ∀ vs H Q E, sp' vs H Q E → sp vs H Q E) : Def P w K mg base k x ps sp' := by
  obtain ⟨f, fd, F, g, kp, b⟩ := D.ex
  exact ⟨f, fd, F.imp h, g, kp, b⟩
theorem Def.mono {j k : Nat} {x : Str} {ps : List Str} {sp : Sp} (D : Def P w K mg base j x ps sp) (h : j ≤ k) : Def P w K mg base k x ps sp := by
  obtain ⟨f, fd, F, g, kp, b⟩ := D.ex
  exact ⟨f, fd, F.mono h, g, kp, b⟩
theorem Def.forget {k : Nat} {x : Str} {ps : List Str} {sp : Sp} (D : Def P w K mg base k x ps sp) : Def P w K mg base k x ps (fun vs H Q E => NoT H ∧ sp vs H (fun v H' => Same H H' ∧ Q v H) E) := by
  obtain ⟨f, fd, F, g, kp, b⟩ := D.ex
  exact ⟨f, fd, fn_forget F, g, kp, b⟩
end
section
variable {X : Cx}
theorem pe_d {k : Nat} {x : Str} {ps : List Str} {sp : Sp} {E : XK} {p pos : Pos} {e : Expr} {es : List Expr} {t : TA} (D : Def X.prog X.w X.K X.mg X.base k x ps sp) (hr : Room k X.A) (hx : Passes (L2.CX X.prog X.w) X E) (ha : PA X (e :: es) t) (hg : Gl X x := by rfl)
    (hd : (x == ("__debug__" : Str)) = false := by decide) (he : starEach (e :: es) X.env = (false, eval e X.env) :: starEach es X.env := by rfl) (hpl : (backTo pos (starEach es X.env)).any (·.1) = false := by rfl) :
    PE X (.Call (.Name x p) (e :: es) [] pos) (tCall sp [] E t) := by
  obtain ⟨f, fd, F, g, kp, b⟩ := D.ex
  exact pe_call F hr hg g kp b .nil hx ha hd he hpl
theorem pe_d0 {k : Nat} {x : Str} {ps : List Str} {sp : Sp} {E : XK} {p pos : Pos} (D : Def X.prog X.w X.K X.mg X.base k x ps sp) (hr : Room k X.A) (hx : Passes (L2.CX X.prog X.w) X E) (hg : Gl X x := by rfl) (hd : (x == ("__debug__" : Str)) = false := by decide) :
    PE X (.Call (.Name x p) [] [] pos) (tCall sp [] E tNil) := by
  obtain ⟨f, fd, F, g, kp, b⟩ := D.ex
  exact pe_call0 F hr hg g kp b .nil hx hd
/-- within a try's body: what is raised is wished for at the caller's slots -/
theorem pe_dS {k : Nat} {x : Str} {ps : List Str} {sp : Sp} {W : WX} {p pos : Pos} {e : Expr} {es : List Expr} {t : TA} (D : Def X.prog X.w X.K X.mg X.base k x ps sp) (hr : Room k X.A) (tk : Takes X W) (ha : PA X (e :: es) t) (hg : Gl X x := by rfl)
    (hd : (x == ("__debug__" : Str)) = false := by decide) (he : starEach (e :: es) X.env = (false, eval e X.env) :: starEach es X.env := by rfl) (hpl : (backTo pos (starEach es X.env)).any (·.1) = false := by rfl) :
    PE X (.Call (.Name x p) (e :: es) [] pos) (tCallS sp (WE W) t) := by
  obtain ⟨f, fd, F, g, kp, b⟩ := D.ex
  exact pe_callS F hr hg g kp b (fun σ => passAt tk σ) ha hd he hpl
theorem rd_callS {sp : Sp} {W : WX} {tr : TA} {σ : St} {H : Hp} {Q : VK} (h : tr σ H fun vs H1 => sp vs H1 Q (WE W σ)) : tCallS sp (WE W) tr σ H Q := h
instance st_callS {sp : Sp} {W : WX} {tr : TA} {σ : St} {H : Hp} {Q : VK} : Stp (tCallS sp (WE W) tr σ H Q) (tr σ H fun vs H1 => sp vs H1 Q (WE W σ)) := ⟨fun h => rd_callS h⟩
end
/-! ### the program's own errors -/
/-- what the top has written of ClockError, at CC -/
structure BaseC (K : PySem.W.Frag) (mg : Str → Option Value) (CC : Addr) : Prop where
  g : mg "ClockError" = some (.ref CC)
  rd : PySem.W.readsIn K CC (.type "type") = true
  ga : PySem.W.specialIn K (.ref CC) "__getattribute__" = some (some (.builtin "type.__getattribute__"))
  ini : PySem.W.findCls K (.ref CC) (.type "type") "__init__" = some (.val (.builtin "ValueError.__init__"))
section
variable {X : Cx} {e : Expr} {es : List Expr} {ta : TA} {p1 p2 pos : Pos}
theorem pe_ceinit {pl : Sem Bool} {CC : Addr} (B : BaseC X.K X.mg CC) (ha : PA X (e :: es) ta) (hg : Gl X "ClockError" := by rfl)
    (hc : eval (.Call (.Attribute (.Name "ClockError" p1) "__init__" p2) (e :: es) [] pos) X.env = (do
      let ov ← eval (.Name "ClockError" p1) X.env
      standAt p2.atName
      let (f, first) ← holding [ov] (getMethod ov "__init__" pl)
      callWith pos f first (backTo pos (starEach (e :: es) X.env)) (backToKw pos (keywordEach [] X.env))) := by rfl)
    (he : starEach (e :: es) X.env = (false, eval e X.env) :: starEach es X.env := by rfl) (hpl : (backTo pos (starEach es X.env)).any (·.1) = false := by rfl) :
    PE X (.Call (.Attribute (.Name "ClockError" p1) "__init__" p2) (e :: es) [] pos) (tVeI X.K ta) := by
  refine ⟨fun pins s σ H Q I h => ?_⟩
  refine PySem.W.methodCall_KW (ld_glob I hg B.g ?_ (by decide)) hc
  refine PySem.W.method_cls I.kIn B.ga (PySem.W.cls_value I.kIn B.rd B.ini (by decide +kernel) ?_)
  show wpAny _ _ (callWith pos (Value.builtin "ValueError.__init__") [] (backTo pos (starEach (e :: es) X.env)) []) _ _ _
  refine PyProof.Rows.callWith_method1 (thn (ha.run pos pins _ σ H _ (I.tok _) h) fun us s1 ⟨vs, H1, I1, r1, a, C, ws, ev, hl, T, ea, q⟩ => ?_) he hpl
  subst ev
  cases r1 with
  | @cons _ u0 _ ur ra rw' =>
    obtain rfl : u0 = Value.ref a := ra
    have hlen : ur.length ≤ sizeLine := by
      rw [← Paired.length rw', sizeLine_eq]
      omega
    exact oinit_ok T I1 ea hlen fun s' J => ⟨.non, H1, J, rfl, q⟩
end
/-- __init__ of an error with fields: the values ws become fl ws -/
def spErr (C : Addr) (n : Nat) (fl : List V → List (Str × V)) : Sp := fun vs H Q _ => ∃ (a : Addr) (ws : List V), vs = .ref a :: ws ∧ ws.length = n ∧ H a = some (exo a C none) ∧
  ∀ dx, H dx = none → dx ≠ a → Q .non (upd (upd H dx (exd dx (fl ws))) a (exo a C (some dx)))
/-- a class of the program's errors: raised by its name, with n values, the fields fl -/
structure ErrC (P : Program) (w : World) (K : PySem.W.Frag) (mg : Str → Option Value) (base : Heap) (x : Str) (n : Nat) (fl : List V → List (Str × V)) (C : Addr) : Prop where
  g : mg x = some (.ref C)
  T : OexC K C
  X : XfC K C
  self : PySem.W.exmOne K (.ref C) (.ref C) = some true
  ini : ∃ (fI : Addr) (fd : FuncData) (ps : List Str), PySem.W.findIn K (.ref C) "__init__" = some (some (.ref fI)) ∧ PySem.W.typeIn K (.ref fI) = some (.type "function") ∧ FnOk P w K mg base (L2.CX P w) 1 fI fd ps (spErr C n fl) ∧ Binds K fd ps []
theorem pmk_err {X : Cx} {x : Str} {C : Addr} {n : Nat} {fl : List V → List (Str × V)} {e : Expr} {es : List Expr} {ta : TA} {p pos : Pos} (Z : ErrC X.prog X.w X.K X.mg X.base x n fl C) (hr : Room 2 X.A) (ha : PA X (e :: es) ta) (hg : Gl X x := by rfl)
    (hdb : (x == ("__debug__" : Str)) = false := by decide) (he : starEach (e :: es) X.env = (false, eval e X.env) :: starEach es X.env := by rfl) (hpl : (backTo pos (starEach es X.env)).any (·.1) = false := by rfl) :
    PMk X (.Call (.Name x p) (e :: es) [] pos) (tMkO C (spErr C n fl) [] ta) := by
  obtain ⟨fI, fd, ps, iC, tI, F, b⟩ := Z.ini
  exact pmk_oex Z.T iC tI F hr b .nil passL hg Z.g ha hdb he hpl
/-- what the raising asks -/
theorem rd_mk {C : Addr} {n : Nat} {fl : List V → List (Str × V)} {ta : TA} {σ : St} {H : Hp} {Q : XK} (h : ta σ H fun vs H1 => vs.length ≤ 1000 ∧ ∀ a, H1 a = none → spErr C n fl (.ref a :: (vs ++ [])) (upd H1 a (exo a C none))
  (fun v H2 => v = .non ∧ ∃ (d : Addr) (fs : List (Str × V)), H2 a = some (exo a C (some d)) ∧ H2 d = some (exd d fs) ∧ H1 d = none ∧ Q (.ref C) (some d) (upd (del H2 a) d (.xd fs))) (fun _ _ _ => False)) : tMkO C (spErr C n fl) [] ta σ H Q := h
instance st_mk {C : Addr} {n : Nat} {fl : List V → List (Str × V)} {ta : TA} {σ : St} {H : Hp} {Q : XK} : Stp (tMkO C (spErr C n fl) [] ta σ H Q) (ta σ H fun vs H1 => vs.length ≤ 1000 ∧ ∀ a, H1 a = none → spErr C n fl (.ref a :: (vs ++ [])) (upd H1 a (exo a C none))
  (fun v H2 => v = .non ∧ ∃ (d : Addr) (fs : List (Str × V)), H2 a = some (exo a C (some d)) ∧ H2 d = some (exd d fs) ∧ H1 d = none ∧ Q (.ref C) (some d) (upd (del H2 a) d (.xd fs))) (fun _ _ _ => False)) := ⟨fun h => rd_mk h⟩
theorem rd_mk1 {C : Addr} {n : Nat} {fl : List V → List (Str × V)} {vs : List V} {H1 : Hp} {Q : XK} (hl : vs.length = n) (hn : n ≤ 1000) (h : ∀ d, H1 d = none → Q (.ref C) (some d) (upd H1 d (.xd (fl vs)))) :
    vs.length ≤ 1000 ∧ ∀ a, H1 a = none → spErr C n fl (.ref a :: (vs ++ [])) (upd H1 a (exo a C none))
      (fun v H2 => v = .non ∧ ∃ (d : Addr) (fs : List (Str × V)), H2 a = some (exo a C (some d)) ∧ H2 d = some (exd d fs) ∧ H1 d = none ∧ Q (.ref C) (some d) (upd (del H2 a) d (.xd fs))) (fun _ _ _ => False) := by
  refine ⟨by omega, fun a na => ⟨a, vs, by rw [List.append_nil], hl, upd_same, fun dx nd ne => ⟨rfl, dx, fl vs, upd_same, ?_, ?_, ?_⟩⟩⟩
  · rw [upd_ne ne, upd_same]
  · rw [upd_ne ne] at nd
    exact nd
  · have nd' : H1 dx = none := by
      rw [upd_ne ne] at nd
      exact nd
    have z := h dx nd'
    have eq : upd (del (upd (upd (upd H1 a (exo a C none)) dx (exd dx (fl vs))) a (exo a C (some dx))) a) dx (.xd (fl vs)) = upd H1 dx (.xd (fl vs)) := by
      funext b
      by_cases hb : b = dx
      · rw [hb, upd_same, upd_same]
      · rw [upd_ne hb, upd_ne hb]
        by_cases ha : b = a
        · rw [ha, del_same, na]
        · rw [del_ne ha, upd_ne ha, upd_ne hb, upd_ne ha]
    rw [eq]
    exact z
end L2

namespace L2
open PySem PySem.Spec PyProof.Rows
/-- what the top has written of an error's class -/
structure ErrRaw (K : PySem.W.Frag) (mg : Str → Option Value) (x : Str) (C : Addr) (sI : Stmt) (qual : Str) (ps : List Str) : Prop where
  g : mg x = some (.ref C)
  T : OexC K C
  X : XfC K C
  self : PySem.W.exmOne K (.ref C) (.ref C) = some true
  ini : ∃ (fI : Addr) (fd : FuncData), PySem.W.findIn K (.ref C) "__init__" = some (some (.ref fI)) ∧ PySem.W.typeIn K (.ref fI) = some (.type "function") ∧ Fun K "__init__" qual sI fI fd ∧ Binds K fd ps []
theorem ErrC.of {P : Program} {w : World} {K : PySem.W.Frag} {mg : Str → Option Value} {base : Heap} {x : Str} {C : Addr} {sI : Stmt} {qual : Str} {ps : List Str} {n : Nat} {fl : List V → List (Str × V)} (R : ErrRaw K mg x C sI qual ps)
    (h : ∀ (fI : Addr) (fd : FuncData), Fun K "__init__" qual sI fI fd → FnOk P w K mg base (L2.CX P w) 1 fI fd ps (spErr C n fl)) : ErrC P w K mg base x n fl C := by
  obtain ⟨fI, fd, i, t, F, b⟩ := R.ini
  exact ⟨R.g, R.T, R.X, R.self, fI, fd, ps, i, t, h fI fd F, b⟩
/-- an error of the class at S is what «except S» names -/
theorem exm_self {K : PySem.W.Frag} {S : Addr} (h1 : PySem.W.subIn K (.ref S) (.type "BaseException") = some true) (h2 : PySem.W.isClsIn K S = true) (h3 : PySem.W.typeIn K (.ref S) = some (.type "type")) (h4 : PySem.W.subIn K (.ref S) (.ref S) = some true) :
    PySem.W.exmOne K (.ref S) (.ref S) = some true := by
  have e1 : (PySem.W.subIn K (.ref S) (.type "BaseException") == some true) = true := by rw [h1] <;> rfl
  have e2 : ((PySem.W.clsIn K S).isSome && PySem.W.typeIn K (.ref S) == some (.type "type")) = true := by
    have h2' : (PySem.W.clsIn K S).isSome = true := h2
    rw [h2', h3] <;> rfl
  show (if (PySem.W.subIn K (.ref S) (.type "BaseException") == some true) = true then (if ((PySem.W.clsIn K S).isSome && PySem.W.typeIn K (.ref S) == some (.type "type")) = true then PySem.W.subIn K (.ref S) (.ref S) else none) else none) = some true
  rw [if_pos e1, if_pos e2]
  exact h4
theorem NoT.only {H : Hp} (h : Only H) : NoT H := fun a o e => by
  rcases h a with z | ⟨u, xs, z⟩
  · rw [z] at e
    cases e
  · rw [z] at e
    cases e
    rfl
theorem len_1 {α : Type} {ws : List α} (h : ws.length = 1) : ∃ a, ws = [a] := match ws, h with | [a], _ => ⟨a, rfl⟩
theorem len_2 {α : Type} {ws : List α} (h : ws.length = 2) : ∃ a b, ws = [a, b] := match ws, h with | [a, b], _ => ⟨a, b, rfl⟩
theorem len_3 {α : Type} {ws : List α} (h : ws.length = 3) : ∃ a b c, ws = [a, b, c] := match ws, h with | [a, b, c], _ => ⟨a, b, c, rfl⟩
/-- law's: a list of at most 63 ints is handed in, True comes out -/
def spLaw (K : PySem.W.Frag) : Sp := fun vs H Q _ => ∃ (a : Addr) (ns : List Int), vs = [.ref a] ∧ SqL K H a (ns.map V.int) ∧ ns.length ≤ 63 ∧ NoT H ∧ ∀ H', Q (.bl true) H'
end L2

namespace L2
open PySem PySem.Spec PyProof.Rows
/-! ### what is walked, by name -/
def rRng1 (S : It → Hp → Prop) (vs : List V) (H : Hp) : Prop := ∃ j : Int, vs = [.int j] ∧ -(2 ^ 62) ≤ j ∧ j < 2 ^ 62 ∧ S (Itr 0 j.toNat) H
def rRng2 (S : It → Hp → Prop) (vs : List V) (H : Hp) : Prop := ∃ i j : Int, vs = [.int i, .int j] ∧ (-(2 ^ 62) ≤ i ∧ i < 2 ^ 62 ∧ -(2 ^ 62) ≤ j ∧ j < 2 ^ 62) ∧ S (Itr i (j - i).toNat) H
def rItL (K : PySem.W.Frag) (S : It → Hp → Prop) (x : V) (H : Hp) : Prop := ∃ a, x = .ref a ∧ (∃ xs, SqL K H a xs) ∧ S (Itl K a) H
def rItT (K : PySem.W.Frag) (S : It → Hp → Prop) (x : V) (H : Hp) : Prop := ∃ a, x = .ref a ∧ (∃ xs, SqT K H a xs) ∧ S (Itt K a) H
section
variable {σ : St} {H : Hp} {Q : VK} {K : PySem.W.Frag} {v x y : V} {ta te : TE} {tt : TT} {tr : TA} {S : It → Hp → Prop}
theorem rd_iR1 (h : tr σ H (rRng1 S)) : iRng1 tr σ H S := h
instance st_iR1  : Stp (iRng1 tr σ H S) (tr σ H (rRng1 S)) := ⟨fun h => rd_iR1 h⟩
theorem rd_iR2 (h : tr σ H (rRng2 S)) : iRng2 tr σ H S := h
instance st_iR2  : Stp (iRng2 tr σ H S) (tr σ H (rRng2 S)) := ⟨fun h => rd_iR2 h⟩
theorem rd_r1 {n : Int} (h1 : -(2 ^ 62) ≤ n) (h2 : n < 2 ^ 62) (q : S (Itr 0 n.toNat) H) : rRng1 S [.int n] H := ⟨n, rfl, h1, h2, q⟩
theorem rd_r2 {m n : Int} (h1 : -(2 ^ 62) ≤ m ∧ m < 2 ^ 62 ∧ -(2 ^ 62) ≤ n ∧ n < 2 ^ 62) (q : S (Itr m (n - m).toNat) H) : rRng2 S [.int m, .int n] H := ⟨m, n, rfl, h1, q⟩
theorem rd_iL (h : ta σ H (rItL K S)) : iList K ta σ H S := h
instance st_iL  : Stp (iList K ta σ H S) (ta σ H (rItL K S)) := ⟨fun h => rd_iL h⟩
theorem rd_iT (h : ta σ H (rItT K S)) : iTup K ta σ H S := h
instance st_iT  : Stp (iTup K ta σ H S) (ta σ H (rItT K S)) := ⟨fun h => rd_iT h⟩
theorem rd_iL1 {a : Addr} {xs : List V} (h : SqL K H a xs) (q : S (Itl K a) H) : rItL K S (.ref a) H := ⟨a, rfl, ⟨xs, h⟩, q⟩
theorem rd_iT1 {a : Addr} {xs : List V} (h : SqT K H a xs) (q : S (Itt K a) H) : rItT K S (.ref a) H := ⟨a, rfl, ⟨xs, h⟩, q⟩
/-! ### list comprehensions -/
def lcB (J : It) (g : TG) (tt : TT) (te : TE) (vs : List Nat) (σ : St) (Q : VK) (H1 : Hp) : Prop := ∀ D, H1 D = none → ∃ W : Nat → Nat → Hp → Prop, (∃ m, W 0 m (upd H1 D (.lst []))) ∧ ∀ i m H, W i m H →
  (J.stop i H ∧ Q (.ref D) H) ∨ (J.go i H ∧ ∃ Nx : Hp → Prop, (∀ H', Nx H' → ∃ m', m' < m ∧ W (i + 1) m' H') ∧ ∀ x H', J.yld i H x H' → g x (wipe σ vs) H' fun σ2 H2 => wipe σ2 vs = wipe σ vs ∧ tt σ2 H2 fun b H3 =>
    if b = true then te σ2 H3 fun y H4 => ∃ acc, H4 D = some (.lst acc) ∧ acc.length < sizeLine ∧ Nx (upd H4 D (.lst (acc ++ [y]))) else Nx H3)
theorem rd_lc {wi : TI} {g : TG} {vs : List Nat} (h : wi σ H fun J H1 => lcB J g tt te vs σ Q H1) : tLc wi g tt te vs σ H Q := h
instance st_lc {wi : TI} {g : TG} {vs : List Nat} : Stp (tLc wi g tt te vs σ H Q) (wi σ H fun J H1 => lcB J g tt te vs σ Q H1) := ⟨fun h => rd_lc h⟩
theorem rd_yes {R : Bool → Hp → Prop} (q : R true H) : tYes σ H R := q
instance st_yes {R : Bool → Hp → Prop} : Stp (tYes σ H R) (R true H) := ⟨fun h => rd_yes h⟩
/-- the item that was made goes onto the list; or none does -/
def LcPut (H : Hp) (D : Addr) (l0 l1 : List V) (y : V) (H4 : Hp) : Prop := ∃ acc, H4 D = some (.lst acc) ∧ acc.length < sizeLine ∧ upd H4 D (.lst (acc ++ [y])) = upd H D (.lst l1)
def LcSkip (H : Hp) (D : Addr) (l1 : List V) (H3 : Hp) : Prop := H3 = upd H D (.lst l1)
def resR (p : Nat → Bool) (f : Nat → V) (i : Nat) : List V := ((List.range i).filter p).map f
def resL (p : V → Bool) (f : V → V) (xs : List V) : List V := (xs.filter p).map f
theorem resR_len {p : Nat → Bool} {f : Nat → V} {i : Nat} : (resR p f i).length ≤ i := by
  unfold resR
  rw [List.length_map]
  have z : ((List.range i).filter p).length ≤ (List.range i).length := List.length_filter_le _ _
  rw [List.length_range] at z
  exact z
theorem resL_len {p : V → Bool} {f : V → V} {xs : List V} : (resL p f xs).length ≤ xs.length := by
  unfold resL
  rw [List.length_map]
  exact List.length_filter_le _ _
theorem put_R {D : Addr} {p : Nat → Bool} {f : Nat → V} {i : Nat} {y : V} (hi : i < 1000000) (hp : p i = true) (hy : y = f i) : LcPut H D (resR p f i) (resR p f (i + 1)) y (upd H D (.lst (resR p f i))) := by
  refine ⟨_, upd_same, Nat.lt_of_le_of_lt resR_len (Nat.lt_trans hi (by decide)), ?_⟩
  rw [upd_upd]
  unfold resR
  rw [List.range_succ, List.filter_append, List.map_append, hy]
  simp [hp]
theorem skip_R {D : Addr} {p : Nat → Bool} {f : Nat → V} {i : Nat} (hp : p i = false) : LcSkip H D (resR p f (i + 1)) (upd H D (.lst (resR p f i))) := by
  show upd H D _ = _
  unfold resR
  rw [List.range_succ, List.filter_append, List.map_append]
  simp [hp]
theorem put_L {D : Addr} {p : V → Bool} {f : V → V} {xs : List V} {x y : V} (hi : xs.length < 1000000) (hp : p x = true) (hy : y = f x) : LcPut H D (resL p f xs) (resL p f (xs ++ [x])) y (upd H D (.lst (resL p f xs))) := by
  refine ⟨_, upd_same, Nat.lt_of_le_of_lt resL_len (Nat.lt_trans hi (by decide)), ?_⟩
  rw [upd_upd]
  unfold resL
  rw [List.filter_append, List.map_append, hy]
  simp [hp]
theorem skip_L {D : Addr} {p : V → Bool} {f : V → V} {xs : List V} {x : V} (hp : p x = false) : LcSkip H D (resL p f (xs ++ [x])) (upd H D (.lst (resL p f xs))) := by
  show upd H D _ = _
  unfold resL
  rw [List.filter_append, List.map_append]
  simp [hp]
theorem rd_lcR {lo : Int} {n : Nat} {g : TG} {vs : List Nat} (p : Nat → Bool) (f : Nat → V)
    (hs : ∀ D i, H D = none → i < n → g (.int (lo + i)) (wipe σ vs) (upd H D (.lst (resR p f i))) fun σ2 H2 => wipe σ2 vs = wipe σ vs ∧ tt σ2 H2 fun b H3 => if b = true then te σ2 H3 (LcPut H D (resR p f i) (resR p f (i + 1))) else LcSkip H D (resR p f (i + 1)) H3)
    (q : ∀ D, H D = none → Q (.ref D) (upd H D (.lst (((List.range n).filter p).map f)))) : lcB (Itr lo n) g tt te vs σ Q H := by
  intro D hD
  refine ⟨fun i m H' => m = n - i ∧ i ≤ n ∧ H' = upd H D (.lst (resR p f i)), ⟨n, by simp, Nat.zero_le _, rfl⟩, ?_⟩
  rintro i m H' ⟨rfl, hi, rfl⟩
  by_cases hlt : i < n
  · refine .inr ⟨hlt, fun H' => H' = upd H D (.lst (resR p f (i + 1))), fun H' p' => ⟨n - (i + 1), by omega, rfl, hlt, p'⟩, fun x H' y => ?_⟩
    obtain ⟨e, y⟩ := y
    subst e y
    exact hs D i hD hlt
  · have e : i = n := by omega
    subst e
    exact .inl ⟨Nat.le_refl _, q D hD⟩
theorem rd_lcL {a : Addr} {xs : List V} {g : TG} {vs : List Nat} (p : V → Bool) (f : V → V) (hS : SqL K H a xs)
    (hs : ∀ D l x r, H D = none → xs = l ++ x :: r → g x (wipe σ vs) (upd H D (.lst (resL p f l))) fun σ2 H2 => wipe σ2 vs = wipe σ vs ∧ tt σ2 H2 fun b H3 => if b = true then te σ2 H3 (LcPut H D (resL p f l) (resL p f (l ++ [x]))) else LcSkip H D (resL p f (l ++ [x])) H3)
    (q : ∀ D, H D = none → Q (.ref D) (upd H D (.lst ((xs.filter p).map f)))) : lcB (Itl K a) g tt te vs σ Q H := by
  intro D hD
  refine ⟨fun i m H' => m = xs.length - i ∧ i ≤ xs.length ∧ H' = upd H D (.lst (resL p f (xs.take i))), ⟨xs.length, by simp, Nat.zero_le _, rfl⟩, ?_⟩
  rintro i m H' ⟨rfl, hi, rfl⟩
  have hS' : SqL K (upd H D (.lst (resL p f (xs.take i)))) a xs := (same_new hD).seq hS
  by_cases hlt : i < xs.length
  · have hx : xs[i]? = some xs[i] := by simp [hlt]
    have er : xs.take (i + 1) = xs.take i ++ [xs[i]] := by rw [List.take_add_one, hx]; rfl
    refine .inr ⟨⟨xs, xs[i], hS', hx⟩, fun H' => H' = upd H D (.lst (resL p f (xs.take (i + 1)))), fun H' p' => ⟨xs.length - (i + 1), by omega, rfl, hlt, p'⟩, fun x H' y => ?_⟩
    obtain ⟨e, y⟩ := y
    subst e
    have ex : x = xs[i] := Option.some.inj ((y xs hS').symm.trans hx)
    subst ex
    have z := hs D (xs.take i) xs[i] (xs.drop (i + 1)) hD (by rw [List.getElem_cons_drop, List.take_append_drop])
    rw [← er] at z
    exact z
  · have e : i = xs.length := by omega
    subst e
    rw [List.take_length]
    exact .inl ⟨⟨xs, (same_new hD).seq hS, Nat.le_refl _⟩, q D hD⟩
/-! ### deep equality -/
theorem rd_eqD {d e : PyData} (h1 : Dp K H x d) (h2 : Dp K H y e) (s1 : SeqAt.shaped d = true) (s2 : SeqAt.shaped e = true) (q : Q (.bl (PyData.eqv d e)) H) : rEqD K x y H Q := ⟨d, e, h1, h2, s1, s2, q⟩
theorem rd_neD {d e : PyData} (h1 : Dp K H x d) (h2 : Dp K H y e) (s1 : SeqAt.shaped d = true) (s2 : SeqAt.shaped e = true) (q : Q (.bl (!PyData.eqv d e)) H) : rNeD K x y H Q := ⟨d, e, h1, h2, s1, s2, q⟩
end
section
variable {K : PySem.W.Frag} {H : Hp}
theorem dpAll_ints : ∀ ns : List Int, DpAll K H (ns.map V.int) (ns.map PyData.int)
  | [] => .nil
  | n :: r => .cons (.int n) (dpAll_ints r)
theorem dpAll_bls : ∀ ns : List Bool, DpAll K H (ns.map V.bl) (ns.map PyData.bool)
  | [] => .nil
  | n :: r => .cons (.bl n) (dpAll_bls r)
theorem dp_ints {a : Addr} {ns : List Int} (h : SqL K H a (ns.map V.int)) : Dp K H (.ref a) (.list (ns.map PyData.int)) := .lst h (dpAll_ints ns)
theorem dp_bls {a : Addr} {ns : List Bool} (h : SqL K H a (ns.map V.bl)) : Dp K H (.ref a) (.list (ns.map PyData.bool)) := .lst h (dpAll_bls ns)
end
theorem lay_ints : ∀ ns : List Int, PyData.canLayAll0 (ns.map PyData.int) = true
  | [] => rfl
  | n :: r => by
    rw [List.map_cons]
    simp [PyData.canLayAll0, lay_ints r, PyData.canLay0]
theorem eqv_ints : ∀ ns ms : List Int, PyData.eqvAll (ns.map PyData.int) (ms.map PyData.int) = decide (ns = ms)
  | [], [] => rfl
  | [], _ :: _ => rfl
  | _ :: _, [] => rfl
  | n :: r, m :: s => by
    rw [List.map_cons, List.map_cons, PyData.eqvAll, eqv_ints r s]
    by_cases h : n = m
    · subst h
      simp [PyData.eqv]
    · have : (n == m) = false := by simpa using h
      simp [PyData.eqv, this, h]
theorem eqv_bls : ∀ ns ms : List Bool, PyData.eqvAll (ns.map PyData.bool) (ms.map PyData.bool) = decide (ns = ms)
  | [], [] => rfl
  | [], _ :: _ => rfl
  | _ :: _, [] => rfl
  | n :: r, m :: s => by
    rw [List.map_cons, List.map_cons, PyData.eqvAll, eqv_bls r s]
    by_cases h : n = m
    · subst h
      simp [PyData.eqv]
    · have : (n == m) = false := by simpa using h
      simp [PyData.eqv, this, h]
/-! ### a clause of a try -/
section
variable {σ : St} {H : Hp} {K : PySem.W.Frag} {nx : St → Hp → Prop} {rt : VK} {bk ct : St → Hp → Prop} {Q : VK} {te : TE}
theorem rd_was {c cls : Value} {i : Nat} {ts : Addr → Value → Option Addr → TS} {Wout : WX} {d : Option Addr} (hx : PySem.W.exmOne K cls c = some true)
    (q : ∀ a, H a = none → ts a cls d ⟨fun σ' H' => nx (σ'.set i none) H', rt, fun σ' H' => bk (σ'.set i none) H', fun σ' H' => ct (σ'.set i none) H'⟩ (σ.set i (some (.ref a))) H) : WE (wAs K c i ts Wout ⟨nx, rt, bk, ct⟩) σ cls d H :=
  ⟨true, hx, fun _ a h => q a h, fun h => nomatch h⟩
theorem rd_wonly {c cls : Value} {ts : Addr → Value → Option Addr → TS} {Wout : WX} {d : Option Addr} (hx : PySem.W.exmOne K cls c = some true)
    (q : ∀ a, H a = none → ts a cls d ⟨nx, rt, bk, ct⟩ σ H) : WE (wOnly K c ts Wout ⟨nx, rt, bk, ct⟩) σ cls d H :=
  ⟨true, hx, fun _ a h => q a h, fun h => nomatch h⟩
def XfB (a : Addr) (cls : Value) (d : Option Addr) (C : Addr) (f : Str) (x : V) (H1 : Hp) (Q : VK) : Prop := x = .ref a ∧ cls = .ref C ∧ ∃ (dd : Addr) (fs : List (Str × V)) (v : V), d = some dd ∧ H1 dd = some (.xd fs) ∧ fs.lookup f = some v ∧ Q v H1
theorem rd_xf {a C : Addr} {cls : Value} {d : Option Addr} {f : Str} (h : te σ H fun x H1 => XfB a cls d C f x H1 Q) : tXf a cls d C f te σ H Q := h
instance st_xf {a C : Addr} {cls : Value} {d : Option Addr} {f : Str} : Stp (tXf a cls d C f te σ H Q) (te σ H fun x H1 => XfB a cls d C f x H1 Q) := ⟨fun h => rd_xf h⟩
theorem rd_xfb {a C dd : Addr} {f : Str} {fs : List (Str × V)} {v : V} (h : H dd = some (.xd fs)) (hl : fs.lookup f = some v) (q : Q v H) : XfB a (.ref C) (some dd) C f (.ref a) H Q := ⟨rfl, rfl, dd, fs, v, rfl, h, hl, q⟩
end
end L2

namespace L2
open PySem PySem.Spec PyProof.Rows
section
variable {σ : St} {H : Hp} {Q : VK} {K : PySem.W.Frag} {N : St → Hp → Prop}
theorem rd_isiII {i : Int} (q : Q (.bl true) H) : rIsi K [.int i, .ty "int"] H Q := ⟨_, _, _, _, true, rfl, .ty _, .base (.int i), kit_ty (by decide +kernel), q⟩
instance st_isiII {i : Int} : Stp (rIsi K [.int i, .ty "int"] H Q) (Q (.bl true) H) := ⟨fun h => rd_isiII h⟩
theorem rd_isiIB {i : Int} (q : Q (.bl false) H) : rIsi K [.int i, .ty "bool"] H Q := ⟨_, _, _, _, false, rfl, .ty _, .base (.int i), kit_ty (by decide +kernel), q⟩
instance st_isiIB {i : Int} : Stp (rIsi K [.int i, .ty "bool"] H Q) (Q (.bl false) H) := ⟨fun h => rd_isiIB h⟩
theorem rd_isiBB {b : Bool} (q : Q (.bl true) H) : rIsi K [.bl b, .ty "bool"] H Q := ⟨_, _, _, _, true, rfl, .ty _, .base (.bl b), kit_ty (by decide +kernel), q⟩
instance st_isiBB {b : Bool} : Stp (rIsi K [.bl b, .ty "bool"] H Q) (Q (.bl true) H) := ⟨fun h => rd_isiBB h⟩
theorem rd_unl {a : Addr} {xs : List V} {n : Nat} {t : TGs} (h : SqL K H a xs) (hn : xs.length = n) (q : t xs σ H N) : gUnl K n t (.ref a) σ H N := ⟨a, xs, rfl, h, hn, q⟩
theorem rd_slL {a : Addr} {xs : List V} {lo hi : Option Int} (h : SqL K H a xs) (q : ∀ p, H p = none → Q (.ref p) (upd H p (.lst (cutV xs lo hi)))) : rSlL K (.ref a) lo hi H Q := ⟨a, xs, rfl, h, q⟩
theorem rd_sl {r : V → Option Int → Option Int → Hp → VK → Prop} {te : TE} {tl th : TO} (h : te σ H fun x H1 => tl σ H1 fun l H2 => th σ H2 fun u H3 => r x l u H3 Q) : tSl r te tl th σ H Q := h
instance st_sl {r : V → Option Int → Option Int → Hp → VK → Prop} {te : TE} {tl th : TO} : Stp (tSl r te tl th σ H Q) (te σ H fun x H1 => tl σ H1 fun l H2 => th σ H2 fun u H3 => r x l u H3 Q) := ⟨fun h => rd_sl h⟩
theorem rd_noPart {R : Option Int → Hp → Prop} (q : R none H) : tNoPart σ H R := q
instance st_noPart {R : Option Int → Hp → Prop} : Stp (tNoPart σ H R) (R none H) := ⟨fun h => rd_noPart h⟩
def rPart (R : Option Int → Hp → Prop) (x : V) (H : Hp) : Prop := ∃ i, x = .int i ∧ R (some i) H
theorem rd_part {te : TE} {R : Option Int → Hp → Prop} (h : te σ H (rPart R)) : tPart te σ H R := h
instance st_part {te : TE} {R : Option Int → Hp → Prop} : Stp (tPart te σ H R) (te σ H (rPart R)) := ⟨fun h => rd_part h⟩
theorem rd_part1 {i : Int} {R : Option Int → Hp → Prop} (q : R (some i) H) : rPart R (.int i) H := ⟨i, rfl, q⟩
instance st_part1 {i : Int} {R : Option Int → Hp → Prop} : Stp (rPart R (.int i) H) (R (some i) H) := ⟨fun h => rd_part1 h⟩
theorem rd_cat {l b : Addr} {xs zs : List V} (h1 : H l = some (.lst xs)) (h2 : H b = some (.lst zs)) (h3 : xs.length + zs.length ≤ sizeLine) (q : ∀ p, H p = none → Q (.ref p) (upd H p (.lst (xs ++ zs)))) : rCat (.ref l) (.ref b) H Q := ⟨l, b, xs, zs, rfl, rfl, h1, h2, h3, q⟩
end
end L2
namespace L2
theorem lt_pow_of {i : Int} {k : Nat} (h1 : -(2 ^ k) < i) (h2 : i < 2 ^ k) : i.natAbs < 2 ^ k := by
  have e : ((2 ^ k : Nat) : Int) = 2 ^ k := by rw [Int.natCast_pow]; rfl
  omega
theorem CMulB.wide {i j : Int} (h1 : -(2 ^ 250) < i ∧ i < 2 ^ 250) (h2 : -(2 ^ 250) < j ∧ j < 2 ^ 250) : CMulB i j :=
  .inr (wide_mul (lt_pow_of h1.1 h1.2) (lt_pow_of h2.1 h2.2) (by decide) (by decide) (by decide))
end L2
namespace L2
open PySem PySem.Spec PyProof.Rows
section
variable {H : Hp} {Q : VK} {K : PySem.W.Frag} {p : Addr}
theorem rd_in2L {i a b : Int} (q : Q (.bl (decide (i = a ∨ i = b))) (upd H p (.lst [.int a, .int b]))) : rIn K false (.int i) (.ref p) (upd H p (.lst [.int a, .int b])) Q :=
  ⟨p, _, rfl, .inl (SqL.of upd_same), rfl, rfl, by
    show Q (.bl (inV (.int i) [.int a, .int b])) _
    rw [inV2]
    exact q⟩
instance st_in2L {i a b : Int} : Stp (rIn K false (.int i) (.ref p) (upd H p (.lst [.int a, .int b])) Q) (Q (.bl (decide (i = a ∨ i = b))) (upd H p (.lst [.int a, .int b]))) := ⟨fun h => rd_in2L h⟩
theorem rd_nin2L {i a b : Int} (q : Q (.bl (!decide (i = a ∨ i = b))) (upd H p (.lst [.int a, .int b]))) : rIn K true (.int i) (.ref p) (upd H p (.lst [.int a, .int b])) Q :=
  ⟨p, _, rfl, .inl (SqL.of upd_same), rfl, rfl, by
    show Q (.bl (!inV (.int i) [.int a, .int b])) _
    rw [inV2]
    exact q⟩
instance st_nin2L {i a b : Int} : Stp (rIn K true (.int i) (.ref p) (upd H p (.lst [.int a, .int b])) Q) (Q (.bl (!decide (i = a ∨ i = b))) (upd H p (.lst [.int a, .int b]))) := ⟨fun h => rd_nin2L h⟩
theorem rd_nin2 {i a b : Int} (q : Q (.bl (!decide (i = a ∨ i = b))) (upd H p (.tup [.int a, .int b]))) : rIn K true (.int i) (.ref p) (upd H p (.tup [.int a, .int b])) Q :=
  ⟨p, _, rfl, .inr (SqT.of upd_same), rfl, rfl, by
    show Q (.bl (!inV (.int i) [.int a, .int b])) _
    rw [inV2]
    exact q⟩
instance st_nin2 {i a b : Int} : Stp (rIn K true (.int i) (.ref p) (upd H p (.tup [.int a, .int b])) Q) (Q (.bl (!decide (i = a ∨ i = b))) (upd H p (.tup [.int a, .int b]))) := ⟨fun h => rd_nin2 h⟩
theorem beq_str {a s : Str} : (a == s) = decide (s = a) := by
  rw [Bool.beq_eq_decide_eq]
  exact decide_eq_decide.mpr eq_comm
theorem inVs4 {s a b c d : Str} : inV (.str s) [.str a, .str b, .str c, .str d] = decide (s = a ∨ s = b ∨ s = c ∨ s = d) := by
  simp only [inV, eqV, List.any_cons, List.any_nil, Bool.or_false, Bool.decide_or, beq_str]
theorem rd_ninS4 {s a b c d : Str} (q : Q (.bl (!decide (s = a ∨ s = b ∨ s = c ∨ s = d))) (upd H p (.lst [.str a, .str b, .str c, .str d]))) : rIn K true (.str s) (.ref p) (upd H p (.lst [.str a, .str b, .str c, .str d])) Q :=
  ⟨p, _, rfl, .inl (SqL.of upd_same), rfl, rfl, by
    show Q (.bl (!inV (.str s) [.str a, .str b, .str c, .str d])) _
    rw [inVs4]
    exact q⟩
instance st_ninS4 {s a b c d : Str} : Stp (rIn K true (.str s) (.ref p) (upd H p (.lst [.str a, .str b, .str c, .str d])) Q) (Q (.bl (!decide (s = a ∨ s = b ∨ s = c ∨ s = d))) (upd H p (.lst [.str a, .str b, .str c, .str d]))) := ⟨fun h => rd_ninS4 h⟩
end
end L2
namespace L2
open PySem PySem.Spec PyProof.Rows
theorem lay_all : ∀ {ds : List PyData}, (∀ d ∈ ds, d.canLay0 = true ∧ d.depth ≤ 60) → PyData.canLayAll0 ds = true ∧ PyData.depthAll ds ≤ 60
  | [], _ => ⟨rfl, Nat.zero_le _⟩
  | d :: ds, h => by
    obtain ⟨a, b⟩ := lay_all (ds := ds) fun e he => h e (List.mem_cons_of_mem _ he)
    obtain ⟨c, e⟩ := h d (List.mem_cons_self ..)
    simp only [PyData.canLayAll0, PyData.depthAll]
    exact ⟨by rw [c, a]; rfl, Nat.max_le.mpr ⟨e, b⟩⟩
theorem shaped_list {ds : List PyData} (h : ∀ d ∈ ds, d.canLay0 = true ∧ d.depth ≤ 60) : SeqAt.shaped (.list ds) = true := by
  obtain ⟨a, b⟩ := lay_all h
  unfold SeqAt.shaped
  have : (PyData.list ds).canLay0 = true := a
  rw [this, Bool.true_and, decide_eq_true_eq]
  show PyData.depthAll ds + 1 ≤ 64
  omega
theorem shaped_ints (ns : List Int) : SeqAt.shaped (.list (ns.map PyData.int)) = true := shaped_list fun d hd => by
  obtain ⟨n, _, rfl⟩ := List.mem_map.mp hd
  exact ⟨rfl, by simp [PyData.depth]⟩
theorem shaped_bls (ns : List Bool) : SeqAt.shaped (.list (ns.map PyData.bool)) = true := shaped_list fun d hd => by
  obtain ⟨n, _, rfl⟩ := List.mem_map.mp hd
  exact ⟨rfl, by simp [PyData.depth]⟩
section
variable {H : Hp} {Q : VK} {K : PySem.W.Frag} {a b p : Addr}
/-- two lists of whole numbers -/
theorem rd_eqInts {ns ms : List Int} (h1 : SqL K H a (ns.map V.int)) (h2 : SqL K H b (ms.map V.int)) (q : Q (.bl (decide (ns = ms))) H) : rEqD K (.ref a) (.ref b) H Q :=
  ⟨_, _, dp_ints h1, dp_ints h2, shaped_ints _, shaped_ints _, by rw [PyData.eqv, eqv_ints]; exact q⟩
theorem rd_neInts {ns ms : List Int} (h1 : SqL K H a (ns.map V.int)) (h2 : SqL K H b (ms.map V.int)) (q : Q (.bl (!decide (ns = ms))) H) : rNeD K (.ref a) (.ref b) H Q :=
  ⟨_, _, dp_ints h1, dp_ints h2, shaped_ints _, shaped_ints _, by rw [PyData.eqv, eqv_ints]; exact q⟩
/-- equal data -/
theorem rd_neSame {x y : V} {d : PyData} (h1 : Dp K H x d) (h2 : Dp K H y d) (s : SeqAt.shaped d = true) (q : Q (.bl false) H) : rNeD K x y H Q :=
  ⟨d, d, h1, h2, s, s, by rw [SeqAt.eqv_refl d (SeqAt.canLay_of_shaped s)]; exact q⟩
theorem rd_eqSame {x y : V} {d : PyData} (h1 : Dp K H x d) (h2 : Dp K H y d) (s : SeqAt.shaped d = true) (q : Q (.bl true) H) : rEqD K x y H Q :=
  ⟨d, d, h1, h2, s, s, by rw [SeqAt.eqv_refl d (SeqAt.canLay_of_shaped s)]; exact q⟩
theorem rd_isiL {xs : List V} (h : H a = some (.lst xs)) (q : Q (.bl true) H) : rIsi K [.ref a, .ty "list"] H Q := ⟨_, _, _, _, true, rfl, .ty _, .base (.lst h), kit_ty (by decide +kernel), q⟩
theorem rd_isiT {xs : List V} (h : H a = some (.tup xs)) (q : Q (.bl true) H) : rIsi K [.ref a, .ty "tuple"] H Q := ⟨_, _, _, _, true, rfl, .ty _, .base (.tup h), kit_ty (by decide +kernel), q⟩
end
end L2

namespace L2
open PySem PySem.Spec PyProof.Rows
theorem Same.lst {K : PySem.W.Frag} {H0 H : Hp} {a : Addr} {xs : List V} (e : Same H0 H) (h : H0 a = some (.lst xs)) : SqL K H a xs := SqL.of (e _ _ h)
theorem ne_self {α : Type} [DecidableEq α] (a : α) : (!decide (a = a)) = false := by simp
end L2
namespace L2
theorem rd_neF {p A B : Prop} [Decidable p] (h : p) (q : B) : if (!decide p) = true then A else B := by
  rw [decide_eq_true h]
  exact q
theorem rd_eqT {p A B : Prop} [Decidable p] (h : p) (q : A) : if decide p = true then A else B := by
  rw [decide_eq_true h]
  exact q
end L2
namespace L2
open PySem PySem.Spec PyProof.Rows
theorem inV_ints {x : Int} : ∀ {ns : List Int}, inV (.int x) (ns.map V.int) = decide (x ∈ ns)
  | [] => by simp [inV]
  | n :: ns => by
    have := inV_ints (x := x) (ns := ns)
    unfold inV at *
    rw [List.map_cons, List.any_cons, this, eqV, Bool.beq_eq_decide_eq, ← Bool.decide_or]
    refine decide_eq_decide.mpr ?_
    rw [List.mem_cons]
    exact or_congr eq_comm Iff.rfl
theorem flat_ints : ∀ {ns : List Int}, (ns.map V.int).all flatV = true
  | [] => rfl
  | _ :: ns => by
    rw [List.map_cons, List.all_cons, flat_ints (ns := ns)]
    rfl
section
variable {σ : St} {H : Hp} {Q : VK} {K : PySem.W.Frag} {p : Addr} {te : TE} {tt : TC}
theorem rd_inIs {x : Int} {ns : List Int} (h : SqL K H p (ns.map V.int)) (q : Q (.bl (decide (x ∈ ns))) H) : rIn K false (.int x) (.ref p) H Q :=
  rd_inL h rfl flat_ints (by rw [inV_ints]; exact q)
theorem rd_ninIs {x : Int} {ns : List Int} (h : SqL K H p (ns.map V.int)) (q : Q (.bl (!decide (x ∈ ns))) H) : rIn K true (.int x) (.ref p) H Q :=
  ⟨p, _, rfl, .inl h, rfl, flat_ints, by rw [inV_ints]; exact q⟩
theorem all_map {n : Nat} {g : Nat → Int} : ((List.range n).filter (fun _ => true)).map (fun i => V.int (g i)) = ((List.range n).map g).map V.int := by
  rw [List.filter_eq_self.mpr (fun _ _ => rfl), List.map_map]
  rfl
end
end L2
namespace L2
open PySem PySem.Spec PyProof.Rows
section
variable {σ : St} {H : Hp} {Q : VK} {K : PySem.W.Frag} {te : TE} {tt : TT}
/-- a list comprehension over a range whose items come from what stands in the heap -/
theorem rd_lcRG {lo : Int} {n : Nat} {g : TG} {vs : List Nat} (J : Addr → Nat → List V → Hp → Prop) (h0 : ∀ D, H D = none → J D 0 [] (upd H D (.lst [])))
    (hs : ∀ D i ys H', H D = none → i < n → H' D = some (.lst ys) → J D i ys H' → g (.int (lo + i)) (wipe σ vs) H' fun σ2 H2 => wipe σ2 vs = wipe σ vs ∧ tt σ2 H2 fun b H3 => if b = true then te σ2 H3 (fun y H4 => ∃ acc, H4 D = some (.lst acc) ∧ acc.length < sizeLine ∧ ∃ ys, (upd H4 D (.lst (acc ++ [y]))) D = some (.lst ys) ∧ J D (i + 1) ys (upd H4 D (.lst (acc ++ [y])))) else ∃ ys, H3 D = some (.lst ys) ∧ J D (i + 1) ys H3)
    (q : ∀ D ys H', H D = none → H' D = some (.lst ys) → J D n ys H' → Q (.ref D) H') : lcB (Itr lo n) g tt te vs σ Q H := by
  intro D hD
  refine ⟨fun i m H' => m = n - i ∧ i ≤ n ∧ ∃ ys, H' D = some (.lst ys) ∧ J D i ys H', ⟨n, by simp, Nat.zero_le _, _, upd_same, h0 D hD⟩, ?_⟩
  rintro i m H' ⟨rfl, hi, ys, hy, hj⟩
  by_cases hlt : i < n
  · refine .inr ⟨hlt, fun H' => ∃ ys, H' D = some (.lst ys) ∧ J D (i + 1) ys H', fun H' p' => ⟨n - (i + 1), by omega, rfl, hlt, p'⟩, fun x H' y => ?_⟩
    obtain ⟨e, y⟩ := y
    subst e y
    exact hs D i ys _ hD hlt hy hj
  · have e : i = n := by omega
    subst e
    exact .inl ⟨Nat.le_refl _, q D ys H' hD hy hj⟩
theorem put_G {J : Addr → Nat → List V → Hp → Prop} {D : Addr} {i : Nat} {H4 : Hp} {acc : List V} {y : V} (h : H4 D = some (.lst acc)) (hl : acc.length < sizeLine) (j : J D (i + 1) (acc ++ [y]) (upd H4 D (.lst (acc ++ [y])))) :
    ∃ acc, H4 D = some (.lst acc) ∧ acc.length < sizeLine ∧ ∃ ys, (upd H4 D (.lst (acc ++ [y]))) D = some (.lst ys) ∧ J D (i + 1) ys (upd H4 D (.lst (acc ++ [y]))) := ⟨acc, h, hl, _, upd_same, j⟩
end
end L2

namespace L2
open PySem PySem.Spec PyProof.Rows
/-! ### classes of the text: fields, methods, making, ==, calls -/
structure MethAt (K : PySem.W.Frag) (C : Addr) (m qual : Str) (st : Stmt) (ps : List Str) : Prop where
  ex : ∃ (f : Addr) (fd : FuncData), Fun K m qual st f fd ∧ Meth K C m f ∧ Binds K fd ps []
structure MDef (P : Program) (w : World) (K : PySem.W.Frag) (mg : Str → Option Value) (base : Heap) (k : Nat) (C : Addr) (m : Str) (ps : List Str) (sp : Sp) : Prop where
  ex : ∃ (f : Addr) (fd : FuncData), FnOk P w K mg base (L2.CX P w) k f fd ps sp ∧ Meth K C m f ∧ Binds K fd ps []
structure MkAt (K : PySem.W.Frag) (mg : Str → Option Value) (x : Str) (C : Addr) (qual : Str) (st : Stmt) (ps : List Str) : Prop where
  ex : ∃ (f : Addr) (fd : FuncData), Fun K "__init__" qual st f fd ∧ Mk K C f ∧ Binds K fd ps []
  g : mg x = some (.ref C)
structure MkDef (P : Program) (w : World) (K : PySem.W.Frag) (mg : Str → Option Value) (base : Heap) (k : Nat) (x : Str) (C : Addr) (ps : List Str) (sp : Sp) : Prop where
  ex : ∃ (f : Addr) (fd : FuncData), FnOk P w K mg base (L2.CX P w) k f fd ps sp ∧ Mk K C f ∧ Binds K fd ps []
  g : mg x = some (.ref C)
section
variable {P : Program} {w : World} {K : PySem.W.Frag} {mg : Str → Option Value} {base : Heap}
theorem MethAt.ok {C : Addr} {m qual : Str} {st : Stmt} {N ps : List Str} {k : Nat} {sp : Sp} (D : MethAt K C m qual st ps) (S : FnScope N ps (defScope st)) (len : ∀ vs H Q E, sp vs H Q E → vs.length = ps.length)
    (hbody : ∀ (f : Addr) (cdv : Value) (A : Around) (outer : List Env) (s : Shared) (H : Hp) (vs : List V) (Q : VK) (E : XK), Room k (A.deeper (envOfC qual (defScope st) s.heap.objs.size f cdv)) → sp vs H Q E →
      ∃ t, PSs (cxOf (L2.CX P w) P w K mg base N qual (defScope st) f cdv A outer s H E) (defBody st) t ∧ t ⟨fun _ H' => Q .non H', Q, fun _ _ => False, fun _ _ => False⟩ (start N vs) H) : MDef P w K mg base (k + 1) C m ps sp := by
  obtain ⟨f, fd, F, g, b⟩ := D.ex
  exact ⟨f, fd, F.okX S len fun cdv A outer s H vs Q E hr h => hbody f cdv A outer s H vs Q E hr h, g, b⟩
theorem MkAt.ok {x : Str} {C : Addr} {qual : Str} {st : Stmt} {N ps : List Str} {k : Nat} {sp : Sp} (D : MkAt K mg x C qual st ps) (S : FnScope N ps (defScope st)) (len : ∀ vs H Q E, sp vs H Q E → vs.length = ps.length)
    (hbody : ∀ (f : Addr) (cdv : Value) (A : Around) (outer : List Env) (s : Shared) (H : Hp) (vs : List V) (Q : VK) (E : XK), Room k (A.deeper (envOfC qual (defScope st) s.heap.objs.size f cdv)) → sp vs H Q E →
      ∃ t, PSs (cxOf (L2.CX P w) P w K mg base N qual (defScope st) f cdv A outer s H E) (defBody st) t ∧ t ⟨fun _ H' => Q .non H', Q, fun _ _ => False, fun _ _ => False⟩ (start N vs) H) : MkDef P w K mg base (k + 1) x C ps sp := by
  obtain ⟨f, fd, F, g, b⟩ := D.ex
  exact ⟨⟨f, fd, F.okX S len fun cdv A outer s H vs Q E hr h => hbody f cdv A outer s H vs Q E hr h, g, b⟩, D.g⟩
theorem MDef.imp {k : Nat} {C : Addr} {m : Str} {ps : List Str} {sp sp' : Sp} (D : MDef P w K mg base k C m ps sp) (h : ∀ vs H Q E, sp' vs H Q E → sp vs H Q E) : MDef P w K mg base k C m ps sp' := by
  obtain ⟨f, fd, F, g, b⟩ := D.ex
  exact ⟨f, fd, F.imp h, g, b⟩
theorem MDef.mono {j k : Nat} {C : Addr} {m : Str} {ps : List Str} {sp : Sp} (D : MDef P w K mg base j C m ps sp) (h : j ≤ k) : MDef P w K mg base k C m ps sp := by
  obtain ⟨f, fd, F, g, b⟩ := D.ex
  exact ⟨f, fd, F.mono h, g, b⟩
theorem MDef.forget {k : Nat} {C : Addr} {m : Str} {ps : List Str} {sp : Sp} (D : MDef P w K mg base k C m ps sp) : MDef P w K mg base k C m ps (fun vs H Q E => NoT H ∧ sp vs H (fun v H' => Same H H' ∧ Q v H) E) := by
  obtain ⟨f, fd, F, g, b⟩ := D.ex
  exact ⟨f, fd, fn_forget F, g, b⟩
end
def tFldC (C : Addr) (ta : TE) (f : Str) : TE := fun σ H Q => ta σ H fun x H1 => ∃ a dx fs v, x = .ref a ∧ H1 a = some (.ins C dx fs) ∧ fs.lookup f = some v ∧ Q v H1
def sFldC (C : Addr) (ta tv : TE) (f : Str) : TS := fun D σ H => tv σ H fun y H1 => ta σ H1 fun x H2 => ∃ a dx fs, x = .ref a ∧ H2 a = some (.ins C dx fs) ∧ fs.length < 1000 ∧ D.nx σ (upd H2 a (.ins C dx (putF f y fs)))
def tCallC (C : Addr) (sp : Sp) (E : XK) (tf : TE) (t : TA) : TE := fun σ H Q => tf σ H fun y H1 => ∃ a, y = V.ref a ∧ t σ H1 fun vs H2 => (∃ dx fs, H2 a = some (.ins C dx fs)) ∧ sp (V.ref a :: vs) H2 Q E
def rEqO (K : PySem.W.Frag) (C : Addr) (sp : Sp) (E : XK) : R2 := fun x y H Q => ∃ a dx fs ty, x = .ref a ∧ H a = some (.ins C dx fs) ∧ TyX K H y ty ∧ PySem.W.notFirst K C ty = true ∧ sp [.ref a, y] H (fun v H' => (∃ b, v = .bl b) ∧ Q v H') E
section
variable {X : Cx} {o e value : Expr} {es : List Expr} {f : Str} {pos pos' tpos apos p : Pos} {ta tv : TE} {t : TA} {C : Addr}
theorem pe_fldC (he : PE X e ta) (c : Cls X.K C) (n : NoAttr X.K C f) (hb : attributeBase e f X.env (eval e X.env) = eval e X.env := by rfl) : PE X (.Attribute e f pos) (tFldC C ta f) := by
  refine ⟨fun pins s σ H Q I h => ?_⟩
  refine attr_of hb (thn (he.run pins s σ H _ I h) fun u s1 ⟨x, H1, I1, rx, a, dx, fs, v, ex, ea, l, q⟩ => ?_)
  subst ex
  obtain rfl : u = Value.ref a := rx
  exact getattr_ok I1 ea c n l fun u' s2 I2 ru => ⟨v, H1, I2, ru, q⟩
theorem ps_fldC (ha : PE X o ta) (hv : PE X value tv) (c : Cls X.K C) (n : NoAttr X.K C f) (hs : swapsWith value (some (.Attribute o f pos')) pos.line X.env = pure false := by rfl) : PS X (.Assign [.Attribute o f pos'] value pos) (sFldC C ta tv f) := by
  refine ⟨fun pins s σ H D I h => ?_⟩
  refine plainObj_wpAny_Assign_Attribute (thn (hv.run pins s σ H _ I h) fun u s1 ⟨y, H1, I1, ry, q⟩ => thn (ha.run pins s1 σ H1 _ I1 q) fun ov s2 ⟨x, H2, I2, rx, a, dx, fs, ex, ea, l, q2⟩ => ?_) hs
  subst ex
  obtain rfl : ov = Value.ref a := rx
  exact setattr_ok I2 ea c n l ry fun s3 I3 => ⟨σ, _, I3, q2⟩
theorem pe_md {k : Nat} {m : Str} {ps : List Str} {sp : Sp} {E : XK} {pl : Sem Bool} (D : MDef X.prog X.w X.K X.mg X.base k C m ps sp) (he : PE X o ta) (c : Cls X.K C) (hr : Room k X.A) (hx : Passes (L2.CX X.prog X.w) X E) (ha : PA X (e :: es) t)
    (hst : starEach (e :: es) X.env = (false, eval e X.env) :: starEach es X.env := by rfl) (hpl : (backTo pos (starEach es X.env)).any (·.1) = false := by rfl)
    (ht : eval (.Call (.Attribute o m apos) (e :: es) [] pos) X.env = (do
      let ov ← eval o X.env
      standAt apos.atName
      let (f, first) ← holding [ov] (getMethod ov m pl)
      callWith pos f first (backTo pos (starEach (e :: es) X.env)) (backToKw pos (keywordEach [] X.env))) := by rfl) :
    PE X (.Call (.Attribute o m apos) (e :: es) [] pos) (tMeth C m sp [] E ta t) := by
  obtain ⟨f, fd, F, g, b⟩ := D.ex
  exact pe_meth he c g F hr b .nil hx ha hst hpl ht
theorem pe_md0 {k : Nat} {m : Str} {ps : List Str} {sp : Sp} {E : XK} {pl : Sem Bool} (D : MDef X.prog X.w X.K X.mg X.base k C m ps sp) (he : PE X o ta) (c : Cls X.K C) (hr : Room k X.A) (hx : Passes (L2.CX X.prog X.w) X E)
    (ht : eval (.Call (.Attribute o m apos) [] [] pos) X.env = (do
      let ov ← eval o X.env
      standAt apos.atName
      let (f, first) ← holding [ov] (getMethod ov m pl)
      callWith pos f first (backTo pos (starEach [] X.env)) (backToKw pos (keywordEach [] X.env))) := by rfl) :
    PE X (.Call (.Attribute o m apos) [] [] pos) (tMeth C m sp [] E ta tNil) := by
  obtain ⟨f, fd, F, g, b⟩ := D.ex
  exact pe_meth0 he c g F hr b .nil hx ht
theorem pe_mkd {k : Nat} {x : Str} {ps : List Str} {sp : Sp} {E : XK} (D : MkDef X.prog X.w X.K X.mg X.base k x C ps sp) (hr : Room (k + 1) X.A) (hx : Passes (L2.CX X.prog X.w) X E) (ha : PA X (e :: es) t) (hg : Gl X x := by rfl)
    (hdb : (x == ("__debug__" : Str)) = false := by decide) (he : starEach (e :: es) X.env = (false, eval e X.env) :: starEach es X.env := by rfl) (hpl : (backTo pos (starEach es X.env)).any (·.1) = false := by rfl) :
    PE X (.Call (.Name x p) (e :: es) [] pos) (tMake C sp [] E t) := by
  obtain ⟨f, fd, F, M, b⟩ := D.ex
  exact pe_make M F hr hg D.g b .nil hx ha hdb he hpl
theorem pe_mkd0 {k : Nat} {x : Str} {ps : List Str} {sp : Sp} {E : XK} (D : MkDef X.prog X.w X.K X.mg X.base k x C ps sp) (hr : Room (k + 1) X.A) (hx : Passes (L2.CX X.prog X.w) X E) (hg : Gl X x := by rfl)
    (hdb : (x == ("__debug__" : Str)) = false := by decide) :
    PE X (.Call (.Name x p) [] [] pos) (tMake C sp [] E tNil) := by
  obtain ⟨f, fd, F, M, b⟩ := D.ex
  exact pe_make0 M F hr hg D.g b .nil hx hdb
theorem pe_mcall {k : Nat} {ps : List Str} {sp : Sp} {E : XK} {fe : Expr} {tf : TE} (D : MDef X.prog X.w X.K X.mg X.base k C "__call__" ps sp) (fi : ∀ g, PySem.W.findIn X.K (.ref C) "__call__" = some (some (.ref g)) → PySem.W.fnIn X.K g = true) (hf : PE X fe tf) (hr : Room k X.A) (hx : Passes (L2.CX X.prog X.w) X E) (ha : PA X (e :: es) t)
    (ht : eval (.Call fe (e :: es) [] pos) X.env = (do callWith pos (← eval fe X.env) [] (backTo pos (starEach (e :: es) X.env)) (backToKw pos (keywordEach [] X.env))) := by rfl)
    (he : starEach (e :: es) X.env = (false, eval e X.env) :: starEach es X.env := by rfl) (hpl : (backTo pos (starEach es X.env)).any (·.1) = false := by rfl) :
    PE X (.Call fe (e :: es) [] pos) (tCallC C sp E tf t) := by
  obtain ⟨f, fd, F, g, b⟩ := D.ex
  refine ⟨fun pins s σ H Q I h => ?_⟩
  refine Call_ (thn (hf.run pins s σ H _ I h) fun u s1 ⟨y, H1, I1, ry, a, ey, q⟩ => ?_) ht
  subst ey
  obtain rfl : u = Value.ref a := ry
  refine StX.callO_with (thn (ha.run pos pins s1 σ H1 _ I1 q) fun us s2 ⟨vs, H2, I2, r, hi, q2⟩ => ?_) he hpl
  obtain ⟨ox, od, J, hd⟩ := StX.insC_at I2 (.inr hi)
  refine ⟨⟨C, ox, od, J, hd⟩, StX.run_callO (sp := fun vs H Q E => sp (vs ++ []) H Q E) ⟨g.at_, g.fn, fi f g.at_⟩ (F.raw b .nil) hr hx I2 (.inr hi) r ?_⟩
  rw [List.append_nil]
  exact q2
/-- x == y, x an instance of C with an own __eq__ -/
theorem op_eqO {k : Nat} {ps : List Str} {sp : Sp} {E : XK} (D : MDef X.prog X.w X.K X.mg X.base k C "__eq__" ps sp) (hr : Room k X.A) (hu : X.A.units < cLine) (hx : Passes (L2.CX X.prog X.w) X E) : OpR X (compareOp .Eq) (rEqO X.K C sp E) := by
  intro pins s σ H x y v u Q I rx ry h
  obtain ⟨f, fd, F, g, b⟩ := D.ex
  obtain ⟨a, dx, fs, ty, rfl, ha, hty, hn, hsp⟩ := h
  cases (show v = Value.ref a from rx)
  obtain ⟨mA, J, _⟩ := ins_get I.hok ha
  obtain ⟨od, J, _⟩ := J.look
  obtain ⟨m, hF⟩ := I.fr
  obtain ⟨P, Z, hp, _⟩ := kit_of I ry hty
  show wpAny (model X.prog X.w) X.A (richCompare .Eq (.ref a) u) (EP X pins σ Q) X.xe s
  refine PySem.W.cmp_K (op := .Eq) (tb := ty) hu hF I.ok.mod.kin J (Z.ty _ s.heap I.kIn hp) hn g.at_ g.fn ?_
  have hl := F.len _ _ _ _ hsp
  refine wpAny_mono (run_fn (dvs := []) (ds := []) (us := [.ref a, u]) (vs := [.ref a, y]) F hr b .nil hx I (.cons rfl (.cons ry .nil)) hsp) (fun r s' q => ?_) fun _ _ z => z
  obtain ⟨z, H', I', rz, ⟨bb, rfl⟩, q⟩ := q
  cases (show r = Value.bool bb from rz)
  exact ⟨.bl bb, H', I', rfl, q⟩
end
section
variable {σ : St} {H : Hp} {Q : VK} {C p : Addr} {ta tv : TE} {t : TA} {f m : Str} {v : V} {nx : St → Hp → Prop} {rt : VK} {bk ct : St → Hp → Prop} {sp : Sp} {E : XK}
theorem rd_fldC (h : ta σ H fun x H1 => ∃ a dx fs v, x = .ref a ∧ H1 a = some (.ins C dx fs) ∧ fs.lookup f = some v ∧ Q v H1) : tFldC C ta f σ H Q := h
instance st_fldC  : Stp (tFldC C ta f σ H Q) (ta σ H fun x H1 => ∃ a dx fs v, x = .ref a ∧ H1 a = some (.ins C dx fs) ∧ fs.lookup f = some v ∧ Q v H1) := ⟨fun h => rd_fldC h⟩
theorem rd_fld1 {dx : Addr} {fs : List (Str × V)} {S : V → Prop} (h : H p = some (.ins C dx fs)) (l : fs.lookup f = some v) (q : S v) : ∃ a dx fs v, V.ref p = .ref a ∧ H a = some (.ins C dx fs) ∧ fs.lookup f = some v ∧ S v := ⟨p, dx, fs, v, rfl, h, l, q⟩
theorem rd_sfldC (h : tv σ H fun y H1 => ta σ H1 fun x H2 => ∃ a dx fs, x = .ref a ∧ H2 a = some (.ins C dx fs) ∧ fs.length < 1000 ∧ nx σ (upd H2 a (.ins C dx (putF f y fs)))) : sFldC C ta tv f ⟨nx, rt, bk, ct⟩ σ H := h
instance st_sfldC  : Stp (sFldC C ta tv f ⟨nx, rt, bk, ct⟩ σ H) (tv σ H fun y H1 => ta σ H1 fun x H2 => ∃ a dx fs, x = .ref a ∧ H2 a = some (.ins C dx fs) ∧ fs.length < 1000 ∧ nx σ (upd H2 a (.ins C dx (putF f y fs)))) := ⟨fun h => rd_sfldC h⟩
theorem rd_sfld1 {dx : Addr} {fs : List (Str × V)} {S : Addr → Addr → List (Str × V) → Prop} (h : H p = some (.ins C dx fs)) (l : fs.length < 1000) (q : S p dx fs) : ∃ a dx fs, V.ref p = .ref a ∧ H a = some (.ins C dx fs) ∧ fs.length < 1000 ∧ S a dx fs := ⟨p, dx, fs, rfl, h, l, q⟩
theorem rd_meth (h : ta σ H fun x H1 => ∃ a dx fs, x = .ref a ∧ H1 a = some (.ins C dx fs) ∧ fs.lookup m = none ∧ t σ H1 fun vs H2 => sp (x :: vs) H2 Q E) : tMeth C m sp [] E ta t σ H Q := by
  show ta σ H fun x H1 => ∃ a dx fs, x = .ref a ∧ H1 a = some (.ins C dx fs) ∧ fs.lookup m = none ∧ t σ H1 fun vs H2 => sp (x :: (vs ++ [])) H2 Q E
  simp only [List.append_nil]
  exact h
instance st_meth  : Stp (tMeth C m sp [] E ta t σ H Q) (ta σ H fun x H1 => ∃ a dx fs, x = .ref a ∧ H1 a = some (.ins C dx fs) ∧ fs.lookup m = none ∧ t σ H1 fun vs H2 => sp (x :: vs) H2 Q E) := ⟨fun h => rd_meth h⟩
theorem rd_meth1 {dx : Addr} {fs : List (Str × V)} {S : Prop} (h : H p = some (.ins C dx fs)) (l : fs.lookup m = none) (q : S) : ∃ a dx fs, V.ref p = .ref a ∧ H a = some (.ins C dx fs) ∧ fs.lookup m = none ∧ S := ⟨p, dx, fs, rfl, h, l, q⟩
theorem rd_make (h : t σ H fun vs H1 => ∀ x dx, H1 x = none → H1 dx = none → dx ≠ x → sp (.ref x :: vs) (upd (upd H1 dx (.own x)) x (.ins C dx [])) (fun v H2 => v = .non ∧ Q (.ref x) H2) E) : tMake C sp [] E t σ H Q := by
  show t σ H fun vs H1 => ∀ x dx, H1 x = none → H1 dx = none → dx ≠ x → sp (.ref x :: (vs ++ [])) (upd (upd H1 dx (.own x)) x (.ins C dx [])) (fun v H2 => v = .non ∧ Q (.ref x) H2) E
  simp only [List.append_nil]
  exact h
instance st_make  : Stp (tMake C sp [] E t σ H Q) (t σ H fun vs H1 => ∀ x dx, H1 x = none → H1 dx = none → dx ≠ x → sp (.ref x :: vs) (upd (upd H1 dx (.own x)) x (.ins C dx [])) (fun v H2 => v = .non ∧ Q (.ref x) H2) E) := ⟨fun h => rd_make h⟩
theorem rd_callC (h : ta σ H fun y H1 => ∃ a, y = V.ref a ∧ t σ H1 fun vs H2 => (∃ dx fs, H2 a = some (.ins C dx fs)) ∧ sp (V.ref a :: vs) H2 Q E) : tCallC C sp E ta t σ H Q := h
instance st_callC : Stp (tCallC C sp E ta t σ H Q) (ta σ H fun y H1 => ∃ a, y = V.ref a ∧ t σ H1 fun vs H2 => (∃ dx fs, H2 a = some (.ins C dx fs)) ∧ sp (V.ref a :: vs) H2 Q E) := ⟨fun h => rd_callC h⟩
theorem rd_callO1 {S : Addr → Prop} (q : S p) : ∃ a, V.ref p = V.ref a ∧ S a := ⟨p, rfl, q⟩
instance st_callO1 {S : Addr → Prop} : Stp (∃ a, V.ref p = V.ref a ∧ S a) (S p) := ⟨fun q => rd_callO1 q⟩
theorem rd_callO2 {dx : Addr} {fs : List (Str × V)} {S : Prop} (h : H p = some (.ins C dx fs)) (q : S) : (∃ dx fs, H p = some (.ins C dx fs)) ∧ S := ⟨⟨dx, fs, h⟩, q⟩
theorem rd_isB {a b : Bool} (q : Q (.bl (decide (a = b))) H) : rIsB (.bl a) (.bl b) H Q := ⟨a, b, rfl, rfl, q⟩
instance st_isB {a b : Bool} : Stp (rIsB (.bl a) (.bl b) H Q) (Q (.bl (decide (a = b))) H) := ⟨fun h => rd_isB h⟩
theorem rd_notB {a b : Bool} (q : Q (.bl (!decide (a = b))) H) : rNotB (.bl a) (.bl b) H Q := ⟨a, b, rfl, rfl, q⟩
instance st_notB {a b : Bool} : Stp (rNotB (.bl a) (.bl b) H Q) (Q (.bl (!decide (a = b))) H) := ⟨fun h => rd_notB h⟩
theorem rd_isNone {x : V} (q : Q (.bl (decide (x = .non))) H) : (V.non = V.non) ∧ Q (.bl (decide (x = .non))) H := ⟨rfl, q⟩
instance st_isNone {x : V} : Stp ((V.non = V.non) ∧ Q (.bl (decide (x = .non))) H) (Q (.bl (decide (x = .non))) H) := ⟨fun h => rd_isNone h⟩
end
theorem kit_self {K : PySem.W.Frag} {C : Addr} : PySem.W.kitOne K (.ref C) (.ref C) = some true := if_pos (by simp)
theorem sub_ty {K : PySem.W.Frag} {C : Addr} {T : String} {l : List Value} (h : fastBuiltinMro T = some l) (hl : l.contains (.ref C) = false) : PySem.W.subIn K (.type T) (.ref C) = some false := by
  show (fastBuiltinMro T).map (·.contains (.ref C)) = some false
  rw [h, Option.map_some, hl]
theorem sub_list {K : PySem.W.Frag} {C : Addr} : PySem.W.subIn K (.type "list") (.ref C) = some false := rfl
theorem kit_list {K : PySem.W.Frag} {C : Addr} (h1 : PySem.W.isClsIn K C = true) (h2 : PySem.W.typeIn K (.ref C) = some (.type "type")) : PySem.W.kitOne K (.type "list") (.ref C) = some false := by
  have e : ((PySem.W.clsIn K C).isSome && PySem.W.typeIn K (.ref C) == some (.type "type")) = true := by
    have h1' : (PySem.W.clsIn K C).isSome = true := h1
    rw [h1', h2] <;> rfl
  show (if (Value.type "list" == Value.ref C) = true then some true else if ((PySem.W.clsIn K C).isSome && PySem.W.typeIn K (.ref C) == some (.type "type")) = true then PySem.W.subIn K (.type "list") (.ref C) else none) = some false
  rw [if_neg (by intro z; cases z), if_pos e]
  exact sub_list
theorem notFirst_list {K : PySem.W.Frag} {C : Addr} : PySem.W.notFirst K C (.type "list") = true := by
  unfold PySem.W.notFirst
  rw [sub_list]
  rfl
end L2

namespace L2
open PySem PySem.Spec PyProof.Rows
/-! ### data without bools: what == tells is equality -/
mutual
def okD : PyData → Nat → Bool
  | .none, _ => true
  | .int _, _ => true
  | .str s, _ => PyData.strOk s
  | .list xs, n => decide (0 < n) && okDs xs (n - 1)
  | .tuple xs, n => decide (0 < n) && okDs xs (n - 1)
  | .bool _, _ => false
  | .dict _, _ => false
def okDs : List PyData → Nat → Bool
  | [], _ => true
  | x :: xs, n => okD x n && okDs xs n
end
mutual
theorem okD_lay : ∀ (d : PyData) (n : Nat), okD d n = true → d.canLay0 = true ∧ d.depth ≤ n
  | .none, _, _ => ⟨rfl, by simp [PyData.depth]⟩
  | .int _, _, _ => ⟨rfl, by simp [PyData.depth]⟩
  | .str s, _, h => ⟨by simpa [okD, PyData.canLay0] using h, by simp [PyData.depth]⟩
  | .list xs, n, h => by
    simp only [okD, Bool.and_eq_true, decide_eq_true_eq] at h
    obtain ⟨a, b⟩ := okDs_lay xs (n - 1) h.2
    refine ⟨by rw [PyData.canLay0]; exact a, ?_⟩
    simp only [PyData.depth]
    omega
  | .tuple xs, n, h => by
    simp only [okD, Bool.and_eq_true, decide_eq_true_eq] at h
    obtain ⟨a, b⟩ := okDs_lay xs (n - 1) h.2
    refine ⟨by rw [PyData.canLay0]; exact a, ?_⟩
    simp only [PyData.depth]
    omega
  | .bool _, _, h => by simp [okD] at h
  | .dict _, _, h => by simp [okD] at h
theorem okDs_lay : ∀ (ds : List PyData) (n : Nat), okDs ds n = true → PyData.canLayAll0 ds = true ∧ PyData.depthAll ds ≤ n
  | [], _, _ => ⟨rfl, Nat.zero_le _⟩
  | d :: ds, n, h => by
    simp only [okDs, Bool.and_eq_true] at h
    obtain ⟨a, b⟩ := okD_lay d n h.1
    obtain ⟨c, e⟩ := okDs_lay ds n h.2
    simp only [PyData.canLayAll0, PyData.depthAll]
    exact ⟨by rw [a, c]; rfl, Nat.max_le.mpr ⟨b, e⟩⟩
end
theorem okD_shaped {d : PyData} (h : okD d 60 = true) : SeqAt.shaped d = true := by
  obtain ⟨a, b⟩ := okD_lay d 60 h
  unfold SeqAt.shaped
  rw [a, Bool.true_and, decide_eq_true_eq]
  omega
mutual
theorem okD_eqv : ∀ (d e : PyData) (n m : Nat), okD d n = true → okD e m = true → (PyData.eqv d e = true ↔ d = e)
  | .none, e, _, _, _, h => by cases e <;> simp [PyData.eqv, okD] at h ⊢
  | .int i, e, _, _, _, h => by cases e <;> simp [PyData.eqv, okD] at h ⊢
  | .str s, e, _, _, _, h => by cases e <;> simp [PyData.eqv, okD] at h ⊢
  | .list xs, e, n, m, h1, h => by
    cases e with
    | list ys =>
      simp only [okD, Bool.and_eq_true, decide_eq_true_eq] at h1 h
      rw [PyData.eqv, okDs_eqv xs ys _ _ h1.2 h.2]
      simp
    | _ => simp [PyData.eqv, okD] at h ⊢
  | .tuple xs, e, n, m, h1, h => by
    cases e with
    | tuple ys =>
      simp only [okD, Bool.and_eq_true, decide_eq_true_eq] at h1 h
      rw [PyData.eqv, okDs_eqv xs ys _ _ h1.2 h.2]
      simp
    | _ => simp [PyData.eqv, okD] at h ⊢
  | .bool _, _, _, _, h1, _ => by simp [okD] at h1
  | .dict _, _, _, _, h1, _ => by simp [okD] at h1
theorem okDs_eqv : ∀ (ds es : List PyData) (n m : Nat), okDs ds n = true → okDs es m = true → (PyData.eqvAll ds es = true ↔ ds = es)
  | [], es, _, _, _, _ => by cases es <;> simp [PyData.eqvAll]
  | d :: ds, es, n, m, h1, h2 => by
    cases es with
    | nil => simp [PyData.eqvAll]
    | cons e es =>
      simp only [okDs, Bool.and_eq_true] at h1 h2
      rw [PyData.eqvAll, Bool.and_eq_true, okD_eqv d e n m h1.1 h2.1, okDs_eqv ds es n m h1.2 h2.2]
      simp
end
theorem okD_dec {d e : PyData} [Decidable (d = e)] (h1 : okD d 60 = true) (h2 : okD e 60 = true) : PyData.eqv d e = decide (d = e) := by
  rw [Bool.eq_iff_iff, okD_eqv d e 60 60 h1 h2, decide_eq_true_iff]
theorem okDs_map {α : Type} {f : α → PyData} {n : Nat} : ∀ {l : List α}, (∀ x ∈ l, okD (f x) n = true) → okDs (l.map f) n = true
  | [], _ => rfl
  | x :: l, h => by
    rw [List.map_cons, okDs, h x (List.mem_cons_self ..), okDs_map fun y hy => h y (List.mem_cons_of_mem _ hy)]
    rfl
open Classical in
noncomputable instance decD (d e : PyData) : Decidable (d = e) := Classical.propDecidable _
section
variable {K : PySem.W.Frag} {H H' : Hp} {Q : VK} {x y : V} {d e : PyData}
theorem rd_eqP {p : Prop} [Decidable p] (h1 : Dp K H x d) (h2 : Dp K H y e) (o1 : okD d 60 = true) (o2 : okD e 60 = true) (hp : d = e ↔ p) (q : Q (.bl (decide p)) H) : rEqD K x y H Q :=
  ⟨d, e, h1, h2, okD_shaped o1, okD_shaped o2, by rw [okD_dec o1 o2, decide_eq_decide.mpr hp]; exact q⟩
theorem rd_neP {p : Prop} [Decidable p] (h1 : Dp K H x d) (h2 : Dp K H y e) (o1 : okD d 60 = true) (o2 : okD e 60 = true) (hp : d = e ↔ p) (q : Q (.bl (!decide p)) H) : rNeD K x y H Q :=
  ⟨d, e, h1, h2, okD_shaped o1, okD_shaped o2, by rw [okD_dec o1 o2, decide_eq_decide.mpr hp]; exact q⟩
theorem Same.seqT {K : PySem.W.Frag} {H H' : Hp} {a : Addr} {xs : List V} (e : Same H H') (h : SqT K H a xs) : SqT K H' a xs := by
  rcases h with (h | ⟨o, h⟩) | h
  · exact .inl (.inl (e _ _ h))
  · exact .inl (.inr ⟨o, e _ _ h⟩)
  · exact .inr h
mutual
theorem Dp.same (s : Same H H') : ∀ {v : V} {d : PyData}, Dp K H v d → Dp K H' v d
  | _, _, .non => .non
  | _, _, .bl b => .bl b
  | _, _, .int i => .int i
  | _, _, .str x => .str x
  | _, _, .lst h a => .lst (s.seq h) (DpAll.same s a)
  | _, _, .tup h a => .tup (Same.seqT s h) (DpAll.same s a)
theorem DpAll.same (s : Same H H') : ∀ {vs : List V} {ds : List PyData}, DpAll K H vs ds → DpAll K H' vs ds
  | _, _, .nil => .nil
  | _, _, .cons h a => .cons (Dp.same s h) (DpAll.same s a)
end
theorem DpAll.len : ∀ {vs : List V} {ds : List PyData}, DpAll K H vs ds → vs.length = ds.length
  | _, _, .nil => rfl
  | _, _, .cons _ a => by rw [List.length_cons, List.length_cons, DpAll.len a]
theorem DpAll.at : ∀ {vs : List V} {ds : List PyData} {i : Nat} {v : V}, DpAll K H vs ds → vs[i]? = some v → ∃ d, ds[i]? = some d ∧ Dp K H v d
  | _, _, i, _, .nil, e => by cases e
  | _, _, 0, _, .cons (d := d) h _, e => ⟨d, rfl, by cases e; exact h⟩
  | _, _, i + 1, _, .cons _ a, e => DpAll.at (i := i) a e
theorem DpAll.snoc : ∀ {vs : List V} {ds : List PyData} {v : V} {d : PyData}, DpAll K H vs ds → Dp K H v d → DpAll K H (vs ++ [v]) (ds ++ [d])
  | _, _, _, _, .nil, h => .cons h .nil
  | _, _, _, _, .cons a r, h => .cons a (DpAll.snoc r h)
theorem Dp.int_inv {n : Int} (h : Dp K H x (.int n)) : x = .int n := by
  cases h
  rfl
theorem Dp.str_inv {n : Str} (h : Dp K H x (.str n)) : x = .str n := by
  cases h
  rfl
theorem Dp.tup_inv {ds : List PyData} (h : Dp K H x (.tuple ds)) : ∃ a xs, x = .ref a ∧ SqT K H a xs ∧ DpAll K H xs ds := by
  cases h with
  | tup a b => exact ⟨_, _, rfl, a, b⟩
theorem Dp.lst_inv {ds : List PyData} (h : Dp K H x (.list ds)) : ∃ a xs, x = .ref a ∧ SqL K H a xs ∧ DpAll K H xs ds := by
  cases h with
  | lst a b => exact ⟨_, _, rfl, a, b⟩
theorem DpAll.ints : ∀ {ns : List Int} {vs : List V}, DpAll K H vs (ns.map PyData.int) → vs = ns.map V.int
  | [], _, .nil => rfl
  | n :: ns, _, .cons h a => by rw [Dp.int_inv h, DpAll.ints a]; rfl
theorem DpAll.nil_inv {vs : List V} (h : DpAll K H vs []) : vs = [] := by
  cases h
  rfl
theorem DpAll.cons_inv {vs : List V} {ds : List PyData} (h : DpAll K H vs (d :: ds)) : ∃ v vs', vs = v :: vs' ∧ Dp K H v d ∧ DpAll K H vs' ds := by
  cases h with
  | cons a b => exact ⟨_, _, rfl, a, b⟩
end
/-! ### loops that leave the heap -/
section
variable {σ : St} {H : Hp} {K : PySem.W.Frag} {t : TS} {nx : St → Hp → Prop} {rt : VK}
theorem rd_forRs {lo : Int} {n : Nat} {g : TG} (Pv : Nat → St → Prop) (h0 : Pv 0 σ)
    (hs : ∀ i σ, i < n → Pv i σ → g (.int (lo + i)) σ H fun σ2 H2 => t ⟨fun σ' H' => H = H' ∧ Pv (i + 1) σ', rt, nx, fun σ' H' => H = H' ∧ Pv (i + 1) σ'⟩ σ2 H2) (hd : ∀ σ, Pv n σ → nx σ H) : fBody (Itr lo n) g t nx rt σ H :=
  rd_forR (fun i σ' H' => H = H' ∧ Pv i σ') ⟨rfl, h0⟩ (fun i σ' H' hi p => by obtain ⟨rfl, p⟩ := p; exact hs i σ' hi p) fun σ' H' p => by obtain ⟨rfl, p⟩ := p; exact hd σ' p
theorem rd_forLs {a : Addr} {xs : List V} {g : TG} (Pv : Nat → St → Prop) (hl : SqL K H a xs) (h0 : Pv 0 σ)
    (hs : ∀ i x σ, xs[i]? = some x → Pv i σ → g x σ H fun σ2 H2 => t ⟨fun σ' H' => H = H' ∧ Pv (i + 1) σ', rt, nx, fun σ' H' => H = H' ∧ Pv (i + 1) σ'⟩ σ2 H2) (hd : ∀ σ, Pv xs.length σ → nx σ H) : fBody (Itl K a) g t nx rt σ H :=
  rd_forL (fun i σ' H' => H = H' ∧ Pv i σ') ⟨rfl, h0⟩ (fun i σ' H' _ p => by obtain ⟨rfl, _⟩ := p; exact hl) (fun i x σ' H' hi p => by obtain ⟨rfl, p⟩ := p; exact hs i x σ' hi p) fun σ' H' p => by obtain ⟨rfl, p⟩ := p; exact hd σ' p
theorem rd_forTs {a : Addr} {xs : List V} {g : TG} (Pv : Nat → St → Prop) (hl : SqT K H a xs) (h0 : Pv 0 σ)
    (hs : ∀ i x σ, xs[i]? = some x → Pv i σ → g x σ H fun σ2 H2 => t ⟨fun σ' H' => H = H' ∧ Pv (i + 1) σ', rt, nx, fun σ' H' => H = H' ∧ Pv (i + 1) σ'⟩ σ2 H2) (hd : ∀ σ, Pv xs.length σ → nx σ H) : fBody (Itt K a) g t nx rt σ H :=
  rd_forT (fun i σ' H' => H = H' ∧ Pv i σ') ⟨rfl, h0⟩ (fun i σ' H' _ p => by obtain ⟨rfl, _⟩ := p; exact hl) (fun i x σ' H' hi p => by obtain ⟨rfl, p⟩ := p; exact hs i x σ' hi p) fun σ' H' p => by obtain ⟨rfl, p⟩ := p; exact hd σ' p
end
section
theorem rd_eqF {p A B : Prop} [Decidable p] (h : ¬ p) (q : B) : if decide p = true then A else B := by
  rw [decide_eq_false h]
  exact q
theorem rd_neT {p A B : Prop} [Decidable p] (h : ¬ p) (q : A) : if (!decide p) = true then A else B := by
  rw [decide_eq_false h]
  exact q
end
instance st_non {P : Prop} : Stp (V.non = V.non ∧ P) P := ⟨fun h => ⟨rfl, h⟩⟩
theorem non_int {k : Int} : ¬ V.int k = V.non := fun z => V.noConfusion z
theorem non_ref {k : Addr} : ¬ V.ref k = V.non := fun z => V.noConfusion z
theorem upd_at {H : Hp} {p q : Addr} {o u : HO} (h : H p = some o) (n : H p = some o → p ≠ q) : upd H q u p = some o := (upd_ne (n h)).trans h
end L2

namespace L2
open PySem PySem.Spec PyProof.Rows
/-! ### sizes of whole numbers, by bits -/
structure Bd (n : Nat) (x : Int) : Prop where
  h : x.natAbs < 2 ^ n
theorem Bd.mono {n m : Nat} {x : Int} (h : Bd n x) (hm : n ≤ m) : Bd m x := ⟨Nat.lt_of_lt_of_le h.h (Nat.pow_le_pow_right (by decide) hm)⟩
theorem Bd.mul {n m : Nat} {x y : Int} (h : Bd n x) (k : Bd m y) : Bd (n + m) (x * y) := ⟨wide_lt h.h k.h⟩
theorem Bd.neg {n : Nat} {x : Int} (h : Bd n x) : Bd n (-x) := ⟨by
  rw [Int.natAbs_neg]
  exact h.h⟩
theorem Bd.add {n m : Nat} {x y : Int} (h : Bd n x) (k : Bd m y) : Bd (max n m + 1) (x + y) := ⟨by
  have a := (Bd.mono h (Nat.le_max_left n m)).h
  have b := (Bd.mono k (Nat.le_max_right n m)).h
  have := Int.natAbs_add_le x y
  rw [Nat.pow_succ]
  omega⟩
theorem Bd.sub {n m : Nat} {x y : Int} (h : Bd n x) (k : Bd m y) : Bd (max n m + 1) (x - y) := by
  rw [Int.sub_eq_add_neg]
  exact Bd.add h k.neg
theorem Bd.lt {n : Nat} {x : Int} (h : Bd n x) : -(2 ^ n) < x ∧ x < 2 ^ n := by
  have e : ((2 ^ n : Nat) : Int) = 2 ^ n := by rw [Int.natCast_pow]; rfl
  have := h.h
  omega
theorem Bd.of {n : Nat} {x : Int} (h : -(2 ^ n) < x) (k : x < 2 ^ n) : Bd n x := ⟨by
  have e : ((2 ^ n : Nat) : Int) = 2 ^ n := by rw [Int.natCast_pow]; rfl
  omega⟩
theorem Bd.le {n : Nat} {x y : Int} (h : Bd n y) (h1 : x.natAbs ≤ y.natAbs) : Bd n x := ⟨Nat.lt_of_le_of_lt h1 h.h⟩
theorem Bd.div {n : Nat} {x y : Int} (h : Bd n x) (hy : 0 < y) : Bd (n + 1) (x / y) := by
  have l := h.lt
  have p0 : (0 : Int) < 2 ^ n := Int.pow_pos (by decide)
  have e := Int.mul_ediv_add_emod x y
  have r0 := Int.emod_nonneg x (show y ≠ 0 by omega)
  have r1 := Int.emod_lt_of_pos x hy
  refine Bd.of ?_ ?_
  · rw [Int.pow_succ]
    have : -(2 ^ n) ≤ x / y := by
      refine Int.le_ediv_of_mul_le hy ?_
      have : (2 : Int) ^ n * 1 ≤ 2 ^ n * y := Int.mul_le_mul_of_nonneg_left (by omega) (by omega)
      rw [Int.neg_mul]
      omega
    omega
  · rw [Int.pow_succ]
    by_cases hx : 0 ≤ x
    · have := Int.ediv_le_self y hx
      omega
    · have := Int.ediv_neg_of_neg_of_pos (show x < 0 by omega) hy
      omega
theorem Bd.lit {x : Int} {n : Nat} (h : x.natAbs < 2 ^ 64) (hn : 64 ≤ n) : Bd n x := Bd.mono ⟨h⟩ hn
theorem Bd.mulN {n : Nat} {x y : Int} (h : Bd (n / 2) x) (k : Bd (n / 2) y) : Bd n (x * y) := (h.mul k).mono (by omega)
theorem Bd.addN {n : Nat} {x y : Int} (h : Bd (n - 1) x) (k : Bd (n - 1) y) (hn : 0 < n) : Bd n (x + y) := (h.add k).mono (by omega)
theorem Bd.subN {n : Nat} {x y : Int} (h : Bd (n - 1) x) (k : Bd (n - 1) y) (hn : 0 < n) : Bd n (x - y) := (h.sub k).mono (by omega)
theorem CMulB.bd {x y : Int} (h : Bd 9000 x) (k : Bd 9000 y) : CMulB x y := .inr (wide_mul h.h k.h (by decide) (by decide) (by decide))
end L2
namespace L2
open PySem PySem.Spec PyProof.Rows
/-! ### texts of whole numbers, str(o) of an own __str__ -/
def txI (i : Int) : Str := Str.ofString (toString i)
theorem txI_len {i : Int} {n : Nat} (h : Bd n i) (hn : n ≤ 1000) : (txI i).length ≤ 1001 ∧ i.natAbs.log2 < 1000 := by
  have l : i.natAbs.log2 < 1000 := PySem.Flt.log2_lt_of (by decide) (h.mono hn).h
  have e := int_text_length_le (k := 1000) (by decide) l
  unfold txI
  rw [PySem.ofString_length]
  exact ⟨e, l⟩
def rStrO (C : Addr) (sp : Sp) (E : XK) : List V → Hp → VK → Prop := fun xs H Q => ∃ a dx fs, xs = [.ref a] ∧ H a = some (.ins C dx fs) ∧ sp [.ref a] H (fun v H' => ∃ z, v = .str z ∧ Q (.str z) H') E
def rStrI : List V → Hp → VK → Prop := fun xs H Q => ∃ i, xs = [.int i] ∧ i.natAbs.log2 < 1920 ∧ Q (.str (txI i)) H
section
variable {X : Cx}
theorem call_strI : CallR X (.type "str") rStrI := call_str_int
theorem call_strO {k : Nat} {C : Addr} {ps : List Str} {sp : Sp} {E : XK} (D : MDef X.prog X.w X.K X.mg X.base k C "__str__" ps sp) (hr : Room (k + 2) X.A) (hx : Passes (L2.CX X.prog X.w) X E) : CallR X (.type "str") (rStrO C sp E) := by
  intro pins s σ H xs us Q I r h
  obtain ⟨f, fd, F, g, b⟩ := D.ex
  obtain ⟨a, dx, fs, rfl, ha, hsp⟩ := h
  obtain ⟨u, rfl, hu⟩ := vals1 r
  cases (show u = Value.ref a from hu)
  obtain ⟨mA, J, _⟩ := ins_get I.hok ha
  obtain ⟨od, J, _⟩ := J.look
  refine PySem.W.kso_call hr.in1.in1.units0 I.kIn J g.at_ g.fn ?_
  have e0 : Env0 X.prog X.w X.K X.mg X.base X.A.in1.in1 X.stack s H := by
    have e := I.env0
    exact ⟨e.frames, e.mod, e.bs, e.bsz, e.funs, e.frf, e.hok, e.bare⟩
  have hl := F.len _ _ _ _ hsp
  have r2 : Vals [V.ref a] [Value.ref a] := .cons rfl .nil
  refine wpAny_call (codeAny_mono (F.run X.A.in1.in1 X.stack s H ⟨[.ref a], []⟩ [.ref a] [.ref a] _ E hr.in1.in1 e0 (by
    have := b s [.ref a] I.kIn (by simpa using hl)
    simpa using this) r2 hsp) fun r s' hq => ?_)
  cases r with
  | error e => exact hx pins σ H s e s' I hq
  | ok fl =>
    cases fl with
    | ret w =>
      obtain ⟨z, H', I', rz, y, ez, q⟩ := I.after hq
      subst ez
      obtain ⟨t, rfl⟩ := rz
      exact ⟨.str y, H', I', ⟨t, rfl⟩, q⟩
    | next => exact False.elim hq
    | brk => exact False.elim hq
    | cont => exact False.elim hq
end
section
variable {σ : St} {H : Hp} {Q : VK} {te : TE} {ts : List TE} {acc : Str} {R : Str → Hp → Prop}
def rFmt (Q : VK) : V → Hp → Prop := fun x H1 => (∃ y : Str, x = .str y ∧ y.length ≤ sizeLine ∧ Q (.str y) H1) ∨ ∃ i : Int, x = .int i ∧ i.natAbs.log2 < 1920 ∧ Q (.str (toString i)) H1
instance st_fmt : Stp (tFmt te σ H Q) (te σ H (rFmt Q)) := ⟨fun h => h⟩
theorem rd_fmtI {i : Int} (h : i.natAbs.log2 < 1920) (q : Q (.str (txI i)) H) : rFmt Q (.int i) H := .inr ⟨i, rfl, h, q⟩
instance st_jsN : Stp (tJs [] acc σ H R) (R acc H) := ⟨fun h => h⟩
def rJs (ts : List TE) (acc : Str) (σ : St) (R : Str → Hp → Prop) : V → Hp → Prop := fun x H1 => ∃ y : Str, x = .str y ∧ (acc ++ y).length ≤ sizeLine ∧ tJs ts (acc ++ y) σ H1 R
instance st_jsC : Stp (tJs (te :: ts) acc σ H R) (te σ H (rJs ts acc σ R)) := ⟨fun h => h⟩
theorem rd_js {y : Str} (h : (acc ++ y).length ≤ sizeLine) (q : tJs ts (acc ++ y) σ H R) : rJs ts acc σ R (.str y) H := ⟨y, rfl, h, q⟩
theorem rd_strI {i : Int} (h : i.natAbs.log2 < 1920) (q : Q (.str (txI i)) H) : rStrI [.int i] H Q := ⟨i, rfl, h, q⟩
end
end L2

namespace L2
open PySem PySem.Spec PyProof.Rows
/-! ### walks of other kinds -/
section
variable {σ : St} {H : Hp} {K : PySem.W.Frag} {t : TS} {nx : St → Hp → Prop} {rt : VK} {Q : VK} {tr : TA} {te : TE} {tt : TT} {S : It → Hp → Prop} {J : It} {n : Nat} {G : Hp → Prop} {Y : Nat → Hp → V → Hp → Prop}
theorem rd_forW (w : Walk J n G Y) {g : TG} (Pv : Nat → St → Hp → Prop) (h0 : Pv 0 σ H) (hG : ∀ i σ H, i ≤ n → Pv i σ H → G H)
    (hs : ∀ i x σ H H', i < n → Pv i σ H → Y i H x H' → g x σ H' fun σ2 H2 => t ⟨Pv (i + 1), rt, nx, Pv (i + 1)⟩ σ2 H2) (hd : ∀ σ H, Pv n σ H → nx σ H) : fBody J g t nx rt σ H :=
  for_it (D := ⟨nx, rt, fun _ _ => False, fun _ _ => False⟩) w Pv h0 hG hs hd
def rIRev (K : PySem.W.Frag) (S : It → Hp → Prop) (vs : List V) (H : Hp) : Prop := ∃ (a : Addr) (xs : List V), vs = [.ref a] ∧ SqL K H a xs ∧ S (Itv K a xs.length) H
instance st_iRev : Stp (iRev K tr σ H S) (tr σ H (rIRev K S)) := ⟨fun h => h⟩
theorem rd_iRev1 {a : Addr} {xs : List V} (h : SqL K H a xs) (q : S (Itv K a xs.length) H) : rIRev K S [.ref a] H := ⟨a, xs, rfl, h, q⟩
theorem rd_forV {a : Addr} {xs : List V} {g : TG} (Pv : Nat → St → Hp → Prop) (h0 : Pv 0 σ H) (hl : ∀ i σ H, i ≤ xs.length → Pv i σ H → SqL K H a xs)
    (hs : ∀ i x σ H, xs.reverse[i]? = some x → Pv i σ H → g x σ H fun σ2 H2 => t ⟨Pv (i + 1), rt, nx, Pv (i + 1)⟩ σ2 H2) (hd : ∀ σ H, Pv xs.length σ H → nx σ H) : fBody (Itv K a xs.length) g t nx rt σ H :=
  rd_forW (walk_rev (K := K) (a := a) (xs := xs)) Pv h0 hl (fun i x σ H H' hi p y => by
    obtain ⟨rfl, y⟩ := y
    refine hs i x σ _ ?_ p
    rw [List.getElem?_reverse hi]
    exact y) hd
theorem rd_forVs {a : Addr} {xs : List V} {g : TG} (Pv : Nat → St → Prop) (hl : SqL K H a xs) (h0 : Pv 0 σ)
    (hs : ∀ i x σ, xs.reverse[i]? = some x → Pv i σ → g x σ H fun σ2 H2 => t ⟨fun σ' H' => H = H' ∧ Pv (i + 1) σ', rt, nx, fun σ' H' => H = H' ∧ Pv (i + 1) σ'⟩ σ2 H2) (hd : ∀ σ, Pv xs.length σ → nx σ H) : fBody (Itv K a xs.length) g t nx rt σ H :=
  rd_forV (fun i σ' H' => H = H' ∧ Pv i σ') ⟨rfl, h0⟩ (fun i σ' H' _ p => by obtain ⟨rfl, _⟩ := p; exact hl) (fun i x σ' H' hi p => by obtain ⟨rfl, p⟩ := p; exact hs i x σ' hi p) fun σ' H' p => by obtain ⟨rfl, p⟩ := p; exact hd σ' p
/-- a comprehension over a list; each turn only makes new things -/
theorem rd_lcP {a : Addr} {xs : List V} {g : TG} {vs : List Nat} (P : Nat → List V → Prop) (hS : SqL K H a xs) (nt : NoT H) (h0 : P 0 [])
    (hs : ∀ D i ys x H', xs[i]? = some x → Same H H' → NoT H' → H D = none → H' D = some (.lst ys) → P i ys → g x (wipe σ vs) H' fun σ2 H2 => wipe σ2 vs = wipe σ vs ∧ tt σ2 H2 fun b H3 =>
      if b = true then te σ2 H3 (fun y H4 => ∃ acc, H4 D = some (.lst acc) ∧ acc.length < sizeLine ∧ ∃ ys, upd H4 D (.lst (acc ++ [y])) D = some (.lst ys) ∧ Same H (upd H4 D (.lst (acc ++ [y]))) ∧ NoT (upd H4 D (.lst (acc ++ [y]))) ∧ P (i + 1) ys)
      else ∃ ys, H3 D = some (.lst ys) ∧ Same H H3 ∧ NoT H3 ∧ P (i + 1) ys)
    (q : ∀ D ys H', H D = none → H' D = some (.lst ys) → Same H H' → NoT H' → P xs.length ys → Q (.ref D) H') : lcB (Itl K a) g tt te vs σ Q H := by
  intro D hD
  refine lc_it (walk_list (K := K) (a := a) (xs := xs)) (fun i H' => ∃ ys, H' D = some (.lst ys) ∧ Same H H' ∧ NoT H' ∧ P i ys) ⟨[], upd_same, same_new hD, NoT.upd nt rfl, h0⟩ (fun i H' _ ⟨ys, _, s, _⟩ => s.seq hS) ?_ (fun H' ⟨ys, h1, s, n, p⟩ => q D ys H' hD h1 s n p)
  rintro i x H' H'' hi ⟨ys, h1, s, n, p⟩ ⟨rfl, hx⟩
  exact hs D i ys x _ hx s n hD h1 p
theorem put_P {P : List V → Prop} {D : Addr} {H H4 : Hp} {acc : List V} {y : V} (h : H4 D = some (.lst acc)) (hl : acc.length < sizeLine) (sm : Same H H4) (hD : H D = none) (n : NoT H4) (p : P (acc ++ [y])) :
    ∃ acc, H4 D = some (.lst acc) ∧ acc.length < sizeLine ∧ ∃ ys, upd H4 D (.lst (acc ++ [y])) D = some (.lst ys) ∧ Same H (upd H4 D (.lst (acc ++ [y]))) ∧ NoT (upd H4 D (.lst (acc ++ [y]))) ∧ P ys :=
  ⟨acc, h, hl, _, upd_same, same_upd2 sm hD, NoT.upd n rfl, p⟩
/-- the same over a range -/
theorem rd_lcRP {lo : Int} {m : Nat} {g : TG} {vs : List Nat} (P : Nat → List V → Prop) (nt : NoT H) (h0 : P 0 [])
    (hs : ∀ D i ys H', i < m → Same H H' → NoT H' → H D = none → H' D = some (.lst ys) → P i ys → g (.int (lo + i)) (wipe σ vs) H' fun σ2 H2 => wipe σ2 vs = wipe σ vs ∧ tt σ2 H2 fun b H3 =>
      if b = true then te σ2 H3 (fun y H4 => ∃ acc, H4 D = some (.lst acc) ∧ acc.length < sizeLine ∧ ∃ ys, upd H4 D (.lst (acc ++ [y])) D = some (.lst ys) ∧ Same H (upd H4 D (.lst (acc ++ [y]))) ∧ NoT (upd H4 D (.lst (acc ++ [y]))) ∧ P (i + 1) ys)
      else ∃ ys, H3 D = some (.lst ys) ∧ Same H H3 ∧ NoT H3 ∧ P (i + 1) ys)
    (q : ∀ D ys H', H D = none → H' D = some (.lst ys) → Same H H' → NoT H' → P m ys → Q (.ref D) H') : lcB (Itr lo m) g tt te vs σ Q H := by
  intro D hD
  refine lc_it (walk_range (lo := lo) (n := m)) (fun i H' => ∃ ys, H' D = some (.lst ys) ∧ Same H H' ∧ NoT H' ∧ P i ys) ⟨[], upd_same, same_new hD, NoT.upd nt rfl, h0⟩ (fun i H' _ _ => trivial) ?_ (fun H' ⟨ys, h1, s, n, p⟩ => q D ys H' hD h1 s n p)
  rintro i x H' H'' hi ⟨ys, h1, s, n, p⟩ ⟨rfl, hx⟩
  subst hx
  exact hs D i ys _ hi s n hD h1 p
end
def rAddS : R2 := fun x y H Q => ∃ i j, x = .str i ∧ y = .str j ∧ i.length + j.length ≤ sizeLine ∧ Q (.str (i ++ j)) H
theorem op_addS {X : Cx} : OpR X (binaryOp .Add) rAddS := op_add_str
theorem rd_addS {H : Hp} {Q : VK} {i j : Str} (h : i.length + j.length ≤ sizeLine) (q : Q (.str (i ++ j)) H) : rAddS (.str i) (.str j) H Q := ⟨i, j, rfl, rfl, h, q⟩
def rRevV (K : PySem.W.Frag) (Q : VK) : V → Hp → Prop := fun x H1 => ∃ a xs, x = .ref a ∧ SqL K H1 a xs ∧ ∀ p, H1 p = none → Q (.ref p) (upd H1 p (.lst xs.reverse))
instance st_revL {K : PySem.W.Frag} {te : TE} {σ : St} {H : Hp} {Q : VK} : Stp (tRevL K te σ H Q) (te σ H (rRevV K Q)) := ⟨fun h => h⟩
theorem rd_revV {K : PySem.W.Frag} {H : Hp} {Q : VK} {a : Addr} {xs : List V} (h : SqL K H a xs) (q : ∀ p, H p = none → Q (.ref p) (upd H p (.lst xs.reverse))) : rRevV K Q (.ref a) H := ⟨a, xs, rfl, h, q⟩
theorem room2 {xs zs : List V} {n m : Nat} (h1 : xs.length ≤ n) (h2 : zs.length ≤ m) (h : n + m ≤ 1000000) : xs.length + zs.length ≤ sizeLine := Nat.le_trans (Nat.add_le_add h1 h2) (Nat.le_trans h (by decide))
theorem len_one {v : V} : [v].length ≤ 1 := Nat.le_refl 1
theorem len_app {xs ys : List V} {n m : Nat} (h1 : xs.length ≤ n) (h2 : ys.length ≤ m) : (xs ++ ys).length ≤ n + m := by
  rw [List.length_append]
  exact Nat.add_le_add h1 h2
theorem len_rev {xs : List V} {n : Nat} (h : xs.length ≤ n) : xs.reverse.length ≤ n := by
  rw [List.length_reverse]
  exact h
theorem same_upd3 {H H' : Hp} {p : Addr} {o : HO} (h : Same H H') (hp : H' p = none) : Same H (upd H' p o) := same_upd2 h (h.free hp)
section
variable {H : Hp} {Q : VK} {i : Int}
theorem rd_eqNN (q : Q (.bl true) H) : rEq .non .non H Q := ⟨rfl, by simpa using q⟩
instance st_eqNN : Stp (rEq .non .non H Q) (Q (.bl true) H) := ⟨fun h => rd_eqNN h⟩
theorem rd_neNN (q : Q (.bl false) H) : rNe .non .non H Q := ⟨rfl, by simpa using q⟩
instance st_neNN : Stp (rNe .non .non H Q) (Q (.bl false) H) := ⟨fun h => rd_neNN h⟩
theorem rd_eqNI (q : Q (.bl false) H) : rEq .non (.int i) H Q := ⟨rfl, by simpa using q⟩
instance st_eqNI : Stp (rEq .non (.int i) H Q) (Q (.bl false) H) := ⟨fun h => rd_eqNI h⟩
theorem rd_neNI (q : Q (.bl true) H) : rNe .non (.int i) H Q := ⟨rfl, by simpa using q⟩
instance st_neNI : Stp (rNe .non (.int i) H Q) (Q (.bl true) H) := ⟨fun h => rd_neNI h⟩
theorem rd_eqIN (q : Q (.bl false) H) : rEq (.int i) .non H Q := ⟨rfl, by simpa using q⟩
instance st_eqIN : Stp (rEq (.int i) .non H Q) (Q (.bl false) H) := ⟨fun h => rd_eqIN h⟩
theorem rd_neIN (q : Q (.bl true) H) : rNe (.int i) .non H Q := ⟨rfl, by simpa using q⟩
instance st_neIN : Stp (rNe (.int i) .non H Q) (Q (.bl true) H) := ⟨fun h => rd_neIN h⟩
end
end L2

namespace L2
open PySem PySem.Spec PyProof.Rows
/-! ### sets of ints -/
section
variable {P : Program} {w : World} {K : PySem.W.Frag} {mg : Str → Option Value} {base : Heap}
/-- a def whose text asks of its code object -/
theorem DefAt.okC {x : Str} {st : Stmt} {N ps : List Str} {k : Nat} {sp : Sp} (D : DefAt K mg x st ps) (S : FnScope N ps (defScope st)) (len : ∀ vs H Q E, sp vs H Q E → vs.length = ps.length)
    (body : ∀ (f : Addr) (cdv : Value) (hcd : PySem.W.kdsCode K cdv = true) (A : Around) (outer : List Env) (s : Shared) (H : Hp) (vs : List V) (Q : VK) (E : XK), Room k (A.deeper (envOfC x (defScope st) s.heap.objs.size f cdv)) → sp vs H Q E →
      ∃ t, PSs (cxOf (L2.CX P w) P w K mg base N x (defScope st) f cdv A outer s H E) (defBody st) t ∧ t ⟨fun _ H' => Q .non H', Q, fun _ _ => False, fun _ _ => False⟩ (start N vs) H) : Def P w K mg base (k + 1) x ps sp := by
  obtain ⟨f, fd, F, g, b⟩ := D.ex
  have kp := F.kp
  obtain ⟨c0, d0, v1, v2, v3, v4, cdv, v5, sl, rfl, lk, hcd⟩ := F.ex
  exact ⟨f, _, fn_of lk hcd S len fun A outer s H vs Q E r h => body f cdv (kdsCode_of hcd) A outer s H vs Q E r h, g, kp, b⟩
end
section
variable {X : Cx}
def setNo : Int → Bool := fun _ => false
/-- two ints in braces -/
def tSet2 (w : World) (t1 t2 : TE) : TE := fun σ H Q => ∀ D, H D = none → t1 σ (upd H D (SetO w D setNo 0)) fun x H1 => t2 σ H1 fun y H2 => ∃ i j : Int, x = .int i ∧ y = .int j ∧ H2 D = some (SetO w D setNo 0) ∧
  Q (.ref D) (upd H2 D (SetO w D (fun k => decide (k = i ∨ k = j)) (if i = j then 1 else 2)))
theorem setAdd_int {pins : List (Addr × Obj)} {σ : St} {H : Hp} {s : Shared} {D : Addr} {S : Int → Bool} {n : Nat} {k : Int} {u : Value} {A : Around} {E : Value → Shared → Prop} {Q : Bool → Shared → Prop} (I : Inv X pins σ H s) (hD : H D = some (SetO X.w D S n)) (hn : n + 1 < scanBound) (hu : RelV (.int k) u)
    (q : ∀ s', Inv X pins σ (upd H D (SetO X.w D (fun j => S j || decide (j = k)) (if S k = true then n else n + 1))) s' → ∀ b, Q b s') : wpAny (model X.prog X.w) A (setAdd D u) Q E s := by
  obtain ⟨tk, rfl⟩ := hu
  have R := setO_get I hD
  unfold setAdd
  refine wpAny_holding (wpAny_bind ((intKind X.prog X.w).pyHash (intKind_is X.prog X.w k tk) ?_))
  refine setR_add_hashed (s := { s with toks := s.toks + 1 }) R hn fun h' sb new => q _ ?_ _
  have there : ∃ o, h'.get? D = some o := by
    obtain ⟨o, _, _, _, ho, _⟩ := new
    exact ⟨o, ho⟩
  exact I.write (e := D) (t' := s.toks + 1) (by rw [hD]; trivial) (.inl rfl) (fun b o ne ho => (sb.2 b ne).trans ho) there (setO_new new)
theorem pe_set2 {e1 e2 : Expr} {t1 t2 : TE} {pos : Pos} (h1 : PE X e1 t1) (h2 : PE X e2 t2) (hcd : PySem.W.kdsCode X.K X.env.code = true)
    (hs : starEach [e1, e2] X.env = [(false, eval e1 X.env), (false, eval e2 X.env)] := by rfl) : PE X (.Set [e1, e2] 0 pos) (tSet2 X.w t1 t2) := by
  refine ⟨fun pins s σ H Q I h => ?_⟩
  rw [arm_eval_Set, hs]
  refine wpAny_bind (wpAny_standAt (wpAny_bind (PySem.W.kds_main I.kIn hcd fun b => ?_)))
  show wpAny _ _ (setDisplay .oneByOne b [(false, eval e1 X.env >>= fun v => standAt pos >>= fun _ => pure v), (false, eval e2 X.env >>= fun v => standAt pos >>= fun _ => pure v)]) _ _ _
  unfold setDisplay
  rw [if_neg (by decide)]
  refine wpAny_bind (PpSet.newSet_ok ?_)
  have I1 : Inv X pins σ (upd H s.heap.objs.size (SetO X.w s.heap.objs.size setNo 0)) _ := I.laid (t' := s.toks) (fun b o z => Heap.get?_push_of_some _ z) (Nat.le_refl _) (setO_new (setR_fresh X.w))
  replace h := h s.heap.objs.size (I.hok.fresh (Nat.le_refl _))
  generalize s.heap.objs.size = D at *
  refine wpAny_bind (wpAny_holding (wpAny_bind ?_))
  show wpAny _ _ (evalAll [eval e1 X.env >>= fun v => standAt pos >>= fun _ => pure v, eval e2 X.env >>= fun v => standAt pos >>= fun _ => pure v]) _ _ _
  refine wpAny_bind (wpAny_bind (thn (h1.run pins _ σ _ _ I1 h) fun u1 s1 ⟨x, H1, I2, r1, g⟩ => wpAny_bind (wpAny_standAt (wpAny_pure ?_))))
  refine wpAny_bind (wpAny_holding (wpAny_bind (wpAny_bind (thn (h2.run pins _ σ _ _ I2 g) fun u2 s2 ⟨y, H2, I3, r2, i, j, ex, ey, hD, q⟩ => wpAny_bind (wpAny_standAt (wpAny_pure ?_))))))
  subst ex ey
  refine wpAny_bind (wpAny_holding (wpAny_pure (wpAny_pure (wpAny_pure ?_))))
  refine wpAny_bind (wpAny_holding (wpAny_bind ?_))
  rw [List.forIn_cons]
  refine wpAny_bind (wpAny_bind (setAdd_int I3 hD (by decide) r1 fun s3 I4 _ => wpAny_pure ?_))
  dsimp only
  rw [List.forIn_cons]
  refine wpAny_bind (wpAny_bind (setAdd_int I4 upd_same (by show 0 + 1 + 1 < scanBound; decide) r2 fun s4 I5 _ => wpAny_pure ?_))
  dsimp only
  rw [List.forIn_nil, if_neg (by decide)]
  refine wpAny_pure (wpAny_pure (wpAny_pure ?_))
  rw [upd_upd] at I5
  have e1 : (fun l => setNo l || decide (l = i) || decide (l = j)) = fun k : Int => decide (k = i ∨ k = j) := by
    funext l
    simp [setNo]
  have e2 : (if (setNo j || decide (j = i)) = true then if setNo i = true then 0 else 0 + 1 else (if setNo i = true then 0 else 0 + 1) + 1) = if i = j then 1 else 2 := by
    by_cases z : i = j
    · simp [setNo, z]
    · have z2 : ¬ j = i := fun y => z y.symm
      simp [setNo, z, z2]
  rw [e1, e2] at I5
  exact wpAny_pure ⟨.ref D, _, I5, rfl, q⟩
instance st_set2 {w : World} {t1 t2 : TE} {σ : St} {H : Hp} {Q : VK} : Stp (tSet2 w t1 t2 σ H Q) (∀ D, H D = none → t1 σ (upd H D (SetO w D setNo 0)) fun x H1 => t2 σ H1 fun y H2 => ∃ i j : Int, x = .int i ∧ y = .int j ∧ H2 D = some (SetO w D setNo 0) ∧
  Q (.ref D) (upd H2 D (SetO w D (fun k => decide (k = i ∨ k = j)) (if i = j then 1 else 2)))) := ⟨fun h => h⟩
instance st_par3 {i j l : Nat} {ta : TA} {σ : St} {H : Hp} {nx : St → Hp → Prop} {rt : VK} {bk ct : St → Hp → Prop} : Stp (tPar3 i j l ta ⟨nx, rt, bk, ct⟩ σ H) (ta σ H fun vs H1 => ∃ u v w, vs = [u, v, w] ∧ nx (((σ.set i (some u)).set j (some v)).set l (some w)) H1) := ⟨fun h => h⟩
instance st_par3e {u v w : V} {nx : V → V → V → Prop} : Stp (∃ u' v' w', [u, v, w] = [u', v', w'] ∧ nx u' v' w') (nx u v w) := ⟨fun h => ⟨u, v, w, rfl, h⟩⟩
/-- sorted of two ints in braces -/
theorem rd_sortSet2 {w : World} {D : Addr} {i j : Int} {n : Nat} {H : Hp} {Q : VK} (hD : H D = some (SetO w D (fun k => decide (k = i ∨ k = j)) n)) (hn : n < 64)
    (q : ∀ p, H p = none → Q (.ref p) (upd H p (.lst ((if i < j then [i, j] else if j < i then [j, i] else [i]).map V.int)))) : rSortedSet w [.ref D] H Q := by
  refine ⟨D, _, n, rfl, hD, hn, fun ns p h1 h2 _ hp => ?_⟩
  have e : ns = if i < j then [i, j] else if j < i then [j, i] else [i] := by
    have mem : ∀ k, k ∈ ns ↔ k = i ∨ k = j := fun k => by rw [h2 k]; simp
    match ns, h1, mem with
    | [], _, mem => exact absurd ((mem i).mpr (.inl rfl)) List.not_mem_nil
    | [a], _, mem =>
      have a1 := List.mem_singleton.mp ((mem i).mpr (.inl rfl))
      have a2 := List.mem_singleton.mp ((mem j).mpr (.inr rfl))
      subst a1
      subst a2
      rw [if_neg (by omega), if_neg (by omega)]
    | a :: b :: l, h1, mem =>
      obtain ⟨p1, p2⟩ := List.pairwise_cons.mp h1
      have hab := p1 b List.mem_cons_self
      have ha := (mem a).mp List.mem_cons_self
      have hb := (mem b).mp (List.mem_cons_of_mem _ List.mem_cons_self)
      have hl : l = [] := by
        cases l with
        | nil => rfl
        | cons c l =>
          have hc := (mem c).mp (List.mem_cons_of_mem _ (List.mem_cons_of_mem _ List.mem_cons_self))
          have h3 := p1 c (List.mem_cons_of_mem _ List.mem_cons_self)
          have h4 := (List.pairwise_cons.mp p2).1 c List.mem_cons_self
          omega
      subst hl
      rcases ha with rfl | rfl
      · rcases hb with rfl | rfl
        · omega
        · rw [if_pos hab]
      · rcases hb with rfl | rfl
        · rw [if_neg (by omega), if_pos hab]
        · omega
  rw [e]
  exact q p hp
end
end L2

namespace L2
open PySem PySem.Spec PyProof.Rows
theorem setPut_int {X : Cx} {pins : List (Addr × Obj)} {σ : St} {H : Hp} {s : Shared} {E : Value → Shared → Prop} {D : Addr} {S : Int → Bool} {n : Nat} {k : Int} {u : Value} {Q : Value → Shared → Prop} (I : Inv X pins σ H s) (at_ : H D = some (SetO X.w D S n)) (roomy : n + 1 < scanBound) (hu : RelV (.int k) u)
    (q : ∀ s', Inv X pins σ (upd H D (SetO X.w D (fun j => S j || decide (j = k)) (if S k = true then n else n + 1))) s' → Q .none s') : wpAny (model X.prog X.w) X.A (call (.builtin "set.add") [.ref D, u]) Q E s := by
  obtain ⟨tk, rfl⟩ := hu
  refine setR_add (setO_get I at_) roomy fun h' sb new => q _ ?_
  have there : ∃ o, h'.get? D = some o := by
    obtain ⟨o, _, _, _, ho, _⟩ := new
    exact ⟨o, ho⟩
  exact I.write (e := D) (t' := s.toks + 1) (by rw [at_]; trivial) (.inl rfl) (fun b o ne ho => (sb.2 b ne).trans ho) there (setO_new new)
section
variable {X : Cx}
/-- a set of whol, made by a comprehension: D the new set, Z what each turn keeps -/
def tScI (w : World) (wi : TI) (g : TG) (tt : TT) (te : TE) (vs : List Nat) : TE := fun σ H Q => wi σ H fun J H1 => ∀ D, H1 D = none → ∃ Z : Nat → Nat → Hp → Prop, (∃ m, Z 0 m (upd H1 D (SetO w D setNo 0))) ∧ ∀ i m G, Z i m G →
  (J.stop i G ∧ Q (.ref D) G) ∨ (J.go i G ∧ ∃ Y : Hp → Prop, (∀ G', Y G' → ∃ l, l < m ∧ Z (i + 1) l G') ∧ ∀ x G', J.yld i G x G' → g x (wipe σ vs) G' fun σ2 G2 => wipe σ2 vs = wipe σ vs ∧ tt σ2 G2 fun b G3 =>
    if b = true then te σ2 G3 fun y G4 => ∃ (c : Int) (S : Int → Bool) (n : Nat), y = .int c ∧ G4 D = some (SetO w D S n) ∧ n + 1 < scanBound ∧ Y (upd G4 D (SetO w D (fun j => S j || decide (j = c)) (if S c = true then n else n + 1))) else Y G3)
theorem scI_gen {pins : List (Addr × Obj)} {s : Shared} {σ : St} {H : Hp} {Q : VK} {use : Option (Value → Sem Unit)} {Qf : Value → Shared → Prop} {pos2 : Pos} {elt tg iter : Expr} {ifs : List Expr} {scope : Scope} {own : List (PySem.Str × Nat)} {pos : Pos} {wi : TI} {g : TG} {tt : TT} {te : TE} (calm : X.calm = true) (nd : X.N.Nodup) (it0 : PI X tg iter wi) (ok : BlkOk X.N X.env.scope scope own)
    (pg0 : ∀ (s0 : Shared) (G : Hp) (C : Addr) (cl : List (PySem.Str × Addr)) (fp : List Addr), PG (X.blk s0 G scope (compEnvC scope cl C X.env) fp) tg g)
    (pt0 : ∀ (s0 : Shared) (G : Hp) (C : Addr) (cl : List (PySem.Str × Addr)) (fp : List Addr), PTs (X.blk s0 G scope (compEnvC scope cl C X.env) fp) ifs tt)
    (pe0 : ∀ (s0 : Shared) (G : Hp) (C : Addr) (cl : List (PySem.Str × Addr)) (fp : List Addr), PE (X.blk s0 G scope (compEnvC scope cl C X.env) fp) elt te) (fold : ∀ x, foldedSetIterable iter X.env x = pure x)
    (I0 : Inv X pins σ H s) (want : (tScI X.w wi g tt te (own.map (·.2))) σ H Q)
    (last : ∀ D C s' m H', Inv X pins σ H' s' → Q (.ref D) H' → s'.heap.Ns C m → FpOk X pins H' C → compPost (model X.prog X.w) X.A X.xe use Qf (.ref D) C (.ok .next) s') :
    wpAny (model X.prog X.w) X.A (comprehension (.SetComp elt [⟨tg, iter, ifs, 0⟩] scope pos) scope X.env pos2 (newSet (.type "set")) false (eval iter X.env) use) Qf X.xe s := by
  have clo : ∀ y ∈ scope.names, y.2 = .free → ∃ c, X.env.cells.lookup y.1 = some c := fun y hy e => I0.ok.has _ ((ok.free y hy e).elim .inl .inr)
  refine wpAny_comprehension_free (use := use) rfl fold (closure_ok clo) ok.kind (fun y hy e => by rw [ok.uniq y hy, e]) (thn (it0.run pins s σ H _ I0 want) fun _ _ hx => thn hx fun _ s2 got => ?_)
  obtain ⟨it, fp, tn, J, H2, rfl, I2, T, st2, f2, q⟩ := got
  refine PpSet.newSet_ok (newEnv_comp ?_)
  obtain ⟨Z, ⟨m0, z0⟩, turn⟩ := q s2.heap.objs.size (I2.hok.fresh (Nat.le_refl _))
  have I3 : Inv X pins σ (upd H2 s2.heap.objs.size (SetO X.w s2.heap.objs.size setNo 0)) _ := I2.laid (t' := s2.toks) (fun b o e => Heap.get?_push_of_some _ e) (Nat.le_refl _) (setO_new (setR_fresh X.w))
  have old : ∀ b ∈ fp, b < s2.heap.objs.size := fun b hb => let ⟨_, e, _⟩ := T.obj _ _ st2 b hb; Heap.lt_size e
  generalize hs3 : ({ s2 with heap := s2.heap.push { cls := .type "set", dict := none, data := .set #[] 0 (.fresh 0 0 (!X.w.params.followText "set-order")) } } : Shared) = s3 at *
  have grown : ∀ b o, s2.heap.get? b = some o → s3.heap.get? b = some o := fun b o e => by rw [← hs3]; exact Heap.get?_push_of_some _ e
  have wider : s3.heap.objs.size = s2.heap.objs.size + 1 := by rw [← hs3]; exact Heap.size_push _ _
  have f3 : ∀ b ∈ fp, FpOk X pins (upd H2 s2.heap.objs.size (SetO X.w s2.heap.objs.size setNo 0)) b ∧ b < s3.heap.objs.size := fun b hb =>
    ⟨⟨by rw [upd_ne (Nat.ne_of_lt (old b hb))]; exact (f2 b hb).1, (f2 b hb).2⟩, by rw [wider]; exact Nat.lt_succ_of_lt (old b hb)⟩
  generalize s2.heap.objs.size = D at *
  have st3 := T.keep _ _ _ st2 fun b _ o e => grown b o e
  have I4 := block_start I3 ok nd f3
  generalize hH3 : upd H2 D (SetO X.w D setNo 0) = H3 at *
  have pg := pg0 s3 H3 s3.heap.objs.size (cellsFrom (s3.heap.objs.size + 1) scope.names (cloFrom X.env.cells scope.names [])) fp
  have pt := pt0 s3 H3 s3.heap.objs.size (cellsFrom (s3.heap.objs.size + 1) scope.names (cloFrom X.env.cells scope.names [])) fp
  have pe := pe0 s3 H3 s3.heap.objs.size (cellsFrom (s3.heap.objs.size + 1) scope.names (cloFrom X.env.cells scope.names [])) fp
  generalize hS4 : ({ s3 with heap := pushCells (s3.heap.push { cls := .type "dict", data := .dict #[] }) scope.names } : Shared) = s4 at *
  generalize hce : compEnvC scope (cellsFrom (s3.heap.objs.size + 1) scope.names (cloFrom X.env.cells scope.names [])) s3.heap.objs.size X.env = ce at *
  have place : ce.locals = s3.heap.objs.size := by rw [← hce]; rfl
  show codeAny _ _ (.compStart (.SetComp elt [⟨tg, iter, ifs, 0⟩] scope pos) 0 (.ref it) (.ref D) (compEnvC scope (cellsFrom (s3.heap.objs.size + 1) scope.names (cloFrom X.env.cells scope.names [])) s3.heap.objs.size X.env)) (compPost (model X.prog X.w) X.A X.xe use Qf (.ref D) s3.heap.objs.size) s4
  rw [hce]
  have st4 := T.keep _ _ s4.heap st3 fun b _ o e => by rw [← hS4]; exact pushCells_keeps _ _ _ _ (Heap.get?_push_of_some _ e)
  have none3 : ∀ b ∈ fp, H3 b = none := fun b hb => (f3 b hb).1.1
  -- an object of the walk may be met again inside the block
  have meet : ∀ {τ : L2.St} {G : Hp} {t : Shared}, Inv (X.blk s3 H3 scope ce fp) [] τ G t → (∀ b ∈ fp, G b = none) → ∀ b ∈ fp, FpOk (X.blk s3 H3 scope ce fp) [] G b := fun {τ G t} V no b hb =>
    ⟨no b hb, (V.ok.exf b hb).1, V.ok.exfs b hb, .inl hb, fun x c e => (V.ok.exf b hb).2 x c e, fun p hp => absurd (show p ∈ ([] : List (Addr × Obj)) ++ [] from hp) (by simp)⟩
  have around : codeAny (model X.prog X.w) X.A (.compLoop (.SetComp elt [⟨tg, iter, ifs, 0⟩] scope pos) 0 (.ref it) (.ref D) ce) (compPost (model X.prog X.w) X.A X.xe use Qf (.ref D) s3.heap.objs.size) s4 := by
    refine PpSet.compLoopS_any (fun m t => ∃ i G, Inv (X.blk s3 H3 scope ce fp) [] (wipe σ (own.map (·.2))) G t ∧ tn i t.heap ∧ (∀ b ∈ fp, G b = none) ∧ Z i m G) ?_ m0 ⟨0, H3, I4, st4, none3, z0⟩
    rintro m t5 ⟨i, G5, V5, w5, no5, z5⟩
    rcases turn i m G5 z5 with ⟨halt, want5⟩ | ⟨more, Y, fewer, step⟩
    · refine thnF (T.done (X.blk s3 H3 scope ce fp) rfl rfl rfl calm i [] t5 _ G5 (fun _ _ => False) V5 (meet V5 no5) w5 halt) fun r t6 ⟨er, V6⟩ => ?_
      subst er
      have V7 : Inv X pins σ G5 t6 := I3.call' (ch := fp) V6.os V6.base V6.hok V6.bare fun b hb => ⟨(f3 b hb).1.2.2.2.1, (f3 b hb).1.2.1, (f3 b hb).1.2.2.2.2.1, (f3 b hb).1.2.2.2.2.2⟩
      have gone : G5 s3.heap.objs.size = none := place ▸ (show G5 ce.locals = none from V6.free)
      obtain ⟨nm, ns6, _⟩ := V6.loc
      replace ns6 : t6.heap.Ns s3.heap.objs.size nm := place ▸ ns6
      exact last D s3.heap.objs.size t6 nm G5 V7 want5 ns6 (I3.fpOk (Nat.le_refl _) gone)
    · refine thnF (T.item (X.blk s3 H3 scope ce fp) rfl rfl rfl calm i [] t5 _ G5 (fun _ _ => False) V5 (meet V5 no5) w5 more) fun r t6 ⟨u, er, rest⟩ => ?_
      subst er
      refine thnF rest fun _ t7 ⟨x, G7, V7, r7, y7, w7, no7⟩ => ?_
      refine thnF (pg.run _ t7 _ G7 x u _ (V7.pinned (meet V7 no7) (T.obj _ _ w7)) r7 (step x G7 y7)) fun _ t8 ⟨τ, G8, V8, same8, q8⟩ => ?_
      refine thnF (pt.run _ t8 τ G8 _ V8 q8) fun b t9 ⟨G9, V9, q9⟩ => ?_
      have wend : ∀ {tz : Shared} {Gz : Hp}, Inv (X.blk s3 H3 scope ce fp) ([] ++ pinsAt fp t7.heap) τ Gz tz → Y Gz → ∃ l, l < m ∧ ∃ i G, Inv (X.blk s3 H3 scope ce fp) [] (wipe σ (own.map (·.2))) G tz ∧ tn i tz.heap ∧ (∀ b ∈ fp, G b = none) ∧ Z i l G := fun {tz Gz} Vz yz => by
        obtain ⟨l, lt, zl⟩ := fewer Gz yz
        have kept : ∀ b ∈ fp, ∀ o, t7.heap.get? b = some o → tz.heap.get? b = some o ∧ Gz b = none := fun b hb o e =>
          let k := Vz.pin (b, o) (List.mem_append_right _ (List.mem_append_right _ (mem_pinsAt hb e)))
          ⟨k.1, k.2.1⟩
        refine ⟨l, lt, i + 1, Gz, (Vz.unpinned (pins := [])).weak (by rw [← same8, wipe_length]) (fun j v e => (wipe_some (same8 ▸ e)).1), T.keep _ _ _ w7 fun b hb o e => (kept b hb o e).1, fun b hb => ?_, zl⟩
        obtain ⟨o, e, _⟩ := T.obj _ _ w7 b hb
        exact (kept b hb o e).2
      cases b with
      | false => exact wend V9 q9
      | true =>
        refine thnF (pe.run _ t9 τ G9 _ V9 q9) fun z t10 ⟨yv, G10, V10, r10, c, S0, n0, ey, at10, roomy, nxt⟩ => ?_
        subst ey
        exact setPut_int (X := X.blk s3 H3 scope ce fp) V10 at10 roomy r10 fun t11 V11 => wend V11 nxt
  exact PpSet.codeAny_compStart_set around (T.self X.A 0 _ _ _ st4 around)
theorem pe_scI {elt tg iter : Expr} {ifs : List Expr} {scope : Scope} {own : List (PySem.Str × Nat)} {pos : Pos} {wi : TI} {g : TG} {tt : TT} {te : TE} (calm : X.calm = true) (nd : X.N.Nodup) (it0 : PI X tg iter wi) (ok : BlkOk X.N X.env.scope scope own)
    (pg0 : ∀ (s0 : Shared) (G : Hp) (C : Addr) (cl : List (PySem.Str × Addr)) (fp : List Addr), PG (X.blk s0 G scope (compEnvC scope cl C X.env) fp) tg g)
    (pt0 : ∀ (s0 : Shared) (G : Hp) (C : Addr) (cl : List (PySem.Str × Addr)) (fp : List Addr), PTs (X.blk s0 G scope (compEnvC scope cl C X.env) fp) ifs tt)
    (pe0 : ∀ (s0 : Shared) (G : Hp) (C : Addr) (cl : List (PySem.Str × Addr)) (fp : List Addr), PE (X.blk s0 G scope (compEnvC scope cl C X.env) fp) elt te) (fold : ∀ x, foldedSetIterable iter X.env x = pure x := by intro _; rfl) :
    PE X (.SetComp elt [⟨tg, iter, ifs, 0⟩] scope pos) (tScI X.w wi g tt te (own.map (·.2))) := by
  refine ⟨fun pins s σ H Q I0 want => ?_⟩
  rw [PpSet.eval_SetComp]
  refine scI_gen calm nd it0 ok pg0 pt0 pe0 fold  I0 want fun D C s' m H' J q ns f => ⟨m, ns, fun h'' sb => ?_⟩
  obtain ⟨g0, g1, g2, g3, g4, g5⟩ := f
  exact ⟨.ref D, H', J.turned (t' := s'.toks) (fun b o ne e => (sb.2 b ne).trans e) g0 g1 g3 g4 g5, rfl, q⟩
theorem ps_scI {i : Nat} {y : PySem.Str} {py spos : Pos} {elt tg iter : Expr} {ifs : List Expr} {scope : Scope} {own : List (PySem.Str × Nat)} {pos : Pos} {wi : TI} {g : TG} {tt : TT} {te : TE} (calm : X.calm = true) (nd : X.N.Nodup) (hy : X.N[i]? = some y) (loc : X.env.scope.names.lookup y = some .local) (swap : swapsWith (.SetComp elt [⟨tg, iter, ifs, 0⟩] scope pos) (some (.Name y py)) spos.line X.env = pure true) (it0 : PI X tg iter wi) (ok : BlkOk X.N X.env.scope scope own)
    (pg0 : ∀ (s0 : Shared) (G : Hp) (C : Addr) (cl : List (PySem.Str × Addr)) (fp : List Addr), PG (X.blk s0 G scope (compEnvC scope cl C X.env) fp) tg g)
    (pt0 : ∀ (s0 : Shared) (G : Hp) (C : Addr) (cl : List (PySem.Str × Addr)) (fp : List Addr), PTs (X.blk s0 G scope (compEnvC scope cl C X.env) fp) ifs tt)
    (pe0 : ∀ (s0 : Shared) (G : Hp) (C : Addr) (cl : List (PySem.Str × Addr)) (fp : List Addr), PE (X.blk s0 G scope (compEnvC scope cl C X.env) fp) elt te) (fold : ∀ x, foldedSetIterable iter X.env x = pure x := by intro _; rfl) :
    PS X (.Assign [.Name y py] (.SetComp elt [⟨tg, iter, ifs, 0⟩] scope pos) spos) (tAsg (tScI X.w wi g tt te (own.map (·.2))) (gName i)) := by
  refine ⟨fun pins s σ H D I0 want => ?_⟩
  rw [exec_Assign_Name_used _ _ _ _ swap]
  refine wpAny_bind (wpAny_standAt (wpAny_bind ?_))
  show wpAny _ X.A (do let _ ← comprehension (.SetComp elt [⟨tg, iter, ifs, 0⟩] scope pos) scope X.env (firstIterPos [⟨tg, iter, ifs, 0⟩] pos) (newSet (.type "set")) false (eval iter X.env) (some (assign (.Name y py) X.env))) _ _ s
  replace want : (tScI X.w wi g tt te (own.map (·.2))) σ H (fun x G => gName i x σ G D.nx) := want
  refine wpAny_bind (thn (scI_gen (Qf := fun _ t => SP X pins D .next t) calm nd it0 ok pg0 pt0 pe0 fold  I0 want fun L C t m G J q ns f => ?_) fun _ t hq => wpAny_pure (wpAny_pure hq))
  show wpAny _ _ (assign (.Name y py) X.env (.ref L)) _ _ _
  refine wpAny_assign_Name (store_ok2 (v := V.ref L) J nd hy (.inl loc) rfl (fun t2 J2 ⟨a, sb, ha⟩ => ?_) (.inr loc))
  obtain ⟨g0, g1, g2, g3, g4, g5⟩ := f
  have away : C ≠ a := by
    rcases ha with z | z
    · exact z ▸ g1
    · exact fun e => g4 y a z e.symm
  exact ⟨m, ns.sameBut sb away, fun h3 sb3 => ⟨_, G, J2.turned (t' := t2.toks) (fun b o ne e => (sb3.2 b ne).trans e) g0 g1 g3 g4 g5, q⟩⟩
theorem sw_set {elt : Expr} {gs : List Comprehension} {scope : Scope} {pos py : Pos} {y : PySem.Str} {l : Nat} {env : Env} (kind : env.scope.kind = .function) (loc : env.scope.names.lookup y = some .local) (line : (py.line == pos.line) = true)
    (other : (scope.names.any fun (n, k) => n == y && (k == .local || k == .cell)) = false) : swapsWith (.SetComp elt gs scope pos) (some (.Name y py)) l env = pure true := by
  have k1 : env.kindOf y = some .local := loc
  have k2 : env.blockKind = .function := by unfold Env.blockKind; rw [kind]; rfl
  unfold swapsWith
  simp only [k2, k1, other, Expr.pos, line]
  rfl
end
/-! ### sorted of a set of whol, of any size -/
theorem sortSet_go {P : Program} {w : World} {A : Around} {E : Value → Shared → Prop} {s : Shared} {a : Addr} {S : Int → Bool} {n : Nat} {Q : Value → Shared → Prop} (R : SetR w s.heap a S n) (calm : A.handled = none)
    (go : ∀ s' p (out : List Value) (c : Nat) (ns : List Int), (∀ b o, s.heap.get? b = some o → s'.heap.get? b = some o) → s'.gens = s.gens → s'.os = s.os → s.heap.objs.size ≤ p →
      s'.heap.get? p = some (seqObj "list" out.toArray c) → IntsAre out ns → ns.Pairwise (· < ·) → (∀ k, k ∈ ns ↔ S k = true) → ns.length = n → n < scanBound → Q (.ref p) s') :
    wpAny (model P w) A (call (.builtin "sorted") [.ref a]) Q E s := by
  obtain ⟨ob, cs, cn, tb, atOb, exOb, dOb, good, dis, mem, few, fit, num, ris, led⟩ := R
  refine Calls.call_function_entry kind_sorted plain_sorted entry_sorted (args_sorted1 _) ?_
  unfold Builtin.«sorted»
  refine wpAny_bind (m := checkCount "sorted" 1 1 _) (wpAny_pure ?_)
  refine wpAny_bind (collect_set (A := A.in1) calm ⟨ob, atOb, exOb.1, dOb⟩ fit few ris led fun t vs keep size gens os pm => ?_)
  have lvs : vs.length = n := by rw [pm.length_eq, List.length_map, Array.length_toList, num]
  have small : vs.length ≤ sizeLine := by
    rw [lvs, sizeLine_eq]
    have b1 : cs.size < 4096 := few
    omega
  have whol : IntsAre vs (vs.map Builtin.Re.reRawOf) := ints_of vs fun v hv => by
    obtain ⟨e, he, rfl⟩ := List.mem_map.mp (pm.mem_iff.mp hv)
    obtain ⟨k, tk, h1, _⟩ := good e he
    exact ⟨k, tk, h1⟩
  have keys : (vs.map Builtin.Re.reRawOf).Perm (cs.toList.map keyOf) := by
    have z := pm.map Builtin.Re.reRawOf
    rwa [List.map_map] at z
  refine wpAny_bind (wpAny_newList ?_ small)
  have atL : (t.heap.push (seqObj "list" vs.toArray 0)).get? t.heap.objs.size = some (seqObj "list" vs.toArray 0) := Heap.get?_push_size _ rfl
  refine wpAny_bind (wpAny_holding (wpAny_call_entry slot_list_sort ⟨_, atL, rfl⟩ entry_list_sort (SrtO.list_sort_ord SrtO.swo_int atL small (fun h2 => SrtO.ints_sortable whol h2) fun out h1 h2 => ⟨_, rfl, ?_⟩) (args_list_sort _)))
  obtain ⟨k1, k2, k3⟩ := SrtO.ints_out whol h1 h2
  obtain ⟨c, atS⟩ := sortedHeap_at (vs := vs) (out := out.toArray) atL
  have pn : (out.map SrtO.iv).Perm (cs.toList.map keyOf) := k2.trans keys
  refine wpAny_pure ⟨_, rfl, go _ t.heap.objs.size out c (out.map SrtO.iv) (fun b u e => ?_) gens os size atS k1 (lt_of_le_nodup _ k3 (pn.nodup_iff.mpr dis)) (fun k => by rw [pn.mem_iff, ← mem k]) ?_ (by rw [← num]; exact few)⟩
  · have z := keep b u e
    have lt := Heap.lt_size z
    show (sortedHeap (t.heap.push (seqObj "list" vs.toArray 0)) t.heap.objs.size vs out.toArray).get? b = some u
    rw [sortedHeap_old (Nat.ne_of_lt lt) (by rw [size_push']; exact Nat.lt_succ_of_lt lt)]
    exact Heap.get?_push_of_some _ z
  · rw [pn.length_eq, List.length_map, Array.length_toList, num]
def rSortSetN (w : World) : List V → Hp → VK → Prop := fun vs H Q => ∃ (a : Addr) (S : Int → Bool) (n : Nat), vs = [V.ref a] ∧ H a = some (SetO w a S n) ∧
  ∀ (ns : List Int) (p : Addr), ns.Pairwise (· < ·) → (∀ k : Int, k ∈ ns ↔ S k = true) → ns.length = n → H p = none → Q (.ref p) (upd H p (.lst (ns.map V.int)))
theorem cr_sortSetN {X : Cx} (calm : X.calm = true) : CallR X (.builtin "sorted") (rSortSetN X.w) := by
  intro pins s σ H vs us Q I r ⟨a, S, n, ev, at_, q⟩
  subst ev
  have R := setO_get I at_
  rw [Vals.ref1 r]
  refine sortSet_go R (I.ok.hd calm) fun s' p out c ns k g o hp hg hi hs hm hl few => ?_
  have fits : (ns.map V.int).length ≤ sizeLine := by
    rw [List.length_map, hl, sizeLine_eq]
    have b1 : n < 4096 := few
    omega
  have J : Inv X pins σ (upd H p (.lst (ns.map V.int))) { s with heap := s'.heap, gens := s'.gens, drawn := s'.drawn, toks := s'.toks } :=
    I.call (ch := []) (Un.laid k hp (I.hok.fresh hp)) (I.hok.laid k hp ⟨fits, out, c, vals_of_ints hi, hg⟩) (by rw [g]; exact I.bare) (fun _ z => nomatch z)
  have e : s' = { s with heap := s'.heap, gens := s'.gens, drawn := s'.drawn, toks := s'.toks } := by
    cases s'
    cases s
    cases o
    rfl
  rw [e]
  exact ⟨.ref p, _, J, rfl, q ns p hs hm hl (I.hok.fresh hp)⟩
/-! ### readings -/
section
variable {w : World} {σ : St} {H : Hp} {Q : VK} {K : PySem.W.Frag} {te : TE} {tt : TT}
def inS (l : List Int) : Int → Bool := fun k => decide (k ∈ l)
theorem inS_nil : inS [] = setNo := by
  funext k
  simp [inS, setNo]
theorem inS_snoc {l : List Int} {c : Int} : (fun j => inS l j || decide (j = c)) = inS (l ++ [c]) := by
  funext k
  simp [inS]
def scB (w : World) (J : It) (g : TG) (tt : TT) (te : TE) (vs : List Nat) (σ : St) (Q : VK) (H1 : Hp) : Prop := ∀ D, H1 D = none → ∃ Z : Nat → Nat → Hp → Prop, (∃ m, Z 0 m (upd H1 D (SetO w D setNo 0))) ∧ ∀ i m G, Z i m G →
  (J.stop i G ∧ Q (.ref D) G) ∨ (J.go i G ∧ ∃ Y : Hp → Prop, (∀ G', Y G' → ∃ l, l < m ∧ Z (i + 1) l G') ∧ ∀ x G', J.yld i G x G' → g x (wipe σ vs) G' fun σ2 G2 => wipe σ2 vs = wipe σ vs ∧ tt σ2 G2 fun b G3 =>
    if b = true then te σ2 G3 fun y G4 => ∃ (c : Int) (S : Int → Bool) (n : Nat), y = .int c ∧ G4 D = some (SetO w D S n) ∧ n + 1 < scanBound ∧ Y (upd G4 D (SetO w D (fun j => S j || decide (j = c)) (if S c = true then n else n + 1))) else Y G3)
instance st_scI {wi : TI} {g : TG} {vs : List Nat} : Stp (tScI w wi g tt te vs σ H Q) (wi σ H fun J H1 => scB w J g tt te vs σ Q H1) := ⟨fun h => h⟩
/-- what is put in: the set then tells l, of at most m members -/
def ScPut (w : World) (H : Hp) (D : Addr) (l : List Int) (m : Nat) : VK := fun y G => ∃ (c : Int) (S : Int → Bool) (n : Nat), y = .int c ∧ G D = some (SetO w D S n) ∧ n + 1 < scanBound ∧
  ∃ k, k ≤ m ∧ upd G D (SetO w D (fun j => S j || decide (j = c)) (if S c = true then n else n + 1)) = upd H D (SetO w D (inS l) k)
theorem put_S {D : Addr} {l l' : List Int} {k m : Nat} {c : Int} {y : V} (hy : y = .int c) (hk : k ≤ m) (hm : m + 1 < 4096) (hl : l' = l ++ [c]) : ScPut w H D l' (m + 1) y (upd H D (SetO w D (inS l) k)) := by
  refine ⟨c, _, _, hy, upd_same, Nat.lt_of_le_of_lt (Nat.succ_le_succ hk) hm, if inS l c = true then k else k + 1, ?_, ?_⟩
  · split <;> omega
  · rw [upd_upd, inS_snoc, hl]
theorem rd_scR {lo : Int} {n : Nat} {g : TG} {vs : List Nat} (f : Nat → Int)
    (hs : ∀ D i k, H D = none → i < n → k ≤ i → g (.int (lo + i)) (wipe σ vs) (upd H D (SetO w D (inS ((List.range i).map f)) k)) fun σ2 H2 => wipe σ2 vs = wipe σ vs ∧ te σ2 H2 (ScPut w H D ((List.range (i + 1)).map f) (i + 1)))
    (q : ∀ D k, H D = none → k ≤ n → Q (.ref D) (upd H D (SetO w D (inS ((List.range n).map f)) k))) : scB w (Itr lo n) g tYes te vs σ Q H := by
  intro D hD
  refine ⟨fun i m G => m = n - i ∧ i ≤ n ∧ ∃ k, k ≤ i ∧ G = upd H D (SetO w D (inS ((List.range i).map f)) k), ⟨n, by simp, Nat.zero_le _, 0, Nat.le_refl _, by rw [← inS_nil]; rfl⟩, ?_⟩
  rintro i m G ⟨rfl, hi, k, hk, rfl⟩
  by_cases lt : i < n
  · refine .inr ⟨lt, fun G' => ∃ k, k ≤ i + 1 ∧ G' = upd H D (SetO w D (inS ((List.range (i + 1)).map f)) k), fun G' ⟨k', a, b⟩ => ⟨n - (i + 1), by omega, rfl, lt, k', a, b⟩, fun x G' y => ?_⟩
    obtain ⟨e, y⟩ := y
    subst e y
    exact hs D i k hD lt hk
  · have e : i = n := by omega
    subst e
    exact .inl ⟨Nat.le_refl _, q D k hD hk⟩
theorem range_snoc {f : Nat → Int} {i : Nat} : (List.range (i + 1)).map f = (List.range i).map f ++ [f i] := by
  rw [List.range_succ, List.map_append]
  rfl
/-- sorted of a set that tells l -/
theorem rd_sortSetN {D : Addr} {l : List Int} {n : Nat} (hD : H D = some (SetO w D (inS l) n)) (q : ∀ (ns : List Int) (p : Addr), ns.Pairwise (· < ·) → (∀ k, k ∈ ns ↔ k ∈ l) → H p = none → Q (.ref p) (upd H p (.lst (ns.map V.int)))) : rSortSetN w [.ref D] H Q :=
  ⟨D, _, n, rfl, hD, fun ns p h1 h2 _ hp => q ns p h1 (fun k => by rw [h2 k]; simp [inS]) hp⟩
end
end L2

namespace L2
open PySem PySem.Spec PyProof.Rows
/-! ### a set of ints by a comprehension of two clauses -/
section
variable {P : Program} {w : World} {A : Around} {R : Result → Shared → Prop} {s : Shared} {e tA fA tB fB : Expr} {cA cB : List Expr} {sc : Scope} {ps : Pos} {src dst : Value} {en : Env}
theorem sc2_turnA (e tA fA tB fB : Expr) (cA cB : List Expr) (sc : Scope) (ps : Pos) (src dst : Value) (en : Env) :
    compTurn (.SetComp e [⟨tA, fA, cA, 0⟩, ⟨tB, fB, cB, 0⟩] sc ps) 0 src dst en = (do
      standAt fA.pos
      match ← pyNext src with
      | none => pure (.done .next)
      | some item =>
        letOwnedTupleGo tA src item
        assign tA en item
        let mut good := true
        for cond in cA do
          if good then good ← isTrue cond en (eval cond en)
        if good then
          let inner ← eval fB en
          standAt fB.pos
          let inner ← foldedSetIterable fB en inner
          let _ ← runOwn (.compStart (.SetComp e [⟨tA, fA, cA, 0⟩, ⟨tB, fB, cB, 0⟩] sc ps) 1 (← holding [inner] (pyIter inner)) dst en) en
        again (.compLoop (.SetComp e [⟨tA, fA, cA, 0⟩, ⟨tB, fB, cB, 0⟩] sc ps) 0 src dst en)) := by rfl
theorem sc2_turnB (e tA fA tB fB : Expr) (cA cB : List Expr) (sc : Scope) (ps : Pos) (src dst : Value) (en : Env) :
    compTurn (.SetComp e [⟨tA, fA, cA, 0⟩, ⟨tB, fB, cB, 0⟩] sc ps) 1 src dst en = (do
      standAt fB.pos
      match ← pyNext src with
      | none => pure (.done .next)
      | some item =>
        letOwnedTupleGo tB src item
        assign tB en item
        let mut good := true
        for cond in cB do
          if good then good ← isTrue cond en (eval cond en)
        if good then
          (do let member ← eval e en; standAt e.pos; let _ ← call (.builtin "set.add") [dst, member])
        again (.compLoop (.SetComp e [⟨tA, fA, cA, 0⟩, ⟨tB, fB, cB, 0⟩] sc ps) 1 src dst en)) := by rfl
/-- what is asked of the tests -/
abbrev sc2_tests (cs : List Expr) (en : Env) : Sem Bool := forIn cs true fun c r => if r = true then do let ok ← isTrue c en (eval c en); pure (ForInStep.yield ok) else pure (ForInStep.yield r)
abbrev sc2_bad (P : Program) (w : World) (A : Around) (R : Result → Shared → Prop) (en : Env) : Value → Shared → Prop := notedBy (model P w) A en fun x t => R (.error x) t
theorem sc2_loopA (plain : ∀ x, foldedSetIterable fB en x = pure x) (Z : Nat → Shared → Prop)
    (turn : ∀ m t, Z m t → wpAny (model P w) A (pyNext src) (fun r t1 => match r with
      | none => R (.ok .next) t1
      | some u => wpAny (model P w) A (letOwnedTupleGo tA src u) (fun _ t2 => wpAny (model P w) A (assign tA en u) (fun _ t3 =>
          wpAny (model P w) A (sc2_tests cA en) (fun good t4 =>
            if good = true then wpAny (model P w) A (eval fB en) (fun x t5 => wpAny (model P w) A (pyIter x) (fun src1 t6 =>
              codeAny (model P w) A (.compStart (.SetComp e [⟨tA, fA, cA, 0⟩, ⟨tB, fB, cB, 0⟩] sc ps) 1 src1 dst en) (fun r t7 => match r with
                | .ok _ => ∃ l, l < m ∧ Z l t7
                | .error _ => False) t6) (sc2_bad P w A R en) t5) (sc2_bad P w A R en) t4
            else ∃ l, l < m ∧ Z l t4) (sc2_bad P w A R en) t3) (sc2_bad P w A R en) t2) (sc2_bad P w A R en) t1) (sc2_bad P w A R en) t)
    (m : Nat) (z : Z m s) :
    codeAny (model P w) A (.compLoop (.SetComp e [⟨tA, fA, cA, 0⟩, ⟨tB, fB, cB, 0⟩] sc ps) 0 src dst en) R s := by
  refine codeAny_loop rfl Z (fun m t hz => ?_) m z
  show wpAny _ A ((compTurn (.SetComp e [⟨tA, fA, cA, 0⟩, ⟨tB, fB, cB, 0⟩] sc ps) 0 src dst en).onRaise (fun x => do noteFrame x en; theTreesLotGoes x)) _ _ t
  refine wpAny_noted ?_
  rw [sc2_turnA]
  refine wpAny_bind (wpAny_standAt (wpAny_bind (wpAny_mono (turn m t hz) (fun r t1 k1 => ?_) fun _ _ z => z)))
  cases r with
  | none => exact wpAny_pure k1
  | some u =>
    refine wpAny_bind (wpAny_mono k1 (fun _ t2 k2 => wpAny_bind (wpAny_mono k2 (fun _ t3 k3 => wpAny_bind (wpAny_mono k3 (fun good t4 k4 => ?_) fun _ _ z => z)) fun _ _ z => z)) fun _ _ z => z)
    cases good with
    | false => exact wpAny_pure ⟨rfl, k4⟩
    | true =>
      refine wpAny_bind (wpAny_mono k4 (fun x t5 k5 => ?_) fun _ _ z => z)
      refine wpAny_bind (wpAny_standAt (wpAny_bind (wpAny_of_eq (plain x) (wpAny_bind (wpAny_holding (wpAny_mono k5 (fun src1 t6 k6 => wpAny_bind (wpAny_runOwn ?_)) fun _ _ z => z))))))
      rw [Around.mark_none]
      refine codeAny_mono k6 fun r t7 k7 => ?_
      cases r with
      | ok f =>
        first
          | exact wpAny_pure ⟨rfl, k7⟩
          | exact wpAny_bind (wpAny_pure (wpAny_pure ⟨rfl, k7⟩))
      | error x => exact k7.elim
theorem sc2_loopB (Z : Nat → Shared → Prop)
    (turn : ∀ m t, Z m t → wpAny (model P w) A (pyNext src) (fun r t1 => match r with
      | none => R (.ok .next) t1
      | some u => wpAny (model P w) A (letOwnedTupleGo tB src u) (fun _ t2 => wpAny (model P w) A (assign tB en u) (fun _ t3 =>
          wpAny (model P w) A (sc2_tests cB en) (fun good t4 =>
            if good = true then wpAny (model P w) A (eval e en) (fun x t5 =>
              wpAny (model P w) A (call (.builtin "set.add") [dst, x]) (fun _ t6 => ∃ l, l < m ∧ Z l t6) (sc2_bad P w A R en) t5) (sc2_bad P w A R en) t4
            else ∃ l, l < m ∧ Z l t4) (sc2_bad P w A R en) t3) (sc2_bad P w A R en) t2) (sc2_bad P w A R en) t1) (sc2_bad P w A R en) t)
    (m : Nat) (z : Z m s) :
    codeAny (model P w) A (.compLoop (.SetComp e [⟨tA, fA, cA, 0⟩, ⟨tB, fB, cB, 0⟩] sc ps) 1 src dst en) R s := by
  refine codeAny_loop rfl Z (fun m t hz => ?_) m z
  show wpAny _ A ((compTurn (.SetComp e [⟨tA, fA, cA, 0⟩, ⟨tB, fB, cB, 0⟩] sc ps) 1 src dst en).onRaise (fun x => do noteFrame x en; theTreesLotGoes x)) _ _ t
  refine wpAny_noted ?_
  rw [sc2_turnB]
  refine wpAny_bind (wpAny_standAt (wpAny_bind (wpAny_mono (turn m t hz) (fun r t1 k1 => ?_) fun _ _ z => z)))
  cases r with
  | none => exact wpAny_pure k1
  | some u =>
    refine wpAny_bind (wpAny_mono k1 (fun _ t2 k2 => wpAny_bind (wpAny_mono k2 (fun _ t3 k3 => wpAny_bind (wpAny_mono k3 (fun good t4 k4 => ?_) fun _ _ z => z)) fun _ _ z => z)) fun _ _ z => z)
    cases good with
    | false => exact wpAny_pure ⟨rfl, k4⟩
    | true =>
      exact wpAny_bind (wpAny_bind (wpAny_mono k4 (fun x t5 k5 => wpAny_bind (wpAny_standAt (wpAny_bind (wpAny_mono k5 (fun _ t6 k6 => wpAny_pure (wpAny_pure ⟨rfl, k6⟩)) fun _ _ z => z)))) fun _ _ z => z))
theorem sc2_startB (here : codeAny (model P w) A (.compLoop (.SetComp e [⟨tA, fA, cA, 0⟩, ⟨tB, fB, cB, 0⟩] sc ps) 1 src dst en) R s)
    (again_ : wpAny (model P w) A (pyIter src) (fun src1 t => codeAny (model P w) A (.compLoop (.SetComp e [⟨tA, fA, cA, 0⟩, ⟨tB, fB, cB, 0⟩] sc ps) 1 src1 dst en) R t) (sc2_bad P w A R en) s) :
    codeAny (model P w) A (.compStart (.SetComp e [⟨tA, fA, cA, 0⟩, ⟨tB, fB, cB, 0⟩] sc ps) 1 src dst en) R s := by
  refine codeAny_of_tree ?_
  show wpAny _ _ ((compStart (.SetComp e [⟨tA, fA, cA, 0⟩, ⟨tB, fB, cB, 0⟩] sc ps) 1 src dst en).onRaise (fun x => do noteFrame x en; standAt theWindowsPlace)) _ _ s
  refine wpAny_notedAt ?_
  unfold compStart
  show wpAny _ _ (ask >>= _) _ _ s
  refine wpAny_bind (wpAny_askSetting (wpAny_ite ?_))
  split
  · first
      | exact wpAny_bind (wpAny_pure (wpAny_pure (And.intro rfl here)))
      | exact wpAny_pure (And.intro rfl here)
  · first
      | exact wpAny_bind (wpAny_rule (wpAny_bind (wpAny_standAt (wpAny_bind (wpAny_mono again_ (fun src1 t k => wpAny_pure (And.intro rfl k)) fun _ _ x => x)))))
      | (refine wpAny_bind (wpAny_rule ?_); show wpAny _ _ (standAt fB.pos >>= _) _ _ s; exact wpAny_bind (wpAny_standAt (wpAny_bind (wpAny_mono again_ (fun src1 t k => wpAny_pure (And.intro rfl k)) fun _ _ x => x))))
end
section
variable {X : Cx}
/-- the inner clause's own loop, from which Y is reached -/
def sc2_inner (w : World) (D : Addr) (g1 : TG) (tt1 : TT) (te : TE) (vs1 : List Nat) (σ2 : St) (Y : Hp → Prop) (J1 : It) (G4 : Hp) : Prop := ∃ Z1 : Nat → Nat → Hp → Prop, (∃ m, Z1 0 m G4) ∧ ∀ j k G, Z1 j k G →
  (J1.stop j G ∧ Y G) ∨ (J1.go j G ∧ ∃ Y1 : Hp → Prop, (∀ G', Y1 G' → ∃ l, l < k ∧ Z1 (j + 1) l G') ∧ ∀ x G', J1.yld j G x G' → g1 x (wipe σ2 vs1) G' fun σ3 G5 => wipe σ3 vs1 = wipe σ2 vs1 ∧ tt1 σ3 G5 fun b G6 =>
    if b = true then te σ3 G6 fun y G7 => ∃ (c : Int) (S : Int → Bool) (n : Nat), y = .int c ∧ G7 D = some (SetO w D S n) ∧ n + 1 < scanBound ∧ Y1 (upd G7 D (SetO w D (fun j => S j || decide (j = c)) (if S c = true then n else n + 1))) else Y1 G6)
def tScI2 (w : World) (wi : TI) (g : TG) (tt : TT) (wi1 : TI) (g1 : TG) (tt1 : TT) (te : TE) (vs vs1 : List Nat) : TE := fun σ H Q => wi σ H fun J H1 => ∀ D, H1 D = none → ∃ Z : Nat → Nat → Hp → Prop, (∃ m, Z 0 m (upd H1 D (SetO w D setNo 0))) ∧ ∀ i m G, Z i m G →
  (J.stop i G ∧ Q (.ref D) G) ∨ (J.go i G ∧ ∃ Y : Hp → Prop, (∀ G', Y G' → ∃ l, l < m ∧ Z (i + 1) l G') ∧ ∀ x G', J.yld i G x G' → g x (wipe σ vs) G' fun σ2 G2 => wipe σ2 vs = wipe σ vs ∧ tt σ2 G2 fun b G3 =>
    if b = true then wi1 σ2 G3 (sc2_inner w D g1 tt1 te vs1 σ2 Y) else Y G3)
theorem scI2_gen {pins : List (Addr × Obj)} {s : Shared} {σ : St} {H : Hp} {Q : VK} {use : Option (Value → Sem Unit)} {Qf : Value → Shared → Prop} {pos2 : Pos} {elt tg iter tg1 iter1 : Expr} {ifs ifs1 : List Expr} {scope : Scope} {own : List (PySem.Str × Nat)} {vs1 : List Nat} {pos : Pos} {wi wi1 : TI} {g g1 : TG} {tt tt1 : TT} {te : TE} (calm : X.calm = true) (nd : X.N.Nodup) (it0 : PI X tg iter wi) (ok : BlkOk X.N X.env.scope scope own) (less : ∀ i ∈ vs1, i ∈ own.map (·.2))
    (pg0 : ∀ (s0 : Shared) (G : Hp) (C : Addr) (cl : List (PySem.Str × Addr)) (fp : List Addr), PG (X.blk s0 G scope (compEnvC scope cl C X.env) fp) tg g)
    (pt0 : ∀ (s0 : Shared) (G : Hp) (C : Addr) (cl : List (PySem.Str × Addr)) (fp : List Addr), PTs (X.blk s0 G scope (compEnvC scope cl C X.env) fp) ifs tt)
    (pi1 : ∀ (s0 : Shared) (G : Hp) (C : Addr) (cl : List (PySem.Str × Addr)) (fp : List Addr), PI (X.blk s0 G scope (compEnvC scope cl C X.env) fp) tg1 iter1 wi1)
    (pg1 : ∀ (s0 : Shared) (G : Hp) (C : Addr) (cl : List (PySem.Str × Addr)) (fp : List Addr), PG (X.blk s0 G scope (compEnvC scope cl C X.env) fp) tg1 g1)
    (pt1 : ∀ (s0 : Shared) (G : Hp) (C : Addr) (cl : List (PySem.Str × Addr)) (fp : List Addr), PTs (X.blk s0 G scope (compEnvC scope cl C X.env) fp) ifs1 tt1)
    (pe0 : ∀ (s0 : Shared) (G : Hp) (C : Addr) (cl : List (PySem.Str × Addr)) (fp : List Addr), PE (X.blk s0 G scope (compEnvC scope cl C X.env) fp) elt te) (fold : ∀ x, foldedSetIterable iter X.env x = pure x) (fold1 : ∀ en x, foldedSetIterable iter1 en x = pure x)
    (I0 : Inv X pins σ H s) (want : (tScI2 X.w wi g tt wi1 g1 tt1 te (own.map (·.2)) vs1) σ H Q)
    (last : ∀ D C s' m H', Inv X pins σ H' s' → Q (.ref D) H' → s'.heap.Ns C m → FpOk X pins H' C → compPost (model X.prog X.w) X.A X.xe use Qf (.ref D) C (.ok .next) s') :
    wpAny (model X.prog X.w) X.A (comprehension (.SetComp elt [⟨tg, iter, ifs, 0⟩, ⟨tg1, iter1, ifs1, 0⟩] scope pos) scope X.env pos2 (newSet (.type "set")) false (eval iter X.env) use) Qf X.xe s := by
  have clo : ∀ y ∈ scope.names, y.2 = .free → ∃ c, X.env.cells.lookup y.1 = some c := fun y hy e => I0.ok.has _ ((ok.free y hy e).elim .inl .inr)
  refine wpAny_comprehension_free (use := use) rfl fold (closure_ok clo) ok.kind (fun y hy e => by rw [ok.uniq y hy, e]) (thn (it0.run pins s σ H _ I0 want) fun _ _ hx => thn hx fun _ s2 got => ?_)
  obtain ⟨it, fp, tn, J, H2, rfl, I2, T, st2, f2, q⟩ := got
  refine PpSet.newSet_ok (newEnv_comp ?_)
  obtain ⟨Z, ⟨m0, z0⟩, turn⟩ := q s2.heap.objs.size (I2.hok.fresh (Nat.le_refl _))
  have I3 : Inv X pins σ (upd H2 s2.heap.objs.size (SetO X.w s2.heap.objs.size setNo 0)) _ := I2.laid (t' := s2.toks) (fun b o e => Heap.get?_push_of_some _ e) (Nat.le_refl _) (setO_new (setR_fresh X.w))
  have old : ∀ b ∈ fp, b < s2.heap.objs.size := fun b hb => let ⟨_, e, _⟩ := T.obj _ _ st2 b hb; Heap.lt_size e
  generalize hs3 : ({ s2 with heap := s2.heap.push { cls := .type "set", dict := none, data := .set #[] 0 (.fresh 0 0 (!X.w.params.followText "set-order")) } } : Shared) = s3 at *
  have grown : ∀ b o, s2.heap.get? b = some o → s3.heap.get? b = some o := fun b o e => by rw [← hs3]; exact Heap.get?_push_of_some _ e
  have wider : s3.heap.objs.size = s2.heap.objs.size + 1 := by rw [← hs3]; exact Heap.size_push _ _
  have f3 : ∀ b ∈ fp, FpOk X pins (upd H2 s2.heap.objs.size (SetO X.w s2.heap.objs.size setNo 0)) b ∧ b < s3.heap.objs.size := fun b hb =>
    ⟨⟨by rw [upd_ne (Nat.ne_of_lt (old b hb))]; exact (f2 b hb).1, (f2 b hb).2⟩, by rw [wider]; exact Nat.lt_succ_of_lt (old b hb)⟩
  generalize s2.heap.objs.size = D at *
  have st3 := T.keep _ _ _ st2 fun b _ o e => grown b o e
  have I4 := block_start I3 ok nd f3
  generalize hH3 : upd H2 D (SetO X.w D setNo 0) = H3 at *
  replace pg0 := pg0 s3 H3 s3.heap.objs.size (cellsFrom (s3.heap.objs.size + 1) scope.names (cloFrom X.env.cells scope.names [])) fp
  replace pt0 := pt0 s3 H3 s3.heap.objs.size (cellsFrom (s3.heap.objs.size + 1) scope.names (cloFrom X.env.cells scope.names [])) fp
  replace pe0 := pe0 s3 H3 s3.heap.objs.size (cellsFrom (s3.heap.objs.size + 1) scope.names (cloFrom X.env.cells scope.names [])) fp
  replace pi1 := pi1 s3 H3 s3.heap.objs.size (cellsFrom (s3.heap.objs.size + 1) scope.names (cloFrom X.env.cells scope.names [])) fp
  replace pg1 := pg1 s3 H3 s3.heap.objs.size (cellsFrom (s3.heap.objs.size + 1) scope.names (cloFrom X.env.cells scope.names [])) fp
  replace pt1 := pt1 s3 H3 s3.heap.objs.size (cellsFrom (s3.heap.objs.size + 1) scope.names (cloFrom X.env.cells scope.names [])) fp
  generalize hS4 : ({ s3 with heap := pushCells (s3.heap.push { cls := .type "dict", data := .dict #[] }) scope.names } : Shared) = s4 at *
  generalize hce : compEnvC scope (cellsFrom (s3.heap.objs.size + 1) scope.names (cloFrom X.env.cells scope.names [])) s3.heap.objs.size X.env = ce at *
  have place : ce.locals = s3.heap.objs.size := by rw [← hce]; rfl
  show codeAny _ _ (.compStart (.SetComp elt [⟨tg, iter, ifs, 0⟩, ⟨tg1, iter1, ifs1, 0⟩] scope pos) 0 (.ref it) (.ref D) (compEnvC scope (cellsFrom (s3.heap.objs.size + 1) scope.names (cloFrom X.env.cells scope.names [])) s3.heap.objs.size X.env)) (compPost (model X.prog X.w) X.A X.xe use Qf (.ref D) s3.heap.objs.size) s4
  rw [hce]
  have st4 := T.keep _ _ s4.heap st3 fun b _ o e => by rw [← hS4]; exact pushCells_keeps _ _ _ _ (Heap.get?_push_of_some _ e)
  have none3 : ∀ b ∈ fp, H3 b = none := fun b hb => (f3 b hb).1.1
  have meet : ∀ {τ : L2.St} {G : Hp} {t : Shared}, Inv (X.blk s3 H3 scope ce fp) [] τ G t → (∀ b ∈ fp, G b = none) → ∀ b ∈ fp, FpOk (X.blk s3 H3 scope ce fp) [] G b := fun {τ G t} V no b hb =>
    ⟨no b hb, (V.ok.exf b hb).1, V.ok.exfs b hb, .inl hb, fun x c e => (V.ok.exf b hb).2 x c e, fun p hp => absurd (show p ∈ ([] : List (Addr × Obj)) ++ [] from hp) (by simp)⟩
  have around : codeAny (model X.prog X.w) X.A (.compLoop (.SetComp elt [⟨tg, iter, ifs, 0⟩, ⟨tg1, iter1, ifs1, 0⟩] scope pos) 0 (.ref it) (.ref D) ce) (compPost (model X.prog X.w) X.A X.xe use Qf (.ref D) s3.heap.objs.size) s4 := by
    refine sc2_loopA (fold1 ce) (fun m t => ∃ i G, Inv (X.blk s3 H3 scope ce fp) [] (wipe σ (own.map (·.2))) G t ∧ tn i t.heap ∧ (∀ b ∈ fp, G b = none) ∧ Z i m G) ?_ m0 ⟨0, H3, I4, st4, none3, z0⟩
    rintro m t5 ⟨i, G5, V5, w5, no5, z5⟩
    rcases turn i m G5 z5 with ⟨halt, want5⟩ | ⟨more, Y, fewer, step⟩
    · refine thnF (T.done (X.blk s3 H3 scope ce fp) rfl rfl rfl calm i [] t5 _ G5 (fun _ _ => False) V5 (meet V5 no5) w5 halt) fun r t6 ⟨er, V6⟩ => ?_
      subst er
      have V7 : Inv X pins σ G5 t6 := I3.call' (ch := fp) V6.os V6.base V6.hok V6.bare fun b hb => ⟨(f3 b hb).1.2.2.2.1, (f3 b hb).1.2.1, (f3 b hb).1.2.2.2.2.1, (f3 b hb).1.2.2.2.2.2⟩
      have gone : G5 s3.heap.objs.size = none := place ▸ (show G5 ce.locals = none from V6.free)
      obtain ⟨nm, ns6, _⟩ := V6.loc
      replace ns6 : t6.heap.Ns s3.heap.objs.size nm := place ▸ ns6
      exact last D s3.heap.objs.size t6 nm G5 V7 want5 ns6 (I3.fpOk (Nat.le_refl _) gone)
    · refine thnF (T.item (X.blk s3 H3 scope ce fp) rfl rfl rfl calm i [] t5 _ G5 (fun _ _ => False) V5 (meet V5 no5) w5 more) fun r t6 ⟨u, er, rest⟩ => ?_
      subst er
      refine thnF rest fun _ t7 ⟨x, G7, V7, r7, y7, w7, no7⟩ => ?_
      refine thnF (pg0.run _ t7 _ G7 x u _ (V7.pinned (meet V7 no7) (T.obj _ _ w7)) r7 (step x G7 y7)) fun _ t8 ⟨τ, G8, V8, same8, q8⟩ => ?_
      refine thnF (pt0.run _ t8 τ G8 _ V8 q8) fun b t9 ⟨G9, V9, q9⟩ => ?_
      have wend : ∀ {τ' : St} {tz : Shared} {Gz : Hp}, Inv (X.blk s3 H3 scope ce fp) ([] ++ pinsAt fp t7.heap) τ' Gz tz → (wipe σ (own.map (·.2))).length = τ'.length → (∀ (j : Nat) v, (wipe σ (own.map (·.2)))[j]? = some (some v) → τ'[j]? = some (some v)) → Y Gz →
          ∃ l, l < m ∧ ∃ i G, Inv (X.blk s3 H3 scope ce fp) [] (wipe σ (own.map (·.2))) G tz ∧ tn i tz.heap ∧ (∀ b ∈ fp, G b = none) ∧ Z i l G := fun {τ' tz Gz} Vz long kn yz => by
        obtain ⟨l, lt, zl⟩ := fewer Gz yz
        have kept : ∀ b ∈ fp, ∀ o, t7.heap.get? b = some o → tz.heap.get? b = some o ∧ Gz b = none := fun b hb o e =>
          let k := Vz.pin (b, o) (List.mem_append_right _ (List.mem_append_right _ (mem_pinsAt hb e)))
          ⟨k.1, k.2.1⟩
        refine ⟨l, lt, i + 1, Gz, (Vz.unpinned (pins := [])).weak long kn, T.keep _ _ _ w7 fun b hb o e => (kept b hb o e).1, fun b hb => ?_, zl⟩
        obtain ⟨o, e, _⟩ := T.obj _ _ w7 b hb
        exact (kept b hb o e).2
      have long8 : (wipe σ (own.map (·.2))).length = τ.length := by rw [← same8, wipe_length]
      have kn8 : ∀ (j : Nat) v, (wipe σ (own.map (·.2)))[j]? = some (some v) → τ[j]? = some (some v) := fun j v e => (wipe_some (same8 ▸ e)).1
      have kn9 : ∀ (j : Nat) v, (wipe σ (own.map (·.2)))[j]? = some (some v) → (wipe τ vs1)[j]? = some (some v) := fun j v e => by
        obtain ⟨e1, e2⟩ := wipe_some (same8 ▸ e)
        rwa [wipe_out fun z => e2 (less j z)]
      cases b with
      | false => exact wend V9 long8 kn8 q9
      | true =>
        refine thnF (pi1.run _ t9 τ G9 _ V9 q9) fun _ ta hx => thnF hx fun _ tb got1 => ?_
        obtain ⟨it1, fp1, tn1, J1, Gb, rfl, Vb, T1, stb, fb, Z1, ⟨m1, z1⟩, turn1⟩ := got1
        have meet1 : ∀ {G : Hp}, (∀ b ∈ fp1, G b = none) → ∀ b ∈ fp1, FpOk (X.blk s3 H3 scope ce fp) ([] ++ pinsAt fp t7.heap) G b := fun no b hb => ⟨no b hb, (fb b hb).2⟩
        have inside : codeAny (model X.prog X.w) X.A (.compLoop (.SetComp elt [⟨tg, iter, ifs, 0⟩, ⟨tg1, iter1, ifs1, 0⟩] scope pos) 1 (.ref it1) (.ref D) ce)
            (fun r tz => match r with
              | .ok _ => ∃ l, l < m ∧ ∃ i G, Inv (X.blk s3 H3 scope ce fp) [] (wipe σ (own.map (·.2))) G tz ∧ tn i tz.heap ∧ (∀ b ∈ fp, G b = none) ∧ Z i l G
              | .error _ => False) tb := by
          refine sc2_loopB (fun k t => ∃ j G, Inv (X.blk s3 H3 scope ce fp) ([] ++ pinsAt fp t7.heap) (wipe τ vs1) G t ∧ tn1 j t.heap ∧ (∀ b ∈ fp1, G b = none) ∧ Z1 j k G) ?_ m1 ⟨0, Gb, Vb.weak (wipe_length _ _) (fun j v e => (wipe_some e).1), stb, fun b hb => (fb b hb).1, z1⟩
          rintro k tc ⟨j, Gc, Vc, stc, noc, zc⟩
          rcases turn1 j k Gc zc with ⟨halt1, y1⟩ | ⟨more1, Y1, fewer1, step1⟩
          · refine thnF (T1.done (X.blk s3 H3 scope ce fp) rfl rfl rfl calm j _ tc (wipe τ vs1) Gc (fun _ _ => False) Vc (meet1 noc) stc halt1) fun r td ⟨er, Vd⟩ => ?_
            subst er
            exact wend Vd (long8.trans (wipe_length τ vs1).symm) kn9 y1
          · refine thnF (T1.item (X.blk s3 H3 scope ce fp) rfl rfl rfl calm j _ tc (wipe τ vs1) Gc (fun _ _ => False) Vc (meet1 noc) stc more1) fun r td ⟨u1, er, rest1⟩ => ?_
            subst er
            refine thnF rest1 fun _ tf ⟨x1, Gf, Vf, rf, yf, stf, nof⟩ => ?_
            refine thnF (pg1.run _ tf (wipe τ vs1) Gf x1 u1 _ (Vf.pinned (meet1 nof) (T1.obj _ _ stf)) rf (step1 x1 Gf yf)) fun _ tg ⟨τ1, Gg, Vg, sameg, qg⟩ => ?_
            refine thnF (pt1.run _ tg τ1 Gg _ Vg qg) fun b1 th ⟨Gh, Vh, qh⟩ => ?_
            have wend1 : ∀ {tz : Shared} {Gz : Hp}, Inv (X.blk s3 H3 scope ce fp) (([] ++ pinsAt fp t7.heap) ++ pinsAt fp1 tf.heap) τ1 Gz tz → Y1 Gz → ∃ l, l < k ∧ ∃ j G, Inv (X.blk s3 H3 scope ce fp) ([] ++ pinsAt fp t7.heap) (wipe τ vs1) G tz ∧ tn1 j tz.heap ∧ (∀ b ∈ fp1, G b = none) ∧ Z1 j l G := fun {tz Gz} Vz yz => by
              obtain ⟨l, lt, zl⟩ := fewer1 Gz yz
              have kept : ∀ b ∈ fp1, ∀ o, tf.heap.get? b = some o → tz.heap.get? b = some o ∧ Gz b = none := fun b hb o e =>
                let k := Vz.pin (b, o) (List.mem_append_right _ (List.mem_append_right _ (mem_pinsAt hb e)))
                ⟨k.1, k.2.1⟩
              refine ⟨l, lt, j + 1, Gz, Vz.unpinned.weak (by rw [← sameg, wipe_length]) (fun j v e => (wipe_some (sameg ▸ e)).1), T1.keep _ _ _ stf fun b hb o e => (kept b hb o e).1, fun b hb => ?_, zl⟩
              obtain ⟨o, e, _⟩ := T1.obj _ _ stf b hb
              exact (kept b hb o e).2
            cases b1 with
            | false => exact wend1 Vh qh
            | true =>
              refine thnF (pe0.run _ th τ1 Gh _ Vh qh) fun z ti ⟨yv, Gi, Vi, ri, c, S0, n0, ey, at_, roomy, nxt⟩ => ?_
              subst ey
              exact setPut_int (X := X.blk s3 H3 scope ce fp) Vi at_ roomy ri fun tj Vj => wend1 Vj nxt
        exact sc2_startB inside (T1.self X.A 0 _ _ _ stb inside)
  exact PpSet.codeAny_compStart_set around (T.self X.A 0 _ _ _ st4 around)
theorem pe_scI2 {elt tg iter tg1 iter1 : Expr} {ifs ifs1 : List Expr} {scope : Scope} {own : List (PySem.Str × Nat)} {vs1 : List Nat} {pos : Pos} {wi wi1 : TI} {g g1 : TG} {tt tt1 : TT} {te : TE} (calm : X.calm = true) (nd : X.N.Nodup) (it0 : PI X tg iter wi) (ok : BlkOk X.N X.env.scope scope own) (less : ∀ i ∈ vs1, i ∈ own.map (·.2))
    (pg0 : ∀ (s0 : Shared) (G : Hp) (C : Addr) (cl : List (PySem.Str × Addr)) (fp : List Addr), PG (X.blk s0 G scope (compEnvC scope cl C X.env) fp) tg g)
    (pt0 : ∀ (s0 : Shared) (G : Hp) (C : Addr) (cl : List (PySem.Str × Addr)) (fp : List Addr), PTs (X.blk s0 G scope (compEnvC scope cl C X.env) fp) ifs tt)
    (pi1 : ∀ (s0 : Shared) (G : Hp) (C : Addr) (cl : List (PySem.Str × Addr)) (fp : List Addr), PI (X.blk s0 G scope (compEnvC scope cl C X.env) fp) tg1 iter1 wi1)
    (pg1 : ∀ (s0 : Shared) (G : Hp) (C : Addr) (cl : List (PySem.Str × Addr)) (fp : List Addr), PG (X.blk s0 G scope (compEnvC scope cl C X.env) fp) tg1 g1)
    (pt1 : ∀ (s0 : Shared) (G : Hp) (C : Addr) (cl : List (PySem.Str × Addr)) (fp : List Addr), PTs (X.blk s0 G scope (compEnvC scope cl C X.env) fp) ifs1 tt1)
    (pe0 : ∀ (s0 : Shared) (G : Hp) (C : Addr) (cl : List (PySem.Str × Addr)) (fp : List Addr), PE (X.blk s0 G scope (compEnvC scope cl C X.env) fp) elt te) (fold : ∀ x, foldedSetIterable iter X.env x = pure x := by intro _; rfl) (fold1 : ∀ en x, foldedSetIterable iter1 en x = pure x := by intro _ _; rfl) :
    PE X (.SetComp elt [⟨tg, iter, ifs, 0⟩, ⟨tg1, iter1, ifs1, 0⟩] scope pos) (tScI2 X.w wi g tt wi1 g1 tt1 te (own.map (·.2)) vs1) := by
  refine ⟨fun pins s σ H Q I0 want => ?_⟩
  rw [PpSet.eval_SetComp]
  refine scI2_gen calm nd it0 ok less pg0 pt0 pi1 pg1 pt1 pe0 fold fold1  I0 want fun D C s' m H' J q ns f => ⟨m, ns, fun h'' sb => ?_⟩
  obtain ⟨g0, g1, g2, g3, g4, g5⟩ := f
  exact ⟨.ref D, H', J.turned (t' := s'.toks) (fun b o ne e => (sb.2 b ne).trans e) g0 g1 g3 g4 g5, rfl, q⟩
theorem ps_scI2 {i : Nat} {y : PySem.Str} {py spos : Pos} {elt tg iter tg1 iter1 : Expr} {ifs ifs1 : List Expr} {scope : Scope} {own : List (PySem.Str × Nat)} {vs1 : List Nat} {pos : Pos} {wi wi1 : TI} {g g1 : TG} {tt tt1 : TT} {te : TE} (calm : X.calm = true) (nd : X.N.Nodup) (hy : X.N[i]? = some y) (loc : X.env.scope.names.lookup y = some .local) (swap : swapsWith (.SetComp elt [⟨tg, iter, ifs, 0⟩, ⟨tg1, iter1, ifs1, 0⟩] scope pos) (some (.Name y py)) spos.line X.env = pure true) (it0 : PI X tg iter wi) (ok : BlkOk X.N X.env.scope scope own) (less : ∀ i ∈ vs1, i ∈ own.map (·.2))
    (pg0 : ∀ (s0 : Shared) (G : Hp) (C : Addr) (cl : List (PySem.Str × Addr)) (fp : List Addr), PG (X.blk s0 G scope (compEnvC scope cl C X.env) fp) tg g)
    (pt0 : ∀ (s0 : Shared) (G : Hp) (C : Addr) (cl : List (PySem.Str × Addr)) (fp : List Addr), PTs (X.blk s0 G scope (compEnvC scope cl C X.env) fp) ifs tt)
    (pi1 : ∀ (s0 : Shared) (G : Hp) (C : Addr) (cl : List (PySem.Str × Addr)) (fp : List Addr), PI (X.blk s0 G scope (compEnvC scope cl C X.env) fp) tg1 iter1 wi1)
    (pg1 : ∀ (s0 : Shared) (G : Hp) (C : Addr) (cl : List (PySem.Str × Addr)) (fp : List Addr), PG (X.blk s0 G scope (compEnvC scope cl C X.env) fp) tg1 g1)
    (pt1 : ∀ (s0 : Shared) (G : Hp) (C : Addr) (cl : List (PySem.Str × Addr)) (fp : List Addr), PTs (X.blk s0 G scope (compEnvC scope cl C X.env) fp) ifs1 tt1)
    (pe0 : ∀ (s0 : Shared) (G : Hp) (C : Addr) (cl : List (PySem.Str × Addr)) (fp : List Addr), PE (X.blk s0 G scope (compEnvC scope cl C X.env) fp) elt te) (fold : ∀ x, foldedSetIterable iter X.env x = pure x := by intro _; rfl) (fold1 : ∀ en x, foldedSetIterable iter1 en x = pure x := by intro _ _; rfl) :
    PS X (.Assign [.Name y py] (.SetComp elt [⟨tg, iter, ifs, 0⟩, ⟨tg1, iter1, ifs1, 0⟩] scope pos) spos) (tAsg (tScI2 X.w wi g tt wi1 g1 tt1 te (own.map (·.2)) vs1) (gName i)) := by
  refine ⟨fun pins s σ H D I0 want => ?_⟩
  rw [exec_Assign_Name_used _ _ _ _ swap]
  refine wpAny_bind (wpAny_standAt (wpAny_bind ?_))
  show wpAny _ X.A (do let _ ← comprehension (.SetComp elt [⟨tg, iter, ifs, 0⟩, ⟨tg1, iter1, ifs1, 0⟩] scope pos) scope X.env (firstIterPos [⟨tg, iter, ifs, 0⟩, ⟨tg1, iter1, ifs1, 0⟩] pos) (newSet (.type "set")) false (eval iter X.env) (some (assign (.Name y py) X.env))) _ _ s
  replace want : (tScI2 X.w wi g tt wi1 g1 tt1 te (own.map (·.2)) vs1) σ H (fun x G => gName i x σ G D.nx) := want
  refine wpAny_bind (thn (scI2_gen (Qf := fun _ t => SP X pins D .next t) calm nd it0 ok less pg0 pt0 pi1 pg1 pt1 pe0 fold fold1  I0 want fun L C t m G J q ns f => ?_) fun _ t hq => wpAny_pure (wpAny_pure hq))
  show wpAny _ _ (assign (.Name y py) X.env (.ref L)) _ _ _
  refine wpAny_assign_Name (store_ok2 (v := V.ref L) J nd hy (.inl loc) rfl (fun t2 J2 ⟨a, sb, ha⟩ => ?_) (.inr loc))
  obtain ⟨g0, g1, g2, g3, g4, g5⟩ := f
  have away : C ≠ a := by
    rcases ha with z | z
    · exact z ▸ g1
    · exact fun e => g4 y a z e.symm
  exact ⟨m, ns.sameBut sb away, fun h3 sb3 => ⟨_, G, J2.turned (t' := t2.toks) (fun b o ne e => (sb3.2 b ne).trans e) g0 g1 g3 g4 g5, q⟩⟩
end
end L2
/-! ### a set of ints as what was put in, in order -/
namespace L2
open PySem PySem.Spec PyProof.Rows
def insL (l : List Int) (c : Int) : List Int := if c ∈ l then l else l ++ [c]
def ofL (xs : List Int) : List Int := xs.foldl insL []
theorem ofL_snoc {xs : List Int} {c : Int} : ofL (xs ++ [c]) = insL (ofL xs) c := by
  unfold ofL
  rw [List.foldl_append]
  rfl
theorem mem_insL {l : List Int} {c k : Int} : k ∈ insL l c ↔ k ∈ l ∨ k = c := by
  unfold insL
  split
  · rename_i h
    exact ⟨.inl, fun z => z.elim id fun e => e ▸ h⟩
  · simp
theorem mem_foldl : ∀ {xs l : List Int} {k : Int}, k ∈ xs.foldl insL l ↔ k ∈ l ∨ k ∈ xs
  | [], l, k => by simp
  | c :: xs, l, k => by
    rw [List.foldl_cons, mem_foldl (xs := xs), mem_insL, List.mem_cons]
    constructor
    · rintro ((h | h) | h)
      · exact .inl h
      · exact .inr (.inl h)
      · exact .inr (.inr h)
    · rintro (h | h | h)
      · exact .inl (.inl h)
      · exact .inl (.inr h)
      · exact .inr h
theorem mem_ofL {xs : List Int} {k : Int} : k ∈ ofL xs ↔ k ∈ xs := by
  unfold ofL
  rw [mem_foldl]
  simp
theorem nodup_insL {l : List Int} {c : Int} (h : l.Nodup) : (insL l c).Nodup := by
  unfold insL
  split
  · exact h
  · rename_i hc
    refine List.nodup_append.mpr ⟨h, by simp, ?_⟩
    intro a ha b hb e
    rw [List.mem_singleton] at hb
    exact hc (hb ▸ e ▸ ha)
theorem nodup_foldl : ∀ {xs l : List Int}, l.Nodup → (xs.foldl insL l).Nodup
  | [], _, h => h
  | _ :: xs, _, h => nodup_foldl (xs := xs) (nodup_insL h)
theorem nodup_ofL {xs : List Int} : (ofL xs).Nodup := nodup_foldl List.nodup_nil
theorem len_insL {l : List Int} {c : Int} : (insL l c).length ≤ l.length + 1 := by
  unfold insL
  split
  · exact Nat.le_succ _
  · simp
theorem len_foldl : ∀ {xs l : List Int}, (xs.foldl insL l).length ≤ l.length + xs.length
  | [], _ => Nat.le_refl _
  | c :: xs, l => by
    have a := len_foldl (xs := xs) (l := insL l c)
    have b := len_insL (l := l) (c := c)
    rw [List.foldl_cons, List.length_cons]
    omega
theorem len_ofL {xs : List Int} : (ofL xs).length ≤ xs.length := by
  have := len_foldl (xs := xs) (l := [])
  unfold ofL
  simpa using this
/-- distinct ints from 0 on below M are at most M -/
theorem nodup_le : ∀ {M : Nat} {l : List Int}, l.Nodup → (∀ x ∈ l, 0 ≤ x ∧ x < (M : Int)) → l.length ≤ M
  | 0, l, _, h => by
    cases l with
    | nil => exact Nat.le_refl _
    | cons a l => have := h a List.mem_cons_self; omega
  | M + 1, l, nd, h => by
    have e1 : (l.filter (fun x => decide (x ≠ (M : Int)))).length ≤ M := nodup_le (nd.filter _) fun x hx => by
      obtain ⟨a, b⟩ := List.mem_filter.mp hx
      have := h x a
      have := of_decide_eq_true b
      omega
    have e2 : (l.filter (fun x => decide (x = (M : Int)))).length ≤ 1 := by
      match hf : l.filter (fun x => decide (x = (M : Int))) with
      | [] => exact Nat.zero_le _
      | [_] => exact Nat.le_refl _
      | a :: b :: r =>
        have n2 : (a :: b :: r).Nodup := hf ▸ nd.filter _
        have ha : a ∈ l.filter (fun x => decide (x = (M : Int))) := by rw [hf]; exact List.mem_cons_self
        have hb : b ∈ l.filter (fun x => decide (x = (M : Int))) := by rw [hf]; exact List.mem_cons_of_mem _ List.mem_cons_self
        have ea := of_decide_eq_true (List.mem_filter.mp ha).2
        have eb := of_decide_eq_true (List.mem_filter.mp hb).2
        have := (List.nodup_cons.mp n2).1
        rw [ea, eb] at this
        exact absurd List.mem_cons_self this
    have e3 : l.length = (l.filter (fun x => decide (x = (M : Int)))).length + (l.filter (fun x => decide (x ≠ (M : Int)))).length := by
      clear h e1 e2 nd
      induction l with
      | nil => rfl
      | cons a l ih =>
        by_cases z : a = (M : Int)
        · simp [z, ih]
          omega
        · simp [z, ih]
          omega
    omega
theorem ofL_le {M : Nat} {xs : List Int} (h : ∀ x ∈ xs, 0 ≤ x ∧ x < (M : Int)) : (ofL xs).length ≤ M := nodup_le nodup_ofL fun x hx => h x (mem_ofL.mp hx)
section
variable {w : World} {σ : St} {H : Hp} {Q : VK} {K : PySem.W.Frag} {te : TE} {tt : TT}
/-- the heap with the set of what stands in xs at D -/
def SetL (w : World) (H : Hp) (D : Addr) (xs : List Int) : Hp := upd H D (SetO w D (inS (ofL xs)) (ofL xs).length)
theorem SetL.at {D : Addr} {xs : List Int} : SetL w H D xs D = some (SetO w D (inS (ofL xs)) (ofL xs).length) := upd_same
theorem SetL.same {D : Addr} {xs : List Int} (h : H D = none) : Same H (SetL w H D xs) := same_new h
theorem SetL.nt {D : Addr} {xs : List Int} (h : NoT H) : NoT (SetL w H D xs) := NoT.upd h rfl
theorem SetL.nil {D : Addr} : upd H D (SetO w D setNo 0) = SetL w H D [] := by rw [← inS_nil]; rfl
theorem SetL.put {D : Addr} {xs : List Int} {c : Int} : upd (SetL w H D xs) D (SetO w D (fun j => inS (ofL xs) j || decide (j = c)) (if inS (ofL xs) c = true then (ofL xs).length else (ofL xs).length + 1)) = SetL w H D (xs ++ [c]) := by
  unfold SetL
  rw [upd_upd, ofL_snoc, inS_snoc]
  by_cases h : c ∈ ofL xs
  · have e1 : inS (ofL xs) c = true := decide_eq_true h
    have e2 : inS (ofL xs ++ [c]) = inS (ofL xs) := by
      funext k
      refine decide_eq_decide.mpr ?_
      rw [List.mem_append, List.mem_singleton]
      exact ⟨fun z => z.elim id fun e => e ▸ h, .inl⟩
    rw [if_pos e1, e2, show insL (ofL xs) c = ofL xs from if_pos h]
  · have e1 : ¬ inS (ofL xs) c = true := fun z => h (of_decide_eq_true z)
    rw [if_neg e1, show insL (ofL xs) c = ofL xs ++ [c] from if_neg h, List.length_append]
    rfl
/-- what is put in: the set then holds xs -/
def ScP (w : World) (H : Hp) (D : Addr) (xs : List Int) : VK := fun y G => ∃ (c : Int) (S : Int → Bool) (n : Nat), y = .int c ∧ G D = some (SetO w D S n) ∧ n + 1 < scanBound ∧
  upd G D (SetO w D (fun j => S j || decide (j = c)) (if S c = true then n else n + 1)) = SetL w H D xs
theorem put_P2 {D : Addr} {xs ys : List Int} {c : Int} {y : V} (hy : y = .int c) (hm : (ofL xs).length < 4095) (hl : ys = xs ++ [c]) : ScP w H D ys y (SetL w H D xs) :=
  ⟨c, _, _, hy, upd_same, Nat.succ_lt_succ hm, by rw [hl]; exact SetL.put⟩
theorem rd_scRL {lo : Int} {n : Nat} {g : TG} {vs : List Nat} (f : Nat → Int)
    (hs : ∀ D i, H D = none → i < n → g (.int (lo + i)) (wipe σ vs) (SetL w H D ((List.range i).map f)) fun σ2 H2 => wipe σ2 vs = wipe σ vs ∧ te σ2 H2 (ScP w H D ((List.range (i + 1)).map f)))
    (q : ∀ D, H D = none → Q (.ref D) (SetL w H D ((List.range n).map f))) : scB w (Itr lo n) g tYes te vs σ Q H := by
  intro D hD
  refine ⟨fun i m G => m = n - i ∧ i ≤ n ∧ G = SetL w H D ((List.range i).map f), ⟨n, by simp, Nat.zero_le _, SetL.nil⟩, ?_⟩
  rintro i m G ⟨rfl, hi, rfl⟩
  by_cases lt : i < n
  · refine .inr ⟨lt, fun G' => G' = SetL w H D ((List.range (i + 1)).map f), fun G' e => ⟨n - (i + 1), by omega, rfl, lt, e⟩, fun x G' y => ?_⟩
    obtain ⟨e, y⟩ := y
    subst e y
    exact hs D i hD lt
  · have e : i = n := by omega
    subst e
    exact .inl ⟨Nat.le_refl _, q D hD⟩
/-- over a list that stands still -/
theorem rd_scLL {a : Addr} {vsx : List V} {g : TG} {vs : List Nat} (f : V → Int) (hS : SqL K H a vsx)
    (hs : ∀ D l x r, H D = none → vsx = l ++ x :: r → g x (wipe σ vs) (SetL w H D (l.map f)) fun σ2 H2 => wipe σ2 vs = wipe σ vs ∧ te σ2 H2 (ScP w H D ((l ++ [x]).map f)))
    (q : ∀ D, H D = none → Q (.ref D) (SetL w H D (vsx.map f))) : scB w (Itl K a) g tYes te vs σ Q H := by
  intro D hD
  refine ⟨fun i m G => m = vsx.length - i ∧ i ≤ vsx.length ∧ G = SetL w H D ((vsx.take i).map f), ⟨vsx.length, by simp, Nat.zero_le _, SetL.nil⟩, ?_⟩
  rintro i m G ⟨rfl, hi, rfl⟩
  have hS' : SqL K (SetL w H D ((vsx.take i).map f)) a vsx := (SetL.same hD).seq hS
  by_cases hlt : i < vsx.length
  · have hx : vsx[i]? = some vsx[i] := by simp [hlt]
    have er : vsx.take (i + 1) = vsx.take i ++ [vsx[i]] := by rw [List.take_add_one, hx]; rfl
    refine .inr ⟨⟨vsx, vsx[i], hS', hx⟩, fun G' => G' = SetL w H D ((vsx.take (i + 1)).map f), fun G' e => ⟨vsx.length - (i + 1), by omega, rfl, hlt, e⟩, fun x G' y => ?_⟩
    obtain ⟨e, y⟩ := y
    subst e
    have ex : x = vsx[i] := Option.some.inj ((y vsx hS').symm.trans hx)
    subst ex
    have z := hs D (vsx.take i) vsx[i] (vsx.drop (i + 1)) hD (by rw [List.getElem_cons_drop, List.take_append_drop])
    rw [← er] at z
    exact z
  · have e : i = vsx.length := by omega
    subst e
    rw [List.take_length]
    exact .inl ⟨⟨vsx, (SetL.same hD).seq hS, Nat.le_refl _⟩, q D hD⟩
/-- two clauses -/
def sc2B (w : World) (J : It) (g : TG) (tt : TT) (wi1 : TI) (g1 : TG) (tt1 : TT) (te : TE) (vs vs1 : List Nat) (σ : St) (Q : VK) (H1 : Hp) : Prop := ∀ D, H1 D = none → ∃ Z : Nat → Nat → Hp → Prop, (∃ m, Z 0 m (upd H1 D (SetO w D setNo 0))) ∧ ∀ i m G, Z i m G →
  (J.stop i G ∧ Q (.ref D) G) ∨ (J.go i G ∧ ∃ Y : Hp → Prop, (∀ G', Y G' → ∃ l, l < m ∧ Z (i + 1) l G') ∧ ∀ x G', J.yld i G x G' → g x (wipe σ vs) G' fun σ2 G2 => wipe σ2 vs = wipe σ vs ∧ tt σ2 G2 fun b G3 =>
    if b = true then wi1 σ2 G3 (sc2_inner w D g1 tt1 te vs1 σ2 Y) else Y G3)
instance st_scI2 {wi wi1 : TI} {g g1 : TG} {tt1 : TT} {vs vs1 : List Nat} : Stp (tScI2 w wi g tt wi1 g1 tt1 te vs vs1 σ H Q) (wi σ H fun J H1 => sc2B w J g tt wi1 g1 tt1 te vs vs1 σ Q H1) := ⟨fun h => h⟩
def rowsL (f : Nat → Nat → Int) (m : Nat) : Nat → List Int
  | 0 => []
  | i + 1 => rowsL f m i ++ (List.range m).map (f i)
theorem mem_rowsL {f : Nat → Nat → Int} {m : Nat} {k : Int} : ∀ {n : Nat}, k ∈ rowsL f m n ↔ ∃ i j, i < n ∧ j < m ∧ f i j = k
  | 0 => by simp [rowsL]
  | n + 1 => by
    rw [rowsL, List.mem_append, mem_rowsL (n := n), List.mem_map]
    constructor
    · rintro (⟨i, j, a, b, c⟩ | ⟨j, a, b⟩)
      · exact ⟨i, j, by omega, b, c⟩
      · exact ⟨n, j, by omega, List.mem_range.mp a, b⟩
    · rintro ⟨i, j, a, b, c⟩
      by_cases e : i = n
      · subst e
        exact .inr ⟨j, List.mem_range.mpr b, c⟩
      · exact .inl ⟨i, j, by omega, b, c⟩
theorem rd_sc2R {lo : Int} {n m : Nat} {g g1 : TG} {wi1 : TI} {vs vs1 : List Nat} (f : Nat → Nat → Int)
    (hs : ∀ D i, H D = none → i < n → g (.int (lo + i)) (wipe σ vs) (SetL w H D (rowsL f m i)) fun σ2 H2 => wipe σ2 vs = wipe σ vs ∧ wi1 σ2 H2 (sc2_inner w D g1 tYes te vs1 σ2 fun G => G = SetL w H D (rowsL f m (i + 1))))
    (q : ∀ D, H D = none → Q (.ref D) (SetL w H D (rowsL f m n))) : sc2B w (Itr lo n) g tYes wi1 g1 tYes te vs vs1 σ Q H := by
  intro D hD
  refine ⟨fun i m' G => m' = n - i ∧ i ≤ n ∧ G = SetL w H D (rowsL f m i), ⟨n, by simp, Nat.zero_le _, SetL.nil⟩, ?_⟩
  rintro i m' G ⟨rfl, hi, rfl⟩
  by_cases lt : i < n
  · refine .inr ⟨lt, fun G' => G' = SetL w H D (rowsL f m (i + 1)), fun G' e => ⟨n - (i + 1), by omega, rfl, lt, e⟩, fun x G' y => ?_⟩
    obtain ⟨e, y⟩ := y
    subst e y
    exact hs D i hD lt
  · have e : i = n := by omega
    subst e
    exact .inl ⟨Nat.le_refl _, q D hD⟩
theorem rd_sc2in {lo : Int} {m : Nat} {g1 : TG} {vs1 : List Nat} {D : Addr} {xs zs : List Int} {H0 : Hp} (f : Nat → Int) (hz : zs = xs ++ (List.range m).map f)
    (hs : ∀ j, j < m → g1 (.int (lo + j)) (wipe σ vs1) (SetL w H0 D (xs ++ (List.range j).map f)) fun σ3 H5 => wipe σ3 vs1 = wipe σ vs1 ∧ te σ3 H5 (ScP w H0 D (xs ++ (List.range (j + 1)).map f))) :
    sc2_inner w D g1 tYes te vs1 σ (fun G => G = SetL w H0 D zs) (Itr lo m) (SetL w H0 D xs) := by
  subst hz
  refine ⟨fun j k G => k = m - j ∧ j ≤ m ∧ G = SetL w H0 D (xs ++ (List.range j).map f), ⟨m, by simp, Nat.zero_le _, by simp⟩, ?_⟩
  rintro j k G ⟨rfl, hj, rfl⟩
  by_cases lt : j < m
  · refine .inr ⟨lt, fun G' => G' = SetL w H0 D (xs ++ (List.range (j + 1)).map f), fun G' e => ⟨m - (j + 1), by omega, rfl, lt, e⟩, fun x G' y => ?_⟩
    obtain ⟨e, y⟩ := y
    subst e y
    exact hs j lt
  · have e : j = m := by omega
    subst e
    exact .inl ⟨Nat.le_refl _, rfl⟩
theorem row_snoc {xs : List Int} {f : Nat → Int} {j : Nat} : xs ++ (List.range (j + 1)).map f = (xs ++ (List.range j).map f) ++ [f j] := by
  rw [range_snoc, List.append_assoc]
/-- sorted of the set of xs -/
theorem rd_sortSL {D : Addr} {xs : List Int} {H' : Hp} (hD : H' D = some (SetO w D (inS (ofL xs)) (ofL xs).length)) (q : ∀ (ns : List Int) (p : Addr), ns.Pairwise (· < ·) → (∀ k, k ∈ ns ↔ k ∈ xs) → H' p = none → Q (.ref p) (upd H' p (.lst (ns.map V.int)))) : rSortSetN w [.ref D] H' Q :=
  rd_sortSetN hD fun ns p h1 h2 hp => q ns p h1 (fun k => by rw [h2 k, mem_ofL]) hp
end
end L2
namespace L2
open PySem PySem.Spec PyProof.Rows
/-! ### list comprehensions over a list of ints -/
section
variable {σ : St} {H : Hp} {Q : VK} {K : PySem.W.Frag} {te : TE} {tt : TT}
def resI (p : Int → Bool) (f : Int → V) (ns : List Int) : List V := (ns.filter p).map f
theorem resI_len {p : Int → Bool} {f : Int → V} {ns : List Int} : (resI p f ns).length ≤ ns.length := by
  unfold resI
  rw [List.length_map]
  exact List.length_filter_le _ _
theorem put_I {D : Addr} {p : Int → Bool} {f : Int → V} {l : List Int} {x : Int} {y : V} (hi : l.length < 1000000) (hp : p x = true) (hy : y = f x) : LcPut H D (resI p f l) (resI p f (l ++ [x])) y (upd H D (.lst (resI p f l))) := by
  refine ⟨_, upd_same, Nat.lt_of_le_of_lt resI_len (Nat.lt_trans hi (by decide)), ?_⟩
  rw [upd_upd]
  unfold resI
  rw [List.filter_append, List.map_append, hy]
  simp [hp]
theorem skip_I {D : Addr} {p : Int → Bool} {f : Int → V} {l : List Int} {x : Int} (hp : p x = false) : LcSkip H D (resI p f (l ++ [x])) (upd H D (.lst (resI p f l))) := by
  show upd H D _ = _
  unfold resI
  rw [List.filter_append, List.map_append]
  simp [hp]
theorem rd_lcI {a : Addr} {ns : List Int} {g : TG} {vs : List Nat} (p : Int → Bool) (f : Int → V) (hS : SqL K H a (ns.map V.int))
    (hs : ∀ D l x r, H D = none → ns = l ++ x :: r → g (.int x) (wipe σ vs) (upd H D (.lst (resI p f l))) fun σ2 H2 => wipe σ2 vs = wipe σ vs ∧ tt σ2 H2 fun b H3 => if b = true then te σ2 H3 (LcPut H D (resI p f l) (resI p f (l ++ [x]))) else LcSkip H D (resI p f (l ++ [x])) H3)
    (q : ∀ D, H D = none → Q (.ref D) (upd H D (.lst ((ns.filter p).map f)))) : lcB (Itl K a) g tt te vs σ Q H := by
  intro D hD
  refine ⟨fun i m H' => m = ns.length - i ∧ i ≤ ns.length ∧ H' = upd H D (.lst (resI p f (ns.take i))), ⟨ns.length, by simp, Nat.zero_le _, rfl⟩, ?_⟩
  rintro i m H' ⟨rfl, hi, rfl⟩
  have hS' : SqL K (upd H D (.lst (resI p f (ns.take i)))) a (ns.map V.int) := (same_new hD).seq hS
  by_cases hlt : i < ns.length
  · have hx : (ns.map V.int)[i]? = some (.int ns[i]) := by simp [hlt]
    have er : ns.take (i + 1) = ns.take i ++ [ns[i]] := by rw [List.take_add_one, List.getElem?_eq_getElem hlt]; rfl
    refine .inr ⟨⟨_, _, hS', hx⟩, fun H' => H' = upd H D (.lst (resI p f (ns.take (i + 1)))), fun H' p' => ⟨ns.length - (i + 1), by omega, rfl, hlt, p'⟩, fun x H' y => ?_⟩
    obtain ⟨e, y⟩ := y
    subst e
    have ex : x = .int ns[i] := Option.some.inj ((y _ hS').symm.trans hx)
    subst ex
    have z := hs D (ns.take i) ns[i] (ns.drop (i + 1)) hD (by rw [List.getElem_cons_drop, List.take_append_drop])
    rw [← er] at z
    exact z
  · have e : i = ns.length := by omega
    subst e
    rw [List.take_length]
    exact .inl ⟨⟨_, (same_new hD).seq hS, by rw [List.length_map]; exact Nat.le_refl _⟩, q D hD⟩
end
end L2

namespace L2
open PySem PySem.Spec PyProof.Rows
/-! ### making and methods within a try -/
section
variable {X : Cx} {k : Nat} {f C : Addr} {fd : FuncData} {ps : List PySem.Str} {sp : Sp} {x m : PySem.Str} {p pos apos : Pos} {e o : Expr} {es : List Expr} {ta : TE} {t : TA} {W : WX}
def tMakeT (C : Addr) (sp : Sp) (E : St → XK) (t : TA) : TE := fun σ H Q => t σ H fun vs H1 => ∀ x dx, H1 x = none → H1 dx = none → dx ≠ x → sp (.ref x :: vs) (upd (upd H1 dx (.own x)) x (.ins C dx [])) (fun v H2 => v = .non ∧ Q (.ref x) H2) (E σ)
theorem run_mkS {pins : List (Addr × Obj)} {σ : St} {H : Hp} {s : Shared} {Q : VK} {us : List Value} {vs : List V} (M : Mk X.K C f) (F : FnOk X.prog X.w X.K X.mg X.base (L2.CX X.prog X.w) k f fd ps sp) (hr : Room (k + 1) X.A) (hb : Binds X.K fd ps []) (tk : Takes X W) (I : Inv X pins σ H s) (r : Vals vs us)
    (h : ∀ x dx, H x = none → H dx = none → dx ≠ x → sp (.ref x :: vs) (upd (upd H dx (.own x)) x (.ins C dx [])) (fun v H2 => v = .non ∧ Q (.ref x) H2) (WE W σ)) :
    wpAny (model X.prog X.w) X.A (call (.ref C) us) (EP X pins σ Q) X.xe s := by
  have go := h (s.heap.objs.size + 1) s.heap.objs.size (I.hok.fresh (Nat.le_succ _)) (I.hok.fresh (Nat.le_refl _)) (Nat.ne_of_lt (Nat.lt_succ_self _))
  have J := Inv.made (C := C) I
  have rr : Vals (V.ref (s.heap.objs.size + 1) :: vs) (Value.ref (s.heap.objs.size + 1) :: us) := .cons rfl r
  have len : (Value.ref (s.heap.objs.size + 1) :: us).length = ps.length := rr.length.symm.trans (F.len _ _ _ _ go)
  have bs := hb _ (Value.ref (s.heap.objs.size + 1) :: us) J.kIn (by rw [List.append_nil]; exact len)
  rw [List.append_nil] at bs
  refine wpAny_call (make_map (f := f) I.kIn M.makes M.init (beq_iff_eq.mp M.fn) (codeAny_mono (F.run _ X.stack _ _ ⟨Value.ref (s.heap.objs.size + 1) :: us, []⟩ _ _ _ _ (hr.make C us []) (J.env0.make C us []) bs rr go) fun res t done => ?_))
  cases res with
  | error x => exact passAt tk σ pins _ _ x t J done
  | ok fl =>
    cases fl with
    | ret u =>
      obtain ⟨v, H', I3, rv, ev, q3⟩ := J.after done
      subst ev
      exact ⟨rv, V.ref (s.heap.objs.size + 1), H', I3, rfl, q3⟩
    | next => exact done.elim
    | brk => exact done.elim
    | cont => exact done.elim
theorem pe_mkdS (D : MkDef X.prog X.w X.K X.mg X.base k x C ps sp) (hr : Room (k + 1) X.A) (tk : Takes X W) (ha : PA X (e :: es) t) (hg : Gl X x := by rfl)
    (hdb : (x == ("__debug__" : PySem.Str)) = false := by decide) (he : starEach (e :: es) X.env = (false, eval e X.env) :: starEach es X.env := by rfl) (hpl : (backTo pos (starEach es X.env)).any (·.1) = false := by rfl) :
    PE X (.Call (.Name x p) (e :: es) [] pos) (tMakeT C sp (WE W) t) := by
  obtain ⟨f, fd, F, M, b⟩ := D.ex
  refine ⟨fun pins s σ H Q I h => wpAny_Call_Name_kw (ld_glob I hg D.g ?_ hdb)⟩
  exact PySem.W.callWith_K (h₀ := X.base) I.ok.mod.kin M.kp (thn (ha.run pos pins s σ H _ I h) fun us s1 ⟨vs, H1, I1, r, q⟩ => ⟨I1.kIn, run_mkS M F hr b tk I1 r q⟩) he hpl
instance st_makeS {σ : St} {H : Hp} {Q : VK} {E : St → XK} : Stp (tMakeT C sp E t σ H Q) (t σ H fun vs H1 => ∀ x dx, H1 x = none → H1 dx = none → dx ≠ x → sp (.ref x :: vs) (upd (upd H1 dx (.own x)) x (.ins C dx [])) (fun v H2 => v = .non ∧ Q (.ref x) H2) (E σ)) := ⟨fun h => h⟩
/-- o.m(e, ..) within a try -/
def tMethT (C : Addr) (m : PySem.Str) (sp : Sp) (E : St → XK) (ta : TE) (t : TA) : TE := fun σ H Q => ta σ H fun x H1 => ∃ a dx fs, x = .ref a ∧ H1 a = some (.ins C dx fs) ∧ fs.lookup m = none ∧ t σ H1 fun vs H2 => sp (x :: vs) H2 Q (E σ)
theorem pe_mdS {pl : Sem Bool} (D : MDef X.prog X.w X.K X.mg X.base k C m ps sp) (he : PE X o ta) (c : Cls X.K C) (hr : Room k X.A) (tk : Takes X W) (ha : PA X (e :: es) t)
    (hst : starEach (e :: es) X.env = (false, eval e X.env) :: starEach es X.env := by rfl) (hpl : (backTo pos (starEach es X.env)).any (·.1) = false := by rfl)
    (ht : eval (.Call (.Attribute o m apos) (e :: es) [] pos) X.env = (do
      let self ← eval o X.env
      standAt apos.atName
      let (g, ahead) ← holding [self] (getMethod self m pl)
      callWith pos g ahead (backTo pos (starEach (e :: es) X.env)) (backToKw pos (keywordEach [] X.env))) := by rfl) :
    PE X (.Call (.Attribute o m apos) (e :: es) [] pos) (tMethT C m sp (WE W) ta t) := by
  obtain ⟨f, fd, F, g, b⟩ := D.ex
  refine ⟨fun pins s σ H Q I h => PySem.W.methodCall_KW (pl := pl) (thn (he.run pins s σ H _ I h) fun u s1 ⟨x, H1, I1, rx, a, dx, fs, ex, at_, no, q⟩ => ?_) ht⟩
  subst ex
  obtain rfl : u = Value.ref a := rx
  refine getmeth_ok I1 at_ c g no ?_
  refine PySem.W.callWith_K (first := [.ref a]) (h₀ := X.base) I1.ok.mod.kin g.kp (thn (ha.run pos pins s1 σ H1 _ I1 q) fun us s2 ⟨vs, H2, I2, r, q2⟩ => ⟨I2.kIn, ?_⟩) hst hpl
  exact run_fnS (E := WE W) (us := .ref a :: us) (vs := .ref a :: vs) F hr b (passAt tk σ) I2 (.cons rfl r) q2
theorem pe_md0S {pl : Sem Bool} (D : MDef X.prog X.w X.K X.mg X.base k C m ps sp) (he : PE X o ta) (c : Cls X.K C) (hr : Room k X.A) (tk : Takes X W)
    (ht : eval (.Call (.Attribute o m apos) [] [] pos) X.env = (do
      let self ← eval o X.env
      standAt apos.atName
      let (g, ahead) ← holding [self] (getMethod self m pl)
      callWith pos g ahead (backTo pos (starEach [] X.env)) (backToKw pos (keywordEach [] X.env))) := by rfl) :
    PE X (.Call (.Attribute o m apos) [] [] pos) (tMethT C m sp (WE W) ta tNil) := by
  obtain ⟨f, fd, F, g, b⟩ := D.ex
  refine ⟨fun pins s σ H Q I h => PySem.W.methodCall_KW (pl := pl) (thn (he.run pins s σ H _ I h) fun u s1 ⟨x, H1, I1, rx, a, dx, fs, ex, at_, no, q⟩ => ?_) ht⟩
  subst ex
  obtain rfl : u = Value.ref a := rx
  refine getmeth_ok I1 at_ c g no ?_
  exact PySem.W.callWith_K0 (first := [.ref a]) I1.kIn g.kp (run_fnS (E := WE W) (us := [.ref a]) (vs := [.ref a]) F hr b (passAt tk σ) I1 (.cons rfl .nil) q)
instance st_methT {σ : St} {H : Hp} {Q : VK} {E : St → XK} : Stp (tMethT C m sp E ta t σ H Q) (ta σ H fun x H1 => ∃ a dx fs, x = .ref a ∧ H1 a = some (.ins C dx fs) ∧ fs.lookup m = none ∧ t σ H1 fun vs H2 => sp (x :: vs) H2 Q (E σ)) := ⟨fun h => h⟩
end
end L2
namespace L2
open PySem PySem.Spec PyProof.Rows
theorem upd_id {H : Hp} {p : Addr} {o : HO} (h : H p = some o) : upd H p o = H := funext fun b => by
  by_cases e : b = p
  · subst e
    rw [upd_same, h]
  · rw [upd_ne e]
section
variable {H : Hp} {Q : VK} {K : PySem.W.Frag} {a : Addr}
theorem rd_sortedI {ns : List Int} (h : SqL K H a (ns.map V.int)) (q : ∀ (ms : List Int) (p : Addr), ms.Perm ns → ms.Pairwise (· ≤ ·) → H p = none → Q (.ref p) (upd H p (.lst (ms.map V.int)))) : rSortedI K [.ref a] H Q := ⟨a, ns, rfl, h, q⟩
end
end L2

namespace L2
open PySem PySem.Spec PyProof.Rows
/-! ### dicts with ints as keys -/
section
variable {σ : St} {H : Hp} {Q : VK} {K : PySem.W.Frag} {v x y : V} {td ty tv : TE} {a : Addr} {i : Int} {kvs : List (Key × V)} {nx : St → Hp → Prop} {rt : VK} {bk ct : St → Hp → Prop}
instance st_dnewK : Stp (tDNewK σ H Q) (∀ p, H p = none → Q (.ref p) (upd H p (.dK []))) := ⟨fun h => h⟩
def rDGetV (Q : VK) : V → V → Hp → Prop := fun x y H => ∃ a v, x = .ref a ∧ DGet H a y (some v) ∧ Q v H
def rDInV (Q : VK) : V → V → Hp → Prop := fun x y H => ∃ a o, x = .ref a ∧ DGet H a y o ∧ Q (.bl o.isSome) H
def rDNinV (Q : VK) : V → V → Hp → Prop := fun x y H => ∃ a o, x = .ref a ∧ DGet H a y o ∧ Q (.bl (!o.isSome)) H
def rDPutV (S : Hp → Prop) : V → V → V → Hp → Prop := fun x y v H => ∃ a H4, x = .ref a ∧ DPut H a y v H4 ∧ S H4
instance st_dget : Stp (tDGet td ty σ H Q) (td σ H fun x H1 => ty σ H1 fun y H2 => rDGetV Q x y H2) := ⟨fun h => h⟩
instance st_din : Stp (tDIn ty td σ H Q) (ty σ H fun y H1 => td σ H1 fun x H2 => rDInV Q x y H2) := ⟨fun h => h⟩
instance st_dnotin : Stp (tDNotIn ty td σ H Q) (ty σ H fun y H1 => td σ H1 fun x H2 => rDNinV Q x y H2) := ⟨fun h => h⟩
instance st_dput : Stp (sDPut td ty tv ⟨nx, rt, bk, ct⟩ σ H) (tv σ H fun v H1 => td σ H1 fun x H2 => ty σ H2 fun y H3 => rDPutV (nx σ) x y v H3) := ⟨fun h => h⟩
theorem rd_dget1 (h : H a = some (.dK kvs)) (hv : valV kvs (.inl i) = some v) (q : Q v H) : rDGetV Q (.ref a) (.int i) H := ⟨a, v, rfl, hv ▸ DGet.k (k := .inl i) h, q⟩
theorem rd_din1 {b : Bool} (h : H a = some (.dK kvs)) (hb : (valV kvs (.inl i)).isSome = b) (q : Q (.bl b) H) : rDInV Q (.ref a) (.int i) H := ⟨a, _, rfl, DGet.k (k := .inl i) h, by rw [hb]; exact q⟩
theorem rd_dnotin1 {b : Bool} (h : H a = some (.dK kvs)) (hb : (valV kvs (.inl i)).isSome = b) (q : Q (.bl (!b)) H) : rDNinV Q (.ref a) (.int i) H := ⟨a, _, rfl, DGet.k (k := .inl i) h, by rw [hb]; exact q⟩
theorem rd_dput1 {S : Hp → Prop} (h : H a = some (.dK kvs)) (hl : kvs.length < sizeLine) (q : S (upd H a (.dK (putK kvs (.inl i) v)))) : rDPutV S (.ref a) (.int i) v H := ⟨a, _, rfl, DPut.k (k := .inl i) h hl, q⟩
/-! dicts of flags: {k: True for ..}; ks the keys, in order -/
def dFl (ks : List Int) : List (Key × V) := ks.map fun k => (.inl k, .bl true)
abbrev DFl (ks : List Int) : HO := .dK (dFl ks)
theorem dFl_len {ks : List Int} : (dFl ks).length = ks.length := List.length_map ..
theorem dFl_val {i : Int} : ∀ {ks : List Int}, (valV (dFl ks) (.inl i)).isSome = decide (i ∈ ks)
  | [] => by simp [dFl, valV]
  | k :: ks => by
    have ih := dFl_val (i := i) (ks := ks)
    by_cases e : k = i
    · subst e
      have : valV (dFl (k :: ks)) (.inl k) = some (.bl true) := valV_pos (p := ((Sum.inl k : Key), V.bl true)) (r := dFl ks) (k := Sum.inl k) rfl
      rw [this]
      simp
    · have : valV (dFl (k :: ks)) (.inl i) = valV (dFl ks) (.inl i) := valV_neg (p := ((Sum.inl k : Key), V.bl true)) (r := dFl ks) (k := Sum.inl i) fun z => e (Sum.inl.inj z)
      rw [this, ih]
      refine decide_eq_decide.mpr ?_
      rw [List.mem_cons]
      exact ⟨.inr, fun z => z.elim (fun z => absurd z.symm e) id⟩
theorem dFl_put {ks : List Int} {i : Int} : putK (dFl ks) (.inl i) (.bl true) = dFl (insL ks i) := by
  unfold insL
  by_cases h : i ∈ ks
  · rw [if_pos h]
    unfold putK
    rw [if_pos (by rw [valV_any, dFl_val, decide_eq_true h])]
    unfold dFl
    rw [List.map_map]
    refine List.map_congr_left fun k _ => ?_
    by_cases e : k = i
    · subst e
      simp
    · simp [e]
  · rw [if_neg h]
    have hn : valV (dFl ks) (.inl i) = none := by
      have := dFl_val (i := i) (ks := ks)
      rw [decide_eq_false h] at this
      cases hv : valV (dFl ks) (.inl i) with
      | none => rfl
      | some _ => rw [hv] at this; cases this
    rw [putK_new _ hn]
    unfold dFl
    rw [List.map_append]
    rfl
theorem dFl_keys {ks : List Int} : ((dFl ks).map fun kv => kV kv.1) = ks.map V.int := by
  unfold dFl
  rw [List.map_map]
  rfl
theorem rd_dinF {ks : List Int} (h : H a = some (DFl ks)) (q : Q (.bl (decide (i ∈ ks))) H) : rDInV Q (.ref a) (.int i) H := rd_din1 h dFl_val q
theorem rd_dnotinF {ks : List Int} (h : H a = some (DFl ks)) (q : Q (.bl (!decide (i ∈ ks))) H) : rDNinV Q (.ref a) (.int i) H := rd_dnotin1 h dFl_val q
theorem rd_dputF {ks : List Int} {S : Hp → Prop} (h : H a = some (DFl ks)) (hl : ks.length < 1000000) (q : S (upd H a (DFl (insL ks i)))) : rDPutV S (.ref a) (.int i) (.bl true) H :=
  rd_dput1 h (by rw [dFl_len]; exact Nat.lt_trans hl (by decide)) (by rw [dFl_put]; exact q)
def rListDo : List V → Hp → VK → Prop := fun xs H Q => ∃ (a : Addr) (kvs : List (Key × V)), xs = [.ref a] ∧ Rd H a (.dK kvs) ∧ ∀ p, H p = none → Q (.ref p) (upd H p (.lst (kvs.map fun kv => kV kv.1)))
theorem c_listD {X : Cx} (calm : X.calm = true) : CallR X (.type "list") rListDo := call_listD calm
theorem rd_listF {ks : List Int} (h : H a = some (DFl ks)) (q : ∀ p, H p = none → Q (.ref p) (upd H p (.lst (ks.map V.int)))) : rListDo [.ref a] H Q := ⟨a, dFl ks, rfl, .inl h, by rw [dFl_keys]; exact q⟩
/-- y in xs, data of any depth -/
theorem rd_inDp {d : PyData} {ds : List PyData} {p : Prop} [Decidable p] (h1 : Dp K H x d) (h2 : Dp K H y (.list ds)) (o1 : okD d 60 = true) (o2 : okDs ds 59 = true) (hp : d ∈ ds ↔ p) (q : Q (.bl (decide p)) H) : rInD K x y H Q := by
  have s2 : okD (.list ds) 60 = true := by simp [okD, o2]
  refine ⟨d, ds, h1, h2, okD_shaped o1, okD_shaped s2, ?_⟩
  have e : (ds.any fun z => PyData.eqv z d) = decide p := by
    rw [Bool.eq_iff_iff, List.any_eq_true, decide_eq_true_iff, ← hp]
    constructor
    · rintro ⟨z, hz, e⟩
      have oz : okD z 59 = true := by
        clear h2 hp s2 q
        induction ds with
        | nil => cases hz
        | cons b ds ih =>
          simp only [okDs, Bool.and_eq_true] at o2
          rcases List.mem_cons.mp hz with rfl | hz
          · exact o2.1
          · exact ih o2.2 hz
      rw [(okD_eqv z d 59 60 oz o1).mp e] at hz
      exact hz
    · intro hz
      have := (okD_eqv d d 60 60 o1 o1).mpr rfl
      exact ⟨d, hz, this⟩
  rw [e]
  exact q
theorem rd_notInDp {d : PyData} {ds : List PyData} {p : Prop} [Decidable p] (h1 : Dp K H x d) (h2 : Dp K H y (.list ds)) (o1 : okD d 60 = true) (o2 : okDs ds 59 = true) (hp : d ∈ ds ↔ p) (q : Q (.bl (!decide p)) H) : rNotInD K x y H Q := by
  obtain ⟨d', ds', a1, a2, a3, a4, a5⟩ := rd_inDp (Q := fun v H => ∃ b, v = .bl b ∧ Q (.bl (!b)) H) h1 h2 o1 o2 hp ⟨_, rfl, q⟩
  obtain ⟨b, e, q'⟩ := a5
  refine ⟨d', ds', a1, a2, a3, a4, ?_⟩
  rw [V.bl.inj e]
  exact q'
end
end L2
namespace L2
open PySem PySem.Spec PyProof.Rows
theorem room65 {k : Nat} {A : Around} (r : Room k A) : A.units + 65 < cLine := by
  have := r.un
  omega
end L2

namespace L2
open PySem PySem.Spec PyProof.Rows
/-! ### two roads for one expression -/
def tAlt (t u : TE) : TE := fun σ H Q => t σ H Q ∨ u σ H Q
def tAltT (t u : TT) : TT := fun σ H Q => t σ H Q ∨ u σ H Q
def iAlt (t u : TI) : TI := fun σ H S => t σ H S ∨ u σ H S
section
variable {X : Cx} {e tg : Expr}
theorem pe_alt {t u : TE} (h : PE X e t) (k : PE X e u) : PE X e (tAlt t u) := ⟨fun pins s σ H Q I z => z.elim (h.run pins s σ H Q I) (k.run pins s σ H Q I)⟩
theorem pt_alt {t u : TT} (h : PT X e t) (k : PT X e u) : PT X e (tAltT t u) := ⟨fun pins s σ H Q I z => z.elim (h.run pins s σ H Q I) (k.run pins s σ H Q I)⟩
theorem pi_alt {t u : TI} (h : PI X tg e t) (k : PI X tg e u) : PI X tg e (iAlt t u) := ⟨fun pins s σ H S I z => z.elim (h.run pins s σ H S I) (k.run pins s σ H S I)⟩
end
/-! ### operators of own classes -/
def rInO (C : Addr) (sp : Sp) (E : XK) : R2 := fun x y H Q => ∃ a dx fs, y = .ref a ∧ H a = some (.ins C dx fs) ∧ sp [.ref a, x] H (fun v H' => ∃ b, v = .bl b ∧ Q (.bl b) H') E
def rNinO (C : Addr) (sp : Sp) (E : XK) : R2 := fun x y H Q => ∃ a dx fs, y = .ref a ∧ H a = some (.ins C dx fs) ∧ sp [.ref a, x] H (fun v H' => ∃ b, v = .bl b ∧ Q (.bl (!b)) H') E
def rBinO (C : Addr) (sp : Sp) (E : XK) : R2 := fun x y H Q => ∃ a b dx fs dy gs, x = .ref a ∧ y = .ref b ∧ H a = some (.ins C dx fs) ∧ H b = some (.ins C dy gs) ∧ sp [.ref a, .ref b] H (fun v H' => ∃ r, v = .ref r ∧ Q (.ref r) H') E
def rUnO (C : Addr) (sp : Sp) (E : XK) : V → Hp → VK → Prop := fun x H Q => ∃ a dx fs, x = .ref a ∧ H a = some (.ins C dx fs) ∧ sp [.ref a] H Q E
/-- an own instance's truth -/
def rTruO (C : Addr) (sp : Sp) (E : XK) (R : Bool → Hp → Prop) (x : V) (H : Hp) : Prop := ∃ a dx fs, x = .ref a ∧ H a = some (.ins C dx fs) ∧ sp [.ref a] H (fun v H' => ∃ b, v = .bl b ∧ R b H') E
section
variable {X : Cx} {k : Nat} {C : Addr} {ps : List PySem.Str} {sp : Sp} {E : XK} {m : PySem.Str}
theorem own_at {pins : List (Addr × Obj)} {σ : St} {H : Hp} {s : Shared} {a dx : Addr} {fs : List (PySem.Str × V)} (I : Inv X pins σ H s) (ha : H a = some (.ins C dx fs)) : ∃ ox od, PySem.W.InstAt s.heap a ox C (some od) := by
  obtain ⟨mA, J, _⟩ := ins_get I.hok ha
  obtain ⟨od, J, _⟩ := J.look
  exact ⟨_, od, J⟩
theorem op_inO (D : MDef X.prog X.w X.K X.mg X.base k C "__contains__" ps sp) (hr : Room k X.A) (hx : Passes (L2.CX X.prog X.w) X E) : OpR X (compareOp .In) (rInO C sp E) := by
  intro pins s σ H x y v u Q I rx ry ⟨a, dx, fs, ey, ha, go⟩
  subst ey
  cases (show u = Value.ref a from ry)
  obtain ⟨f, fd, F, g, b⟩ := D.ex
  obtain ⟨ox, od, J⟩ := own_at I ha
  obtain ⟨m, hF⟩ := I.fr
  refine PySem.W.in_K hF I.ok.mod.kin J g.at_ g.fn (wpAny_mono (run_fn (dvs := []) (ds := []) (us := [.ref a, v]) (vs := [.ref a, x]) F hr b .nil hx I (.cons rfl (.cons rx .nil)) go) (fun r t done => ?_) fun _ _ z => z)
  obtain ⟨z, H', I', rz, bb, ez, q⟩ := done
  subst ez
  cases (show r = Value.bool bb from rz)
  exact wpAny_truthy_bool ⟨.bl bb, H', I', rfl, q⟩
theorem op_notInO (D : MDef X.prog X.w X.K X.mg X.base k C "__contains__" ps sp) (hr : Room k X.A) (hx : Passes (L2.CX X.prog X.w) X E) : OpR X (compareOp .NotIn) (rNinO C sp E) := by
  intro pins s σ H x y v u Q I rx ry ⟨a, dx, fs, ey, ha, go⟩
  subst ey
  cases (show u = Value.ref a from ry)
  obtain ⟨f, fd, F, g, b⟩ := D.ex
  obtain ⟨ox, od, J⟩ := own_at I ha
  obtain ⟨m, hF⟩ := I.fr
  refine PySem.W.notIn_K hF I.ok.mod.kin J g.at_ g.fn (wpAny_mono (run_fn (dvs := []) (ds := []) (us := [.ref a, v]) (vs := [.ref a, x]) F hr b .nil hx I (.cons rfl (.cons rx .nil)) go) (fun r t done => ?_) fun _ _ z => z)
  obtain ⟨z, H', I', rz, bb, ez, q⟩ := done
  subst ez
  cases (show r = Value.bool bb from rz)
  exact wpAny_truthy_bool ⟨.bl (!bb), H', I', rfl, q⟩
theorem op_binO {op : Operator} (D : MDef X.prog X.w X.K X.mg X.base k C m ps sp) (hm : PySem.dunder op.info.2 = m) (first : PySem.W.selfFirst X.K C = true) (ty : ∀ (H : Hp) (a dx : Addr) (fs : List (PySem.Str × V)), H a = some (.ins C dx fs) → TyX X.K H (.ref a) (.ref C)) (hr : Room k X.A) (hx : Passes (L2.CX X.prog X.w) X E) :
    OpR X (binaryOp op) (rBinO C sp E) := by
  intro pins s σ H x y v u Q I rx ry ⟨a, b, dx, fs, dy, gs, ex, ey, ha, hb, go⟩
  subst ex ey hm
  cases (show v = Value.ref a from rx)
  cases (show u = Value.ref b from ry)
  obtain ⟨f, fd, F, g, bd⟩ := D.ex
  obtain ⟨ox, od, J⟩ := own_at I ha
  obtain ⟨m, hF⟩ := I.fr
  obtain ⟨P, Z, hp, _⟩ := kit_of I (show RelV (V.ref b) (Value.ref b) from rfl) (ty H b dy gs hb)
  refine PySem.W.binop_K hF I.ok.mod.kin J (Z.ty _ s.heap I.kIn hp) first g.at_ g.fn (wpAny_mono (run_fn (dvs := []) (ds := []) (us := [.ref a, .ref b]) (vs := [.ref a, .ref b]) F hr bd .nil hx I (.cons rfl (.cons rfl .nil)) go) (fun r t done => ?_) fun _ _ z => z)
  obtain ⟨z, H', I', rz, rr, ez, q⟩ := done
  subst ez
  cases (show r = Value.ref rr from rz)
  exact ⟨.ref rr, H', I', rfl, q⟩
theorem un_invO (D : MDef X.prog X.w X.K X.mg X.base k C "__invert__" ps sp) (hr : Room k X.A) (hx : Passes (L2.CX X.prog X.w) X E) : UnR X (unaryOp .Invert) (rUnO C sp E) := by
  intro pins s σ H x v Q I rx ⟨a, dx, fs, ex, ha, go⟩
  subst ex
  cases (show v = Value.ref a from rx)
  obtain ⟨f, fd, F, g, b⟩ := D.ex
  obtain ⟨ox, od, J⟩ := own_at I ha
  obtain ⟨m, hF⟩ := I.fr
  exact PySem.W.ksp_inv hF I.ok.mod.kin J g.at_ g.fn (run_fn (dvs := []) (ds := []) (us := [.ref a]) (vs := [.ref a]) F hr b .nil hx I (.cons rfl .nil) go)
theorem un_negO (D : MDef X.prog X.w X.K X.mg X.base k C "__neg__" ps sp) (hr : Room k X.A) (hx : Passes (L2.CX X.prog X.w) X E) : UnR X (unaryOp .USub) (rUnO C sp E) := by
  intro pins s σ H x v Q I rx ⟨a, dx, fs, ex, ha, go⟩
  subst ex
  cases (show v = Value.ref a from rx)
  obtain ⟨f, fd, F, g, b⟩ := D.ex
  obtain ⟨ox, od, J⟩ := own_at I ha
  obtain ⟨m, hF⟩ := I.fr
  exact PySem.W.ksp_neg hF I.ok.mod.kin J g.at_ g.fn (run_fn (dvs := []) (ds := []) (us := [.ref a]) (vs := [.ref a]) F hr b .nil hx I (.cons rfl .nil) go)
theorem truO_ok {pins : List (Addr × Obj)} {σ : St} {H : Hp} {s : Shared} {x : V} {v : Value} {R : Bool → Hp → Prop} (D : MDef X.prog X.w X.K X.mg X.base k C "__bool__" ps sp) (hr : Room k X.A) (hx : Passes (L2.CX X.prog X.w) X E) (I : Inv X pins σ H s) (rx : RelV x v) (h : rTruO C sp E R x H) :
    wpAny (model X.prog X.w) X.A (truthy v) (fun b t => ∃ H', Inv X pins σ H' t ∧ R b H') X.xe s := by
  obtain ⟨a, dx, fs, ex, ha, go⟩ := h
  subst ex
  cases (show v = Value.ref a from rx)
  obtain ⟨f, fd, F, g, b⟩ := D.ex
  obtain ⟨ox, od, J⟩ := own_at I ha
  obtain ⟨m, hF⟩ := I.fr
  refine PySem.W.truthy_K hF I.ok.mod.kin J g.at_ g.fn (wpAny_mono (run_fn (dvs := []) (ds := []) (us := [.ref a]) (vs := [.ref a]) F hr b .nil hx I (.cons rfl .nil) go) (fun r t done => ?_) fun _ _ z => z)
  obtain ⟨z, H', I', rz, bb, ez, q⟩ := done
  subst ez
  cases (show r = Value.bool bb from rz)
  exact ⟨H', I', q⟩
variable {a : Expr} {ta : TE} {pos : Pos}
/-- an instance as a test -/
def tTruO (C : Addr) (sp : Sp) (E : XK) (ta : TE) : TT := fun σ H R => ta σ H (rTruO C sp E R)
theorem pt_truO (D : MDef X.prog X.w X.K X.mg X.base k C "__bool__" ps sp) (hr : Room k X.A) (hx : Passes (L2.CX X.prog X.w) X E) (ha : PE X a ta) (he : ∀ whole, isTrue a X.env whole = (do let v ← whole; standAt a.pos; holding [v] (truthy v))) : PT X a (tTruO C sp E ta) :=
  ⟨fun pins s σ H R I h => isTrue_plain (thn (ha.run pins s σ H _ I h) fun v s1 ⟨x, H1, I1, r1, q1⟩ => truO_ok D hr hx I1 r1 q1) (he _)⟩
/-- not of an instance, as a value -/
def tNotO (C : Addr) (sp : Sp) (E : XK) (ta : TE) : TE := fun σ H Q => ta σ H (rTruO C sp E fun b H' => Q (.bl (!b)) H')
theorem pe_notO (D : MDef X.prog X.w X.K X.mg X.base k C "__bool__" ps sp) (hr : Room k X.A) (hx : Passes (L2.CX X.prog X.w) X E) (ha : PE X a ta) : PE X (.UnaryOp .Not a pos) (tNotO C sp E ta) :=
  ⟨fun pins s σ H Q I h => UnaryOp_ (thn (ha.run pins s σ H _ I h) fun v s1 ⟨x, H1, I1, r1, q1⟩ => not_of (thn (truO_ok D hr hx I1 r1 q1) fun b t ⟨H', I', q⟩ => ⟨.bl (!b), H', I', rfl, q⟩))⟩
end
section
variable {σ : St} {H : Hp} {Q : VK} {R : Bool → Hp → Prop} {C a b dx dy : Addr} {fs gs : List (PySem.Str × V)} {sp : Sp} {E : XK} {x : V} {ta te : TE} {t u : TE}
instance st_tTruO : Stp (tTruO C sp E ta σ H R) (ta σ H (rTruO C sp E R)) := ⟨fun h => h⟩
instance st_tNotO : Stp (tNotO C sp E ta σ H Q) (ta σ H (rTruO C sp E fun b H' => Q (.bl (!b)) H')) := ⟨fun h => h⟩
theorem rd_inO (h : H a = some (.ins C dx fs)) (q : sp [.ref a, x] H (fun v H' => ∃ b, v = .bl b ∧ Q (.bl b) H') E) : rInO C sp E x (.ref a) H Q := ⟨a, dx, fs, rfl, h, q⟩
theorem rd_ninO (h : H a = some (.ins C dx fs)) (q : sp [.ref a, x] H (fun v H' => ∃ b, v = .bl b ∧ Q (.bl (!b)) H') E) : rNinO C sp E x (.ref a) H Q := ⟨a, dx, fs, rfl, h, q⟩
theorem rd_binO (h : H a = some (.ins C dx fs)) (k : H b = some (.ins C dy gs)) (q : sp [.ref a, .ref b] H (fun v H' => ∃ r, v = .ref r ∧ Q (.ref r) H') E) : rBinO C sp E (.ref a) (.ref b) H Q := ⟨a, b, dx, fs, dy, gs, rfl, rfl, h, k, q⟩
theorem rd_unO (h : H a = some (.ins C dx fs)) (q : sp [.ref a] H Q E) : rUnO C sp E (.ref a) H Q := ⟨a, dx, fs, rfl, h, q⟩
theorem rd_truO (h : H a = some (.ins C dx fs)) (q : sp [.ref a] H (fun v H' => ∃ b, v = .bl b ∧ R b H') E) : rTruO C sp E R (.ref a) H := ⟨a, dx, fs, rfl, h, q⟩
end
/-! ### bool(o) -/
section
variable {X : Cx} {k : Nat} {C : Addr} {ps : List PySem.Str} {sp : Sp} {E : XK}
def rBoolO (C : Addr) (sp : Sp) (E : XK) : List V → Hp → VK → Prop := fun xs H Q => ∃ x, xs = [x] ∧ rTruO C sp E (fun b H' => Q (.bl b) H') x H
end
/-! ### classmethods -/
structure CMAt (K : PySem.W.Frag) (C : Addr) (m qual : PySem.Str) (st : Stmt) : Prop where
  ex : ∃ (mc : Value) (p g : Addr) (fd : FuncData), ClX.CRead K C mc ∧ ClX.CMet K C mc m p g ∧ Fun K m qual st g fd
structure CMDef (P : Program) (w : World) (K : PySem.W.Frag) (mg : PySem.Str → Option Value) (base : Heap) (k : Nat) (C : Addr) (m : PySem.Str) (sp : Sp) : Prop where
  ex : ∃ (mc : Value) (p g : Addr), ClX.CRead K C mc ∧ ClX.CMet K C mc m p g ∧ FnR P w K mg base (L2.CX P w) k g sp
section
variable {P : Program} {w : World} {K : PySem.W.Frag} {mg : PySem.Str → Option Value} {base : Heap}
theorem CMDef.imp {k : Nat} {C : Addr} {m : PySem.Str} {sp sp' : Sp} (D : CMDef P w K mg base k C m sp) (h : ∀ vs H Q E, sp' vs H Q E → sp vs H Q E) : CMDef P w K mg base k C m sp' := by
  obtain ⟨mc, p, g, a, b, F⟩ := D.ex
  exact ⟨mc, p, g, a, b, F.imp h⟩
theorem FnR.forget {k : Nat} {f : Addr} {sp : Sp} (F : FnR P w K mg base (L2.CX P w) k f sp) : FnR P w K mg base (L2.CX P w) k f (fun vs H Q E => NoT H ∧ sp vs H (fun v H' => Same H H' ∧ Q v H) E) := by
  intro A outer s H us vs Q E hr he r q
  refine codeAny_mono (F A outer s H us vs _ E hr he r q.2) fun res t done => ?_
  cases res with
  | error er => exact done
  | ok fl =>
    cases fl with
    | ret u =>
      obtain ⟨v, H2, os2, bare2, un2, hok2, rv, sm, q2⟩ := done
      exact ⟨v, H, os2, bare2, ⟨un2.keep, un2.slot, fun _ _ _ n _ => n, un2.there, fun _ _ q => q, fun _ _ _ q => q, fun _ ps q => ⟨#[], by rw [q]; simp⟩⟩, hok_back q.1 hok2 he.hok sm, rv, q2⟩
    | next => exact done
    | brk => exact done
    | cont => exact done
theorem CMDef.forget {k : Nat} {C : Addr} {m : PySem.Str} {sp : Sp} (D : CMDef P w K mg base k C m sp) : CMDef P w K mg base k C m (fun vs H Q E => NoT H ∧ sp vs H (fun v H' => Same H H' ∧ Q v H) E) := by
  obtain ⟨mc, p, g, a, b, F⟩ := D.ex
  exact ⟨mc, p, g, a, b, FnR.forget F⟩
/-- a classmethod with plain parameters -/
theorem CMAt.ok {C : Addr} {m qual : PySem.Str} {st : Stmt} {N ps : List PySem.Str} {k : Nat} {sp : Sp} (D : CMAt K C m qual st) (S : FnScope N ps (defScope st)) (len : ∀ vs H Q E, sp vs H Q E → vs.length = ps.length)
    (binds : ∀ (f : Addr) (fd : FuncData), Fun K m qual st f fd → Binds K fd ps [])
    (hbody : ∀ (f : Addr) (cdv : Value) (A : Around) (outer : List Env) (s : Shared) (H : Hp) (vs : List V) (Q : VK) (E : XK), Room k (A.deeper (envOfC qual (defScope st) s.heap.objs.size f cdv)) → sp vs H Q E →
      ∃ t, PSs (cxOf (L2.CX P w) P w K mg base N qual (defScope st) f cdv A outer s H E) (defBody st) t ∧ t ⟨fun _ H' => Q .non H', Q, fun _ _ => False, fun _ _ => False⟩ (start N vs) H) : CMDef P w K mg base (k + 1) C m sp := by
  obtain ⟨mc, p, g, fd, a, b, F⟩ := D.ex
  refine ⟨mc, p, g, a, b, FnR.imp (FnOk.raw (F.okX S len fun cdv A outer s H vs Q E hr h => hbody g cdv A outer s H vs Q E hr h) (binds g fd F) .nil) fun vs H Q E h => ?_⟩
  rw [List.append_nil]
  exact h
/-- a classmethod with a star parameter behind the plain ones -/
theorem CMAt.okStar {C : Addr} {m qual pv : PySem.Str} {st : Stmt} {N ps : List PySem.Str} {k : Nat} {sp : Sp} (D : CMAt K C m qual st) (S : FnScope N (ps ++ [pv]) (defScope st))
    (binds : ∀ (kV doc pm cdv ct : Value) (an : Option Addr) (us rest : List Value), us.length = ps.length → bindArgs (PySem.W.fnOf m qual (defArgs st) (defBody st) (defScope st) .none kV doc pm an cdv ct) ⟨us ++ rest, []⟩ = (newTuple rest >>= fun t => pure (ps.zip us ++ [(pv, t)])))
    (hbody : ∀ (f : Addr) (cdv : Value) (A : Around) (outer : List Env) (s : Shared) (H : Hp) (vs : List V) (Q : VK) (E : XK), Room k (A.deeper (envOfC qual (defScope st) s.heap.objs.size f cdv)) → sp vs H Q E →
      ∃ t, PSs (cxOf (L2.CX P w) P w K mg base N qual (defScope st) f cdv A outer s H E) (defBody st) t ∧ t ⟨fun _ H' => Q .non H', Q, fun _ _ => False, fun _ _ => False⟩ (start N vs) H) :
    CMDef P w K mg base (k + 1) C m (fun vs H Q E => ∃ ws rest, vs = ws ++ rest ∧ ws.length = ps.length ∧ rest.length ≤ sizeLine ∧ ∀ p, H p = none → sp (ws ++ [V.ref p]) (upd H p (.tup rest)) Q E) := by
  obtain ⟨mc, p, g, fd, a, b, F⟩ := D.ex
  obtain ⟨c0, d0, kV, doc, pm, an, cdv, ct, sl, rfl, lk, hcd⟩ := F.ex
  exact ⟨mc, p, g, a, b, StX.fn_star lk hcd S StX.cxUp (binds kV doc pm cdv ct an) fun A outer s H vs Q E hr h => hbody g cdv A outer s H vs Q E hr h⟩
end
section
variable {X : Cx} {k : Nat} {C : Addr} {m : PySem.Str} {sp : Sp} {E : XK} {o e : Expr} {es : List Expr} {ta : TE} {t : TA} {pos apos : Pos}
theorem pe_cm {pl : Sem Bool} (D : CMDef X.prog X.w X.K X.mg X.base k C m sp) (he : PE X o ta) (hr : Room k X.A) (hx : Passes (L2.CX X.prog X.w) X E) (ha : PA X (e :: es) t)
    (hst : starEach (e :: es) X.env = (false, eval e X.env) :: starEach es X.env := by rfl) (hpl : (backTo pos (starEach es X.env)).any (·.1) = false := by rfl)
    (ht : eval (.Call (.Attribute o m apos) (e :: es) [] pos) X.env = (do
      let self ← eval o X.env
      standAt apos.atName
      let (g, ahead) ← holding [self] (getMethod self m pl)
      callWith pos g ahead (backTo pos (starEach (e :: es) X.env)) (backToKw pos (keywordEach [] X.env))) := by rfl) :
    PE X (.Call (.Attribute o m apos) (e :: es) [] pos) (ClX.tCMeth C sp E ta t) := by
  obtain ⟨mc, p, g, a, b, F⟩ := D.ex
  exact ClX.pe_cmeth he a b F hr hx ha hst hpl ht
theorem pe_cm0 {pl : Sem Bool} (D : CMDef X.prog X.w X.K X.mg X.base k C m sp) (he : PE X o ta) (hr : Room k X.A) (hx : Passes (L2.CX X.prog X.w) X E)
    (ht : eval (.Call (.Attribute o m apos) [] [] pos) X.env = (do
      let self ← eval o X.env
      standAt apos.atName
      let (g, ahead) ← holding [self] (getMethod self m pl)
      callWith pos g ahead (backTo pos (starEach [] X.env)) (backToKw pos (keywordEach [] X.env))) := by rfl) :
    PE X (.Call (.Attribute o m apos) [] [] pos) (ClX.tCMeth C sp E ta tNil) := by
  obtain ⟨mc, p, g, a, b, F⟩ := D.ex
  refine ⟨fun pins s σ H Q I h => PySem.W.methodCall_KW (pl := pl) (thn (he.run pins s σ H _ I h) fun u s1 ⟨x, H1, I1, rx, ex, q⟩ => ?_) ht⟩
  subst ex
  obtain rfl : u = Value.ref C := rx
  refine ClX.getmethcm_ok I1 a b fun s2 I2 => ?_
  exact PySem.W.callWith_M0 (first := []) ⟨ClX.pin_at I2, I2.kIn⟩ b.fi (ClX.run_cm (us := []) F hr hx I2 .nil q)
instance st_cm {σ : St} {H : Hp} {Q : VK} : Stp (ClX.tCMeth C sp E ta t σ H Q) (ta σ H fun x H1 => x = .ref C ∧ t σ H1 fun vs H2 => sp (.ref C :: vs) H2 Q E) := ⟨fun h => h⟩
instance st_cm1 {P : Prop} : Stp (V.ref C = V.ref C ∧ P) P := ⟨fun h => ⟨rfl, h⟩⟩
/-- cls(..), the class in a name -/
def tMakeL (C : Addr) (sp : Sp) (E : XK) (tf : TE) (t : TA) : TE := fun σ H Q => tf σ H fun y H1 => y = .ref C ∧ t σ H1 fun vs H2 => ∀ x dx, H2 x = none → H2 dx = none → dx ≠ x → sp (.ref x :: vs) (upd (upd H2 dx (.own x)) x (.ins C dx [])) (fun v H3 => v = .non ∧ Q (.ref x) H3) E
instance st_makeL {σ : St} {H : Hp} {Q : VK} {tf : TE} : Stp (tMakeL C sp E tf t σ H Q) (tf σ H fun y H1 => y = .ref C ∧ t σ H1 fun vs H2 => ∀ x dx, H2 x = none → H2 dx = none → dx ≠ x → sp (.ref x :: vs) (upd (upd H2 dx (.own x)) x (.ins C dx [])) (fun v H3 => v = .non ∧ Q (.ref x) H3) E) := ⟨fun h => h⟩
theorem pe_mkL {x : PySem.Str} {ps : List PySem.Str} {fe : Expr} {tf : TE} (D : MkDef X.prog X.w X.K X.mg X.base k x C ps sp) (hf : PE X fe tf) (hr : Room (k + 1) X.A) (hx : Passes (L2.CX X.prog X.w) X E) (ha : PA X (e :: es) t)
    (ht : eval (.Call fe (e :: es) [] pos) X.env = (do callWith pos (← eval fe X.env) [] (backTo pos (starEach (e :: es) X.env)) (backToKw pos (keywordEach [] X.env))) := by rfl)
    (he : starEach (e :: es) X.env = (false, eval e X.env) :: starEach es X.env := by rfl) (hpl : (backTo pos (starEach es X.env)).any (·.1) = false := by rfl) :
    PE X (.Call fe (e :: es) [] pos) (tMakeL C sp E tf t) := by
  obtain ⟨f, fd, F, M, b⟩ := D.ex
  refine ⟨fun pins s σ H Q I h => Call_ (thn (hf.run pins s σ H _ I h) fun u s1 ⟨y, H1, I1, ry, ey, q⟩ => ?_) ht⟩
  subst ey
  obtain rfl : u = Value.ref C := ry
  refine PySem.W.callWith_K (h₀ := X.base) I1.ok.mod.kin M.kp (thn (ha.run pos pins s1 σ H1 _ I1 q) fun us s2 ⟨vs, H2, I2, r, q2⟩ => ⟨I2.kIn, ?_⟩) he hpl
  refine run_make (dvs := []) M F hr b .nil hx I2 r ?_
  rw [List.append_nil]
  exact q2
end
end L2
namespace L2
open PySem PySem.Spec PyProof.Rows
/-! ### bool(t), a tuple -/
theorem meets_boolT (a : Addr) (its : Array Value) (small : (its.size : Int) < 2 ^ 63) :
    Meets (Builtin.«bool.__new__» ⟨[.type "bool", .ref a], []⟩) (fun _ R s => IsTup s.heap a its ∧ R (.ok (.ret (.bool (!its.isEmpty)))) { s with toks := s.toks + 1 + 1 }) :=
  Meets.of_wp fun prog w A R s both => by
    obtain ⟨isT, q⟩ := both
    obtain ⟨hp, g, d, tk, os⟩ := s
    have k1 := PySem.F.conv_sub_bool
    repeat (any_goals (first | assumption | (with_reducible refine truthy_tuple isT small ?_) | wp_step | fail))
    all_goals first | exact ⟨_, rfl, q⟩ | exact q | skip
def rBoolT (K : PySem.W.Frag) : List V → Hp → VK → Prop := fun xs H Q => ∃ (a : Addr) (zs : List V), xs = [.ref a] ∧ SqT K H a zs ∧ Q (.bl (!zs.isEmpty)) H
theorem c_boolT {X : Cx} : CallR X (.type "bool") (rBoolT X.K) := by
  intro pins s σ H xs us Q I r ⟨a, zs, ex, isT, q⟩
  subst ex
  obtain rfl := Vals.ref1 r
  obtain ⟨its, rv, pl, hz⟩ := I.tuple isT
  have b1 := line63
  have b2 := rv.length
  refine call_bool_1 (meets_boolT a its.toArray (by simp only [List.size_toArray]; omega)) ⟨pl, rfl, ?_⟩
  exact ⟨.bl (!zs.isEmpty), H, I.tok _, by rw [isEmpty_of rv]; rfl, q⟩
theorem rd_boolT {K : PySem.W.Frag} {H : Hp} {Q : VK} {a : Addr} {zs : List V} (h : SqT K H a zs) (q : Q (.bl (!zs.isEmpty)) H) : rBoolT K [.ref a] H Q := ⟨a, zs, rfl, h, q⟩
end L2
namespace L2
open PySem PySem.Spec PyProof.Rows
/-! ### a def under a second name -/
structure DefAtA (K : PySem.W.Frag) (mg : PySem.Str → Option Value) (y x : PySem.Str) (st : Stmt) (ps : List PySem.Str) : Prop where
  ex : ∃ (f : Addr) (fd : FuncData), Fun K x x st f fd ∧ mg y = some (.ref f) ∧ Binds K fd ps []
theorem DefAtA.ok {P : Program} {w : World} {K : PySem.W.Frag} {mg : PySem.Str → Option Value} {base : Heap} {y x : PySem.Str} {st : Stmt} {N ps : List PySem.Str} {k : Nat} {sp : Sp} (D : DefAtA K mg y x st ps) (S : FnScope N ps (defScope st)) (len : ∀ vs H Q E, sp vs H Q E → vs.length = ps.length)
    (body : ∀ (f : Addr) (cdv : Value) (A : Around) (outer : List Env) (s : Shared) (H : Hp) (vs : List V) (Q : VK) (E : XK), Room k (A.deeper (envOfC x (defScope st) s.heap.objs.size f cdv)) → sp vs H Q E →
      ∃ t, PSs (cxOf (L2.CX P w) P w K mg base N x (defScope st) f cdv A outer s H E) (defBody st) t ∧ t ⟨fun _ H' => Q .non H', Q, fun _ _ => False, fun _ _ => False⟩ (start N vs) H) : Def P w K mg base (k + 1) y ps sp := by
  obtain ⟨f, fd, F, g, b⟩ := D.ex
  exact ⟨f, fd, F.okX S len fun cdv A outer s H vs Q E hr h => body f cdv A outer s H vs Q E hr h, g, F.kp, b⟩
/-! ### {k: v for ..} given to a name -/
theorem ps_setDc {X : Cx} {i : Nat} {y : PySem.Str} {py spos : Pos} {kx vx tg iter : Expr} {ifs : List Expr} {scope : Scope} {own : List (PySem.Str × Nat)} {pos : Pos} {wi : TI} {g : TG} {tt : TT} {tk tv : TE} (calm : X.calm = true) (nd : X.N.Nodup) (hy : X.N[i]? = some y) (loc : X.env.scope.names.lookup y = some .local)
    (swap : swapsWith (.DictComp kx vx [⟨tg, iter, ifs, 0⟩] scope pos) (some (.Name y py)) spos.line X.env = pure true) (it0 : PI X tg iter wi) (ok : BlkOk X.N X.env.scope scope own)
    (pg0 : ∀ (s0 : Shared) (G : Hp) (C : Addr) (cl : List (PySem.Str × Addr)) (fp : List Addr), PG (X.blk s0 G scope (compEnvC scope cl C X.env) fp) tg g)
    (pt0 : ∀ (s0 : Shared) (G : Hp) (C : Addr) (cl : List (PySem.Str × Addr)) (fp : List Addr), PTs (X.blk s0 G scope (compEnvC scope cl C X.env) fp) ifs tt)
    (pk0 : ∀ (s0 : Shared) (G : Hp) (C : Addr) (cl : List (PySem.Str × Addr)) (fp : List Addr), PE (X.blk s0 G scope (compEnvC scope cl C X.env) fp) kx tk)
    (pe0 : ∀ (s0 : Shared) (G : Hp) (C : Addr) (cl : List (PySem.Str × Addr)) (fp : List Addr), PE (X.blk s0 G scope (compEnvC scope cl C X.env) fp) vx tv) (fold : ∀ x, foldedSetIterable iter X.env x = pure x := by intro _; rfl) :
    PS X (.Assign [.Name y py] (.DictComp kx vx [⟨tg, iter, ifs, 0⟩] scope pos) spos) (tAsg (tDc wi g tt tk tv (own.map (·.2))) (gName i)) := by
  refine ⟨fun pins s σ H D I0 want => ?_⟩
  rw [exec_Assign_Name_used _ _ _ _ swap]
  refine wpAny_bind (wpAny_standAt (wpAny_bind ?_))
  show wpAny _ X.A (do let _ ← comprehension (.DictComp kx vx [⟨tg, iter, ifs, 0⟩] scope pos) scope X.env (firstIterPos [⟨tg, iter, ifs, 0⟩] pos) newDict false (eval iter X.env) (some (assign (.Name y py) X.env))) _ _ s
  replace want : tDc wi g tt tk tv (own.map (·.2)) σ H (fun x G => gName i x σ G D.nx) := want
  refine wpAny_bind (thn (dc_core (Qf := fun _ t => SP X pins D .next t) calm nd I0 it0 ok pg0 pt0 pk0 pe0 fold want fun L C t m G J q ns f => ?_) fun _ t hq => wpAny_pure (wpAny_pure hq))
  show wpAny _ _ (assign (.Name y py) X.env (.ref L)) _ _ _
  refine wpAny_assign_Name (store_ok2 (v := V.ref L) J nd hy (.inl loc) rfl (fun t2 J2 ⟨a, sb, ha⟩ => ?_) (.inr loc))
  obtain ⟨g0, g1, g2, g3, g4, g5⟩ := f
  have away : C ≠ a := by
    rcases ha with z | z
    · exact z ▸ g1
    · exact fun e => g4 y a z e.symm
  exact ⟨m, ns.sameBut sb away, fun h3 sb3 => ⟨_, G, J2.turned (t' := t2.toks) (fun b o ne e => (sb3.2 b ne).trans e) g0 g1 g3 g4 g5, q⟩⟩
theorem sw_dc {kx vx : Expr} {gs : List Comprehension} {scope : Scope} {pos py : Pos} {y : PySem.Str} {l : Nat} {env : Env} (kind : env.scope.kind = .function) (loc : env.scope.names.lookup y = some .local) (line : (py.line == pos.line) = true)
    (other : (scope.names.any fun (n, k) => n == y && (k == .local || k == .cell)) = false) : swapsWith (.DictComp kx vx gs scope pos) (some (.Name y py)) l env = pure true := by
  have k1 : env.kindOf y = some .local := loc
  have k2 : env.blockKind = .function := by unfold Env.blockKind; rw [kind]; rfl
  unfold swapsWith
  simp only [k2, k1, other, Expr.pos, line]
  rfl
/-- {x: True for x in xs}, xs a list or tuple of ints -/
def dcB (J : It) (g : TG) (tt : TT) (tk tv : TE) (vs : List Nat) (σ : St) (Q : VK) (H1 : Hp) : Prop := ∀ D, H1 D = none → ∃ W : Nat → Nat → Hp → Prop, (∃ m, W 0 m (upd H1 D (.dK []))) ∧ ∀ i m H, W i m H →
  (J.stop i H ∧ Q (.ref D) H) ∨ (J.go i H ∧ ∃ Nx : Hp → Prop, (∀ H', Nx H' → ∃ m', m' < m ∧ W (i + 1) m' H') ∧ ∀ x H', J.yld i H x H' → g x (wipe σ vs) H' fun σ2 H2 => wipe σ2 vs = wipe σ vs ∧ tt σ2 H2 fun b H3 =>
    if b = true then tk σ2 H3 fun y H4 => tv σ2 H4 fun z H5 => ∃ kvs k, y = kV k ∧ H5 D = some (.dK kvs) ∧ kvs.length < sizeLine ∧ Nx (upd H5 D (.dK (putK kvs k z))) else Nx H3)
section
variable {σ : St} {H : Hp} {Q : VK} {K : PySem.W.Frag} {tk tv : TE} {tt : TT}
instance st_dc {wi : TI} {g : TG} {vs : List Nat} : Stp (tDc wi g tt tk tv vs σ H Q) (wi σ H fun J H1 => dcB J g tt tk tv vs σ Q H1) := ⟨fun h => h⟩
def DcPut (H : Hp) (D : Addr) (xs : List Int) (y z : V) (H5 : Hp) : Prop := ∃ kvs k, y = kV k ∧ H5 D = some (.dK kvs) ∧ kvs.length < sizeLine ∧ upd H5 D (.dK (putK kvs k z)) = upd H D (DFl (ofL xs))
theorem put_F {D : Addr} {xs ys : List Int} {c : Int} (few : xs.length < 100000) (e : ys = xs ++ [c]) : DcPut H D ys (.int c) (.bl true) (upd H D (DFl (ofL xs))) := by
  refine ⟨_, .inl c, rfl, upd_same, ?_, ?_⟩
  · rw [dFl_len]
    exact Nat.lt_trans (Nat.lt_of_le_of_lt len_ofL few) (by decide)
  · rw [upd_upd, dFl_put, e, ofL_snoc]
theorem rd_dcLF {a : Addr} {ns : List Int} {g : TG} {vs : List Nat} (hS : SqL K H a (ns.map V.int))
    (hs : ∀ D l x r, H D = none → ns = l ++ x :: r → g (.int x) (wipe σ vs) (upd H D (DFl (ofL l))) fun σ2 H2 => wipe σ2 vs = wipe σ vs ∧ tk σ2 H2 fun y H4 => tv σ2 H4 fun z H5 => DcPut H D (l ++ [x]) y z H5)
    (q : ∀ D, H D = none → Q (.ref D) (upd H D (DFl (ofL ns)))) : dcB (Itl K a) g tYes tk tv vs σ Q H := by
  intro D hD
  refine ⟨fun i m G => m = ns.length - i ∧ i ≤ ns.length ∧ G = upd H D (DFl (ofL (ns.take i))), ⟨ns.length, by simp, Nat.zero_le _, rfl⟩, ?_⟩
  rintro i m G ⟨rfl, hi, rfl⟩
  have hS' : SqL K (upd H D (DFl (ofL (ns.take i)))) a (ns.map V.int) := (same_new hD).seq hS
  by_cases hlt : i < ns.length
  · have hx : (ns.map V.int)[i]? = some (.int ns[i]) := by simp [hlt]
    have er : ns.take (i + 1) = ns.take i ++ [ns[i]] := by rw [List.take_add_one, List.getElem?_eq_getElem hlt]; rfl
    refine .inr ⟨⟨_, _, hS', hx⟩, fun G' => G' = upd H D (DFl (ofL (ns.take (i + 1)))), fun G' e => ⟨ns.length - (i + 1), by omega, rfl, hlt, e⟩, fun x G' y => ?_⟩
    obtain ⟨e, y⟩ := y
    subst e
    have ex : x = .int ns[i] := Option.some.inj ((y _ hS').symm.trans hx)
    subst ex
    have z := hs D (ns.take i) ns[i] (ns.drop (i + 1)) hD (by rw [List.getElem_cons_drop, List.take_append_drop])
    rw [← er] at z
    exact z
  · have e : i = ns.length := by omega
    subst e
    rw [List.take_length]
    exact .inl ⟨⟨_, (same_new hD).seq hS, by rw [List.length_map]; exact Nat.le_refl _⟩, q D hD⟩
theorem rd_dcTF {a : Addr} {ns : List Int} {g : TG} {vs : List Nat} (hS : SqT K H a (ns.map V.int))
    (hs : ∀ D l x r, H D = none → ns = l ++ x :: r → g (.int x) (wipe σ vs) (upd H D (DFl (ofL l))) fun σ2 H2 => wipe σ2 vs = wipe σ vs ∧ tk σ2 H2 fun y H4 => tv σ2 H4 fun z H5 => DcPut H D (l ++ [x]) y z H5)
    (q : ∀ D, H D = none → Q (.ref D) (upd H D (DFl (ofL ns)))) : dcB (Itt K a) g tYes tk tv vs σ Q H := by
  intro D hD
  refine ⟨fun i m G => m = ns.length - i ∧ i ≤ ns.length ∧ G = upd H D (DFl (ofL (ns.take i))), ⟨ns.length, by simp, Nat.zero_le _, rfl⟩, ?_⟩
  rintro i m G ⟨rfl, hi, rfl⟩
  have hS' : SqT K (upd H D (DFl (ofL (ns.take i)))) a (ns.map V.int) := (same_new hD).seqT hS
  by_cases hlt : i < ns.length
  · have hx : (ns.map V.int)[i]? = some (.int ns[i]) := by simp [hlt]
    have er : ns.take (i + 1) = ns.take i ++ [ns[i]] := by rw [List.take_add_one, List.getElem?_eq_getElem hlt]; rfl
    refine .inr ⟨⟨_, _, hS', hx⟩, fun G' => G' = upd H D (DFl (ofL (ns.take (i + 1)))), fun G' e => ⟨ns.length - (i + 1), by omega, rfl, hlt, e⟩, fun x G' y => ?_⟩
    obtain ⟨e, y⟩ := y
    subst e
    have ex : x = .int ns[i] := Option.some.inj ((y _ hS').symm.trans hx)
    subst ex
    have z := hs D (ns.take i) ns[i] (ns.drop (i + 1)) hD (by rw [List.getElem_cons_drop, List.take_append_drop])
    rw [← er] at z
    exact z
  · have e : i = ns.length := by omega
    subst e
    rw [List.take_length]
    exact .inl ⟨⟨_, (same_new hD).seqT hS, by rw [List.length_map]; exact Nat.le_refl _⟩, q D hD⟩
end
end L2
namespace L2
open PySem PySem.Spec PyProof.Rows
theorem rd_catA {K : PySem.W.Frag} {H : Hp} {Q : VK} {a b : Addr} {xs ys : List V} (h1 : SqT K H a xs) (h2 : SqT K H b ys) (h3 : xs.length + ys.length ≤ sizeLine) (q : ∀ p H', Same H H' → (NoT H → NoT H') → SqT K H' p (xs ++ ys) → Q (.ref p) H') : rCatA K (.ref a) (.ref b) H Q :=
  ⟨a, b, xs, ys, rfl, rfl, h1, h2, h3, fun e => q b H (Same.refl H) id (by rw [e]; exact h2), fun _ e => q a H (Same.refl H) id (by rw [e, List.append_nil]; exact h1), fun _ _ p hp => q p _ (same_new hp) (fun nt => NoT.upd nt rfl) (SqT.of upd_same)⟩
end L2
namespace PySem.W
open PySem PySem.Spec PySem.Calls PyProof.Rows
section
variable {prog : Program} {w : World} {A : Around} {E : Value → Shared → Prop} {s : Shared} {K : Frag} {x C f : Addr} {ox : Obj} {od : Option Obj}
theorem kbo_truthy {M : Model} {A : Around} {Q : Bool → Shared → Prop} (X : K.In s.heap) (I : InstAt s.heap x ox C od) (hs : findIn K (.ref C) "__bool__" = some (some (.ref f))) (hf : isFn K (.ref f) = true)
    (h : wpAny M A (call (.ref f) [.ref x]) (BoolBack Q) E s) : wpAny M A (truthy (.ref x)) Q E s := by
  unfold truthy
  refine wpAny_bind (m := callSpecial? (.ref x) (Str.ofString "__bool__")) (special_fn X I hs (beq_iff_eq.mp hf) (wpAny_mono h (fun r s' hr => ?_) fun _ _ y => y))
  cases r <;> first | exact hr.elim | skip
  exact wpAny_pure hr
theorem kbo_call {Q : Value → Shared → Prop} (X : K.In s.heap) (I : InstAt s.heap x ox C od) (hs : findIn K (.ref C) "__bool__" = some (some (.ref f))) (hf : isFn K (.ref f) = true)
    (h : wpAny (model prog w) A.in1.in1 (call (.ref f) [.ref x]) (BoolBack fun b => Q (.bool b)) E s) : wpAny (model prog w) A (call (.type "bool") [.ref x]) Q E s := by
  refine callType_codes (T := "bool") (Bi := Builtin.«object.__init__») (Q₁ := fun r s₁ => ∃ b, r = .bool b ∧ Q r s₁) PySem.F.called_bool (PySem.F.typeCall_bool_1 _) PySem.F.entry_object_init ?_ ?_
  · refine codeAny_of_tree ?_
    show wpAny _ A.in1.in1 (do checkBuiltinCall "bool.__new__" ⟨[.type "bool", .ref x], []⟩; again (.builtin "bool.__new__" ⟨[.type "bool", .ref x], []⟩)) _ _ s
    refine wpAny_bind (wpAny_of_eq (PySem.F.newCall_bool_1 _) (wpAny_pure ⟨plainId_quiet (by decide +kernel) _, codeAny_builtin PySem.F.entry_bool_new ?_⟩))
    rw [Around.under_plainId (by decide +kernel) _]
    unfold Builtin.«bool.__new__»
    have k1 := PySem.F.conv_sub_bool
    refine wpAny_bind (wpAny_pure ?_)
    dsimp only
    rw [if_neg (by decide)]
    refine wpAny_bind (wpAny_of_eq k1 ?_)
    rw [if_neg (by decide)]
    refine wpAny_bind (m := someArgs "bool" 0 1 _) (wpAny_pure ?_)
    dsimp only
    refine wpAny_bind (kbo_truthy X I hs hf (wpAny_mono h (fun r s' hr => ?_) fun _ _ y => y))
    cases r <;> first | exact hr.elim | skip
    exact wpAny_pure ⟨_, rfl, hr⟩
  · rintro obj s₁ ⟨b, rfl, hq⟩
    exact ⟨typeIs_bool _ _, PySem.F.args_object_init_2 _ _, object_init_meets PySem.F.called_bool.init.lookup PySem.F.called_bool.made (by decide) prog w A.in1 _ s₁ ⟨typeIs_bool _ _, rfl, hq⟩⟩
end
end PySem.W
namespace L2
open PySem PySem.Spec PyProof.Rows
theorem call_boolO {X : Cx} {k : Nat} {C : Addr} {ps : List PySem.Str} {sp : Sp} {E : XK} (D : MDef X.prog X.w X.K X.mg X.base k C "__bool__" ps sp) (hr : Room (k + 2) X.A) (hx : Passes (L2.CX X.prog X.w) X E) : CallR X (.type "bool") (rBoolO C sp E) := by
  intro pins s σ H xs us Q I r h
  obtain ⟨x, rfl, h⟩ := h
  obtain ⟨f, fd, F, g, b⟩ := D.ex
  obtain ⟨a, dx, fs, rfl, ha, hsp⟩ := h
  obtain ⟨u, rfl, hu⟩ := vals1 r
  cases (show u = Value.ref a from hu)
  obtain ⟨mA, J, _⟩ := ins_get I.hok ha
  obtain ⟨od, J, _⟩ := J.look
  refine PySem.W.kbo_call I.kIn J g.at_ g.fn ?_
  have e0 : Env0 X.prog X.w X.K X.mg X.base X.A.in1.in1 X.stack s H := by
    have e := I.env0
    exact ⟨e.frames, e.mod, e.bs, e.bsz, e.funs, e.frf, e.hok, e.bare⟩
  have hl := F.len _ _ _ _ hsp
  have r2 : Vals [V.ref a] [Value.ref a] := .cons rfl .nil
  refine wpAny_call (codeAny_mono (F.run X.A.in1.in1 X.stack s H ⟨[.ref a], []⟩ [.ref a] [.ref a] _ E hr.in1.in1 e0 (by
    have := b s [.ref a] I.kIn (by simpa using hl)
    simpa using this) r2 hsp) fun r s' hq => ?_)
  cases r with
  | error e => exact hx pins σ H s e s' I hq
  | ok fl =>
    cases fl with
    | ret w =>
      obtain ⟨z, H', I', rz, y, ez, q⟩ := I.after hq
      subst ez
      cases (show w = Value.bool y from rz)
      exact ⟨.bl y, H', I', rfl, q⟩
    | next => exact hq.elim
    | brk => exact hq.elim
    | cont => exact hq.elim
section
variable {C a dx : Addr} {fs : List (PySem.Str × V)} {sp : Sp} {E : XK} {H : Hp} {Q : VK}
theorem rd_boolO (h : H a = some (.ins C dx fs)) (q : sp [.ref a] H (fun v H' => ∃ b, v = .bl b ∧ Q (.bl b) H') E) : rBoolO C sp E [.ref a] H Q := ⟨.ref a, rfl, a, dx, fs, rfl, h, q⟩
end
end L2
namespace L2
open PySem PySem.Spec PyProof.Rows
section
variable {σ : St} {H : Hp} {Q : VK} {K : PySem.W.Frag} {te : TE} {tt : TT}
/-- a list comprehension over a list whose tests and items change the heap -/
theorem rd_lcLG {a : Addr} {xs : List V} {g : TG} {vs : List Nat} (J : Addr → Nat → List V → Hp → Prop) (hl : ∀ D i ys H', J D i ys H' → SqL K H' a xs) (h0 : ∀ D, H D = none → J D 0 [] (upd H D (.lst [])))
    (hs : ∀ D i ys x H', H D = none → xs[i]? = some x → H' D = some (.lst ys) → J D i ys H' → g x (wipe σ vs) H' fun σ2 H2 => wipe σ2 vs = wipe σ vs ∧ tt σ2 H2 fun b H3 => if b = true then te σ2 H3 (fun y H4 => ∃ acc, H4 D = some (.lst acc) ∧ acc.length < sizeLine ∧ ∃ ys, (upd H4 D (.lst (acc ++ [y]))) D = some (.lst ys) ∧ J D (i + 1) ys (upd H4 D (.lst (acc ++ [y])))) else ∃ ys, H3 D = some (.lst ys) ∧ J D (i + 1) ys H3)
    (q : ∀ D ys H', H D = none → H' D = some (.lst ys) → J D xs.length ys H' → Q (.ref D) H') : lcB (Itl K a) g tt te vs σ Q H := by
  intro D hD
  refine lc_it (walk_list (K := K) (a := a) (xs := xs)) (fun i H' => ∃ ys, H' D = some (.lst ys) ∧ J D i ys H') ⟨[], upd_same, h0 D hD⟩ (fun i H' _ ⟨ys, _, j⟩ => hl D i ys H' j) ?_ (fun H' ⟨ys, h1, j⟩ => q D ys H' hD h1 j)
  rintro i x H' H'' hi ⟨ys, h1, j⟩ ⟨rfl, hx⟩
  exact hs D i ys x _ hD hx h1 j
end
end L2

namespace L2
open PySem PySem.Spec PyProof.Rows
/-! ### a view of the heap: what is kept of an earlier one, what is ours to change, what stands besides, what no list decides -/
def rigid : HO → Bool
  | .ins _ _ _ => true
  | .tup _ => true
  | _ => false
/-- all that is no list, dict or the like still stands -/
def Keeps (G G' : Hp) : Prop := ∀ b o, rigid o = true → G b = some o → G' b = some o
theorem Keeps.refl (G : Hp) : Keeps G G := fun _ _ _ h => h
theorem Keeps.trans {G G' G'' : Hp} (a : Keeps G G') (b : Keeps G' G'') : Keeps G G'' := fun c o r h => b c o r (a c o r h)
theorem Keeps.of {G G' : Hp} (s : Same G G') : Keeps G G' := fun b o _ h => s b o h
theorem Keeps.put {G : Hp} {x : Addr} {o u : HO} (h : G x = some o) (r : rigid o = false) : Keeps G (upd G x u) := fun b v rv hb => by
  by_cases e : b = x
  · subst e
    rw [h] at hb
    cases hb
    rw [r] at rv
    cases rv
  · rw [upd_ne e]
    exact hb
def Rig (P : Hp → Prop) (G : Hp) : Prop := ∀ G', Keeps G G' → P G'
structure Hv (X : Addr → Prop) (H : Hp) (M L : List (Addr × HO)) (Z : List (Hp → Prop)) (G : Hp) : Prop where
  old : ∀ b o, ¬ X b → H b = some o → G b = some o
  nt : NoT G
  m : ∀ q ∈ M, G q.1 = some q.2 ∧ (X q.1 ∨ H q.1 = none) ∧ rigid q.2 = false
  l : ∀ q ∈ L, G q.1 = some q.2
  nd : M.Pairwise fun q r => q.1 ≠ r.1
  ml : ∀ q ∈ M, ∀ r ∈ L, q.1 ≠ r.1
  z : ∀ P ∈ Z, Rig P G
def noX : Addr → Prop := fun _ => False
/-- nothing but x has changed -/
def But (x : Addr) (H H' : Hp) : Prop := ∀ b o, b ≠ x → H b = some o → H' b = some o
theorem But.of {x : Addr} {H H' : Hp} (h : Same H H') : But x H H' := fun b o _ e => h b o e
theorem But.new {x p : Addr} {H G : Hp} {o : HO} (h : But x H G) (hp : G p = none) : But x H (upd G p o) := fun b o1 n e => upd_keep (h b o1 n e) hp
theorem But.put {x : Addr} {H G : Hp} {o : HO} (h : But x H G) : But x H (upd G x o) := fun b o1 n e => by
  rw [upd_ne n]
  exact h b o1 n e
theorem But.refl {x : Addr} {H : Hp} : But x H H := fun _ _ _ e => e
theorem But.trans {x : Addr} {H G L : Hp} (a : But x H G) (b : But x G L) : But x H L := fun c o n e => b c o n (a c o n e)
theorem But.same {x : Addr} {H G L : Hp} (a : But x H G) (b : Same G L) : But x H L := fun c o n e => b c o (a c o n e)
/-- what stood ahead of x still stands -/
theorem But.old {x : Addr} {H0 H G : Hp} (a : But x H G) (s : Same H0 H) (f : H0 x = none) : Same H0 G := fun c o e => a c o (fun z => by
  rw [z, f] at e
  cases e) (s c o e)
theorem But.fresh {x D : Addr} {H G : Hp} {o : HO} (h : But x H G) (f : H D = none) : But x H (upd G D o) := fun b o1 n e => by
  rw [upd_ne (ne_of_none e f)]
  exact h b o1 n e
theorem but_none {x D : Addr} {H G : Hp} (h : But x H G) (n : D ≠ x) (f : G D = none) : H D = none := by
  cases e : H D with
  | none => rfl
  | some o => rw [h D o n e] at f; cases f
section
variable {X : Addr → Prop} {H G G' : Hp} {M L : List (Addr × HO)} {Z : List (Hp → Prop)} {a b D p x y : Addr} {o u v : HO} {P : Hp → Prop} {xs : List V}
theorem Hv.start (nt : NoT H) : Hv noX H [] [] [] H := ⟨fun _ _ _ h => h, nt, fun _ h => absurd h List.not_mem_nil, fun _ h => absurd h List.not_mem_nil, List.Pairwise.nil, fun _ h => absurd h List.not_mem_nil, fun _ h => absurd h List.not_mem_nil⟩
theorem Hv.pool (nt : NoT H) (h : H p = some (.lst xs)) : Hv (· = p) H [(p, .lst xs)] [] [] H := ⟨fun _ _ _ h => h, nt, fun q hq => by
  rw [List.mem_singleton.mp hq]
  exact ⟨h, .inl rfl, rfl⟩, fun _ h => absurd h List.not_mem_nil, List.pairwise_singleton .., fun _ _ _ h => absurd h List.not_mem_nil, fun _ h => absurd h List.not_mem_nil⟩
theorem Hv.same (B : Hv noX H M L Z G) : Same H G := fun b o h => B.old b o id h
theorem Hv.but1 (B : Hv (· = p) H M L Z G) : But p H G := fun b o n h => B.old b o n h
theorem Hv.mAt (B : Hv X H M L Z G) (h : (a, o) ∈ M) : G a = some o := (B.m _ h).1
theorem Hv.lAt (B : Hv X H M L Z G) (h : (a, o) ∈ L) : G a = some o := B.l _ h
theorem Hv.zAt (B : Hv X H M L Z G) (h : P ∈ Z) : P G := B.z P h G (Keeps.refl G)
theorem Hv.oAt (B : Hv noX H M L Z G) (h : H a = some o) : G a = some o := B.old a o id h
theorem Hv.oAtX (B : Hv (· = p) H M L Z G) (h : H a = some o) (n : a ≠ p) : G a = some o := B.old a o n h
theorem Hv.fr (B : Hv noX H M L Z G) (h : (a, o) ∈ M) : H a = none := (B.m _ h).2.1.elim False.elim id
theorem Hv.frX (B : Hv (· = p) H M L Z G) (h : (a, o) ∈ M) (n : a ≠ p) : H a = none := (B.m _ h).2.1.elim (fun e => absurd e n) id
theorem Hv.free (B : Hv noX H M L Z G) (h : G D = none) : H D = none := B.same.free h
theorem Hv.freeX (B : Hv (· = p) H ((p, o) :: M) L Z G) (h : G D = none) : H D = none := by
  have hp := (B.m _ List.mem_cons_self).1
  cases e : H D with
  | none => rfl
  | some u =>
    have n : D ≠ p := fun z => by
      subst z
      rw [h] at hp
      cases hp
    rw [B.old D u n e] at h
    cases h
theorem Hv.away (B : Hv X H M L Z G) (h : G D = none) : ∀ q ∈ M, q.1 ≠ D := fun q hq e => by
  have := (B.m q hq).1
  rw [e, h] at this
  cases this
theorem Hv.away1 (B : Hv X H ((p, o) :: M) L Z G) (h : G D = none) : ∀ q ∈ (p, u) :: M, q.1 ≠ D := fun q hq => (List.mem_cons.mp hq).elim (fun e => by
  rw [e]
  exact B.away h (p, o) List.mem_cons_self) fun hq => B.away h q (List.mem_cons_of_mem _ hq)
theorem Hv.next (B : Hv X H M L Z G) (s : Same G G') (n : NoT G') : Hv X H M L Z G' := ⟨fun b o h e => s b o (B.old b o h e), n, fun q hq => ⟨s _ _ (B.m q hq).1, (B.m q hq).2⟩, fun q hq => s _ _ (B.l q hq), B.nd, B.ml, fun P hP G2 k => B.z P hP G2 ((Keeps.of s).trans k)⟩
theorem Hv.newG (B : Hv X H M L Z G) (h : G D = none) (f : X D ∨ H D = none) (r : rigid o = false) (hn : noT o = true) : Hv X H ((D, o) :: M) L Z (upd G D o) := by
  have C := B.next (same_new (o := o) h) (NoT.upd B.nt hn)
  refine ⟨C.old, C.nt, fun q hq => ?_, C.l, List.pairwise_cons.mpr ⟨fun q hq => (B.away h q hq).symm, C.nd⟩, fun q hq q2 h2 => ?_, C.z⟩
  · rcases List.mem_cons.mp hq with e | hq
    · subst e
      exact ⟨upd_same, f, r⟩
    · exact C.m q hq
  · rcases List.mem_cons.mp hq with e | hq
    · subst e
      exact fun e => by
        have := B.l q2 h2
        rw [← e, h] at this
        cases this
    · exact C.ml q hq q2 h2
/-- a new thing, ours -/
theorem Hv.new (B : Hv noX H M L Z G) (h : G D = none) (r : rigid o = false := by rfl) (hn : noT o = true := by rfl) : Hv noX H ((D, o) :: M) L Z (upd G D o) := B.newG h (.inr (B.free h)) r hn
theorem Hv.newX (B : Hv (· = p) H ((p, u) :: M) L Z G) (h : G D = none) (r : rigid o = false := by rfl) (hn : noT o = true := by rfl) : Hv (· = p) H ((p, u) :: (D, o) :: M) L Z (upd G D o) := by
  have C := B.newG (o := o) h (.inr (B.freeX h)) r hn
  refine ⟨C.old, C.nt, fun q hq => C.m q ?_, C.l, ?_, fun q hq => C.ml q ?_, C.z⟩
  · simp only [List.mem_cons] at hq ⊢
    exact hq.elim (fun e => .inr (.inl e)) fun e => e.elim .inl fun e => .inr (.inr e)
  · obtain ⟨h1, h2⟩ := List.pairwise_cons.mp C.nd
    obtain ⟨h3, h4⟩ := List.pairwise_cons.mp h2
    exact List.pairwise_cons.mpr ⟨fun q hq => (List.mem_cons.mp hq).elim (fun e => by rw [e]; exact (h1 _ List.mem_cons_self).symm) (h3 q), List.pairwise_cons.mpr ⟨fun q hq => h1 q (List.mem_cons_of_mem _ hq), h4⟩⟩
  · simp only [List.mem_cons] at hq ⊢
    exact hq.elim (fun e => .inr (.inl e)) fun e => e.elim .inl fun e => .inr (.inr e)
/-- a new thing that stays as it is -/
theorem Hv.newL (B : Hv X H M L Z G) (h : G D = none) (hn : noT o = true := by rfl) : Hv X H M ((D, o) :: L) Z (upd G D o) := by
  have C := B.next (same_new (o := o) h) (NoT.upd B.nt hn)
  refine ⟨C.old, C.nt, C.m, fun q hq => ?_, C.nd, fun q hq q2 h2 => ?_, C.z⟩
  · rcases List.mem_cons.mp hq with e | hq
    · subst e
      exact upd_same
    · exact C.l q hq
  · rcases List.mem_cons.mp h2 with e | h2
    · subst e
      exact B.away h q hq
    · exact C.ml q hq q2 h2
/-- what stands besides -/
theorem Hv.add (B : Hv X H M L Z G) (h : G a = some o) (n : ∀ q ∈ M, q.1 ≠ a) : Hv X H M ((a, o) :: L) Z G := ⟨B.old, B.nt, B.m, fun q hq => (List.mem_cons.mp hq).elim (fun e => by rw [e]; exact h) (B.l q), B.nd, fun q hq q2 h2 => (List.mem_cons.mp h2).elim (fun e => by rw [e]; exact n q hq) (B.ml q hq q2), B.z⟩
/-- what a call has made: at D, free ahead of it -/
theorem Hv.got (B : Hv X H M L Z G) (s : Same G G') (n : NoT G') (f : G D = none) (h : G' D = some o) : Hv X H M ((D, o) :: L) Z G' := (B.next s n).add h (B.away f)
theorem Hv.gotM (B : Hv noX H M L Z G) (s : Same G G') (n : NoT G') (f : G D = none) (h : G' D = some o) (r : rigid o = false := by rfl) : Hv noX H ((D, o) :: M) L Z G' := by
  have C := B.next s n
  refine ⟨C.old, C.nt, fun q hq => (List.mem_cons.mp hq).elim (fun e => by rw [e]; exact ⟨h, .inr (B.free f), r⟩) (C.m q), C.l, List.pairwise_cons.mpr ⟨fun q hq => (B.away f q hq).symm, C.nd⟩, fun q hq q2 h2 => (List.mem_cons.mp hq).elim (fun e => ?_) fun hq => C.ml q hq q2 h2, C.z⟩
  rw [e]
  exact fun z => by
    have := B.l q2 h2
    rw [← z, f] at this
    cases this
/-- rigid things -/
theorem Hv.rig (B : Hv X H M L Z G) (h : Rig P G) : Hv X H M L (P :: Z) G := ⟨B.old, B.nt, B.m, B.l, B.nd, B.ml, fun Q hQ => (List.mem_cons.mp hQ).elim (fun e => by rw [e]; exact h) (B.z Q)⟩
/-- ours has changed -/
theorem Hv.but (B : Hv X H ((p, o) :: M) L Z G) (b : But p G G') (n : NoT G') (h : G' p = some u) (r : rigid u = false := by rfl) : Hv X H ((p, u) :: M) L Z G' := by
  obtain ⟨h1, h2, h3⟩ := B.m _ List.mem_cons_self
  obtain ⟨n1, n2⟩ := List.pairwise_cons.mp B.nd
  refine ⟨fun c w hc e => ?_, n, fun q hq => ?_, fun q hq => b _ _ (fun e => B.ml _ List.mem_cons_self q hq e.symm) (B.l q hq), List.pairwise_cons.mpr ⟨fun q hq => n1 q hq, n2⟩, fun q hq q2 k2 => ?_, fun P hP G2 k => B.z P hP G2 (Keeps.trans (fun c w rw hc => ?_) k)⟩
  · by_cases e2 : c = p
    · subst e2
      exact (h2.elim hc fun z => by rw [z] at e; cases e).elim
    · exact b c w e2 (B.old c w hc e)
  · rcases List.mem_cons.mp hq with e | hq
    · subst e
      exact ⟨h, h2, r⟩
    · obtain ⟨k1, k2⟩ := B.m q (List.mem_cons_of_mem _ hq)
      exact ⟨b _ _ (fun e => n1 q hq e.symm) k1, k2⟩
  · rcases List.mem_cons.mp hq with e | hq
    · subst e
      exact B.ml _ List.mem_cons_self q2 k2
    · exact B.ml _ (List.mem_cons_of_mem _ hq) q2 k2
  · refine b c w (fun e => ?_) hc
    subst e
    have : some o = some w := h1.symm.trans hc
    cases this
    have h3' : rigid o = false := h3
    rw [h3'] at rw
    cases rw
theorem Hv.put (B : Hv X H ((x, o) :: M) L Z G) (r : rigid u = false := by rfl) (hn : noT u = true := by rfl) : Hv X H ((x, u) :: M) L Z (upd G x u) := B.but (fun b w n e => by rw [upd_ne n]; exact e) (NoT.upd B.nt hn) upd_same r
theorem Hv.perm {M' : List (Addr × HO)} (B : Hv X H M L Z G) (h : ∀ q ∈ M', q ∈ M) (n : M'.Pairwise fun q r => q.1 ≠ r.1) : Hv X H M' L Z G := ⟨B.old, B.nt, fun q hq => B.m q (h q hq), B.l, n, fun q hq => B.ml q (h q hq), B.z⟩
theorem Hv.swap {q r : Addr × HO} (B : Hv X H (q :: r :: M) L Z G) : Hv X H (r :: q :: M) L Z G := by
  obtain ⟨h1, h2⟩ := List.pairwise_cons.mp B.nd
  obtain ⟨h3, h4⟩ := List.pairwise_cons.mp h2
  refine B.perm (fun k hk => ?_) (List.pairwise_cons.mpr ⟨fun k hk => (List.mem_cons.mp hk).elim (fun e => by rw [e]; exact (h1 _ List.mem_cons_self).symm) (h3 k), List.pairwise_cons.mpr ⟨fun k hk => h1 k (List.mem_cons_of_mem _ hk), h4⟩⟩)
  simp only [List.mem_cons] at hk ⊢
  exact hk.elim (fun e => .inr (.inl e)) fun e => e.elim .inl fun e => .inr (.inr e)
/-- the second of ours to the front, the third -/
theorem Hv.put1 {q : Addr × HO} (B : Hv X H (q :: (x, o) :: M) L Z G) (r : rigid u = false := by rfl) (hn : noT u = true := by rfl) : Hv X H (q :: (x, u) :: M) L Z (upd G x u) := (B.swap.put r hn).swap
theorem Hv.rot {q r t : Addr × HO} (B : Hv X H (q :: r :: t :: M) L Z G) : Hv X H (t :: q :: r :: M) L Z G := by
  obtain ⟨h1, h2⟩ := List.pairwise_cons.mp B.nd
  obtain ⟨h3, h4⟩ := List.pairwise_cons.mp h2
  obtain ⟨h5, h6⟩ := List.pairwise_cons.mp h4
  have e1 := h1 r List.mem_cons_self
  have e2 := h1 t (List.mem_cons_of_mem _ List.mem_cons_self)
  have e3 := h3 t List.mem_cons_self
  refine B.perm (fun k hk => ?_) (List.pairwise_cons.mpr ⟨fun k hk => ?_, List.pairwise_cons.mpr ⟨fun k hk => ?_, List.pairwise_cons.mpr ⟨fun k hk => h3 k (List.mem_cons_of_mem _ hk), h6⟩⟩⟩)
  · simp only [List.mem_cons] at hk ⊢
    rcases hk with e | e | e | e
    · exact .inr (.inr (.inl e))
    · exact .inl e
    · exact .inr (.inl e)
    · exact .inr (.inr (.inr e))
  · rcases List.mem_cons.mp hk with e | hk
    · rw [e]; exact e2.symm
    · rcases List.mem_cons.mp hk with e | hk
      · rw [e]; exact e3.symm
      · exact h5 k hk
  · rcases List.mem_cons.mp hk with e | hk
    · rw [e]; exact e1
    · exact h1 k (List.mem_cons_of_mem _ (List.mem_cons_of_mem _ hk))
theorem Hv.drop {q : Addr × HO} (B : Hv X H (q :: M) L Z G) : Hv X H M L Z G := B.perm (fun k hk => List.mem_cons_of_mem _ hk) (List.pairwise_cons.mp B.nd).2
theorem Hv.drop1 {q r : Addr × HO} (B : Hv X H (q :: r :: M) L Z G) : Hv X H (q :: M) L Z G := B.swap.drop
/-- ours no more to change -/
theorem Hv.fix {q : Addr × HO} (B : Hv X H (q :: M) L Z G) : Hv X H M (q :: L) Z G := by
  obtain ⟨h1, h2⟩ := List.pairwise_cons.mp B.nd
  exact B.drop.add (B.m q List.mem_cons_self).1 fun k hk => (h1 k hk).symm
theorem Hv.ne_m (B : Hv X H M L Z G) (h : (x, o) ∈ M) (k : (y, u) ∈ L) : y ≠ x := fun e => B.ml _ h _ k e.symm
theorem Hv.ne_o (B : Hv noX H M L Z G) (h : (x, o) ∈ M) (k : H y = some u) : y ≠ x := fun e => by
  have := B.fr h
  rw [← e, k] at this
  cases this
theorem sub_nil {α : Type _} {L : List α} : ∀ q ∈ ([] : List α), q ∈ L := fun _ h => absurd h List.not_mem_nil
theorem sub_cons {α : Type _} {a : α} {L L' : List α} (h : a ∈ L) (k : ∀ q ∈ L', q ∈ L) : ∀ q ∈ a :: L', q ∈ L := fun q hq => (List.mem_cons.mp hq).elim (fun e => by rw [e]; exact h) (k q)
theorem Hv.sub {L' : List (Addr × HO)} {Z' : List (Hp → Prop)} (B : Hv X H M L Z G) (h : ∀ q ∈ L', q ∈ L) (k : ∀ q ∈ Z', q ∈ Z) : Hv X H M L' Z' G := ⟨B.old, B.nt, B.m, fun q hq => B.l q (h q hq), B.nd, fun q hq r hr => B.ml q hq r (h r hr), fun P hP => B.z P (k P hP)⟩
/-- the heap by a letter -/
@[elab_as_elim] theorem Hv.gen {motive : Hp → Prop} (B : Hv X H M L Z G) (k : ∀ G', Hv X H M L Z G' → motive G') : motive G := k G B
theorem Hv.weaken (B : Hv X H M L Z G) : Hv X H [] [] [] G := ⟨B.old, B.nt, fun _ h => absurd h List.not_mem_nil, fun _ h => absurd h List.not_mem_nil, List.Pairwise.nil, fun _ h => absurd h List.not_mem_nil, fun _ h => absurd h List.not_mem_nil⟩
end
/-- tuple(xs) -/
abbrev rTupOf (K : PySem.W.Frag) : List V → Hp → VK → Prop := fun xs H Q => ∃ p ys, xs = [.ref p] ∧ ((SqL K H p ys ∧ ∀ l, H l = none → Q (.ref l) (upd H l (.tup ys))) ∨ (SqT K H p ys ∧ Q (.ref p) H))
theorem call_tupN {X : Cx} : CallR X (.type "tuple") (rTupOf X.K) := call_tuple_of
section
variable {K : PySem.W.Frag} {H : Hp} {p : Addr} {ys : List V} {Q : VK}
theorem rd_tupL (h : SqL K H p ys) (q : ∀ l, H l = none → Q (.ref l) (upd H l (.tup ys))) : rTupOf K [.ref p] H Q := ⟨p, ys, rfl, .inl ⟨h, q⟩⟩
theorem rd_tupT (h : SqT K H p ys) (q : Q (.ref p) H) : rTupOf K [.ref p] H Q := ⟨p, ys, rfl, .inr ⟨h, q⟩⟩
end
end L2

namespace PySem.SeqAt
open AutoSeq1 (wpAny_loadPart')
open MeetsSeq MeetsSeq2 MeetsSeq3 SeqRoads2
section
variable {prog : Program} {w : World}
/-- y == x, while J stands -/
def EqIn (prog : Program) (w : World) (A : Around) (J : Shared → Prop) (E : Value → Shared → Prop) (y x : Value) (b : Bool) : Prop := ∀ s, J s → wpAny (model prog w) A (eqBool y x) (fun r s' => r = b ∧ J s') E s
def ListIn (J : Shared → Prop) (l : Addr) (items : Array Value) : Prop := ∀ s, J s → ∃ n dd sl, s.heap.get? l = some { cls := .type "list", dict := dd, data := .seq items n, slots := sl }
theorem contains_loopIn (l : Addr) (items : Array Value) (x : Value) (e : Nat → Bool) (J : Shared → Prop) (hJ : ListIn J l items) (k : Nat) :
    ∀ i : Nat, items.size - i = k → MeetsIn prog w (Builtin.«list.__contains__.loop» ⟨[.ref l, x, rawInt i], []⟩)
      (fun A R s => J s ∧ (∀ j y, items[j]? = some y → EqIn prog w A.in1 J (fun er s' => R (.error er) s') y x (e j)) ∧ ∀ s', J s' → R (.ok (.ret (.bool ((List.range' i k).any e)))) s') := by
  induction k with
  | zero =>
    intro i hk A R s h
    obtain ⟨js, _, h⟩ := h
    have h0 := h s js
    obtain ⟨n, dd, sl, hl⟩ := hJ s js
    obtain ⟨hp, g, d, tk, os⟩ := s
    wp_walk using wpAny_loadPart' hl
    have hi : items[((i : Nat) : Int).toNat]? = none := by simp; omega
    rw [hi]
    wp_walk
    exact h0
  | succ k ih =>
    intro i hk A R s h
    obtain ⟨js, he, h⟩ := h
    obtain ⟨n, dd, sl, hl⟩ := hJ s js
    have hlt : i < items.size := by omega
    have go := he i items[i] (Array.getElem?_eq_getElem hlt) s js
    obtain ⟨hp, g, d, tk, os⟩ := s
    wp_walk using wpAny_loadPart' hl
    have hi : items[((i : Nat) : Int).toNat]? = some items[i] := by simp [hlt]
    rw [hi]
    refine wpAny_bind (wpAny_mono go (fun r s' z => ?_) fun _ _ z => z)
    obtain ⟨rfl, js'⟩ := z
    cases hb : e i with
    | true =>
      have h1 := h s' js'
      rw [List.range'_succ, List.any_cons, hb] at h1
      wp_walk
      exact h1
    | false =>
      have hc : ((i : Int) + 1) = ((i + 1 : Nat) : Int) := by push_cast; rfl
      wp_walk
      rw [hc]
      exact ⟨plainId_quiet plain_contains_loop _, codeAny_builtin entry_contains_loop (by
        rw [Around.under_plainId plain_contains_loop _]
        refine ih (i + 1) (by omega) A R s' ⟨js', he, fun s2 j2 => ?_⟩
        have h1 := h s2 j2
        rw [List.range'_succ, List.any_cons, hb] at h1
        exact h1)⟩
theorem list_containsIn (l : Addr) (items : Array Value) (x : Value) (e : Nat → Bool) (J : Shared → Prop) (hJ : ListIn J l items) : MeetsIn prog w (Builtin.«list.__contains__» ⟨[.ref l, x], []⟩)
      (fun A R s => J s ∧ (∀ j y, items[j]? = some y → EqIn prog w A.in1 J (fun er s' => R (.error er) s') y x (e j)) ∧ ∀ s', J s' → R (.ok (.ret (.bool ((List.range' 0 items.size).any e)))) s') := by
  intro A R s h
  obtain ⟨n, dd, sl, hl⟩ := hJ s h.1
  have h0 := h
  obtain ⟨hp, g, d, tk, os⟩ := s
  wp_walk using wpAny_loadPart' hl
  exact ⟨plainId_quiet plain_contains_loop _, codeAny_builtin entry_contains_loop (by
    rw [Around.under_plainId plain_contains_loop _]
    exact contains_loopIn l items x e J hJ items.size 0 (by omega) A R _ h0)⟩
theorem in_listIn {A : Around} {E : Value → Shared → Prop} {s : Shared} {l : Addr} {items : Array Value} {x : Value} {Q : Value → Shared → Prop} (e : Nat → Bool) (J : Shared → Prop) (hJ : ListIn J l items) (js : J s)
    (he : ∀ j y, items[j]? = some y → EqIn prog w A.in1 J E y x (e j)) (h : ∀ s', J s' → Q (.bool ((List.range' 0 items.size).any e)) s') : wpAny (model prog w) A (compareOp .In x (.ref l)) Q E s := by
  obtain ⟨n, dd, sl, hl⟩ := hJ s js
  show wpAny _ A (do return .bool (← contains (.ref l) x)) Q E s
  have hT : s.TypeIs (.ref l) "list" := ⟨_, hl, rfl⟩
  refine wpAny_bind (wpAny_contains_slot hT F.slot_list_contains (wpAny_mono (call_meetsIn (Q := fun v s' => ∃ b, v = .bool b ∧ Q (.bool b) s') F.slot_list_contains hT F.entry_list_contains (F.args_list_contains_2 _ _) (list_containsIn l items x e J hJ) ⟨js, he, fun s' j' => ⟨_, rfl, h s' j'⟩⟩) (fun v s' hv => ?_) fun _ _ z => z))
  obtain ⟨b, rfl, hq⟩ := hv
  exact wpAny_truthy_bool (wpAny_pure hq)
end
end PySem.SeqAt

namespace L2
open PySem PySem.Spec PyProof.Rows
section
variable {X : Cx} {k : Nat} {C : Addr} {ps : List PySem.Str} {sp : Sp} {E : XK}
/-- x in a list of instances of C with an own == -/
def rInLO (K : PySem.W.Frag) (C : Addr) (sp : Sp) (E : XK) : R2 := fun x y H Q => ∃ (b l : Addr) (ys : List Addr) (F : Nat → Bool), x = .ref b ∧ y = .ref l ∧ SqL K H l (ys.map V.ref) ∧ TyX K H (.ref b) (.ref C) ∧
  (∀ (i : Nat) (a : Addr), ys[i]? = some a → (∃ dx fs, H a = some (.ins C dx fs)) ∧ (a = b → F i = true) ∧ ∀ Qb : VK, Qb (.bl (F i)) H → sp [.ref a, .ref b] H Qb E) ∧ Q (.bl ((List.range' 0 ys.length).any F)) H
theorem eqBool_own {pins : List (Addr × Obj)} {σ : St} {H : Hp} {s : Shared} {a b dx : Addr} {fs : List (PySem.Str × V)} {r : Bool} {R : Bool → Shared → Prop} (D : MDef X.prog X.w X.K X.mg X.base k C "__eq__" ps sp) (hr : Room (k + 1) X.A) (hu : X.A.units + 1 < cLine) (hx : Passes (L2.CX X.prog X.w) X E)
    (I : Inv X pins σ H s) (ha : H a = some (.ins C dx fs)) (hty : TyX X.K H (.ref b) (.ref C)) (same : a = b → r = true) (hsp : ∀ Qb : VK, Qb (.bl r) H → sp [.ref a, .ref b] H Qb E) (q : ∀ s', Inv X pins σ H s' → R r s') :
    wpAny (model X.prog X.w) X.A.in1 (eqBool (.ref a) (.ref b)) R X.xe s := by
  unfold eqBool
  refine wpAny_holding ?_
  by_cases h : a = b
  · subst h
    rw [if_pos (by simp)]
    refine wpAny_bind (wpAny_rule ?_)
    rw [same rfl] at q
    exact wpAny_pure (q s I)
  · rw [if_neg (by simp [h])]
    obtain ⟨f, fd, F, g, bb⟩ := D.ex
    obtain ⟨mA, J, _⟩ := ins_get I.hok ha
    obtain ⟨od, J, _⟩ := J.look
    obtain ⟨m, hF⟩ := I.fr
    obtain ⟨P, Z, hp, _⟩ := kit_of I (show RelV (V.ref b) (Value.ref b) from rfl) hty
    have e0 : Env0 X.prog X.w X.K X.mg X.base X.A.in1 X.stack s H := by
      have e := I.env0
      exact ⟨e.frames, e.mod, e.bs, e.bsz, e.funs, e.frf, e.hok, e.bare⟩
    have go := hsp (fun v H' => v = .bl r ∧ H' = H) ⟨rfl, rfl⟩
    have hl := F.len _ _ _ _ go
    have r2 : Vals [V.ref a, V.ref b] [Value.ref a, Value.ref b] := .cons rfl (.cons rfl .nil)
    have main : wpAny (model X.prog X.w) X.A.in1 (richCompare .Eq (.ref a) (.ref b)) (fun v s' => v = .bool r ∧ Inv X pins σ H s') X.xe s := by
      refine PySem.W.cmp_K (op := .Eq) (tb := .ref C) (by show X.A.units + 1 < cLine; exact hu) hF I.ok.mod.kin J (Z.ty _ s.heap I.kIn hp) (by unfold PySem.W.notFirst; simp) g.at_ g.fn ?_
      refine wpAny_call (codeAny_mono (F.run X.A.in1 X.stack s H ⟨[.ref a, .ref b], []⟩ [.ref a, .ref b] [.ref a, .ref b] _ E hr.in1 e0 (by
        have := bb s [.ref a, .ref b] I.kIn (by simpa using hl)
        simpa using this) r2 go) fun r' s' hq => ?_)
      cases r' with
      | error e => exact hx pins σ H s e s' I hq
      | ok fl =>
        cases fl with
        | ret w =>
          obtain ⟨z, H', I', rz, ez, eH⟩ := I.after hq
          subst ez eH
          cases (show w = Value.bool r from rz)
          exact ⟨rfl, I'⟩
        | next => exact hq.elim
        | brk => exact hq.elim
        | cont => exact hq.elim
    refine wpAny_bind (wpAny_mono main (fun v s' z => ?_) fun _ _ z => z)
    obtain ⟨rfl, I'⟩ := z
    exact wpAny_truthy_bool (q s' I')
theorem refs_vals : ∀ {ys : List Addr} {its : List Value}, Vals (ys.map V.ref) its → its = ys.map Value.ref
  | [], [], _ => rfl
  | _ :: _, _ :: _, .cons r h => by
    cases r
    rw [refs_vals h]
    rfl
theorem op_inLO (D : MDef X.prog X.w X.K X.mg X.base k C "__eq__" ps sp) (hr : Room (k + 1) X.A) (hu : X.A.units + 1 < cLine) (hx : Passes (L2.CX X.prog X.w) X E) : OpR X (compareOp .In) (rInLO X.K C sp E) := by
  intro pins s σ H x y v u Q I rx ry ⟨b, l, ys, F, ex, ey, hl, hty, he, q⟩
  subst ex ey
  cases (show v = Value.ref b from rx)
  cases (show u = Value.ref l from ry)
  refine SeqAt.in_listIn (items := (ys.map Value.ref).toArray) F (fun s' => Inv X pins σ H s') (fun s' I' => ?_) I (fun j y hy s' I' => ?_) fun s' I' => ?_
  · obtain ⟨its, r, pl, _⟩ := I'.list hl
    rw [refs_vals r] at pl
    obtain ⟨⟨cls, dd, data, sl⟩, ho, hc, n, hd⟩ := pl.isList
    dsimp only at hc hd
    subst hc hd
    exact ⟨_, _, _, ho⟩
  · rw [List.getElem?_toArray, List.getElem?_map] at hy
    obtain ⟨a, ha, rfl⟩ := Option.map_eq_some_iff.mp hy
    obtain ⟨⟨dx, fs, h1⟩, h2, h3⟩ := he j a ha
    exact eqBool_own D hr hu hx I' h1 hty h2 h3 fun s2 I2 => ⟨rfl, I2⟩
  · rw [List.size_toArray, List.length_map]
    exact ⟨.bl _, H, I', rfl, q⟩
end
end L2

namespace L2
open PySem PySem.Spec PyProof.Rows
/-- a list and the empty list -/
def rEqN (K : PySem.W.Frag) (neg : Bool) : R2 := fun x y H Q => ∃ (a b : Addr) (xs ys : List V), x = .ref a ∧ y = .ref b ∧ SqL K H a xs ∧ SqL K H b ys ∧ ys = [] ∧ Q (.bl (if neg then !decide (xs = []) else decide (xs = []))) H
theorem op_eqN {X : Cx} (hu : X.A.units < cLine) : OpR X (compareOp .Eq) (rEqN X.K false) := by
  intro pins s σ H x y v u Q I rx ry ⟨a, b, xs, ys, ex, ey, ha, hb, hy, q⟩
  subst ex ey hy
  cases (show v = Value.ref a from rx)
  cases (show u = Value.ref b from ry)
  obtain ⟨its, r1, p1, _⟩ := I.list ha
  obtain ⟨jts, r2, p2, _⟩ := I.list hb
  cases r2
  have hl := r1.length
  by_cases e : xs = []
  · subst e
    cases r1
    exact SeqAt.eq_listAt (e := fun _ => true) p1.isList p2.isList rfl hu (fun j h1 _ => absurd h1 (by simp)) ⟨.bl true, H, I, rfl, by simpa using q⟩
  · refine SeqAt.eq_list_lengthsAt p1.isList p2.isList ?_ hu ⟨.bl false, H, I, rfl, by simpa [e] using q⟩
    simp
    intro z
    rw [z] at hl
    exact e (by simpa using hl)
theorem op_neN {X : Cx} (hu : X.A.units < cLine) : OpR X (compareOp .NotEq) (rEqN X.K true) := by
  intro pins s σ H x y v u Q I rx ry ⟨a, b, xs, ys, ex, ey, ha, hb, hy, q⟩
  subst ex ey hy
  cases (show v = Value.ref a from rx)
  cases (show u = Value.ref b from ry)
  obtain ⟨its, r1, p1, _⟩ := I.list ha
  obtain ⟨jts, r2, p2, _⟩ := I.list hb
  cases r2
  have hl := r1.length
  show wpAny (model X.prog X.w) X.A (richCompare .NotEq (.ref a) (.ref b)) _ _ _
  by_cases e : xs = []
  · subst e
    cases r1
    exact SeqAt.RcNeAt.lists (e := fun _ => true) p1.isList p2.isList rfl hu (fun j h1 _ => absurd h1 (by simp)) _ _ _ _ ⟨.bl false, H, I, rfl, by simpa using q⟩
  · refine SeqAt.RcNeAt.lists_lengths p1.isList p2.isList ?_ hu _ _ _ _ ⟨.bl true, H, I, rfl, by simpa [e] using q⟩
    simp
    intro z
    rw [z] at hl
    exact e (by simpa using hl)
theorem rd_eqN {K : PySem.W.Frag} {neg : Bool} {a b : Addr} {xs : List V} {H : Hp} {Q : VK} (h : SqL K H a xs) (k : SqL K H b []) (q : Q (.bl (if neg then !decide (xs = []) else decide (xs = []))) H) : rEqN K neg (.ref a) (.ref b) H Q := ⟨a, b, xs, [], rfl, rfl, h, k, rfl, q⟩
end L2

namespace L2
open PySem PySem.Spec PyProof.Rows
/-! ### comprehensions over a tuple of ints -/
section
variable {σ : St} {H : Hp} {Q : VK} {K : PySem.W.Frag} {te : TE} {tt : TT}
theorem rd_lcIT {a : Addr} {ns : List Int} {g : TG} {vs : List Nat} (p : Int → Bool) (f : Int → V) (hS : SqT K H a (ns.map V.int))
    (hs : ∀ D l x r, H D = none → ns = l ++ x :: r → g (.int x) (wipe σ vs) (upd H D (.lst (resI p f l))) fun σ2 H2 => wipe σ2 vs = wipe σ vs ∧ tt σ2 H2 fun b H3 => if b = true then te σ2 H3 (LcPut H D (resI p f l) (resI p f (l ++ [x]))) else LcSkip H D (resI p f (l ++ [x])) H3)
    (q : ∀ D, H D = none → Q (.ref D) (upd H D (.lst ((ns.filter p).map f)))) : lcB (Itt K a) g tt te vs σ Q H := by
  intro D hD
  refine ⟨fun i m H' => m = ns.length - i ∧ i ≤ ns.length ∧ H' = upd H D (.lst (resI p f (ns.take i))), ⟨ns.length, by simp, Nat.zero_le _, rfl⟩, ?_⟩
  rintro i m H' ⟨rfl, hi, rfl⟩
  have hS' : SqT K (upd H D (.lst (resI p f (ns.take i)))) a (ns.map V.int) := (same_new hD).seqT hS
  by_cases hlt : i < ns.length
  · have hx : (ns.map V.int)[i]? = some (.int ns[i]) := by simp [hlt]
    have er : ns.take (i + 1) = ns.take i ++ [ns[i]] := by rw [List.take_add_one, List.getElem?_eq_getElem hlt]; rfl
    refine .inr ⟨⟨_, _, hS', hx⟩, fun H' => H' = upd H D (.lst (resI p f (ns.take (i + 1)))), fun H' p' => ⟨ns.length - (i + 1), by omega, rfl, hlt, p'⟩, fun x H' y => ?_⟩
    obtain ⟨e, y⟩ := y
    subst e
    have ex : x = .int ns[i] := Option.some.inj ((y _ hS').symm.trans hx)
    subst ex
    have z := hs D (ns.take i) ns[i] (ns.drop (i + 1)) hD (by rw [List.getElem_cons_drop, List.take_append_drop])
    rw [← er] at z
    exact z
  · have e : i = ns.length := by omega
    subst e
    rw [List.take_length]
    exact .inl ⟨⟨_, (same_new hD).seqT hS, by rw [List.length_map]; exact Nat.le_refl _⟩, q D hD⟩
theorem rd_inTs {x : Int} {ns : List Int} {p : Addr} (h : SqT K H p (ns.map V.int)) (q : Q (.bl (decide (x ∈ ns))) H) : rIn K false (.int x) (.ref p) H Q :=
  rd_inT h rfl flat_ints (by rw [inV_ints]; exact q)
theorem rd_ninTs {x : Int} {ns : List Int} {p : Addr} (h : SqT K H p (ns.map V.int)) (q : Q (.bl (!decide (x ∈ ns))) H) : rIn K true (.int x) (.ref p) H Q :=
  rd_ninT h rfl flat_ints (by rw [inV_ints]; exact q)
theorem rd_extend {l b : Addr} {xs zs : List V} (h : H l = some (.lst xs)) (k : H b = some (.lst zs)) (z : xs.length + zs.length ≤ sizeLine) (q : Q .non (upd H l (.lst (xs ++ zs)))) : rExtend (.ref l) [.ref b] H Q := ⟨l, b, xs, zs, rfl, rfl, h, k, z, q⟩
/-- sep.join(words) -/
abbrev rJoin (K : PySem.W.Frag) : V → List V → Hp → VK → Prop := fun x xs H Q => ∃ a p, ∃ ys : List Str, x = .str a ∧ xs = [.ref p] ∧ (SqL K H p (ys.map V.str) ∨ SqT K H p (ys.map V.str)) ∧ (ys.map (·.length)).sum + ys.length * a.length ≤ 16777216 ∧ Q (.str (Txt.join a ys)) H
theorem rd_join {a : Str} {p : Addr} {ys : List Str} (h : SqL K H p (ys.map V.str)) (z : (ys.map (·.length)).sum + ys.length * a.length ≤ 16777216) (q : Q (.str (Txt.join a ys)) H) : rJoin K (.str a) [.ref p] H Q := ⟨a, p, ys, rfl, rfl, .inl h, z, q⟩
instance st_m1 {r : V → List V → Hp → VK → Prop} {ta tb : TE} : Stp (tM1 r ta tb σ H Q) (ta σ H fun x H1 => (∃ a, x = .str a) ∧ tb σ H1 fun y H2 => r x [y] H2 Q) := ⟨fun h => h⟩
/-! ### ranges with a step -/
def rRng3 (S : It → Hp → Prop) : List V → Hp → Prop := fun vs H1 => ∃ (i j c : Int) (n : Nat), vs = [.int i, .int j, .int c] ∧ RgC i j c n ∧ S (Itc i c n) H1
instance st_iRng3 {ta : TA} {S : It → Hp → Prop} : Stp (iRng3 ta σ H S) (ta σ H (rRng3 S)) := ⟨fun h => h⟩
theorem rd_r3 {S : It → Hp → Prop} {i j c : Int} {n : Nat} (h : RgC i j c n) (q : S (Itc i c n) H) : rRng3 S [.int i, .int j, .int c] H := ⟨i, j, c, n, rfl, h, q⟩
theorem rd_lcC {lo c : Int} {n : Nat} {g : TG} {vs : List Nat} (p : Nat → Bool) (f : Nat → V)
    (hs : ∀ D i, H D = none → i < n → g (.int (lo + (i : Nat) * c)) (wipe σ vs) (upd H D (.lst (resR p f i))) fun σ2 H2 => wipe σ2 vs = wipe σ vs ∧ tt σ2 H2 fun b H3 => if b = true then te σ2 H3 (LcPut H D (resR p f i) (resR p f (i + 1))) else LcSkip H D (resR p f (i + 1)) H3)
    (q : ∀ D, H D = none → Q (.ref D) (upd H D (.lst (((List.range n).filter p).map f)))) : lcB (Itc lo c n) g tt te vs σ Q H := by
  intro D hD
  refine ⟨fun i m H' => m = n - i ∧ i ≤ n ∧ H' = upd H D (.lst (resR p f i)), ⟨n, by simp, Nat.zero_le _, rfl⟩, ?_⟩
  rintro i m H' ⟨rfl, hi, rfl⟩
  by_cases hlt : i < n
  · refine .inr ⟨hlt, fun H' => H' = upd H D (.lst (resR p f (i + 1))), fun H' p' => ⟨n - (i + 1), by omega, rfl, hlt, p'⟩, fun x H' y => ?_⟩
    obtain ⟨e, y⟩ := y
    subst e y
    exact hs D i hD hlt
  · have e : i = n := by omega
    subst e
    exact .inl ⟨Nat.le_refl _, q D hD⟩
end
end L2

namespace L2
open PySem PySem.Spec PyProof.Rows
/-! ### dicts from ints: what is computed for each of some keys -/
def dV (f : Int → V) (l : List Int) : List (Key × V) := l.map fun k => (.inl k, f k)
theorem dV_len {f : Int → V} {l : List Int} : (dV f l).length = l.length := List.length_map ..
theorem dV_val {f : Int → V} {i : Int} : ∀ {l : List Int}, valV (dV f l) (.inl i) = if i ∈ l then some (f i) else none
  | [] => by simp [dV, valV]
  | k :: l => by
    have ih := dV_val (f := f) (i := i) (l := l)
    by_cases e : k = i
    · subst e
      have : valV (dV f (k :: l)) (.inl k) = some (f k) := valV_pos (p := ((Sum.inl k : Key), f k)) (r := dV f l) (k := Sum.inl k) rfl
      rw [this, if_pos List.mem_cons_self]
    · have : valV (dV f (k :: l)) (.inl i) = valV (dV f l) (.inl i) := valV_neg (p := ((Sum.inl k : Key), f k)) (r := dV f l) (k := Sum.inl i) fun z => e (Sum.inl.inj z)
      rw [this, ih]
      by_cases h : i ∈ l
      · rw [if_pos h, if_pos (List.mem_cons_of_mem _ h)]
      · rw [if_neg h, if_neg fun z => (List.mem_cons.mp z).elim (fun z => e z.symm) h]
theorem dV_snoc {f : Int → V} {l : List Int} {i : Int} (h : i ∉ l) : putK (dV f l) (.inl i) (f i) = dV f (l ++ [i]) := by
  rw [putK_new _ (by rw [dV_val, if_neg h])]
  unfold dV
  rw [List.map_append]
  rfl
theorem dV_keys {f : Int → V} {l : List Int} : ((dV f l).map fun kv => kV kv.1) = l.map V.int := by
  unfold dV
  rw [List.map_map]
  rfl
/-! dicts from ints to things that were made -/
def lnK (es : List (Int × Addr)) : List (Key × V) := es.map fun e => (.inl e.1, .ref e.2)
theorem lnK_len {es : List (Int × Addr)} : (lnK es).length = es.length := List.length_map ..
theorem lnK_none {i : Int} : ∀ {es : List (Int × Addr)}, i ∉ es.map (·.1) → valV (lnK es) (.inl i) = none
  | [], _ => by simp [lnK, valV]
  | e :: es, h => by
    rw [List.map_cons, List.mem_cons, not_or] at h
    have : valV (lnK (e :: es)) (.inl i) = valV (lnK es) (.inl i) := valV_neg (p := ((Sum.inl e.1 : Key), V.ref e.2)) (r := lnK es) (k := Sum.inl i) fun z => h.1 (Sum.inl.inj z).symm
    rw [this, lnK_none h.2]
theorem lnK_some {i : Int} : ∀ {es : List (Int × Addr)}, i ∈ es.map (·.1) → ∃ t, (i, t) ∈ es ∧ valV (lnK es) (.inl i) = some (.ref t)
  | [], h => by cases h
  | e :: es, h => by
    by_cases z : e.1 = i
    · subst z
      exact ⟨e.2, List.mem_cons_self, valV_pos (p := ((Sum.inl e.1 : Key), V.ref e.2)) (r := lnK es) (k := Sum.inl e.1) rfl⟩
    · have hm : i ∈ es.map (·.1) := (List.mem_cons.mp h).resolve_left fun y => z y.symm
      obtain ⟨t, ht, hv⟩ := lnK_some hm
      refine ⟨t, List.mem_cons_of_mem _ ht, ?_⟩
      have : valV (lnK (e :: es)) (.inl i) = valV (lnK es) (.inl i) := valV_neg (p := ((Sum.inl e.1 : Key), V.ref e.2)) (r := lnK es) (k := Sum.inl i) fun y => z (Sum.inl.inj y)
      rw [this, hv]
theorem lnK_put {es : List (Int × Addr)} {i : Int} {t : Addr} (h : i ∉ es.map (·.1)) : putK (lnK es) (.inl i) (.ref t) = lnK (es ++ [(i, t)]) := by
  rw [putK_new _ (lnK_none h)]
  unfold lnK
  rw [List.map_append]
  rfl
theorem lnK_over {es : List (Int × Addr)} {i : Int} {t u : Addr} (h : i ∉ es.map (·.1)) : putK (lnK (es ++ [(i, t)])) (.inl i) (.ref u) = lnK (es ++ [(i, u)]) := by
  have hm : i ∈ (es ++ [(i, t)]).map (·.1) := by simp
  obtain ⟨_, _, hv⟩ := lnK_some hm
  unfold putK
  rw [if_pos (by rw [valV_any, hv]; rfl)]
  unfold lnK
  rw [List.map_append, List.map_append, List.map_append, List.map_map]
  have h1 : es.map (fun e => ((Sum.inl e.1 : Key), V.ref e.2)) = es.map ((fun kv : Key × V => if kv.1 = Sum.inl i then (kv.1, V.ref u) else kv) ∘ fun e => ((Sum.inl e.1 : Key), V.ref e.2)) := by
    refine List.map_congr_left fun e he => ?_
    have : e.1 ≠ i := fun z => h (List.mem_map.mpr ⟨e, he, z⟩)
    simp [this]
  rw [h1]
  simp
theorem lnK_keys {es : List (Int × Addr)} : ((lnK es).map fun kv => kV kv.1) = (es.map (·.1)).map V.int := by
  unfold lnK
  rw [List.map_map, List.map_map]
  rfl
section
variable {σ : St} {H : Hp} {Q : VK} {K : PySem.W.Frag} {tk tv : TE} {a : Addr} {i : Int} {v : V}
def DcPutV (H : Hp) (D : Addr) (f : Int → V) (xs : List Int) (y z : V) (H5 : Hp) : Prop := ∃ kvs k, y = kV k ∧ H5 D = some (.dK kvs) ∧ kvs.length < sizeLine ∧ upd H5 D (.dK (putK kvs k z)) = upd H D (.dK (dV f xs))
theorem put_V {D : Addr} {f : Int → V} {xs : List Int} {c : Int} {z : V} (few : xs.length < 100000) (n : c ∉ xs) (e : z = f c) : DcPutV H D f (xs ++ [c]) (.int c) z (upd H D (.dK (dV f xs))) := by
  refine ⟨_, .inl c, rfl, upd_same, ?_, ?_⟩
  · rw [dV_len]
    exact Nat.lt_trans few (by decide)
  · rw [upd_upd, e, dV_snoc n]
/-- {x: f x for x in xs} -/
theorem rd_dcLV {ns : List Int} {g : TG} {vs : List Nat} (f : Int → V) (hS : SqL K H a (ns.map V.int))
    (hs : ∀ D l x r, H D = none → ns = l ++ x :: r → g (.int x) (wipe σ vs) (upd H D (.dK (dV f l))) fun σ2 H2 => wipe σ2 vs = wipe σ vs ∧ tk σ2 H2 fun y H4 => tv σ2 H4 fun z H5 => DcPutV H D f (l ++ [x]) y z H5)
    (q : ∀ D, H D = none → Q (.ref D) (upd H D (.dK (dV f ns)))) : dcB (Itl K a) g tYes tk tv vs σ Q H := by
  intro D hD
  refine ⟨fun i m G => m = ns.length - i ∧ i ≤ ns.length ∧ G = upd H D (.dK (dV f (ns.take i))), ⟨ns.length, by simp, Nat.zero_le _, rfl⟩, ?_⟩
  rintro i m G ⟨rfl, hi, rfl⟩
  have hS' : SqL K (upd H D (.dK (dV f (ns.take i)))) a (ns.map V.int) := (same_new hD).seq hS
  by_cases hlt : i < ns.length
  · have hx : (ns.map V.int)[i]? = some (.int ns[i]) := by simp [hlt]
    have er : ns.take (i + 1) = ns.take i ++ [ns[i]] := by rw [List.take_add_one, List.getElem?_eq_getElem hlt]; rfl
    refine .inr ⟨⟨_, _, hS', hx⟩, fun G' => G' = upd H D (.dK (dV f (ns.take (i + 1)))), fun G' e => ⟨ns.length - (i + 1), by omega, rfl, hlt, e⟩, fun x G' y => ?_⟩
    obtain ⟨e, y⟩ := y
    subst e
    have ex : x = .int ns[i] := Option.some.inj ((y _ hS').symm.trans hx)
    subst ex
    have z := hs D (ns.take i) ns[i] (ns.drop (i + 1)) hD (by rw [List.getElem_cons_drop, List.take_append_drop])
    rw [← er] at z
    exact z
  · have e : i = ns.length := by omega
    subst e
    rw [List.take_length]
    exact .inl ⟨⟨_, (same_new hD).seq hS, by rw [List.length_map]; exact Nat.le_refl _⟩, q D hD⟩
theorem rd_dinV {f : Int → V} {l : List Int} (h : H a = some (.dK (dV f l))) (q : Q (.bl (decide (i ∈ l))) H) : rDInV Q (.ref a) (.int i) H := rd_din1 h (by rw [dV_val]; by_cases e : i ∈ l <;> simp [e]) q
theorem rd_dgetV {f : Int → V} {l : List Int} (h : H a = some (.dK (dV f l))) (m : i ∈ l) (q : Q (f i) H) : rDGetV Q (.ref a) (.int i) H := rd_dget1 h (by rw [dV_val, if_pos m]) q
theorem rd_dgetN {es : List (Int × Addr)} {t : Addr} (h : H a = some (.dK (lnK es))) (hv : valV (lnK es) (.inl i) = some (.ref t)) (q : Q (.ref t) H) : rDGetV Q (.ref a) (.int i) H := rd_dget1 h hv q
theorem rd_dputN {S : Hp → Prop} {es : List (Int × Addr)} {t : Addr} (h : H a = some (.dK (lnK es))) (hl : es.length < 1000000) (n : i ∉ es.map (·.1)) (q : S (upd H a (.dK (lnK (es ++ [(i, t)]))))) : rDPutV S (.ref a) (.int i) (.ref t) H :=
  rd_dput1 h (by rw [lnK_len]; exact Nat.lt_trans hl (by decide)) (by rw [lnK_put n]; exact q)
theorem rd_dputO {S : Hp → Prop} {es : List (Int × Addr)} {t u : Addr} (h : H a = some (.dK (lnK (es ++ [(i, t)])))) (hl : es.length < 1000000) (n : i ∉ es.map (·.1)) (q : S (upd H a (.dK (lnK (es ++ [(i, u)]))))) : rDPutV S (.ref a) (.int i) (.ref u) H :=
  rd_dput1 h (by rw [lnK_len, List.length_append]; exact Nat.lt_of_le_of_lt (m := 1000001) (by simp; omega) (by decide)) (by rw [lnK_over n]; exact q)
theorem rd_listV {f : Int → V} {l : List Int} (h : H a = some (.dK (dV f l))) (q : ∀ p, H p = none → Q (.ref p) (upd H p (.lst (l.map V.int)))) : rListDo [.ref a] H Q := ⟨a, _, rfl, .inl h, by rw [dV_keys]; exact q⟩
end
theorem kit_int {K : PySem.W.Frag} {C : Addr} (h : PySem.W.subIn K (.ref C) (.type "int") = some false) : PySem.W.kitOne K (.ref C) (.type "int") = some false := by
  show (if (Value.ref C == Value.type "int") = true then some true else if PySem.W.kitMeta "int" = true then PySem.W.subIn K (.ref C) (.type "int") else none) = some false
  rw [if_neg (by intro z; cases z), if_pos (by decide +kernel), h]
end L2
namespace L2
open PySem PySem.Spec PyProof.Rows
/-! ### a call of an instance within a try -/
section
variable {X : Cx} {k : Nat} {C : Addr} {ps : List PySem.Str} {sp : Sp} {pos : Pos} {e : Expr} {es : List Expr} {t : TA} {W : WX}
theorem run_callOS {pins : List (Addr × Obj)} {σ : L2.St} {H : Hp} {s : Shared} {Q : VK} {a g : Addr} {us : List Value} {vs : List V} (c : StX.CallO X.K C g) (F : FnR X.prog X.w X.K X.mg X.base (L2.CX X.prog X.w) k g sp) (hr : Room k X.A) (tk : Takes X W) (I : Inv X pins σ H s) (hi : StX.InsC X H a C) (r : Vals vs us)
    (h : sp (V.ref a :: vs) H Q (WE W σ)) : wpAny (model X.prog X.w) X.A (call (.ref a) us) (EP X pins σ Q) X.xe s := by
  obtain ⟨ox, od, J, hd⟩ := StX.insC_at I hi
  refine wpAny_call (PySem.W.kco_code I.kIn J hd c.at_ c.fn c.fi (codeAny_mono (F X.A X.stack s H (.ref a :: us) (.ref a :: vs) Q (WE W σ) hr I.env0 (.cons rfl r) h) fun r s' hq => ?_))
  cases r with
  | error e => exact passAt tk σ pins H s e s' I hq
  | ok fl =>
    cases fl with
    | ret u => exact I.after hq
    | next => exact False.elim hq
    | brk => exact False.elim hq
    | cont => exact False.elim hq
def tCallCT (C : Addr) (sp : Sp) (E : St → XK) (tf : TE) (t : TA) : TE := fun σ H Q => tf σ H fun y H1 => ∃ a, y = V.ref a ∧ t σ H1 fun vs H2 => (∃ dx fs, H2 a = some (.ins C dx fs)) ∧ sp (V.ref a :: vs) H2 Q (E σ)
theorem pe_mcallS {fe : Expr} {tf : TE} (D : MDef X.prog X.w X.K X.mg X.base k C "__call__" ps sp) (fi : ∀ g, PySem.W.findIn X.K (.ref C) "__call__" = some (some (.ref g)) → PySem.W.fnIn X.K g = true) (hf : PE X fe tf) (hr : Room k X.A) (tk : Takes X W) (ha : PA X (e :: es) t)
    (ht : eval (.Call fe (e :: es) [] pos) X.env = (do callWith pos (← eval fe X.env) [] (backTo pos (starEach (e :: es) X.env)) (backToKw pos (keywordEach [] X.env))) := by rfl)
    (he : starEach (e :: es) X.env = (false, eval e X.env) :: starEach es X.env := by rfl) (hpl : (backTo pos (starEach es X.env)).any (·.1) = false := by rfl) :
    PE X (.Call fe (e :: es) [] pos) (tCallCT C sp (WE W) tf t) := by
  obtain ⟨f, fd, F, g, b⟩ := D.ex
  refine ⟨fun pins s σ H Q I h => ?_⟩
  refine Call_ (thn (hf.run pins s σ H _ I h) fun u s1 ⟨y, H1, I1, ry, a, ey, q⟩ => ?_) ht
  subst ey
  obtain rfl : u = Value.ref a := ry
  refine StX.callO_with (thn (ha.run pos pins s1 σ H1 _ I1 q) fun us s2 ⟨vs, H2, I2, r, hi, q2⟩ => ?_) he hpl
  obtain ⟨ox, od, J, hd⟩ := StX.insC_at I2 (.inr hi)
  refine ⟨⟨C, ox, od, J, hd⟩, run_callOS (sp := fun vs H Q E => sp (vs ++ []) H Q E) ⟨g.at_, g.fn, fi f g.at_⟩ (F.raw b .nil) hr tk I2 (.inr hi) r ?_⟩
  rw [List.append_nil]
  exact q2
instance st_callCT {σ : St} {H : Hp} {Q : VK} {E : St → XK} {tf : TE} : Stp (tCallCT C sp E tf t σ H Q) (tf σ H fun y H1 => ∃ a, y = V.ref a ∧ t σ H1 fun vs H2 => (∃ dx fs, H2 a = some (.ins C dx fs)) ∧ sp (V.ref a :: vs) H2 Q (E σ)) := ⟨fun h => h⟩
end
end L2
namespace L2
open PySem PySem.Spec PyProof.Rows
section
variable {σ : St} {H : Hp} {Q : VK} {K : PySem.W.Frag} {tk tv : TE} {a : Addr}
def DcPutN (H : Hp) (D : Addr) (ns : List Int) (i : Nat) (P : List (Int × Addr) → Hp → Prop) (y z : V) (H5 : Hp) : Prop :=
  ∃ kvs k, y = kV k ∧ H5 D = some (.dK kvs) ∧ kvs.length < sizeLine ∧ ∃ es : List (Int × Addr), es.map (·.1) = ns.take (i + 1) ∧ upd H5 D (.dK (putK kvs k z)) D = some (.dK (lnK es)) ∧ Same H (upd H5 D (.dK (putK kvs k z))) ∧ NoT (upd H5 D (.dK (putK kvs k z))) ∧ P es (upd H5 D (.dK (putK kvs k z)))
theorem put_N {D t : Addr} {ns : List Int} {i : Nat} {x : Int} {es : List (Int × Addr)} {P : List (Int × Addr) → Hp → Prop} {H5 : Hp} (nd : ns.Nodup) (few : ns.length < 100000) (hx : ns[i]? = some x) (he : es.map (·.1) = ns.take i) (h1 : H5 D = some (.dK (lnK es))) (hD : H D = none) (h2 : Same H H5) (h3 : NoT H5) (h4 : P (es ++ [(x, t)]) (upd H5 D (.dK (lnK (es ++ [(x, t)]))))) : DcPutN H D ns i P (.int x) (.ref t) H5 := by
  have er : ns.take (i + 1) = ns.take i ++ [x] := by rw [List.take_add_one, hx]; rfl
  have xn : x ∉ es.map (·.1) := fun z => by
    rw [he] at z
    have g := nd
    rw [← List.take_append_drop (i + 1) ns, er, List.append_assoc] at g
    exact (List.nodup_append.mp g).2.2 _ z _ List.mem_cons_self rfl
  have les : es.length < 100000 := by
    have := congrArg List.length he
    rw [List.length_map, List.length_take] at this
    omega
  refine ⟨_, .inl x, rfl, h1, by rw [lnK_len]; exact Nat.lt_trans les (by decide), es ++ [(x, t)], by rw [List.map_append, he, er]; rfl, ?_, same_upd2 h2 hD, NoT.upd h3 rfl, ?_⟩
  · rw [upd_same, lnK_put xn]
  · rw [lnK_put xn]
    exact h4
/-- {x: something made for x in xs} -/
theorem rd_dcLN {ns : List Int} {g : TG} {vs : List Nat} (P : List (Int × Addr) → Hp → Prop) (hS : SqL K H a (ns.map V.int)) (nt : NoT H) (h0 : ∀ D, H D = none → P [] (upd H D (.dK [])))
    (hs : ∀ D i es x G, H D = none → ns[i]? = some x → es.map (·.1) = ns.take i → Same H G → NoT G → G D = some (.dK (lnK es)) → P es G → g (.int x) (wipe σ vs) G fun σ2 H2 => wipe σ2 vs = wipe σ vs ∧ tk σ2 H2 fun y H4 => tv σ2 H4 fun z H5 => DcPutN H D ns i P y z H5)
    (q : ∀ D es G, H D = none → es.map (·.1) = ns → G D = some (.dK (lnK es)) → Same H G → NoT G → P es G → Q (.ref D) G) : dcB (Itl K a) g tYes tk tv vs σ Q H := by
  intro D hD
  refine ⟨fun i m G => m = ns.length - i ∧ i ≤ ns.length ∧ ∃ es : List (Int × Addr), es.map (·.1) = ns.take i ∧ G D = some (.dK (lnK es)) ∧ Same H G ∧ NoT G ∧ P es G, ⟨ns.length, by simp, Nat.zero_le _, [], rfl, upd_same, same_new hD, NoT.upd nt rfl, h0 D hD⟩, ?_⟩
  rintro i m G ⟨rfl, hi, es, he, hG, sm, n, p⟩
  have hS' : SqL K G a (ns.map V.int) := sm.seq hS
  by_cases hlt : i < ns.length
  · have hx : (ns.map V.int)[i]? = some (.int ns[i]) := by simp [hlt]
    refine .inr ⟨⟨_, _, hS', hx⟩, fun G' => ∃ es : List (Int × Addr), es.map (·.1) = ns.take (i + 1) ∧ G' D = some (.dK (lnK es)) ∧ Same H G' ∧ NoT G' ∧ P es G', fun G' e => ⟨ns.length - (i + 1), by omega, rfl, hlt, e⟩, fun x G' y => ?_⟩
    obtain ⟨e, y⟩ := y
    have ex : x = .int ns[i] := Option.some.inj ((y _ hS').symm.trans hx)
    subst ex
    rw [e]
    exact hs D i es ns[i] G hD (by simp [hlt]) he sm n hG p
  · have e : i = ns.length := by omega
    subst e
    rw [List.take_length] at he
    exact .inl ⟨⟨_, hS', by rw [List.length_map]; exact Nat.le_refl _⟩, q D es G hD he hG sm n p⟩
end
end L2
namespace L2
open PySem PySem.Spec PyProof.Rows
section
variable {σ : St} {H : Hp} {Q : VK}
instance st_disp {trs : List (TE × TE)} : Stp (tDisp trs σ H Q) (∀ p, H p = none → tPairs trs σ (upd H p (.dK [])) fun ps H2 => H2 p = some (.dK []) ∧ ∃ kvs : List (Key × V), ps = kvs.map (fun kv => (kV kv.1, kv.2)) ∧ kvs.length ≤ 15 ∧ Q (.ref p) (upd H2 p (.dK (mergeK [] kvs)))) := ⟨fun h => h⟩
instance st_prn {R : List (V × V) → Hp → Prop} : Stp (tPairs [] σ H R) (R [] H) := ⟨fun h => h⟩
instance st_prc {tk tv : TE} {trs : List (TE × TE)} {R : List (V × V) → Hp → Prop} : Stp (tPairs ((tk, tv) :: trs) σ H R) (tk σ H fun k H1 => tv σ H1 fun v H2 => tPairs trs σ H2 fun ps H3 => R ((k, v) :: ps) H3) := ⟨fun h => h⟩
end
theorem merge1 {i : Int} {v : V} : mergeK [] [((Sum.inl i : Key), v)] = [((Sum.inl i : Key), v)] := rfl
end L2
/-! ### zip of two tuples -/
namespace L2
open PySem PySem.Spec PyProof.Rows
section
variable {K : PySem.W.Frag} {a b : Addr} {xs ys : List V}
theorem walk_zipT {n : Nat} (hn : n = min xs.length ys.length) : Walk (RZ.ItzT K a b) n (fun H => SqT K H a xs ∧ SqT K H b ys) (YPair (fun i => xs[i]?) (fun i => ys[i]?)) := by
  subst hn
  refine ⟨fun i _ hi q => ?_, fun _ q => ⟨xs, ys, q.1, q.2, by omega⟩, fun i H v H' _ q y => ?_⟩
  · have h1 : i < xs.length := by omega
    have h2 : i < ys.length := by omega
    exact ⟨xs, ys, xs[i], ys[i], q.1, q.2, by simp [h1], by simp [h2]⟩
  · obtain ⟨T, x, z, h1, h2, h3, h4, h5⟩ := y
    exact ⟨T, x, z, h1, h2, h3, h4 xs q.1, h5 ys q.2⟩
variable {σ : St} {H : Hp} {Q : VK} {tt : TT} {te : TE}
def rZipA (K : PySem.W.Frag) (S : It → Hp → Prop) : List V → Hp → Prop := fun vs H1 => ∃ a b xs ys, vs = [.ref a, .ref b] ∧ ((SqL K H1 a xs ∧ SqL K H1 b ys ∧ S (Itz K a b) H1) ∨ (SqT K H1 a xs ∧ SqT K H1 b ys ∧ S (RZ.ItzT K a b) H1))
instance st_iZipA {ta : TA} {S : It → Hp → Prop} : Stp (RZ.iZipA K ta σ H S) (ta σ H (rZipA K S)) := ⟨fun h => h⟩
theorem rd_zipT {S : It → Hp → Prop} (h1 : SqT K H a xs) (h2 : SqT K H b ys) (q : S (RZ.ItzT K a b) H) : rZipA K S [.ref a, .ref b] H := ⟨a, b, xs, ys, rfl, .inr ⟨h1, h2, q⟩⟩
theorem rd_lcZT {g : TG} {vs : List Nat} (P : Nat → List V → Prop) (hx : SqT K H a xs) (hy : SqT K H b ys) (hl : xs.length = ys.length) (nt : NoT H) (h0 : P 0 [])
    (hs : ∀ D i zs x y T H', xs[i]? = some x → ys[i]? = some y → Same H H' → NoT H' → H D = none → H' D = some (.lst zs) → H' T = some (.tup [x, y]) → P i zs → g (.ref T) (wipe σ vs) H' fun σ2 H2 => wipe σ2 vs = wipe σ vs ∧ tt σ2 H2 fun b H3 =>
      if b = true then te σ2 H3 (fun y H4 => ∃ acc, H4 D = some (.lst acc) ∧ acc.length < sizeLine ∧ ∃ ys, upd H4 D (.lst (acc ++ [y])) D = some (.lst ys) ∧ Same H (upd H4 D (.lst (acc ++ [y]))) ∧ NoT (upd H4 D (.lst (acc ++ [y]))) ∧ P (i + 1) ys)
      else ∃ ys, H3 D = some (.lst ys) ∧ Same H H3 ∧ NoT H3 ∧ P (i + 1) ys)
    (q : ∀ D zs H', H D = none → H' D = some (.lst zs) → Same H H' → NoT H' → P xs.length zs → Q (.ref D) H') : lcB (RZ.ItzT K a b) g tt te vs σ Q H := by
  intro D hD
  refine lc_it (walk_zipT (K := K) (a := a) (b := b) (xs := xs) (ys := ys) (n := xs.length) (by omega)) (fun i H' => ∃ zs, H' D = some (.lst zs) ∧ Same H H' ∧ NoT H' ∧ P i zs) ⟨[], upd_same, same_new hD, NoT.upd nt rfl, h0⟩ (fun i H' _ ⟨_, _, s, _⟩ => ⟨Same.seqT s hx, Same.seqT s hy⟩) ?_ (fun H' ⟨zs, h1, s, n, p⟩ => q D zs H' hD h1 s n p)
  rintro i v H' H'' hi ⟨zs, h1, s, n, p⟩ ⟨T, x, y, rfl, hT, rfl, hx1, hy1⟩
  have ne : D ≠ T := fun z => by
    rw [z, hT] at h1
    exact absurd h1 (by simp)
  exact hs D i zs x y T _ hx1 hy1 (s.trans (same_new hT)) (NoT.upd n rfl) hD (by rw [upd_ne ne]; exact h1) upd_same p
end
end L2
/-! ### a dict of values filled by a loop -/
namespace L2
open PySem PySem.Spec PyProof.Rows
def keyAdd (l : List Int) (i : Int) : List Int := if i ∈ l then l else l ++ [i]
theorem dV_put {f : Int → V} {l : List Int} {i : Int} : putK (dV f l) (.inl i) (f i) = dV f (keyAdd l i) := by
  unfold keyAdd
  by_cases h : i ∈ l
  · rw [if_pos h]
    unfold putK
    rw [if_pos (by rw [valV_any, dV_val, if_pos h]; rfl)]
    unfold dV
    rw [List.map_map]
    refine List.map_congr_left fun e _ => ?_
    by_cases z : e = i <;> simp [z]
  · rw [if_neg h, putK_new _ (by rw [dV_val, if_neg h])]
    unfold dV
    rw [List.map_append]
    rfl
theorem rd_dputV {H : Hp} {a : Addr} {S : Hp → Prop} {f : Int → V} {l : List Int} {i : Int} {v : V} (h : H a = some (.dK (dV f l))) (hl : l.length < 1000000) (e : v = f i) (q : S (upd H a (.dK (dV f (keyAdd l i))))) : rDPutV S (.ref a) (.int i) v H := by
  subst e
  exact rd_dput1 h (by rw [dV_len]; exact Nat.lt_trans hl (by decide)) (by rw [dV_put]; exact q)
end L2
/-! ### a dict comprehension over the items of a locked dict -/
namespace L2
open PySem PySem.Spec PyProof.Rows
section
variable {σ : St} {H : Hp} {Q : VK} {tt : TT} {tk tv : TE}
theorem rd_dcIt {g : TG} {vs : List Nat} {d : Addr} {o : Obj} {kvs : List (Key × V)} (I : Addr → Nat → Hp → Prop) (hd : ∀ D i G, I D i G → G d = some (.frz o (.dK kvs))) (h0 : ∀ D, H D = none → I D 0 (upd H D (.dK [])))
    (hs : ∀ D i k v T G, H D = none → kvs[i]? = some (k, v) → I D i G → G T = none → g (.ref T) (wipe σ vs) (upd G T (.tup [kV k, v])) fun σ2 H2 => wipe σ2 vs = wipe σ vs ∧ tt σ2 H2 fun b H3 =>
      if b = true then tk σ2 H3 fun y H4 => tv σ2 H4 fun z H5 => ∃ kvs' k', y = kV k' ∧ H5 D = some (.dK kvs') ∧ kvs'.length < sizeLine ∧ I D (i + 1) (upd H5 D (.dK (putK kvs' k' z))) else I D (i + 1) H3)
    (q : ∀ D G, H D = none → I D kvs.length G → Q (.ref D) G) : dcB (Iti d o kvs) g tt tk tv vs σ Q H := by
  intro D hD
  refine ⟨fun i m G => m = kvs.length - i ∧ i ≤ kvs.length ∧ I D i G, ⟨_, rfl, Nat.zero_le _, h0 D hD⟩, ?_⟩
  rintro i m G ⟨rfl, hi, hI⟩
  by_cases hlt : i < kvs.length
  · refine .inr ⟨⟨hd D i G hI, hlt⟩, fun G' => I D (i + 1) G', fun G' p => ⟨kvs.length - (i + 1), by omega, rfl, hlt, p⟩, fun x H' y => ?_⟩
    obtain ⟨T, k, v, hk, rfl, hT, rfl⟩ := y
    exact hs D i k v T G hD hk hI hT
  · have e : i = kvs.length := by omega
    subst e
    exact .inl ⟨⟨hd D _ G hI, Nat.le_refl _⟩, q D G hD hI⟩
/-- a lock's walk: the dict stands again as it stood -/
theorem same_unlock {H G : Hp} {d : Addr} {u w : HO} (h : H d = some u) (s : Same (upd H d w) G) : Same H (upd G d u) := fun b o e => by
  by_cases z : b = d
  · subst z
    rw [h] at e
    cases e
    exact upd_same
  · rw [upd_ne z]
    exact s b o (by rw [upd_ne z]; exact e)
end
end L2
namespace L2
open PySem PySem.Spec PyProof.Rows
section
variable {σ : St} {H : Hp} {Q : VK}
def rItemsI (S : It → Hp → Prop) : V → Hp → Prop := fun x H1 => ∃ d o kvs, x = .ref d ∧ H1 d = some (.frz o (.dK kvs)) ∧ S (Iti d o kvs) H1
instance st_iItems {td : TE} {S : It → Hp → Prop} : Stp (iItems td σ H S) (td σ H (rItemsI S)) := ⟨fun h => h⟩
theorem rd_items {S : It → Hp → Prop} {d : Addr} {o : Obj} {kvs : List (Key × V)} (h : H d = some (.frz o (.dK kvs))) (q : S (Iti d o kvs) H) : rItemsI S (.ref d) H := ⟨d, o, kvs, rfl, h, q⟩
end
end L2
/-! ### an entry made anew in its place -/
namespace L2
open PySem PySem.Spec PyProof.Rows
def lnSet (es : List (Int × Addr)) (r : Int) (u : Addr) : List (Int × Addr) := es.map fun e => if e.1 = r then (e.1, u) else e
theorem lnSet_keys {es : List (Int × Addr)} {r : Int} {u : Addr} : (lnSet es r u).map (·.1) = es.map (·.1) := by
  unfold lnSet
  rw [List.map_map]
  refine List.map_congr_left fun e _ => ?_
  by_cases z : e.1 = r <;> simp [z]
theorem lnK_set {es : List (Int × Addr)} {r : Int} {u : Addr} (h : r ∈ es.map (·.1)) : putK (lnK es) (.inl r) (.ref u) = lnK (lnSet es r u) := by
  obtain ⟨_, _, hv⟩ := lnK_some h
  unfold putK
  rw [if_pos (by rw [valV_any, hv]; rfl)]
  unfold lnK lnSet
  rw [List.map_map, List.map_map]
  refine List.map_congr_left fun e _ => ?_
  by_cases z : e.1 = r <;> simp [z]
theorem rd_dputS {H : Hp} {a u : Addr} {S : Hp → Prop} {es : List (Int × Addr)} {r : Int} (h : H a = some (.dK (lnK es))) (hl : es.length < 1000000) (m : r ∈ es.map (·.1)) (q : S (upd H a (.dK (lnK (lnSet es r u))))) : rDPutV S (.ref a) (.int r) (.ref u) H :=
  rd_dput1 h (by rw [lnK_len]; exact Nat.lt_trans hl (by decide)) (by rw [lnK_set m]; exact q)
end L2

namespace L2
open PySem PySem.Spec PyProof.Rows
/-! ### texts -/
section
variable {K : PySem.W.Frag} {σ : St} {H : Hp} {Q : VK} {te : TE} {tt : TT}
/-- a comprehension over a text, sign by sign; each turn only makes new things -/
theorem rd_lcS {z : Str} {g : TG} {vs : List Nat} (P : Nat → List V → Prop) (nt : NoT H) (h0 : P 0 [])
    (hs : ∀ D i ys c H', z.cps.toList[i]? = some c → Same H H' → NoT H' → H D = none → H' D = some (.lst ys) → P i ys → g (.str ⟨#[c]⟩) (wipe σ vs) H' fun σ2 H2 => wipe σ2 vs = wipe σ vs ∧ tt σ2 H2 fun b H3 =>
      if b = true then te σ2 H3 (fun y H4 => ∃ acc, H4 D = some (.lst acc) ∧ acc.length < sizeLine ∧ ∃ ys, upd H4 D (.lst (acc ++ [y])) D = some (.lst ys) ∧ Same H (upd H4 D (.lst (acc ++ [y]))) ∧ NoT (upd H4 D (.lst (acc ++ [y]))) ∧ P (i + 1) ys)
      else ∃ ys, H3 D = some (.lst ys) ∧ Same H H3 ∧ NoT H3 ∧ P (i + 1) ys)
    (q : ∀ D ys H', H D = none → H' D = some (.lst ys) → Same H H' → NoT H' → P z.cps.size ys → Q (.ref D) H') : lcB (Its z) g tt te vs σ Q H := by
  intro D hD
  refine lc_it (walk_str (z := z)) (fun i G => ∃ ys, G D = some (.lst ys) ∧ Same H G ∧ NoT G ∧ P i ys) ⟨[], upd_same, same_new hD, NoT.upd nt rfl, h0⟩ (fun _ _ _ _ => trivial) ?_ fun G ⟨ys, h1, s, n, p⟩ => q D ys G hD h1 s n p
  rintro i x G G' hi ⟨ys, h1, s, n, p⟩ ⟨rfl, c, hc, rfl⟩
  exact hs D i ys c _ (by rw [← hc]; simp) s n hD h1 p
def rIStr (S : It → Hp → Prop) (v : V) (H : Hp) : Prop := ∃ x, v = .str x ∧ S (Its x) H
instance st_iStr {S : It → Hp → Prop} : Stp (iStr te σ H S) (te σ H (rIStr S)) := ⟨fun h => h⟩
instance st_iStr1 {S : It → Hp → Prop} {x : Str} : Stp (rIStr S (.str x) H) (S (Its x) H) := ⟨fun h => ⟨x, rfl, h⟩⟩
theorem rd_slS {z : Str} {lo hi : Option Int} (h : z.length ≤ sizeLine) (q : Q (.str (cutS z lo hi)) H) : rSlS (.str z) lo hi H Q := ⟨z, rfl, h, q⟩
theorem rd_ixS {z : Str} {i : Int} {c : Nat} (h : z.length ≤ sizeLine) (ha : atI z.cps.toList i = some c) (q : Q (.str ⟨#[c]⟩) H) : rIxS (.str z) (.int i) H Q := ⟨z, i, c, rfl, rfl, h, ha, q⟩
/-- int(text) -/
abbrev rIntS : List V → Hp → VK → Prop := fun xs H Q => ∃ a n, xs = [.str a] ∧ PySem.intText? a = some n ∧ a.length ≤ 640 ∧ Q (.int n) H
theorem c_intS {X : Cx} : CallR X (.type "int") rIntS := call_int_str
theorem rd_intS {a : Str} {n : Int} (h : PySem.intText? a = some n) (l : a.length ≤ 640) (q : Q (.int n) H) : rIntS [.str a] H Q := ⟨a, n, rfl, h, l, q⟩
theorem inV_strs {x : Str} : ∀ {ws : List Str}, inV (.str x) (ws.map V.str) = decide (x ∈ ws)
  | [] => by simp [inV]
  | w :: ws => by
    have ih := inV_strs (x := x) (ws := ws)
    unfold inV at ih ⊢
    rw [List.map_cons, List.any_cons, ih, show eqV (V.str w) (V.str x) = (w == x) from rfl, Bool.eq_iff_iff, Bool.or_eq_true, beq_iff_eq, decide_eq_true_iff, decide_eq_true_iff, List.mem_cons]
    exact ⟨fun h => h.imp Eq.symm id, fun h => h.imp Eq.symm id⟩
theorem rd_inTw {p : Addr} {x : Str} {ws : List Str} (h : SqT K H p (ws.map V.str)) (q : Q (.bl (decide (x ∈ ws))) H) : rIn K false (.str x) (.ref p) H Q :=
  ⟨p, ws.map V.str, rfl, .inr h, rfl, flat_strs ws, by rw [inV_strs]; exact q⟩
theorem rd_ninTw {p : Addr} {x : Str} {ws : List Str} (h : SqT K H p (ws.map V.str)) (q : Q (.bl (!decide (x ∈ ws))) H) : rIn K true (.str x) (.ref p) H Q :=
  ⟨p, ws.map V.str, rfl, .inr h, rfl, flat_strs ws, by rw [inV_strs]; exact q⟩
/-- sign in text -/
def rInSg : R2 := fun x y H Q => ∃ (c : Nat) (z : Str), x = .str ⟨#[c]⟩ ∧ y = .str z ∧ Q (.bl (decide (c ∈ z.cps.toList))) H
theorem op_inSg {X : Cx} : OpR X (compareOp .In) rInSg := op_in_sign
theorem rd_inSg {c : Nat} {z : Str} (q : Q (.bl (decide (c ∈ z.cps.toList))) H) : rInSg (.str ⟨#[c]⟩) (.str z) H Q := ⟨c, z, rfl, rfl, q⟩
instance st_inSg {c : Nat} {z : Str} : Stp (rInSg (.str ⟨#[c]⟩) (.str z) H Q) (Q (.bl (decide (c ∈ z.cps.toList))) H) := ⟨fun h => rd_inSg h⟩
/-- text.split(text) -/
abbrev rSplit : V → List V → Hp → VK → Prop := fun x xs H Q => ∃ a b, x = .str a ∧ xs = [.str b] ∧ (b.length == 0) = false ∧ a.length + 2 ≤ sizeLine ∧ rNewStrs (Txt.split a b) H Q
theorem rd_split {a b : Str} (h1 : (b.length == 0) = false) (h2 : a.length + 2 ≤ sizeLine) (q : ∀ p, H p = none → Q (.ref p) (upd H p (.lst ((Txt.split a b).map V.str)))) : rSplit (.str a) [.str b] H Q := ⟨a, b, rfl, rfl, h1, h2, q⟩
end
theorem sub_strT {K : PySem.W.Frag} {C : Addr} : PySem.W.subIn K (.type "str") (.ref C) = some false := rfl
/-- a text is no instance of an own class -/
theorem kit_strT {K : PySem.W.Frag} {C : Addr} (h1 : PySem.W.isClsIn K C = true) (h2 : PySem.W.typeIn K (.ref C) = some (.type "type")) : PySem.W.kitOne K (.type "str") (.ref C) = some false := by
  have e : ((PySem.W.clsIn K C).isSome && PySem.W.typeIn K (.ref C) == some (.type "type")) = true := by
    rw [show (PySem.W.clsIn K C).isSome = true from h1, h2]
    rfl
  show (if (Value.type "str" == Value.ref C) = true then some true else if ((PySem.W.clsIn K C).isSome && PySem.W.typeIn K (.ref C) == some (.type "type")) = true then PySem.W.subIn K (.type "str") (.ref C) else none) = some false
  rw [if_neg (by intro z; cases z), if_pos e]
  exact sub_strT
theorem notFirst_strT {K : PySem.W.Frag} {C : Addr} : PySem.W.notFirst K C (.type "str") = true := by
  unfold PySem.W.notFirst
  rw [sub_strT]
  rfl
end L2

namespace L2
open PySem PySem.Spec PyProof.Rows
/-! a text of one sign, some times over -/
def repS (z : Str) (n : Nat) : Str := ⟨(List.replicate n z.cps).foldl (· ++ ·) #[]⟩
theorem repS_list {z : Str} : ∀ n : Nat, (repS z n).cps.toList = (List.replicate n z.cps.toList).flatten := by
  have h : ∀ (n : Nat) (a : Array Nat), ((List.replicate n z.cps).foldl (· ++ ·) a).toList = a.toList ++ (List.replicate n z.cps.toList).flatten := fun n => by
    induction n with
    | zero => intro a; simp
    | succ n ih =>
      intro a
      rw [List.replicate_succ, List.foldl_cons, ih, List.replicate_succ, List.flatten_cons, Array.toList_append, List.append_assoc]
  intro n
  exact (h n #[]).trans (List.nil_append _)
theorem repS_len {z : Str} (n : Nat) : (repS z n).length = n * z.length := by
  have h := congrArg List.length (repS_list (z := z) n)
  have r : ∀ (n k : Nat), (List.replicate n k).sum = n * k := fun n k => by
    induction n with
    | zero => simp
    | succ n ih => rw [List.replicate_succ, List.sum_cons, ih, Nat.succ_mul]; omega
  rw [List.length_flatten, List.map_replicate, r] at h
  simpa [Str.length] using h
def rRepS : R2 := fun x y H Q => ∃ z n, x = .str z ∧ y = .int n ∧ 2 ≤ n ∧ n ≤ 100000 ∧ z.length = 1 ∧ Q (.str (repS z n.toNat)) H
theorem op_repS {X : Cx} : OpR X (binaryOp .Mult) rRepS := by
  intro pins s σ H x y v u Q I rx ry h
  obtain ⟨z, n, rfl, rfl, h1, h2, hz, q⟩ := h
  obtain ⟨t, rfl⟩ := rx
  obtain ⟨t', rfl⟩ := ry
  have e : (n == 1 || z.length == 0) = false := by
    rw [hz]
    simp
    omega
  refine P.mul_str ?_ (fun _ _ => ?_) (fun _ _ => ?_) ?_
  · rw [decide_eq_false (show ¬ n < -(2 ^ 63 : Int) by omega), decide_eq_false (show ¬ n ≥ 2 ^ 63 by omega)]
    rfl
  · rw [hz]
    have : 1 ≤ (2 ^ 63 - 1 : Int) / n := Int.le_ediv_of_mul_le (by omega) (by omega)
    omega
  · rw [hz, Nat.one_mul]
    exact decide_eq_false (by
      have : (100000 : Nat) ≤ sizeLine := by decide
      omega)
  · rw [if_neg (by omega), if_neg (by rw [e]; exact Bool.false_ne_true)]
    refine ⟨?_, .str _, H, I.tok _, ⟨_, rfl⟩, q⟩
    have l := repS_len (z := z) n.toNat
    rw [hz] at l
    have : (100000 : Nat) ≤ sizeLine := by decide
    show (repS z n.toNat).length ≤ sizeLine
    omega
theorem rd_repS {z : Str} {n : Int} {H : Hp} {Q : VK} (h1 : 2 ≤ n) (h2 : n ≤ 100000) (hz : z.length = 1) (q : Q (.str (repS z n.toNat)) H) : rRepS (.str z) (.int n) H Q := ⟨z, n, rfl, rfl, h1, h2, hz, q⟩
end L2

namespace My
open PySem PySem.Spec PyProof.Rows L2
/-! one step of a reading, by its head -/
local macro_rules | `(tactic| wtm_at "r") => `(tactic| first
  | (with_reducible refine rd_var rfl ?_)
  | (with_reducible refine Stp.mp ?_)
  | (with_reducible first
    | refine rd_I ?_ ?_
    | refine rd_augC rfl ?_
    | refine rd_augG rfl ?_
    | refine rd_r1 ?_ ?_ ?_
    | refine rd_r2 ?_ ?_
    | refine rd_pure ?_ ?_
    | refine rd_pureT ?_ ?_
    | refine rd_back (by assumption) ?_
    | fail)
  | fail)
/-! branch -/
local macro_rules | `(tactic| wtm_at "i") => `(tactic| (with_reducible first
  | refine rd_ite (fun _ => ?_) (fun _ => ?_)
  | refine rd_iteN (fun _ => ?_) (fun _ => ?_)
  | refine rd_iteb (fun _ => ?_) (fun _ => ?_)))
/-! the view of the heap (PreS): membership -/
local macro_rules | `(tactic| wtm_at "mem") => `(tactic| first
  | (with_reducible exact List.mem_cons_self)
  | ((with_reducible refine List.mem_cons_of_mem _ ?_); wtm_at "mem")
  | fail)
local macro_rules | `(tactic| wtm_at "vsub") => `(tactic| first
  | (with_reducible exact sub_nil)
  | ((with_reducible refine sub_cons ?h1 ?h2); (case h1 => wtm_at "mem"); (case h2 => wtm_at "vsub"))
  | fail)
/-! where something stands in the heap; two places differ -/
local macro_rules | `(tactic| wtm_at "ne") => `(tactic| with_reducible first
  | assumption
  | exact Ne.symm (by assumption)
  | exact ne_of_none (by assumption) (by assumption)
  | exact Ne.symm (ne_of_none (by assumption) (by assumption))
  | fail)
local macro_rules | `(tactic| wtm_at "h") => `(tactic| first
  | with_reducible assumption
  | with_reducible exact upd_same
  | ((with_reducible rw [upd_upd]); wtm_at "h")
  | ((with_reducible refine upd_at ?h1 ?h2); (case h1 => wtm_at "h"); (case h2 => intro hh; first | with_reducible exact ne_of_none hh (by assumption) | wtm_at "ne" | fail))
  | (with_reducible exact Hv.mAt (by assumption) (by wtm_at "mem"))
  | (with_reducible exact Hv.lAt (by assumption) (by wtm_at "mem"))
  | (with_reducible exact Hv.oAt (by assumption) (by assumption))
  | (with_reducible exact Hv.oAtX (by assumption) (by assumption) (by wtm_at "ne"))
  | fail)
/-! what was tracked stands -/
local macro_rules | `(tactic| wtm_at "sm") => `(tactic| first
  | with_reducible assumption
  | (with_reducible exact Same.refl _)
  | ((with_reducible refine same_upd3 ?_ (by with_reducible assumption)); wtm_at "sm")
  | ((with_reducible refine same_upd2 ?_ (by with_reducible assumption)); wtm_at "sm")
  | (refine same_upd2 ?_ (by first | with_reducible assumption | (refine Same.free ?_ (by with_reducible assumption); wtm_at "sm") | fail); wtm_at "sm")
  | (refine Same.trans ?_ (by with_reducible assumption); wtm_at "sm")
  | (refine Same.trans (by with_reducible assumption) ?_; wtm_at "sm")
  | (with_reducible exact Hv.same (by assumption))
  | fail)
local macro_rules | `(tactic| wtm_at "q") => `(tactic| first
  | with_reducible assumption
  | ((with_reducible refine SqL.of ?h1); (case h1 => wtm_at "h"))
  | ((with_reducible refine SqT.of ?h1); (case h1 => wtm_at "h"))
  | ((with_reducible refine Same.seq ?_ (by assumption)); wtm_at "sm")
  | ((with_reducible refine Same.seqT ?_ (by assumption)); wtm_at "sm")
  | ((with_reducible refine Same.lst ?_ (by assumption)); wtm_at "sm")
  | assumption
  | fail)
/-! data, read off the heap -/
local macro_rules | `(tactic| wtm_at "dp") => `(tactic| first
  | with_reducible assumption
  | exact Dp.int _
  | exact Dp.bl _
  | exact Dp.str _
  | exact Dp.non
  | exact DpAll.nil
  | (with_reducible exact dpAll_ints _)
  | (with_reducible exact dpAll_bls _)
  | ((with_reducible refine DpAll.cons (d := ?d) (ds := ?ds) ?h1 ?h2); (case h1 => wtm_at "dp"); (case h2 => wtm_at "dp"))
  | ((with_reducible refine Dp.lst (xs := ?xs) (ds := ?ds) ?h1 ?h2); (case h1 => wtm_at "q"); (case h2 => wtm_at "dp"))
  | ((with_reducible refine Dp.tup (xs := ?xs) (ds := ?ds) ?h1 ?h2); (case h1 => wtm_at "q"); (case h2 => wtm_at "dp"))
  | ((with_reducible refine Dp.same ?_ (by assumption)); wtm_at "sm")
  | fail)
/-! no dict with tuple keys -/
local macro_rules | `(tactic| wtm_at "nt") => `(tactic| first
  | with_reducible assumption
  | ((with_reducible refine NoT.upd ?_ rfl); wtm_at "nt")
  | (with_reducible exact Hv.nt (by assumption))
  | fail)
/-! what is asked on the side -/
local macro_rules | `(tactic| wtm_at "s") => `(tactic| first
  | ((with_reducible show NoT _); wtm_at "nt")
  | ((with_reducible show (_ : Int) < _); omega)
  | ((with_reducible show CMulB _ _); assumption)
  | ((with_reducible show CMulB _ _); exact Or.inl (Or.inl ⟨by omega, by omega⟩))
  | ((with_reducible show CMulB _ _); exact Or.inl (Or.inr ⟨by omega, by omega⟩))
  | ((with_reducible show CMulB _ _); exact CMulB.wide ⟨by omega, by omega⟩ ⟨by omega, by omega⟩)
  | ((with_reducible show CDivB _ _); exact ⟨by omega, by omega⟩)
  | ((with_reducible refine rd_powN ?h1 ?h2 ?h3 ?_); (case h1 => rfl); (case h2 => decide); (case h3 => first | decide | omega))
  | ((with_reducible refine rd_setL (xs := ?xs) (j := ?j) ?h1 ?h2 ?_); (case h1 => wtm_at "h"); (case h2 => rfl))
  | ((with_reducible refine rd_ixL (xs := ?xs) (v := ?v) ?h1 ?h2 ?_); (case h1 => wtm_at "q"); (case h2 => rfl))
  | ((with_reducible refine rd_ixT (xs := ?xs) (v := ?v) ?h1 ?h2 ?_); (case h1 => wtm_at "q"); (case h2 => rfl))
  | ((with_reducible show -2 ^ 62 ≤ (_ : Int)); omega)
  | ((with_reducible show (_ : Int) ≤ _); omega)
  | ((with_reducible show (_ : Int) ≤ _ ∧ _); exact ⟨by omega, by omega, by omega, by omega⟩)
  | ((with_reducible refine rd_iL1 (xs := ?xs) ?h1 ?_); (case h1 => wtm_at "q"))
  | ((with_reducible refine rd_iT1 (xs := ?xs) ?h1 ?_); (case h1 => wtm_at "q"))
  | ((with_reducible refine rd_eqD (d := ?d) (e := ?e) ?h1 ?h2 ?h3 ?h4 ?_); (case h1 => wtm_at "dp"); (case h2 => wtm_at "dp"); (case h3 => rfl); (case h4 => rfl))
  | ((with_reducible refine rd_neD (d := ?d) (e := ?e) ?h1 ?h2 ?h3 ?h4 ?_); (case h1 => wtm_at "dp"); (case h2 => wtm_at "dp"); (case h3 => rfl); (case h4 => rfl))
  | ((with_reducible refine rd_xfb (fs := ?fs) (v := ?v) ?h1 ?h2 ?_); (case h1 => wtm_at "h"); (case h2 => rfl))
  | ((with_reducible refine rd_append (xs := ?xs) ?h1 ?h2 ?_); (case h1 => wtm_at "h"); (case h2 => first | assumption | exact Nat.le_of_ble_eq_true rfl | (refine Nat.lt_of_le_of_lt (m := 1000000) ?_ (by decide); omega)))
  | ((with_reducible refine rd_lenL (ys := ?ys) ?h1 ?_); (case h1 => wtm_at "q"))
  | ((with_reducible refine rd_lenT (ys := ?ys) ?h1 ?_); (case h1 => wtm_at "q"))
  | ((with_reducible refine rd_new ?h1 ?_); (case h1 => exact Nat.le_of_ble_eq_true rfl); intro p hp)
  | ((with_reducible refine rd_tyL (xs := ?xs) ?h1 ?_); (case h1 => wtm_at "h"))
  | ((with_reducible refine rd_gtup (xs := ?xs) ?h1 ?h2 ?_); (case h1 => wtm_at "q"); (case h2 => rfl))
  | ((with_reducible refine rd_unl (xs := ?xs) ?h1 ?h2 ?_); (case h1 => wtm_at "q"); (case h2 => rfl))
  | ((with_reducible refine rd_slL (xs := ?xs) ?h1 ?_); (case h1 => wtm_at "q"); intro p hp)
  | ((with_reducible refine rd_cat (xs := ?xs) (zs := ?zs) ?h1 ?h2 ?h3 ?_); (case h1 => wtm_at "h"); (case h2 => wtm_at "h"); (case h3 => first | assumption | exact Nat.le_of_ble_eq_true rfl); intro p hp)
  | ((with_reducible refine rd_isiL (xs := ?xs) ?h1 ?_); (case h1 => wtm_at "h"))
  | ((with_reducible refine rd_isiT (xs := ?xs) ?h1 ?_); (case h1 => wtm_at "h"))
  | ((with_reducible refine rd_mk1 ?h1 ?h2 ?_); (case h1 => rfl); (case h2 => decide)))
local macro_rules | `(tactic| wtm_at "s") => `(tactic| first
  | ((with_reducible refine rd_neF ?h1 ?_); (case h1 => first | with_reducible rfl | assumption | fail))
  | ((with_reducible refine rd_eqT ?h1 ?_); (case h1 => first | with_reducible rfl | assumption | fail))
  | ((with_reducible refine rd_neT ?h1 ?_); (case h1 => first | assumption | exact non_int | exact non_ref | exact Bool.false_ne_true | exact Bool.false_ne_true.symm | fail))
  | ((with_reducible refine rd_eqF ?h1 ?_); (case h1 => first | assumption | exact non_int | exact non_ref | exact Bool.false_ne_true | exact Bool.false_ne_true.symm | fail))
  | fail)
local macro_rules | `(tactic| wtm_at "bd") => `(tactic| first
  | with_reducible assumption
  | exact Bd.mono (by with_reducible assumption) (by decide)
  | exact Bd.lit (by decide) (by decide)
  | ((with_reducible refine Bd.mulN ?_ ?_) <;> wtm_at "bd")
  | ((with_reducible refine Bd.addN ?h1 ?h2 ?h3); (case h1 => wtm_at "bd"); (case h2 => wtm_at "bd"); (case h3 => decide))
  | ((with_reducible refine Bd.subN ?h1 ?h2 ?h3); (case h1 => wtm_at "bd"); (case h2 => wtm_at "bd"); (case h3 => decide))
  | ((with_reducible refine Bd.neg ?h1); (case h1 => wtm_at "bd"))
  | fail)
local macro_rules | `(tactic| wtm_at "s") => `(tactic| first
  | ((with_reducible refine rd_fld1 (dx := ?dx) (fs := ?fs) (v := ?v) ?h1 ?h2 ?_); (case h1 => wtm_at "h"); (case h2 => rfl))
  | ((with_reducible refine rd_meth1 (dx := ?dx) (fs := ?fs) ?h1 ?h2 ?_); (case h1 => wtm_at "h"); (case h2 => rfl))
  | ((with_reducible refine rd_sfld1 (dx := ?dx) (fs := ?fs) ?h1 ?h2 ?_); (case h1 => wtm_at "h"); (case h2 => exact Nat.le_of_ble_eq_true rfl))
  | ((with_reducible refine rd_fmtI ?h1 ?_); (case h1 => exact Nat.lt_trans (txI_len (n := 1000) (by wtm_at "bd") (Nat.le_refl _)).2 (by decide)))
  | ((with_reducible refine rd_strI ?h1 ?_); (case h1 => exact Nat.lt_trans (txI_len (n := 1000) (by wtm_at "bd") (Nat.le_refl _)).2 (by decide)))
  | ((with_reducible refine rd_eqInts (ns := ?ns) (ms := ?ms) ?h1 ?h2 ?_); (case h1 => wtm_at "q"); (case h2 => wtm_at "q"))
  | ((with_reducible refine rd_neInts (ns := ?ns) (ms := ?ms) ?h1 ?h2 ?_); (case h1 => wtm_at "q"); (case h2 => wtm_at "q"))
  | ((with_reducible refine rd_listOfL (ys := ?ys) ?h1 ?_); (case h1 => wtm_at "q"); intro l hl)
  | ((with_reducible refine rd_revV (xs := ?xs) ?h1 ?_); (case h1 => wtm_at "q"); intro p hp)
  | ((with_reducible refine rd_iRev1 (xs := ?xs) ?h1 ?_); (case h1 => wtm_at "q"))
  | ((with_reducible refine rd_callO2 (dx := ?dx) (fs := ?fs) ?h1 ?_); (case h1 => wtm_at "h"))
  | ((with_reducible show CMulB _ _); refine CMulB.bd ?_ ?_ <;> wtm_at "bd")
  | fail)
local macro_rules | `(tactic| wtm_at "s") => `(tactic| first
  | ((with_reducible refine rd_dinF (ks := ?ks) ?h1 ?_); (case h1 => wtm_at "h"))
  | ((with_reducible refine rd_dnotinF (ks := ?ks) ?h1 ?_); (case h1 => wtm_at "h"))
  | ((with_reducible refine rd_listF (ks := ?ks) ?h1 ?_); (case h1 => wtm_at "h"); intro l hl)
  | ((with_reducible refine rd_sortedI (ns := ?ns) ?h1 ?_); (case h1 => wtm_at "q"))
  | fail)
local macro_rules | `(tactic| wtm_at "tp") => `(tactic| first
  | ((with_reducible refine rd_tupL (ys := ?ys) ?h1 ?_); (case h1 => wtm_at "q"); intro l hl)
  | ((with_reducible refine rd_tupT (ys := ?ys) ?h1 ?_); (case h1 => wtm_at "q"))
  | fail)
/-! a test that omega answers -/
local macro_rules | `(tactic| wtm_at "o") => `(tactic| first
  | ((with_reducible refine rd_neF ?h1 ?_); (case h1 => omega))
  | ((with_reducible refine rd_eqT ?h1 ?_); (case h1 => omega))
  | ((with_reducible refine rd_neT ?h1 ?_); (case h1 => omega))
  | ((with_reducible refine rd_eqF ?h1 ?_); (case h1 => omega))
  | fail)
/-! steps while there is one way -/
local macro_rules | `(tactic| wtm_at "rs") => `(tactic| repeat' (first | wtm_at "r" | wtm_at "s" | fail))
/-! all ways -/
local macro_rules | `(tactic| wtm_at "ra") => `(tactic| repeat' (first | wtm_at "r" | wtm_at "s" | wtm_at "i" | fail))
local macro_rules | `(tactic| wtm_at "ro") => `(tactic| repeat' (first | wtm_at "r" | wtm_at "s" | wtm_at "o" | fail))
local macro_rules | `(tactic| wtm_at "rao") => `(tactic| repeat' (first | wtm_at "r" | wtm_at "s" | wtm_at "o" | wtm_at "i" | fail))

/-! ## mathematics -/
/-! part m_split -/
open PySem.StrLaws PySem.Builtin PySem.Builtin.Str in
theorem occ_all (x : Str) (c : Nat) : ∀ (n a : Nat) (st : Array Nat × Nat), st.snd ≤ a → st.fst.size ≤ a → a + n ≤ x.length + 1 →
    (forIn (List.range' a n) st (occBody x ⟨#[c]⟩ x.length (x.length + 1))).run.fst.toList = st.fst.toList ++ (List.range' a n).filter fun i => decide (x.cps.toList[i]? = some c)
  | 0, a, st, _, _, _ => by simp
  | n + 1, a, st, h1, h2, h3 => by
    have hl : x.cps.toList.length = x.length := by simp [Str.length]
    rw [List.range'_succ, List.forIn_cons]
    unfold occBody
    by_cases h : x.cps.toList[a]? = some c
    · have hlt := (List.getElem?_eq_some_iff.mp h).1
      have hs : subAt x ⟨#[c]⟩ a = true := ((subAt_one x c a).mpr h).2
      rw [if_pos ⟨⟨⟨by omega, h1⟩, by show a + 1 ≤ x.length; omega⟩, hs⟩, List.filter_cons_of_pos (by simpa using h)]
      refine (occ_all x c n (a + 1) (st.fst.push a, a + 1) (Nat.le_refl _) (by simpa using h2) (by omega)).trans ?_
      simp
    · rw [if_neg fun z => h ((subAt_one x c a).mp ⟨z.1.2, z.2⟩), List.filter_cons_of_neg (by simpa using h)]
      exact occ_all x c n (a + 1) st (by omega) (by omega) (by omega)
/-- a text, cut at its blanks -/
def cutB : List Nat → List (List Nat)
  | [] => [[]]
  | c :: cs => if c = 32 then [] :: cutB cs else match cutB cs with
    | p :: ps => (c :: p) :: ps
    | [] => [[c]]
theorem cutB_ne : ∀ cs, ∃ p ps, cutB cs = p :: ps
  | [] => ⟨_, _, rfl⟩
  | c :: cs => by
    obtain ⟨p, ps, e⟩ := cutB_ne cs
    rw [cutB, e]
    split <;> exact ⟨_, _, rfl⟩
theorem cutB_word : ∀ {w : List Nat}, 32 ∉ w → cutB w = [w]
  | [], _ => rfl
  | c :: w, h => by
    rw [cutB, if_neg fun e => h (by rw [e]; exact List.mem_cons_self), cutB_word fun z => h (List.mem_cons_of_mem _ z)]
theorem cutB_glue : ∀ {w : List Nat} {r : List Nat}, 32 ∉ w → cutB (w ++ 32 :: r) = w :: cutB r
  | [], r, _ => by
    show cutB (32 :: r) = _
    rw [cutB, if_pos rfl]
  | c :: w, r, h => by
    show cutB (c :: (w ++ 32 :: r)) = _
    rw [cutB, if_neg fun e => h (by rw [e]; exact List.mem_cons_self), cutB_glue fun z => h (List.mem_cons_of_mem _ z)]
def mkS (l : List Nat) : Str := ⟨l.toArray⟩
def blanks (l : List Nat) (a : Nat) : List Nat := (List.range' a (l.length - a)).filter fun i => decide (l[i]? = some 32)
open PySem.StrLaws PySem.Builtin PySem.Builtin.Str in
theorem sub_eq (x : Str) (i j : Nat) : strSub x i j = mkS ((x.cps.toList.drop i).take (j - i)) := by
  apply Str.ext'
  apply Array.toList_inj.mp
  rw [strSub_toList]
  rfl
open PySem.StrLaws PySem.Builtin PySem.Builtin.Str in
theorem parts_cutB (x : Str) : ∀ n a, n = x.cps.toList.length - a → a ≤ x.cps.toList.length → partsFrom x 1 a (blanks x.cps.toList a) = (cutB (x.cps.toList.drop a)).map mkS
  | 0, a, hn, ha => by
    have hl : x.cps.toList.length = x.length := by simp [Str.length]
    have e : a = x.cps.toList.length := by omega
    have eb : blanks x.cps.toList a = [] := by
      unfold blanks
      rw [← hn]
      rfl
    rw [eb, partsFrom, sub_eq, e, List.drop_length]
    simp [cutB]
  | n + 1, a, hn, ha => by
    have hl : x.cps.toList.length = x.length := by simp [Str.length]
    have hlt : a < x.cps.toList.length := by omega
    have ih := parts_cutB x n (a + 1) (by omega) (by omega)
    have ed : x.cps.toList.drop a = x.cps.toList[a] :: x.cps.toList.drop (a + 1) := List.drop_eq_getElem_cons hlt
    have er : List.range' a (x.cps.toList.length - a) = a :: List.range' (a + 1) (x.cps.toList.length - (a + 1)) := by
      rw [show x.cps.toList.length - a = (x.cps.toList.length - (a + 1)) + 1 by omega, List.range'_succ]
    have eg : x.cps.toList[a]? = some x.cps.toList[a] := List.getElem?_eq_getElem hlt
    by_cases hc : x.cps.toList[a] = 32
    · have eb : blanks x.cps.toList a = a :: blanks x.cps.toList (a + 1) := by
        unfold blanks
        rw [er, List.filter_cons_of_pos (by rw [eg, hc]; simp)]
      rw [eb, partsFrom, ih, ed, cutB, if_pos hc, sub_eq, Nat.sub_self, List.take_zero]
      rfl
    · have eb : blanks x.cps.toList a = blanks x.cps.toList (a + 1) := by
        unfold blanks
        rw [er, List.filter_cons_of_neg (by rw [eg]; simpa using hc)]
      rw [eb, ed, cutB, if_neg hc]
      have hge : ∀ d ∈ blanks x.cps.toList (a + 1), a + 1 ≤ d := fun d hd => by
        have := List.mem_range'_1.mp (List.mem_filter.mp hd).1
        omega
      have take1 : ∀ d, a + 1 ≤ d → strSub x a d = mkS (x.cps.toList[a] :: (x.cps.toList.drop (a + 1)).take (d - (a + 1))) := fun d h => by
        rw [sub_eq, ed, show d - a = (d - (a + 1)) + 1 by omega, List.take_succ_cons]
      generalize blanks x.cps.toList (a + 1) = cuts at *
      obtain ⟨p, ps, e⟩ := cutB_ne (x.cps.toList.drop (a + 1))
      rw [e] at ih ⊢
      cases cuts with
      | nil =>
        rw [partsFrom, sub_eq] at ih
        rw [partsFrom, take1 _ (by omega)]
        injection ih with h1 h2
        have h1 : (x.cps.toList.drop (a + 1)).take (x.length - (a + 1)) = p := by
          have := congrArg (fun z : Str => z.cps.toList) h1
          simpa [mkS] using this
        show [_] = mkS _ :: ps.map mkS
        rw [h1, ← h2]
      | cons d r =>
        rw [partsFrom, sub_eq] at ih
        rw [partsFrom, take1 _ (hge d List.mem_cons_self)]
        injection ih with h1 h2
        have h1 : (x.cps.toList.drop (a + 1)).take (d - (a + 1)) = p := by
          have := congrArg (fun z : Str => z.cps.toList) h1
          simpa [mkS] using this
        show _ :: _ = mkS _ :: ps.map mkS
        rw [h1, h2]
theorem mkS_cps (x : Str) : mkS x.cps.toList = x := by
  apply Str.ext'
  simp [mkS]
open PySem.StrLaws PySem.Builtin PySem.Builtin.Str in
theorem split_cutB (x : Str) : Txt.split x " " = (cutB x.cps.toList).map mkS := by
  have hl : x.cps.toList.length = x.length := by simp [Str.length]
  have hsp : (" " : Str) = ⟨#[32]⟩ := by decide +kernel
  have eo : occurrences x (" " : Str) 0 x.length (x.length + 1) = blanks x.cps.toList 0 := by
    rw [occ_eq, hsp]
    refine (occ_all x 32 (x.length + 1 - 0) 0 (#[], 0) (Nat.le_refl _) (Nat.le_refl _) (by omega)).trans ?_
    unfold blanks
    rw [hl, Nat.sub_zero, Nat.sub_zero, List.range'_concat, List.filter_append]
    have : x.cps.toList[x.length]? = none := List.getElem?_eq_none (by omega)
    simp only [List.filter_cons, List.filter_nil, Nat.zero_add, Nat.one_mul, this]
    simp
  have ep := parts_cutB x (x.cps.toList.length - 0) 0 rfl (Nat.zero_le _)
  rw [List.drop_zero] at ep
  have one : partsFrom x 1 0 [] = [x] := by
    rw [partsFrom, sub_eq, List.drop_zero, Nat.sub_zero, ← hl, List.take_length, mkS_cps]
  unfold Txt.split
  rw [eo]
  have k1 : PySem.Builtin.Str.strKind (" " : Str) = 1 := by decide +kernel
  have k2 : 1 ≤ PySem.Builtin.Str.strKind x := by
    unfold PySem.Builtin.Str.strKind
    split
    · exact Nat.le_refl _
    · split <;> omega
  have l1 : (" " : Str).length = 1 := by decide +kernel
  by_cases h0 : x.length < 1
  · rw [if_pos (by rw [l1, decide_eq_true h0]; rfl)]
    have e : x.cps.toList = [] := List.eq_nil_of_length_eq_zero (by omega)
    have e2 := mkS_cps x
    rw [e] at e2 ⊢
    rw [cutB, List.map_singleton, e2]
  · rw [if_neg (by rw [l1, k1, decide_eq_false h0, decide_eq_false (by omega)]; decide)]
    split
    · rename_i he
      have : blanks x.cps.toList 0 = [] := List.isEmpty_iff.mp he
      rw [this, one] at ep
      exact ep
    · rw [partsBetween_eq, l1]
      exact ep
theorem cutB_join : ∀ {ws : List Str}, ws ≠ [] → (∀ w ∈ ws, 32 ∉ w.cps.toList) → cutB (Str.join " " ws).cps.toList = ws.map fun w => w.cps.toList
  | [], h, _ => absurd rfl h
  | [w], _, h => by
    rw [Str.join]
    exact cutB_word (h w List.mem_cons_self)
  | w :: v :: ws, _, h => by
    have ih := cutB_join (ws := v :: ws) (by simp) fun u hu => h u (List.mem_cons_of_mem _ hu)
    rw [show Str.join " " (w :: v :: ws) = w ++ (" " : Str) ++ Str.join " " (v :: ws) from rfl]
    rw [show (w ++ (" " : Str) ++ Str.join " " (v :: ws)).cps.toList = w.cps.toList ++ 32 :: (Str.join " " (v :: ws)).cps.toList by
      rw [Str.cps_append, Str.cps_append, Array.toList_append, Array.toList_append, show (" " : Str).cps.toList = [32] by decide +kernel, List.append_assoc]
      rfl]
    rw [cutB_glue (h w List.mem_cons_self), ih]
    rfl
/-- words that are joined and cut again -/
theorem split_join {ws : List Str} (h : ws ≠ []) (hw : ∀ w ∈ ws, 32 ∉ w.cps.toList) : Txt.split (Txt.join " " ws) " " = ws := by
  rw [split_cutB, show Txt.join (" " : Str) ws = Str.join " " ws from PySem.StrLaws.glued_eq_join _ _, cutB_join h hw, List.map_map]
  exact (List.map_congr_left fun w _ => mkS_cps w).trans (List.map_id _)
/-! part m_prime -/
namespace QR
def Pm (p : Int) : Prop := 2 ≤ p ∧ ∀ d : Int, 2 ≤ d → d < p → ¬ d ∣ p
theorem split_le {n d e : Int} (h2 : 2 ≤ d) (hdn : d < n) (he : n = d * e) : (d * d ≤ n ∨ e * e ≤ n) ∧ 2 ≤ e := by
  have e0 : 2 ≤ e := by
    rcases Int.lt_or_le e 2 with z | z
    · exfalso
      have : d * e ≤ d * 1 := Int.mul_le_mul_of_nonneg_left (by omega) (by omega)
      omega
    · exact z
  refine ⟨?_, e0⟩
  rcases Int.le_total d e with z | z
  · left
    have : d * d ≤ d * e := Int.mul_le_mul_of_nonneg_left z (by omega)
    omega
  · right
    have : e * e ≤ d * e := Int.mul_le_mul_of_nonneg_right z (by omega)
    omega
theorem pm_of_trial {n k : Int} (h2 : 2 ≤ n) (hk0 : 0 ≤ k) (hk : n < k * k) (h : ∀ d : Int, 2 ≤ d → d < k → ¬ d ∣ n) : Pm n := by
  refine ⟨h2, fun d hd hn hdv => ?_⟩
  obtain ⟨e, he⟩ := hdv
  have lt : ∀ x : Int, 0 ≤ x → x * x ≤ n → x < k := fun x hx hxx => by
    rcases Int.lt_or_le x k with z | z
    · exact z
    · exfalso
      have a : k * k ≤ x * k := Int.mul_le_mul_of_nonneg_right z hk0
      have b : x * k ≤ x * x := Int.mul_le_mul_of_nonneg_left z hx
      omega
  obtain ⟨a, b⟩ := split_le hd hn he
  rcases a with a | a
  · exact h d hd (lt d (by omega) a) ⟨e, he⟩
  · exact h e b (lt e (by omega) a) ⟨d, by rw [he, Int.mul_comm]⟩
theorem pm_of_odd_trial {n k : Int} (h3 : 3 ≤ n) (ho : n % 2 = 1) (hk0 : 0 ≤ k) (hk : n < k * k) (h : ∀ d : Int, 3 ≤ d → d % 2 = 1 → d < k → ¬ d ∣ n) : Pm n := by
  refine pm_of_trial (by omega) hk0 hk fun d hd hdk hdv => ?_
  have : d % 2 = 1 := by
    obtain ⟨e, he⟩ := hdv
    rcases Int.emod_two_eq d with z | z
    · exfalso
      rw [he, Int.mul_emod, z, Int.zero_mul] at ho
      simp at ho
    · exact z
  exact h d (by omega) this hdk hdv
theorem not_pm {n k : Int} (h2 : 2 ≤ k) (hk : k * k ≤ n) (hd : n % k = 0) : ¬ Pm n := fun hp => by
  have : k < k * k := by
    have : k * 2 ≤ k * k := Int.mul_le_mul_of_nonneg_left h2 (by omega)
    omega
  exact hp.2 k h2 (by omega) (Int.dvd_of_emod_eq_zero hd)
theorem no_dvd_step {n k : Int} (h : ∀ d : Int, 2 ≤ d → d < k → ¬ d ∣ n) (hd : n % k ≠ 0) : ∀ d : Int, 2 ≤ d → d < k + 1 → ¬ d ∣ n := fun d h2 hk z => by
  by_cases e : d = k
  · rw [e] at z
    exact hd (Int.emod_eq_zero_of_dvd z)
  · exact h d h2 (by omega) z
theorem no_dvd_step2 {n k : Int} (hk : k % 2 = 1) (h : ∀ d : Int, 3 ≤ d → d % 2 = 1 → d < k → ¬ d ∣ n) (hd : n % k ≠ 0) : ∀ d : Int, 3 ≤ d → d % 2 = 1 → d < k + 2 → ¬ d ∣ n := fun d h2 ho hk z => by
  by_cases e : d = k
  · rw [e] at z
    exact hd (Int.emod_eq_zero_of_dvd z)
  · exact h d h2 ho (by omega) z
theorem sq_bound {k n : Int} (h0 : 0 ≤ k) (hk : k * k ≤ n) (hn : n < 2 ^ 120) : k < 2 ^ 60 := by
  rcases Int.lt_or_le k (2 ^ 60) with z | z
  · exact z
  · exfalso
    have a : (2 : Int) ^ 60 * 2 ^ 60 ≤ k * 2 ^ 60 := Int.mul_le_mul_of_nonneg_right z (by decide)
    have b : k * 2 ^ 60 ≤ k * k := Int.mul_le_mul_of_nonneg_left z h0
    have c : (2 : Int) ^ 60 * 2 ^ 60 = 2 ^ 120 := by decide
    omega
theorem le_sq {k : Int} (h : 1 ≤ k) : k ≤ k * k := by
  have : k * 1 ≤ k * k := Int.mul_le_mul_of_nonneg_left h (by omega)
  omega
/-- an odd prime -/
def OP (n : Int) : Prop := Pm n ∧ n % 2 = 1
theorem OP.three {n : Int} (h : OP n) : 3 ≤ n := by
  have := h.1.1
  have := h.2
  omega
theorem pm_two : Pm 2 := ⟨by omega, fun d h1 h2 => by omega⟩
theorem pm_odd {n : Int} (h : Pm n) (h3 : 3 ≤ n) : n % 2 = 1 := by
  rcases Int.emod_two_eq n with z | z
  · exact absurd (Int.dvd_of_emod_eq_zero z) (h.2 2 (by omega) (by omega))
  · exact z
/-- a prime, by looking at all divisors up to a side -/
theorem op_by {n : Nat} (k : Nat) (h3 : 3 ≤ n) (ho : n % 2 = 1) (hk : n < k * k) (h : (List.range k).all (fun d => d < 2 || n % d != 0) = true) : OP n := by
  refine ⟨pm_of_trial (k := k) (by omega) (by omega) (by exact_mod_cast hk) fun d h2 hd hv => ?_, by omega⟩
  have := List.all_eq_true.mp h d.toNat (List.mem_range.mpr (by omega))
  have hz : n % d.toNat = 0 := by
    have e := Int.emod_eq_zero_of_dvd hv
    rw [show d = ((d.toNat : Nat) : Int) by omega, ← Int.natCast_emod] at e
    exact_mod_cast e
  have h2' : ¬ d.toNat < 2 := by omega
  simp [hz, h2'] at this
open Classical in
noncomputable instance decPm (n : Int) : Decidable (Pm n) := Classical.propDecidable _
noncomputable instance decOP (n : Int) : Decidable (OP n) := instDecidableAnd
end QR
/-! part m_vopt -/
def vOpt : Option Int → V
  | some z => .int z
  | none => .non
theorem vOpt_some {z : Int} : vOpt (some z) = .int z := rfl
theorem vOpt_none : vOpt none = .non := rfl
/-! part m_form -/
/-- a form's three numbers -/
structure Fm where
  a : Int
  b : Int
  c : Int
deriving DecidableEq
def Fm.D (f : Fm) : Int := f.b * f.b - 4 * f.a * f.c
def Fm.ok (f : Fm) : Prop := 1 ≤ f.a ∧ f.D < 0
def Fm.at (f : Fm) (x y : Int) : Int := f.a * x * x + f.b * x * y + f.c * y * y
def Fm.st (f : Fm) (k : Int) : Fm := if k = 0 then ⟨f.c, -f.b, f.a⟩ else ⟨f.a, f.b + 2 * f.a * k, f.a * k * k + f.b * k + f.c⟩
def Fm.turn (f : Fm) (ks : List Int) : Fm := ks.foldl Fm.st f
def Fm.nx (f : Fm) : Option Int := if ¬ (-f.a < f.b ∧ f.b ≤ f.a) then some ((f.a - f.b) / (2 * f.a)) else if f.c < f.a ∨ f.a = f.c ∧ f.b < 0 then some 0 else none
def Fm.bd (n : Nat) (f : Fm) : Prop := Bd n f.a ∧ Bd n f.b ∧ Bd n f.c
theorem Fm.st_zero (f : Fm) : f.st 0 = ⟨f.c, -f.b, f.a⟩ := if_pos rfl
theorem Fm.st_ne {f : Fm} {k : Int} (h : k ≠ 0) : f.st k = ⟨f.a, f.b + 2 * f.a * k, f.a * k * k + f.b * k + f.c⟩ := if_neg h
theorem Fm.st_D (f : Fm) (k : Int) : (f.st k).D = f.D := by
  unfold Fm.st Fm.D
  split
  · simp only [Int.neg_mul_neg]
    grind
  · grind
theorem sq_nonneg (x : Int) : 0 ≤ x * x := by
  rcases Int.le_total 0 x with h | h
  · exact Int.mul_nonneg h h
  · have := Int.mul_nonneg (show 0 ≤ -x by omega) (show 0 ≤ -x by omega)
    rw [Int.neg_mul_neg] at this
    exact this
theorem Fm.ok.c_pos {f : Fm} (h : f.ok) : 1 ≤ f.c := by
  obtain ⟨h1, h2⟩ := h
  unfold Fm.D at h2
  have := sq_nonneg f.b
  rcases Int.lt_or_le f.c 1 with z | z
  · exfalso
    have : 4 * f.a * f.c ≤ 4 * f.a * 0 := Int.mul_le_mul_of_nonneg_left (by omega) (by omega)
    omega
  · exact z
theorem Fm.at_D (f : Fm) (x y : Int) : 4 * f.a * f.at x y = (2 * f.a * x + f.b * y) * (2 * f.a * x + f.b * y) - f.D * (y * y) := by
  unfold Fm.at Fm.D
  grind
theorem Fm.ok.st {f : Fm} (h : f.ok) (k : Int) : (f.st k).ok := by
  refine ⟨?_, by rw [Fm.st_D]; exact h.2⟩
  unfold Fm.st
  split
  · exact h.c_pos
  · exact h.1
theorem Fm.bd.mono {n m : Nat} {f : Fm} (h : Fm.bd n f) (hm : n ≤ m) : Fm.bd m f := ⟨h.1.mono hm, h.2.1.mono hm, h.2.2.mono hm⟩
theorem Fm.turn_snoc (f : Fm) (ks : List Int) (k : Int) : f.turn (ks ++ [k]) = (f.turn ks).st k := by
  unfold Fm.turn
  rw [List.foldl_append]
  rfl
theorem Fm.turn_D (f : Fm) : ∀ ks : List Int, (f.turn ks).D = f.D
  | [] => rfl
  | k :: ks => by
    show ((f.st k).turn ks).D = f.D
    rw [Fm.turn_D (f.st k) ks, Fm.st_D]
theorem Fm.ok.turn {f : Fm} (h : f.ok) : ∀ ks : List Int, (f.turn ks).ok
  | [] => h
  | k :: ks => Fm.ok.turn (h.st k) ks
theorem sq_le {x y : Int} (h : x.natAbs ≤ y.natAbs) : x * x ≤ y * y := by
  have e : ∀ z : Int, z * z = (z.natAbs : Int) * z.natAbs := fun z => by
    rw [← Int.natCast_mul, Int.natAbs_mul_self]
  rw [e x, e y]
  exact Int.mul_le_mul (by omega) (by omega) (by omega) (by omega)
/-! part m_side -/
open Classical in
/-- the integer from 0 on whose square is given -/
noncomputable def sideO (s : Int) : Option Int := if h : ∃ r : Int, 0 ≤ r ∧ r * r = s then some h.choose else none
theorem sq_inj {r t : Int} (hr : 0 ≤ r) (ht : 0 ≤ t) (e : r * r = t * t) : r = t := by
  rcases Int.lt_trichotomy r t with z | z | z
  · have := Int.mul_self_lt_mul_self hr z
    omega
  · exact z
  · have := Int.mul_self_lt_mul_self ht z
    omega
theorem sideO_some {s r : Int} (hr : 0 ≤ r) (e : r * r = s) : sideO s = some r := by
  unfold sideO
  have h : ∃ r : Int, 0 ≤ r ∧ r * r = s := ⟨r, hr, e⟩
  rw [dif_pos h]
  have := h.choose_spec
  exact congrArg some (sq_inj this.1 hr (by rw [this.2, e]))
theorem sideO_none {s : Int} (h : ∀ r : Int, 0 ≤ r → r * r ≠ s) : sideO s = none := dif_neg fun ⟨r, a, b⟩ => h r a b
theorem sideO_prop {s r : Int} (h : sideO s = some r) : 0 ≤ r ∧ r * r = s := by
  unfold sideO at h
  split at h
  · rename_i z
    have := z.choose_spec
    cases h
    exact this
  · cases h
theorem sideO_no {s r : Int} (h : sideO s = none) (hr : 0 ≤ r) : r * r ≠ s := fun e => by
  rw [sideO_some hr e] at h
  cases h
theorem sq_mono {x y : Int} (hx : 0 ≤ x) (h : x ≤ y) : x * x ≤ y * y := Int.mul_le_mul h h hx (by omega)
theorem nyy_le {n p y : Int} (hn : 1 ≤ n) (hy : 0 ≤ y) (h : n * y * y ≤ p) : y ≤ p := by
  have a := Int.mul_le_mul_of_nonneg_right hn (sq_nonneg y)
  rw [Int.mul_assoc] at h
  have b : y ≤ y * y ∨ y = 0 := by
    rcases Int.lt_or_le 0 y with z | z
    · exact .inl (QR.le_sq (by omega))
    · exact .inr (by omega)
  rcases b with b | b
  · omega
  · subst b
    omega
/-! part m_signs -/
def factorOf (rule : Str) (n m : Int) : Int :=
  if rule = "two" ∧ (m % 8 = 3 ∨ m % 8 = 5) then -1
  else if rule = "minus" ∧ m % 4 = 3 then -1
  else if rule = "turn" ∧ n % 4 = 3 ∧ m % 4 = 3 then -1
  else 1
theorem factorOf_pm (rule : Str) (n m : Int) : factorOf rule n m = 1 ∨ factorOf rule n m = -1 := by
  unfold factorOf
  split
  · exact .inr rfl
  · split
    · exact .inr rfl
    · split
      · exact .inr rfl
      · exact .inl rfl
def facT (m : Nat) : Int := if m % 8 = 3 ∨ m % 8 = 5 then -1 else 1
def facR (n m : Nat) : Int := if n % 4 = 3 ∧ m % 4 = 3 then -1 else 1
theorem str_ne1 : ¬ (("turn" : Str) = "two") := by decide +kernel
theorem str_ne2 : ¬ (("turn" : Str) = "minus") := by decide +kernel
theorem str_ne3 : ¬ (("two" : Str) = "minus") := by decide +kernel
theorem str_ne4 : ¬ (("two" : Str) = "turn") := by decide +kernel
theorem str_ne5 : ¬ (("rest" : Str) = "two") := by decide +kernel
theorem str_ne6 : ¬ (("rest" : Str) = "minus") := by decide +kernel
theorem str_ne7 : ¬ (("rest" : Str) = "turn") := by decide +kernel
theorem str_ne8 : ¬ (("two" : Str) = "rest") := by decide +kernel
theorem str_ne9 : ¬ (("turn" : Str) = "rest") := by decide +kernel
theorem str_ne10 : ¬ (("minus" : Str) = "rest") := by decide +kernel
theorem str_ne11 : ¬ (("minus" : Str) = "two") := by decide +kernel
theorem str_ne12 : ¬ (("minus" : Str) = "turn") := by decide +kernel
theorem factorOf_two (n m : Int) (hm : 0 < m) : factorOf "two" n m = facT m.toNat := by
  unfold factorOf facT
  have e : (m % 8 = 3 ∨ m % 8 = 5) ↔ (m.toNat % 8 = 3 ∨ m.toNat % 8 = 5) := by omega
  by_cases h : m % 8 = 3 ∨ m % 8 = 5
  · rw [if_pos ⟨rfl, h⟩, if_pos (e.mp h)]
  · rw [if_neg (fun z => h z.2), if_neg (fun z => str_ne3 z.1), if_neg (fun z => str_ne4 z.1), if_neg (fun z => h (e.mpr z))]
theorem factorOf_turn (n m : Int) (hn : 0 ≤ n) (hm : 0 < m) : factorOf "turn" n m = facR n.toNat m.toNat := by
  unfold factorOf facR
  have e : (n % 4 = 3 ∧ m % 4 = 3) ↔ (n.toNat % 4 = 3 ∧ m.toNat % 4 = 3) := by omega
  by_cases h : n % 4 = 3 ∧ m % 4 = 3
  · rw [if_neg (fun z => str_ne1 z.1), if_neg (fun z => str_ne2 z.1), if_pos ⟨rfl, h⟩, if_pos (e.mp h)]
  · rw [if_neg (fun z => str_ne1 z.1), if_neg (fun z => str_ne2 z.1), if_neg (fun z => h z.2), if_neg (fun z => h (e.mpr z))]
/-- the sign, by the program's own steps -/
def jac (n m : Nat) : Int :=
  if _h : n = 0 then (if m = 1 then 1 else 0)
  else if n % 2 = 0 then facT m * jac (n / 2) m
  else facR n m * jac (m % n) n
termination_by n
decreasing_by
  · omega
  · exact Nat.mod_lt _ (by omega)
theorem jac_zero (m : Nat) : jac 0 m = if m = 1 then 1 else 0 := by
  rw [jac]
  simp
theorem jac_two {n m : Nat} (h0 : n ≠ 0) (h : n % 2 = 0) : jac n m = facT m * jac (n / 2) m := by
  rw [jac, dif_neg h0, if_pos h]
theorem jac_turn {n m : Nat} (h : n % 2 = 1) : jac n m = facR n m * jac (m % n) n := by
  rw [jac, dif_neg (by omega), if_neg (by omega)]
def sgn (n m : Int) : Int := jac (n % m).toNat m.toNat
/-! part m_qr -/
namespace QR
def Pr : Nat → (Nat → Int) → Int
  | 0, _ => 1
  | n + 1, f => Pr n f * f n
theorem P_mul : ∀ (n : Nat) (f g : Nat → Int), Pr n (fun i => f i * g i) = Pr n f * Pr n g
  | 0, _, _ => rfl
  | n + 1, f, g => by
    simp only [Pr, P_mul n]
    grind
theorem P_congr : ∀ (n : Nat) {f g : Nat → Int}, (∀ i, i < n → f i = g i) → Pr n f = Pr n g
  | 0, _, _, _ => rfl
  | n + 1, f, g, h => by
    simp only [Pr]
    rw [P_congr n fun i hi => h i (by omega), h n (by omega)]
theorem P_one : ∀ n : Nat, Pr n (fun _ => 1) = 1
  | 0 => rfl
  | n + 1 => by
    simp only [Pr, P_one n]
    rfl
theorem P_neg : ∀ n : Nat, Pr n (fun _ => -1) = if n % 2 = 0 then 1 else -1
  | 0 => rfl
  | n + 1 => by
    simp only [Pr, P_neg n]
    split <;> split <;> omega
theorem P_swap (k : Nat) (f : Nat → Nat → Int) : ∀ h : Nat, Pr h (fun x => Pr k (fun y => f x y)) = Pr k (fun y => Pr h (fun x => f x y))
  | 0 => by simp only [Pr, P_one]
  | h + 1 => by
    simp only [Pr]
    rw [P_swap k f h, ← P_mul]
theorem P_zero : ∀ (n : Nat) (f : Nat → Int) (i : Nat), i < n → f i = 0 → Pr n f = 0
  | 0, _, _, h, _ => by omega
  | n + 1, f, i, h, e => by
    simp only [Pr]
    by_cases hi : i = n
    · rw [← hi, e, Int.mul_zero]
    · rw [P_zero n f i (by omega) e, Int.zero_mul]
theorem P_pm : ∀ (n : Nat) (f : Nat → Int), (∀ i, i < n → f i = 1 ∨ f i = -1) → Pr n f = 1 ∨ Pr n f = -1
  | 0, _, _ => .inl rfl
  | n + 1, f, h => by
    simp only [Pr]
    rcases P_pm n f (fun i hi => h i (by omega)) with a | a <;> rcases h n (by omega) with b | b <;> rw [a, b] <;> decide
def pl : List Int → Int
  | [] => 1
  | x :: l => x * pl l
theorem pl_append : ∀ l k : List Int, pl (l ++ k) = pl l * pl k
  | [], k => by simp [pl]
  | x :: l, k => by
    simp only [List.cons_append, pl, pl_append l k, Int.mul_assoc]
theorem pl_perm {l k : List Int} (h : l.Perm k) : pl l = pl k := by
  induction h with
  | nil => rfl
  | cons x _ ih => simp only [pl, ih]
  | swap x y l => simp only [pl]; grind
  | trans _ _ a b => exact a.trans b
theorem P_pl : ∀ (n : Nat) (f : Nat → Int), Pr n f = pl ((List.range n).map f)
  | 0, _ => rfl
  | n + 1, f => by
    rw [List.range_succ, List.map_append, pl_append, ← P_pl n f]
    simp [Pr, pl]
theorem perm_of : ∀ (l k : List Nat), l.Nodup → (∀ x, x ∈ l → x ∈ k) → k.length ≤ l.length → l.Perm k
  | [], k, _, _, h => by
    have : k = [] := List.eq_nil_of_length_eq_zero (by simpa using h)
    rw [this]
  | x :: l, k, hn, hs, hl => by
    have hx : x ∈ k := hs x (List.mem_cons_self ..)
    have hp := List.perm_cons_erase hx
    have hn' := List.nodup_cons.mp hn
    have hlen : (k.erase x).length + 1 = k.length := by
      rw [List.length_erase_of_mem hx]
      have := List.length_pos_of_mem hx
      omega
    refine List.Perm.trans (List.Perm.cons x (perm_of l (k.erase x) hn'.2 (fun y hy => ?_) ?_)) hp.symm
    · refine (List.mem_erase_of_ne ?_).mpr (hs y (List.mem_cons_of_mem _ hy))
      rintro rfl
      exact hn'.1 hy
    · simp only [List.length_cons] at hl
      omega
theorem nodup_map {f : Nat → Nat} : ∀ l : List Nat, l.Nodup → (∀ x, x ∈ l → ∀ y, y ∈ l → f x = f y → x = y) → (l.map f).Nodup
  | [], _, _ => List.nodup_nil
  | x :: l, hn, hi => by
    have hn' := List.nodup_cons.mp hn
    rw [List.map_cons, List.nodup_cons]
    refine ⟨fun hm => ?_, nodup_map l hn'.2 fun a ha b hb => hi a (List.mem_cons_of_mem _ ha) b (List.mem_cons_of_mem _ hb)⟩
    obtain ⟨y, hy, e⟩ := List.mem_map.mp hm
    have := hi y (List.mem_cons_of_mem _ hy) x (List.mem_cons_self ..) e
    rw [this] at hy
    exact hn'.1 hy
theorem perm_range {n : Nat} {π : Nat → Nat} (h1 : ∀ i, i < n → π i < n) (h2 : ∀ i, i < n → ∀ j, j < n → π i = π j → i = j) : ((List.range n).map π).Perm (List.range n) := by
  refine perm_of _ _ (nodup_map _ List.nodup_range fun x hx y hy => h2 x (List.mem_range.mp hx) y (List.mem_range.mp hy)) (fun x hx => ?_) (by simp)
  obtain ⟨i, hi, rfl⟩ := List.mem_map.mp hx
  exact List.mem_range.mpr (h1 i (List.mem_range.mp hi))
theorem P_perm {n : Nat} {π : Nat → Nat} (f : Nat → Int) (h1 : ∀ i, i < n → π i < n) (h2 : ∀ i, i < n → ∀ j, j < n → π i = π j → i = j) : Pr n (fun i => f (π i)) = Pr n f := by
  rw [P_pl, P_pl]
  have := pl_perm ((perm_range h1 h2).map f)
  rw [List.map_map] at this
  exact this
theorem P_flip (n : Nat) (f : Nat → Int) : Pr n (fun i => f (n - 1 - i)) = Pr n f :=
  P_perm (π := fun i => n - 1 - i) f (fun i hi => by show n - 1 - i < n; omega) (fun i hi j hj h => by
    have h : n - 1 - i = n - 1 - j := h
    omega)
/-- one mark in a row -/
theorem P_mark (c : Nat) (p : Prop) [Decidable p] : ∀ k : Nat, Pr k (fun y => if y = c ∧ p then -1 else 1) = if c < k ∧ p then -1 else 1
  | 0 => by simp [Pr]
  | k + 1 => by
    simp only [Pr]
    rw [P_mark c p k]
    by_cases hp : p
    · simp only [hp, and_true]
      by_cases h1 : c < k
      · rw [if_pos h1, if_neg (by omega), if_pos (by omega)]
        rfl
      · by_cases h2 : k = c
        · rw [if_neg h1, if_pos h2, if_pos (by omega)]
          rfl
        · rw [if_neg h1, if_neg h2, if_neg (by omega)]
          rfl
    · simp [hp]
/-- the sign of the absolutely least rest, to the modulus 2 h + 1 -/
def sg (h : Nat) (a : Int) : Int :=
  if a % (2 * h + 1) = 0 then 0 else if a % (2 * h + 1) ≤ h then 1 else -1
theorem rem_lo (h : Nat) (a : Int) : 0 ≤ a % (2 * h + 1) := Int.emod_nonneg a (by omega)
theorem rem_hi (h : Nat) (a : Int) : a % (2 * h + 1) ≤ 2 * h := by
  have := Int.emod_lt_of_pos a (show (0 : Int) < 2 * h + 1 by omega)
  omega
theorem dvd_rem (h : Nat) (a : Int) : (2 * (h : Int) + 1) ∣ a - a % (2 * h + 1) := ⟨a / (2 * h + 1), by
  have := Int.mul_ediv_add_emod a (2 * (h : Int) + 1)
  omega⟩
theorem sgv {h : Nat} {a r : Int} (hd : (2 * (h : Int) + 1) ∣ a - r) (h0 : 0 ≤ r) (h1 : r ≤ 2 * h) : sg h a = if r = 0 then 0 else if r ≤ h then 1 else -1 := by
  have e : a % (2 * h + 1) = r := by
    have := Int.emod_eq_emod_iff_emod_sub_eq_zero.mpr (Int.emod_eq_zero_of_dvd hd)
    rw [this, Int.emod_eq_of_lt h0 (by omega)]
  unfold sg
  rw [e]
theorem sg_congr {h : Nat} {a b : Int} (hd : (2 * (h : Int) + 1) ∣ a - b) : sg h a = sg h b := by
  unfold sg
  rw [Int.emod_eq_emod_iff_emod_sub_eq_zero.mpr (Int.emod_eq_zero_of_dvd hd)]
theorem sg_neg (h : Nat) (a : Int) : sg h (-a) = -sg h a := by
  have h0 := rem_lo h a
  have h1 := rem_hi h a
  obtain ⟨k, hk⟩ := dvd_rem h a
  rw [sgv (a := a) (dvd_rem h a) h0 h1]
  by_cases hz : a % (2 * h + 1) = 0
  · rw [sgv (r := 0) ⟨-k, by grind⟩ (by omega) (by omega), if_pos rfl, if_pos hz]
    rfl
  · rw [sgv (r := 2 * h + 1 - a % (2 * h + 1)) ⟨-k - 1, by grind⟩ (by omega) (by omega), if_neg (by omega), if_neg hz]
    split <;> split <;> omega
theorem sg_smul {h : Nat} {s : Int} (hs : s = 1 ∨ s = -1) (a : Int) : sg h (s * a) = s * sg h a := by
  rcases hs with rfl | rfl
  · rw [Int.one_mul, Int.one_mul]
  · rw [Int.neg_mul, Int.one_mul, sg_neg, Int.neg_mul, Int.one_mul]
theorem sg_pm {h : Nat} {a : Int} (ha : a % (2 * h + 1) ≠ 0) : sg h a = 1 ∨ sg h a = -1 := by
  unfold sg
  rw [if_neg ha]
  split
  · exact .inl rfl
  · exact .inr rfl
/-- the absolutely least rest, less one -/
def al (h : Nat) (a : Int) : Nat := if a % (2 * h + 1) ≤ h then (a % (2 * h + 1) - 1).toNat else (2 * h - a % (2 * h + 1)).toNat
theorem al_lt {h : Nat} {a : Int} (ha : a % (2 * h + 1) ≠ 0) : al h a < h := by
  have h0 := rem_lo h a
  have h1 := rem_hi h a
  unfold al
  split <;> omega
theorem al_dvd {h : Nat} {a : Int} (ha : a % (2 * h + 1) ≠ 0) : (2 * (h : Int) + 1) ∣ a - sg h a * (al h a + 1) := by
  have h0 := rem_lo h a
  have h1 := rem_hi h a
  obtain ⟨k, hk⟩ := dvd_rem h a
  unfold sg al
  rw [if_neg ha]
  by_cases hr : a % (2 * h + 1) ≤ h
  · rw [if_pos hr, if_pos hr, show (((a % (2 * h + 1) - 1).toNat : Int)) = a % (2 * h + 1) - 1 by omega]
    exact ⟨k, by omega⟩
  · rw [if_neg hr, if_neg hr, show (((2 * h - a % (2 * h + 1)).toNat : Int)) = 2 * h - a % (2 * h + 1) by omega]
    exact ⟨k + 1, by grind⟩
theorem small_dvd {m x : Int} (hd : m ∣ x) (h1 : -m < x) (h2 : x < m) : x = 0 := by
  rcases Int.lt_trichotomy x 0 with h | h | h
  · have := Int.le_of_dvd (show 0 < -x by omega) (Int.dvd_neg.mpr hd)
    omega
  · exact h
  · have := Int.le_of_dvd h hd
    omega
theorem cop_dvd {b m : Int} (hc : Int.gcd b m = 1) {x : Int} (hd : m ∣ b * x) : m ∣ x := by
  have h1 : m.natAbs ∣ b.natAbs * x.natAbs := by
    rw [← Int.natAbs_mul]
    exact Int.natAbs_dvd_natAbs.mpr hd
  have h2 : m.natAbs.Coprime b.natAbs := by
    unfold Nat.Coprime
    rw [Nat.gcd_comm]
    exact hc
  exact Int.natAbs_dvd_natAbs.mp (h2.dvd_of_dvd_mul_left h1)
def G (a : Int) (h : Nat) : Int := Pr h (fun i => sg h (a * ((i : Int) + 1)))
theorem cop_ne {b : Int} {h : Nat} (hc : Int.gcd b (2 * h + 1) = 1) {i : Nat} (hi : i < h) : (b * ((i : Int) + 1)) % (2 * h + 1) ≠ 0 := by
  intro z
  have := small_dvd (cop_dvd hc (Int.dvd_of_emod_eq_zero z)) (by omega) (by omega)
  omega
theorem G_congr {h : Nat} {a b : Int} (hd : (2 * (h : Int) + 1) ∣ a - b) : G a h = G b h := by
  refine P_congr h fun i hi => sg_congr ?_
  rw [← Int.sub_mul]
  exact Int.dvd_mul_of_dvd_left hd
theorem G_pm {h : Nat} {a : Int} (hc : Int.gcd a (2 * h + 1) = 1) : G a h = 1 ∨ G a h = -1 :=
  P_pm h _ fun i hi => sg_pm (cop_ne hc hi)
theorem G_zero {h : Nat} {a : Int} (hc : Int.gcd a (2 * h + 1) ≠ 1) : G a h = 0 := by
  obtain ⟨k, hk⟩ := Int.gcd_dvd_right a (2 * (h : Int) + 1)
  obtain ⟨l, hl⟩ := Int.gcd_dvd_left a (2 * (h : Int) + 1)
  generalize hg : Int.gcd a (2 * h + 1) = g at *
  have g0 : g ≠ 0 := by
    rintro rfl
    simp at hk
    omega
  have g2 : g ≠ 2 := by
    rintro rfl
    simp at hk
    omega
  have k0 : 0 < k := by
    rcases Int.lt_trichotomy k 0 with z | z | z
    · have := Int.mul_neg_of_pos_of_neg (show (0 : Int) < g by omega) z
      omega
    · rw [z] at hk
      omega
    · exact z
  have k1 : 3 * k ≤ g * k := Int.mul_le_mul_of_nonneg_right (by omega) (by omega)
  refine P_zero h _ (k - 1).toNat (by omega) ?_
  have e : (((k - 1).toNat : Int)) + 1 = k := by omega
  rw [e]
  unfold sg
  rw [if_pos]
  refine Int.emod_eq_zero_of_dvd ⟨l, ?_⟩
  rw [hk]
  conv => lhs; rw [hl]
  grind
theorem G_mul (a b : Int) (h : Nat) : G (a * b) h = G a h * G b h := by
  by_cases hc : Int.gcd b (2 * h + 1) = 1
  · have hp : Pr h (fun i => sg h (a * ((al h (b * ((i : Int) + 1)) : Int) + 1))) = Pr h (fun i => sg h (a * ((i : Int) + 1))) := by
      refine P_perm (π := fun i => al h (b * ((i : Int) + 1))) (fun i => sg h (a * ((i : Int) + 1))) (fun i hi => al_lt (cop_ne hc hi)) (fun i hi j hj e => ?_)
      have e : al h (b * ((i : Int) + 1)) = al h (b * ((j : Int) + 1)) := e
      obtain ⟨u, hu⟩ := al_dvd (cop_ne hc hi)
      obtain ⟨v, hv⟩ := al_dvd (cop_ne hc hj)
      rw [e] at hu
      rcases sg_pm (cop_ne hc hi) with s | s <;> rcases sg_pm (cop_ne hc hj) with t | t <;> rw [s] at hu <;> rw [t] at hv
      · have := small_dvd (cop_dvd (x := (i : Int) - j) hc ⟨u - v, by grind⟩) (by omega) (by omega)
        omega
      · have := small_dvd (cop_dvd (x := (i : Int) + j + 2) hc ⟨u + v, by grind⟩) (by omega) (by omega)
        omega
      · have := small_dvd (cop_dvd (x := (i : Int) + j + 2) hc ⟨u + v, by grind⟩) (by omega) (by omega)
        omega
      · have := small_dvd (cop_dvd (x := (i : Int) - j) hc ⟨u - v, by grind⟩) (by omega) (by omega)
        omega
    have e : G (a * b) h = Pr h (fun i => sg h (a * ((al h (b * ((i : Int) + 1)) : Int) + 1)) * sg h (b * ((i : Int) + 1))) := by
      refine P_congr h fun i hi => ?_
      rw [Int.mul_comm _ (sg h (b * ((i : Int) + 1))), ← sg_smul (sg_pm (cop_ne hc hi))]
      refine sg_congr ?_
      obtain ⟨u, hu⟩ := al_dvd (cop_ne hc hi)
      exact ⟨a * u, by grind⟩
    rw [e, P_mul, hp]
    rfl
  · rw [G_zero hc, Int.mul_zero, G_zero]
    intro z
    apply hc
    have h1 : Int.gcd b (2 * h + 1) ∣ Int.gcd (a * b) (2 * h + 1) := Int.dvd_gcd (Int.dvd_mul_of_dvd_right (Int.gcd_dvd_left ..)) (Int.gcd_dvd_right ..)
    rw [z] at h1
    exact Nat.dvd_one.mp h1

def tq (h k x y : Nat) : Int := (2 * k + 1) * ((x : Int) + 1) - (2 * h + 1) * ((y : Int) + 1)
def eqq (h k x y : Nat) : Int := if tq h k x y < 0 ∧ -(h : Int) ≤ tq h k x y then -1 else 1
theorem tq_comm (h k x y : Nat) : tq k h y x = -tq h k x y := by
  unfold tq
  omega
theorem q_in {h k x : Nat} (hx : x < h) (hr : (h : Int) < ((2 * k + 1) * ((x : Int) + 1)) % (2 * h + 1)) : ((2 * k + 1) * ((x : Int) + 1)) / (2 * h + 1) < k := by
  have e := Int.mul_ediv_add_emod ((2 * (k : Int) + 1) * ((x : Int) + 1)) (2 * (h : Int) + 1)
  generalize ((2 * (k : Int) + 1) * ((x : Int) + 1)) / (2 * (h : Int) + 1) = q at *
  have h1 : (2 * (k : Int) + 1) * ((x : Int) + 1) ≤ (2 * (k : Int) + 1) * h := Int.mul_le_mul_of_nonneg_left (by omega) (by omega)
  have h2 : (2 * (h : Int) + 1) * (q + 1) < (2 * (h : Int) + 1) * (k + 1) := by grind
  have := Int.lt_of_mul_lt_mul_left h2 (by omega)
  omega
theorem inner {h k x : Nat} (hc : Int.gcd (2 * k + 1) (2 * h + 1) = 1) (hx : x < h) : Pr k (fun y => eqq h k x y) = sg h ((2 * k + 1) * ((x : Int) + 1)) := by
  have hne := cop_ne hc hx
  have h0 := rem_lo h ((2 * k + 1) * ((x : Int) + 1))
  have h1 := rem_hi h ((2 * k + 1) * ((x : Int) + 1))
  have e := Int.mul_ediv_add_emod ((2 * (k : Int) + 1) * ((x : Int) + 1)) (2 * (h : Int) + 1)
  have q0 : 0 ≤ ((2 * (k : Int) + 1) * ((x : Int) + 1)) / (2 * (h : Int) + 1) := Int.ediv_nonneg (Int.mul_nonneg (by omega) (by omega)) (by omega)
  have qi := @q_in h k x hx
  unfold sg
  rw [if_neg hne]
  have hm : ∀ y, y < k → eqq h k x y = if y = (((2 * (k : Int) + 1) * ((x : Int) + 1)) / (2 * (h : Int) + 1)).toNat ∧ ¬ ((2 * (k : Int) + 1) * ((x : Int) + 1)) % (2 * h + 1) ≤ h then -1 else 1 := by
    intro y hy
    unfold eqq tq
    generalize ((2 * (k : Int) + 1) * ((x : Int) + 1)) / (2 * (h : Int) + 1) = q at *
    generalize ((2 * (k : Int) + 1) * ((x : Int) + 1)) % (2 * (h : Int) + 1) = r at *
    rw [← e]
    have hz : (2 * (h : Int) + 1) * q + r - (2 * (h : Int) + 1) * ((y : Int) + 1) = (2 * (h : Int) + 1) * (q - y - 1) + r := by grind
    rw [hz]
    congr 1
    refine propext ⟨fun ⟨a, b⟩ => ?_, fun ⟨a, b⟩ => ?_⟩
    · rcases Int.lt_trichotomy (q - y) 0 with z | z | z
      · have : (2 * (h : Int) + 1) * (q - y - 1) ≤ (2 * (h : Int) + 1) * (-2) := Int.mul_le_mul_of_nonneg_left (by omega) (by omega)
        omega
      · have z : q - y - 1 = -1 := by omega
        rw [z] at a b
        omega
      · have : 0 ≤ (2 * (h : Int) + 1) * (q - y - 1) := Int.mul_nonneg (by omega) (by omega)
        omega
    · have z : q - y - 1 = -1 := by omega
      rw [z]
      omega
  rw [P_congr k hm, P_mark]
  by_cases hr : ((2 * (k : Int) + 1) * ((x : Int) + 1)) % (2 * h + 1) ≤ h
  · rw [if_neg (fun z => z.2 hr), if_pos hr]
  · rw [if_pos ⟨by have := qi (by omega); omega, hr⟩, if_neg hr]
theorem tq_ne {h k x y : Nat} (hc : Int.gcd (2 * k + 1) (2 * h + 1) = 1) (hx : x < h) : tq h k x y ≠ 0 := by
  intro z
  apply cop_ne hc hx
  unfold tq at z
  exact Int.emod_eq_zero_of_dvd ⟨(y : Int) + 1, by omega⟩
theorem PP_pm (h k : Nat) (f : Nat → Nat → Int) (hf : ∀ x y, f x y = 1 ∨ f x y = -1) : Pr h (fun x => Pr k (fun y => f x y)) = 1 ∨ Pr h (fun x => Pr k (fun y => f x y)) = -1 :=
  P_pm h _ fun x _ => P_pm k _ fun y _ => hf x y
theorem PP_flip (h k : Nat) (f : Nat → Nat → Int) : Pr h (fun x => Pr k (fun y => f (h - 1 - x) (k - 1 - y))) = Pr h (fun x => Pr k (fun y => f x y)) := by
  rw [P_congr h fun x _ => P_flip k (fun y => f (h - 1 - x) y)]
  exact P_flip h (fun x => Pr k (fun y => f x y))
def bq (h k x y : Nat) : Int := if tq h k x y < -(h : Int) then -1 else 1
def cq (h k x y : Nat) : Int := if (k : Int) < tq h k x y then -1 else 1
theorem bc (h k : Nat) : Pr h (fun x => Pr k (fun y => bq h k x y)) = Pr h (fun x => Pr k (fun y => cq h k x y)) := by
  rw [← PP_flip h k (fun x y => cq h k x y)]
  refine P_congr h fun x hx => P_congr k fun y hy => ?_
  unfold bq cq
  have e : tq h k (h - 1 - x) (k - 1 - y) = k - h - tq h k x y := by
    unfold tq
    rw [show (((h - 1 - x : Nat) : Int)) = h - 1 - x by omega, show (((k - 1 - y : Nat) : Int)) = k - 1 - y by omega]
    grind
  rw [e]
  split <;> split <;> omega
theorem recip0 {h k : Nat} (hc : Int.gcd (2 * k + 1) (2 * h + 1) = 1) : G (2 * k + 1) h * G (2 * h + 1) k = if h % 2 = 1 ∧ k % 2 = 1 then -1 else 1 := by
  have e1 : G (2 * k + 1) h = Pr h (fun x => Pr k (fun y => eqq h k x y)) := P_congr h fun x hx => (inner hc hx).symm
  have e2 : G (2 * h + 1) k = Pr h (fun x => Pr k (fun y => eqq k h y x)) := by
    rw [P_swap]
    exact P_congr k fun y hy => (inner (by rw [Int.gcd_comm]; exact hc) hy).symm
  have e3 : Pr h (fun x => Pr k (fun y => eqq h k x y * eqq k h y x * (bq h k x y * cq h k x y))) = Pr h (fun _ => Pr k (fun _ => -1)) := by
    refine P_congr h fun x hx => P_congr k fun y hy => ?_
    have := tq_ne (y := y) hc hx
    unfold eqq bq cq
    rw [tq_comm h k x y]
    generalize tq h k x y = t at *
    split <;> split <;> split <;> split <;> omega
  have e4 : Pr h (fun x => Pr k (fun y => eqq h k x y * eqq k h y x * (bq h k x y * cq h k x y))) = Pr h (fun x => Pr k (fun y => eqq h k x y)) * Pr h (fun x => Pr k (fun y => eqq k h y x)) * (Pr h (fun x => Pr k (fun y => bq h k x y)) * Pr h (fun x => Pr k (fun y => cq h k x y))) := by
    simp only [P_mul]
  rw [bc, ← e1, ← e2, e3] at e4
  have hb : Pr h (fun x => Pr k (fun y => cq h k x y)) * Pr h (fun x => Pr k (fun y => cq h k x y)) = 1 := by
    rcases PP_pm h k (fun x y => cq h k x y) (fun x y => by unfold cq; split <;> omega) with z | z <;> rw [z] <;> rfl
  rw [hb, Int.mul_one] at e4
  rw [← e4]
  simp only [P_neg]
  split
  · rw [P_one, if_neg (by omega)]
  · rw [P_neg]
    split <;> split <;> omega
def RR (h k : Nat) : Int := if h % 2 = 1 ∧ k % 2 = 1 then -1 else 1
theorem recip (h k : Nat) : G (2 * k + 1) h = RR h k * G (2 * h + 1) k := by
  by_cases hc : Int.gcd (2 * k + 1) (2 * h + 1) = 1
  · have e := recip0 hc
    have h1 : Int.gcd (2 * h + 1) (2 * k + 1) = 1 := by rw [Int.gcd_comm]; exact hc
    unfold RR
    rw [← e, Int.mul_assoc]
    rcases G_pm h1 with z | z <;> rw [z] <;> simp
  · rw [G_zero hc, G_zero (a := 2 * h + 1) (h := k) (by rw [Int.gcd_comm]; exact hc), Int.mul_zero]
theorem P_cut (c : Nat) : ∀ n : Nat, Pr n (fun i => if i < c then 1 else -1) = if (n - c) % 2 = 0 then 1 else -1
  | 0 => by simp [Pr]
  | n + 1 => by
    simp only [Pr]
    rw [P_cut c n]
    split <;> split <;> split <;> omega
theorem G_neg1 (h : Nat) : G (-1) h = if h % 2 = 0 then 1 else -1 := by
  rw [← P_neg]
  refine P_congr h fun i hi => ?_
  rw [Int.neg_mul, Int.one_mul, sg_neg, sgv (r := (i : Int) + 1) ⟨0, by omega⟩ (by omega) (by omega), if_neg (by omega), if_pos (by omega)]
theorem G_two (h : Nat) : G 2 h = if (2 * h + 1) % 8 = 3 ∨ (2 * h + 1) % 8 = 5 then -1 else 1 := by
  have e : G 2 h = Pr h (fun i => if i < h / 2 then 1 else -1) := by
    refine P_congr h fun i hi => ?_
    rw [sgv (r := 2 * ((i : Int) + 1)) ⟨0, by omega⟩ (by omega) (by omega), if_neg (by omega)]
    split <;> split <;> omega
  rw [e, P_cut]
  split <;> split <;> omega
theorem G_one (h : Nat) : G 1 h = 1 := by
  refine Eq.trans (P_congr h fun i hi => ?_) (P_one h)
  rw [Int.one_mul, sgv (r := (i : Int) + 1) ⟨0, by omega⟩ (by omega) (by omega), if_neg (by omega), if_pos (by omega)]
theorem G_at0 (h : Nat) : G 0 h = if h = 0 then 1 else 0 := by
  by_cases hh : h = 0
  · rw [if_pos hh, hh]
    rfl
  · rw [if_neg hh]
    refine P_zero h _ 0 (by omega) ?_
    rw [Int.zero_mul]
    rfl
/-- an odd positive number of the same rest -/
theorem odd_rep (a : Int) (H : Nat) : ∃ k : Nat, (2 * (H : Int) + 1) ∣ a - (2 * (k : Int) + 1) := by
  have h0 := rem_lo H a
  obtain ⟨u, hu⟩ := dvd_rem H a
  by_cases he : a % (2 * H + 1) % 2 = 1
  · refine ⟨((a % (2 * H + 1) - 1) / 2).toNat, u, ?_⟩
    rw [show 2 * ((((a % (2 * H + 1) - 1) / 2).toNat : Int)) + 1 = a % (2 * H + 1) by omega]
    exact hu
  · refine ⟨((a % (2 * H + 1) + 2 * H) / 2).toNat, u - 1, ?_⟩
    rw [show 2 * ((((a % (2 * H + 1) + 2 * H) / 2).toNat : Int)) + 1 = a % (2 * H + 1) + (2 * H + 1) by omega]
    grind
theorem G_mod_mul (a : Int) {h h' H : Nat} (hH : (2 * (H : Int) + 1) = (2 * h + 1) * (2 * h' + 1)) : G a H = G a h * G a h' := by
  obtain ⟨k, u, hu⟩ := odd_rep a H
  rw [G_congr (h := H) ⟨u, hu⟩, G_congr (h := h) (a := a) (b := 2 * k + 1) ⟨(2 * h' + 1) * u, by rw [hu, hH, Int.mul_assoc]⟩, G_congr (h := h') (a := a) (b := 2 * k + 1) ⟨(2 * h + 1) * u, by rw [hu, hH]; grind⟩,
    recip, recip h k, recip h' k, hH, G_mul]
  have e : (H : Int) = 2 * (h * h') + h + h' := by grind
  have e' : H = 2 * (h * h') + h + h' := by exact_mod_cast e
  have er : RR H k = RR h k * RR h' k := by
    unfold RR
    generalize h * h' = z at *
    split <;> split <;> split <;> omega
  rw [er]
  grind
theorem G_eq_zero {a : Int} {h : Nat} : G a h = 0 ↔ Int.gcd a (2 * h + 1) ≠ 1 := by
  constructor
  · intro z hc
    rcases G_pm hc with e | e <;> rw [e] at z <;> cases z
  · exact G_zero
end QR
section
open QR
theorem jac_G : ∀ (n h : Nat), jac n (2 * h + 1) = G n h := by
  intro n
  induction n using Nat.strongRecOn with
  | ind n ih =>
    intro h
    by_cases h0 : n = 0
    · subst h0
      rw [jac_zero, show ((0 : Nat) : Int) = 0 from rfl, G_at0]
      split <;> split <;> omega
    · by_cases h2 : n % 2 = 0
      · rw [jac_two h0 h2, ih (n / 2) (by omega) h, show (n : Int) = 2 * ((n / 2 : Nat) : Int) by omega, G_mul, G_two]
        rfl
      · obtain ⟨k, rfl⟩ : ∃ k, n = 2 * k + 1 := ⟨n / 2, by omega⟩
        rw [jac_turn (by omega), ih ((2 * h + 1) % (2 * k + 1)) (Nat.mod_lt _ (by omega)) k]
        have e : G (((2 * k + 1 : Nat) : Int)) h = RR h k * G (2 * h + 1) k := by
          rw [← recip]
          rfl
        rw [e]
        have e2 : G (((2 * h + 1) % (2 * k + 1) : Nat) : Int) k = G (2 * h + 1) k := by
          refine G_congr ⟨-((2 * (h : Int) + 1) / (2 * k + 1)), ?_⟩
          have := Int.mul_ediv_add_emod (2 * (h : Int) + 1) (2 * k + 1)
          rw [Int.natCast_emod, show ((2 * h + 1 : Nat) : Int) = 2 * (h : Int) + 1 by omega, show ((2 * k + 1 : Nat) : Int) = 2 * (k : Int) + 1 by omega, Int.mul_neg]
          omega
        rw [e2]
        congr 1
        unfold facR RR
        split <;> split <;> omega
theorem sgn_G (n : Int) (h : Nat) : sgn n (2 * h + 1) = G n h := by
  unfold sgn
  rw [show (2 * (h : Int) + 1).toNat = 2 * h + 1 by omega, jac_G]
  have h0 := rem_lo h n
  rw [Int.toNat_of_nonneg h0]
  obtain ⟨u, hu⟩ := dvd_rem h n
  exact G_congr ⟨-u, by rw [Int.mul_neg, ← hu]; omega⟩
theorem odd_half {m : Int} (h1 : 1 ≤ m) (h2 : m % 2 = 1) : ∃ h : Nat, m = 2 * h + 1 := ⟨(m / 2).toNat, by omega⟩
end
section
open QR
variable {m : Int} (h1 : 1 ≤ m) (h2 : m % 2 = 1)
include h1 h2
theorem sgn_mul (a b : Int) : sgn (a * b) m = sgn a m * sgn b m := by
  obtain ⟨h, rfl⟩ := odd_half h1 h2
  rw [sgn_G, sgn_G, sgn_G, G_mul]
theorem sgn_mod_mul (a : Int) {t : Int} (h3 : 1 ≤ t) (h4 : t % 2 = 1) : sgn a (m * t) = sgn a m * sgn a t := by
  obtain ⟨h, rfl⟩ := odd_half h1 h2
  obtain ⟨k, rfl⟩ := odd_half h3 h4
  have e : (2 * (h : Int) + 1) * (2 * k + 1) = 2 * ((2 * (h * k) + h + k : Nat) : Int) + 1 := by
    push_cast
    grind
  rw [e, sgn_G, sgn_G, sgn_G, G_mod_mul a e.symm]
theorem sgn_congr {a b : Int} (hd : m ∣ a - b) : sgn a m = sgn b m := by
  obtain ⟨h, rfl⟩ := odd_half h1 h2
  rw [sgn_G, sgn_G, G_congr hd]
theorem sgn_neg1 : sgn (-1) m = 2 - m % 4 := by
  obtain ⟨h, rfl⟩ := odd_half h1 h2
  rw [sgn_G, G_neg1]
  split <;> omega
theorem sgn_two : sgn 2 m = if m % 8 = 3 ∨ m % 8 = 5 then -1 else 1 := by
  obtain ⟨h, rfl⟩ := odd_half h1 h2
  rw [sgn_G, G_two]
  split <;> split <;> omega
theorem sgn_turn {t : Int} (h3 : 1 ≤ t) (h4 : t % 2 = 1) : sgn t m = (if m % 4 = 3 ∧ t % 4 = 3 then -1 else 1) * sgn m t := by
  obtain ⟨h, rfl⟩ := odd_half h1 h2
  obtain ⟨k, rfl⟩ := odd_half h3 h4
  rw [sgn_G, sgn_G, recip]
  congr 1
  unfold RR
  split <;> split <;> omega
theorem sgn_zero {a : Int} : sgn a m = 0 ↔ Int.gcd a m ≠ 1 := by
  obtain ⟨h, rfl⟩ := odd_half h1 h2
  rw [sgn_G, G_eq_zero]
theorem sgn_pm {a : Int} (hc : Int.gcd a m = 1) : sgn a m = 1 ∨ sgn a m = -1 := by
  obtain ⟨h, rfl⟩ := odd_half h1 h2
  rw [sgn_G]
  exact G_pm hc
theorem sgn_sq (a : Int) : sgn a m * sgn a m = if Int.gcd a m = 1 then 1 else 0 := by
  by_cases hc : Int.gcd a m = 1
  · rw [if_pos hc]
    rcases sgn_pm h1 h2 hc with e | e <;> rw [e] <;> rfl
  · rw [if_neg hc, (sgn_zero h1 h2).mpr hc]
    rfl
end
/-! part m_euler -/
namespace QR
theorem al_inj {b : Int} {h : Nat} (hc : Int.gcd b (2 * h + 1) = 1) : ∀ i, i < h → ∀ j, j < h → al h (b * ((i : Int) + 1)) = al h (b * ((j : Int) + 1)) → i = j := by
  intro i hi j hj e
  obtain ⟨u, hu⟩ := al_dvd (cop_ne hc hi)
  obtain ⟨v, hv⟩ := al_dvd (cop_ne hc hj)
  rw [e] at hu
  rcases sg_pm (cop_ne hc hi) with s | s <;> rcases sg_pm (cop_ne hc hj) with t | t <;> rw [s] at hu <;> rw [t] at hv
  · have := small_dvd (cop_dvd (x := (i : Int) - j) hc ⟨u - v, by grind⟩) (by omega) (by omega)
    omega
  · have := small_dvd (cop_dvd (x := (i : Int) + j + 2) hc ⟨u + v, by grind⟩) (by omega) (by omega)
    omega
  · have := small_dvd (cop_dvd (x := (i : Int) + j + 2) hc ⟨u + v, by grind⟩) (by omega) (by omega)
    omega
  · have := small_dvd (cop_dvd (x := (i : Int) - j) hc ⟨u - v, by grind⟩) (by omega) (by omega)
    omega
theorem Pm.cop {p : Int} (hp : Pm p) {x : Int} (hx : ¬ p ∣ x) : Int.gcd x p = 1 := by
  have hd := Int.gcd_dvd_right x p
  have hl := Int.gcd_dvd_left x p
  have h2 := hp.1
  have hle := Int.le_of_dvd (by omega) hd
  generalize hg : Int.gcd x p = g at *
  by_cases h1 : (g : Int) = p
  · rw [h1] at hl
    exact absurd hl hx
  · by_cases h0 : g = 0
    · rw [h0] at hd
      have := Int.zero_dvd.mp hd
      omega
    · have := hp.2 g
      by_cases hz : g = 1
      · exact hz
      · exact absurd hd (this (by omega) (by omega))
theorem Pm.dvd_mul {p : Int} (hp : Pm p) {x y : Int} (h : p ∣ x * y) : p ∣ x ∨ p ∣ y := by
  by_cases hx : p ∣ x
  · exact .inl hx
  · exact .inr (cop_dvd (hp.cop hx) h)
theorem Pr_dvd {m : Int} : ∀ (n : Nat) (f g : Nat → Int), (∀ i, i < n → m ∣ f i - g i) → m ∣ Pr n f - Pr n g
  | 0, _, _, _ => ⟨0, by simp [Pr]⟩
  | n + 1, f, g, h => by
    obtain ⟨u, hu⟩ := Pr_dvd n f g fun i hi => h i (by omega)
    obtain ⟨v, hv⟩ := h n (by omega)
    exact ⟨u * f n + Pr n g * v, by simp only [Pr]; grind⟩
theorem Pr_cancel {m : Int} : ∀ (n : Nat) (f : Nat → Int) (x : Int), (∀ i, i < n → Int.gcd (f i) m = 1) → m ∣ Pr n f * x → m ∣ x
  | 0, _, x, _, h => by simpa [Pr] using h
  | n + 1, f, x, hc, h => by
    simp only [Pr] at h
    rw [Int.mul_assoc] at h
    exact cop_dvd (hc n (by omega)) (Pr_cancel n f _ (fun i hi => hc i (by omega)) h)
theorem Pr_const (a : Int) (f : Nat → Int) : ∀ n : Nat, Pr n (fun i => a * f i) = a ^ n * Pr n f
  | 0 => by simp [Pr]
  | n + 1 => by
    simp only [Pr]
    rw [Pr_const a f n, Int.pow_succ]
    grind
theorem Pr_first (f : Nat → Int) : ∀ n : Nat, Pr (n + 1) f = f 0 * Pr n (fun i => f (i + 1))
  | 0 => by simp [Pr]
  | n + 1 => by
    have := Pr_first f n
    simp only [Pr] at *
    rw [this]
    grind
theorem gauss {h : Nat} (hp : Pm (2 * h + 1)) {a : Int} (ha : ¬ (2 * (h : Int) + 1) ∣ a) : (2 * (h : Int) + 1) ∣ a ^ h - G a h := by
  have hc := hp.cop ha
  have h1 : (2 * (h : Int) + 1) ∣ Pr h (fun i => a * ((i : Int) + 1)) - Pr h (fun i => sg h (a * ((i : Int) + 1)) * ((al h (a * ((i : Int) + 1)) : Int) + 1)) :=
    Pr_dvd h _ _ fun i hi => al_dvd (cop_ne hc hi)
  have h2 : Pr h (fun i => (al h (a * ((i : Int) + 1)) : Int) + 1) = Pr h (fun i => (i : Int) + 1) :=
    P_perm (π := fun i => al h (a * ((i : Int) + 1))) (fun i => (i : Int) + 1) (fun i hi => al_lt (cop_ne hc hi)) (al_inj hc)
  rw [Pr_const, P_mul, h2] at h1
  refine Pr_cancel h (fun i => (i : Int) + 1) _ (fun i hi => hp.cop fun z => ?_) ?_
  · have := Int.le_of_dvd (by omega) z
    omega
  · obtain ⟨u, hu⟩ := h1
    exact ⟨u, by unfold G; grind⟩
theorem solve {h : Nat} {x : Int} (hc : Int.gcd x (2 * h + 1) = 1) {a : Int} (ha : ¬ (2 * (h : Int) + 1) ∣ a) : ∃ j, j < 2 * h ∧ (2 * (h : Int) + 1) ∣ x * ((j : Int) + 1) - a := by
  have hne : ∀ j : Nat, j < 2 * h → (x * ((j : Int) + 1)) % (2 * h + 1) ≠ 0 := by
    intro j hj z
    have := Int.le_of_dvd (by omega) (cop_dvd hc (Int.dvd_of_emod_eq_zero z))
    omega
  have hp := perm_range (n := 2 * h) (π := fun j => ((x * ((j : Int) + 1)) % (2 * h + 1) - 1).toNat) (fun j hj => by
    have h0 := rem_lo h (x * ((j : Int) + 1))
    have h1 := rem_hi h (x * ((j : Int) + 1))
    have := hne j hj
    show ((x * ((j : Int) + 1)) % (2 * h + 1) - 1).toNat < 2 * h
    omega) (fun i hi j hj e => by
    have e : ((x * ((i : Int) + 1)) % (2 * h + 1) - 1).toNat = ((x * ((j : Int) + 1)) % (2 * h + 1) - 1).toNat := e
    have h0 := rem_lo h (x * ((j : Int) + 1))
    have h1 := rem_lo h (x * ((i : Int) + 1))
    have n0 := hne i hi
    have n1 := hne j hj
    obtain ⟨u, hu⟩ := dvd_rem h (x * ((i : Int) + 1))
    obtain ⟨v, hv⟩ := dvd_rem h (x * ((j : Int) + 1))
    have e2 : (x * ((i : Int) + 1)) % (2 * h + 1) = (x * ((j : Int) + 1)) % (2 * h + 1) := by omega
    have := small_dvd (cop_dvd (x := (i : Int) - j) hc ⟨u - v, by grind⟩) (by omega) (by omega)
    omega)
  have h0 := rem_lo h a
  have h1 := rem_hi h a
  have h2 : a % (2 * h + 1) ≠ 0 := fun z => ha (Int.dvd_of_emod_eq_zero z)
  have hm : (a % (2 * h + 1) - 1).toNat ∈ List.range (2 * h) := List.mem_range.mpr (by omega)
  obtain ⟨j, hj, e⟩ := List.mem_map.mp (hp.mem_iff.mpr hm)
  have hj := List.mem_range.mp hj
  have k0 := rem_lo h (x * ((j : Int) + 1))
  have k1 := hne j hj
  have e2 : (x * ((j : Int) + 1)) % (2 * h + 1) = a % (2 * h + 1) := by omega
  obtain ⟨u, hu⟩ := dvd_rem h (x * ((j : Int) + 1))
  obtain ⟨v, hv⟩ := dvd_rem h a
  exact ⟨j, hj, u - v, by grind⟩
theorem pairs {m a : Int} : ∀ (n : Nat) (L : List Int), L.length ≤ n → L.Nodup → (∀ x, x ∈ L → ∃ y, y ∈ L ∧ y ≠ x ∧ m ∣ x * y - a) → (∀ x, x ∈ L → ∀ y, y ∈ L → ∀ z, z ∈ L → m ∣ x * y - a → m ∣ x * z - a → y = z) → m ∣ pl L - a ^ (L.length / 2) := by
  intro n
  induction n with
  | zero =>
    intro L hl _ _ _
    have : L = [] := List.eq_nil_of_length_eq_zero (by omega)
    subst this
    exact ⟨0, by simp [pl]⟩
  | succ n ih =>
    intro L hl hn hx hu
    match L, hl, hn, hx, hu with
    | [], _, _, _, _ => exact ⟨0, by simp [pl]⟩
    | x :: T, hl, hn, hx, hu =>
      have hn' := List.nodup_cons.mp hn
      obtain ⟨y, hy, yx, hd⟩ := hx x (List.mem_cons_self ..)
      have hyT : y ∈ T := by
        rcases List.mem_cons.mp hy with z | z
        · exact absurd z yx
        · exact z
      have hp := List.perm_cons_erase hyT
      have hlen : (T.erase y).length + 1 = T.length := by
        rw [List.length_erase_of_mem hyT]
        have := List.length_pos_of_mem hyT
        omega
      have hnd : (y :: T.erase y).Nodup := hp.nodup hn'.2
      have hnd' := List.nodup_cons.mp hnd
      have sub : ∀ z, z ∈ T.erase y → z ∈ T := fun z hz => hp.mem_iff.mpr (List.mem_cons_of_mem _ hz)
      have hI := ih (T.erase y) (by simp only [List.length_cons] at hl; omega) hnd'.2 (fun z hz => by
        have hzT := sub z hz
        have hzL := List.mem_cons_of_mem x hzT
        obtain ⟨w, hw, wz, hd2⟩ := hx z hzL
        have wx : w ≠ x := by
          rintro rfl
          have : z = y := hu w (List.mem_cons_self ..) z hzL y hy (by rw [Int.mul_comm]; exact hd2) hd
          rw [this] at hz
          exact hnd'.1 hz
        have wy : w ≠ y := by
          rintro rfl
          have : z = x := hu w hy z hzL x (List.mem_cons_self ..) (by rw [Int.mul_comm]; exact hd2) (by rw [Int.mul_comm]; exact hd)
          rw [this] at hzT
          exact hn'.1 hzT
        refine ⟨w, ?_, wz, hd2⟩
        rcases List.mem_cons.mp hw with q | q
        · exact absurd q wx
        · rcases List.mem_cons.mp (hp.mem_iff.mp q) with q | q
          · exact absurd q wy
          · exact q) (fun z hz w hw v hv => hu z (List.mem_cons_of_mem _ (sub z hz)) w (List.mem_cons_of_mem _ (sub w hw)) v (List.mem_cons_of_mem _ (sub v hv)))
      obtain ⟨s, hs⟩ := hI
      obtain ⟨t, ht⟩ := hd
      have e : pl (x :: T) = x * (y * pl (T.erase y)) := by
        rw [pl, pl_perm hp]
        rfl
      have e2 : (x :: T).length / 2 = (T.erase y).length / 2 + 1 := by
        simp only [List.length_cons]
        omega
      rw [e, e2, Int.pow_succ]
      exact ⟨t * pl (T.erase y) + a * s, by grind⟩
theorem nodup_mapI {f : Nat → Int} : ∀ l : List Nat, l.Nodup → (∀ x y, f x = f y → x = y) → (l.map f).Nodup
  | [], _, _ => List.nodup_nil
  | x :: l, hn, hi => by
    have hn' := List.nodup_cons.mp hn
    rw [List.map_cons, List.nodup_cons]
    refine ⟨fun hm => ?_, nodup_mapI l hn'.2 hi⟩
    obtain ⟨y, hy, e⟩ := List.mem_map.mp hm
    rw [hi y x e] at hy
    exact hn'.1 hy
theorem mem_row {n : Nat} {c x : Int} : x ∈ (List.range n).map (fun i : Nat => (i : Int) + c) ↔ c ≤ x ∧ x < n + c := by
  constructor
  · intro hx
    obtain ⟨i, hi, rfl⟩ := List.mem_map.mp hx
    have := List.mem_range.mp hi
    omega
  · intro ⟨a, b⟩
    exact List.mem_map.mpr ⟨(x - c).toNat, List.mem_range.mpr (by omega), by omega⟩
section
variable {h : Nat} (hp : Pm (2 * h + 1))
include hp
theorem uniq {a x y z : Int} (hx : ¬ (2 * (h : Int) + 1) ∣ x) (h1 : (2 * (h : Int) + 1) ∣ x * y - a) (h2 : (2 * (h : Int) + 1) ∣ x * z - a) (hy : 0 < y ∧ y ≤ 2 * h) (hz : 0 < z ∧ z ≤ 2 * h) : y = z := by
  obtain ⟨u, hu⟩ := h1
  obtain ⟨v, hv⟩ := h2
  have := small_dvd (cop_dvd (x := y - z) (hp.cop hx) ⟨u - v, by grind⟩) (by omega) (by omega)
  omega
theorem not_dvd {x : Int} (h1 : 0 < x) (h2 : x ≤ 2 * h) : ¬ (2 * (h : Int) + 1) ∣ x := fun z => by
  have := Int.le_of_dvd h1 z
  omega
theorem all_prod {a : Int} (ha : ¬ (2 * (h : Int) + 1) ∣ a) (hn : ∀ x : Int, ¬ (2 * (h : Int) + 1) ∣ x * x - a) : (2 * (h : Int) + 1) ∣ Pr (2 * h) (fun i => (i : Int) + 1) - a ^ h := by
  have := pairs (m := 2 * h + 1) (a := a) _ ((List.range (2 * h)).map fun i : Nat => (i : Int) + 1) (Nat.le_refl _) (nodup_mapI _ List.nodup_range fun x y e => by omega) (fun x hx => by
    have hx := mem_row.mp hx
    have nx := not_dvd hp (x := x) (by omega) (by omega)
    obtain ⟨j, hj, hd⟩ := solve (hp.cop nx) ha
    refine ⟨(j : Int) + 1, mem_row.mpr (by omega), ?_, hd⟩
    intro e
    rw [e] at hd
    exact hn x hd) (fun x hx y hy z hz h1 h2 => by
    have hx := mem_row.mp hx
    have hy := mem_row.mp hy
    have hz := mem_row.mp hz
    exact uniq hp (not_dvd hp (by omega) (by omega)) h1 h2 (by omega) (by omega))
  rw [← P_pl] at this
  simpa using this
theorem wilson : (2 * (h : Int) + 1) ∣ Pr (2 * h) (fun i => (i : Int) + 1) + 1 := by
  have h3 := hp.1
  obtain ⟨g, rfl⟩ : ∃ g, h = g + 1 := ⟨h - 1, by omega⟩
  have n1 : ¬ (2 * ((g + 1 : Nat) : Int) + 1) ∣ 1 := not_dvd hp (by omega) (by omega)
  have := pairs (m := 2 * ((g + 1 : Nat) : Int) + 1) (a := 1) _ ((List.range (2 * g)).map fun i : Nat => (i : Int) + 2) (Nat.le_refl _) (nodup_mapI _ List.nodup_range fun x y e => by omega) (fun x hx => by
    have hx := mem_row.mp hx
    have nx := not_dvd hp (x := x) (by omega) (by omega)
    obtain ⟨j, hj, hd⟩ := solve (hp.cop nx) n1
    refine ⟨(j : Int) + 1, mem_row.mpr ?_, ?_, hd⟩
    · by_cases j0 : j = 0
      · subst j0
        have := small_dvd (x := x - 1) (by simpa using hd) (by omega) (by omega)
        omega
      · by_cases j1 : j = 2 * g + 1
        · subst j1
          obtain ⟨u, hu⟩ := hd
          have := small_dvd (m := 2 * ((g + 1 : Nat) : Int) + 1) (x := -x - 1 + (2 * ((g + 1 : Nat) : Int) + 1)) ⟨u - x + 1, by grind⟩ (by omega) (by omega)
          omega
        · omega
    · intro e
      rw [e] at hd
      have hd2 : (2 * ((g + 1 : Nat) : Int) + 1) ∣ (x - 1) * (x + 1) := by
        rw [show (x - 1) * (x + 1) = x * x - 1 by grind]
        exact hd
      rcases hp.dvd_mul hd2 with q | q
      · exact not_dvd hp (by omega) (by omega) q
      · exact not_dvd hp (by omega) (by omega) q) (fun x hx y hy z hz h1 h2 => by
    have hx := mem_row.mp hx
    have hy := mem_row.mp hy
    have hz := mem_row.mp hz
    exact uniq hp (not_dvd hp (by omega) (by omega)) h1 h2 (by omega) (by omega))
  rw [← P_pl, Int.one_pow] at this
  obtain ⟨u, hu⟩ := this
  rw [show 2 * (g + 1) = 2 * g + 1 + 1 by omega]
  have e : Pr (2 * g + 1 + 1) (fun i => (i : Int) + 1) = Pr (2 * g) (fun i => (i : Int) + 2) * (2 * g + 2) := by
    rw [Pr, Pr_first]
    have : Pr (2 * g) (fun i => ((i + 1 : Nat) : Int) + 1) = Pr (2 * g) (fun i => (i : Int) + 2) := P_congr _ fun i _ => by omega
    rw [this]
    simp
    grind
  rw [e]
  exact ⟨u * (2 * g + 2) + 1, by push_cast at *; grind⟩
/-- the sign to a prime modulus is by squares -/
theorem euler {a : Int} (ha : ¬ (2 * (h : Int) + 1) ∣ a) : G a h = 1 ↔ ∃ x : Int, (2 * (h : Int) + 1) ∣ x * x - a := by
  constructor
  · intro hg
    refine Classical.byContradiction fun hn => ?_
    obtain ⟨u, hu⟩ := all_prod hp ha fun x hx => hn ⟨x, hx⟩
    obtain ⟨v, hv⟩ := wilson hp
    obtain ⟨w, hw⟩ := gauss hp ha
    rw [hg] at hw
    have : (2 * (h : Int) + 1) ∣ 2 := ⟨v - u - w, by grind⟩
    have := Int.le_of_dvd (by omega) this
    have := hp.1
    omega
  · rintro ⟨x, hx⟩
    rw [← G_congr hx, G_mul]
    have hc : Int.gcd x (2 * h + 1) = 1 := hp.cop fun z => ha (by
      have := Int.dvd_sub (Int.dvd_mul_of_dvd_left z (c := x)) hx
      rw [show x * x - (x * x - a) = a by omega] at this
      exact this)
    rcases G_pm hc with e | e <;> rw [e] <;> rfl
end
end QR
/-! part m_wr -/
def WrAt (p n x y : Int) : Prop := 0 ≤ x ∧ 0 ≤ y ∧ x * x + n * y * y = p
namespace QR
theorem sq_zero {x : Int} (h : x * x = 0) : x = 0 := by
  rcases Int.mul_eq_zero.mp h with h | h <;> exact h
theorem not_sq_prime {p y : Int} (hp : Pm p) : y * y ≠ p := fun e => by
  have h2 := hp.1
  have a : p ∣ y * y := ⟨1, by omega⟩
  have b : p ∣ y := (Pm.dvd_mul hp a).elim id id
  obtain ⟨k, rfl⟩ := b
  have e1 : p * (k * k * p) = p * 1 := by
    rw [Int.mul_one]
    calc p * (k * k * p) = p * k * (p * k) := by grind
      _ = p := e
  have e2 : k * k * p = 1 := Int.eq_of_mul_eq_mul_left (by omega) e1
  have := sq_nonneg k
  rcases Int.lt_or_le 0 (k * k) with z | z
  · have : 1 * p ≤ k * k * p := Int.mul_le_mul_of_nonneg_right (by omega) (by omega)
    omega
  · have : k * k = 0 := by omega
    rw [this] at e2
    omega
/-- the same way, or (for n = 1) the other way round -/
theorem wr_unique {p n x y u v : Int} (hp : Pm p) (hn : 1 ≤ n) (h1 : WrAt p n x y) (h2 : WrAt p n u v) : (x = u ∧ y = v) ∨ n = 1 ∧ x = v ∧ y = u := by
  obtain ⟨x0, y0, e1⟩ := h1
  obtain ⟨u0, v0, e2⟩ := h2
  have p2 := hp.1
  have same : x * v = u * y → x = u ∧ y = v := fun e => by
    have a : p * (v * v) = p * (y * y) := by
      have : x * v * (x * v) = u * y * (u * y) := by rw [e]
      grind
    have b : v * v = y * y := Int.eq_of_mul_eq_mul_left (by omega) a
    have c : v = y := sq_inj v0 y0 b
    subst c
    exact ⟨sq_inj x0 u0 (by omega), rfl⟩
  have big : ∀ z : Int, p ∣ z → z ≠ 0 → p * p ≤ z * z := fun z ⟨k, hk⟩ hz => by
    subst hk
    have hk0 : k ≠ 0 := fun e => hz (by rw [e, Int.mul_zero])
    have : 1 ≤ k * k := by
      have := sq_nonneg k
      rcases Int.lt_or_le 0 (k * k) with z | z
      · omega
      · exact absurd (sq_zero (show k * k = 0 by omega)) hk0
    have : p * p * 1 ≤ p * p * (k * k) := Int.mul_le_mul_of_nonneg_left this (sq_nonneg p)
    calc p * p ≤ p * p * (k * k) := by omega
      _ = p * k * (p * k) := by grind
  have d : p ∣ (x * v - u * y) * (x * v + u * y) := ⟨v * v - y * y, by grind⟩
  have i1 : p * p = (x * u + n * (y * v)) * (x * u + n * (y * v)) + n * ((x * v - u * y) * (x * v - u * y)) := by
    rw [show p * p = p * (u * u + n * v * v) by rw [e2]]
    rw [show p * (u * u + n * v * v) = (x * x + n * y * y) * (u * u + n * v * v) by rw [e1]]
    grind
  have i2 : p * p = (x * u - n * (y * v)) * (x * u - n * (y * v)) + n * ((x * v + u * y) * (x * v + u * y)) := by
    rw [show p * p = p * (u * u + n * v * v) by rw [e2]]
    rw [show p * (u * u + n * v * v) = (x * x + n * y * y) * (u * u + n * v * v) by rw [e1]]
    grind
  have pp : 0 < p * p := by
    have : 2 * p ≤ p * p := Int.mul_le_mul_of_nonneg_right p2 (by omega)
    omega
  have cut : ∀ s z : Int, p * p = s * s + n * (z * z) → p ∣ z → z ≠ 0 → n = 1 ∧ s = 0 := fun s z e hz h0 => by
    have a := big z hz h0
    have b := sq_nonneg s
    have c : 1 * (z * z) ≤ n * (z * z) := Int.mul_le_mul_of_nonneg_right hn (sq_nonneg z)
    have n1 : n = 1 := by
      rcases Int.lt_or_le 1 n with w | w
      · have : 2 * (z * z) ≤ n * (z * z) := Int.mul_le_mul_of_nonneg_right (by omega) (sq_nonneg z)
        omega
      · omega
    subst n1
    exact ⟨rfl, sq_zero (by omega)⟩
  rcases Pm.dvd_mul hp d with h | h
  · by_cases z : x * v - u * y = 0
    · exact .inl (same (by omega))
    · obtain ⟨rfl, s0⟩ := cut _ _ i1 h z
      exfalso
      have a : 0 ≤ x * u := Int.mul_nonneg x0 u0
      have b : 0 ≤ y * v := Int.mul_nonneg y0 v0
      have c : x * u = 0 := by omega
      rcases Int.mul_eq_zero.mp c with w | w
      · subst w
        exact not_sq_prime hp (y := y) (by rw [Int.one_mul] at e1; omega)
      · subst w
        exact not_sq_prime hp (y := v) (by rw [Int.one_mul] at e2; omega)
  · by_cases z : x * v + u * y = 0
    · have a : 0 ≤ x * v := Int.mul_nonneg x0 v0
      have b : 0 ≤ u * y := Int.mul_nonneg u0 y0
      exact .inl (same (by omega))
    · obtain ⟨rfl, s0⟩ := cut _ _ i2 h z
      refine .inr ⟨rfl, ?_⟩
      have e3 : x * u = y * v := by omega
      have a : p * (x * x) = p * (v * v) := by
        have : x * u * (x * u) = y * v * (y * v) := by rw [e3]
        grind
      have b : x = v := sq_inj x0 v0 (Int.eq_of_mul_eq_mul_left (by omega) a)
      subst b
      exact ⟨rfl, sq_inj y0 u0 (by rw [Int.one_mul] at e1 e2; omega)⟩
end QR
/-! part m_sq -/
open QR in
theorem sq_mem {p n : Int} (hp : QR.OP p) (hn : ¬ n % p = 0) : (n % p ∈ (List.range (p - 1).toNat).map (fun i : Nat => (1 + (i : Int)) * (1 + (i : Int)) % p)) ↔ sgn n p = 1 := by
  have p3 := hp.three
  obtain ⟨h, rfl⟩ := odd_half (by omega) hp.2
  rw [sgn_G, euler hp.1 (fun z => hn (Int.emod_eq_zero_of_dvd z)), List.mem_map]
  constructor
  · rintro ⟨i, _, e⟩
    exact ⟨1 + i, Int.dvd_of_emod_eq_zero (Int.emod_eq_emod_iff_emod_sub_eq_zero.mp e)⟩
  · rintro ⟨x, hx⟩
    have h0 := rem_lo h x
    have h1 := rem_hi h x
    have hz : x % (2 * (h : Int) + 1) ≠ 0 := by
      intro z
      obtain ⟨u, hu⟩ := Int.dvd_of_emod_eq_zero z
      obtain ⟨v, hv⟩ := hx
      exact hn (Int.emod_eq_zero_of_dvd ⟨u * x - v, by grind⟩)
    refine ⟨(x % (2 * h + 1) - 1).toNat, List.mem_range.mpr (by omega), ?_⟩
    rw [show 1 + (((x % (2 * h + 1) - 1).toNat : Nat) : Int) = x % (2 * h + 1) by omega]
    obtain ⟨u, hu⟩ := dvd_rem h x
    obtain ⟨v, hv⟩ := hx
    refine Int.emod_eq_emod_iff_emod_sub_eq_zero.mpr (Int.emod_eq_zero_of_dvd ⟨v - u * x - u * (x % (2 * h + 1)), ?_⟩)
    grind
theorem sgn_away {p n : Int} (hp : QR.OP p) (hn : ¬ n % p = 0) : sgn n p = 1 ∨ sgn n p = -1 :=
  sgn_pm (by have := hp.three; omega) hp.2 (hp.1.cop fun z => hn (Int.emod_eq_zero_of_dvd z))
theorem sgn_at0 {p n : Int} (hp : QR.OP p) (hn : n % p = 0) : sgn n p = 0 :=
  (sgn_zero (by have := hp.three; omega) hp.2).mpr fun z => by
    have := hp.three
    have hd := Int.dvd_of_emod_eq_zero hn
    have h1 : p ∣ ((Int.gcd n p : Nat) : Int) := Int.dvd_coe_gcd hd (Int.dvd_refl p)
    rw [z] at h1
    have := Int.le_of_dvd (by decide) h1
    omega
theorem cut_ints (ns : List Int) (lo hi : Option Int) : ∃ ms : List Int, cutV (ns.map V.int) lo hi = ms.map V.int := by
  unfold cutV
  exact ⟨_, by rw [← List.map_drop, ← List.map_take]⟩
theorem sgn_b {n p : Int} (hp : QR.OP p) : -1 ≤ sgn n p ∧ sgn n p ≤ 1 := by
  by_cases h : n % p = 0
  · rw [sgn_at0 hp h]
    decide
  · rcases sgn_away hp h with e | e <;> rw [e] <;> decide
theorem sgn_1 (n : Int) : sgn n 1 = 1 := by
  unfold sgn
  rw [Int.emod_one, show (0 : Int).toNat = 0 from rfl, show (1 : Int).toNat = 1 from rfl, jac_zero, if_pos rfl]
/-! part m_cip -/
namespace QR
/-! binomial numbers, and that a prime divides the inner ones -/
def ch : Nat → Nat → Int
  | _, 0 => 1
  | 0, _ + 1 => 0
  | n + 1, k + 1 => ch n k + ch n (k + 1)
theorem ch_zero (n : Nat) : ch n 0 = 1 := by cases n <;> rfl
theorem ch_succ (n k : Nat) : ch (n + 1) (k + 1) = ch n k + ch n (k + 1) := rfl
theorem ch_out : ∀ (n k : Nat), n < k → ch n k = 0
  | 0, k + 1, _ => rfl
  | n + 1, k + 1, h => by rw [ch_succ, ch_out n k (by omega), ch_out n (k + 1) (by omega)]; rfl
  | _, 0, h => by omega
theorem ch_self : ∀ n : Nat, ch n n = 1
  | 0 => rfl
  | n + 1 => by rw [ch_succ, ch_self n, ch_out n (n + 1) (by omega)]; rfl
theorem ch_mul : ∀ (n k : Nat), ((k : Int) + 1) * ch (n + 1) (k + 1) = ((n : Int) + 1) * ch n k
  | 0, 0 => rfl
  | 0, k + 1 => by rw [ch_out 1 (k + 2) (by omega), ch_out 0 (k + 1) (by omega)]; simp
  | n + 1, 0 => by
    have h := ch_mul n 0
    have e : ch (n + 1 + 1) (0 + 1) = ch (n + 1) 0 + ch (n + 1) (0 + 1) := rfl
    rw [e, ch_zero, Int.mul_add, h, ch_zero]
    push_cast
    omega
  | n + 1, k + 1 => by
    have h1 := ch_mul n k
    have h2 := ch_mul n (k + 1)
    rw [ch_succ (n + 1) (k + 1)]
    rw [ch_succ n k] at *
    have e1 : (((k + 1 : Nat) : Int)) = (k : Int) + 1 := by omega
    have e2 : (((n + 1 : Nat) : Int)) = (n : Int) + 1 := by omega
    rw [e1] at *
    rw [e2]
    grind
theorem ch_dvd {p : Nat} (hp : Pm p) {k : Nat} (h : k + 1 < p) : (p : Int) ∣ ch p (k + 1) := by
  obtain ⟨n, rfl⟩ : ∃ n, p = n + 1 := ⟨p - 1, by omega⟩
  have e := ch_mul n k
  have hd : (((n + 1 : Nat) : Int)) ∣ ((k : Int) + 1) * ch (n + 1) (k + 1) := ⟨ch n k, by rw [e]; push_cast; rfl⟩
  rcases hp.dvd_mul hd with z | z
  · have := Int.le_of_dvd (by omega) z
    omega
  · exact z
def Sm : Nat → (Nat → Int) → Int
  | 0, _ => 0
  | n + 1, f => Sm n f + f n
theorem Sm_congr : ∀ (n : Nat) {f g : Nat → Int}, (∀ i, i < n → f i = g i) → Sm n f = Sm n g
  | 0, _, _, _ => rfl
  | n + 1, f, g, h => by rw [Sm, Sm, Sm_congr n fun i hi => h i (by omega), h n (by omega)]
theorem Sm_add (f g : Nat → Int) : ∀ n : Nat, Sm n (fun i => f i + g i) = Sm n f + Sm n g
  | 0 => rfl
  | n + 1 => by
    rw [Sm, Sm, Sm, Sm_add f g n]
    omega
theorem Sm_mul (c : Int) (f : Nat → Int) : ∀ n : Nat, Sm n (fun i => c * f i) = c * Sm n f
  | 0 => by simp [Sm]
  | n + 1 => by rw [Sm, Sm, Sm_mul c f n, Int.mul_add]
theorem Sm_first (f : Nat → Int) : ∀ n : Nat, Sm (n + 1) f = f 0 + Sm n (fun i => f (i + 1))
  | 0 => by simp [Sm]
  | n + 1 => by
    rw [Sm, Sm_first f n, Sm]
    omega
theorem Sm_dvd {m : Int} : ∀ (n : Nat) (f : Nat → Int), (∀ i, i < n → m ∣ f i) → m ∣ Sm n f
  | 0, _, _ => ⟨0, by simp [Sm]⟩
  | n + 1, f, h => Int.dvd_add (Sm_dvd n f fun i hi => h i (by omega)) (h n (by omega))
/-- the n-th power of t and a step -/
def Fb (t : Int) : Nat → (Nat → Int) → Int
  | 0, s => s 0
  | n + 1, s => t * Fb t n s + Fb t n (fun k => s (k + 1))
theorem Fb_sum (t : Int) : ∀ (n : Nat) (s : Nat → Int), Fb t n s = Sm (n + 1) (fun k => ch n k * t ^ (n - k) * s k)
  | 0, s => by simp [Fb, Sm, ch]
  | n + 1, s => by
    rw [Fb, Fb_sum t n s, Fb_sum t n, Sm_first _ (n + 1), ← Sm_mul]
    have e1 : Sm (n + 1) (fun k => t * (ch n k * t ^ (n - k) * s k)) = t ^ (n + 1) * s 0 + Sm (n + 1) (fun k => ch n (k + 1) * t ^ (n - k) * s (k + 1)) := by
      rw [Sm_first _ n]
      conv => rhs; rw [Sm]
      rw [ch_out n (n + 1) (by omega), ch_zero]
      have e2 : Sm n (fun i => t * (ch n (i + 1) * t ^ (n - (i + 1)) * s (i + 1))) = Sm n (fun k => ch n (k + 1) * t ^ (n - k) * s (k + 1)) := by
        refine Sm_congr n fun i hi => ?_
        have : n - i = (n - (i + 1)) + 1 := by omega
        rw [this, Int.pow_succ]
        grind
      rw [e2, Nat.sub_zero, Int.pow_succ]
      grind
    rw [e1, ch_zero, Nat.sub_zero]
    have e3 : Sm (n + 1) (fun i => ch (n + 1) (i + 1) * t ^ (n + 1 - (i + 1)) * s (i + 1)) = Sm (n + 1) (fun k => ch n (k + 1) * t ^ (n - k) * s (k + 1)) + Sm (n + 1) (fun k => ch n k * t ^ (n - k) * s (k + 1)) := by
      rw [← Sm_add]
      refine Sm_congr _ fun i hi => ?_
      rw [ch_succ, show n + 1 - (i + 1) = n - i by omega]
      grind
    rw [e3]
    grind
theorem Fb_frob {p : Nat} (hp : Pm p) (t : Int) (s : Nat → Int) : (p : Int) ∣ Fb t p s - (t ^ p * s 0 + s p) := by
  have h2 := hp.1
  obtain ⟨n, rfl⟩ : ∃ n, p = n + 1 := ⟨p - 1, by omega⟩
  rw [Fb_sum, Sm_first, Sm]
  rw [ch_zero, ch_self, Nat.sub_zero, Nat.sub_self, Int.pow_zero]
  have : (((n + 1 : Nat)) : Int) ∣ Sm n (fun i => ch (n + 1) (i + 1) * t ^ (n + 1 - (i + 1)) * s (i + 1)) := Sm_dvd n _ fun i hi => by
    obtain ⟨c, hc⟩ := ch_dvd hp (k := i) (by omega)
    exact ⟨c * t ^ (n + 1 - (i + 1)) * s (i + 1), by rw [hc]; grind⟩
  obtain ⟨c, hc⟩ := this
  exact ⟨c, by rw [hc]; grind⟩
/-! sums of an integer and a multiple of a root of w -/
def mulQ (w : Int) (x y : Int × Int) : Int × Int := (x.1 * y.1 + x.2 * y.2 * w, x.1 * y.2 + x.2 * y.1)
def powQ (w : Int) (x : Int × Int) : Nat → Int × Int
  | 0 => (1, 0)
  | n + 1 => mulQ w (powQ w x n) x
theorem mulQ_assoc (w : Int) (x y z : Int × Int) : mulQ w (mulQ w x y) z = mulQ w x (mulQ w y z) := by
  simp only [mulQ, Prod.mk.injEq]
  constructor <;> grind
theorem mulQ_comm (w : Int) (x y : Int × Int) : mulQ w x y = mulQ w y x := by
  simp only [mulQ, Prod.mk.injEq]
  constructor <;> grind
theorem mulQ_one (w : Int) (x : Int × Int) : mulQ w x (1, 0) = x := by
  simp [mulQ]
theorem powQ_add (w : Int) (x : Int × Int) (m : Nat) : ∀ n : Nat, powQ w x (m + n) = mulQ w (powQ w x m) (powQ w x n)
  | 0 => (mulQ_one w _).symm
  | n + 1 => by
    rw [← Nat.add_assoc, powQ, powQ_add w x m n, powQ, mulQ_assoc]
theorem powQ_sq (w : Int) (x : Int × Int) (n : Nat) : powQ w (mulQ w x x) n = powQ w x (2 * n) := by
  induction n with
  | zero => rfl
  | succ n ih =>
    rw [powQ, ih, show 2 * (n + 1) = 2 * n + 1 + 1 by omega, powQ, powQ, mulQ_assoc]
def sE (w : Int) (k : Nat) : Int := if k % 2 = 0 then w ^ (k / 2) else 0
def sO (w : Int) (k : Nat) : Int := if k % 2 = 0 then 0 else w ^ (k / 2)
theorem Fb_mul (t c : Int) : ∀ (n : Nat) (s : Nat → Int), Fb t n (fun k => c * s k) = c * Fb t n s
  | 0, s => rfl
  | n + 1, s => by
    rw [Fb, Fb, Fb_mul t c n s, Fb_mul t c n fun k => s (k + 1)]
    grind
theorem powQ_Fb (w t : Int) : ∀ n : Nat, powQ w (t, 1) n = (Fb t n (sE w), Fb t n (sO w))
  | 0 => by simp [powQ, Fb, sE, sO]
  | n + 1 => by
    have h1 : (fun k => sE w (k + 1)) = fun k => w * sO w k := by
      funext k
      unfold sE sO
      rcases Nat.mod_two_eq_zero_or_one k with h | h
      · rw [if_neg (by omega), if_pos h, Int.mul_zero]
      · rw [if_pos (by omega), if_neg (by omega), show (k + 1) / 2 = k / 2 + 1 by omega, Int.pow_succ, Int.mul_comm]
    have h2 : (fun k => sO w (k + 1)) = fun k => sE w k := by
      funext k
      unfold sE sO
      rcases Nat.mod_two_eq_zero_or_one k with h | h
      · rw [if_neg (by omega), if_pos h, show (k + 1) / 2 = k / 2 by omega]
      · rw [if_pos (by omega), if_neg (by omega)]
    rw [powQ, powQ_Fb w t n, Fb, Fb, h1, h2, Fb_mul]
    simp only [mulQ, Prod.mk.injEq]
    constructor <;> grind
section
variable {h : Nat}
theorem G_eq_dvd {a : Int} : G a h = 0 ↔ Int.gcd a (2 * h + 1) ≠ 1 := G_eq_zero
theorem fermat (hp : Pm (2 * (h : Int) + 1)) (t : Int) : (2 * (h : Int) + 1) ∣ t ^ (2 * h + 1) - t := by
  by_cases ht : (2 * (h : Int) + 1) ∣ t
  · obtain ⟨c, hc⟩ := ht
    refine ⟨t ^ (2 * h) * c - c, ?_⟩
    rw [Int.pow_succ]
    generalize t ^ (2 * h) = X
    rw [hc]
    grind
  · obtain ⟨c, hc⟩ := gauss hp ht
    have hg := G_pm (hp.cop ht)
    have hgg : G t h * G t h = 1 := by rcases hg with e | e <;> rw [e] <;> rfl
    have e : t ^ h = (2 * (h : Int) + 1) * c + G t h := by omega
    have e2 : t ^ (2 * h + 1) = t ^ h * t ^ h * t := by
      rw [Int.pow_succ, show 2 * h = h + h by omega, Int.pow_add]
    exact ⟨((2 * (h : Int) + 1) * c * c + 2 * c * G t h) * t, by rw [e2, e]; grind⟩
/-- the power with the exponent p + 1 is the norm -/
theorem frob (hp : Pm (2 * (h : Int) + 1)) {w t : Int} (hw : G w h = -1) : (2 * (h : Int) + 1) ∣ (powQ w (t, 1) (2 * h + 2)).1 - (t * t - w) ∧ (2 * (h : Int) + 1) ∣ (powQ w (t, 1) (2 * h + 2)).2 := by
  have hp' : Pm (((2 * h + 1 : Nat)) : Int) := by
    have : (((2 * h + 1 : Nat)) : Int) = 2 * (h : Int) + 1 := by omega
    rw [this]
    exact hp
  have wd : ¬ (2 * (h : Int) + 1) ∣ w := fun z => by
    have : G w h = 0 := by
      have h2 := hp.1
      obtain ⟨c, hc⟩ := z
      rw [G_congr (b := 0) ⟨c, by rw [hc]; omega⟩]
      rw [G_at0, if_neg (by omega)]
    rw [this] at hw
    exact absurd hw (by decide)
  obtain ⟨c1, e1⟩ := Fb_frob hp' t (sE w)
  obtain ⟨c2, e2⟩ := Fb_frob hp' t (sO w)
  obtain ⟨c3, e3⟩ := fermat hp t
  obtain ⟨c4, e4⟩ := gauss hp wd
  have cst : (((2 * h + 1 : Nat)) : Int) = 2 * (h : Int) + 1 := by omega
  rw [cst] at e1 e2
  have s1 : sE w 0 = 1 := by simp [sE]
  have s2 : sE w (2 * h + 1) = 0 := if_neg (by omega)
  have s3 : sO w 0 = 0 := by simp [sO]
  have s4 : sO w (2 * h + 1) = w ^ h := by
    unfold sO
    rw [if_neg (by omega), show (2 * h + 1) / 2 = h by omega]
  rw [s1, s2] at e1
  rw [s3, s4] at e2
  rw [hw] at e4
  rw [show 2 * h + 2 = 2 * h + 1 + 1 from rfl, powQ, powQ_Fb]
  simp only [mulQ]
  generalize Fb t (2 * h + 1) (sE w) = A at *
  generalize Fb t (2 * h + 1) (sO w) = B at *
  generalize t ^ (2 * h + 1) = T at *
  generalize w ^ h = W at *
  generalize 2 * (h : Int) + 1 = p at *
  have eA : A = t + p * (c1 + c3) := by rw [Int.mul_add]; omega
  have eB : B = -1 + p * (c2 + c4) := by rw [Int.mul_add]; omega
  exact ⟨⟨(c1 + c3) * t + (c2 + c4) * w, by rw [eA, eB]; grind⟩, ⟨c1 + c3 + (c2 + c4) * t, by rw [eA, eB]; grind⟩⟩
/-- the half power is a root -/
theorem cipolla (hp : Pm (2 * (h : Int) + 1)) {n w t : Int} (hw : G w h = -1) (hn : G n h = 1) (hwn : (2 * (h : Int) + 1) ∣ t * t - n - w) {r : Int × Int} (hr1 : (2 * (h : Int) + 1) ∣ r.1 - (powQ w (t, 1) (h + 1)).1) (hr2 : (2 * (h : Int) + 1) ∣ r.2 - (powQ w (t, 1) (h + 1)).2) : (2 * (h : Int) + 1) ∣ r.1 * r.1 - n := by
  obtain ⟨⟨d1, f1⟩, ⟨d2, f2⟩⟩ := frob hp (t := t) hw
  rw [show 2 * h + 2 = (h + 1) + (h + 1) by omega, powQ_add] at f1 f2
  simp only [mulQ] at f1 f2
  generalize (powQ w (t, 1) (h + 1)).1 = a at *
  generalize (powQ w (t, 1) (h + 1)).2 = b at *
  have h2 := hp.1
  have h3 : Pm (2 * (h : Int) + 1) := hp
  have hd2 : (2 * (h : Int) + 1) ∣ 2 * (a * b) := ⟨d2, by rw [← f2]; grind⟩
  have n2 : ¬ (2 * (h : Int) + 1) ∣ 2 := fun z => by
    have := Int.le_of_dvd (by decide) z
    omega
  have hab : (2 * (h : Int) + 1) ∣ a * b := (hp.dvd_mul hd2).resolve_left n2
  obtain ⟨g, hg⟩ := hwn
  obtain ⟨k1, hk1⟩ := hr1
  generalize hpp : 2 * (h : Int) + 1 = p at *
  have era : r.1 = a + p * k1 := by omega
  have etn : t * t - w = n + p * g := by omega
  have ef : a * a + b * b * w = n + p * (g + d1) := by rw [Int.mul_add]; omega
  rcases h3.dvd_mul hab with z | z
  · exfalso
    obtain ⟨u, hu⟩ := z
    have hc : p ∣ b * b * w - n := ⟨g + d1 - a * u, by rw [hu] at ef ⊢; grind⟩
    rw [← hpp] at hc
    have e1 := G_congr hc
    rw [G_mul, hw, hn, G_mul] at e1
    have e2 : 0 ≤ G b h * G b h := by
      rcases Int.le_total 0 (G b h) with y | y
      · exact Int.mul_nonneg y y
      · have := Int.mul_nonneg (show 0 ≤ -G b h by omega) (show 0 ≤ -G b h by omega)
        rw [Int.neg_mul_neg] at this
        exact this
    omega
  · obtain ⟨u, hu⟩ := z
    refine ⟨g + d1 - b * u * w + 2 * a * k1 + p * k1 * k1, ?_⟩
    rw [era]
    have : b * b * w = p * (b * u * w) := by rw [hu]; grind
    grind
end
end QR
/-! part m_rt -/
/-! roots on a clock -/
def cg (p a b : Int) : Prop := p ∣ a - b
theorem cg.mulQ1 {p w a b c d a' b' c' d' : Int} (h1 : p ∣ a - a') (h2 : p ∣ b - b') (h3 : p ∣ c - c') (h4 : p ∣ d - d') : p ∣ (a * c + b * d * w) % p - (a' * c' + b' * d' * w) := by
  obtain ⟨x, hx⟩ := h1
  obtain ⟨y, hy⟩ := h2
  obtain ⟨z, hz⟩ := h3
  obtain ⟨u, hu⟩ := h4
  have e := Int.mul_ediv_add_emod (a * c + b * d * w) p
  generalize (a * c + b * d * w) / p = q at *
  generalize (a * c + b * d * w) % p = r at *
  have ea : a = a' + p * x := by omega
  have eb : b = b' + p * y := by omega
  have ec : c = c' + p * z := by omega
  have ed : d = d' + p * u := by omega
  refine ⟨a' * z + x * c' + p * x * z + (b' * u + y * d' + p * y * u) * w - q, ?_⟩
  have : r = a * c + b * d * w - p * q := by omega
  rw [this, ea, eb, ec, ed]
  grind
theorem cg.mulQ2 {p a b c d a' b' c' d' : Int} (h1 : p ∣ a - a') (h2 : p ∣ b - b') (h3 : p ∣ c - c') (h4 : p ∣ d - d') : p ∣ (a * d + b * c) % p - (a' * d' + b' * c') := by
  obtain ⟨x, hx⟩ := h1
  obtain ⟨y, hy⟩ := h2
  obtain ⟨z, hz⟩ := h3
  obtain ⟨u, hu⟩ := h4
  have e := Int.mul_ediv_add_emod (a * d + b * c) p
  generalize (a * d + b * c) / p = q at *
  generalize (a * d + b * c) % p = r at *
  have ea : a = a' + p * x := by omega
  have eb : b = b' + p * y := by omega
  have ec : c = c' + p * z := by omega
  have ed : d = d' + p * u := by omega
  refine ⟨a' * u + x * d' + p * x * u + (b' * z + y * c' + p * y * z) - q, ?_⟩
  have : r = a * d + b * c - p * q := by omega
  rw [this, ea, eb, ec, ed]
  grind
namespace QR
/-- what the loop keeps: the pairs stand for sums, and result times power to the exponent is one and the same -/
def Keep (p w t : Int) (h : Nat) (a b c d : Int) (e : Nat) : Prop := ∃ R S : Int × Int, p ∣ a - R.1 ∧ p ∣ b - R.2 ∧ p ∣ c - S.1 ∧ p ∣ d - S.2 ∧ mulQ w R (powQ w S e) = powQ w (t, 1) h
theorem Keep.start {p w t : Int} {h : Nat} : Keep p w t h 1 0 (t % p) 1 h :=
  ⟨(1, 0), (t, 1), ⟨0, by simp⟩, ⟨0, by simp⟩, ⟨-(t / p), by have := Int.mul_ediv_add_emod t p; rw [Int.mul_neg]; dsimp only; omega⟩, ⟨0, by simp⟩, by rw [mulQ_comm, mulQ_one]⟩
theorem Keep.odd {p w t a b c d : Int} {h e : Nat} (k : Keep p w t h a b c d e) (ho : e % 2 = 1) : Keep p w t h ((a * c + b * d * w) % p) ((a * d + b * c) % p) ((c * c + d * d * w) % p) ((c * d + d * c) % p) (e / 2) := by
  obtain ⟨R, S, h1, h2, h3, h4, he⟩ := k
  refine ⟨mulQ w R S, mulQ w S S, cg.mulQ1 h1 h2 h3 h4, cg.mulQ2 h1 h2 h3 h4, cg.mulQ1 h3 h4 h3 h4, cg.mulQ2 h3 h4 h3 h4, ?_⟩
  rw [powQ_sq, mulQ_assoc, mulQ_comm w S, ← he]
  rw [show e = 2 * (e / 2) + 1 by omega, powQ, show (2 * (e / 2) + 1) / 2 = e / 2 by omega]
theorem Keep.even {p w t a b c d : Int} {h e : Nat} (k : Keep p w t h a b c d e) (ho : e % 2 = 0) : Keep p w t h a b ((c * c + d * d * w) % p) ((c * d + d * c) % p) (e / 2) := by
  obtain ⟨R, S, h1, h2, h3, h4, he⟩ := k
  refine ⟨R, mulQ w S S, h1, h2, cg.mulQ1 h3 h4 h3 h4, cg.mulQ2 h3 h4 h3 h4, ?_⟩
  rw [powQ_sq, ← he, show 2 * (e / 2) = e by omega]
theorem Keep.fin {p n t a b c d : Int} (hp : OP p) (hn : sgn n p = 1) (hw : sgn (t * t - n) p = -1) (k : Keep p ((t * t - n) % p) t ((p + 1) / 2).toNat a b c d 0) : p ∣ a * a - n := by
  obtain ⟨h, rfl⟩ := odd_half (by have := hp.three; omega) hp.2
  rw [sgn_G] at hn hw
  obtain ⟨R, S, h1, h2, h3, h4, he⟩ := k
  rw [powQ, mulQ_one] at he
  subst he
  have e := Int.mul_ediv_add_emod (t * t - n) (2 * (h : Int) + 1)
  have hwn : (2 * (h : Int) + 1) ∣ t * t - n - (t * t - n) % (2 * (h : Int) + 1) := ⟨(t * t - n) / (2 * (h : Int) + 1), by omega⟩
  rw [show ((2 * (h : Int) + 1 + 1) / 2).toNat = h + 1 by omega] at h1 h2
  refine cipolla (r := (a, b)) hp.1 (w := (t * t - n) % (2 * (h : Int) + 1)) (t := t) ?_ hn hwn h1 h2
  rw [← hw]
  exact G_congr ⟨-((t * t - n) / (2 * (h : Int) + 1)), by rw [Int.mul_neg]; omega⟩
theorem has_root {p n : Int} (hp : OP p) (hn : sgn n p ≠ -1) : ∃ r : Int, 0 ≤ r ∧ r < p ∧ p ∣ r * r - n := by
  have h3 := hp.three
  have : ∃ r : Int, p ∣ r * r - n := by
    by_cases h0 : n % p = 0
    · obtain ⟨c, hc⟩ := Int.dvd_of_emod_eq_zero h0
      exact ⟨0, -c, by rw [hc, Int.mul_neg]; omega⟩
    · obtain ⟨h, rfl⟩ := odd_half (by omega) hp.2
      have hd : ¬ (2 * (h : Int) + 1) ∣ n := fun z => h0 (Int.emod_eq_zero_of_dvd z)
      have e := (sgn_away hp h0).resolve_right hn
      rw [sgn_G] at e
      exact (euler hp.1 hd).mp e
  obtain ⟨r, c, hc⟩ := this
  refine ⟨r % p, Int.emod_nonneg _ (by omega), Int.emod_lt_of_pos _ (by omega), ?_⟩
  have e := Int.mul_ediv_add_emod r p
  generalize r / p = q at *
  generalize r % p = s at *
  exact ⟨c - 2 * q * s - p * q * q, by rw [← e] at hc; grind⟩
theorem root_mod {p n x : Int} (h : p ∣ x * x - n % p) : p ∣ x * x - n := by
  obtain ⟨c, hc⟩ := h
  have e := Int.mul_ediv_add_emod n p
  exact ⟨c - n / p, by rw [Int.mul_sub]; omega⟩
theorem root_neg {p n x : Int} (h : p ∣ x * x - n) : p ∣ (p - x) * (p - x) - n := by
  obtain ⟨c, hc⟩ := h
  exact ⟨p - 2 * x + c, by rw [Int.mul_add, ← hc]; grind⟩
theorem root_one {p n x y : Int} (hp : OP p) (hx : 0 ≤ x) (hx2 : 2 * x < p) (hxn : p ∣ x * x - n) (hy : 0 ≤ y) (hy2 : 2 * y < p) (hyn : p ∣ y * y - n) : x = y := by
  have h3 := hp.three
  have : p ∣ (x - y) * (x + y) := by
    obtain ⟨c, hc⟩ := hxn
    obtain ⟨d, hd⟩ := hyn
    exact ⟨c - d, by rw [Int.mul_sub, ← hc, ← hd]; grind⟩
  rcases hp.1.dvd_mul this with z | z
  · rcases Int.lt_trichotomy x y with l | l | l
    · have := Int.le_of_dvd (by omega) (Int.dvd_neg.mpr z)
      omega
    · exact l
    · have := Int.le_of_dvd (by omega) z
      omega
  · by_cases h : x + y = 0
    · omega
    · have := Int.le_of_dvd (by omega) z
      omega
end QR
/-! part m_poly -/
/-! the hours at which a polynomial is 0 -/
namespace QR
def zeroAt (a b c p x : Int) : Prop := p ∣ a * x * x + b * x + c
def rootsL (a b c p : Int) : List Int := ((List.range p.toNat).map fun i : Nat => (i : Int)).filter fun x => decide ((a * x * x + b * x + c) % p = 0)
theorem asc_range (n : Nat) : ((List.range n).map fun i : Nat => (i : Int)).Pairwise (· < ·) := by
  rw [List.pairwise_map]
  refine (List.pairwise_lt_range (n := n)).imp fun h => by omega
theorem rootsL_asc (a b c p : Int) : (rootsL a b c p).Pairwise (· < ·) := (asc_range p.toNat).filter _
theorem rootsL_mem {a b c p x : Int} (hp : 0 < p) : x ∈ rootsL a b c p ↔ 0 ≤ x ∧ x < p ∧ p ∣ a * x * x + b * x + c := by
  unfold rootsL
  rw [List.mem_filter, List.mem_map, decide_eq_true_iff]
  constructor
  · rintro ⟨⟨i, hi, rfl⟩, h⟩
    have := List.mem_range.mp hi
    exact ⟨by omega, by omega, Int.dvd_of_emod_eq_zero h⟩
  · rintro ⟨h0, h1, h⟩
    exact ⟨⟨x.toNat, List.mem_range.mpr (by omega), by omega⟩, Int.emod_eq_zero_of_dvd h⟩
theorem asc_ext : ∀ {xs ys : List Int}, xs.Pairwise (· < ·) → ys.Pairwise (· < ·) → (∀ k, k ∈ xs ↔ k ∈ ys) → xs = ys
  | [], [], _, _, _ => rfl
  | [], y :: ys, _, _, h => absurd ((h y).mpr List.mem_cons_self) List.not_mem_nil
  | x :: xs, [], _, _, h => absurd ((h x).mp List.mem_cons_self) List.not_mem_nil
  | x :: xs, y :: ys, hx, hy, h => by
    obtain ⟨x1, x2⟩ := List.pairwise_cons.mp hx
    obtain ⟨y1, y2⟩ := List.pairwise_cons.mp hy
    have e : x = y := by
      rcases List.mem_cons.mp ((h x).mp List.mem_cons_self) with z | z
      · exact z
      · rcases List.mem_cons.mp ((h y).mpr List.mem_cons_self) with u | u
        · exact u.symm
        · have := y1 x z
          have := x1 y u
          omega
    subst e
    rw [asc_ext x2 y2 fun k => ?_]
    constructor
    · intro hk
      rcases List.mem_cons.mp ((h k).mp (List.mem_cons_of_mem _ hk)) with z | z
      · have := x1 k hk
        omega
      · exact z
    · intro hk
      rcases List.mem_cons.mp ((h k).mpr (List.mem_cons_of_mem _ hk)) with z | z
      · have := y1 k hk
        omega
      · exact z
theorem roots_none {a b c p : Int} (hp : 0 < p) (h : ∀ x, ¬ p ∣ a * x * x + b * x + c) : rootsL a b c p = [] :=
  asc_ext (rootsL_asc ..) .nil fun k => by rw [rootsL_mem hp]; exact ⟨fun z => absurd z.2.2 (h k), fun z => absurd z List.not_mem_nil⟩
theorem roots_flat {a b c p : Int} (hp : 0 < p) (ha : p ∣ a) (hb : p ∣ b) (hc : ¬ p ∣ c) : rootsL a b c p = [] := roots_none hp fun x h => by
  obtain ⟨u, hu⟩ := ha
  obtain ⟨v, hv⟩ := hb
  obtain ⟨w, hw⟩ := h
  exact hc ⟨w - u * x * x - v * x, by rw [Int.mul_sub, Int.mul_sub, ← hw, hu, hv]; grind⟩
/-- what is congruent within the clock is equal -/
theorem same_hour {p x y : Int} (h : p ∣ x - y) (hx : 0 ≤ x) (hx2 : x < p) (hy : 0 ≤ y) (hy2 : y < p) : x = y := by
  obtain ⟨c, hc⟩ := h
  have : x = y + p * c := by omega
  have e1 := Int.emod_eq_of_lt hx hx2
  rw [this, Int.add_mul_emod_self_left, Int.emod_eq_of_lt hy hy2] at e1
  omega
theorem roots_line {a b c p z : Int} (hp : OP p) (ha : p ∣ a) (hz : p ∣ b * z - 1) : rootsL a b c p = [-c * z % p] := by
  have h3 := hp.three
  have m0 := Int.emod_nonneg (-c * z) (show p ≠ 0 by omega)
  have m1 := Int.emod_lt_of_pos (-c * z) (show 0 < p by omega)
  have e := Int.mul_ediv_add_emod (-c * z) p
  generalize -c * z % p = r at *
  generalize -c * z / p = q at *
  obtain ⟨u, hu⟩ := ha
  obtain ⟨v, hv⟩ := hz
  refine asc_ext (rootsL_asc ..) (List.pairwise_singleton _ _) fun k => ?_
  rw [rootsL_mem (by omega), List.mem_singleton]
  constructor
  · rintro ⟨k0, k1, w, hw⟩
    refine same_hour ⟨w * z - u * k * k * z - v * k + q, ?_⟩ k0 k1 m0 m1
    have e1 : r = -c * z - p * q := by omega
    have e2 : c = p * w - a * k * k - b * k := by omega
    rw [e1, e2, hu]
    have e3 : b * z = p * v + 1 := by omega
    clear e e1 e2 hw hu hv
    grind
  · rintro rfl
    refine ⟨m0, m1, u * k * k + -c * v - b * q, ?_⟩
    have e1 : k = -c * z - p * q := by omega
    have e3 : b * z = p * v + 1 := by omega
    have e4 : b * k = -c * (p * v + 1) - p * (b * q) := by rw [← e3, e1]; grind
    rw [e4, hu]
    grind
theorem disc_id (a b c x : Int) : 4 * a * (a * x * x + b * x + c) = (2 * a * x + b) * (2 * a * x + b) - (b * b - 4 * a * c) := by grind
theorem not_two {p : Int} (hp : OP p) : ¬ p ∣ 2 := fun z => by
  have := hp.three
  have := Int.le_of_dvd (by decide) z
  omega
theorem not_2a {p a : Int} (hp : OP p) (ha : ¬ p ∣ a) : ¬ p ∣ 2 * a := fun z => (hp.1.dvd_mul z).elim (not_two hp) ha
theorem roots_no {a b c p : Int} (hp : OP p) (h : sgn (b * b - 4 * a * c) p = -1) : rootsL a b c p = [] := by
  have h3 := hp.three
  refine roots_none (by omega) fun x hx => ?_
  have hd : p ∣ (2 * a * x + b) * (2 * a * x + b) - (b * b - 4 * a * c) := by
    rw [← disc_id]
    exact Int.dvd_mul_of_dvd_right hx
  obtain ⟨k, rfl⟩ := odd_half (by omega) hp.2
  have hn : ¬ (2 * (k : Int) + 1) ∣ b * b - 4 * a * c := fun z => by
    rw [sgn_at0 hp (Int.emod_eq_zero_of_dvd z)] at h
    cases h
  have := (euler hp.1 hn).mpr ⟨_, hd⟩
  rw [sgn_G] at h
  rw [h] at this
  cases this
theorem roots_two {a b c p s z : Int} (hp : OP p) (ha : ¬ p ∣ a) (hs : p ∣ s * s - (b * b - 4 * a * c)) (hz : p ∣ 2 * a * z - 1) (k : Int) : k ∈ rootsL a b c p ↔ k = (-b - s) * z % p ∨ k = (-b + s) * z % p := by
  have h3 := hp.three
  have key : ∀ k : Int, p ∣ a * k * k + b * k + c ↔ p ∣ 2 * a * k + b + s ∨ p ∣ 2 * a * k + b - s := fun k => by
    have e := disc_id a b c k
    obtain ⟨u, hu⟩ := hs
    constructor
    · rintro ⟨v, hv⟩
      have : p ∣ (2 * a * k + b + s) * (2 * a * k + b - s) := ⟨4 * a * v - u, by rw [show p * (4 * a * v - u) = 4 * a * (p * v) - p * u by grind, ← hu, ← hv]; grind⟩
      exact hp.1.dvd_mul this
    · intro h
      have h2 : p ∣ (2 * a * k + b + s) * (2 * a * k + b - s) := h.elim (fun z => Int.dvd_mul_of_dvd_left z) fun z => Int.dvd_mul_of_dvd_right z
      obtain ⟨v, hv⟩ := h2
      have h4 : p ∣ 2 * a * (2 * (a * k * k + b * k + c)) := ⟨v + u, by rw [show p * (v + u) = p * v + p * u from Int.mul_add _ _ _, ← hu, ← hv]; grind⟩
      have h5 := (hp.1.dvd_mul h4).resolve_left (not_2a hp ha)
      exact (hp.1.dvd_mul h5).resolve_left (not_two hp)
  have sol : ∀ t k : Int, 0 ≤ k → k < p → (p ∣ 2 * a * k + b - t ↔ k = (-b + t) * z % p) := fun t k k0 k1 => by
    have m0 := Int.emod_nonneg ((-b + t) * z) (show p ≠ 0 by omega)
    have m1 := Int.emod_lt_of_pos ((-b + t) * z) (show 0 < p by omega)
    have e := Int.mul_ediv_add_emod ((-b + t) * z) p
    generalize (-b + t) * z % p = r at *
    generalize (-b + t) * z / p = q at *
    obtain ⟨u, hu⟩ := hz
    constructor
    · rintro ⟨v, hv⟩
      refine same_hour ⟨v * z - u * k + q, ?_⟩ k0 k1 m0 m1
      have e1 : r = (-b + t) * z - p * q := by omega
      have e2 : -b + t = 2 * a * k - p * v := by omega
      rw [e1, e2]
      have e3 : 2 * a * z = p * u + 1 := by omega
      clear e e1 e2 hv hu
      grind
    · rintro rfl
      refine ⟨(-b + t) * u - 2 * a * q, ?_⟩
      have e1 : k = (-b + t) * z - p * q := by omega
      have e3 : 2 * a * z = p * u + 1 := by omega
      have e4 : 2 * a * k = (-b + t) * (p * u + 1) - p * (2 * a * q) := by rw [← e3, e1]; grind
      rw [e4]
      grind
  rw [rootsL_mem (by omega)]
  have m0 := fun y => Int.emod_nonneg y (show p ≠ 0 by omega)
  have m1 := fun y => Int.emod_lt_of_pos y (show 0 < p by omega)
  constructor
  · rintro ⟨k0, k1, h⟩
    rcases (key k).mp h with y | y
    · exact .inl ((sol (-s) k k0 k1).mp (by rw [Int.sub_neg]; exact y))
    · exact .inr ((sol s k k0 k1).mp y)
  · intro h
    have k0 : 0 ≤ k := by rcases h with e | e <;> rw [e] <;> exact m0 _
    have k1 : k < p := by rcases h with e | e <;> rw [e] <;> exact m1 _
    refine ⟨k0, k1, (key k).mpr (h.elim (fun e => .inl ?_) fun e => .inr ((sol s k k0 k1).mpr e))⟩
    have := (sol (-s) k k0 k1).mpr e
    rw [Int.sub_neg] at this
    exact this
theorem roots_pair {a b c p s z : Int} (hp : OP p) (ha : ¬ p ∣ a) (hs : p ∣ s * s - (b * b - 4 * a * c)) (hz : p ∣ 2 * a * z - 1) :
    (if (-b - s) * z % p < (-b + s) * z % p then [(-b - s) * z % p, (-b + s) * z % p] else if (-b + s) * z % p < (-b - s) * z % p then [(-b + s) * z % p, (-b - s) * z % p] else [(-b - s) * z % p]) = rootsL a b c p := by
  have key := fun k => roots_two hp ha hs hz k
  generalize (-b - s) * z % p = x at *
  generalize (-b + s) * z % p = y at *
  refine asc_ext ?_ (rootsL_asc ..) fun k => ?_
  · split
    · exact List.pairwise_cons.mpr ⟨fun u hu => by rw [List.mem_singleton.mp hu]; assumption, List.pairwise_singleton _ _⟩
    · split
      · exact List.pairwise_cons.mpr ⟨fun u hu => by rw [List.mem_singleton.mp hu]; assumption, List.pairwise_singleton _ _⟩
      · exact List.pairwise_singleton _ _
  · rw [key k]
    split
    · simp
    · split
      · simp [or_comm]
      · have : x = y := by omega
        subst this
        simp
theorem due_eq {a b c p : Int} : ((List.range p.toNat).filter fun i : Nat => decide ((a * (0 + (i : Int)) * (0 + (i : Int)) + b * (0 + (i : Int)) + c) % p = 0)).map (fun i : Nat => L2.V.int (0 + (i : Int))) = (rootsL a b c p).map L2.V.int := by
  unfold rootsL
  rw [List.filter_map, List.map_map]
  simp only [Int.zero_add]
  rfl
theorem roots_all {a b c p : Int} (hp : 0 < p) (ha : a % p = 0) (hb : b % p = 0) (hc : c % p = 0) : ((rootsL a b c p).length : Int) = p := by
  obtain ⟨u, hu⟩ := Int.dvd_of_emod_eq_zero ha
  obtain ⟨v, hv⟩ := Int.dvd_of_emod_eq_zero hb
  obtain ⟨w, hw⟩ := Int.dvd_of_emod_eq_zero hc
  have e : rootsL a b c p = (List.range p.toNat).map fun i : Nat => (i : Int) := by
    unfold rootsL
    refine List.filter_eq_self.mpr fun x _ => decide_eq_true (Int.emod_eq_zero_of_dvd ⟨u * x * x + v * x + w, ?_⟩)
    rw [hu, hv, hw]
    grind
  rw [e, List.length_map, List.length_range]
  omega
theorem rootsL_shift {a b c p : Int} (hp : 0 < p) (d : Int) : rootsL (a + p) (b - p * d) (c + p) p = rootsL a b c p :=
  asc_ext (rootsL_asc ..) (rootsL_asc ..) fun k => by
    have e : (a + p) * k * k + (b - p * d) * k + (c + p) = (a * k * k + b * k + c) + p * (k * k - d * k + 1) := by grind
    rw [rootsL_mem hp, rootsL_mem hp, e]
    have : p ∣ p * (k * k - d * k + 1) := ⟨_, rfl⟩
    exact ⟨fun ⟨h0, h1, h2⟩ => ⟨h0, h1, (Int.dvd_add_left this).mp h2⟩, fun ⟨h0, h1, h2⟩ => ⟨h0, h1, (Int.dvd_add_left this).mpr h2⟩⟩
theorem rests_shift {a b c p : Int} (d : Int) : ((a + p) % p = 0 ∧ (b - p * d) % p = 0 ∧ (c + p) % p = 0) ↔ (a % p = 0 ∧ b % p = 0 ∧ c % p = 0) := by
  have e : b - p * d = b + p * -d := by rw [Int.mul_neg]; omega
  rw [Int.add_emod_right, Int.add_emod_right, e, Int.add_mul_emod_self_left]
end QR
/-! part m_say -/
/-! sayings, and how they are read -/
inductive Say where
  | sq (n : Int)
  | rt (a b c m : Int)
  | re (m r : Int)
  | fo (n : Int)
  | no (s : Say)
  | an (s t : Say)
  | ou (s t : Say)
/-- a word that is an integer -/
def isIW (w : Str) : Bool :=
  let l := w.cps.toList
  let d := if l.take 1 = [45] then l.drop 1 else l
  if d = [] ∨ 4 < d.length ∨ ¬ (d.all fun c => decide (48 ≤ c ∧ c ≤ 57)) = true then false else decide ((d = [48] ∧ l = [48]) ∨ d.head? ≠ some 48)
def valL (l : List Nat) : Nat := l.foldl (fun acc c => acc * 10 + (c - 48)) 0
def iVal (w : Str) : Int := if w.cps.toList.take 1 = [45] then -((valL (w.cps.toList.drop 1) : Nat) : Int) else ((valL w.cps.toList : Nat) : Int)
theorem txI_all : (List.range 2001).all (fun i => isIW (txI ((i : Int) - 1000)) && decide (iVal (txI ((i : Int) - 1000)) = (i : Int) - 1000) && decide (32 ∉ (txI ((i : Int) - 1000)).cps.toList) && decide ((txI ((i : Int) - 1000)).length ≤ 5)) = true := by decide +kernel
theorem txI_word {n : Int} (h1 : -1000 ≤ n) (h2 : n ≤ 1000) : isIW (txI n) = true ∧ iVal (txI n) = n ∧ 32 ∉ (txI n).cps.toList ∧ (txI n).length ≤ 5 := by
  have h := List.all_eq_true.mp txI_all (n + 1000).toNat (List.mem_range.mpr (by omega))
  simp only [Bool.and_eq_true, decide_eq_true_eq] at h
  rw [show (((n + 1000).toNat : Nat) : Int) - 1000 = n by omega] at h
  exact ⟨h.1.1.1, h.1.1.2, h.1.2, h.2⟩
theorem isIW_val {w : Str} (h : isIW w = true) : intText? w = some (iVal w) ∧ w.length ≤ 5 := by
  unfold isIW at h
  dsimp only at h
  have hl : w.cps.toList.length = w.length := by simp [Str.length]
  unfold iVal
  by_cases hm : w.cps.toList.take 1 = [45]
  · rw [if_pos hm] at h ⊢
    by_cases hd : w.cps.toList.drop 1 = [] ∨ 4 < (w.cps.toList.drop 1).length ∨ ¬ ((w.cps.toList.drop 1).all fun c => decide (48 ≤ c ∧ c ≤ 57)) = true
    · rw [if_pos hd] at h
      cases h
    · simp only [not_or, Decidable.not_not] at hd
      obtain ⟨d1, d2, d3⟩ := hd
      have e : w.cps.toList = 45 :: w.cps.toList.drop 1 := by
        cases hw : w.cps.toList with
        | nil => rw [hw] at hm; cases hm
        | cons c cs =>
          rw [hw] at hm
          have : c = 45 := by simpa using hm
          rw [this]
          rfl
      have ln : w.length ≤ 5 := by
        have := congrArg List.length e
        rw [List.length_cons, hl] at this
        omega
      exact ⟨PySem.intText_neg e (fun c hc => by simpa using List.all_eq_true.mp d3 c hc) d1 (by omega), ln⟩
  · rw [if_neg hm] at h ⊢
    by_cases hd : w.cps.toList = [] ∨ 4 < w.cps.toList.length ∨ ¬ (w.cps.toList.all fun c => decide (48 ≤ c ∧ c ≤ 57)) = true
    · rw [if_pos hd] at h
      cases h
    · simp only [not_or, Decidable.not_not] at hd
      obtain ⟨d1, d2, d3⟩ := hd
      exact ⟨PySem.intText_digits (fun c hc => by simpa using List.all_eq_true.mp d3 c hc) d1 (by omega), by omega⟩
def rdN (ws : List Str) (i : Nat) (lo hi : Int) : Except Nat Int := match ws[i]? with
  | none => .error i
  | some w => if isIW w = true ∧ lo ≤ iVal w ∧ iVal w ≤ hi then .ok (iVal w) else .error i
def rdT (ws : List Str) (i : Nat) (v : Str) : Except Nat Unit := match ws[i]? with
  | none => .error i
  | some w => if w = v then .ok () else .error i
def rdF (ws : List Str) (i : Nat) : Except Nat Int := match ws[i]? with
  | none => .error i
  | some w => if w = "0" then .error i else rdN ws i (-20) 20
/-- a saying without parts, behind its first word -/
def rdP (ws : List Str) (i : Nat) (w : Str) : Except Nat (Say × Nat) :=
  if w = "square" then do
    let n ← rdN ws i (-1000) 1000
    return (.sq n, 1)
  else if w = "form" then do
    let n ← rdN ws i 1 60
    return (.fo n, 1)
  else if w = "rest" then do
    let m ← rdN ws i 1 400
    rdT ws (i + 1) "is"
    let r ← rdN ws (i + 2) 0 (m - 1)
    return (.re m r, 3)
  else do
    let a ← rdF ws i
    let b ← rdN ws (i + 1) (-20) 20
    let c ← rdN ws (i + 2) (-20) 20
    rdT ws (i + 3) "are"
    let m ← rdN ws (i + 4) 0 2
    return (.rt a b c m, 5)
def plainW (w : Str) : Prop := w = "square" ∨ w = "form" ∨ w = "rest" ∨ w = "roots"
instance (w : Str) : Decidable (plainW w) := inferInstanceAs (Decidable (_ ∨ _ ∨ _ ∨ _))
/-- one saying within so many open brackets, and the place behind it -/
def rdS : Nat → List Str → Nat → Nat → Except Nat (Say × Nat)
  | 0, _, i, _ => .error i
  | f + 1, ws, i, d => match ws[i]? with
    | none => .error i
    | some w =>
      if plainW w then do
        let (s, k) ← rdP ws (i + 1) w
        return (s, i + 1 + k)
      else if w = "not" then do
        let (s, j) ← rdS f ws (i + 1) d
        return (.no s, j)
      else if w ≠ "(" ∨ d = 8 then .error i
      else do
        let (s, m) ← rdS f ws (i + 1) (d + 1)
        match ws[m]? with
        | none => .error m
        | some v =>
          if v ≠ "and" ∧ v ≠ "or" then .error m
          else do
            let (t, l) ← rdS f ws (m + 1) (d + 1)
            rdT ws l ")"
            return (if v = "and" then .an s t else .ou s t, l + 1)
/-- all words are read -/
def rdAll (ws : List Str) : Except Nat Say := do
  let (s, l) ← rdS 200 ws 0 0
  if l < ws.length then .error l else .ok s
theorem rdN_ok {ws : List Str} {i : Nat} {lo hi n : Int} (h : rdN ws i lo hi = .ok n) : i < ws.length ∧ lo ≤ n ∧ n ≤ hi := by
  unfold rdN at h
  split at h
  · cases h
  · rename_i w hw
    split at h
    · rename_i hc
      cases h
      exact ⟨(List.getElem?_eq_some_iff.mp hw).1, hc.2⟩
    · cases h
theorem rdT_ok {ws : List Str} {i : Nat} {v : Str} (h : rdT ws i v = .ok ()) : i < ws.length := by
  unfold rdT at h
  split at h
  · cases h
  · rename_i w hw
    exact (List.getElem?_eq_some_iff.mp hw).1
theorem rdF_ok {ws : List Str} {i : Nat} {n : Int} (h : rdF ws i = .ok n) : i < ws.length ∧ -20 ≤ n ∧ n ≤ 20 := by
  unfold rdF at h
  split at h
  · cases h
  · split at h
    · cases h
    · exact rdN_ok h
theorem bindE {α β : Type} {x : Except Nat α} {f : α → Except Nat β} {y : β} (h : (x >>= f) = .ok y) : ∃ a, x = .ok a ∧ f a = .ok y := by
  cases x with
  | error k => cases h
  | ok a => exact ⟨a, rfl, h⟩
theorem rdP_ok {ws : List Str} {i : Nat} {w : Str} {s : Say} {k : Nat} (h : rdP ws i w = .ok (s, k)) : i + k ≤ ws.length := by
  unfold rdP at h
  split at h
  · obtain ⟨n, h1, h2⟩ := bindE h
    cases h2
    exact (rdN_ok h1).1
  · split at h
    · obtain ⟨n, h1, h2⟩ := bindE h
      cases h2
      exact (rdN_ok h1).1
    · split at h
      · obtain ⟨m, h1, h⟩ := bindE h
        obtain ⟨_, h2, h⟩ := bindE h
        obtain ⟨r, h3, h4⟩ := bindE h
        cases h4
        exact (rdN_ok h3).1
      · obtain ⟨a, h1, h⟩ := bindE h
        obtain ⟨b, h2, h⟩ := bindE h
        obtain ⟨c, h3, h⟩ := bindE h
        obtain ⟨_, h4, h⟩ := bindE h
        obtain ⟨m, h5, h6⟩ := bindE h
        cases h6
        exact (rdN_ok h5).1
theorem rdS_lt : ∀ {f : Nat} {ws : List Str} {i d j : Nat} {s : Say}, rdS f ws i d = .ok (s, j) → i < j
  | 0, _, _, _, _, _, h => by cases h
  | f + 1, ws, i, d, j, s, h => by
    rw [rdS] at h
    split at h
    · cases h
    · split at h
      · obtain ⟨⟨t, k⟩, h1, h2⟩ := bindE h
        cases h2
        omega
      · split at h
        · obtain ⟨⟨t, k⟩, h1, h2⟩ := bindE h
          cases h2
          have := rdS_lt h1
          omega
        · split at h
          · cases h
          · obtain ⟨⟨t, m⟩, h1, h⟩ := bindE h
            have l1 := rdS_lt h1
            dsimp only at h
            split at h
            · cases h
            · split at h
              · cases h
              · obtain ⟨⟨u, l⟩, h2, h⟩ := bindE h
                have l2 := rdS_lt h2
                obtain ⟨_, h3, h4⟩ := bindE h
                cases h4
                omega
/-- what a saying that was read is like -/
def Say.fit : Say → Prop
  | .sq n => -1000 ≤ n ∧ n ≤ 1000
  | .rt a b c m => (-20 ≤ a ∧ a ≤ 20) ∧ (-20 ≤ b ∧ b ≤ 20) ∧ (-20 ≤ c ∧ c ≤ 20) ∧ 0 ≤ m ∧ m ≤ 2
  | .re m r => 1 ≤ m ∧ m ≤ 400 ∧ 0 ≤ r ∧ r < m
  | .fo n => 1 ≤ n ∧ n ≤ 60
  | .no s => s.fit
  | .an s t => s.fit ∧ t.fit
  | .ou s t => s.fit ∧ t.fit
def Say.dep : Say → Nat
  | .no s => s.dep + 1
  | .an s t => max s.dep t.dep + 1
  | .ou s t => max s.dep t.dep + 1
  | _ => 0
/-- the words of a saying -/
def Say.words : Say → List Str
  | .sq n => ["square", txI n]
  | .rt a b c m => ["roots", txI a, txI b, txI c, "are", txI m]
  | .re m r => ["rest", txI m, "is", txI r]
  | .fo n => ["form", txI n]
  | .no s => "not" :: s.words
  | .an s t => ("(" : Str) :: (s.words ++ ("and" : Str) :: (t.words ++ ([")"] : List Str)))
  | .ou s t => ("(" : Str) :: (s.words ++ ("or" : Str) :: (t.words ++ ([")"] : List Str)))
def Say.opn : Say → Nat
  | .no s => s.opn
  | .an s t => max s.opn t.opn + 1
  | .ou s t => max s.opn t.opn + 1
  | _ => 0
/-! part m_say2 -/
theorem at_drop {ws : List Str} {i : Nat} {w : Str} {r : List Str} (h : ws.drop i = w :: r) : ws[i]? = some w ∧ ws.drop (i + 1) = r := by
  have e := List.getElem?_drop (xs := ws) (i := i) (j := 0)
  rw [h] at e
  refine ⟨e.symm, ?_⟩
  rw [← List.drop_drop, h]
  rfl
theorem rdN_tx {ws : List Str} {i : Nat} {lo hi n : Int} {r : List Str} (h : ws.drop i = txI n :: r) (h1 : lo ≤ n) (h2 : n ≤ hi) (l : -1000 ≤ lo) (u : hi ≤ 1000) : rdN ws i lo hi = .ok n := by
  have t := txI_word (n := n) (by omega) (by omega)
  unfold rdN
  rw [(at_drop h).1]
  show (if _ then _ else _) = _
  rw [if_pos (by rw [t.2.1]; exact ⟨t.1, h1, h2⟩), t.2.1]
theorem rdT_at {ws : List Str} {i : Nat} {v : Str} {r : List Str} (h : ws.drop i = v :: r) : rdT ws i v = .ok () := by
  unfold rdT
  rw [(at_drop h).1]
  exact if_pos rfl
theorem txI_zero {n : Int} (h1 : -1000 ≤ n) (h2 : n ≤ 1000) (h : n ≠ 0) : txI n ≠ "0" := fun e => by
  have t := (txI_word h1 h2).2.1
  rw [e] at t
  have : iVal "0" = 0 := by decide +kernel
  omega
/-- the numbers of a saying, and its first number other than 0 -/
def Say.good : Say → Prop
  | .sq n => -1000 ≤ n ∧ n ≤ 1000
  | .rt a b c m => a ≠ 0 ∧ (-20 ≤ a ∧ a ≤ 20) ∧ (-20 ≤ b ∧ b ≤ 20) ∧ (-20 ≤ c ∧ c ≤ 20) ∧ 0 ≤ m ∧ m ≤ 2
  | .re m r => 1 ≤ m ∧ m ≤ 400 ∧ 0 ≤ r ∧ r < m
  | .fo n => 1 ≤ n ∧ n ≤ 60
  | .no s => s.good
  | .an s t => s.good ∧ t.good
  | .ou s t => s.good ∧ t.good
theorem w1 : plainW "square" ∧ plainW "form" ∧ plainW "rest" ∧ plainW "roots" ∧ ¬ plainW "not" ∧ ¬ plainW "(" ∧ ¬ ("(" : Str) = "not" ∧ ¬ ("form" : Str) = "square" ∧ ¬ ("rest" : Str) = "square" ∧ ¬ ("rest" : Str) = "form" ∧ ¬ ("roots" : Str) = "square" ∧ ¬ ("roots" : Str) = "form" ∧ ¬ ("roots" : Str) = "rest" ∧ ¬ ("or" : Str) = "and" := by decide +kernel
theorem rdS_words : ∀ (s : Say), s.good → ∀ (f i d : Nat) (ws r : List Str), s.opn + d ≤ 8 → s.words.length ≤ f → ws.drop i = s.words ++ r → rdS f ws i d = .ok (s, i + s.words.length) := by
  obtain ⟨p1, p2, p3, p4, p5, p6, p7, p8, p9, p10, p11, p12, p13, p14⟩ := w1
  intro s
  induction s with
  | sq n =>
    intro g f i d ws r hd hf hw
    obtain ⟨f, rfl⟩ : ∃ k, f = k + 1 := ⟨f - 1, by have : 2 ≤ f := hf; omega⟩
    have h0 := at_drop (w := "square") hw
    rw [rdS, h0.1]
    dsimp only
    rw [if_pos p1, rdP, if_pos rfl, rdN_tx h0.2 g.1 g.2 (by omega) (by omega)]
    rfl
  | fo n =>
    intro g f i d ws r hd hf hw
    obtain ⟨f, rfl⟩ : ∃ k, f = k + 1 := ⟨f - 1, by have : 2 ≤ f := hf; omega⟩
    have h0 := at_drop (w := "form") hw
    rw [rdS, h0.1]
    dsimp only
    rw [if_pos p2, rdP, if_neg p8, if_pos rfl, rdN_tx h0.2 g.1 g.2 (by omega) (by omega)]
    rfl
  | re m q =>
    intro g f i d ws r hd hf hw
    obtain ⟨f, rfl⟩ : ∃ k, f = k + 1 := ⟨f - 1, by have : 4 ≤ f := hf; omega⟩
    obtain ⟨g1, g2, g3, g4⟩ := g
    have h0 := at_drop (w := "rest") hw
    have h1 := at_drop h0.2
    have h2 := at_drop h1.2
    rw [rdS, h0.1]
    dsimp only
    rw [if_pos p3, rdP, if_neg p9, if_neg p10, if_pos rfl, rdN_tx h0.2 g1 g2 (by omega) (by omega)]
    show (do let _ ← (do rdT ws (i + 1 + 1) "is"; let r ← rdN ws (i + 1 + 2) 0 (m - 1); return (Say.re m r, 3)); _) = _
    rw [rdT_at h1.2]
    show (do let _ ← (do let r ← rdN ws (i + 1 + 2) 0 (m - 1); return (Say.re m r, 3)); _) = _
    rw [rdN_tx h2.2 g3 (by omega) (by omega) (by omega)]
    rfl
  | rt a b c m =>
    intro g f i d ws r hd hf hw
    obtain ⟨f, rfl⟩ : ∃ k, f = k + 1 := ⟨f - 1, by have : 6 ≤ f := hf; omega⟩
    obtain ⟨g0, g1, g2, g3, g4, g5⟩ := g
    have h0 := at_drop (w := "roots") hw
    have h1 := at_drop h0.2
    have h2 := at_drop h1.2
    have h3 := at_drop h2.2
    have h4 := at_drop h3.2
    have ef : rdF ws (i + 1) = .ok a := by
      unfold rdF
      rw [h1.1]
      dsimp only
      rw [if_neg (txI_zero (by omega) (by omega) g0)]
      exact rdN_tx h0.2 g1.1 g1.2 (by omega) (by omega)
    have eb : rdN ws (i + 1 + 1) (-20) 20 = .ok b := rdN_tx h1.2 g2.1 g2.2 (by omega) (by omega)
    have ec : rdN ws (i + 1 + 2) (-20) 20 = .ok c := rdN_tx h2.2 g3.1 g3.2 (by omega) (by omega)
    have et : rdT ws (i + 1 + 3) "are" = .ok () := rdT_at h3.2
    have em : rdN ws (i + 1 + 4) 0 2 = .ok m := rdN_tx h4.2 g4 g5 (by omega) (by omega)
    rw [rdS, h0.1]
    dsimp only
    rw [if_pos p4, rdP, if_neg p11, if_neg p12, if_neg p13, ef, eb, ec, et, em]
    rfl
  | no s ih =>
    intro g f i d ws r hd hf hw
    obtain ⟨f, rfl⟩ : ∃ k, f = k + 1 := ⟨f - 1, by have : s.words.length + 1 ≤ f := hf; omega⟩
    have h0 := at_drop (w := "not") hw
    have e := ih g f (i + 1) d ws r hd (by have : s.words.length + 1 ≤ f + 1 := hf; omega) h0.2
    rw [rdS, h0.1]
    dsimp only
    rw [if_neg p5, if_pos rfl, e]
    show Except.ok (Say.no s, i + 1 + s.words.length) = Except.ok (Say.no s, i + (s.words.length + 1))
    rw [Nat.add_assoc, Nat.add_comm 1]
  | an s t ihs iht =>
    intro g f i d ws r hd hf hw
    have hf2 : s.words.length + (t.words.length + 1 + 1) + 1 ≤ f := by simpa [Say.words] using hf
    have hd2 : max s.opn t.opn + 1 + d ≤ 8 := hd
    obtain ⟨f, rfl⟩ : ∃ k, f = k + 1 := ⟨f - 1, by omega⟩
    have hw2 : ws.drop i = ("(" : Str) :: (s.words ++ (("and" : Str) :: (t.words ++ (")" : Str) :: r))) := by simpa [Say.words] using hw
    have h0 := at_drop hw2
    have e1 := ihs g.1 f (i + 1) (d + 1) ws _ (by omega) (by omega) h0.2
    have hm : ws.drop (i + 1 + s.words.length) = ("and" : Str) :: (t.words ++ (")" : Str) :: r) := by
      rw [← List.drop_drop, h0.2, List.drop_left]
    have h1 := at_drop hm
    have e2 := iht g.2 f (i + 1 + s.words.length + 1) (d + 1) ws _ (by omega) (by omega) h1.2
    have hl : ws.drop (i + 1 + s.words.length + 1 + t.words.length) = (")" : Str) :: r := by
      rw [← List.drop_drop, h1.2, List.drop_left]
    have e3 := rdT_at hl
    rw [rdS, h0.1]
    dsimp only
    rw [if_neg p6, if_neg p7, if_neg (fun z => z.elim (fun z => z rfl) fun z => by omega), e1]
    show (match ws[i + 1 + s.words.length]? with | none => _ | some v => _) = _
    rw [h1.1]
    show (if _ then _ else _) = _
    rw [if_neg (by simp), e2]
    show (do rdT ws _ ")"; _) = _
    rw [e3]
    show Except.ok (_, _) = Except.ok (_, _)
    rw [if_pos rfl]
    refine congrArg (fun z => Except.ok (Say.an s t, z)) ?_
    simp [Say.words]
    omega
  | ou s t ihs iht =>
    intro g f i d ws r hd hf hw
    have hf2 : s.words.length + (t.words.length + 1 + 1) + 1 ≤ f := by simpa [Say.words] using hf
    have hd2 : max s.opn t.opn + 1 + d ≤ 8 := hd
    obtain ⟨f, rfl⟩ : ∃ k, f = k + 1 := ⟨f - 1, by omega⟩
    have hw2 : ws.drop i = ("(" : Str) :: (s.words ++ (("or" : Str) :: (t.words ++ (")" : Str) :: r))) := by simpa [Say.words] using hw
    have h0 := at_drop hw2
    have e1 := ihs g.1 f (i + 1) (d + 1) ws _ (by omega) (by omega) h0.2
    have hm : ws.drop (i + 1 + s.words.length) = ("or" : Str) :: (t.words ++ (")" : Str) :: r) := by
      rw [← List.drop_drop, h0.2, List.drop_left]
    have h1 := at_drop hm
    have e2 := iht g.2 f (i + 1 + s.words.length + 1) (d + 1) ws _ (by omega) (by omega) h1.2
    have hl : ws.drop (i + 1 + s.words.length + 1 + t.words.length) = (")" : Str) :: r := by
      rw [← List.drop_drop, h1.2, List.drop_left]
    have e3 := rdT_at hl
    rw [rdS, h0.1]
    dsimp only
    rw [if_neg p6, if_neg p7, if_neg (fun z => z.elim (fun z => z rfl) fun z => by omega), e1]
    show (match ws[i + 1 + s.words.length]? with | none => _ | some v => _) = _
    rw [h1.1]
    show (if _ then _ else _) = _
    rw [if_neg (by simp), e2]
    show (do rdT ws _ ")"; _) = _
    rw [e3]
    show Except.ok (_, _) = Except.ok (_, _)
    rw [if_neg p14]
    refine congrArg (fun z => Except.ok (Say.ou s t, z)) ?_
    simp [Say.words]
    omega
theorem rdAll_words {s : Say} (g : s.good) (h : s.opn ≤ 8) (l : s.words.length ≤ 200) : rdAll s.words = .ok s := by
  unfold rdAll
  rw [rdS_words s g 200 0 0 s.words [] (by omega) l (by simp)]
  show (if _ then _ else _) = _
  rw [if_neg (by omega)]
theorem Say.words_ne : ∀ s : Say, s.words ≠ []
  | .sq _ => by simp [Say.words]
  | .rt .. => by simp [Say.words]
  | .re .. => by simp [Say.words]
  | .fo _ => by simp [Say.words]
  | .no _ => by simp [Say.words]
  | .an .. => by simp [Say.words]
  | .ou .. => by simp [Say.words]
theorem lits32 : ∀ w ∈ (["square", "roots", "are", "rest", "is", "form", "not", "(", ")", "and", "or"] : List Str), 32 ∉ w.cps.toList ∧ w.length ≤ 6 := by decide +kernel
theorem Say.words_ok : ∀ (s : Say), s.good → ∀ w ∈ s.words, 32 ∉ w.cps.toList ∧ w.length ≤ 6 := by
  have tx : ∀ {n : Int}, -1000 ≤ n → n ≤ 1000 → 32 ∉ (txI n).cps.toList ∧ (txI n).length ≤ 6 := fun h1 h2 => by
    have := txI_word h1 h2
    exact ⟨this.2.2.1, by omega⟩
  have lit : ∀ w ∈ (["square", "roots", "are", "rest", "is", "form", "not", "(", ")", "and", "or"] : List Str), 32 ∉ w.cps.toList ∧ w.length ≤ 6 := lits32
  intro s
  induction s with
  | sq n =>
    intro g w hw
    simp only [Say.words, List.mem_cons, List.not_mem_nil, or_false] at hw
    rcases hw with rfl | rfl
    · exact lit _ (by simp)
    · exact tx g.1 g.2
  | fo n =>
    intro g w hw
    have g1 := g.1
    have g2 := g.2
    simp only [Say.words, List.mem_cons, List.not_mem_nil, or_false] at hw
    rcases hw with rfl | rfl
    · exact lit _ (by simp)
    · exact tx (by omega) (by omega)
  | re m q =>
    intro g w hw
    obtain ⟨g1, g2, g3, g4⟩ := g
    simp only [Say.words, List.mem_cons, List.not_mem_nil, or_false] at hw
    rcases hw with rfl | rfl | rfl | rfl
    · exact lit _ (by simp)
    · exact tx (by omega) (by omega)
    · exact lit _ (by simp)
    · exact tx (by omega) (by omega)
  | rt a b c m =>
    intro g w hw
    obtain ⟨g0, g1, g2, g3, g4, g5⟩ := g
    simp only [Say.words, List.mem_cons, List.not_mem_nil, or_false] at hw
    rcases hw with rfl | rfl | rfl | rfl | rfl | rfl
    · exact lit _ (by simp)
    · exact tx (by omega) (by omega)
    · exact tx (by omega) (by omega)
    · exact tx (by omega) (by omega)
    · exact lit _ (by simp)
    · exact tx (by omega) (by omega)
  | no s ih =>
    intro g w hw
    rcases List.mem_cons.mp hw with rfl | hw
    · exact lit _ (by simp)
    · exact ih g w hw
  | an s t ihs iht =>
    intro g w hw
    simp only [Say.words, List.mem_cons, List.mem_append, List.not_mem_nil, or_false] at hw
    rcases hw with rfl | hw | rfl | hw | rfl
    · exact lit _ (by simp)
    · exact ihs g.1 w hw
    · exact lit _ (by simp)
    · exact iht g.2 w hw
    · exact lit _ (by simp)
  | ou s t ihs iht =>
    intro g w hw
    simp only [Say.words, List.mem_cons, List.mem_append, List.not_mem_nil, or_false] at hw
    rcases hw with rfl | hw | rfl | hw | rfl
    · exact lit _ (by simp)
    · exact ihs g.1 w hw
    · exact lit _ (by simp)
    · exact iht g.2 w hw
    · exact lit _ (by simp)
/-! part m_rows -/
/-- the list that a list of tuples holds -/
def RowsAt (H : Hp) : List Addr → List (List V) → Prop
  | [], [] => True
  | t :: ts, l :: ls => H t = some (.tup l) ∧ RowsAt H ts ls
  | _, _ => False
theorem RowsAt.mono {H H' : Hp} (s : Same H H') : ∀ {ts : List Addr} {ls : List (List V)}, RowsAt H ts ls → RowsAt H' ts ls
  | [], [], _ => trivial
  | _ :: _, _ :: _, h => ⟨s _ _ h.1, RowsAt.mono s h.2⟩
  | [], _ :: _, h => h.elim
  | _ :: _, [], h => h.elim
theorem RowsAt.len {H : Hp} : ∀ {ts : List Addr} {ls : List (List V)}, RowsAt H ts ls → ts.length = ls.length
  | [], [], _ => rfl
  | _ :: _, _ :: _, h => by rw [List.length_cons, List.length_cons, RowsAt.len h.2]
  | [], _ :: _, h => h.elim
  | _ :: _, [], h => h.elim
theorem RowsAt.snoc {H : Hp} {t : Addr} {l : List V} (ht : H t = some (.tup l)) : ∀ {ts : List Addr} {ls : List (List V)}, RowsAt H ts ls → RowsAt H (ts ++ [t]) (ls ++ [l])
  | [], [], _ => ⟨ht, trivial⟩
  | _ :: _, _ :: _, h => ⟨h.1, RowsAt.snoc ht h.2⟩
  | [], _ :: _, h => h.elim
  | _ :: _, [], h => h.elim
theorem RowsAt.other {H : Hp} {p : Addr} {xs : List V} {o : HO} (hp : H p = some (.lst xs)) : ∀ {ts : List Addr} {ls : List (List V)}, RowsAt H ts ls → RowsAt (upd H p o) ts ls
  | [], [], _ => trivial
  | t :: _, _ :: _, h => ⟨by
      rw [upd_ne (ne_of h.1 hp (by intro z; cases z))]
      exact h.1, RowsAt.other hp h.2⟩
  | [], _ :: _, h => h.elim
  | _ :: _, [], h => h.elim
theorem RowsAt.at {H : Hp} : ∀ {ts : List Addr} {ls : List (List V)} {i : Nat} {v : V}, RowsAt H ts ls → (ts.map V.ref)[i]? = some v → ∃ (t : Addr) (l : List V), v = .ref t ∧ H t = some (.tup l) ∧ ls[i]? = some l
  | t :: ts, l :: ls, 0, v, h, e => ⟨t, l, (Option.some.inj e).symm, h.1, rfl⟩
  | t :: ts, l :: ls, i + 1, v, h, e => RowsAt.at h.2 (i := i) e
  | [], _, _, _, _, e => by cases e
  | _ :: _, [], _, _, h, _ => h.elim
theorem RowsAt.rig {H : Hp} {ts : List Addr} {ls : List (List V)} (h : RowsAt H ts ls) : Rig (fun G => RowsAt G ts ls) H := fun G k => by
  induction ts generalizing ls with
  | nil => cases ls with
    | nil => trivial
    | cons l ls => exact h.elim
  | cons t ts ih => cases ls with
    | nil => exact h.elim
    | cons l ls => exact ⟨k _ _ rfl h.1, ih h.2⟩
/-! part m_but -/
theorem ix_in {ns : List Int} {i : Int} (h0 : 0 ≤ i) (h1 : i < ns.length) : ∃ z ∈ ns, atI (ns.map V.int) i = some (.int z) := by
  obtain ⟨n, rfl⟩ : ∃ n : Nat, i = n := ⟨i.toNat, by omega⟩
  have hn : n < ns.length := by omega
  refine ⟨ns[n], List.getElem_mem hn, atI_nat ?_⟩
  rw [List.getElem?_map, List.getElem?_eq_getElem hn]
  rfl
/-- a loop over a list or tuple that a name holds -/
theorem rd_forS {K : PySem.W.Frag} {σ : L2.St} {H : Hp} {i : Nat} {a : Addr} {xs : List V} {g : TG} {t : TS} {nx : L2.St → Hp → Prop} {rt : VK} (hv : σ[i]? = some (some (.ref a))) (hS : SqL K H a xs ∨ SqT K H a xs) (Pv : Nat → L2.St → Prop) (h0 : Pv 0 σ)
    (hs : ∀ i x σ, xs[i]? = some x → Pv i σ → g x σ H fun σ2 H2 => t ⟨fun σ' H' => H = H' ∧ Pv (i + 1) σ', rt, nx, fun σ' H' => H = H' ∧ Pv (i + 1) σ'⟩ σ2 H2) (hd : ∀ σ, Pv xs.length σ → nx σ H) :
    iAlt (iList K (tVar i)) (iTup K (tVar i)) σ H fun J H1 => fBody J g t nx rt σ H1 :=
  hS.elim (fun h => .inl (rd_var hv ⟨a, rfl, ⟨_, h⟩, rd_forLs Pv h h0 hs hd⟩)) fun h => .inr (rd_var hv ⟨a, rfl, ⟨_, h⟩, rd_forTs Pv h h0 hs hd⟩)
/-- {x: True for x in xs}, xs a list or tuple of ints that a name holds -/
theorem rd_dcS {K : PySem.W.Frag} {σ : L2.St} {H : Hp} {Q : VK} {tk tv : TE} {i : Nat} {a : Addr} {ns : List Int} {g : TG} {vs : List Nat} (hv : σ[i]? = some (some (.ref a))) (hS : SqL K H a (ns.map V.int) ∨ SqT K H a (ns.map V.int))
    (hs : ∀ D l x r, H D = none → ns = l ++ x :: r → g (.int x) (wipe σ vs) (upd H D (DFl (ofL l))) fun σ2 H2 => wipe σ2 vs = wipe σ vs ∧ tk σ2 H2 fun y H4 => tv σ2 H4 fun z H5 => DcPut H D (l ++ [x]) y z H5)
    (q : ∀ D, H D = none → Q (.ref D) (upd H D (DFl (ofL ns)))) : iAlt (iList K (tVar i)) (iTup K (tVar i)) σ H fun J H1 => dcB J g tYes tk tv vs σ Q H1 :=
  hS.elim (fun h => .inl (rd_var hv ⟨a, rfl, ⟨_, h⟩, rd_dcLF h hs q⟩)) fun h => .inr (rd_var hv ⟨a, rfl, ⟨_, h⟩, rd_dcTF h hs q⟩)
/-! part m_fault -/
/-! the place of the first fault, by a list of what is wanted (a machine that reads word by word) -/
inductive Wt where
  | saying | square | form | rest | is | modul | few | are | twenty | first | close | joint
deriving DecidableEq
def Wt.str : Wt → Str
  | .saying => "saying" | .square => "square" | .form => "form" | .rest => "rest" | .is => "is" | .modul => "modulus" | .few => "few" | .are => "are" | .twenty => "twenty" | .first => "first" | .close => ")" | .joint => "joint"
def numW (w : Str) (lo hi : Int) : Prop := isIW w = true ∧ lo ≤ iVal w ∧ iVal w ≤ hi
instance (w : Str) (lo hi : Int) : Decidable (numW w lo hi) := inferInstanceAs (Decidable (_ ∧ _))
/-- what a word is to be where a number is wanted -/
def Wt.fits (m : Int) (w : Str) : Wt → Prop
  | .square => numW w (-1000) 1000
  | .form => numW w 1 60
  | .modul => numW w 1 400
  | .first => numW w (-20) 20 ∧ w ≠ "0"
  | .twenty => numW w (-20) 20
  | .few => numW w 0 2
  | .rest => numW w 0 (m - 1)
  | .joint => w = "and" ∨ w = "or"
  | .is => w = "is"
  | .are => w = "are"
  | .close => w = ")"
  | .saying => False
instance (m : Int) (w : Str) (t : Wt) : Decidable (t.fits m w) := by
  cases t <;> unfold Wt.fits <;> infer_instance
def stepM (st : List Wt) (o m : Int) (w : Str) : Option (List Wt × Int × Int) := match st with
  | [] => none
  | .saying :: r =>
    if w = "square" then some (.square :: r, o, m)
    else if w = "form" then some (.form :: r, o, m)
    else if w = "rest" then some (.modul :: .is :: .rest :: r, o, m)
    else if w = "roots" then some (.first :: .twenty :: .twenty :: .are :: .few :: r, o, m)
    else if w = "not" then some (.saying :: r, o, m)
    else if w = "(" ∧ o < 8 then some (.saying :: .joint :: .saying :: .close :: r, o + 1, m)
    else none
  | t :: r => if t.fits m w then some (r, if t = .close then o - 1 else o, if t = .modul then iVal w else m) else none
def runM : List Str → Nat → List Wt → Int → Int → Option Nat
  | [], i, st, _, _ => if st = [] then none else some i
  | w :: ws, i, st, o, m => match stepM st o m w with
    | none => some i
    | some (st', o', m') => runM ws (i + 1) st' o' m'
def faultM (ws : List Str) : Option Nat := runM ws 0 [.saying] 0 1
theorem runM_none {ws : List Str} {i : Nat} {st : List Wt} {o m : Int} (h : ws[i]? = none) (hs : st ≠ []) : i ≥ ws.length → runM (ws.drop i) i st o m = some i := fun hl => by
  rw [List.drop_eq_nil_of_le hl, runM, if_neg hs]
theorem runM_some {ws : List Str} {i : Nat} {st : List Wt} {o m : Int} {w : Str} (h : ws[i]? = some w) : runM (ws.drop i) i st o m = match stepM st o m w with
    | none => some i
    | some (st', o', m') => runM (ws.drop (i + 1)) (i + 1) st' o' m' := by
  obtain ⟨hl, hw⟩ := List.getElem?_eq_some_iff.mp h
  rw [List.drop_eq_getElem_cons hl, hw, runM]
/-- a word that is wanted for itself or as a number -/
theorem runM_fit {ws : List Str} {i : Nat} {t : Wt} {r : List Wt} {o m : Int} (ht : t ≠ .saying) : runM (ws.drop i) i (t :: r) o m = match ws[i]? with
    | none => some i
    | some w => if t.fits m w then runM (ws.drop (i + 1)) (i + 1) r (if t = .close then o - 1 else o) (if t = .modul then iVal w else m) else some i := by
  cases h : ws[i]? with
  | none => exact runM_none h (by simp) (List.getElem?_eq_none_iff.mp h)
  | some w =>
    rw [runM_some h]
    have e : stepM (t :: r) o m w = if t.fits m w then some (r, if t = .close then o - 1 else o, if t = .modul then iVal w else m) else none := by
      cases t <;> first | exact absurd rfl ht | rfl
    rw [e]
    by_cases hf : t.fits m w
    · simp only [if_pos hf]
    · simp only [if_neg hf]
/-- the machine goes on as the reader does -/
def Goes {α : Type} (ws : List Str) (x : Except Nat α) (a : Option Nat) (b : α → Option Nat) : Prop := match x with
  | .error k => a = some k
  | .ok y => a = b y
theorem Goes.bind {α β : Type} {ws : List Str} {x : Except Nat α} {f : α → Except Nat β} {a : Option Nat} {b : α → Option Nat} {c : β → Option Nat} (h : Goes ws x a b) (k : ∀ y, x = .ok y → Goes ws (f y) (b y) c) : Goes ws (x >>= f) a c := by
  cases x with
  | error e => exact h
  | ok y =>
    have h2 := k y rfl
    have h1 : a = b y := h
    rw [h1]
    exact h2
theorem goes_num {ws : List Str} {i : Nat} {t : Wt} {r : List Wt} {o m lo hi : Int} (ht : t ≠ .saying) (hf : ∀ w, t.fits m w ↔ numW w lo hi) (hc : t ≠ .close) : Goes ws (rdN ws i lo hi) (runM (ws.drop i) i (t :: r) o m) (fun n => runM (ws.drop (i + 1)) (i + 1) r o (if t = .modul then n else m)) := by
  rw [runM_fit ht]
  unfold rdN
  cases h : ws[i]? with
  | none => exact rfl
  | some w =>
    dsimp only
    by_cases hn : numW w lo hi
    · rw [if_pos ((hf w).mpr hn), if_pos (show isIW w = true ∧ lo ≤ iVal w ∧ iVal w ≤ hi from hn), if_neg hc]
      exact rfl
    · rw [if_neg (fun z => hn ((hf w).mp z)), if_neg (show ¬ (isIW w = true ∧ lo ≤ iVal w ∧ iVal w ≤ hi) from hn)]
      exact rfl
theorem goes_word {ws : List Str} {i : Nat} {t : Wt} {r : List Wt} {o m : Int} {v : Str} (ht : t ≠ .saying) (hm : t ≠ .modul) (hf : ∀ w, t.fits m w ↔ w = v) : Goes ws (rdT ws i v) (runM (ws.drop i) i (t :: r) o m) (fun _ => runM (ws.drop (i + 1)) (i + 1) r (if t = .close then o - 1 else o) m) := by
  rw [runM_fit ht]
  unfold rdT
  cases h : ws[i]? with
  | none => exact rfl
  | some w =>
    dsimp only
    by_cases hn : w = v
    · rw [if_pos ((hf w).mpr hn), if_pos hn, if_neg hm]
      exact rfl
    · rw [if_neg (fun z => hn ((hf w).mp z)), if_neg hn]
      exact rfl
theorem goes_first {ws : List Str} {i : Nat} {r : List Wt} {o m : Int} : Goes ws (rdF ws i) (runM (ws.drop i) i (.first :: r) o m) (fun _ => runM (ws.drop (i + 1)) (i + 1) r o m) := by
  rw [runM_fit (by decide)]
  unfold rdF
  cases h : ws[i]? with
  | none => exact rfl
  | some w =>
    dsimp only
    by_cases h0 : w = "0"
    · rw [if_pos h0, if_neg (show ¬ Wt.first.fits m w from fun z => z.2 h0)]
      exact rfl
    · rw [if_neg h0]
      unfold rdN
      rw [h]
      dsimp only
      by_cases hn : numW w (-20) 20
      · rw [if_pos (show Wt.first.fits m w from ⟨hn, h0⟩), if_pos (show isIW w = true ∧ (-20 : Int) ≤ iVal w ∧ iVal w ≤ 20 from hn)]
        exact rfl
      · rw [if_neg (show ¬ Wt.first.fits m w from fun z => hn z.1), if_neg (show ¬ (isIW w = true ∧ (-20 : Int) ≤ iVal w ∧ iVal w ≤ 20) from hn)]
        exact rfl
/-- the same, with the modulus that was met last left open -/
def GoesE {α : Type} (x : Except Nat α) (a : Option Nat) (b : α → Int → Option Nat) : Prop := match x with
  | .error k => a = some k
  | .ok y => ∃ m', a = b y m'
theorem GoesE.bindG {α β : Type} {ws : List Str} {x : Except Nat α} {f : α → Except Nat β} {a : Option Nat} {b : α → Option Nat} {c : β → Int → Option Nat} (h : Goes ws x a b) (k : ∀ y, x = .ok y → GoesE (f y) (b y) c) : GoesE (x >>= f) a c := by
  cases x with
  | error e => exact h
  | ok y =>
    have h2 := k y rfl
    have h1 : a = b y := h
    rw [h1]
    exact h2
theorem GoesE.bind {α β : Type} {x : Except Nat α} {f : α → Except Nat β} {a : Option Nat} {b : α → Int → Option Nat} {c : β → Int → Option Nat} (h : GoesE x a b) (k : ∀ y m, x = .ok y → GoesE (f y) (b y m) c) : GoesE (x >>= f) a c := by
  cases x with
  | error e => exact h
  | ok y =>
    obtain ⟨m, h1⟩ := h
    rw [h1]
    exact k y m rfl
def plainT (w : Str) : List Wt := if w = "square" then [.square] else if w = "form" then [.form] else if w = "rest" then [.modul, .is, .rest] else [.first, .twenty, .twenty, .are, .few]
theorem goes_plain {ws : List Str} {i : Nat} {w : Str} {r : List Wt} {o m : Int} : GoesE (rdP ws i w) (runM (ws.drop i) i (plainT w ++ r) o m) (fun y m' => runM (ws.drop (i + y.2)) (i + y.2) r o m') := by
  unfold rdP plainT
  by_cases h1 : w = "square"
  · rw [if_pos h1, if_pos h1]
    exact GoesE.bindG (goes_num (by decide) (fun _ => Iff.rfl) (by decide)) fun y _ => ⟨m, rfl⟩
  · rw [if_neg h1, if_neg h1]
    by_cases h2 : w = "form"
    · rw [if_pos h2, if_pos h2]
      exact GoesE.bindG (goes_num (by decide) (fun _ => Iff.rfl) (by decide)) fun y _ => ⟨m, rfl⟩
    · rw [if_neg h2, if_neg h2]
      by_cases h3 : w = "rest"
      · rw [if_pos h3, if_pos h3]
        exact GoesE.bindG (goes_num (by decide) (fun _ => Iff.rfl) (by decide)) fun y _ =>
          GoesE.bindG (goes_word (v := "is") (by decide) (by decide) (fun _ => Iff.rfl)) fun _ _ =>
          GoesE.bindG (goes_num (lo := 0) (hi := y - 1) (by decide) (fun _ => Iff.rfl) (by decide)) fun z _ => ⟨y, rfl⟩
      · rw [if_neg h3, if_neg h3]
        exact GoesE.bindG goes_first fun a _ =>
          GoesE.bindG (goes_num (by decide) (fun _ => Iff.rfl) (by decide)) fun b _ =>
          GoesE.bindG (goes_num (by decide) (fun _ => Iff.rfl) (by decide)) fun c _ =>
          GoesE.bindG (goes_word (v := "are") (by decide) (by decide) (fun _ => Iff.rfl)) fun _ _ =>
          GoesE.bindG (goes_num (lo := 0) (hi := 2) (by decide) (fun _ => Iff.rfl) (by decide)) fun z _ => ⟨m, rfl⟩
theorem stepM_say {w : Str} {r : List Wt} {o m : Int} : stepM (.saying :: r) o m w =
    if w = "square" then some (.square :: r, o, m)
    else if w = "form" then some (.form :: r, o, m)
    else if w = "rest" then some (.modul :: .is :: .rest :: r, o, m)
    else if w = "roots" then some (.first :: .twenty :: .twenty :: .are :: .few :: r, o, m)
    else if w = "not" then some (.saying :: r, o, m)
    else if w = "(" ∧ o < 8 then some (.saying :: .joint :: .saying :: .close :: r, o + 1, m)
    else none := rfl
theorem step_plain {w : Str} {r : List Wt} {o m : Int} (h : plainW w) : stepM (.saying :: r) o m w = some (plainT w ++ r, o, m) := by
  rw [stepM_say]
  unfold plainT
  by_cases h1 : w = "square"
  · rw [if_pos h1, if_pos h1]; rfl
  · rw [if_neg h1, if_neg h1]
    by_cases h2 : w = "form"
    · rw [if_pos h2, if_pos h2]; rfl
    · rw [if_neg h2, if_neg h2]
      by_cases h3 : w = "rest"
      · rw [if_pos h3, if_pos h3]; rfl
      · rw [if_neg h3, if_neg h3]
        have h4 : w = "roots" := by
          rcases h with z | z | z | z
          · exact absurd z h1
          · exact absurd z h2
          · exact absurd z h3
          · exact z
        rw [if_pos h4]; rfl
theorem step_other {w : Str} {r : List Wt} {o m : Int} (h : ¬ plainW w) : stepM (.saying :: r) o m w = if w = "not" then some (.saying :: r, o, m) else if w = "(" ∧ o < 8 then some (.saying :: .joint :: .saying :: .close :: r, o + 1, m) else none := by
  unfold plainW at h
  simp only [not_or] at h
  rw [stepM_say, if_neg h.1, if_neg h.2.1, if_neg h.2.2.1, if_neg h.2.2.2]
theorem goes_say {ws : List Str} : ∀ (f i d : Nat) (r : List Wt) (m : Int), d ≤ 8 → ws.length < f + i → GoesE (rdS f ws i d) (runM (ws.drop i) i (.saying :: r) d m) (fun y m' => runM (ws.drop y.2) y.2 r d m')
  | 0, i, d, r, m, hd, hf => by
    show runM _ _ _ _ _ = some i
    exact runM_none (List.getElem?_eq_none_iff.mpr (by omega)) (by simp) (by omega)
  | f + 1, i, d, r, m, hd, hf => by
    unfold rdS
    cases h : ws[i]? with
    | none => exact runM_none h (by simp) (List.getElem?_eq_none_iff.mp h)
    | some w =>
      dsimp only
      rw [runM_some h]
      by_cases hp : plainW w
      · rw [if_pos hp, step_plain hp]
        exact GoesE.bind goes_plain fun y m' _ => ⟨m', rfl⟩
      · rw [if_neg hp, step_other hp]
        by_cases hn : w = "not"
        · rw [if_pos hn, if_pos hn]
          exact GoesE.bind (goes_say f (i + 1) d r m hd (by omega)) fun y m' _ => ⟨m', rfl⟩
        · rw [if_neg hn, if_neg hn]
          by_cases hb : w ≠ "(" ∨ d = 8
          · rw [if_pos hb, if_neg (fun z => by
              rcases hb with y | y
              · exact y z.1
              · omega)]
            exact rfl
          · simp only [not_or, Decidable.not_not] at hb
            rw [if_neg (fun z => by
              rcases z with y | y
              · exact y hb.1
              · exact hb.2 y), if_pos ⟨hb.1, by omega⟩]
            refine GoesE.bind (goes_say f (i + 1) (d + 1) _ m (by omega) (by omega)) fun y m' hy => ?_
            obtain ⟨s, j⟩ := y
            have hj := rdS_lt hy
            show GoesE (match ws[j]? with | none => _ | some v => _) (runM (ws.drop j) j (.joint :: .saying :: .close :: r) _ m') _
            rw [runM_fit (by decide)]
            cases hw : ws[j]? with
            | none => exact rfl
            | some v =>
              dsimp only
              by_cases hv : v ≠ "and" ∧ v ≠ "or"
              · rw [if_pos hv, if_neg (show ¬ Wt.joint.fits m' v from fun z => by
                  rcases z with z | z
                  · exact hv.1 z
                  · exact hv.2 z)]
                exact rfl
              · rw [if_neg hv, if_pos (show Wt.joint.fits m' v from by
                  by_cases z : v = "and"
                  · exact .inl z
                  · exact .inr (Decidable.byContradiction fun y => hv ⟨z, y⟩))]
                refine GoesE.bind (goes_say f (j + 1) (d + 1) (.close :: r) m' (by omega) (by omega)) fun y m2 hy => ?_
                obtain ⟨t, l⟩ := y
                refine GoesE.bindG (goes_word (v := ")") (by decide) (by decide) (fun _ => Iff.rfl)) fun _ _ => ⟨m2, ?_⟩
                rw [if_pos rfl, show (((d + 1 : Nat) : Int) - 1) = (d : Int) by omega]
/-- the reader's answer is the machine's -/
theorem fault_reads {ws : List Str} (h : ws.length < 200) : faultM ws = match rdAll ws with
    | .error k => some k
    | .ok _ => none := by
  have g := goes_say (ws := ws) 200 0 0 [] 1 (by omega) (by omega)
  unfold rdAll faultM
  rw [show runM ws 0 [.saying] 0 1 = runM (ws.drop 0) 0 [.saying] ((0 : Nat) : Int) 1 from rfl]
  cases e : rdS 200 ws 0 0 with
  | error k =>
    rw [e] at g
    exact g
  | ok y =>
    rw [e] at g
    obtain ⟨m', g⟩ := g
    obtain ⟨s, l⟩ := y
    rw [g]
    show runM (ws.drop l) l [] _ m' = match (if l < ws.length then Except.error l else Except.ok s : Except Nat Say) with
      | .error k => some k
      | .ok _ => none
    by_cases hl : l < ws.length
    · rw [if_pos hl, runM_some (List.getElem?_eq_getElem hl)]
      rfl
    · rw [if_neg hl, List.drop_eq_nil_of_le (by omega)]
      rfl
/-! part m_cut -/
theorem sIx_nn {n d : Nat} {i : Int} (h : 0 ≤ i) : HT.sIx n d (some i) = min i.toNat n := by
  unfold HT.sIx
  simp
  omega
theorem cut_map {α : Type} {f : α → V} {l : List α} {lo hi : Option Int} : ∃ m : List α, cutV (l.map f) lo hi = m.map f ∧ (∀ x ∈ m, x ∈ l) := by
  refine ⟨(l.drop (HT.sIx l.length 0 lo)).take (HT.sIx l.length l.length hi - HT.sIx l.length 0 lo), ?_, fun x hx => List.mem_of_mem_drop (List.mem_of_mem_take hx)⟩
  unfold cutV
  rw [List.length_map, List.map_take, List.map_drop]
theorem cut_len {xs : List V} {lo hi : Int} (h0 : 0 ≤ lo) (h : lo ≤ hi) : ((cutV xs (some lo) (some hi)).length : Int) ≤ hi - lo := by
  unfold cutV
  rw [sIx_nn h0, sIx_nn (by omega), List.length_take, List.length_drop]
  omega
theorem cut_last {xs : List V} {y : V} : cutV (xs ++ [y]) none (some (-1)) = xs := by
  have e : cutV (xs ++ [y]) none (some (-1)) = (xs ++ [y]).take xs.length := by
    unfold cutV
    rw [show HT.sIx (xs ++ [y]).length 0 none = 0 from rfl, List.drop_zero, show HT.sIx (xs ++ [y]).length (xs ++ [y]).length (some (-1)) = xs.length by
      unfold HT.sIx
      simp
      omega]
    simp
  rw [e]
  simp
/-! part m_menu -/
def wsum (ws : List Str) : Nat := (ws.map (fun x => x.length)).sum
def wOk (w : Str) : Prop := 32 ∉ w.cps.toList ∧ w.length ≤ 5002
theorem wOk_rep {w : Str} (h1 : 32 ∉ w.cps.toList) (h2 : w.length ≤ 2) : wOk (w ++ repS "0" (5000 : Int).toNat) := by
  refine ⟨fun h => ?_, ?_⟩
  · have h : 32 ∈ w.cps.toList ++ (repS "0" (5000 : Int).toNat).cps.toList := by
      rw [← Array.toList_append]
      exact h
    rcases List.mem_append.mp h with z | z
    · exact h1 z
    · rw [repS_list] at z
      obtain ⟨l, hl, hz⟩ := List.mem_flatten.mp z
      rw [(List.mem_replicate.mp hl).2] at hz
      exact absurd hz (by decide +kernel)
  · have e : (w ++ repS "0" (5000 : Int).toNat).length = w.length + (repS "0" (5000 : Int).toNat).length := Array.size_append
    rw [e, repS_len, show ("0" : Str).length = 1 by decide +kernel]
    show w.length + 5000 * 1 ≤ 5002
    omega
def menuS (S1 S2 : Str) : List Str := [("square" : Str), ("form" : Str), ("not" : Str), ("(" : Str), (")" : Str), ("and" : Str), ("or" : Str), ("is" : Str), ("are" : Str), ("rest" : Str), ("roots" : Str), ("0" : Str), ("-0" : Str), ("07" : Str), ("1000" : Str), ("-1001" : Str), ("1001" : Str), ("-1000" : Str), ("-21" : Str), S1, S2, ("" : Str), ("20" : Str), ("21" : Str), ("-20" : Str), ("3" : Str), ("60" : Str), ("61" : Str), ("400" : Str), ("401" : Str), ("--1" : Str), ("+1" : Str), ("1_0" : Str), ("Square" : Str), ("squares" : Str)]
theorem menu_ok {S1 S2 : Str} (h1 : wOk S1) (h2 : wOk S2) : ∀ w ∈ menuS S1 S2, wOk w := by
  have k : ∀ w ∈ ([("square" : Str), ("form" : Str), ("not" : Str), ("(" : Str), (")" : Str), ("and" : Str), ("or" : Str), ("is" : Str), ("are" : Str), ("rest" : Str), ("roots" : Str), ("0" : Str), ("-0" : Str), ("07" : Str), ("1000" : Str), ("-1001" : Str), ("1001" : Str), ("-1000" : Str), ("-21" : Str), ("" : Str), ("20" : Str), ("21" : Str), ("-20" : Str), ("3" : Str), ("60" : Str), ("61" : Str), ("400" : Str), ("401" : Str), ("--1" : Str), ("+1" : Str), ("1_0" : Str), ("Square" : Str), ("squares" : Str)] : List Str), wOk w := by
    unfold wOk
    decide +kernel
  intro w hw
  unfold menuS at hw
  by_cases e1 : w = S1
  · rw [e1]; exact h1
  by_cases e2 : w = S2
  · rw [e2]; exact h2
  refine k w ?_
  simp only [List.mem_cons, List.not_mem_nil, or_false, e1, e2, false_or] at hw ⊢
  exact hw
structure WdB (ws : List Str) (n z : Nat) : Prop where
  w : ∀ w ∈ ws, wOk w
  n : ws.length ≤ n
  z : wsum ws ≤ z
theorem cut_leW {xs : List V} {lo hi : Option Int} {n : Nat} (h : xs.length ≤ n) : (cutV xs lo hi).length ≤ n := Nat.le_trans (cutV_length xs lo hi) h
theorem wsum_app (a b : List Str) : wsum (a ++ b) = wsum a + wsum b := by
  unfold wsum
  rw [List.map_append, List.sum_append]
theorem wsum_cons (w : Str) (b : List Str) : wsum (w :: b) = w.length + wsum b := by
  unfold wsum
  rw [List.map_cons, List.sum_cons]
theorem wsum_rev (a : List Str) : wsum a.reverse = wsum a := by
  induction a with
  | nil => rfl
  | cons w a ih =>
    rw [List.reverse_cons, wsum_app, ih, wsum_cons, wsum_cons]
    show _ + (w.length + 0) = _
    omega
section
variable {A R : List Str} {n z : Nat} {w : Str}
theorem WdB.mk' {l : List Str} (h : ∀ x ∈ l, x ∈ A ++ R ∨ x = w) (ok : WdB (A ++ R) n z) (hw : wOk w) (h2 : l.length ≤ (A ++ R).length + 1) (h3 : wsum l ≤ wsum (A ++ R) + 5002) : WdB l (n + 1) (z + 5002) :=
  ⟨fun x hx => (h x hx).elim (ok.w x) (fun e => by rw [e]; exact hw), by have := ok.n; omega, by have := ok.z; omega⟩
theorem WdB.c0 (ok : WdB (A ++ R) n z) (hw : wOk w) : WdB (A ++ R.drop 1) (n + 1) (z + 5002) := by
  have wl := hw.2
  cases R with
  | nil => exact WdB.mk' (fun x hx => by simp at hx ⊢; grind) ok hw (by simp) (by simp [wsum_app, wsum_cons, wsum] <;> omega)
  | cons r R =>
    have rl := (ok.w r (by simp)).2
    cases R with
    | nil => exact WdB.mk' (fun x hx => by simp at hx ⊢; grind) ok hw (by simp <;> omega) (by simp [wsum_app, wsum_cons, wsum] <;> omega)
    | cons s R => exact WdB.mk' (fun x hx => by simp at hx ⊢; grind) ok hw (by simp <;> omega) (by simp [wsum_app, wsum_cons] <;> omega)
theorem WdB.c1 (ok : WdB (A ++ R) n z) (hw : wOk w) : WdB (A ++ R.take 1 ++ R) (n + 1) (z + 5002) := by
  have wl := hw.2
  cases R with
  | nil => exact WdB.mk' (fun x hx => by simp at hx ⊢; grind) ok hw (by simp) (by simp [wsum_app, wsum_cons, wsum] <;> omega)
  | cons r R =>
    have rl := (ok.w r (by simp)).2
    cases R with
    | nil => exact WdB.mk' (fun x hx => by simp at hx ⊢; grind) ok hw (by simp <;> omega) (by simp [wsum_app, wsum_cons, wsum] <;> omega)
    | cons s R => exact WdB.mk' (fun x hx => by simp at hx ⊢; grind) ok hw (by simp <;> omega) (by simp [wsum_app, wsum_cons] <;> omega)
theorem WdB.c2 (ok : WdB (A ++ R) n z) (hw : wOk w) : WdB (A ++ [w] ++ R) (n + 1) (z + 5002) := by
  have wl := hw.2
  cases R with
  | nil => exact WdB.mk' (fun x hx => by simp at hx ⊢; grind) ok hw (by simp) (by simp [wsum_app, wsum_cons, wsum] <;> omega)
  | cons r R =>
    have rl := (ok.w r (by simp)).2
    cases R with
    | nil => exact WdB.mk' (fun x hx => by simp at hx ⊢; grind) ok hw (by simp <;> omega) (by simp [wsum_app, wsum_cons, wsum] <;> omega)
    | cons s R => exact WdB.mk' (fun x hx => by simp at hx ⊢; grind) ok hw (by simp <;> omega) (by simp [wsum_app, wsum_cons] <;> omega)
theorem WdB.c3 (ok : WdB (A ++ R) n z) (hw : wOk w) : WdB (A ++ (R.take 2).reverse ++ R.drop 2) (n + 1) (z + 5002) := by
  have wl := hw.2
  cases R with
  | nil => exact WdB.mk' (fun x hx => by simp at hx ⊢; grind) ok hw (by simp) (by simp [wsum_app, wsum_cons, wsum] <;> omega)
  | cons r R =>
    have rl := (ok.w r (by simp)).2
    cases R with
    | nil => exact WdB.mk' (fun x hx => by simp at hx ⊢; grind) ok hw (by simp <;> omega) (by simp [wsum_app, wsum_cons, wsum] <;> omega)
    | cons s R => exact WdB.mk' (fun x hx => by simp at hx ⊢; grind) ok hw (by simp <;> omega) (by simp [wsum_app, wsum_cons] <;> omega)
theorem WdB.c4 (ok : WdB (A ++ R) n z) (hw : wOk w) : WdB (A ++ [w] ++ R.drop 1) (n + 1) (z + 5002) := by
  have wl := hw.2
  cases R with
  | nil => exact WdB.mk' (fun x hx => by simp at hx ⊢; grind) ok hw (by simp) (by simp [wsum_app, wsum_cons, wsum] <;> omega)
  | cons r R =>
    have rl := (ok.w r (by simp)).2
    cases R with
    | nil => exact WdB.mk' (fun x hx => by simp at hx ⊢; grind) ok hw (by simp <;> omega) (by simp [wsum_app, wsum_cons, wsum] <;> omega)
    | cons s R => exact WdB.mk' (fun x hx => by simp at hx ⊢; grind) ok hw (by simp <;> omega) (by simp [wsum_app, wsum_cons] <;> omega)
end
section
variable {ws : List Str} {i : Int}
theorem cut_to (h : 0 ≤ i) : cutV (ws.map V.str) none (some i) = (ws.take i.toNat).map V.str := by
  unfold cutV
  rw [sIx_nn h, show HT.sIx (ws.map V.str).length 0 none = 0 from rfl, List.drop_zero, Nat.sub_zero, List.map_take, List.length_map]
  by_cases c : i.toNat ≤ ws.length
  · rw [Nat.min_eq_left c]
  · rw [Nat.min_eq_right (by omega), List.take_of_length_le (by rw [List.length_map]; exact Nat.le_refl _), List.take_of_length_le (by rw [List.length_map]; omega)]
theorem cut_from (h : 0 ≤ i) : cutV (ws.map V.str) (some i) none = (ws.drop i.toNat).map V.str := by
  unfold cutV
  rw [sIx_nn h, show HT.sIx (ws.map V.str).length (ws.map V.str).length none = (ws.map V.str).length from rfl, List.map_drop, List.length_map]
  by_cases c : i.toNat ≤ ws.length
  · rw [Nat.min_eq_left c, List.take_of_length_le (by rw [List.length_drop, List.length_map]; exact Nat.le_refl _)]
  · rw [Nat.min_eq_right (by omega), Nat.sub_self, List.take_zero, List.drop_of_length_le (by rw [List.length_map]; omega)]
theorem cut_mid (h : 0 ≤ i) {k : Nat} : cutV (ws.map V.str) (some i) (some (i + (k : Int))) = ((ws.drop i.toNat).take k).map V.str := by
  unfold cutV
  rw [sIx_nn h, sIx_nn (by omega), List.map_take, List.map_drop, List.length_map]
  by_cases c : i.toNat ≤ ws.length
  · rw [Nat.min_eq_left c]
    by_cases d : (i + (k : Int)).toNat ≤ ws.length
    · rw [Nat.min_eq_left d, show (i + (k : Int)).toNat - i.toNat = k by omega]
    · rw [Nat.min_eq_right (by omega), List.take_of_length_le (by rw [List.length_drop, List.length_map]; exact Nat.le_refl _), List.take_of_length_le (by rw [List.length_drop, List.length_map]; omega)]
  · rw [Nat.min_eq_right (by omega), Nat.min_eq_right (by omega), Nat.sub_self, List.take_zero, List.drop_of_length_le (by rw [List.length_map]; omega), List.take_nil]
end
/-! ## the text by places -/
def topS (i : Nat) : Stmt := PySem.Challenge.pw_everyprime_k62_texts_that_are_no_sayings.main.body.getD i (.Pass ⟨0, 0, 0, 0⟩)
abbrev s_law_take : Stmt := topS 11
theorem sc_law_take : FnScope ["_law_pool_here", "_law_limit", "_law_drawn", "_law_mixed"] ["_law_pool_here", "_law_limit"] (defScope s_law_take) := ⟨rfl, rfl, rfl, by decide +kernel, rfl, by decide +kernel, by decide +kernel⟩
abbrev s_law_number : Stmt := topS 15
theorem sc_law_number : FnScope ["_law_pool_here", "_law_low", "_law_high"] ["_law_pool_here", "_law_low", "_law_high"] (defScope s_law_number) := ⟨rfl, rfl, rfl, by decide +kernel, rfl, by decide +kernel, by decide +kernel⟩
abbrev s_law_atom : Stmt := topS 16
theorem sc_law_atom : FnScope ["_law_pool_here", "_law_small", "_law_which", "_law_n", "_law_a", "_law_modulus"] ["_law_pool_here", "_law_small"] (defScope s_law_atom) := ⟨rfl, rfl, rfl, by decide +kernel, rfl, by decide +kernel, by decide +kernel⟩
abbrev s_law_tree : Stmt := topS 17
theorem sc_law_tree : FnScope ["_law_pool_here", "_law_many", "_law_small", "_law_part", "_law_first", "_law_left"] ["_law_pool_here", "_law_many", "_law_small"] (defScope s_law_tree) := ⟨rfl, rfl, rfl, by decide +kernel, rfl, by decide +kernel, by decide +kernel⟩
abbrev s_law_words : Stmt := topS 18
theorem sc_law_words : FnScope ["_law_tree_here", "_law_kind"] ["_law_tree_here"] (defScope s_law_words) := ⟨rfl, rfl, rfl, by decide +kernel, rfl, by decide +kernel, by decide +kernel⟩
abbrev s_Reader_init : Stmt := inClass (topS 7) 0
theorem sc_Reader_init : FnScope ["self", "words", "at"] ["self", "words", "at"] (defScope s_Reader_init) := ⟨rfl, rfl, rfl, by decide +kernel, rfl, by decide +kernel, by decide +kernel⟩
abbrev s_Reader_next_word : Stmt := inClass (topS 7) 2
theorem sc_Reader_next_word : FnScope ["self"] ["self"] (defScope s_Reader_next_word) := ⟨rfl, rfl, rfl, by decide +kernel, rfl, by decide +kernel, by decide +kernel⟩
abbrev s_is_integer_word : Stmt := topS 6
theorem sc_is_integer_word : FnScope ["word", "digits", "letter"] ["word"] (defScope s_is_integer_word) := ⟨rfl, rfl, rfl, by decide +kernel, rfl, by decide +kernel, by decide +kernel⟩
abbrev s_Reader_number : Stmt := inClass (topS 7) 4
theorem sc_Reader_number : FnScope ["self", "low", "high", "word"] ["self", "low", "high"] (defScope s_Reader_number) := ⟨rfl, rfl, rfl, by decide +kernel, rfl, by decide +kernel, by decide +kernel⟩
abbrev s_Reader_first_number : Stmt := inClass (topS 7) 5
theorem sc_Reader_first_number : FnScope ["self"] ["self"] (defScope s_Reader_first_number) := ⟨rfl, rfl, rfl, by decide +kernel, rfl, by decide +kernel, by decide +kernel⟩
abbrev s_Reader_rest_part : Stmt := inClass (topS 7) 6
theorem sc_Reader_rest_part : FnScope ["self", "modulus"] ["self", "modulus"] (defScope s_Reader_rest_part) := ⟨rfl, rfl, rfl, by decide +kernel, rfl, by decide +kernel, by decide +kernel⟩
abbrev s_Reader_further : Stmt := inClass (topS 7) 1
theorem sc_Reader_further : FnScope ["self", "many"] ["self", "many"] (defScope s_Reader_further) := ⟨rfl, rfl, rfl, by decide +kernel, rfl, by decide +kernel, by decide +kernel⟩
abbrev s_Reader_take : Stmt := inClass (topS 7) 3
theorem sc_Reader_take : FnScope ["self", "word"] ["self", "word"] (defScope s_Reader_take) := ⟨rfl, rfl, rfl, by decide +kernel, rfl, by decide +kernel, by decide +kernel⟩
abbrev s_Reader_plain_part : Stmt := inClass (topS 7) 7
theorem sc_Reader_plain_part : FnScope ["self", "word", "modulus", "a", "b", "c", "many"] ["self", "word"] (defScope s_Reader_plain_part) := ⟨rfl, rfl, rfl, by decide +kernel, rfl, by decide +kernel, by decide +kernel⟩
abbrev s_Reader_part : Stmt := inClass (topS 7) 8
theorem sc_Reader_part : FnScope ["self", "depth", "word", "found", "many", "last", "first", "middle", "joint", "second"] ["self", "depth"] (defScope s_Reader_part) := ⟨rfl, rfl, rfl, by decide +kernel, rfl, by decide +kernel, by decide +kernel⟩
abbrev s_Reader_whole : Stmt := inClass (topS 7) 9
theorem sc_Reader_whole : FnScope ["self", "found", "last"] ["self"] (defScope s_Reader_whole) := ⟨rfl, rfl, rfl, by decide +kernel, rfl, by decide +kernel, by decide +kernel⟩
abbrev s_Saying_init : Stmt := inClass (topS 8) 0
theorem sc_Saying_init : FnScope ["self", "text"] ["self", "text"] (defScope s_Saying_init) := ⟨rfl, rfl, rfl, by decide +kernel, rfl, by decide +kernel, by decide +kernel⟩
abbrev s_Saying_str : Stmt := inClass (topS 8) 2
theorem sc_Saying_str : FnScope ["self"] ["self"] (defScope s_Saying_str) := ⟨rfl, rfl, rfl, by decide +kernel, rfl, by decide +kernel, by decide +kernel⟩
abbrev s_law_is_number : Stmt := topS 21
theorem sc_law_is_number : FnScope ["_law_word", "_law_low", "_law_high", "_law_digits", "_law_mark"] ["_law_word", "_law_low", "_law_high"] (defScope s_law_is_number) := ⟨rfl, rfl, rfl, by decide +kernel, rfl, by decide +kernel, by decide +kernel⟩
abbrev s_law_fits : Stmt := topS 22
theorem sc_law_fits : FnScope ["_law_want", "_law_word", "_law_modulus"] ["_law_want", "_law_word", "_law_modulus"] (defScope s_law_fits) := ⟨rfl, rfl, rfl, by decide +kernel, rfl, by decide +kernel, by decide +kernel⟩
abbrev s_law_told : Stmt := topS 24
theorem sc_law_told : FnScope ["_law_words_here", "_law_text", "_law_saying", "e"] ["_law_words_here"] (defScope s_law_told) := ⟨rfl, rfl, rfl, by decide +kernel, rfl, by decide +kernel, by decide +kernel⟩
abbrev s_law_changed : Stmt := topS 25
theorem sc_law_changed : FnScope ["_law_pool_here", "_law_words_here", "_law_menu", "_law_word", "_law_at", "_law_which"] ["_law_pool_here", "_law_words_here"] (defScope s_law_changed) := ⟨rfl, rfl, rfl, by decide +kernel, rfl, by decide +kernel, by decide +kernel⟩
abbrev s_law_fault : Stmt := topS 23
theorem sc_law_fault : FnScope ["_law_words_here", "_law_wanted", "_law_opened", "_law_modulus", "_law_at", "_law_word", "_law_want"] ["_law_words_here"] (defScope s_law_fault) := ⟨rfl, rfl, rfl, by decide +kernel, rfl, by decide +kernel, by decide +kernel⟩
abbrev s_law_cell : Stmt := topS 12
theorem sc_law_cell : FnScope ["_law_script", "_law_k"] ["_law_script", "_law_k"] (defScope s_law_cell) := ⟨rfl, rfl, rfl, by decide +kernel, rfl, by decide +kernel, by decide +kernel⟩
abbrev s_law_pool : Stmt := topS 10
theorem sc_law_pool : FnScope ["_law_cell_here"] ["_law_cell_here"] (defScope s_law_pool) := ⟨rfl, rfl, rfl, by decide +kernel, rfl, by decide +kernel, by decide +kernel⟩
abbrev s_law : Stmt := topS 26
theorem sc_law : FnScope ["_law_script", "_law_pool_here", "_law_words_here", "_law_k", "_law_count"] ["_law_script"] (defScope s_law) := ⟨rfl, rfl, rfl, by decide +kernel, rfl, by decide +kernel, by decide +kernel⟩
abbrev s_BadSaying_init : Stmt := inClass (topS 3) 0
/-- the addresses of the classes -/
structure Adr where
  c_BadSaying : Addr
  c_Reader : Addr
  c_Saying : Addr
  c_base : Addr
  t_MOST_OPEN : Tok
structure Txt (K : PySem.W.Frag) (mg : Str → Option Value) (Ad : Adr) : Prop where
  b_all : mg "all" = none
  b_int : mg "int" = none
  b_len : mg "len" = none
  b_range : mg "range" = none
  b_str : mg "str" = none
  d_law_take : DefAt K mg "_law_take" s_law_take ["_law_pool_here", "_law_limit"]
  d_law_number : DefAt K mg "_law_number" s_law_number ["_law_pool_here", "_law_low", "_law_high"]
  d_law_atom : DefAt K mg "_law_atom" s_law_atom ["_law_pool_here", "_law_small"]
  d_law_tree : DefAt K mg "_law_tree" s_law_tree ["_law_pool_here", "_law_many", "_law_small"]
  d_law_words : DefAt K mg "_law_words" s_law_words ["_law_tree_here"]
  d_Reader_init : MkAt K mg "Reader" Ad.c_Reader "Reader.__init__" s_Reader_init ["self", "words", "at"]
  d_Reader_next_word : MethAt K Ad.c_Reader "next_word" "Reader.next_word" s_Reader_next_word ["self"]
  d_is_integer_word : DefAt K mg "is_integer_word" s_is_integer_word ["word"]
  d_Reader_number : MethAt K Ad.c_Reader "number" "Reader.number" s_Reader_number ["self", "low", "high"]
  d_Reader_first_number : MethAt K Ad.c_Reader "first_number" "Reader.first_number" s_Reader_first_number ["self"]
  d_Reader_rest_part : MethAt K Ad.c_Reader "rest_part" "Reader.rest_part" s_Reader_rest_part ["self", "modulus"]
  d_Reader_further : MethAt K Ad.c_Reader "further" "Reader.further" s_Reader_further ["self", "many"]
  d_Reader_take : MethAt K Ad.c_Reader "take" "Reader.take" s_Reader_take ["self", "word"]
  d_Reader_plain_part : MethAt K Ad.c_Reader "plain_part" "Reader.plain_part" s_Reader_plain_part ["self", "word"]
  d_Reader_part : MethAt K Ad.c_Reader "part" "Reader.part" s_Reader_part ["self", "depth"]
  d_Reader_whole : MethAt K Ad.c_Reader "whole" "Reader.whole" s_Reader_whole ["self"]
  d_Saying_init : MkAt K mg "Saying" Ad.c_Saying "Saying.__init__" s_Saying_init ["self", "text"]
  d_Saying_str : MethAt K Ad.c_Saying "__str__" "Saying.__str__" s_Saying_str ["self"]
  d_law_is_number : DefAt K mg "_law_is_number" s_law_is_number ["_law_word", "_law_low", "_law_high"]
  d_law_fits : DefAt K mg "_law_fits" s_law_fits ["_law_want", "_law_word", "_law_modulus"]
  d_law_told : DefAt K mg "_law_told" s_law_told ["_law_words_here"]
  d_law_changed : DefAt K mg "_law_changed" s_law_changed ["_law_pool_here", "_law_words_here"]
  d_law_fault : DefAt K mg "_law_fault" s_law_fault ["_law_words_here"]
  d_law_cell : DefAt K mg "_law_cell" s_law_cell ["_law_script", "_law_k"]
  d_law_pool : DefAt K mg "_law_pool" s_law_pool ["_law_cell_here"]
  g_Reader : mg "Reader" = some (.ref Ad.c_Reader)
  cl_Reader : Cls K Ad.c_Reader
  ty_Reader : ∀ (H : Hp) (a dx : Addr) (fs : List (Str × V)), H a = some (.ins Ad.c_Reader dx fs) → TyX K H (.ref a) (.ref Ad.c_Reader)
  ki_Reader : PySem.W.kitOne K (.ref Ad.c_Reader) (.ref Ad.c_Reader) = some true
  kl_Reader : PySem.W.kitOne K (.type "list") (.ref Ad.c_Reader) = some false
  nl_Reader : PySem.W.notFirst K Ad.c_Reader (.type "list") = true
  nf_Reader_at : NoAttr K Ad.c_Reader "at"
  nf_Reader_words : NoAttr K Ad.c_Reader "words"
  g_Saying : mg "Saying" = some (.ref Ad.c_Saying)
  cl_Saying : Cls K Ad.c_Saying
  ty_Saying : ∀ (H : Hp) (a dx : Addr) (fs : List (Str × V)), H a = some (.ins Ad.c_Saying dx fs) → TyX K H (.ref a) (.ref Ad.c_Saying)
  ki_Saying : PySem.W.kitOne K (.ref Ad.c_Saying) (.ref Ad.c_Saying) = some true
  kl_Saying : PySem.W.kitOne K (.type "list") (.ref Ad.c_Saying) = some false
  nl_Saying : PySem.W.notFirst K Ad.c_Saying (.type "list") = true
  nf_Saying_text : NoAttr K Ad.c_Saying "text"
  nf_Saying_tree : NoAttr K Ad.c_Saying "tree"
  k_MOST_OPEN : mg "MOST_OPEN" = some (.int 8 Ad.t_MOST_OPEN)
  base : BaseC K mg Ad.c_base
  r_BadSaying : ErrRaw K mg "BadSaying" Ad.c_BadSaying s_BadSaying_init "BadSaying.__init__" ["self", "at"]
  no_BadSaying_at : PySem.W.findIn K (.ref Ad.c_BadSaying) "at" = some none
  triv : True
section
variable {P : Program} {w : World} {K : PySem.W.Frag} {mg : Str → Option Value} {base : Heap} {Ad : Adr}
def fl_BadSaying (ws : List V) : List (Str × V) := match ws with | [v0] => [("at", v0)] | _ => []
theorem sc_BadSaying_init : FnScope ["self", "at"] ["self", "at"] (defScope s_BadSaying_init) := ⟨rfl, rfl, rfl, by decide +kernel, rfl, by decide +kernel, by decide +kernel⟩
theorem Txt.err_BadSaying (T : Txt K mg Ad) : ErrC P w K mg base "BadSaying" 1 fl_BadSaying Ad.c_BadSaying := by
  refine ErrC.of T.r_BadSaying fun fI fd F => ?_
  refine F.okX sc_BadSaying_init (fun vs H Q E h => ?_) (fun cdv A outer s H vs Q E hr h => ?_)
  · obtain ⟨a, ws, rfl, hl, _⟩ := h
    simp [hl]
  · obtain ⟨a, ws, rfl, hl, ha, q⟩ := h
    obtain ⟨v0, rfl⟩ := len_1 hl
    refine ⟨_, pss_cons (ps_expr (pe_ceinit T.base (pa_cons (pv 0) (pa_cons pe_str pa_nil)))) (pss_one (ps_ost (pv 0) (pv 1))), ?_⟩
    refine ⟨.ref a, rfl, a, Ad.c_BadSaying, [.str _], rfl, by show 1 ≤ 1000; decide, T.r_BadSaying.T, ha, ?_⟩
    refine ⟨v0, rfl, .ref a, rfl, a, Ad.c_BadSaying, rfl, T.r_BadSaying.T, T.no_BadSaying_at, .inl ⟨ha, fun dx nd ne => ?_⟩⟩
    exact q dx nd ne
/-! ### _law_take -/
def spTake : Sp := fun vs H Q _ => ∃ (p : Addr) (c k lim : Int) (b : Bool), vs = [.ref p, .int lim] ∧ H p = some (.lst [.int c, .int k, .bl b]) ∧ 0 < lim ∧ lim < 2 ^ 240 ∧ 0 ≤ k ∧ k ≤ 1000000 ∧
  ∀ c' r : Int, 0 ≤ r → r < lim → Q (.int r) (upd H p (.lst [.int c', .int (k + 1), .bl b]))
theorem ok_law_take (T : Txt K mg Ad) : Def P w K mg base 1 "_law_take" ["_law_pool_here", "_law_limit"] spTake := by
  refine T.d_law_take.ok sc_law_take (fun vs H Q E h => ?_) (fun f cdv A outer s H vs Q E hr h => ?_)
  · obtain ⟨p, c, k, lim, b, rfl, _⟩ := h
    rfl
  · obtain ⟨p, c, k, lim, b, rfl, hp, l0, l1, k0, k1, q⟩ := h
    refine ⟨_, (pss_cons (ps_asg (pe_op op_add (pe_ix ix_list (pv 0) pe_int (fun _ _ => rfl)) pe_int) (pg_sub (pv 0) pe_int set_list))
      (pss_cons (ps_if (pt_val (pe_ix ix_list (pv 0) pe_int (fun _ _ => rfl))) (pss_cons (ps_set (i := 2) sc_law_take.nd rfl (Or.inl rfl) (pe_op op_mod (pe_callTy c_int1 (by rfl) T.b_int (by decide +kernel) (pa_cons (pe_ix ix_list (pv 0) pe_int (fun _ _ => rfl)) pa_nil)) (pv 1)))
      (pss_cons (ps_asg (pe_op op_fdivB (pe_callTy c_int1 (by rfl) T.b_int (by decide +kernel) (pa_cons (pe_ix ix_list (pv 0) pe_int (fun _ _ => rfl)) pa_nil)) (pv 1)) (pg_sub (pv 0) pe_int set_list))
      (pss_one (ps_ret (pv 2))))) pss_nil)
      (pss_cons (ps_set (i := 3) sc_law_take.nd rfl (Or.inl rfl) (pe_op op_mod (pe_callTy c_int1 (by rfl) T.b_int (by decide +kernel) (pa_cons (pe_op op_add (pe_op op_add (pe_op op_mulB (pe_ix ix_list (pv 0) pe_int (fun _ _ => rfl)) pe_int) (pe_op op_mulB (pe_ix ix_list (pv 0) pe_int (fun _ _ => rfl)) pe_int)) pe_int) pa_nil)) pe_int))
      (pss_one (ps_ret (pe_op op_mod (pe_op op_fdivB (pe_callTy c_int1 (by rfl) T.b_int (by decide +kernel) (pa_cons (pe_op op_mod (pe_op (op_powN 5) (pv 3) pe_int) pe_int) pa_nil)) pe_int) (pv 1))))))), ?_⟩
    try dsimp only [cxOf]
    wtm_at "ra"
    · rw [upd_lst]
      exact q (c / lim) (c % lim) (Int.emod_nonneg _ (by omega)) (Int.emod_lt_of_pos _ l0)
    · exact q c _ (Int.emod_nonneg _ (by omega)) (Int.emod_lt_of_pos _ l0)
theorem use_take {p : Addr} {c k lim : Int} {b : Bool} {H : Hp} {Q : VK} {E : XK} (hp : H p = some (.lst [.int c, .int k, .bl b])) (l0 : 0 < lim) (l1 : lim < 2 ^ 240) (k0 : 0 ≤ k) (k1 : k ≤ 1000000)
    (q : ∀ c' r : Int, 0 ≤ r → r < lim → Q (.int r) (upd H p (.lst [.int c', .int (k + 1), .bl b]))) : spTake [.ref p, .int lim] H Q E := ⟨p, c, k, lim, b, rfl, hp, l0, l1, k0, k1, q⟩
local macro_rules | `(tactic| wtm_at "s") => `(tactic| ((with_reducible refine use_take (c := ?c) (k := ?k) (b := ?b) ?h1 ?h2 ?h3 ?h4 ?h5 ?_); (case h1 => wtm_at "h"); (case h2 => omega); (case h3 => omega); (case h4 => omega); (case h5 => omega); intro c' r hr0 hr1))
/-! ### _law_number -/
def spLNum : Sp := fun vs H Q _ => ∃ (p : Addr) (c k lo hi : Int) (b : Bool), vs = [.ref p, .int lo, .int hi] ∧ H p = some (.lst [.int c, .int k, .bl b]) ∧ lo ≤ hi ∧ -1000000 ≤ lo ∧ hi ≤ 1000000 ∧ 0 ≤ k ∧ k ≤ 1000000 ∧
  ∀ c' r : Int, lo ≤ r → r ≤ hi → Q (.int r) (upd H p (.lst [.int c', .int (k + 1), .bl b]))
theorem use_lnum {p : Addr} {c k lo hi : Int} {b : Bool} {H : Hp} {Q : VK} {E : XK} (hp : H p = some (.lst [.int c, .int k, .bl b])) (l0 : lo ≤ hi) (l1 : -1000000 ≤ lo) (l2 : hi ≤ 1000000) (k0 : 0 ≤ k) (k1 : k ≤ 1000000)
    (q : ∀ c' r : Int, lo ≤ r → r ≤ hi → Q (.int r) (upd H p (.lst [.int c', .int (k + 1), .bl b]))) : spLNum [.ref p, .int lo, .int hi] H Q E := ⟨p, c, k, lo, hi, b, rfl, hp, l0, l1, l2, k0, k1, q⟩
local macro_rules | `(tactic| wtm_at "s") => `(tactic| ((with_reducible refine use_lnum (c := ?c) (k := ?k) (b := ?b) ?h1 ?h2 ?h3 ?h4 ?h5 ?h6 ?_); (case h1 => wtm_at "h"); (case h2 => omega); (case h3 => omega); (case h4 => omega); (case h5 => omega); (case h6 => omega); intro c' r hr0 hr1))
theorem ok_law_number (T : Txt K mg Ad) : Def P w K mg base 2 "_law_number" ["_law_pool_here", "_law_low", "_law_high"] spLNum := by
  refine T.d_law_number.ok sc_law_number (fun vs H Q E h => ?_) (fun f cdv A outer s H vs Q E hr h => ?_)
  · obtain ⟨p, c, k, lo, hi, b, rfl, _⟩ := h
    rfl
  · obtain ⟨p, c, k, lo, hi, b, rfl, hp, l0, l1, l2, k0, k1, q⟩ := h
    refine ⟨_, (pss_one (ps_ret (pe_op op_add (pv 1) (pe_d (ok_law_take T) (hr.mono (by decide)) (passes_call (takes_of rfl rfl rfl rfl) (fun _ _ _ _ h => h)) (pa_cons (pv 0) (pa_cons (pe_op op_add (pe_op op_sub (pv 2) (pv 1)) pe_int) pa_nil)))))), ?_⟩
    try dsimp only [cxOf]
    wtm_at "rs"
    exact q _ _ (by omega) (by omega)
/-! ### _law_atom -/
/-- a saying of the law's own, as it lies in the heap; away from p -/
def TreeL (p : Addr) (H : Hp) : V → Say → Prop
  | v, .sq n => ∃ t, v = .ref t ∧ t ≠ p ∧ H t = some (.lst [.str "square", .int n])
  | v, .rt a b c m => ∃ t, v = .ref t ∧ t ≠ p ∧ H t = some (.lst [.str "roots", .int a, .int b, .int c, .int m])
  | v, .re m r => ∃ t, v = .ref t ∧ t ≠ p ∧ H t = some (.lst [.str "rest", .int m, .int r])
  | v, .fo n => ∃ t, v = .ref t ∧ t ≠ p ∧ H t = some (.lst [.str "form", .int n])
  | v, .no s => ∃ t u, v = .ref t ∧ t ≠ p ∧ H t = some (.lst [.str "not", u]) ∧ TreeL p H u s
  | v, .an s1 s2 => ∃ t u1 u2, v = .ref t ∧ t ≠ p ∧ H t = some (.lst [.str "and", u1, u2]) ∧ TreeL p H u1 s1 ∧ TreeL p H u2 s2
  | v, .ou s1 s2 => ∃ t u1 u2, v = .ref t ∧ t ≠ p ∧ H t = some (.lst [.str "or", u1, u2]) ∧ TreeL p H u1 s1 ∧ TreeL p H u2 s2
theorem TreeL.but {p : Addr} {H G : Hp} (b : But p H G) : ∀ {x : Say} {v : V}, TreeL p H v x → TreeL p G v x
  | .sq _, _, ⟨t, e, n, h⟩ => ⟨t, e, n, b _ _ n h⟩
  | .rt .., _, ⟨t, e, n, h⟩ => ⟨t, e, n, b _ _ n h⟩
  | .re .., _, ⟨t, e, n, h⟩ => ⟨t, e, n, b _ _ n h⟩
  | .fo _, _, ⟨t, e, n, h⟩ => ⟨t, e, n, b _ _ n h⟩
  | .no _, _, ⟨t, u, e, n, h, k⟩ => ⟨t, u, e, n, b _ _ n h, TreeL.but b k⟩
  | .an _ _, _, ⟨t, u1, u2, e, n, h, k1, k2⟩ => ⟨t, u1, u2, e, n, b _ _ n h, TreeL.but b k1, TreeL.but b k2⟩
  | .ou _ _, _, ⟨t, u1, u2, e, n, h, k1, k2⟩ => ⟨t, u1, u2, e, n, b _ _ n h, TreeL.but b k1, TreeL.but b k2⟩
theorem TreeL.re {p q : Addr} {H : Hp} (f : H q = none) : ∀ {x : Say} {v : V}, TreeL p H v x → TreeL q H v x
  | .sq _, _, ⟨t, e, n, h⟩ => ⟨t, e, ne_of_none h f, h⟩
  | .rt .., _, ⟨t, e, n, h⟩ => ⟨t, e, ne_of_none h f, h⟩
  | .re .., _, ⟨t, e, n, h⟩ => ⟨t, e, ne_of_none h f, h⟩
  | .fo _, _, ⟨t, e, n, h⟩ => ⟨t, e, ne_of_none h f, h⟩
  | .no _, _, ⟨t, u, e, n, h, k⟩ => ⟨t, u, e, ne_of_none h f, h, TreeL.re f k⟩
  | .an _ _, _, ⟨t, u1, u2, e, n, h, k1, k2⟩ => ⟨t, u1, u2, e, ne_of_none h f, h, TreeL.re f k1, TreeL.re f k2⟩
  | .ou _ _, _, ⟨t, u1, u2, e, n, h, k1, k2⟩ => ⟨t, u1, u2, e, ne_of_none h f, h, TreeL.re f k1, TreeL.re f k2⟩
theorem atI_pick {ns : List Int} {r : Int} (h0 : 0 ≤ r) (h1 : r < ns.length) : ∃ e ∈ ns, atI (ns.map V.int) r = some (.int e) := by
  obtain ⟨j, rfl⟩ : ∃ j : Nat, r = (j : Int) := ⟨r.toNat, by omega⟩
  have hj : j < ns.length := by omega
  exact ⟨ns[j], List.getElem_mem _, atI_nat (by rw [List.getElem?_map, List.getElem?_eq_getElem hj]; rfl)⟩
def Say.flat : Say → Prop
  | .sq _ => True
  | .rt .. => True
  | .re .. => True
  | .fo _ => True
  | _ => False
def spAtom : Sp := fun vs H Q _ => ∃ (p : Addr) (c k : Int) (b small : Bool), vs = [.ref p, .bl small] ∧ H p = some (.lst [.int c, .int k, .bl b]) ∧ 0 ≤ k ∧ k ≤ 10000 ∧ NoT H ∧
  ∀ (v : V) (s : Say) (c' k' : Int) (G : Hp), But p H G → NoT G → G p = some (.lst [.int c', .int k', .bl b]) → k ≤ k' → k' ≤ k + 10 → TreeL p G v s → s.good → s.flat → Q v G
theorem ok_law_atom (T : Txt K mg Ad) : Def P w K mg base 3 "_law_atom" ["_law_pool_here", "_law_small"] spAtom := by
  refine T.d_law_atom.ok sc_law_atom (fun vs H Q E h => ?_) (fun f cdv A outer s H vs Q E hr h => ?_)
  · obtain ⟨p, c, k, b, small, rfl, _⟩ := h
    rfl
  · obtain ⟨p, c, k, b, small, rfl, hp, k0, k1, nt, q⟩ := h
    refine ⟨_, (pss_cons (ps_set (i := 2) sc_law_atom.nd rfl (Or.inl rfl) (pe_d (ok_law_take T) (hr.mono (by decide)) (passes_call (takes_of rfl rfl rfl rfl) (fun _ _ _ _ h => h)) (pa_cons (pv 0) (pa_cons pe_int pa_nil))))
      (pss_cons (ps_if (pt_cmpR op_lt (pv 2) pe_int (nomark _)) (pss_cons (ps_set (i := 3) sc_law_atom.nd rfl (Or.inl rfl) (pe_d (ok_law_number T) (hr.mono (by decide)) (passes_call (takes_of rfl rfl rfl rfl) (fun _ _ _ _ h => h)) (pa_cons (pv 0) (pa_cons (pe_un un_neg pe_int) (pa_cons pe_int pa_nil)))))
      (C8.pss_cut (ps_if (PW.pt (pw_and (pt_not (pt_val (pv 1))) (pw_and1 (pt_cmpR op_eq (pe_d (ok_law_take T) (hr.mono (by decide)) (passes_call (takes_of rfl rfl rfl rfl) (fun _ _ _ _ h => h)) (pa_cons (pv 0) (pa_cons pe_int pa_nil))) pe_int (nomark _))))) (pss_one (ps_set (i := 3) sc_law_atom.nd rfl (Or.inl rfl) (pe_d (ok_law_number T) (hr.mono (by decide)) (passes_call (takes_of rfl rfl rfl rfl) (fun _ _ _ _ h => h)) (pa_cons (pv 0) (pa_cons (pe_un un_neg pe_int) (pa_cons pe_int pa_nil)))))) pss_nil)
      (pss_one (ps_ret (pe_lst (pa_cons pe_str (pa_cons (pv 3) pa_nil))))))) pss_nil)
      (pss_cons (ps_if (pt_cmpR op_eq (pv 2) pe_int (nomark _)) (pss_cons (ps_set (i := 4) sc_law_atom.nd rfl (Or.inl rfl) (pe_op op_mulB (pe_d (ok_law_number T) (hr.mono (by decide)) (passes_call (takes_of rfl rfl rfl rfl) (fun _ _ _ _ h => h)) (pa_cons (pv 0) (pa_cons pe_int (pa_cons pe_int pa_nil)))) (pe_ix ix_list (pe_lst (pa_cons pe_int (pa_cons (pe_un un_neg pe_int) pa_nil))) (pe_d (ok_law_take T) (hr.mono (by decide)) (passes_call (takes_of rfl rfl rfl rfl) (fun _ _ _ _ h => h)) (pa_cons (pv 0) (pa_cons pe_int pa_nil))) (fun _ _ => rfl))))
      (pss_one (ps_ret (pe_lst (pa_cons pe_str (pa_cons (pv 4) (pa_cons (pe_d (ok_law_number T) (hr.mono (by decide)) (passes_call (takes_of rfl rfl rfl rfl) (fun _ _ _ _ h => h)) (pa_cons (pv 0) (pa_cons (pe_un un_neg pe_int) (pa_cons pe_int pa_nil)))) (pa_cons (pe_d (ok_law_number T) (hr.mono (by decide)) (passes_call (takes_of rfl rfl rfl rfl) (fun _ _ _ _ h => h)) (pa_cons (pv 0) (pa_cons (pe_un un_neg pe_int) (pa_cons pe_int pa_nil)))) (pa_cons (pe_d (ok_law_take T) (hr.mono (by decide)) (passes_call (takes_of rfl rfl rfl rfl) (fun _ _ _ _ h => h)) (pa_cons (pv 0) (pa_cons pe_int pa_nil))) pa_nil))))))))) pss_nil)
      (pss_cons (ps_if (pt_cmpR op_eq (pv 2) pe_int (nomark _)) (pss_cons (ps_set (i := 5) sc_law_atom.nd rfl (Or.inl rfl) (pe_d (ok_law_number T) (hr.mono (by decide)) (passes_call (takes_of rfl rfl rfl rfl) (fun _ _ _ _ h => h)) (pa_cons (pv 0) (pa_cons pe_int (pa_cons pe_int pa_nil)))))
      (pss_one (ps_ret (pe_lst (pa_cons pe_str (pa_cons (pv 5) (pa_cons (pe_d (ok_law_take T) (hr.mono (by decide)) (passes_call (takes_of rfl rfl rfl rfl) (fun _ _ _ _ h => h)) (pa_cons (pv 0) (pa_cons (pv 5) pa_nil))) pa_nil))))))) pss_nil)
      (pss_cons (ps_if (pt_cmpR op_eq (pv 2) pe_int (nomark _)) (pss_one (ps_ret (pe_lst (pa_cons pe_str (pa_cons (pe_ix ix_list (pe_lst (pa_cons pe_int (pa_cons pe_int (pa_cons pe_int (pa_cons pe_int (pa_cons pe_int (pa_cons pe_int (pa_cons pe_int (pa_cons pe_int (pa_cons pe_int (pa_cons pe_int (pa_cons pe_int (pa_cons pe_int (pa_cons pe_int (pa_cons pe_int pa_nil))))))))))))))) (pe_d (ok_law_take T) (hr.mono (by decide)) (passes_call (takes_of rfl rfl rfl rfl) (fun _ _ _ _ h => h)) (pa_cons (pv 0) (pa_cons pe_int pa_nil))) (fun _ _ => rfl)) pa_nil))))) pss_nil)
      (pss_one (ps_ret (pe_lst (pa_cons pe_str (pa_cons (pe_ix ix_list (pe_lst (pa_cons (pe_un un_neg pe_int) (pa_cons pe_int (pa_cons (pe_un un_neg pe_int) (pa_cons pe_int (pa_cons (pe_un un_neg pe_int) (pa_cons pe_int (pa_cons pe_int (pa_cons pe_int pa_nil))))))))) (pe_d (ok_law_take T) (hr.mono (by decide)) (passes_call (takes_of rfl rfl rfl rfl) (fun _ _ _ _ h => h)) (pa_cons (pv 0) (pa_cons pe_int pa_nil))) (fun _ _ => rfl)) pa_nil)))))))))), ?_⟩
    try dsimp only [cxOf]
    have B := Hv.pool nt hp
    wtm_at "rs"
    rename_i c1 r r0 r1
    have B := B.put (u := .lst [.int c1, .int (k + 1), .bl b])
    revert c1
    intro c1 B
    refine B.gen fun G B => ?_
    clear hp
    have fin : ∀ (D : Addr) (xs : List V) (s : Say) (c' k' : Int) (G : Hp), Hv (· = p) H [(p, .lst [.int c', .int k', .bl b])] [] [] G → k ≤ k' → k' ≤ k + 10 → s.good → s.flat → (∀ L : Hp, L D = some (.lst xs) → D ≠ p → TreeL p L (.ref D) s) → G D = none → Q (.ref D) (upd G D (.lst xs)) := fun D xs s c' k' G B h1 h2 g fl tl hD => by
      have hp := B.mAt (a := p) (by wtm_at "mem")
      have Dp : D ≠ p := fun z => by
        rw [z, hp] at hD
        cases hD
      exact q (.ref D) s c' k' _ (But.new B.but1 hD) (NoT.upd B.nt rfl) (by rw [upd_ne (Ne.symm Dp)]; exact hp) h1 h2 (tl _ upd_same Dp) g fl
    by_cases h2 : r < 2
    · rw [if_pos (decide_eq_true h2)]
      wtm_at "rs"
      rename_i c2 n n0 n1
      have B := B.put (u := .lst [.int c2, .int (k + 1 + 1), .bl b])
      refine B.gen fun G B => ?_
      refine rd_cut (fun σ G => ∃ (n c' k' : Int) (v2 v4 v5 : Option V), σ = [some (.ref p), some (.bl small), v2, some (.int n), v4, v5] ∧ Hv (· = p) H [(p, .lst [.int c', .int k', .bl b])] [] [] G ∧ k ≤ k' ∧ k' ≤ k + 10 ∧ -1000 ≤ n ∧ n ≤ 1000) ?_ ?_
      · wtm_at "rs"
        have exit : ∀ (n c' k' : Int) (v2 : Option V) (G : Hp), Hv (· = p) H [(p, .lst [.int c', .int k', .bl b])] [] [] G → k ≤ k' → k' ≤ k + 10 → -1000 ≤ n → n ≤ 1000 → ∃ (n' c' k' : Int) (v2' v4 v5 : Option V), [some (V.ref p), some (.bl small), v2, some (.int n), none, none] = [some (.ref p), some (.bl small), v2', some (.int n'), v4, v5] ∧ Hv (· = p) H [(p, .lst [.int c', .int k', .bl b])] [] [] G ∧ k ≤ k' ∧ k' ≤ k + 10 ∧ -1000 ≤ n' ∧ n' ≤ 1000 := fun n c' k' v2 G B a1 a2 a3 a4 => ⟨n, c', k', v2, none, none, rfl, B, a1, a2, a3, a4⟩
        cases small with
        | true =>
          wtm_at "rs"
          exact exit n c2 _ _ _ B (by omega) (by omega) (by omega) (by omega)
        | false =>
          wtm_at "rs"
          rename_i c3 r3 r30 r31
          have B := B.put (u := .lst [.int c3, .int (k + 1 + 1 + 1), .bl b])
          refine B.gen fun G B => ?_
          by_cases h6 : r3 = 1
          · rw [if_pos (decide_eq_true h6)]
            wtm_at "rs"
            rename_i c4 n4 n40 n41
            exact exit n4 c4 _ _ _ B.put (by omega) (by omega) (by omega) (by omega)
          · rw [if_neg (by rw [decide_eq_true_iff]; exact h6)]
            wtm_at "rs"
            exact exit n c3 _ _ _ B (by omega) (by omega) (by omega) (by omega)
      · rintro σ G ⟨n, c', k', v2, v4, v5, rfl, B, k1', k2', n0, n1⟩
        wtm_at "rs"
        rename_i D hD
        exact fin D _ (.sq n) c' k' G B k1' k2' ⟨n0, n1⟩ trivial (fun L h ne => ⟨D, rfl, ne, h⟩) hD
    · rw [if_neg (by rw [decide_eq_true_iff]; exact h2)]
      wtm_at "rs"
      by_cases h3 : r = 2
      · rw [if_pos (decide_eq_true h3)]
        wtm_at "rs"
        rename_i c2 a2 a20 a21 D1 hD1 c3 r3 r30 r31
        have B := B.put (u := .lst [.int c2, .int (k + 1 + 1), .bl b])
        have B := B.newL (o := .lst [.int 1, .int (-1)]) hD1
        have B := B.put (u := .lst [.int c3, .int (k + 1 + 1 + 1), .bl b])
        obtain ⟨e, he, ee⟩ : ∃ e : Int, atI [V.int 1, V.int (-1)] r3 = some (.int e) ∧ (e = 1 ∨ e = -1) := by
          rcases (show r3 = 0 ∨ r3 = 1 by omega) with z | z <;> subst z
          · exact ⟨1, rfl, .inl rfl⟩
          · exact ⟨-1, rfl, .inr rfl⟩
        refine B.gen fun G B => ?_
        refine rd_ixL (SqL.of (B.lAt (a := D1) (by wtm_at "mem"))) he ?_
        have ea : (a2 * e = a2 ∨ a2 * e = -a2) := by
          rcases ee with z | z <;> rw [z]
          · left; omega
          · right; omega
        have mb : CMulB a2 e := by
          rcases ee with z | z <;> rw [z] <;> exact Or.inl (Or.inl ⟨by omega, by omega⟩)
        wtm_at "rs"
        generalize a2 * e = a3 at *
        rename_i c4 n4 n40 n41 c5 n5 n50 n51 c6 n6 n60 n61 D hD
        have B := B.put (u := .lst [.int c4, .int (k + 1 + 1 + 1 + 1), .bl b])
        have B := B.put (u := .lst [.int c5, .int (k + 1 + 1 + 1 + 1 + 1), .bl b])
        have B := B.put (u := .lst [.int c6, .int (k + 1 + 1 + 1 + 1 + 1 + 1), .bl b])
        exact fin D _ (.rt a3 n4 n5 n6) c6 _ _ (B.sub sub_nil sub_nil) (by omega) (by omega) ⟨by omega, by omega, by omega, by omega, by omega, by omega⟩ trivial (fun L h ne => ⟨D, rfl, ne, h⟩) hD
      · rw [if_neg (by rw [decide_eq_true_iff]; exact h3)]
        wtm_at "rs"
        by_cases h4 : r = 3
        · rw [if_pos (decide_eq_true h4)]
          wtm_at "rs"
          rename_i c2 m m0 m1 c3 r3 r30 r31 D hD
          have B := B.put (u := .lst [.int c2, .int (k + 1 + 1), .bl b])
          have B := B.put (u := .lst [.int c3, .int (k + 1 + 1 + 1), .bl b])
          exact fin D _ (.re m r3) c3 _ _ B (by omega) (by omega) ⟨by omega, by omega, by omega, by omega⟩ trivial (fun L h ne => ⟨D, rfl, ne, h⟩) hD
        · rw [if_neg (by rw [decide_eq_true_iff]; exact h4)]
          wtm_at "rs"
          by_cases h5 : r = 4
          · rw [if_pos (decide_eq_true h5)]
            wtm_at "rs"
            rename_i D1 hD1 c2 r2 r20 r21
            have B := B.newL (o := .lst (([1, 2, 3, 4, 5, 6, 7, 8, 9, 10, 12, 13, 15, 16] : List Int).map V.int)) hD1
            have B := B.put (u := .lst [.int c2, .int (k + 1 + 1), .bl b])
            obtain ⟨e, he, ea⟩ := atI_pick (ns := [1, 2, 3, 4, 5, 6, 7, 8, 9, 10, 12, 13, 15, 16]) r20 r21
            revert ea
            refine B.gen fun G B ea => ?_
            refine rd_ixL (SqL.of (B.lAt (a := D1) (by wtm_at "mem"))) ea ?_
            wtm_at "rs"
            rename_i D hD
            have eb : 1 ≤ e ∧ e ≤ 60 := by
              simp only [List.mem_cons, List.not_mem_nil, or_false] at he
              omega
            exact fin D _ (.fo e) c2 _ _ (B.sub sub_nil sub_nil) (by omega) (by omega) eb trivial (fun L h ne => ⟨D, rfl, ne, h⟩) hD
          · rw [if_neg (by rw [decide_eq_true_iff]; exact h5)]
            wtm_at "rs"
            rename_i D1 hD1 c2 r2 r20 r21
            have B := B.newL (o := .lst (([-1, 2, -3, 5, -7, 0, 4, 12] : List Int).map V.int)) hD1
            have B := B.put (u := .lst [.int c2, .int (k + 1 + 1), .bl b])
            obtain ⟨e, he, ea⟩ := atI_pick (ns := [-1, 2, -3, 5, -7, 0, 4, 12]) r20 r21
            revert ea
            refine B.gen fun G B ea => ?_
            refine rd_ixL (SqL.of (B.lAt (a := D1) (by wtm_at "mem"))) ea ?_
            wtm_at "rs"
            rename_i D hD
            have eb : -1000 ≤ e ∧ e ≤ 1000 := by
              simp only [List.mem_cons, List.not_mem_nil, or_false] at he
              omega
            exact fin D _ (.sq e) c2 _ _ (B.sub sub_nil sub_nil) (by omega) (by omega) eb trivial (fun L h ne => ⟨D, rfl, ne, h⟩) hD
/-! ### _law_tree -/
def Say.wd (s : Say) : Nat := s.words.length
/-- the size of a saying that has so many parts -/
structure Say.Sz (s : Say) (m : Nat) : Prop where
  o : s.opn + 1 ≤ m
  w : s.words.length + 4 ≤ 11 * m
  d : s.dep + 1 ≤ 2 * m
theorem Sz_flat {s : Say} (h : s.flat) : s.opn + 1 ≤ 1 ∧ s.words.length + 5 ≤ 11 ∧ s.dep + 2 ≤ 2 := by
  cases s <;> first | exact h.elim | simp [Say.opn, Say.words, Say.dep]
def spLTree (n : Nat) : Sp := fun vs H Q _ => ∃ (p : Addr) (c k : Int) (b small : Bool) (m : Nat), vs = [.ref p, .int (m : Int), .bl small] ∧ 1 ≤ m ∧ m ≤ n ∧ m ≤ 5 ∧ H p = some (.lst [.int c, .int k, .bl b]) ∧ 0 ≤ k ∧ k + 40 * (m : Int) ≤ 9000 ∧ NoT H ∧
  ∀ (v : V) (s : Say) (c' k' : Int) (G : Hp), But p H G → NoT G → G p = some (.lst [.int c', .int k', .bl b]) → k ≤ k' → k' ≤ k + 40 * (m : Int) - 20 → TreeL p G v s → s.good → s.Sz m → Q v G
theorem ok_law_tree_r (T : Txt K mg Ad) (n : Nat) : Def P w K mg base (3 + n) "_law_tree" ["_law_pool_here", "_law_many", "_law_small"] (spLTree n) := by
  induction n with
  | zero =>
    refine Def.mono (T.d_law_tree.ok (k := 0) sc_law_tree (fun vs H Q E h => ?_) (fun f cdv A outer s H vs Q E hr h => ?_)) (by omega)
    · obtain ⟨p, c, k, b, small, m, rfl, _⟩ := h
      rfl
    · obtain ⟨p, c, k, b, small, m, rfl, m1, m2, _⟩ := h
      omega
  | succ n ih =>
    refine T.d_law_tree.ok (k := 3 + n) sc_law_tree (fun vs H Q E h => ?_) (fun f cdv A outer s H vs Q E hr h => ?_)
    · obtain ⟨p, c, k, b, small, m, rfl, _⟩ := h
      rfl
    · obtain ⟨p, c, k, b, small, m, rfl, m1, mn, m5, hp, k0, k1, nt, q⟩ := h
      refine ⟨_, (C8.pss_cut (ps_if (pt_cmpR op_eq (pv 1) pe_int (nomark _)) (pss_one (ps_set (i := 3) sc_law_tree.nd rfl (Or.inl rfl) (pe_d (ok_law_atom T) (hr.mono (by omega)) (passes_call (takes_of rfl rfl rfl rfl) (fun _ _ _ _ h => h)) (pa_cons (pv 0) (pa_cons (pv 2) pa_nil))))) (pss_cons (ps_set (i := 4) sc_law_tree.nd rfl (Or.inl rfl) (pe_op op_add pe_int (pe_d (ok_law_take T) (hr.mono (by omega)) (passes_call (takes_of rfl rfl rfl rfl) (fun _ _ _ _ h => h)) (pa_cons (pv 0) (pa_cons (pe_op op_sub (pv 1) pe_int) pa_nil)))))
      (pss_cons (ps_set (i := 5) sc_law_tree.nd rfl (Or.inl rfl) (pe_d ih (hr.mono (by omega)) (passes_call (takes_of rfl rfl rfl rfl) (fun _ _ _ _ h => h)) (pa_cons (pv 0) (pa_cons (pv 4) (pa_cons (pv 2) pa_nil)))))
      (pss_one (ps_set (i := 3) sc_law_tree.nd rfl (Or.inl rfl) (pe_lst (pa_cons (pe_ix ix_list (pe_lst (pa_cons pe_str (pa_cons pe_str pa_nil))) (pe_d (ok_law_take T) (hr.mono (by omega)) (passes_call (takes_of rfl rfl rfl rfl) (fun _ _ _ _ h => h)) (pa_cons (pv 0) (pa_cons pe_int pa_nil))) (fun _ _ => rfl)) (pa_cons (pv 5) (pa_cons (pe_d ih (hr.mono (by omega)) (passes_call (takes_of rfl rfl rfl rfl) (fun _ _ _ _ h => h)) (pa_cons (pv 0) (pa_cons (pe_op op_sub (pv 1) (pv 4)) (pa_cons (pv 2) pa_nil)))) pa_nil)))))))))
      (pss_cons (ps_if (pt_cmpR op_eq (pe_d (ok_law_take T) (hr.mono (by omega)) (passes_call (takes_of rfl rfl rfl rfl) (fun _ _ _ _ h => h)) (pa_cons (pv 0) (pa_cons pe_int pa_nil))) pe_int (nomark _)) (pss_one (ps_ret (pe_lst (pa_cons pe_str (pa_cons (pv 3) pa_nil))))) pss_nil)
      (pss_one (ps_ret (pv 3))))), ?_⟩
      try dsimp only [cxOf]
      have B := Hv.pool nt hp
      wtm_at "rs"
      refine rd_cut (fun σ G => ∃ (v : V) (s : Say) (c' k' : Int) (v4 v5 : Option V), σ = [some (.ref p), some (.int (m : Int)), some (.bl small), some v, v4, v5] ∧ Hv (· = p) H [(p, .lst [.int c', .int k', .bl b])] [] [] G ∧ k ≤ k' ∧ k' ≤ k + 40 * (m : Int) - 25 ∧ TreeL p G v s ∧ s.good ∧ s.opn + 1 ≤ m ∧ s.words.length + 5 ≤ 11 * m ∧ s.dep + 2 ≤ 2 * m) ?_ ?_
      · wtm_at "rs"
        by_cases e1 : (m : Int) = 1
        · rw [if_pos (decide_eq_true e1)]
          wtm_at "rs"
          refine ⟨p, c, k, b, small, rfl, hp, k0, by omega, nt, fun v s c' k' G bG nG hp k1' k2' tl g fl => ?_⟩
          have sz := Sz_flat fl
          wtm_at "rs"
          exact ⟨v, s, c', k', none, none, rfl, B.but bG nG hp, by omega, by omega, tl, g, by omega, by omega, by omega⟩
        · rw [if_neg (by rw [decide_eq_true_iff]; exact e1)]
          wtm_at "rs"
          rename_i c1 r r0 r1
          have B := B.put (u := .lst [.int c1, .int (k + 1), .bl b])
          refine B.gen fun G B => ?_
          obtain ⟨ma, hma⟩ : ∃ ma : Nat, 1 + r = (ma : Int) := ⟨(1 + r).toNat, by omega⟩
          rw [hma]
          refine ⟨p, c1, k + 1, b, small, ma, rfl, by omega, by omega, by omega, B.mAt (a := p) (by wtm_at "mem"), by omega, by omega, B.nt, fun v1 s1 c2 k2 G2 bG nG hp2 a1 a2 tl1 g1 z1 => ?_⟩
          have B := B.but bG nG hp2
          clear bG nG hp2
          wtm_at "rs"
          rename_i D1 hD1 c3 r3 r30 r31
          have tl1 := tl1.but (But.put (But.of (same_new (o := .lst [.str "and", .str "or"]) hD1)) : But p G2 (upd (upd G2 D1 (.lst [.str "and", .str "or"])) p (.lst [.int c3, .int (k2 + 1), .bl b])))
          have B := B.newL (o := .lst [.str "and", .str "or"]) hD1
          have B := B.put (u := .lst [.int c3, .int (k2 + 1), .bl b])
          obtain ⟨jw, hj, ej⟩ : ∃ jw : Str, atI [V.str "and", V.str "or"] r3 = some (.str jw) ∧ (jw = "and" ∨ jw = "or") := by
            rcases (show r3 = 0 ∨ r3 = 1 by omega) with z | z <;> subst z
            · exact ⟨_, rfl, .inl rfl⟩
            · exact ⟨_, rfl, .inr rfl⟩
          revert tl1
          refine B.gen fun G B tl1 => ?_
          refine rd_ixL (SqL.of (B.lAt (a := D1) (by wtm_at "mem"))) hj ?_
          wtm_at "rs"
          obtain ⟨mb, hmb⟩ : ∃ mb : Nat, (m : Int) - (ma : Int) = (mb : Int) := ⟨((m : Int) - (ma : Int)).toNat, by omega⟩
          rw [hmb]
          refine ⟨p, c3, k2 + 1, b, small, mb, rfl, by omega, by omega, by omega, B.mAt (a := p) (by wtm_at "mem"), by omega, by omega, B.nt, fun v2 s2 c4 k4 G4 bG nG hp4 a3 a4 tl2 g2 z2 => ?_⟩
          have tl1 := tl1.but bG
          have B := B.but bG nG hp4
          clear bG nG hp4
          wtm_at "rs"
          rename_i D5 hD5
          have Dp : D5 ≠ p := fun z => by
            rw [z, B.mAt (a := p) (by wtm_at "mem")] at hD5
            cases hD5
          have s5 := same_new (o := .lst [.str jw, v1, v2]) hD5
          have B := B.newL (o := .lst [.str jw, v1, v2]) hD5
          have o1 := z1.o
          have o2 := z2.o
          have w1 := z1.w
          have w2 := z2.w
          have d1 := z1.d
          have d2 := z2.d
          rcases ej with rfl | rfl
          · refine ⟨.ref D5, .an s1 s2, c4, k4, _, _, rfl, B.sub sub_nil sub_nil, by omega, by omega, ⟨D5, v1, v2, rfl, Dp, upd_same, tl1.but (But.of s5), tl2.but (But.of s5)⟩, ⟨g1, g2⟩, ?_, ?_, ?_⟩
            · show max s1.opn s2.opn + 1 + 1 ≤ m
              omega
            · simp only [Say.words, List.length_cons, List.length_append, List.length_nil]
              omega
            · show max s1.dep s2.dep + 1 + 2 ≤ 2 * m
              omega
          · refine ⟨.ref D5, .ou s1 s2, c4, k4, _, _, rfl, B.sub sub_nil sub_nil, by omega, by omega, ⟨D5, v1, v2, rfl, Dp, upd_same, tl1.but (But.of s5), tl2.but (But.of s5)⟩, ⟨g1, g2⟩, ?_, ?_, ?_⟩
            · show max s1.opn s2.opn + 1 + 1 ≤ m
              omega
            · simp only [Say.words, List.length_cons, List.length_append, List.length_nil]
              omega
            · show max s1.dep s2.dep + 1 + 2 ≤ 2 * m
              omega
      · rintro σ G ⟨v, s, c', k', v4, v5, rfl, B, k1', k2', tl, g, o1, o2, o3⟩
        wtm_at "rs"
        rename_i c3 r3 r30 r31
        have hpG := B.mAt (a := p) (by wtm_at "mem")
        have tl := TreeL.but (But.put But.refl : But p G (upd G p (.lst [.int c3, .int (k' + 1), .bl b]))) tl
        have B := B.put (u := .lst [.int c3, .int (k' + 1), .bl b])
        by_cases e : r3 = 1
        · rw [if_pos (decide_eq_true e)]
          wtm_at "rs"
          rename_i D hD
          have Dp : D ≠ p := fun z => by
            rw [z, upd_same] at hD
            cases hD
          refine q (.ref D) (.no s) c3 (k' + 1) _ (But.new B.but1 hD) (NoT.upd B.nt rfl) (by rw [upd_ne (Ne.symm Dp)]; exact upd_same) (by omega) (by omega) ⟨D, v, rfl, Dp, upd_same, tl.but (But.of (same_new hD))⟩ g ⟨o1, ?_, ?_⟩
          · show s.words.length + 1 + 4 ≤ 11 * m
            omega
          · show s.dep + 1 + 1 ≤ 2 * m
            omega
        · rw [if_neg (by rw [decide_eq_true_iff]; exact e)]
          wtm_at "rs"
          exact q v s c3 (k' + 1) _ B.but1 B.nt upd_same (by omega) (by omega) tl g ⟨o1, by omega, by omega⟩
theorem ok_law_tree (T : Txt K mg Ad) : Def P w K mg base 9 "_law_tree" ["_law_pool_here", "_law_many", "_law_small"] (spLTree 6) := ok_law_tree_r T 6
/-! ### _law_words -/
def spLWords (n : Nat) : Sp := fun vs H Q _ => ∃ (p : Addr) (v : V) (s : Say), vs = [v] ∧ TreeL p H v s ∧ s.good ∧ s.dep < n ∧ s.words.length ≤ 1000 ∧ NoT H ∧ ∀ D G, H D = none → Same H G → NoT G → G D = some (.lst (s.words.map V.str)) → Q (.ref D) G
theorem use_lwords {n : Nat} {p : Addr} {v : V} {s : Say} {H : Hp} {Q : VK} {E : XK} (t : TreeL p H v s) (g : s.good) (d : s.dep < n) (l : s.words.length ≤ 1000) (nt : NoT H) (q : ∀ D G, H D = none → Same H G → NoT G → G D = some (.lst (s.words.map V.str)) → Q (.ref D) G) : spLWords n [v] H Q E := ⟨p, v, s, rfl, t, g, d, l, nt, q⟩
theorem ok_law_words_r (T : Txt K mg Ad) (n : Nat) : Def P w K mg base (1 + n) "_law_words" ["_law_tree_here"] (spLWords n) := by
  induction n with
  | zero =>
    refine Def.mono (T.d_law_words.ok (k := 0) sc_law_words (fun vs H Q E h => ?_) (fun f cdv A outer s H vs Q E hr h => ?_)) (by omega)
    · obtain ⟨p, v, s, rfl, _⟩ := h
      rfl
    · obtain ⟨p, v, s, rfl, _, _, d, _⟩ := h
      omega
  | succ n ih =>
    refine T.d_law_words.ok (k := 1 + n) sc_law_words (fun vs H Q E h => ?_) (fun f cdv A outer s H vs Q E hr h => ?_)
    · obtain ⟨p, v, s, rfl, _⟩ := h
      rfl
    · obtain ⟨p, v, s, rfl, t, g, d, l, nt, q⟩ := h
      refine ⟨_, (pss_cons (ps_set (i := 1) sc_law_words.nd rfl (Or.inl rfl) (pe_ix ix_list (pv 0) pe_int (fun _ _ => rfl)))
      (pss_cons (ps_if (PW.pt (pw_or (pt_cmpR op_eq (pv 1) pe_str (nomark _)) (pw_or1 (pt_cmpR op_eq (pv 1) pe_str (nomark _))))) (pss_one (ps_ret (pe_lst (pa_cons (pv 1) (pa_cons (pe_callTy call_strI (by rfl) T.b_str (by decide +kernel) (pa_cons (pe_ix ix_list (pv 0) pe_int (fun _ _ => rfl)) pa_nil)) pa_nil))))) pss_nil)
      (pss_cons (ps_if (pt_cmpR op_eq (pv 1) pe_str (nomark _)) (pss_one (ps_ret (pe_lst (pa_cons (pv 1) (pa_cons (pe_callTy call_strI (by rfl) T.b_str (by decide +kernel) (pa_cons (pe_ix ix_list (pv 0) pe_int (fun _ _ => rfl)) pa_nil)) (pa_cons (pe_callTy call_strI (by rfl) T.b_str (by decide +kernel) (pa_cons (pe_ix ix_list (pv 0) pe_int (fun _ _ => rfl)) pa_nil)) (pa_cons (pe_callTy call_strI (by rfl) T.b_str (by decide +kernel) (pa_cons (pe_ix ix_list (pv 0) pe_int (fun _ _ => rfl)) pa_nil)) (pa_cons pe_str (pa_cons (pe_callTy call_strI (by rfl) T.b_str (by decide +kernel) (pa_cons (pe_ix ix_list (pv 0) pe_int (fun _ _ => rfl)) pa_nil)) pa_nil))))))))) pss_nil)
      (pss_cons (ps_if (pt_cmpR op_eq (pv 1) pe_str (nomark _)) (pss_one (ps_ret (pe_lst (pa_cons (pv 1) (pa_cons (pe_callTy call_strI (by rfl) T.b_str (by decide +kernel) (pa_cons (pe_ix ix_list (pv 0) pe_int (fun _ _ => rfl)) pa_nil)) (pa_cons pe_str (pa_cons (pe_callTy call_strI (by rfl) T.b_str (by decide +kernel) (pa_cons (pe_ix ix_list (pv 0) pe_int (fun _ _ => rfl)) pa_nil)) pa_nil))))))) pss_nil)
      (pss_cons (ps_if (pt_cmpR op_eq (pv 1) pe_str (nomark _)) (pss_one (ps_ret (pe_op op_cat (pe_lst (pa_cons (pv 1) pa_nil)) (pe_d ih (hr.mono (by omega)) (passes_call (takes_of rfl rfl rfl rfl) (fun _ _ _ _ h => h)) (pa_cons (pe_ix ix_list (pv 0) pe_int (fun _ _ => rfl)) pa_nil))))) pss_nil)
      (pss_one (ps_ret (pe_op op_cat (pe_op op_cat (pe_op op_cat (pe_op op_cat (pe_lst (pa_cons pe_str pa_nil)) (pe_d ih (hr.mono (by omega)) (passes_call (takes_of rfl rfl rfl rfl) (fun _ _ _ _ h => h)) (pa_cons (pe_ix ix_list (pv 0) pe_int (fun _ _ => rfl)) pa_nil))) (pe_lst (pa_cons (pv 1) pa_nil))) (pe_d ih (hr.mono (by omega)) (passes_call (takes_of rfl rfl rfl rfl) (fun _ _ _ _ h => h)) (pa_cons (pe_ix ix_list (pv 0) pe_int (fun _ _ => rfl)) pa_nil))) (pe_lst (pa_cons pe_str pa_nil)))))))))), ?_⟩
      try dsimp only [cxOf]
      have bd : ∀ x : Int, -1000 ≤ x → x ≤ 1000 → Bd 100 x := fun x h1 h2 => Bd.of (by omega) (by omega)
      cases s with
      | sq n =>
        obtain ⟨t, rfl, _, ht⟩ := t
        have bn := bd n g.1 g.2
        wtm_at "rs"
        rename_i D hD
        exact q D _ hD (same_new hD) (NoT.upd nt rfl) upd_same
      | rt a b c m =>
        obtain ⟨t, rfl, _, ht⟩ := t
        obtain ⟨g0, g1, g2, g3, g4, g5⟩ := g
        have b1 := bd a (by omega) (by omega)
        have b2 := bd b (by omega) (by omega)
        have b3 := bd c (by omega) (by omega)
        have b4 := bd m (by omega) (by omega)
        wtm_at "rs"
        repeat (refine rd_eqF (by decide +kernel) ?_; wtm_at "rs")
        rename_i D hD
        exact q D _ hD (same_new hD) (NoT.upd nt rfl) upd_same
      | re m r =>
        obtain ⟨t, rfl, _, ht⟩ := t
        obtain ⟨g1, g2, g3, g4⟩ := g
        have b1 := bd m (by omega) (by omega)
        have b2 := bd r (by omega) (by omega)
        wtm_at "rs"
        repeat (refine rd_eqF (by decide +kernel) ?_; wtm_at "rs")
        rename_i D hD
        exact q D _ hD (same_new hD) (NoT.upd nt rfl) upd_same
      | fo n =>
        obtain ⟨t, rfl, _, ht⟩ := t
        obtain ⟨g1, g2⟩ := g
        have b1 := bd n (by omega) (by omega)
        wtm_at "rs"
        repeat (refine rd_eqF (by decide +kernel) ?_; wtm_at "rs")
        rename_i D hD
        exact q D _ hD (same_new hD) (NoT.upd nt rfl) upd_same
      | no s =>
        obtain ⟨t, u, rfl, tp, ht, hu⟩ := t
        have d2 : s.dep + 1 < n + 1 := d
        have l2 : s.words.length + 1 ≤ 1000 := l
        wtm_at "rs"
        repeat (refine rd_eqF (by decide +kernel) ?_; wtm_at "rs")
        rename_i D1 hD1
        have B := (Hv.start nt).newL (o := .lst [.str "not"]) hD1
        refine B.gen fun G B => ?_
        refine use_lwords (hu.but (But.of B.same)) g (by omega) (by omega) B.nt fun D2 G2 h2 s2 n2 e2 => ?_
        have B := B.got s2 n2 h2 e2
        refine B.gen fun G B => ?_
        refine rd_cat (B.lAt (a := D1) (by wtm_at "mem")) (B.lAt (a := D2) (by wtm_at "mem")) (by rw [List.length_map]; show 1 + _ ≤ _; unfold sizeLine; omega) fun D hD => ?_
        wtm_at "rs"
        exact q D _ (B.free hD) (B.same.trans (same_new hD)) (NoT.upd B.nt rfl) upd_same
      | an s1 s2 =>
        obtain ⟨t, u1, u2, rfl, tp, ht, hu1, hu2⟩ := t
        have d2 : max s1.dep s2.dep + 1 < n + 1 := d
        have l2 : s1.words.length + (s2.words.length + 1 + 1) + 1 ≤ 1000 := by simpa [Say.words] using l
        wtm_at "rs"
        repeat (refine rd_eqF (by decide +kernel) ?_; wtm_at "rs")
        rename_i D1 hD1
        have B := (Hv.start nt).newL (o := .lst [.str "("]) hD1
        refine B.gen fun G B => ?_
        refine use_lwords (hu1.but (But.of B.same)) g.1 (by omega) (by omega) B.nt fun D2 G2 h2 s2' n2 e2 => ?_
        have B := B.got s2' n2 h2 e2
        clear s2' n2 h2 e2
        refine B.gen fun G B => ?_
        refine rd_cat (B.lAt (a := D1) (by wtm_at "mem")) (B.lAt (a := D2) (by wtm_at "mem")) (by rw [List.length_map]; show 1 + _ ≤ _; unfold sizeLine; omega) fun D3 hD3 => ?_
        have B := B.newL (o := .lst ([.str "("] ++ s1.words.map V.str)) hD3
        refine B.gen fun G B => ?_
        have ht := B.oAt ht
        wtm_at "rs"
        rename_i D4 hD4
        have B := B.newL (o := .lst [.str "and"]) hD4
        refine B.gen fun G B => ?_
        refine rd_cat (B.lAt (a := D3) (by wtm_at "mem")) (B.lAt (a := D4) (by wtm_at "mem")) (by rw [List.length_append, List.length_map]; show 1 + _ + 1 ≤ _; unfold sizeLine; omega) fun D5 hD5 => ?_
        have B := B.newL (o := .lst ([.str "("] ++ s1.words.map V.str ++ [.str "and"])) hD5
        refine B.gen fun G B => ?_
        have ht := B.oAt ‹H t = _›
        wtm_at "rs"
        refine use_lwords (hu2.but (But.of B.same)) g.2 (by omega) (by omega) B.nt fun D6 G2 h2 s2' n2 e2 => ?_
        have B := B.got s2' n2 h2 e2
        clear s2' n2 h2 e2
        refine B.gen fun G B => ?_
        refine rd_cat (B.lAt (a := D5) (by wtm_at "mem")) (B.lAt (a := D6) (by wtm_at "mem")) (by rw [List.length_append, List.length_append, List.length_map, List.length_map]; show 1 + _ + 1 + _ ≤ _; unfold sizeLine; omega) fun D7 hD7 => ?_
        have B := B.newL (o := .lst ([.str "("] ++ s1.words.map V.str ++ [.str "and"] ++ s2.words.map V.str)) hD7
        refine B.gen fun G B => ?_
        wtm_at "rs"
        rename_i D8 hD8
        have B := B.newL (o := .lst [.str ")"]) hD8
        refine B.gen fun G B => ?_
        refine rd_cat (B.lAt (a := D7) (by wtm_at "mem")) (B.lAt (a := D8) (by wtm_at "mem")) (by rw [List.length_append, List.length_append, List.length_append, List.length_map, List.length_map]; show 1 + _ + 1 + _ + 1 ≤ _; unfold sizeLine; omega) fun D hD => ?_
        refine q D _ (B.free hD) (B.same.trans (same_new hD)) (NoT.upd B.nt rfl) ?_
        rw [upd_same]
        simp [Say.words]
      | ou s1 s2 =>
        obtain ⟨t, u1, u2, rfl, tp, ht, hu1, hu2⟩ := t
        have d2 : max s1.dep s2.dep + 1 < n + 1 := d
        have l2 : s1.words.length + (s2.words.length + 1 + 1) + 1 ≤ 1000 := by simpa [Say.words] using l
        wtm_at "rs"
        repeat (refine rd_eqF (by decide +kernel) ?_; wtm_at "rs")
        rename_i D1 hD1
        have B := (Hv.start nt).newL (o := .lst [.str "("]) hD1
        refine B.gen fun G B => ?_
        refine use_lwords (hu1.but (But.of B.same)) g.1 (by omega) (by omega) B.nt fun D2 G2 h2 s2' n2 e2 => ?_
        have B := B.got s2' n2 h2 e2
        clear s2' n2 h2 e2
        refine B.gen fun G B => ?_
        refine rd_cat (B.lAt (a := D1) (by wtm_at "mem")) (B.lAt (a := D2) (by wtm_at "mem")) (by rw [List.length_map]; show 1 + _ ≤ _; unfold sizeLine; omega) fun D3 hD3 => ?_
        have B := B.newL (o := .lst ([.str "("] ++ s1.words.map V.str)) hD3
        refine B.gen fun G B => ?_
        have ht := B.oAt ht
        wtm_at "rs"
        rename_i D4 hD4
        have B := B.newL (o := .lst [.str "or"]) hD4
        refine B.gen fun G B => ?_
        refine rd_cat (B.lAt (a := D3) (by wtm_at "mem")) (B.lAt (a := D4) (by wtm_at "mem")) (by rw [List.length_append, List.length_map]; show 1 + _ + 1 ≤ _; unfold sizeLine; omega) fun D5 hD5 => ?_
        have B := B.newL (o := .lst ([.str "("] ++ s1.words.map V.str ++ [.str "or"])) hD5
        refine B.gen fun G B => ?_
        have ht := B.oAt ‹H t = _›
        wtm_at "rs"
        refine use_lwords (hu2.but (But.of B.same)) g.2 (by omega) (by omega) B.nt fun D6 G2 h2 s2' n2 e2 => ?_
        have B := B.got s2' n2 h2 e2
        clear s2' n2 h2 e2
        refine B.gen fun G B => ?_
        refine rd_cat (B.lAt (a := D5) (by wtm_at "mem")) (B.lAt (a := D6) (by wtm_at "mem")) (by rw [List.length_append, List.length_append, List.length_map, List.length_map]; show 1 + _ + 1 + _ ≤ _; unfold sizeLine; omega) fun D7 hD7 => ?_
        have B := B.newL (o := .lst ([.str "("] ++ s1.words.map V.str ++ [.str "or"] ++ s2.words.map V.str)) hD7
        refine B.gen fun G B => ?_
        wtm_at "rs"
        rename_i D8 hD8
        have B := B.newL (o := .lst [.str ")"]) hD8
        refine B.gen fun G B => ?_
        refine rd_cat (B.lAt (a := D7) (by wtm_at "mem")) (B.lAt (a := D8) (by wtm_at "mem")) (by rw [List.length_append, List.length_append, List.length_append, List.length_map, List.length_map]; show 1 + _ + 1 + _ + 1 ≤ _; unfold sizeLine; omega) fun D hD => ?_
        refine q D _ (B.free hD) (B.same.trans (same_new hD)) (NoT.upd B.nt rfl) ?_
        rw [upd_same]
        simp [Say.words]
theorem ok_law_words (T : Txt K mg Ad) : Def P w K mg base 21 "_law_words" ["_law_tree_here"] (spLWords 20) := ok_law_words_r T 20
/-! ### Reader.__init__ -/
theorem nrw : ¬ (("words" : Str) = "at") := by decide +kernel
def rdFl (a b : V) : List (Str × V) := [("words", a), ("at", b)]
theorem rdFl_put (a b : V) : putF "at" b (putF "words" a []) = rdFl a b := by
  simp only [putF, if_neg nrw, rdFl]
def spRdI (C : Addr) : Sp := fun vs H Q _ => ∃ (x dx W : Addr) (i : Int), vs = [.ref x, .ref W, .int i] ∧ H x = some (.ins C dx []) ∧ Q .non (upd H x (.ins C dx (rdFl (.ref W) (.int i))))
theorem ok_Reader_init (T : Txt K mg Ad) : MkDef P w K mg base 1 "Reader" Ad.c_Reader ["self", "words", "at"] (spRdI Ad.c_Reader) := by
  refine T.d_Reader_init.ok sc_Reader_init (fun vs H Q E h => ?_) (fun f cdv A outer s H vs Q E hr h => ?_)
  · obtain ⟨x, dx, W, i, rfl, _⟩ := h
    rfl
  · obtain ⟨x, dx, W, i, rfl, hx, q⟩ := h
    refine ⟨_, (pss_cons (ps_fldC (pv 0) (pv 1) T.cl_Reader T.nf_Reader_words)
      (pss_one (ps_fldC (pv 0) (pv 2) T.cl_Reader T.nf_Reader_at))), ?_⟩
    try dsimp only [cxOf]
    wtm_at "rs"
    rw [upd_upd, rdFl_put]
    exact q
/-- a place among words -/
structure IsRd (C : Addr) (H : Hp) (r : Addr) (ws : List Str) (i : Nat) : Prop where
  ex : ∃ dx W, H r = some (.ins C dx (rdFl (.ref W) (.int i))) ∧ H W = some (.lst (ws.map V.str))
  le : i ≤ ws.length
  few : ws.length ≤ 100000
  wl : ∀ w ∈ ws, w.length ≤ 100000
theorem IsRd.mono {C : Addr} {H G : Hp} {r : Addr} {ws : List Str} {i : Nat} (h : IsRd C H r ws i) (s : Same H G) : IsRd C G r ws i := by
  obtain ⟨dx, W, h1, h2⟩ := h.ex
  exact ⟨⟨dx, W, s _ _ h1, s _ _ h2⟩, h.le, h.few, h.wl⟩
theorem mk_Rd {C W : Addr} {H1 : Hp} {ws : List Str} {i : Nat} {R : Addr → Hp → Prop} {E : XK} (hW : H1 W = some (.lst (ws.map V.str))) (le : i ≤ ws.length) (few : ws.length ≤ 100000) (wl : ∀ w ∈ ws, w.length ≤ 100000) (nt : NoT H1)
    (q : ∀ x G, H1 x = none → Same H1 G → NoT G → IsRd C G x ws i → R x G) :
    ∀ x dx, H1 x = none → H1 dx = none → dx ≠ x → spRdI C [.ref x, .ref W, .int (i : Int)] (upd (upd H1 dx (.own x)) x (.ins C dx [])) (fun v H2 => v = .non ∧ R x H2) E := by
  intro x dx nx nd ne
  refine ⟨x, dx, W, i, rfl, upd_same, rfl, ?_⟩
  rw [upd_upd]
  have s := same_upd2 (o1 := .ins C dx (rdFl (.ref W) (.int i))) (same_new (o := .own x) nd) nx
  exact q x _ nx s (NoT.upd (NoT.upd nt rfl) rfl) ⟨⟨dx, W, upd_same, s _ _ hW⟩, le, few, wl⟩
/-- the error that tells a place -/
def ErrAt (C : Addr) (H : Hp) (E : XK) (k : Nat) : Prop := ∀ d G, Same H G → NoT G → G d = some (.xd [("at", .int (k : Int))]) → E (.ref C) (some d) G
theorem ErrAt.mono {C : Addr} {H G : Hp} {E : XK} {k : Nat} (h : ErrAt C H E k) (s : Same H G) : ErrAt C G E k := fun d L sm n e => h d L (s.trans sm) n e
theorem ErrAt.here {C d : Addr} {H : Hp} {E : XK} {k : Nat} {i : Int} (h : ErrAt C H E k) (nt : NoT H) (hd : H d = none) (e : i = (k : Int)) : E (.ref C) (some d) (upd H d (.xd [("at", .int i)])) := by
  subst e
  exact h d _ (same_new hd) (NoT.upd nt rfl) upd_same
/-! ### Reader.next_word -/
def spRdW (C CB : Addr) : Sp := fun vs H Q E => ∃ (r : Addr) (ws : List Str) (i : Nat), vs = [.ref r] ∧ IsRd C H r ws i ∧ NoT H ∧ (ws[i]? = none → ErrAt CB H E i) ∧ ∀ w, ws[i]? = some w → Q (.str w) H
theorem use_word {C CB r : Addr} {ws : List Str} {i : Nat} {H : Hp} {Q : VK} {E : XK} (h : IsRd C H r ws i) (nt : NoT H) (qe : ws[i]? = none → ErrAt CB H E i) (q : ∀ w, ws[i]? = some w → Q (.str w) H) : spRdW C CB [.ref r] H Q E := ⟨r, ws, i, rfl, h, nt, qe, q⟩
theorem ok_Reader_next_word (T : Txt K mg Ad) : MDef P w K mg base 3 Ad.c_Reader "next_word" ["self"] (spRdW Ad.c_Reader Ad.c_BadSaying) := by
  refine T.d_Reader_next_word.ok sc_Reader_next_word (fun vs H Q E h => ?_) (fun f cdv A outer s H vs Q E hr h => ?_)
  · obtain ⟨r, ws, i, rfl, _⟩ := h
    rfl
  · obtain ⟨r, ws, i, rfl, h, nt, qe, q⟩ := h
    obtain ⟨dx, W, h1, h2⟩ := h.ex
    have le := h.le
    refine ⟨_, (pss_cons (ps_if (pt_cmpR op_eq (pe_fldC (pv 0) T.cl_Reader T.nf_Reader_at) (pe_callB c_len (by rfl) T.b_len PySem.boot_len (pa_cons (pe_fldC (pv 0) T.cl_Reader T.nf_Reader_words) pa_nil)) (nomark _)) (pss_one (ps_raise rfl (takes_of rfl rfl rfl rfl) (pmk_err (T.err_BadSaying) (hr.mono (by decide)) (pa_cons (pe_fldC (pv 0) T.cl_Reader T.nf_Reader_at) pa_nil)))) pss_nil)
      (pss_one (ps_ret (pe_ix ix_list (pe_fldC (pv 0) T.cl_Reader T.nf_Reader_words) (pe_fldC (pv 0) T.cl_Reader T.nf_Reader_at) (fun _ _ => rfl))))), ?_⟩
    try dsimp only [cxOf]
    wtm_at "rs"
    rw [List.length_map]
    by_cases e : (i : Int) = (ws.length : Int)
    · rw [if_pos (decide_eq_true e)]
      wtm_at "rs"
      exact fun d hd => (qe (List.getElem?_eq_none (by omega))).here nt hd rfl
    · rw [if_neg (by rw [decide_eq_true_iff]; exact e)]
      wtm_at "rs"
      have lt : i < ws.length := by omega
      exact rd_ixL (SqL.of h2) (show atI (ws.map V.str) ((i : Nat) : Int) = some (.str ws[i]) from atI_nat (by rw [List.getElem?_map, List.getElem?_eq_getElem lt]; rfl)) (q _ (List.getElem?_eq_getElem lt))
/-! ### is_integer_word -/
theorem cut1S {z : Str} : (cutS z none (some 1)).cps.toList = z.cps.toList.take 1 := by
  have hl : z.cps.toList.length = z.length := by simp [Str.length]
  unfold cutS
  cases h : z.cps.toList with
  | nil => simp
  | cons c cs =>
    rw [h] at hl
    simp [HT.sIx, ← hl]
theorem cutR {z : Str} : (cutS z (some 1) none).cps.toList = z.cps.toList.drop 1 := by
  have hl : z.cps.toList.length = z.length := by simp [Str.length]
  unfold cutS
  cases h : z.cps.toList with
  | nil => simp
  | cons c cs =>
    rw [h] at hl
    simp [HT.sIx, ← hl]
theorem str_eq {a b : Str} : a = b ↔ a.cps.toList = b.cps.toList := ⟨fun e => by rw [e], fun e => Str.ext' (Array.toList_inj.mp e)⟩
def spIW0 : Sp := fun vs H Q _ => ∃ w : Str, vs = [.str w] ∧ w.length ≤ 100000 ∧ NoT H ∧ ∀ G, Same H G → Q (.bl (isIW w)) G
def spIW : Sp := fun vs H Q _ => ∃ w : Str, vs = [.str w] ∧ w.length ≤ 100000 ∧ NoT H ∧ Q (.bl (isIW w)) H
theorem use_IW {w : Str} {H : Hp} {Q : VK} {E : XK} (l : w.length ≤ 100000) (nt : NoT H) (q : Q (.bl (isIW w)) H) : spIW [.str w] H Q E := ⟨w, rfl, l, nt, q⟩
theorem ok_is_integer_word0 (T : Txt K mg Ad) : Def P w K mg base 1 "is_integer_word" ["word"] spIW0 := by
  refine T.d_is_integer_word.ok sc_is_integer_word (fun vs H Q E h => ?_) (fun f cdv A outer s H vs Q E hr h => ?_)
  · obtain ⟨w, rfl, _⟩ := h
    rfl
  · obtain ⟨w, rfl, l, nt, q⟩ := h
    refine ⟨_, (pss_cons (ps_set (i := 1) sc_is_integer_word.nd rfl (Or.inl rfl) (pv 0))
      (C8.pss_cut (ps_if (pt_cmpR op_eq (pe_slice sl_str (pv 0) po_none (po_some pe_int)) pe_str (nomark _)) (pss_one (ps_set (i := 1) sc_is_integer_word.nd rfl (Or.inl rfl) (pe_slice sl_str (pv 0) (po_some pe_int) po_none))) pss_nil)
      (pss_cons (ps_if (PW.pt (pw_or (pt_cmpR op_eq (pv 1) pe_str (nomark _)) (pw_or (pt_cmpR op_gt (pe_callB c_lenS (by rfl) T.b_len PySem.boot_len (pa_cons (pv 1) pa_nil)) pe_int (nomark _)) (pw_or1 (pt_not (pt_val (pe_callB (cr_all rfl) (by rfl) T.b_all (by decide +kernel) (pa_cons (pe_lc (own := [("letter", 2)])  (te := (tOp rInSg (tVar 2) (tC (.str "0123456789")))) rfl sc_is_integer_word.nd  (pi_str (pv 1)) (blkOk_by (own := [("letter", 2)]) (N := ["word", "digits", "letter"]) (sc := defScope s_is_integer_word) (by decide +kernel)) (fun _ _ _ _ _ => (pg_name (i := 2) sc_is_integer_word.nd rfl (Or.inl rfl))) (fun _ _ _ _ _ => pts_nil) (fun _ _ _ _ _ => (pe_cmpR op_inSg (pv 2) pe_str (by rfl)))) pa_nil)))))))) (pss_one (ps_ret pe_bl)) pss_nil)
      (pss_one (ps_ret (pe_or (pe_and (pe_cmpR op_eq (pv 1) pe_str (nomark _)) (pe_one (pe_cmpR op_eq (pv 0) pe_str (nomark _)))) (pe_one (pe_cmpR op_ne (pe_ix ix_str (pv 1) pe_int (fun _ _ => rfl)) pe_str (nomark _))))))))), ?_⟩
    try dsimp only [cxOf]
    have hl : w.cps.toList.length = w.length := by simp [Str.length]
    wtm_at "rs"
    refine rd_cut (fun σ G => ∃ d : Str, σ = [some (.str w), some (.str d), none] ∧ G = H ∧ d.cps.toList = (if w.cps.toList.take 1 = [45] then w.cps.toList.drop 1 else w.cps.toList)) ?_ ?_
    · have minus : ("-" : Str).cps.toList = [45] := by decide +kernel
      wtm_at "rs"
      refine rd_slS (by unfold sizeLine; omega) ?_
      wtm_at "rs"
      by_cases hm : w.cps.toList.take 1 = [45]
      · rw [if_pos (decide_eq_true (str_eq.mpr (by rw [cut1S, minus]; exact hm)))]
        wtm_at "rs"
        refine rd_slS (by unfold sizeLine; omega) ?_
        wtm_at "rs"
        exact ⟨_, rfl, rfl, by rw [if_pos hm]; exact cutR⟩
      · rw [if_neg (by rw [decide_eq_true_iff]; exact fun z => hm (by rw [← cut1S, z, minus]))]
        wtm_at "rs"
        exact ⟨_, rfl, rfl, by rw [if_neg hm]⟩
    · rintro σ G ⟨d, rfl, rfl, hd⟩
      have eW : isIW w = (if d.cps.toList = [] ∨ 4 < d.cps.toList.length ∨ ¬ (d.cps.toList.all fun c => decide (48 ≤ c ∧ c ≤ 57)) = true then false else decide ((d.cps.toList = [48] ∧ w.cps.toList = [48]) ∨ d.cps.toList.head? ≠ some 48)) := by
        unfold isIW
        rw [hd]
      have dl : d.cps.toList.length = d.length := by simp [Str.length]
      have dw : d.length ≤ 100000 := by
        rw [← dl, hd]
        split
        · rw [List.length_drop]
          omega
        · omega
      have emp : ("" : Str).cps.toList = [] := by decide +kernel
      have zero : ("0" : Str).cps.toList = [48] := by decide +kernel
      have dig : ∀ c, c ∈ ("0123456789" : Str).cps.toList ↔ 48 ≤ c ∧ c ≤ 57 := by
        intro c
        rw [show ("0123456789" : Str).cps.toList = [48, 49, 50, 51, 52, 53, 54, 55, 56, 57] by decide +kernel]
        simp only [List.mem_cons, List.not_mem_nil, or_false]
        omega
      wtm_at "rs"
      by_cases e0 : d = ""
      · rw [if_pos (decide_eq_true e0)]
        wtm_at "rs"
        rw [if_pos (.inl (by rw [e0, emp]))] at eW
        rw [eW] at q
        exact q _ (Same.refl _)
      · have n0 : d.cps.toList ≠ [] := fun z => e0 (str_eq.mpr (by rw [z, emp]))
        rw [if_neg (by rw [decide_eq_true_iff]; exact e0)]
        wtm_at "rs"
        refine ⟨d, rfl, by unfold sizeLine; omega, ?_⟩
        wtm_at "rs"
        by_cases e4 : (4 : Int) < (d.length : Int)
        · rw [if_pos (decide_eq_true e4)]
          wtm_at "rs"
          rw [if_pos (.inr (.inl (by omega)))] at eW
          rw [eW] at q
          exact q _ (Same.refl _)
        · rw [if_neg (by rw [decide_eq_true_iff]; exact e4)]
          wtm_at "rs"
          refine rd_lcS (fun i ys => ys = ((d.cps.toList.take i).map fun c => decide (48 ≤ c ∧ c ≤ 57)).map V.bl) nt rfl (fun D i ys c G2 hc sm nG hD hGD hy => ?_) fun D ys G2 hD hGD sm nG hy => ?_
          · have hi := (List.getElem?_eq_some_iff.mp hc).1
            wtm_at "r"
            refine ⟨rfl, ?_⟩
            wtm_at "rs"
            refine put_P hGD (by rw [hy, List.length_map, List.length_map, List.length_take]; unfold sizeLine; omega) sm hD nG ?_
            rw [hy, List.take_add_one, hc, List.map_append, List.map_append, decide_eq_decide.mpr (dig c)]
            rfl
          · rw [show d.cps.size = d.cps.toList.length by simp, List.take_length] at hy
            wtm_at "rs"
            refine ⟨D, d.cps.toList.map fun c => decide (48 ≤ c ∧ c ≤ 57), rfl, SqL.of (by rw [hGD, hy]), ?_⟩
            rw [List.all_map]
            have ea : ((id : Bool → Bool) ∘ fun c => decide (48 ≤ c ∧ c ≤ 57)) = fun c : Nat => decide (48 ≤ c ∧ c ≤ 57) := rfl
            rw [ea]
            refine ⟨_, rfl, ?_⟩
            by_cases ha : (d.cps.toList.all fun c => decide (48 ≤ c ∧ c ≤ 57)) = true
            · rw [ha]
              rw [if_neg (by rintro (z | z | z); exact n0 z; omega; exact z ha)] at eW
              wtm_at "rs"
              obtain ⟨c0, r0, hc⟩ : ∃ c r, d.cps.toList = c :: r := by
                cases h : d.cps.toList with
                | nil => exact absurd h n0
                | cons c r => exact ⟨c, r, rfl⟩
              have e48 : (⟨#[c0]⟩ : Str) = "0" ↔ c0 = 48 := by
                rw [str_eq, zero]
                simp
              have dz : d = "0" ↔ d.cps.toList = [48] := by rw [str_eq, zero]
              have wz : w = "0" ↔ w.cps.toList = [48] := by rw [str_eq, zero]
              have hd0 : d.cps.toList.head? ≠ some 48 ↔ ¬ (⟨#[c0]⟩ : Str) = "0" := by
                rw [hc, e48]
                simp
              have fin : ¬ (d = "0" ∧ w = "0") → Q (.bl (!decide ((⟨#[c0]⟩ : Str) = "0"))) G2 := fun z => by
                have q := q G2 sm
                rw [eW, decide_eq_decide.mpr (show (d.cps.toList = [48] ∧ w.cps.toList = [48] ∨ d.cps.toList.head? ≠ some 48) ↔ ¬ (⟨#[c0]⟩ : Str) = "0" by rw [← dz, ← wz, hd0]; exact ⟨fun h => h.elim (fun h => absurd h z) id, .inr⟩), decide_not] at q
                exact q
              have a0 : atI d.cps.toList 0 = some c0 := by rw [hc]; exact show atI (c0 :: r0) ((0 : Nat) : Int) = some c0 from atI_nat rfl
              by_cases h1 : d = "0"
              · rw [if_pos (decide_eq_true h1)]
                wtm_at "rs"
                by_cases h2 : w = "0"
                · rw [if_pos (decide_eq_true h2)]
                  have q := q G2 sm
                  rw [eW, decide_eq_true (.inl ⟨dz.mp h1, wz.mp h2⟩)] at q
                  exact q
                · rw [if_neg (by rw [decide_eq_true_iff]; exact h2)]
                  wtm_at "rs"
                  refine rd_ixS (by unfold sizeLine; omega) a0 ?_
                  wtm_at "rs"
                  exact fin fun z => h2 z.2
              · rw [if_neg (by rw [decide_eq_true_iff]; exact h1)]
                wtm_at "rs"
                refine rd_ixS (by unfold sizeLine; omega) a0 ?_
                wtm_at "rs"
                exact fin fun z => h1 z.1
            · rw [Bool.eq_false_iff.mpr ha]
              rw [if_pos (.inr (.inr ha))] at eW
              rw [eW] at q
              wtm_at "rs"
              exact q _ sm
theorem ok_is_integer_word (T : Txt K mg Ad) : Def P w K mg base 1 "is_integer_word" ["word"] spIW :=
  (ok_is_integer_word0 T).forget.imp fun vs H Q E ⟨w, e, l, nt, q⟩ => ⟨nt, w, e, l, nt, fun G s => ⟨s, q⟩⟩
/-! ### Reader.number -/
def spRdN (C CB : Addr) : Sp := fun vs H Q E => ∃ (r : Addr) (ws : List Str) (i : Nat) (lo hi : Int), vs = [.ref r, .int lo, .int hi] ∧ IsRd C H r ws i ∧ NoT H ∧ (∀ k, rdN ws i lo hi = .error k → ErrAt CB H E k) ∧ (∀ n, rdN ws i lo hi = .ok n → Q (.int n) H)
theorem use_num {C CB r : Addr} {ws : List Str} {i : Nat} {lo hi : Int} {H : Hp} {Q : VK} {E : XK} (h : IsRd C H r ws i) (nt : NoT H) (qe : ∀ k, rdN ws i lo hi = .error k → ErrAt CB H E k) (q : ∀ n, rdN ws i lo hi = .ok n → Q (.int n) H) : spRdN C CB [.ref r, .int lo, .int hi] H Q E := ⟨r, ws, i, lo, hi, rfl, h, nt, qe, q⟩
theorem ok_Reader_number (T : Txt K mg Ad) : MDef P w K mg base 4 Ad.c_Reader "number" ["self", "low", "high"] (spRdN Ad.c_Reader Ad.c_BadSaying) := by
  refine T.d_Reader_number.ok sc_Reader_number (fun vs H Q E h => ?_) (fun f cdv A outer s H vs Q E hr h => ?_)
  · obtain ⟨r, ws, i, lo, hi, rfl, _⟩ := h
    rfl
  · obtain ⟨r, ws, i, lo, hi, rfl, h, nt, qe, q⟩ := h
    obtain ⟨dx, W, h1, h2⟩ := h.ex
    refine ⟨_, (pss_cons (ps_set (i := 3) sc_Reader_number.nd rfl (Or.inl rfl) (pe_md0 (ok_Reader_next_word T) (pv 0) T.cl_Reader (hr.mono (by decide)) (passes_call (takes_of rfl rfl rfl rfl) (fun _ _ _ _ h => h))))
      (pss_cons (ps_if (PW.pt (pw_or (pt_not (pt_val (pe_d (ok_is_integer_word T) (hr.mono (by decide)) (passes_call (takes_of rfl rfl rfl rfl) (fun _ _ _ _ h => h)) (pa_cons (pv 3) pa_nil)))) (pw_or1 (pt_not (pt_chain op_le op_le (pv 1) (pe_callTy c_intS (by rfl) T.b_int (by decide +kernel) (pa_cons (pv 3) pa_nil)) (pv 2)))))) (pss_one (ps_raise rfl (takes_of rfl rfl rfl rfl) (pmk_err (T.err_BadSaying) (hr.mono (by decide)) (pa_cons (pe_fldC (pv 0) T.cl_Reader T.nf_Reader_at) pa_nil)))) pss_nil)
      (pss_one (ps_ret (pe_callTy c_intS (by rfl) T.b_int (by decide +kernel) (pa_cons (pv 3) pa_nil)))))), ?_⟩
    try dsimp only [cxOf]
    wtm_at "rs"
    refine use_word h nt (fun hn => qe i (by unfold rdN; rw [hn])) fun w hw => ?_
    have er : rdN ws i lo hi = if isIW w = true ∧ lo ≤ iVal w ∧ iVal w ≤ hi then .ok (iVal w) else .error i := by
      unfold rdN
      rw [hw]
    have wl := h.wl w (List.mem_of_getElem? hw)
    wtm_at "rs"
    refine use_IW wl nt ?_
    wtm_at "rs"
    cases ei : isIW w with
    | false =>
      rw [if_neg (by rw [ei]; intro z; cases z.1)] at er
      wtm_at "rs"
      exact fun d hd => (qe i er).here nt hd rfl
    | true =>
      obtain ⟨hv, hl⟩ := isIW_val ei
      wtm_at "rs"
      refine rd_intS hv (by omega) ?_
      wtm_at "rs"
      by_cases c1 : lo ≤ iVal w
      · rw [if_pos (decide_eq_true c1)]
        wtm_at "rs"
        by_cases c2 : iVal w ≤ hi
        · rw [if_pos ⟨ei, c1, c2⟩] at er
          rw [decide_eq_true c2]
          wtm_at "rs"
          refine rd_intS hv (by omega) ?_
          exact q _ er
        · rw [if_neg fun z => c2 z.2.2] at er
          rw [decide_eq_false c2]
          wtm_at "rs"
          exact fun d hd => (qe i er).here nt hd rfl
      · rw [if_neg (by rw [decide_eq_true_iff]; exact c1)]
        rw [if_neg fun z => c1 z.2.1] at er
        wtm_at "rs"
        exact fun d hd => (qe i er).here nt hd rfl
/-! ### Reader.first_number -/
def spRdFn (C CB : Addr) : Sp := fun vs H Q E => ∃ (r : Addr) (ws : List Str) (i : Nat), vs = [.ref r] ∧ IsRd C H r ws i ∧ NoT H ∧ (∀ k, rdF ws i = .error k → ErrAt CB H E k) ∧ (∀ n, rdF ws i = .ok n → Q (.int n) H)
theorem use_first {C CB r : Addr} {ws : List Str} {i : Nat} {H : Hp} {Q : VK} {E : XK} (h : IsRd C H r ws i) (nt : NoT H) (qe : ∀ k, rdF ws i = .error k → ErrAt CB H E k) (q : ∀ n, rdF ws i = .ok n → Q (.int n) H) : spRdFn C CB [.ref r] H Q E := ⟨r, ws, i, rfl, h, nt, qe, q⟩
theorem ok_Reader_first_number (T : Txt K mg Ad) : MDef P w K mg base 5 Ad.c_Reader "first_number" ["self"] (spRdFn Ad.c_Reader Ad.c_BadSaying) := by
  refine T.d_Reader_first_number.ok sc_Reader_first_number (fun vs H Q E h => ?_) (fun f cdv A outer s H vs Q E hr h => ?_)
  · obtain ⟨r, ws, i, rfl, _⟩ := h
    rfl
  · obtain ⟨r, ws, i, rfl, h, nt, qe, q⟩ := h
    obtain ⟨dx, W, h1, h2⟩ := h.ex
    refine ⟨_, (pss_cons (ps_if (pt_cmpR op_eq (pe_md0 (ok_Reader_next_word T) (pv 0) T.cl_Reader (hr.mono (by decide)) (passes_call (takes_of rfl rfl rfl rfl) (fun _ _ _ _ h => h))) pe_str (nomark _)) (pss_one (ps_raise rfl (takes_of rfl rfl rfl rfl) (pmk_err (T.err_BadSaying) (hr.mono (by decide)) (pa_cons (pe_fldC (pv 0) T.cl_Reader T.nf_Reader_at) pa_nil)))) pss_nil)
      (pss_one (ps_ret (pe_md (ok_Reader_number T) (pv 0) T.cl_Reader (hr.mono (by decide)) (passes_call (takes_of rfl rfl rfl rfl) (fun _ _ _ _ h => h)) (pa_cons (pe_un un_neg pe_int) (pa_cons pe_int pa_nil)))))), ?_⟩
    try dsimp only [cxOf]
    wtm_at "rs"
    refine use_word h nt (fun hn => qe i (by unfold rdF; rw [hn])) fun w hw => ?_
    have er : rdF ws i = if w = "0" then .error i else rdN ws i (-20) 20 := by
      unfold rdF
      rw [hw]
    wtm_at "rs"
    by_cases e : w = "0"
    · rw [if_pos (decide_eq_true e)]
      rw [if_pos e] at er
      wtm_at "rs"
      exact fun d hd => (qe i er).here nt hd rfl
    · rw [if_neg (by rw [decide_eq_true_iff]; exact e)]
      rw [if_neg e] at er
      rw [er] at qe q
      wtm_at "rs"
      exact use_num h nt qe q
/-! ### Reader.rest_part -/
def spRdR (C CB : Addr) : Sp := fun vs H Q E => ∃ (r : Addr) (ws : List Str) (i : Nat) (m : Int), vs = [.ref r, .int m] ∧ IsRd C H r ws i ∧ NoT H ∧ (∀ k, rdN ws i 0 (m - 1) = .error k → ErrAt CB H E k) ∧ (∀ n, rdN ws i 0 (m - 1) = .ok n → ∀ t, H t = none → Q (.ref t) (upd H t (.tup [.str "rest", .int m, .int n])))
theorem ok_Reader_rest_part (T : Txt K mg Ad) : MDef P w K mg base 5 Ad.c_Reader "rest_part" ["self", "modulus"] (spRdR Ad.c_Reader Ad.c_BadSaying) := by
  refine T.d_Reader_rest_part.ok sc_Reader_rest_part (fun vs H Q E h => ?_) (fun f cdv A outer s H vs Q E hr h => ?_)
  · obtain ⟨r, ws, i, m, rfl, _⟩ := h
    rfl
  · obtain ⟨r, ws, i, m, rfl, h, nt, qe, q⟩ := h
    obtain ⟨dx, W, h1, h2⟩ := h.ex
    refine ⟨_, (pss_one (ps_ret (pe_tup (pa_cons pe_str (pa_cons (pv 1) (pa_cons (pe_md (ok_Reader_number T) (pv 0) T.cl_Reader (hr.mono (by decide)) (passes_call (takes_of rfl rfl rfl rfl) (fun _ _ _ _ h => h)) (pa_cons pe_int (pa_cons (pe_op op_sub (pv 1) pe_int) pa_nil))) pa_nil)))))), ?_⟩
    try dsimp only [cxOf]
    wtm_at "rs"
    refine use_num h nt qe fun n hn => ?_
    wtm_at "rs"
    rename_i t ht
    exact q n hn t ht
/-! ### Reader.further -/
def spRdF (C : Addr) : Sp := fun vs H Q _ => ∃ (r : Addr) (ws : List Str) (i k : Nat), vs = [.ref r, .int (k : Int)] ∧ IsRd C H r ws i ∧ i + k ≤ ws.length ∧ NoT H ∧ ∀ x G, Same H G → NoT G → IsRd C G x ws (i + k) → Q (.ref x) G
theorem use_further {C r : Addr} {ws : List Str} {i k : Nat} {H : Hp} {Q : VK} {E : XK} {m : Int} (h : IsRd C H r ws i) (hm : m = (k : Int)) (le : i + k ≤ ws.length) (nt : NoT H) (q : ∀ x G, Same H G → NoT G → IsRd C G x ws (i + k) → Q (.ref x) G) : spRdF C [.ref r, .int m] H Q E := by
  subst hm
  exact ⟨r, ws, i, k, rfl, h, le, nt, q⟩
theorem ok_Reader_further (T : Txt K mg Ad) : MDef P w K mg base 3 Ad.c_Reader "further" ["self", "many"] (spRdF Ad.c_Reader) := by
  refine T.d_Reader_further.ok sc_Reader_further (fun vs H Q E h => ?_) (fun f cdv A outer s H vs Q E hr h => ?_)
  · obtain ⟨r, ws, i, k, rfl, _⟩ := h
    rfl
  · obtain ⟨r, ws, i, k, rfl, h, le, nt, q⟩ := h
    obtain ⟨dx, W, h1, h2⟩ := h.ex
    refine ⟨_, (pss_one (ps_ret (pe_mkd (ok_Reader_init T) (hr.mono (by decide)) (passes_call (takes_of rfl rfl rfl rfl) (fun _ _ _ _ h => h)) (pa_cons (pe_fldC (pv 0) T.cl_Reader T.nf_Reader_words) (pa_cons (pe_op op_add (pe_fldC (pv 0) T.cl_Reader T.nf_Reader_at) (pv 1)) pa_nil))))), ?_⟩
    try dsimp only [cxOf]
    wtm_at "rs"
    refine mk_Rd (i := i + k) h2 le h.few h.wl nt fun x G _ s n hx => ?_
    exact q x G s n hx
/-! ### Reader.take -/
def spRdT (C CB : Addr) : Sp := fun vs H Q E => ∃ (r : Addr) (ws : List Str) (i : Nat) (v : Str), vs = [.ref r, .str v] ∧ IsRd C H r ws i ∧ NoT H ∧ (∀ k, rdT ws i v = .error k → ErrAt CB H E k) ∧ (rdT ws i v = .ok () → ∀ x G, Same H G → NoT G → IsRd C G x ws (i + 1) → Q (.ref x) G)
theorem use_takeW {C CB r : Addr} {ws : List Str} {i : Nat} {v : Str} {H : Hp} {Q : VK} {E : XK} (h : IsRd C H r ws i) (nt : NoT H) (qe : ∀ k, rdT ws i v = .error k → ErrAt CB H E k) (q : rdT ws i v = .ok () → ∀ x G, Same H G → NoT G → IsRd C G x ws (i + 1) → Q (.ref x) G) : spRdT C CB [.ref r, .str v] H Q E := ⟨r, ws, i, v, rfl, h, nt, qe, q⟩
theorem ok_Reader_take (T : Txt K mg Ad) : MDef P w K mg base 4 Ad.c_Reader "take" ["self", "word"] (spRdT Ad.c_Reader Ad.c_BadSaying) := by
  refine T.d_Reader_take.ok sc_Reader_take (fun vs H Q E h => ?_) (fun f cdv A outer s H vs Q E hr h => ?_)
  · obtain ⟨r, ws, i, v, rfl, _⟩ := h
    rfl
  · obtain ⟨r, ws, i, v, rfl, h, nt, qe, q⟩ := h
    obtain ⟨dx, W, h1, h2⟩ := h.ex
    refine ⟨_, (pss_cons (ps_if (pt_cmpR op_ne (pe_md0 (ok_Reader_next_word T) (pv 0) T.cl_Reader (hr.mono (by decide)) (passes_call (takes_of rfl rfl rfl rfl) (fun _ _ _ _ h => h))) (pv 1) (nomark _)) (pss_one (ps_raise rfl (takes_of rfl rfl rfl rfl) (pmk_err (T.err_BadSaying) (hr.mono (by decide)) (pa_cons (pe_fldC (pv 0) T.cl_Reader T.nf_Reader_at) pa_nil)))) pss_nil)
      (pss_one (ps_ret (pe_md (ok_Reader_further T) (pv 0) T.cl_Reader (hr.mono (by decide)) (passes_call (takes_of rfl rfl rfl rfl) (fun _ _ _ _ h => h)) (pa_cons pe_int pa_nil))))), ?_⟩
    try dsimp only [cxOf]
    wtm_at "rs"
    refine use_word h nt (fun hn => qe i (by unfold rdT; rw [hn])) fun w hw => ?_
    have er : rdT ws i v = if w = v then .ok () else .error i := by
      unfold rdT
      rw [hw]
    have lt := (List.getElem?_eq_some_iff.mp hw).1
    wtm_at "rs"
    by_cases e : w = v
    · refine rd_neF e ?_
      rw [if_pos e] at er
      wtm_at "rs"
      exact use_further (k := 1) h rfl (by omega) nt (q er)
    · refine rd_neT e ?_
      rw [if_neg e] at er
      wtm_at "rs"
      exact fun d hd => (qe i er).here nt hd rfl
/-! ### Reader.plain_part -/
/-- a saying, as it lies in the heap -/
def TreeT (H : Hp) : V → Say → Prop
  | v, .sq n => ∃ t, v = .ref t ∧ H t = some (.tup [.str "square", .int n])
  | v, .rt a b c m => ∃ t, v = .ref t ∧ H t = some (.tup [.str "roots", .int a, .int b, .int c, .int m])
  | v, .re m r => ∃ t, v = .ref t ∧ H t = some (.tup [.str "rest", .int m, .int r])
  | v, .fo n => ∃ t, v = .ref t ∧ H t = some (.tup [.str "form", .int n])
  | v, .no s => ∃ t u, v = .ref t ∧ H t = some (.tup [.str "not", u]) ∧ TreeT H u s
  | v, .an s1 s2 => ∃ t u1 u2, v = .ref t ∧ H t = some (.tup [.str "and", u1, u2]) ∧ TreeT H u1 s1 ∧ TreeT H u2 s2
  | v, .ou s1 s2 => ∃ t u1 u2, v = .ref t ∧ H t = some (.tup [.str "or", u1, u2]) ∧ TreeT H u1 s1 ∧ TreeT H u2 s2
theorem TreeT.mono {H G : Hp} (s : Same H G) : ∀ {x : Say} {v : V}, TreeT H v x → TreeT G v x
  | .sq _, _, ⟨t, e, h⟩ => ⟨t, e, s _ _ h⟩
  | .rt .., _, ⟨t, e, h⟩ => ⟨t, e, s _ _ h⟩
  | .re .., _, ⟨t, e, h⟩ => ⟨t, e, s _ _ h⟩
  | .fo _, _, ⟨t, e, h⟩ => ⟨t, e, s _ _ h⟩
  | .no _, _, ⟨t, u, e, h, k⟩ => ⟨t, u, e, s _ _ h, TreeT.mono s k⟩
  | .an _ _, _, ⟨t, u1, u2, e, h, k1, k2⟩ => ⟨t, u1, u2, e, s _ _ h, TreeT.mono s k1, TreeT.mono s k2⟩
  | .ou _ _, _, ⟨t, u1, u2, e, h, k1, k2⟩ => ⟨t, u1, u2, e, s _ _ h, TreeT.mono s k1, TreeT.mono s k2⟩
def spRdP (C CB : Addr) (K : PySem.W.Frag) : Sp := fun vs H Q E => ∃ (r : Addr) (ws : List Str) (i : Nat) (w : Str), vs = [.ref r, .str w] ∧ IsRd C H r ws i ∧ NoT H ∧ plainW w ∧ (∀ k, rdP ws i w = .error k → ErrAt CB H E k) ∧
  (∀ s k, rdP ws i w = .ok (s, k) → ∀ p v G, Same H G → NoT G → SqT K G p [v, .int (k : Int)] → TreeT G v s → Q (.ref p) G)
theorem ok_Reader_plain_part (T : Txt K mg Ad) : MDef P w K mg base 6 Ad.c_Reader "plain_part" ["self", "word"] (spRdP Ad.c_Reader Ad.c_BadSaying K) := by
  refine T.d_Reader_plain_part.ok sc_Reader_plain_part (fun vs H Q E h => ?_) (fun f cdv A outer s H vs Q E hr h => ?_)
  · obtain ⟨r, ws, i, w, rfl, _⟩ := h
    rfl
  · obtain ⟨r, ws, i, w, rfl, h, nt, pw, qe, q⟩ := h
    obtain ⟨dx, W, h1, h2⟩ := h.ex
    refine ⟨_, (pss_cons (ps_if (pt_cmpR op_eq (pv 1) pe_str (nomark _)) (pss_one (ps_ret (pe_tup (pa_cons (pe_tup (pa_cons pe_str (pa_cons (pe_md (ok_Reader_number T) (pv 0) T.cl_Reader (hr.mono (by decide)) (passes_call (takes_of rfl rfl rfl rfl) (fun _ _ _ _ h => h)) (pa_cons (pe_un un_neg pe_int) (pa_cons pe_int pa_nil))) pa_nil))) (pa_cons pe_int pa_nil))))) pss_nil)
      (pss_cons (ps_if (pt_cmpR op_eq (pv 1) pe_str (nomark _)) (pss_one (ps_ret (pe_tup (pa_cons (pe_tup (pa_cons pe_str (pa_cons (pe_md (ok_Reader_number T) (pv 0) T.cl_Reader (hr.mono (by decide)) (passes_call (takes_of rfl rfl rfl rfl) (fun _ _ _ _ h => h)) (pa_cons pe_int (pa_cons pe_int pa_nil))) pa_nil))) (pa_cons pe_int pa_nil))))) pss_nil)
      (pss_cons (ps_if (pt_cmpR op_eq (pv 1) pe_str (nomark _)) (pss_cons (ps_set (i := 2) sc_Reader_plain_part.nd rfl (Or.inl rfl) (pe_md (ok_Reader_number T) (pv 0) T.cl_Reader (hr.mono (by decide)) (passes_call (takes_of rfl rfl rfl rfl) (fun _ _ _ _ h => h)) (pa_cons pe_int (pa_cons pe_int pa_nil))))
      (pss_one (ps_ret (pe_tup (pa_cons (pe_md (ok_Reader_rest_part T) (pe_md (ok_Reader_take T) (pe_md (ok_Reader_further T) (pv 0) T.cl_Reader (hr.mono (by decide)) (passes_call (takes_of rfl rfl rfl rfl) (fun _ _ _ _ h => h)) (pa_cons pe_int pa_nil)) T.cl_Reader (hr.mono (by decide)) (passes_call (takes_of rfl rfl rfl rfl) (fun _ _ _ _ h => h)) (pa_cons pe_str pa_nil)) T.cl_Reader (hr.mono (by decide)) (passes_call (takes_of rfl rfl rfl rfl) (fun _ _ _ _ h => h)) (pa_cons (pv 2) pa_nil)) (pa_cons pe_int pa_nil)))))) pss_nil)
      (pss_cons (ps_set (i := 3) sc_Reader_plain_part.nd rfl (Or.inl rfl) (pe_md0 (ok_Reader_first_number T) (pv 0) T.cl_Reader (hr.mono (by decide)) (passes_call (takes_of rfl rfl rfl rfl) (fun _ _ _ _ h => h))))
      (pss_cons (ps_set (i := 4) sc_Reader_plain_part.nd rfl (Or.inl rfl) (pe_md (ok_Reader_number T) (pe_md (ok_Reader_further T) (pv 0) T.cl_Reader (hr.mono (by decide)) (passes_call (takes_of rfl rfl rfl rfl) (fun _ _ _ _ h => h)) (pa_cons pe_int pa_nil)) T.cl_Reader (hr.mono (by decide)) (passes_call (takes_of rfl rfl rfl rfl) (fun _ _ _ _ h => h)) (pa_cons (pe_un un_neg pe_int) (pa_cons pe_int pa_nil))))
      (pss_cons (ps_set (i := 5) sc_Reader_plain_part.nd rfl (Or.inl rfl) (pe_md (ok_Reader_number T) (pe_md (ok_Reader_further T) (pv 0) T.cl_Reader (hr.mono (by decide)) (passes_call (takes_of rfl rfl rfl rfl) (fun _ _ _ _ h => h)) (pa_cons pe_int pa_nil)) T.cl_Reader (hr.mono (by decide)) (passes_call (takes_of rfl rfl rfl rfl) (fun _ _ _ _ h => h)) (pa_cons (pe_un un_neg pe_int) (pa_cons pe_int pa_nil))))
      (pss_cons (ps_set (i := 6) sc_Reader_plain_part.nd rfl (Or.inl rfl) (pe_md (ok_Reader_number T) (pe_md (ok_Reader_take T) (pe_md (ok_Reader_further T) (pv 0) T.cl_Reader (hr.mono (by decide)) (passes_call (takes_of rfl rfl rfl rfl) (fun _ _ _ _ h => h)) (pa_cons pe_int pa_nil)) T.cl_Reader (hr.mono (by decide)) (passes_call (takes_of rfl rfl rfl rfl) (fun _ _ _ _ h => h)) (pa_cons pe_str pa_nil)) T.cl_Reader (hr.mono (by decide)) (passes_call (takes_of rfl rfl rfl rfl) (fun _ _ _ _ h => h)) (pa_cons pe_int (pa_cons pe_int pa_nil))))
      (pss_one (ps_ret (pe_tup (pa_cons (pe_tup (pa_cons pe_str (pa_cons (pv 3) (pa_cons (pv 4) (pa_cons (pv 5) (pa_cons (pv 6) pa_nil)))))) (pa_cons pe_int pa_nil)))))))))))), ?_⟩
    try dsimp only [cxOf]
    wtm_at "rs"
    by_cases e1 : w = "square"
    · rw [if_pos (decide_eq_true e1)]
      have er : rdP ws i w = (rdN ws i (-1000) 1000).bind fun n => .ok (.sq n, 1) := by
        unfold rdP
        rw [if_pos e1]
        rfl
      rw [er] at qe q
      wtm_at "rs"
      refine use_num h nt (fun k hk => qe k (by rw [hk]; rfl)) fun n hn => ?_
      wtm_at "rs"
      rename_i p1 hp1 p2 hp2
      exact q (.sq n) 1 (by rw [hn]; rfl) p2 (.ref p1) _ ((same_new hp1).trans (same_new hp2)) (NoT.upd (NoT.upd nt rfl) rfl) (SqT.of upd_same) ⟨p1, rfl, same_new hp2 _ _ upd_same⟩
    · rw [if_neg (by rw [decide_eq_true_iff]; exact e1)]
      wtm_at "rs"
      by_cases e2 : w = "form"
      · rw [if_pos (decide_eq_true e2)]
        have er : rdP ws i w = (rdN ws i 1 60).bind fun n => .ok (.fo n, 1) := by
          unfold rdP
          rw [if_neg e1, if_pos e2]
          rfl
        rw [er] at qe q
        wtm_at "rs"
        refine use_num h nt (fun k hk => qe k (by rw [hk]; rfl)) fun n hn => ?_
        wtm_at "rs"
        rename_i p1 hp1 p2 hp2
        exact q (.fo n) 1 (by rw [hn]; rfl) p2 (.ref p1) _ ((same_new hp1).trans (same_new hp2)) (NoT.upd (NoT.upd nt rfl) rfl) (SqT.of upd_same) ⟨p1, rfl, same_new hp2 _ _ upd_same⟩
      · rw [if_neg (by rw [decide_eq_true_iff]; exact e2)]
        wtm_at "rs"
        by_cases e3 : w = "rest"
        · rw [if_pos (decide_eq_true e3)]
          have er : rdP ws i w = (rdN ws i 1 400).bind fun m => (rdT ws (i + 1) "is").bind fun _ => (rdN ws (i + 2) 0 (m - 1)).bind fun r => .ok (.re m r, 3) := by
            unfold rdP
            rw [if_neg e1, if_neg e2, if_pos e3]
            rfl
          rw [er] at qe q
          wtm_at "rs"
          refine use_num h nt (fun k hk => qe k (by rw [hk]; rfl)) fun m hm => ?_
          have lm := (rdN_ok hm).1
          rw [hm] at qe q
          wtm_at "rs"
          refine use_further (k := 1) h rfl (by omega) nt fun x2 G2 s2 n2 r2 => ?_
          obtain ⟨dx2, W2, hx2, _⟩ := r2.ex
          wtm_at "rs"
          refine use_takeW r2 n2 (fun k hk => (qe k (by show (rdT ws (i + 1) "is").bind _ = _; rw [hk]; rfl)).mono s2) fun ht x3 G3 s3 n3 r3 => ?_
          obtain ⟨dx3, W3, hx3, _⟩ := r3.ex
          have s4 := s2.trans s3
          wtm_at "rs"
          refine ⟨x3, ws, i + 2, m, rfl, r3, n3, fun k hk => (qe k (by show (rdT ws (i + 1) "is").bind _ = _; rw [ht]; show (rdN ws (i + 2) 0 (m - 1)).bind _ = _; rw [hk]; rfl)).mono s4, fun n hn p1 hp1 => ?_⟩
          wtm_at "rs"
          rename_i p2 hp2
          exact q (.re m n) 3 (by show (rdT ws (i + 1) "is").bind _ = _; rw [ht]; show (rdN ws (i + 2) 0 (m - 1)).bind _ = _; rw [hn]; rfl) p2 (.ref p1) _ ((s4.trans (same_new hp1)).trans (same_new hp2)) (NoT.upd (NoT.upd n3 rfl) rfl) (SqT.of upd_same) ⟨p1, rfl, same_new hp2 _ _ upd_same⟩
        · rw [if_neg (by rw [decide_eq_true_iff]; exact e3)]
          have er : rdP ws i w = (rdF ws i).bind fun a => (rdN ws (i + 1) (-20) 20).bind fun b => (rdN ws (i + 2) (-20) 20).bind fun c => (rdT ws (i + 3) "are").bind fun _ => (rdN ws (i + 4) 0 2).bind fun m => .ok (.rt a b c m, 5) := by
            unfold rdP
            rw [if_neg e1, if_neg e2, if_neg e3]
            rfl
          rw [er] at qe q
          wtm_at "rs"
          refine use_first h nt (fun k hk => qe k (by rw [hk]; rfl)) fun a ha => ?_
          have la := (rdF_ok ha).1
          rw [ha] at qe q
          replace qe : ∀ k, ((rdN ws (i + 1) (-20) 20).bind fun b => (rdN ws (i + 2) (-20) 20).bind fun c => (rdT ws (i + 3) "are").bind fun _ => (rdN ws (i + 4) 0 2).bind fun m => .ok (Say.rt a b c m, 5)) = .error k → ErrAt Ad.c_BadSaying H E k := qe
          replace q : ∀ (s : Say) (k : Nat), ((rdN ws (i + 1) (-20) 20).bind fun b => (rdN ws (i + 2) (-20) 20).bind fun c => (rdT ws (i + 3) "are").bind fun _ => (rdN ws (i + 4) 0 2).bind fun m => .ok (Say.rt a b c m, 5)) = .ok (s, k) → ∀ p v G, Same H G → NoT G → SqT K G p [v, .int (k : Int)] → TreeT G v s → Q (.ref p) G := q
          wtm_at "rs"
          refine use_further (k := 1) h rfl (by omega) nt fun x2 G2 s2 n2 r2 => ?_
          obtain ⟨dx2, W2, hx2, _⟩ := r2.ex
          wtm_at "rs"
          refine use_num r2 n2 (fun k hk => (qe k (by rw [hk]; rfl)).mono s2) fun b hb => ?_
          have lb := (rdN_ok hb).1
          rw [hb] at qe q
          replace qe : ∀ k, ((rdN ws (i + 2) (-20) 20).bind fun c => (rdT ws (i + 3) "are").bind fun _ => (rdN ws (i + 4) 0 2).bind fun m => .ok (Say.rt a b c m, 5)) = .error k → ErrAt Ad.c_BadSaying H E k := qe
          replace q : ∀ (s : Say) (k : Nat), ((rdN ws (i + 2) (-20) 20).bind fun c => (rdT ws (i + 3) "are").bind fun _ => (rdN ws (i + 4) 0 2).bind fun m => .ok (Say.rt a b c m, 5)) = .ok (s, k) → ∀ p v G, Same H G → NoT G → SqT K G p [v, .int (k : Int)] → TreeT G v s → Q (.ref p) G := q
          have h := h.mono s2
          obtain ⟨dx3, W3, h3, _⟩ := h.ex
          wtm_at "rs"
          refine use_further (k := 2) h rfl (by omega) n2 fun x4 G4 s24 n4 r4 => ?_
          have s4 := s2.trans s24
          obtain ⟨dx4, W4, hx4, _⟩ := r4.ex
          wtm_at "rs"
          refine use_num r4 n4 (fun k hk => (qe k (by rw [hk]; rfl)).mono s4) fun c hc => ?_
          have lc := (rdN_ok hc).1
          rw [hc] at qe q
          replace qe : ∀ k, ((rdT ws (i + 3) "are").bind fun _ => (rdN ws (i + 4) 0 2).bind fun m => .ok (Say.rt a b c m, 5)) = .error k → ErrAt Ad.c_BadSaying H E k := qe
          replace q : ∀ (s : Say) (k : Nat), ((rdT ws (i + 3) "are").bind fun _ => (rdN ws (i + 4) 0 2).bind fun m => .ok (Say.rt a b c m, 5)) = .ok (s, k) → ∀ p v G, Same H G → NoT G → SqT K G p [v, .int (k : Int)] → TreeT G v s → Q (.ref p) G := q
          have h45 := h.mono s24
          obtain ⟨dx6, W6, h6, _⟩ := h45.ex
          wtm_at "rs"
          refine use_further (k := 3) h45 rfl (by omega) n4 fun x7 G7 s7 n7 r7 => ?_
          have s7 := s4.trans s7
          obtain ⟨dx7, W7, hx7, _⟩ := r7.ex
          wtm_at "rs"
          refine use_takeW r7 n7 (fun k hk => (qe k (by rw [hk]; rfl)).mono s7) fun ht x8 G8 s8 n8 r8 => ?_
          have s8 := s7.trans s8
          rw [ht] at qe q
          replace qe : ∀ k, ((rdN ws (i + 4) 0 2).bind fun m => .ok (Say.rt a b c m, 5)) = .error k → ErrAt Ad.c_BadSaying H E k := qe
          replace q : ∀ (s : Say) (k : Nat), ((rdN ws (i + 4) 0 2).bind fun m => .ok (Say.rt a b c m, 5)) = .ok (s, k) → ∀ p v G, Same H G → NoT G → SqT K G p [v, .int (k : Int)] → TreeT G v s → Q (.ref p) G := q
          obtain ⟨dx8, W8, hx8, _⟩ := r8.ex
          wtm_at "rs"
          refine use_num r8 n8 (fun k hk => (qe k (by show (rdN ws (i + 4) 0 2).bind _ = _; rw [show rdN ws (i + 4) 0 2 = .error k from hk]; rfl)).mono s8) fun m hm => ?_
          wtm_at "rs"
          rename_i p1 hp1 p2 hp2
          exact q (.rt a b c m) 5 (by rw [show rdN ws (i + 4) 0 2 = .ok m from hm]; rfl) p2 (.ref p1) _ ((s8.trans (same_new hp1)).trans (same_new hp2)) (NoT.upd (NoT.upd n8 rfl) rfl) (SqT.of upd_same) ⟨p1, rfl, same_new hp2 _ _ upd_same⟩
/-! ### Reader.part -/
def rdJ (n : Nat) (ws : List Str) (d : Nat) (s1 : Say) (m : Nat) : Except Nat (Say × Nat) := match ws[m]? with
  | none => .error m
  | some v => if v ≠ "and" ∧ v ≠ "or" then .error m else (rdS n ws (m + 1) (d + 1)).bind fun b => (rdT ws b.2 ")").bind fun _ => .ok (if v = "and" then .an s1 b.1 else .ou s1 b.1, b.2 + 1)
def spRdS (C CB : Addr) (K : PySem.W.Frag) (n : Nat) : Sp := fun vs H Q E => ∃ (r : Addr) (ws : List Str) (i d : Nat), vs = [.ref r, .int (d : Int)] ∧ IsRd C H r ws i ∧ NoT H ∧ d ≤ 8 ∧ ws.length < i + n ∧ (∀ k, rdS n ws i d = .error k → ErrAt CB H E k) ∧
  (∀ s j, rdS n ws i d = .ok (s, j) → ∀ p v x G, Same H G → NoT G → SqT K G p [v, .ref x] → TreeT G v s → IsRd C G x ws j → Q (.ref p) G)
theorem ok_Reader_part_r (T : Txt K mg Ad) (n : Nat) : MDef P w K mg base (6 + n) Ad.c_Reader "part" ["self", "depth"] (spRdS Ad.c_Reader Ad.c_BadSaying K n) := by
  induction n with
  | zero =>
    refine MDef.mono (T.d_Reader_part.ok (k := 0) sc_Reader_part (fun vs H Q E h => ?_) (fun f cdv A outer s H vs Q E hr h => ?_)) (by omega)
    · obtain ⟨r, ws, i, d, rfl, _⟩ := h
      rfl
    · obtain ⟨r, ws, i, d, rfl, h, _, _, l, _⟩ := h
      have := h.le
      omega
  | succ n ih =>
    refine T.d_Reader_part.ok (k := 6 + n) sc_Reader_part (fun vs H Q E h => ?_) (fun f cdv A outer s H vs Q E hr h => ?_)
    · obtain ⟨r, ws, i, d, rfl, _⟩ := h
      rfl
    · obtain ⟨r, ws, i, d, rfl, h, nt, d8, fu, qe, q⟩ := h
      obtain ⟨dx, W, h1, h2⟩ := h.ex
      refine ⟨_, (pss_cons (ps_set (i := 2) sc_Reader_part.nd rfl (Or.inl rfl) (pe_md0 (ok_Reader_next_word T) (pv 0) T.cl_Reader (hr.mono (by omega)) (passes_call (takes_of rfl rfl rfl rfl) (fun _ _ _ _ h => h))))
      (pss_cons (ps_if (pt_pure (pt_cmpR op_in_seq (pv 2) (pe_tup (pa_cons pe_str (pa_cons pe_str (pa_cons pe_str (pa_cons pe_str pa_nil))))) (by rfl))) (pss_cons (ps_asg (pe_md (ok_Reader_plain_part T) (pe_md (ok_Reader_further T) (pv 0) T.cl_Reader (hr.mono (by omega)) (passes_call (takes_of rfl rfl rfl rfl) (fun _ _ _ _ h => h)) (pa_cons pe_int pa_nil)) T.cl_Reader (hr.mono (by omega)) (passes_call (takes_of rfl rfl rfl rfl) (fun _ _ _ _ h => h)) (pa_cons (pv 2) pa_nil)) (pg_tup rfl (pgs_cons (pg_name (i := 3) sc_Reader_part.nd rfl (Or.inl rfl)) (pgs_cons (pg_name (i := 4) sc_Reader_part.nd rfl (Or.inl rfl)) pgs_nil))))
      (pss_one (ps_ret (pe_tup (pa_cons (pv 3) (pa_cons (pe_md (ok_Reader_further T) (pv 0) T.cl_Reader (hr.mono (by omega)) (passes_call (takes_of rfl rfl rfl rfl) (fun _ _ _ _ h => h)) (pa_cons (pe_op op_add pe_int (pv 4)) pa_nil)) pa_nil)))))) pss_nil)
      (pss_cons (ps_if (pt_cmpR op_eq (pv 2) pe_str (nomark _)) (pss_cons (ps_asg (pe_md ih (pe_md (ok_Reader_further T) (pv 0) T.cl_Reader (hr.mono (by omega)) (passes_call (takes_of rfl rfl rfl rfl) (fun _ _ _ _ h => h)) (pa_cons pe_int pa_nil)) T.cl_Reader (hr.mono (by omega)) (passes_call (takes_of rfl rfl rfl rfl) (fun _ _ _ _ h => h)) (pa_cons (pv 1) pa_nil)) (pg_tup rfl (pgs_cons (pg_name (i := 3) sc_Reader_part.nd rfl (Or.inl rfl)) (pgs_cons (pg_name (i := 5) sc_Reader_part.nd rfl (Or.inl rfl)) pgs_nil))))
      (pss_one (ps_ret (pe_tup (pa_cons (pe_tup (pa_cons pe_str (pa_cons (pv 3) pa_nil))) (pa_cons (pv 5) pa_nil)))))) pss_nil)
      (pss_cons (ps_if (PW.pt (pw_or (pt_cmpR op_ne (pv 2) pe_str (nomark _)) (pw_or1 (pt_cmpR op_eq (pv 1) (pe_glob (v := .int 8) rfl T.k_MOST_OPEN ⟨_, rfl⟩) (nomark _))))) (pss_one (ps_raise rfl (takes_of rfl rfl rfl rfl) (pmk_err (T.err_BadSaying) (hr.mono (by omega)) (pa_cons (pe_fldC (pv 0) T.cl_Reader T.nf_Reader_at) pa_nil)))) pss_nil)
      (pss_cons (ps_asg (pe_md ih (pe_md (ok_Reader_further T) (pv 0) T.cl_Reader (hr.mono (by omega)) (passes_call (takes_of rfl rfl rfl rfl) (fun _ _ _ _ h => h)) (pa_cons pe_int pa_nil)) T.cl_Reader (hr.mono (by omega)) (passes_call (takes_of rfl rfl rfl rfl) (fun _ _ _ _ h => h)) (pa_cons (pe_op op_add (pv 1) pe_int) pa_nil)) (pg_tup rfl (pgs_cons (pg_name (i := 6) sc_Reader_part.nd rfl (Or.inl rfl)) (pgs_cons (pg_name (i := 7) sc_Reader_part.nd rfl (Or.inl rfl)) pgs_nil))))
      (pss_cons (ps_set (i := 8) sc_Reader_part.nd rfl (Or.inl rfl) (pe_md0 (ok_Reader_next_word T) (pv 7) T.cl_Reader (hr.mono (by omega)) (passes_call (takes_of rfl rfl rfl rfl) (fun _ _ _ _ h => h))))
      (pss_cons (ps_if (pt_pure (pt_cmpR op_notIn_seq (pv 8) (pe_tup (pa_cons pe_str (pa_cons pe_str pa_nil))) (by rfl))) (pss_one (ps_raise rfl (takes_of rfl rfl rfl rfl) (pmk_err (T.err_BadSaying) (hr.mono (by omega)) (pa_cons (pe_fldC (pv 7) T.cl_Reader T.nf_Reader_at) pa_nil)))) pss_nil)
      (pss_cons (ps_asg (pe_md ih (pe_md (ok_Reader_further T) (pv 7) T.cl_Reader (hr.mono (by omega)) (passes_call (takes_of rfl rfl rfl rfl) (fun _ _ _ _ h => h)) (pa_cons pe_int pa_nil)) T.cl_Reader (hr.mono (by omega)) (passes_call (takes_of rfl rfl rfl rfl) (fun _ _ _ _ h => h)) (pa_cons (pe_op op_add (pv 1) pe_int) pa_nil)) (pg_tup rfl (pgs_cons (pg_name (i := 9) sc_Reader_part.nd rfl (Or.inl rfl)) (pgs_cons (pg_name (i := 5) sc_Reader_part.nd rfl (Or.inl rfl)) pgs_nil))))
      (pss_one (ps_ret (pe_tup (pa_cons (pe_tup (pa_cons (pv 8) (pa_cons (pv 6) (pa_cons (pv 9) pa_nil)))) (pa_cons (pe_md (ok_Reader_take T) (pv 5) T.cl_Reader (hr.mono (by omega)) (passes_call (takes_of rfl rfl rfl rfl) (fun _ _ _ _ h => h)) (pa_cons pe_str pa_nil)) pa_nil))))))))))))), ?_⟩
      try dsimp only [cxOf]
      wtm_at "rs"
      refine use_word h nt (fun hn => qe i (by rw [rdS, hn])) fun w hw => ?_
      wtm_at "rs"
      rename_i p0 hp0
      have lt := (List.getElem?_eq_some_iff.mp hw).1
      have pwi : w ∈ (["square", "form", "rest", "roots"] : List Str) ↔ plainW w := by
        unfold plainW
        simp
      refine rd_inTw (ws := ["square", "form", "rest", "roots"]) (SqT.of upd_same) ?_
      refine ⟨_, rfl, same_new hp0, ?_⟩
      clear hp0
      by_cases pw : plainW w
      · rw [if_pos (decide_eq_true (pwi.mpr pw))]
        have er : rdS (n + 1) ws i d = (rdP ws (i + 1) w).bind fun a => .ok (a.1, i + 1 + a.2) := by
          rw [rdS, hw]
          dsimp only
          rw [if_pos pw]
          rfl
        rw [er] at qe q
        wtm_at "rs"
        refine use_further (k := 1) h rfl (by omega) nt fun x2 G2 s2 n2 r2 => ?_
        obtain ⟨dx2, W2, hx2, _⟩ := r2.ex
        wtm_at "rs"
        refine ⟨x2, ws, i + 1, w, rfl, r2, n2, pw, fun k hk => (qe k (by rw [hk]; rfl)).mono s2, fun s k hk p1 v G3 s3 n3 hp1 hv => ?_⟩
        have s4 := s2.trans s3
        have hr3 := h.mono s4
        have lk := rdP_ok hk
        obtain ⟨dx3, W3, hx3, _⟩ := hr3.ex
        wtm_at "rs"
        refine use_further (k := 1 + k) hr3 (by omega) (by omega) n3 fun x5 G5 s5 n5 r5 => ?_
        wtm_at "rs"
        rename_i p6 hp6
        exact q s (i + 1 + k) (by rw [hk]; rfl) p6 v x5 _ ((s4.trans s5).trans (same_new hp6)) (NoT.upd n5 rfl) (SqT.of upd_same) ((hv.mono s5).mono (same_new hp6)) (by rw [show i + 1 + k = i + (1 + k) by omega]; exact r5.mono (same_new hp6))
      · rw [if_neg (by rw [decide_eq_true_iff]; exact fun z => pw (pwi.mp z))]
        wtm_at "rs"
        by_cases en : w = "not"
        · rw [if_pos (decide_eq_true en)]
          have er : rdS (n + 1) ws i d = (rdS n ws (i + 1) d).bind fun a => .ok (.no a.1, a.2) := by
            rw [rdS, hw]
            dsimp only
            rw [if_neg pw, if_pos en]
            rfl
          rw [er] at qe q
          wtm_at "rs"
          refine use_further (k := 1) h rfl (by omega) nt fun x2 G2 s2 n2 r2 => ?_
          obtain ⟨dx2, W2, hx2, _⟩ := r2.ex
          wtm_at "rs"
          refine ⟨x2, ws, i + 1, d, rfl, r2, n2, d8, by omega, fun k hk => (qe k (by rw [hk]; rfl)).mono s2, fun s j hj p1 v x G3 s3 n3 hp1 hv rx => ?_⟩
          have s4 := s2.trans s3
          wtm_at "rs"
          rename_i p5 hp5 p6 hp6
          exact q (.no s) j (by rw [hj]; rfl) p6 (.ref p5) x _ ((s4.trans (same_new hp5)).trans (same_new hp6)) (NoT.upd (NoT.upd n3 rfl) rfl) (SqT.of upd_same) ⟨p5, v, rfl, same_new hp6 _ _ upd_same, (hv.mono (same_new hp5)).mono (same_new hp6)⟩ ((rx.mono (same_new hp5)).mono (same_new hp6))
        · rw [if_neg (by rw [decide_eq_true_iff]; exact en)]
          wtm_at "rs"
          by_cases eb : w ≠ "(" ∨ d = 8
          · have er : rdS (n + 1) ws i d = .error i := by
              rw [rdS, hw]
              dsimp only
              rw [if_neg pw, if_neg en, if_pos eb]
            by_cases e1 : w = "("
            · have d88 : (d : Int) = 8 := by
                rcases eb with z | z
                · exact absurd e1 z
                · omega
              refine rd_neF e1 ?_
              wtm_at "rs"
              exact fun d hd => (qe i er).here nt hd rfl
            · refine rd_neT e1 ?_
              wtm_at "rs"
              exact fun d hd => (qe i er).here nt hd rfl
          · have e1 : w = "(" := Classical.byContradiction fun z => eb (.inl z)
            have e8 : ¬ (d : Int) = 8 := fun z => eb (.inr (by omega))
            have d7 : d + 1 ≤ 8 := by omega
            have er : rdS (n + 1) ws i d = (rdS n ws (i + 1) (d + 1)).bind fun a => rdJ n ws d a.1 a.2 := by
              rw [rdS, hw]
              dsimp only
              rw [if_neg pw, if_neg en, if_neg eb]
              rfl
            rw [er] at qe q
            refine rd_neF e1 ?_
            wtm_at "rs"
            refine use_further (k := 1) h rfl (by omega) nt fun x2 G2 s2 n2 r2 => ?_
            obtain ⟨dx2, W2, hx2, _⟩ := r2.ex
            wtm_at "rs"
            refine ⟨x2, ws, i + 1, d + 1, by rw [Int.natCast_add]; rfl, r2, n2, d7, by omega, fun k hk => (qe k (by rw [hk]; rfl)).mono s2, fun s1 m hm p1 v1 x3 G3 s3 n3 hp1 hv1 r3 => ?_⟩
            have lm := rdS_lt hm
            have s3 := s2.trans s3
            obtain ⟨dx3, W3, hx3, _⟩ := r3.ex
            rw [hm] at qe q
            replace qe : ∀ k, rdJ n ws d s1 m = .error k → ErrAt Ad.c_BadSaying H E k := qe
            replace q : ∀ (s : Say) (j : Nat), rdJ n ws d s1 m = .ok (s, j) → ∀ (p : Addr) (v : V) (x : Addr) (G : Hp), Same H G → NoT G → SqT K G p [v, .ref x] → TreeT G v s → IsRd Ad.c_Reader G x ws j → Q (.ref p) G := q
            wtm_at "rs"
            refine use_word r3 n3 (fun hn => (qe m (by rw [rdJ, hn])).mono s3) fun jw hjw => ?_
            have ltm := (List.getElem?_eq_some_iff.mp hjw).1
            have ejw : rdJ n ws d s1 m = if jw ≠ "and" ∧ jw ≠ "or" then .error m else (rdS n ws (m + 1) (d + 1)).bind fun b => (rdT ws b.2 ")").bind fun _ => .ok (if jw = "and" then Say.an s1 b.1 else .ou s1 b.1, b.2 + 1) := by
              rw [rdJ, hjw]
            rw [ejw] at qe q
            wtm_at "rs"
            rename_i p4 hp4
            refine rd_ninTw (ws := ["and", "or"]) (SqT.of upd_same) ?_
            refine ⟨_, rfl, same_new hp4, ?_⟩
            clear hp4
            by_cases ej : jw ≠ "and" ∧ jw ≠ "or"
            · have ej2 : ¬ jw ∈ (["and", "or"] : List Str) := by
                simp only [List.mem_cons, List.not_mem_nil, or_false]
                exact fun z => z.elim ej.1 ej.2
              refine rd_neT ej2 ?_
              wtm_at "rs"
              exact fun d hd => ((qe m (if_pos ej)).mono s3).here n3 hd rfl
            · have ej2 : jw ∈ (["and", "or"] : List Str) := by
                simp only [List.mem_cons, List.not_mem_nil, or_false]
                exact Classical.byContradiction fun z => ej ⟨fun y => z (.inl y), fun y => z (.inr y)⟩
              refine rd_neF ej2 ?_
              rw [if_neg ej] at qe q
              wtm_at "rs"
              refine use_further (k := 1) r3 rfl (by omega) n3 fun x5 G5 s5 n5 r5 => ?_
              have s5' := s3.trans s5
              obtain ⟨dx5, W5, hx5, _⟩ := r5.ex
              wtm_at "rs"
              refine ⟨x5, ws, m + 1, d + 1, by rw [Int.natCast_add]; rfl, r5, n5, d7, by omega, fun k hk => (qe k (by rw [hk]; rfl)).mono s5', fun s2 l hl p6 v6 x6 G6 s6 n6 hp6 hv6 r6 => ?_⟩
              have s6' := s5'.trans s6
              have hv1 := (hv1.mono s5).mono s6
              obtain ⟨dx6, W6, hx6, _⟩ := r6.ex
              wtm_at "rs"
              rename_i p7 hp7
              have r7 := r6.mono (same_new (o := .tup [.str jw, v1, v6]) hp7)
              obtain ⟨dx7, W7, hx7, _⟩ := r7.ex
              rw [hl] at qe q
              replace qe : ∀ k, ((rdT ws l ")").bind fun _ => .ok (if jw = "and" then Say.an s1 s2 else .ou s1 s2, l + 1)) = .error k → ErrAt Ad.c_BadSaying H E k := qe
              replace q : ∀ (s : Say) (j : Nat), ((rdT ws l ")").bind fun _ => .ok (if jw = "and" then Say.an s1 s2 else .ou s1 s2, l + 1)) = .ok (s, j) → ∀ (p : Addr) (v : V) (x : Addr) (G : Hp), Same H G → NoT G → SqT K G p [v, .ref x] → TreeT G v s → IsRd Ad.c_Reader G x ws j → Q (.ref p) G := q
              have s7 := s6'.trans (same_new (o := .tup [.str jw, v1, v6]) hp7)
              have n7 := NoT.upd (o := .tup [.str jw, v1, v6]) (p := p7) n6 rfl
              wtm_at "rs"
              refine use_takeW r7 n7 (fun k hk => (qe k (by rw [hk]; rfl)).mono s7) fun ht x8 G8 s8 n8 r8 => ?_
              wtm_at "rs"
              rename_i p9 hp9
              have s9 := s8.trans (same_new (o := .tup [.ref p7, .ref x8]) hp9)
              refine q _ (l + 1) (by rw [ht]; rfl) p9 (.ref p7) x8 _ (s7.trans s9) (NoT.upd n8 rfl) (SqT.of upd_same) ?_ (r8.mono (same_new hp9))
              have e7 := s9 _ _ (upd_same (H := G6) (a := p7) (o := .tup [.str jw, v1, v6]))
              have t1 := (hv1.mono (same_new (o := .tup [.str jw, v1, v6]) hp7)).mono s9
              have t2 := (hv6.mono (same_new (o := .tup [.str jw, v1, v6]) hp7)).mono s9
              by_cases ea : jw = "and"
              · rw [if_pos ea]
                rw [ea] at e7
                exact ⟨p7, v1, v6, rfl, e7, t1, t2⟩
              · have eo : jw = "or" := Classical.byContradiction fun z => ej ⟨ea, z⟩
                rw [if_neg ea]
                rw [eo] at e7
                exact ⟨p7, v1, v6, rfl, e7, t1, t2⟩
theorem ok_Reader_part (T : Txt K mg Ad) : MDef P w K mg base 206 Ad.c_Reader "part" ["self", "depth"] (spRdS Ad.c_Reader Ad.c_BadSaying K 200) := ok_Reader_part_r T 200
/-! ### Reader.whole -/
def spRdAll (C CB : Addr) : Sp := fun vs H Q E => ∃ (r : Addr) (ws : List Str), vs = [.ref r] ∧ IsRd C H r ws 0 ∧ NoT H ∧ ws.length < 200 ∧ (∀ k, rdAll ws = .error k → ErrAt CB H E k) ∧ (∀ s, rdAll ws = .ok s → ∀ v G, Same H G → NoT G → TreeT G v s → Q v G)
theorem ok_Reader_whole (T : Txt K mg Ad) : MDef P w K mg base 207 Ad.c_Reader "whole" ["self"] (spRdAll Ad.c_Reader Ad.c_BadSaying) := by
  refine T.d_Reader_whole.ok sc_Reader_whole (fun vs H Q E h => ?_) (fun f cdv A outer s H vs Q E hr h => ?_)
  · obtain ⟨r, ws, rfl, _⟩ := h
    rfl
  · obtain ⟨r, ws, rfl, h, nt, l, qe, q⟩ := h
    obtain ⟨dx, W, h1, h2⟩ := h.ex
    refine ⟨_, (pss_cons (ps_asg (pe_md (ok_Reader_part T) (pv 0) T.cl_Reader (hr.mono (by decide)) (passes_call (takes_of rfl rfl rfl rfl) (fun _ _ _ _ h => h)) (pa_cons pe_int pa_nil)) (pg_tup rfl (pgs_cons (pg_name (i := 1) sc_Reader_whole.nd rfl (Or.inl rfl)) (pgs_cons (pg_name (i := 2) sc_Reader_whole.nd rfl (Or.inl rfl)) pgs_nil))))
      (pss_cons (ps_if (pt_cmpR op_lt (pe_fldC (pv 2) T.cl_Reader T.nf_Reader_at) (pe_callB c_len (by rfl) T.b_len PySem.boot_len (pa_cons (pe_fldC (pv 2) T.cl_Reader T.nf_Reader_words) pa_nil)) (nomark _)) (pss_one (ps_raise rfl (takes_of rfl rfl rfl rfl) (pmk_err (T.err_BadSaying) (hr.mono (by decide)) (pa_cons (pe_fldC (pv 2) T.cl_Reader T.nf_Reader_at) pa_nil)))) pss_nil)
      (pss_one (ps_ret (pv 1))))), ?_⟩
    try dsimp only [cxOf]
    have er : rdAll ws = (rdS 200 ws 0 0).bind fun a => if a.2 < ws.length then .error a.2 else .ok a.1 := rfl
    rw [er] at qe q
    wtm_at "rs"
    refine ⟨r, ws, 0, 0, rfl, h, nt, by omega, by omega, fun k hk => qe k (by rw [hk]; rfl), fun s j hj p v x G sm nG hp hv rx => ?_⟩
    rw [hj] at qe q
    replace qe : ∀ k, (if j < ws.length then .error j else .ok s) = Except.error k → ErrAt Ad.c_BadSaying H E k := qe
    replace q : ∀ s2, (if j < ws.length then Except.error j else .ok s) = Except.ok s2 → ∀ v G, Same H G → NoT G → TreeT G v s2 → Q v G := q
    obtain ⟨dx3, W3, hx3, hW3⟩ := rx.ex
    wtm_at "rs"
    rw [List.length_map]
    by_cases e : (j : Int) < (ws.length : Int)
    · rw [if_pos (decide_eq_true e)]
      wtm_at "rs"
      exact fun d hd => ((qe j (if_pos (by omega))).mono sm).here nG hd rfl
    · rw [if_neg (by rw [decide_eq_true_iff]; exact e)]
      wtm_at "rs"
      exact q s (if_neg (by omega)) v G sm nG hv
/-! ### Saying.__init__ -/
theorem ntt : ¬ (("tree" : Str) = "text") := by decide +kernel
def syFl (a b : V) : List (Str × V) := [("tree", a), ("text", b)]
theorem syFl_put (a b : V) : putF "text" b (putF "tree" a []) = syFl a b := by
  simp only [putF, if_neg ntt, syFl]
theorem TreeT.other {H : Hp} {x C dx : Addr} {fs : List (Str × V)} {o : HO} (hx : H x = some (.ins C dx fs)) : ∀ {s : Say} {v : V}, TreeT H v s → TreeT (upd H x o) v s
  | .sq _, _, ⟨t, e, h⟩ => ⟨t, e, by rw [upd_ne (ne_of h hx (by intro z; cases z))]; exact h⟩
  | .rt .., _, ⟨t, e, h⟩ => ⟨t, e, by rw [upd_ne (ne_of h hx (by intro z; cases z))]; exact h⟩
  | .re .., _, ⟨t, e, h⟩ => ⟨t, e, by rw [upd_ne (ne_of h hx (by intro z; cases z))]; exact h⟩
  | .fo _, _, ⟨t, e, h⟩ => ⟨t, e, by rw [upd_ne (ne_of h hx (by intro z; cases z))]; exact h⟩
  | .no _, _, ⟨t, u, e, h, k⟩ => ⟨t, u, e, by rw [upd_ne (ne_of h hx (by intro z; cases z))]; exact h, TreeT.other hx k⟩
  | .an _ _, _, ⟨t, u1, u2, e, h, k1, k2⟩ => ⟨t, u1, u2, e, by rw [upd_ne (ne_of h hx (by intro z; cases z))]; exact h, TreeT.other hx k1, TreeT.other hx k2⟩
  | .ou _ _, _, ⟨t, u1, u2, e, h, k1, k2⟩ => ⟨t, u1, u2, e, by rw [upd_ne (ne_of h hx (by intro z; cases z))]; exact h, TreeT.other hx k1, TreeT.other hx k2⟩
theorem TreeT.keeps {H G : Hp} (k : Keeps H G) : ∀ {x : Say} {v : V}, TreeT H v x → TreeT G v x
  | .sq _, _, ⟨t, e, h⟩ => ⟨t, e, k _ _ rfl h⟩
  | .rt .., _, ⟨t, e, h⟩ => ⟨t, e, k _ _ rfl h⟩
  | .re .., _, ⟨t, e, h⟩ => ⟨t, e, k _ _ rfl h⟩
  | .fo _, _, ⟨t, e, h⟩ => ⟨t, e, k _ _ rfl h⟩
  | .no _, _, ⟨t, u, e, h, i⟩ => ⟨t, u, e, k _ _ rfl h, TreeT.keeps k i⟩
  | .an _ _, _, ⟨t, u1, u2, e, h, i, j⟩ => ⟨t, u1, u2, e, k _ _ rfl h, TreeT.keeps k i, TreeT.keeps k j⟩
  | .ou _ _, _, ⟨t, u1, u2, e, h, i, j⟩ => ⟨t, u1, u2, e, k _ _ rfl h, TreeT.keeps k i, TreeT.keeps k j⟩
/-- an object that is a saying, with its text -/
def IsSay (C : Addr) (H : Hp) (x : Addr) (s : Say) (t : Str) : Prop := ∃ dx v, H x = some (.ins C dx (syFl v (.str t))) ∧ TreeT H v s
theorem IsSay.mono {C : Addr} {H G : Hp} {x : Addr} {s : Say} {t : Str} (h : IsSay C H x s t) (sm : Same H G) : IsSay C G x s t := by
  obtain ⟨dx, v, h1, h2⟩ := h
  exact ⟨dx, v, sm _ _ h1, h2.mono sm⟩
theorem IsSay.rig {C : Addr} {H : Hp} {x : Addr} {s : Say} {t : Str} (h : IsSay C H x s t) : Rig (fun G => IsSay C G x s t) H := fun G k => by
  obtain ⟨dx, v, h1, h2⟩ := h
  exact ⟨dx, v, k _ _ rfl h1, h2.keeps k⟩
def spSyI (C CB : Addr) : Sp := fun vs H Q E => ∃ (x dx : Addr) (t : Str), vs = [.ref x, .str t] ∧ H x = some (.ins C dx []) ∧ NoT H ∧ t.length ≤ 100000 ∧ (Txt.split t " ").length < 200 ∧ (∀ w ∈ Txt.split t " ", w.length ≤ 100000) ∧
  (∀ k, rdAll (Txt.split t " ") = .error k → ErrAt CB H E k) ∧ (∀ s, rdAll (Txt.split t " ") = .ok s → ∀ G, Same H G → NoT G → ∀ v, TreeT G v s → G x = some (.ins C dx []) → Q .non (upd G x (.ins C dx (syFl v (.str t)))))
theorem ok_Saying_init (T : Txt K mg Ad) : MkDef P w K mg base 208 "Saying" Ad.c_Saying ["self", "text"] (spSyI Ad.c_Saying Ad.c_BadSaying) := by
  refine T.d_Saying_init.ok sc_Saying_init (fun vs H Q E h => ?_) (fun f cdv A outer s H vs Q E hr h => ?_)
  · obtain ⟨x, dx, t, rfl, _⟩ := h
    rfl
  · obtain ⟨x, dx, t, rfl, hx, nt, tl, wl, ww, qe, q⟩ := h
    refine ⟨_, (pss_cons (ps_fldC (pv 0) (pe_md0 (ok_Reader_whole T) (pe_mkd (ok_Reader_init T) (hr.mono (by decide)) (passes_call (takes_of rfl rfl rfl rfl) (fun _ _ _ _ h => h)) (pa_cons (pe_split (pv 1) pe_str) (pa_cons pe_int pa_nil))) T.cl_Reader (hr.mono (by decide)) (passes_call (takes_of rfl rfl rfl rfl) (fun _ _ _ _ h => h))) T.cl_Saying T.nf_Saying_tree)
      (pss_one (ps_fldC (pv 0) (pv 1) T.cl_Saying T.nf_Saying_text))), ?_⟩
    try dsimp only [cxOf]
    wtm_at "rs"
    refine ⟨⟨_, rfl⟩, ?_⟩
    refine ⟨t, " ", rfl, rfl, by decide +kernel, by unfold sizeLine; omega, fun W hW => ?_⟩
    wtm_at "rs"
    have s0 := same_new (o := .lst ((Txt.split t " ").map V.str)) hW
    refine mk_Rd (i := 0) upd_same (Nat.zero_le _) (by omega) ww (NoT.upd nt rfl) fun r G hr s1 n1 ir => ?_
    have s1 := s0.trans s1
    obtain ⟨dx2, W2, hr2, _⟩ := ir.ex
    wtm_at "rs"
    refine ⟨r, _, rfl, ir, n1, wl, fun k hk => (qe k hk).mono s1, fun s hs v G2 s2 n2 hv => ?_⟩
    have s2 := s1.trans s2
    have hx2 := s2 _ _ hx
    wtm_at "rs"
    rw [upd_upd, syFl_put]
    exact q s hs G2 s2 n2 v hv hx2
theorem mk_Say {C CB : Addr} {H1 : Hp} {t : Str} {s : Say} {R : Addr → Hp → Prop} {E : XK} (nt : NoT H1) (tl : t.length ≤ 100000) (wl : (Txt.split t " ").length < 200) (ww : ∀ w ∈ Txt.split t " ", w.length ≤ 100000) (hs : rdAll (Txt.split t " ") = .ok s)
    (q : ∀ x G, H1 x = none → Same H1 G → NoT G → IsSay C G x s t → R x G) :
    ∀ x dx, H1 x = none → H1 dx = none → dx ≠ x → spSyI C CB [.ref x, .str t] (upd (upd H1 dx (.own x)) x (.ins C dx [])) (fun v H2 => v = .non ∧ R x H2) E := by
  intro x dx nx nd ne
  refine ⟨x, dx, t, rfl, upd_same, NoT.upd (NoT.upd nt rfl) rfl, tl, wl, ww, (fun k hk => by rw [hs] at hk; cases hk), fun s2 hs2 G sm nG v hv hx => ⟨rfl, ?_⟩⟩
  rw [hs] at hs2
  cases hs2
  have s1 : Same H1 (upd (upd H1 dx (.own x)) x (.ins C dx [])) := same_upd2 (same_new nd) nx
  exact q x _ nx (same_upd2 (s1.trans sm) nx) (NoT.upd nG rfl) ⟨dx, v, upd_same, hv.other hx⟩
/-- the words of a text that a saying has -/
theorem mk_SayW {C CB : Addr} {H1 : Hp} {t : Str} {s : Say} {R : Addr → Hp → Prop} {E : XK} (nt : NoT H1) (ht : t = Txt.join " " s.words) (g : s.good) (o : s.opn ≤ 8) (l : s.words.length < 200)
    (q : ∀ x G, H1 x = none → Same H1 G → NoT G → IsSay C G x s t → R x G) :
    ∀ x dx, H1 x = none → H1 dx = none → dx ≠ x → spSyI C CB [.ref x, .str t] (upd (upd H1 dx (.own x)) x (.ins C dx [])) (fun v H2 => v = .non ∧ R x H2) E := by
  have wo := s.words_ok g
  have sp : Txt.split t " " = s.words := by rw [ht]; exact split_join s.words_ne fun w hw => (wo w hw).1
  have tl : t.length ≤ 100000 := by
    rw [ht, show Txt.join (" " : Str) s.words = Str.join " " s.words from PySem.StrLaws.glued_eq_join _ _]
    have h1 := PySem.StrLaws.join_length_le " " s.words
    have h2 : ∀ ws : List Str, (∀ w ∈ ws, w.length ≤ 6) → (ws.map (·.length)).sum ≤ 6 * ws.length := fun ws => by
      induction ws with
      | nil => intro _; simp
      | cons w ws ih =>
        intro h
        have h1 := h w List.mem_cons_self
        have h2 := ih fun u hu => h u (List.mem_cons_of_mem _ hu)
        simp only [List.map_cons, List.sum_cons, List.length_cons]
        omega
    have h3 := h2 s.words fun w hw => (wo w hw).2
    have h4 : (" " : Str).length = 1 := by decide +kernel
    rw [h4] at h1
    omega
  exact mk_Say nt tl (by rw [sp]; exact l) (fun w hw => by rw [sp] at hw; have := (wo w hw).2; omega) (by rw [sp]; exact rdAll_words g o (by omega)) q
/-! ### Saying.__str__ -/
def spSyS (C : Addr) : Sp := fun vs H Q _ => ∃ (x : Addr) (s : Say) (t : Str), vs = [.ref x] ∧ IsSay C H x s t ∧ Q (.str t) H
theorem ok_Saying_str (T : Txt K mg Ad) : MDef P w K mg base 1 Ad.c_Saying "__str__" ["self"] (spSyS Ad.c_Saying) := by
  refine T.d_Saying_str.ok sc_Saying_str (fun vs H Q E h => ?_) (fun f cdv A outer s H vs Q E hr h => ?_)
  · obtain ⟨x, s, t, rfl, _⟩ := h
    rfl
  · obtain ⟨x, s, t, rfl, ⟨dx, v, hx, hv⟩, q⟩ := h
    refine ⟨_, (pss_one (ps_ret (pe_callTy SkE.call_str_str (by rfl) T.b_str (by decide +kernel) (pa_cons (pe_fldC (pv 0) T.cl_Saying T.nf_Saying_text) pa_nil)))), ?_⟩
    try dsimp only [cxOf]
    wtm_at "rs"
    exact ⟨t, rfl, q⟩
/-! ### _law_is_number -/
theorem fold_ge : ∀ (r : List Nat) (a : Nat), a * 10 ^ r.length ≤ r.foldl (fun acc c => acc * 10 + (c - 48)) a
  | [], a => by simp
  | c :: r, a => by
    have h := fold_ge r (a * 10 + (c - 48))
    rw [List.foldl_cons, List.length_cons, Nat.pow_succ]
    have h2 := Nat.mul_le_mul_right (10 ^ r.length) (show a * 10 ≤ a * 10 + (c - 48) by omega)
    rw [Nat.mul_assoc, Nat.mul_comm 10] at h2
    omega
theorem val_big {c : Nat} {r : List Nat} (h : 49 ≤ c) (l : 4 ≤ r.length) : 10000 ≤ valL (c :: r) := by
  have h1 := fold_ge r (0 * 10 + (c - 48))
  have h2 : 10 ^ 4 ≤ 10 ^ r.length := Nat.pow_le_pow_right (by decide) l
  have h3 := Nat.mul_le_mul (show 1 ≤ 0 * 10 + (c - 48) by omega) h2
  show 10000 ≤ (c :: r).foldl _ 0
  rw [List.foldl_cons]
  omega
/-- the digits of a word -/
def digW (w : Str) : List Nat := if w.cps.toList.take 1 = [45] then w.cps.toList.drop 1 else w.cps.toList
theorem isIW_dig {w : Str} : isIW w = (if digW w = [] ∨ 4 < (digW w).length ∨ ¬ ((digW w).all fun c => decide (48 ≤ c ∧ c ≤ 57)) = true then false else decide ((digW w = [48] ∧ w.cps.toList = [48]) ∨ (digW w).head? ≠ some 48)) := rfl
theorem iVal_abs {w : Str} : iVal w = (valL (digW w) : Nat) ∨ iVal w = -(valL (digW w) : Nat) := by
  unfold iVal digW
  by_cases hm : w.cps.toList.take 1 = [45]
  · rw [if_pos hm, if_pos hm]; exact .inr rfl
  · rw [if_neg hm, if_neg hm]; exact .inl rfl
theorem int_dig {w : Str} (h0 : digW w ≠ []) (h1 : (digW w).length ≤ 6) (ha : ((digW w).all fun c => decide (48 ≤ c ∧ c ≤ 57)) = true) : intText? w = some (iVal w) := by
  have hl : w.cps.toList.length = w.length := by simp [Str.length]
  unfold iVal
  have hd := fun c hc => show 48 ≤ c ∧ c ≤ 57 by simpa using List.all_eq_true.mp ha c hc
  unfold digW at h0 h1 hd
  by_cases hm : w.cps.toList.take 1 = [45]
  · rw [if_pos hm] at h0 h1 hd ⊢
    have e : w.cps.toList = 45 :: w.cps.toList.drop 1 := by
      cases hw : w.cps.toList with
      | nil => rw [hw] at hm; cases hm
      | cons c cs =>
        rw [hw] at hm
        have : c = 45 := by simpa using hm
        rw [this]
        rfl
    have := congrArg List.length e
    rw [List.length_cons] at this
    exact PySem.intText_neg e hd h0 (by omega)
  · rw [if_neg hm] at h0 h1 hd ⊢
    exact PySem.intText_digits hd h0 (by omega)
/-- what the two ways to ask say of a word of up to six digits -/
theorem numW_dig {w : Str} {lo hi : Int} (l1 : -9999 ≤ lo) (l2 : hi ≤ 9999) (h0 : digW w ≠ []) (h1 : (digW w).length ≤ 6) (ha : ((digW w).all fun c => decide (48 ≤ c ∧ c ≤ 57)) = true) (hz : (digW w).head? = some 48 → w = "0") : numW w lo hi ↔ lo ≤ iVal w ∧ iVal w ≤ hi := by
  unfold numW
  refine ⟨fun h => h.2, fun h => ⟨?_, h⟩⟩
  have n4 : ¬ 4 < (digW w).length := fun h4 => by
    cases hc : digW w with
    | nil => exact h0 hc
    | cons c r =>
      rw [hc] at h4
      have c0 : 48 ≤ c ∧ c ≤ 57 := by
        have := List.all_eq_true.mp ha c (by rw [hc]; exact List.mem_cons_self)
        simpa using this
      have c48 : c ≠ 48 := fun z => by
        have hw := hz (by rw [hc, z]; rfl)
        have : (digW w).length = 1 := by rw [hw]; decide +kernel
        rw [hc] at this
        omega
      have hb := val_big (c := c) (r := r) (by omega) (by rw [List.length_cons] at h4; omega)
      rcases iVal_abs (w := w) with z | z <;> rw [hc] at z <;> omega
  rw [isIW_dig, if_neg (by rintro (z | z | z); exact h0 z; exact n4 z; exact z ha), decide_eq_true_iff]
  by_cases hh : (digW w).head? = some 48
  · have hw := hz hh
    left
    rw [hw]
    decide +kernel
  · exact .inr hh
def spLIN0 : Sp := fun vs H Q _ => ∃ (w : Str) (lo hi : Int), vs = [.str w, .int lo, .int hi] ∧ w.length ≤ 100000 ∧ -9999 ≤ lo ∧ hi ≤ 9999 ∧ NoT H ∧ ∀ G, Same H G → Q (.bl (decide (numW w lo hi))) G
def spLIN : Sp := fun vs H Q _ => ∃ (w : Str) (lo hi : Int), vs = [.str w, .int lo, .int hi] ∧ w.length ≤ 100000 ∧ -9999 ≤ lo ∧ hi ≤ 9999 ∧ NoT H ∧ Q (.bl (decide (numW w lo hi))) H
theorem use_LIN {w : Str} {lo hi : Int} {H : Hp} {Q : VK} {E : XK} (l : w.length ≤ 100000) (l1 : -9999 ≤ lo) (l2 : hi ≤ 9999) (nt : NoT H) (q : Q (.bl (decide (numW w lo hi))) H) : spLIN [.str w, .int lo, .int hi] H Q E := ⟨w, lo, hi, rfl, l, l1, l2, nt, q⟩
theorem ok_law_is_number0 (T : Txt K mg Ad) : Def P w K mg base 1 "_law_is_number" ["_law_word", "_law_low", "_law_high"] spLIN0 := by
  refine T.d_law_is_number.ok sc_law_is_number (fun vs H Q E h => ?_) (fun f cdv A outer s H vs Q E hr h => ?_)
  · obtain ⟨w, lo, hi, rfl, _⟩ := h
    rfl
  · obtain ⟨w, lo, hi, rfl, l, l1, l2, nt, q⟩ := h
    refine ⟨_, (pss_cons (ps_set (i := 3) sc_law_is_number.nd rfl (Or.inl rfl) (pv 0))
      (C8.pss_cut (ps_if (pt_cmpR op_eq (pe_slice sl_str (pv 0) po_none (po_some pe_int)) pe_str (nomark _)) (pss_one (ps_set (i := 3) sc_law_is_number.nd rfl (Or.inl rfl) (pe_slice sl_str (pv 0) (po_some pe_int) po_none))) pss_nil)
      (pss_cons (ps_if (PW.pt (pw_or (pt_cmpR op_eq (pv 3) pe_str (nomark _)) (pw_or (pt_cmpR op_gt (pe_callB c_lenS (by rfl) T.b_len PySem.boot_len (pa_cons (pv 3) pa_nil)) pe_int (nomark _)) (pw_or1 (pt_not (pt_val (pe_callB (cr_all rfl) (by rfl) T.b_all (by decide +kernel) (pa_cons (pe_lc (own := [("_law_mark", 4)])  (te := (tOp rInSg (tVar 4) (tC (.str "0123456789")))) rfl sc_law_is_number.nd  (pi_str (pv 3)) (blkOk_by (own := [("_law_mark", 4)]) (N := ["_law_word", "_law_low", "_law_high", "_law_digits", "_law_mark"]) (sc := defScope s_law_is_number) (by decide +kernel)) (fun _ _ _ _ _ => (pg_name (i := 4) sc_law_is_number.nd rfl (Or.inl rfl))) (fun _ _ _ _ _ => pts_nil) (fun _ _ _ _ _ => (pe_cmpR op_inSg (pv 4) pe_str (by rfl)))) pa_nil)))))))) (pss_one (ps_ret pe_bl)) pss_nil)
      (pss_cons (ps_if (PW.pt (pw_and (pt_cmpR op_eq (pe_ix ix_str (pv 3) pe_int (fun _ _ => rfl)) pe_str (nomark _)) (pw_and1 (pt_cmpR op_ne (pv 0) pe_str (nomark _))))) (pss_one (ps_ret pe_bl)) pss_nil)
      (pss_one (ps_ret (pe_and (pe_cmpR op_le (pv 1) (pe_callTy c_intS (by rfl) T.b_int (by decide +kernel) (pa_cons (pv 0) pa_nil)) (nomark _)) (pe_one (pe_cmpR op_le (pe_callTy c_intS (by rfl) T.b_int (by decide +kernel) (pa_cons (pv 0) pa_nil)) (pv 2) (nomark _)))))))))), ?_⟩
    try dsimp only [cxOf]
    have hl : w.cps.toList.length = w.length := by simp [Str.length]
    wtm_at "rs"
    refine rd_cut (fun σ G => ∃ d : Str, σ = [some (.str w), some (.int lo), some (.int hi), some (.str d), none] ∧ G = H ∧ d.cps.toList = digW w) ?_ ?_
    · have minus : ("-" : Str).cps.toList = [45] := by decide +kernel
      wtm_at "rs"
      refine rd_slS (by unfold sizeLine; omega) ?_
      wtm_at "rs"
      by_cases hm : w.cps.toList.take 1 = [45]
      · rw [if_pos (decide_eq_true (str_eq.mpr (by rw [cut1S, minus]; exact hm)))]
        wtm_at "rs"
        refine rd_slS (by unfold sizeLine; omega) ?_
        wtm_at "rs"
        exact ⟨_, rfl, rfl, by unfold digW; rw [if_pos hm]; exact cutR⟩
      · rw [if_neg (by rw [decide_eq_true_iff]; exact fun z => hm (by rw [← cut1S, z, minus]))]
        wtm_at "rs"
        exact ⟨_, rfl, rfl, by unfold digW; rw [if_neg hm]⟩
    · rintro σ G ⟨d, rfl, rfl, hd⟩
      have dl : d.cps.toList.length = d.length := by simp [Str.length]
      have dw : d.length ≤ 100000 := by
        rw [← dl, hd]
        unfold digW
        split
        · rw [List.length_drop]
          omega
        · omega
      have emp : ("" : Str).cps.toList = [] := by decide +kernel
      have zero : ("0" : Str).cps.toList = [48] := by decide +kernel
      have dig : ∀ c, c ∈ ("0123456789" : Str).cps.toList ↔ 48 ≤ c ∧ c ≤ 57 := by
        intro c
        rw [show ("0123456789" : Str).cps.toList = [48, 49, 50, 51, 52, 53, 54, 55, 56, 57] by decide +kernel]
        simp only [List.mem_cons, List.not_mem_nil, or_false]
        omega
      have no : isIW w = false → ∀ G2, Same G G2 → Q (.bl false) G2 := fun h G2 s => by
        have q := q G2 s
        rw [decide_eq_false (fun z : numW w lo hi => by have z1 := z.1; rw [h] at z1; exact Bool.noConfusion z1)] at q
        exact q
      have eW := isIW_dig (w := w)
      rw [← hd] at eW
      wtm_at "rs"
      by_cases e0 : d = ""
      · rw [if_pos (decide_eq_true e0)]
        wtm_at "rs"
        rw [if_pos (.inl (by rw [e0, emp]))] at eW
        exact no eW _ (Same.refl _)
      · have n0 : d.cps.toList ≠ [] := fun z => e0 (str_eq.mpr (by rw [z, emp]))
        rw [if_neg (by rw [decide_eq_true_iff]; exact e0)]
        wtm_at "rs"
        refine ⟨d, rfl, by unfold sizeLine; omega, ?_⟩
        wtm_at "rs"
        by_cases e4 : (6 : Int) < (d.length : Int)
        · rw [if_pos (decide_eq_true e4)]
          wtm_at "rs"
          rw [if_pos (.inr (.inl (by omega)))] at eW
          exact no eW _ (Same.refl _)
        · rw [if_neg (by rw [decide_eq_true_iff]; exact e4)]
          wtm_at "rs"
          refine rd_lcS (fun i ys => ys = ((d.cps.toList.take i).map fun c => decide (48 ≤ c ∧ c ≤ 57)).map V.bl) nt rfl (fun D i ys c G2 hc sm nG hD hGD hy => ?_) fun D ys G2 hD hGD sm nG hy => ?_
          · have hi := (List.getElem?_eq_some_iff.mp hc).1
            wtm_at "r"
            refine ⟨rfl, ?_⟩
            wtm_at "rs"
            refine put_P hGD (by rw [hy, List.length_map, List.length_map, List.length_take]; unfold sizeLine; omega) sm hD nG ?_
            rw [hy, List.take_add_one, hc, List.map_append, List.map_append, decide_eq_decide.mpr (dig c)]
            rfl
          · rw [show d.cps.size = d.cps.toList.length by simp, List.take_length] at hy
            wtm_at "rs"
            refine ⟨D, d.cps.toList.map fun c => decide (48 ≤ c ∧ c ≤ 57), rfl, SqL.of (by rw [hGD, hy]), ?_⟩
            rw [List.all_map]
            have ea : ((id : Bool → Bool) ∘ fun c => decide (48 ≤ c ∧ c ≤ 57)) = fun c : Nat => decide (48 ≤ c ∧ c ≤ 57) := rfl
            rw [ea]
            refine ⟨_, rfl, ?_⟩
            by_cases ha : (d.cps.toList.all fun c => decide (48 ≤ c ∧ c ≤ 57)) = true
            · rw [ha]
              wtm_at "rs"
              obtain ⟨c0, r0, hc⟩ : ∃ c r, d.cps.toList = c :: r := by
                cases h : d.cps.toList with
                | nil => exact absurd h n0
                | cons c r => exact ⟨c, r, rfl⟩
              have e48 : (⟨#[c0]⟩ : Str) = "0" ↔ c0 = 48 := by
                rw [str_eq, zero]
                simp
              have wz : w = "0" ↔ w.cps.toList = [48] := by rw [str_eq, zero]
              have a0 : atI d.cps.toList 0 = some c0 := by rw [hc]; exact show atI (c0 :: r0) ((0 : Nat) : Int) = some c0 from atI_nat rfl
              have nd := numW_dig (w := w) l1 l2 (by rw [← hd]; exact n0) (by rw [← hd]; omega) (by rw [← hd]; exact ha)
              have iv := int_dig (w := w) (by rw [← hd]; exact n0) (by rw [← hd]; omega) (by rw [← hd]; exact ha)
              have wl : w.length ≤ 640 := by
                have : w.cps.toList.length ≤ (digW w).length + 1 := by
                  unfold digW
                  split
                  · rw [List.length_drop]; omega
                  · omega
                rw [← hd] at this
                omega
              have fin : (d.cps.toList.head? = some 48 → w = "0") → Q (.bl (decide (lo ≤ iVal w ∧ iVal w ≤ hi))) G2 := fun z => by
                have q := q G2 sm
                rw [decide_eq_decide.mpr (nd (by rw [← hd]; exact z))] at q
                exact q
              refine rd_ixS (by unfold sizeLine; omega) a0 ?_
              wtm_at "rs"
              have last : Q (.bl (decide (lo ≤ iVal w ∧ iVal w ≤ hi))) G2 → tRet (tAndV (tOp (rI0 fun i j => V.bl (decide (i ≤ j))) (tVar 1) (tCB rIntS (tCons (tVar 0) tNil))) (tOp (rI0 fun i j => V.bl (decide (i ≤ j))) (tCB rIntS (tCons (tVar 0) tNil)) (tVar 2))) { nx := fun x H' => Q V.non H', rt := Q } [some (.str w), some (.int lo), some (.int hi), some (.str d), none] G2 := fun q => by
                wtm_at "rs"
                refine rd_intS iv wl ?_
                wtm_at "rs"
                by_cases c1 : lo ≤ iVal w
                · rw [if_pos (decide_eq_true c1)]
                  wtm_at "rs"
                  refine rd_intS iv wl ?_
                  wtm_at "rs"
                  rw [decide_eq_decide.mpr (show (lo ≤ iVal w ∧ iVal w ≤ hi) ↔ iVal w ≤ hi from ⟨fun h => h.2, fun h => ⟨c1, h⟩⟩)] at q
                  exact q
                · rw [if_neg (by rw [decide_eq_true_iff]; exact c1)]
                  rw [decide_eq_false fun z => c1 z.1] at q
                  exact q
              by_cases h1 : (⟨#[c0]⟩ : Str) = "0"
              · rw [if_pos (decide_eq_true h1)]
                wtm_at "rs"
                by_cases h2 : w = "0"
                · rw [if_neg (by simp [h2])]
                  exact last (fin fun _ => h2)
                · rw [if_pos (by simp [h2])]
                  wtm_at "rs"
                  refine no ?_ _ sm
                  rw [eW]
                  split
                  · rfl
                  · rw [decide_eq_false_iff_not]
                    rintro (z | z)
                    · exact h2 (wz.mpr z.2)
                    · exact z (by rw [hc, e48.mp h1]; rfl)
              · rw [if_neg (by rw [decide_eq_true_iff]; exact h1)]
                rw [if_neg (by decide)]
                exact last (fin fun z => absurd (e48.mpr (by rw [hc] at z; exact Option.some.inj z)) h1)
            · rw [Bool.eq_false_iff.mpr ha]
              rw [if_pos (.inr (.inr ha))] at eW
              wtm_at "rs"
              exact no eW _ sm
theorem ok_law_is_number (T : Txt K mg Ad) : Def P w K mg base 1 "_law_is_number" ["_law_word", "_law_low", "_law_high"] spLIN :=
  (ok_law_is_number0 T).forget.imp fun vs H Q E ⟨w, lo, hi, e, l, l1, l2, nt, q⟩ => ⟨nt, w, lo, hi, e, l, l1, l2, nt, fun G s => ⟨s, q⟩⟩
/-! ### _law_fits -/
def Wt.isNum : Wt → Prop
  | .square | .form | .modul | .first | .twenty | .few | .rest => True
  | _ => False
def spLFits : Sp := fun vs H Q _ => ∃ (t : Wt) (w : Str) (m : Int), vs = [.str t.str, .str w, .int m] ∧ t.isNum ∧ w.length ≤ 100000 ∧ 0 ≤ m ∧ m ≤ 1000 ∧ NoT H ∧ Q (.bl (decide (t.fits m w))) H
theorem use_LFits {t : Wt} {w : Str} {m : Int} {H : Hp} {Q : VK} {E : XK} (hn : t.isNum) (l : w.length ≤ 100000) (m0 : 0 ≤ m) (m1 : m ≤ 1000) (nt : NoT H) (q : Q (.bl (decide (t.fits m w))) H) : spLFits [.str t.str, .str w, .int m] H Q E := ⟨t, w, m, rfl, hn, l, m0, m1, nt, q⟩
theorem ok_law_fits (T : Txt K mg Ad) : Def P w K mg base 2 "_law_fits" ["_law_want", "_law_word", "_law_modulus"] spLFits := by
  refine T.d_law_fits.ok sc_law_fits (fun vs H Q E h => ?_) (fun f cdv A outer s H vs Q E hr h => ?_)
  · obtain ⟨t, w, m, rfl, _⟩ := h
    rfl
  · obtain ⟨t, w, m, rfl, hn, l, m0, m1, nt, q⟩ := h
    refine ⟨_, (pss_cons (ps_if (pt_cmpR op_eq (pv 0) pe_str (nomark _)) (pss_one (ps_ret (pe_d (ok_law_is_number T) (hr.mono (by decide)) (passes_call (takes_of rfl rfl rfl rfl) (fun _ _ _ _ h => h)) (pa_cons (pv 1) (pa_cons (pe_un un_neg pe_int) (pa_cons pe_int pa_nil)))))) pss_nil)
      (pss_cons (ps_if (pt_cmpR op_eq (pv 0) pe_str (nomark _)) (pss_one (ps_ret (pe_d (ok_law_is_number T) (hr.mono (by decide)) (passes_call (takes_of rfl rfl rfl rfl) (fun _ _ _ _ h => h)) (pa_cons (pv 1) (pa_cons pe_int (pa_cons pe_int pa_nil)))))) pss_nil)
      (pss_cons (ps_if (pt_cmpR op_eq (pv 0) pe_str (nomark _)) (pss_one (ps_ret (pe_d (ok_law_is_number T) (hr.mono (by decide)) (passes_call (takes_of rfl rfl rfl rfl) (fun _ _ _ _ h => h)) (pa_cons (pv 1) (pa_cons pe_int (pa_cons pe_int pa_nil)))))) pss_nil)
      (pss_cons (ps_if (pt_cmpR op_eq (pv 0) pe_str (nomark _)) (pss_one (ps_ret (pe_and (pe_d (ok_law_is_number T) (hr.mono (by decide)) (passes_call (takes_of rfl rfl rfl rfl) (fun _ _ _ _ h => h)) (pa_cons (pv 1) (pa_cons (pe_un un_neg pe_int) (pa_cons pe_int pa_nil)))) (pe_one (pe_cmpR op_ne (pv 1) pe_str (nomark _)))))) pss_nil)
      (pss_cons (ps_if (pt_cmpR op_eq (pv 0) pe_str (nomark _)) (pss_one (ps_ret (pe_d (ok_law_is_number T) (hr.mono (by decide)) (passes_call (takes_of rfl rfl rfl rfl) (fun _ _ _ _ h => h)) (pa_cons (pv 1) (pa_cons (pe_un un_neg pe_int) (pa_cons pe_int pa_nil)))))) pss_nil)
      (pss_cons (ps_if (pt_cmpR op_eq (pv 0) pe_str (nomark _)) (pss_one (ps_ret (pe_d (ok_law_is_number T) (hr.mono (by decide)) (passes_call (takes_of rfl rfl rfl rfl) (fun _ _ _ _ h => h)) (pa_cons (pv 1) (pa_cons pe_int (pa_cons pe_int pa_nil)))))) pss_nil)
      (pss_one (ps_ret (pe_d (ok_law_is_number T) (hr.mono (by decide)) (passes_call (takes_of rfl rfl rfl rfl) (fun _ _ _ _ h => h)) (pa_cons (pv 1) (pa_cons pe_int (pa_cons (pe_op op_sub (pv 2) pe_int) pa_nil)))))))))))), ?_⟩
    try dsimp only [cxOf]
    cases t with
    | saying => exact hn.elim
    | is => exact hn.elim
    | are => exact hn.elim
    | close => exact hn.elim
    | joint => exact hn.elim
    | square =>
      simp only [Wt.str]
      wtm_at "rs"
      exact use_LIN l (by omega) (by omega) nt q
    | form =>
      simp only [Wt.str]
      wtm_at "rs"
      repeat (refine rd_eqF (by decide +kernel) ?_; wtm_at "rs")
      exact use_LIN l (by omega) (by omega) nt q
    | modul =>
      simp only [Wt.str]
      wtm_at "rs"
      repeat (refine rd_eqF (by decide +kernel) ?_; wtm_at "rs")
      exact use_LIN l (by omega) (by omega) nt q
    | first =>
      simp only [Wt.str]
      wtm_at "rs"
      repeat (refine rd_eqF (by decide +kernel) ?_; wtm_at "rs")
      refine use_LIN l (by omega) (by omega) nt ?_
      refine ⟨_, rfl, ?_⟩
      by_cases h1 : numW w (-20) 20
      · rw [decide_eq_true h1]
        wtm_at "rs"
        rw [decide_eq_decide.mpr (show Wt.first.fits m w ↔ ¬ w = "0" from ⟨fun h => h.2, fun h => ⟨h1, h⟩⟩), decide_not] at q
        exact q
      · rw [decide_eq_false h1]
        rw [decide_eq_false (show ¬ Wt.first.fits m w from fun h => h1 h.1)] at q
        exact q
    | twenty =>
      simp only [Wt.str]
      wtm_at "rs"
      repeat (refine rd_eqF (by decide +kernel) ?_; wtm_at "rs")
      exact use_LIN l (by omega) (by omega) nt q
    | few =>
      simp only [Wt.str]
      wtm_at "rs"
      repeat (refine rd_eqF (by decide +kernel) ?_; wtm_at "rs")
      exact use_LIN l (by omega) (by omega) nt q
    | rest =>
      simp only [Wt.str]
      wtm_at "rs"
      repeat (refine rd_eqF (by decide +kernel) ?_; wtm_at "rs")
      exact use_LIN l (by omega) (by omega) nt q
/-! ### _law_told -/
def toldN (ws : List Str) : Int := match rdAll ws with
  | .error k => k
  | .ok _ => -1
theorem use_SyStr {C x : Addr} {s : Say} {t : Str} {H : Hp} {Q : VK} {E : XK} (h : IsSay C H x s t) (q : Q (.str t) H) : rStrO C (spSyS C) E [.ref x] H Q := by
  obtain ⟨dx, v, hx, hv⟩ := h
  exact ⟨x, dx, _, rfl, hx, x, s, t, rfl, ⟨dx, v, hx, hv⟩, _, rfl, q⟩
/-- words that come back when their text is split -/
structure WdOk (ws : List Str) : Prop where
  ne : ws ≠ []
  b : ∀ w ∈ ws, 32 ∉ w.cps.toList
  l : ws.length < 200
  z : (ws.map (fun x => x.length)).sum ≤ 90000
def spLTold0 : Sp := fun vs H Q _ => ∃ (a : Addr) (ws : List Str), vs = [.ref a] ∧ H a = some (.lst (ws.map V.str)) ∧ WdOk ws ∧ NoT H ∧ ∀ G, Same H G → Q (.int (toldN ws)) G
def spLTold : Sp := fun vs H Q _ => ∃ (a : Addr) (ws : List Str), vs = [.ref a] ∧ H a = some (.lst (ws.map V.str)) ∧ WdOk ws ∧ NoT H ∧ Q (.int (toldN ws)) H
theorem use_LTold {a : Addr} {ws : List Str} {H : Hp} {Q : VK} {E : XK} (h : H a = some (.lst (ws.map V.str))) (o : WdOk ws) (nt : NoT H) (q : Q (.int (toldN ws)) H) : spLTold [.ref a] H Q E := ⟨a, ws, rfl, h, o, nt, q⟩
theorem ok_law_told0 (T : Txt K mg Ad) : Def P w K mg base 210 "_law_told" ["_law_words_here"] spLTold0 := by
  refine T.d_law_told.ok sc_law_told (fun vs H Q E h => ?_) (fun f cdv A outer s H vs Q E hr h => ?_)
  · obtain ⟨a, ws, rfl, _⟩ := h
    rfl
  · obtain ⟨a, ws, rfl, ha, o, nt, q⟩ := h
    refine ⟨_, (pss_cons (ps_set (i := 1) sc_law_told.nd rfl (Or.inl rfl) (pe_join pe_str (pv 0)))
      (pss_cons (ps_try_as (i := 3) (tb := fun W => (tAsg (tMakeT Ad.c_Saying ((spSyI Ad.c_Saying Ad.c_BadSaying)) (WE W) (tCons (tVar 1) tNil)) (gName 2))) (ts := fun a cls d => (tRet (tXf a cls d Ad.c_BadSaying "at" (tVar 3)))) (Wout := fun cls d _ H => E cls d H) rfl rfl sc_law_told.nd rfl rfl ⟨rfl, by decide, .inl T.r_BadSaying.g⟩ (takes_of rfl rfl rfl rfl) (fun W pn xe tk _ => (pss_one (ps_set (i := 2) sc_law_told.nd rfl (Or.inl rfl) (by exact (pe_mkdS (ok_Saying_init T) (hr.mono (by decide)) tk (pa_cons (pv 1) pa_nil)))))) (fun a oe cls d pn hz hf => (pss_one (ps_ret (pe_xf T.r_BadSaying.X T.no_BadSaying_at hz hf (pv 3))))))
      (pss_cons (ps_if (pt_cmpR op_ne (pe_callTy (call_strO (ok_Saying_str T) (hr.mono (by decide)) (passes_call (takes_of rfl rfl rfl rfl) (fun _ _ _ _ h => h))) (by rfl) T.b_str (by decide +kernel) (pa_cons (pv 2) pa_nil)) (pv 1) (nomark _)) (pss_one (ps_ret (pe_un un_neg pe_int))) pss_nil)
      (pss_one (ps_ret (pe_un un_neg pe_int)))))), ?_⟩
    try dsimp only [cxOf]
    have sz2 : (" " : Str).length = 1 := by decide +kernel
    have on := o.l
    have oz := o.z
    wtm_at "rs"
    refine ⟨⟨_, rfl⟩, ?_⟩
    wtm_at "rs"
    refine ⟨" ", a, ws, rfl, rfl, .inl (SqL.of ha), by rw [sz2]; omega, ?_⟩
    wtm_at "rs"
    have sp : Txt.split (Txt.join " " ws) " " = ws := split_join o.ne o.b
    have tl : (Txt.join " " ws).length ≤ 100000 := by
      rw [show Txt.join (" " : Str) ws = Str.join " " ws from PySem.StrLaws.glued_eq_join _ _]
      have h1 := PySem.StrLaws.join_length_le " " ws
      rw [sz2] at h1
      omega
    have ww : ∀ w ∈ ws, w.length ≤ 100000 := fun w hw => by
      have h1 : ∀ ws : List Str, w ∈ ws → w.length ≤ (ws.map (fun x => x.length)).sum := fun ws => by
        induction ws with
        | nil => intro h; exact absurd h List.not_mem_nil
        | cons u us ih =>
          intro h
          simp only [List.map_cons, List.sum_cons]
          rcases List.mem_cons.mp h with z | z
          · rw [z]; omega
          · have := ih z; omega
      have := h1 ws hw
      omega
    generalize Txt.join " " ws = t at *
    intro x dx nx nd ne
    have s1 : Same H (upd (upd H dx (.own x)) x (.ins Ad.c_Saying dx [])) := same_upd2 (same_new nd) nx
    refine ⟨x, dx, t, rfl, upd_same, NoT.upd (NoT.upd nt rfl) rfl, tl, by rw [sp]; exact o.l, by rw [sp]; exact ww, fun k hk => ?_, fun s hs G sm nG v hv hx => ⟨rfl, ?_⟩⟩
    · intro d G sm nG hd
      rw [sp] at hk
      refine rd_was T.r_BadSaying.self fun a ha => ?_
      wtm_at "rs"
      have q := q G (s1.trans sm)
      rw [show toldN ws = (k : Int) by unfold toldN; rw [hk]] at q
      exact q
    · rw [sp] at hs
      have sm2 : Same H (upd G x (.ins Ad.c_Saying dx (syFl v (.str t)))) := same_upd2 (s1.trans sm) nx
      have ix : IsSay Ad.c_Saying (upd G x (.ins Ad.c_Saying dx (syFl v (.str t)))) x s t := ⟨dx, v, upd_same, hv.other hx⟩
      wtm_at "rs"
      refine use_SyStr ix ?_
      wtm_at "rs"
      have q := q _ sm2
      rw [show toldN ws = -1 by unfold toldN; rw [hs]] at q
      exact q
theorem ok_law_told (T : Txt K mg Ad) : Def P w K mg base 210 "_law_told" ["_law_words_here"] spLTold :=
  (ok_law_told0 T).forget.imp fun vs H Q E ⟨a, ws, e, h, o, nt, q⟩ => ⟨nt, a, ws, e, h, o, nt, fun G s => ⟨s, q⟩⟩
/-! ### _law_changed -/
def spLCh : Sp := fun vs H Q _ => ∃ (p a : Addr) (c k : Int) (b : Bool) (ws : List Str) (n z : Nat), vs = [.ref p, .ref a] ∧ H p = some (.lst [.int c, .int k, .bl b]) ∧ 0 ≤ k ∧ k ≤ 9000 ∧ H a = some (.lst (ws.map V.str)) ∧ a ≠ p ∧ NoT H ∧ WdB ws n z ∧ n ≤ 190 ∧
  ∀ (D : Addr) (G : Hp) (ws' : List Str) (c' k' : Int), But p H G → NoT G → G p = some (.lst [.int c', .int k', .bl b]) → H D = none → D ≠ p → G D = some (.lst (ws'.map V.str)) → WdB ws' (n + 1) (z + 5002) → k ≤ k' → k' ≤ k + 3 → Q (.ref D) G
local macro_rules | `(tactic| wtm_at "len") => `(tactic| first
  | with_reducible assumption
  | (with_reducible exact cut_leW (by with_reducible assumption))
  | (with_reducible exact len_app (by wtm_at "len") (by wtm_at "len"))
  | (with_reducible exact len_rev (by wtm_at "len"))
  | (with_reducible exact len_one)
  | fail)
local macro_rules | `(tactic| wtm_at "sc62") => `(tactic| first
  | ((with_reducible refine rd_cat (xs := ?xs) (zs := ?zs) ?h1 ?h2 ?h3 ?_); (case h1 => wtm_at "h"); (case h2 => wtm_at "h"); (case h3 => exact room2 (by wtm_at "len") (by wtm_at "len") (by decide)); intro p hp)
  | fail)
local macro_rules | `(tactic| wtm_at "rc62") => `(tactic| repeat' (first | wtm_at "r" | wtm_at "sc62" | wtm_at "s" | fail))
theorem ok_law_changed (T : Txt K mg Ad) : Def P w K mg base 2 "_law_changed" ["_law_pool_here", "_law_words_here"] spLCh := by
  refine T.d_law_changed.ok sc_law_changed (fun vs H Q E h => ?_) (fun f cdv A outer s H vs Q E hr h => ?_)
  · obtain ⟨p, a, c, k, b, ws, n, z, rfl, _⟩ := h
    rfl
  · obtain ⟨p, a, c, k, b, ws, n, z, rfl, hp, k0, k1, ha, hap, nt, ok, n1, q⟩ := h
    refine ⟨_, (pss_cons (ps_set (i := 2) sc_law_changed.nd rfl (Or.inl rfl) (pe_lst (pa_cons pe_str (pa_cons pe_str (pa_cons pe_str (pa_cons pe_str (pa_cons pe_str (pa_cons pe_str (pa_cons pe_str (pa_cons pe_str (pa_cons pe_str (pa_cons pe_str (pa_cons pe_str pa_nil)))))))))))))
      (pss_cons (ps_set (i := 2) sc_law_changed.nd rfl (Or.inl rfl) (pe_op op_cat (pv 2) (pe_lst (pa_cons pe_str (pa_cons pe_str (pa_cons pe_str (pa_cons pe_str (pa_cons pe_str (pa_cons pe_str (pa_cons pe_str (pa_cons pe_str (pa_cons (pe_op op_addS pe_str (pe_op op_repS pe_str pe_int)) (pa_cons (pe_op op_addS pe_str (pe_op op_repS pe_str pe_int)) pa_nil)))))))))))))
      (pss_cons (ps_set (i := 2) sc_law_changed.nd rfl (Or.inl rfl) (pe_op op_cat (pv 2) (pe_lst (pa_cons pe_str (pa_cons pe_str (pa_cons pe_str (pa_cons pe_str (pa_cons pe_str (pa_cons pe_str (pa_cons pe_str (pa_cons pe_str (pa_cons pe_str (pa_cons pe_str (pa_cons pe_str (pa_cons pe_str (pa_cons pe_str (pa_cons pe_str pa_nil)))))))))))))))))
      (pss_cons (ps_set (i := 3) sc_law_changed.nd rfl (Or.inl rfl) (pe_ix ix_list (pv 2) (pe_d (ok_law_take T) (hr.mono (by decide)) (passes_call (takes_of rfl rfl rfl rfl) (fun _ _ _ _ h => h)) (pa_cons (pv 0) (pa_cons (pe_callB c_len (by rfl) T.b_len PySem.boot_len (pa_cons (pv 2) pa_nil)) pa_nil))) (fun _ _ => rfl)))
      (pss_cons (ps_set (i := 4) sc_law_changed.nd rfl (Or.inl rfl) (pe_d (ok_law_take T) (hr.mono (by decide)) (passes_call (takes_of rfl rfl rfl rfl) (fun _ _ _ _ h => h)) (pa_cons (pv 0) (pa_cons (pe_op op_add (pe_callB c_len (by rfl) T.b_len PySem.boot_len (pa_cons (pv 1) pa_nil)) pe_int) pa_nil))))
      (pss_cons (ps_set (i := 5) sc_law_changed.nd rfl (Or.inl rfl) (pe_d (ok_law_take T) (hr.mono (by decide)) (passes_call (takes_of rfl rfl rfl rfl) (fun _ _ _ _ h => h)) (pa_cons (pv 0) (pa_cons pe_int pa_nil))))
      (pss_cons (ps_if (pt_cmpR op_eq (pv 5) pe_int (nomark _)) (pss_one (ps_ret (pe_op op_cat (pe_slice sl_list (pv 1) po_none (po_some (pv 4))) (pe_slice sl_list (pv 1) (po_some (pe_op op_add (pv 4) pe_int)) po_none)))) pss_nil)
      (pss_cons (ps_if (pt_cmpR op_eq (pv 5) pe_int (nomark _)) (pss_one (ps_ret (pe_op op_cat (pe_op op_cat (pe_slice sl_list (pv 1) po_none (po_some (pv 4))) (pe_slice sl_list (pv 1) (po_some (pv 4)) (po_some (pe_op op_add (pv 4) pe_int)))) (pe_slice sl_list (pv 1) (po_some (pv 4)) po_none)))) pss_nil)
      (pss_cons (ps_if (pt_cmpR op_eq (pv 5) pe_int (nomark _)) (pss_one (ps_ret (pe_op op_cat (pe_op op_cat (pe_slice sl_list (pv 1) po_none (po_some (pv 4))) (pe_lst (pa_cons (pv 3) pa_nil))) (pe_slice sl_list (pv 1) (po_some (pv 4)) po_none)))) pss_nil)
      (pss_cons (ps_if (pt_cmpR op_eq (pv 5) pe_int (nomark _)) (pss_one (ps_ret (pe_op op_cat (pe_op op_cat (pe_slice sl_list (pv 1) po_none (po_some (pv 4))) (pe_revL (pe_slice sl_list (pv 1) (po_some (pv 4)) (po_some (pe_op op_add (pv 4) pe_int))))) (pe_slice sl_list (pv 1) (po_some (pe_op op_add (pv 4) pe_int)) po_none)))) pss_nil)
      (pss_one (ps_ret (pe_op op_cat (pe_op op_cat (pe_slice sl_list (pv 1) po_none (po_some (pv 4))) (pe_lst (pa_cons (pv 3) pa_nil))) (pe_slice sl_list (pv 1) (po_some (pe_op op_add (pv 4) pe_int)) po_none)))))))))))))), ?_⟩
    try dsimp only [cxOf]
    have B := Hv.pool nt hp
    wtm_at "rs"
    rename_i p1 hp1
    replace B := B.newL (o := .lst [.str "square", .str "form", .str "not", .str "(", .str ")", .str "and", .str "or", .str "is", .str "are", .str "rest", .str "roots"]) hp1
    refine B.gen fun G B => ?_
    clear hp1
    refine rd_repS (by decide) (by decide) (by decide +kernel) ?_
    obtain ⟨S1, e1, w1⟩ : ∃ S1 : Str, "1" ++ repS "0" (5000 : Int).toNat = S1 ∧ wOk S1 := ⟨_, rfl, wOk_rep (by decide +kernel) (by decide +kernel)⟩
    obtain ⟨S2, e2, w2⟩ : ∃ S2 : Str, "-1" ++ repS "0" (5000 : Int).toNat = S2 ∧ wOk S2 := ⟨_, rfl, wOk_rep (by decide +kernel) (by decide +kernel)⟩
    have zl : (repS "0" (5000 : Int).toNat).length = 5000 := by rw [repS_len]; decide +kernel
    have o1 : ("1" : Str).length = 1 := by decide +kernel
    have o2 : ("-1" : Str).length = 2 := by decide +kernel
    have sz : (100000 : Nat) ≤ sizeLine := by decide
    refine rd_addS (by rw [zl, o1]; omega) ?_
    rw [e1]
    wtm_at "rs"
    refine rd_repS (by decide) (by decide) (by decide +kernel) ?_
    refine rd_addS (by rw [zl, o2]; omega) ?_
    rw [e2]
    clear e1 e2 zl o1 o2
    wtm_at "rs"
    rename_i p2 hp2 p3 hp3 p4 hp4 p5 hp5
    replace B := B.newL (o := .lst [.str "0", .str "-0", .str "07", .str "1000", .str "-1001", .str "1001", .str "-1000", .str "-21", .str S1, .str S2]) hp2
    replace B := B.newL (o := .lst ([.str "square", .str "form", .str "not", .str "(", .str ")", .str "and", .str "or", .str "is", .str "are", .str "rest", .str "roots"] ++ [.str "0", .str "-0", .str "07", .str "1000", .str "-1001", .str "1001", .str "-1000", .str "-21", .str S1, .str S2])) hp3
    replace B := B.newL (o := .lst [.str "", .str "20", .str "21", .str "-20", .str "3", .str "60", .str "61", .str "400", .str "401", .str "--1", .str "+1", .str "1_0", .str "Square", .str "squares"]) hp4
    replace B := B.newL (o := .lst ([.str "square", .str "form", .str "not", .str "(", .str ")", .str "and", .str "or", .str "is", .str "are", .str "rest", .str "roots"] ++ [.str "0", .str "-0", .str "07", .str "1000", .str "-1001", .str "1001", .str "-1000", .str "-21", .str S1, .str S2] ++ [.str "", .str "20", .str "21", .str "-20", .str "3", .str "60", .str "61", .str "400", .str "401", .str "--1", .str "+1", .str "1_0", .str "Square", .str "squares"])) hp5
    have em : ([.str "square", .str "form", .str "not", .str "(", .str ")", .str "and", .str "or", .str "is", .str "are", .str "rest", .str "roots"] ++ [.str "0", .str "-0", .str "07", .str "1000", .str "-1001", .str "1001", .str "-1000", .str "-21", .str S1, .str S2] ++ [.str "", .str "20", .str "21", .str "-20", .str "3", .str "60", .str "61", .str "400", .str "401", .str "--1", .str "+1", .str "1_0", .str "Square", .str "squares"] : List V) = (menuS S1 S2).map V.str := rfl
    rw [em] at B ⊢
    have mo : ∀ w ∈ menuS S1 S2, wOk w := menu_ok w1 w2
    have ml : (menuS S1 S2).length = 35 := rfl
    generalize menuS S1 S2 = ms at *
    clear em
    revert B
    clear hp5
    revert hp4
    clear hp3
    intro hp4
    clear hp4 hp2
    generalize upd (upd (upd (upd G p2 _) p3 _) p4 _) p5 (.lst (ms.map V.str)) = G
    intro B
    rw [List.length_map, ml]
    wtm_at "rs"
    rename_i c1 r1 r10 r11
    replace B := B.put (u := .lst [.int c1, .int (k + 1), .bl b])
    refine B.gen fun G B => ?_
    have hi : r1.toNat < ms.length := by omega
    have hx : atI (ms.map V.str) r1 = some (.str ms[r1.toNat]) := by
      have h : atI (ms.map V.str) ((r1.toNat : Nat) : Int) = some (.str ms[r1.toNat]) := atI_nat (by rw [List.getElem?_map, List.getElem?_eq_getElem hi]; rfl)
      rwa [show ((r1.toNat : Nat) : Int) = r1 by omega] at h
    refine rd_ixL (SqL.of (B.lAt (a := p5) (by wtm_at "mem"))) hx ?_
    have wo := mo _ (List.getElem_mem hi)
    generalize ms[r1.toNat] = wd at *
    replace B := B.sub (L' := []) (by wtm_at "vsub") (by wtm_at "vsub")
    clear hx mo
    have hl := ok.n
    have hl2 : (ws.map V.str).length ≤ 200 := by rw [List.length_map]; omega
    wtm_at "rs"
    rename_i c2 r2 r20 r21 c3 r3 r30 r31
    replace B := (B.put (u := .lst [.int c2, .int (k + 1 + 1), .bl b])).put (u := .lst [.int c3, .int (k + 1 + 1 + 1), .bl b])
    refine B.gen fun G B => ?_
    have ha2 := B.oAtX ha hap
    rw [List.length_map] at r21
    have eAR : ws = ws.take r2.toNat ++ ws.drop r2.toNat := (List.take_append_drop _ _).symm
    have fin : ∀ {F0 : Hp} {D : Addr} {xs : List V} (ws' : List Str), Same G F0 → NoT F0 → F0 D = none → xs = ws'.map V.str → WdB ws' (n + 1) (z + 5002) → Q (.ref D) (upd F0 D (.lst xs)) := fun {F0 D xs} ws' s nF hD e ok' => by
      subst e
      have gD : G D = none := s.free hD
      have pG := B.mAt (a := p) (by wtm_at "mem")
      have Dp : D ≠ p := fun z => by rw [z, pG] at gD; cases gD
      refine q D _ ws' c3 (k + 1 + 1 + 1) (fun x o nx e => ?_) (NoT.upd nF rfl) ?_ ?_ Dp upd_same ok' (by omega) (by omega)
      · have := s _ _ (B.but1 x o nx e)
        rw [upd_ne (fun z => by rw [z, hD] at this; cases this)]
        exact this
      · rw [upd_ne (Ne.symm Dp)]
        exact s _ _ pG
      · refine Classical.byContradiction fun z => ?_
        obtain ⟨o, ho⟩ := Option.ne_none_iff_exists'.mp z
        have := B.but1 D o Dp ho
        rw [gD] at this
        cases this
    have okAR := ok
    rw [eAR] at okAR
    have e1 : cutV (ws.map V.str) none (some r2) = (ws.take r2.toNat).map V.str := cut_to r20
    have e2 : cutV (ws.map V.str) (some (r2 + 1)) none = ((ws.drop r2.toNat).drop 1).map V.str := by rw [cut_from (show 0 ≤ r2 + 1 by omega), List.drop_drop, show (r2 + 1).toNat = r2.toNat + 1 by omega]
    have e3 : cutV (ws.map V.str) (some (r2 + 2)) none = ((ws.drop r2.toNat).drop 2).map V.str := by rw [cut_from (show 0 ≤ r2 + 2 by omega), List.drop_drop, show (r2 + 2).toNat = r2.toNat + 2 by omega]
    have e4 : cutV (ws.map V.str) (some r2) none = (ws.drop r2.toNat).map V.str := cut_from r20
    have e5 : cutV (ws.map V.str) (some r2) (some (r2 + 1)) = ((ws.drop r2.toNat).take 1).map V.str := cut_mid (k := 1) r20
    have e6 : cutV (ws.map V.str) (some r2) (some (r2 + 2)) = ((ws.drop r2.toNat).take 2).map V.str := cut_mid (k := 2) r20
    by_cases h0 : r3 = 0
    · refine rd_eqT h0 ?_
      wtm_at "rc62"
      exact fin _ (by wtm_at "sm") (by wtm_at "nt") (by assumption) (by rw [e1, e2, ← List.map_append]) (okAR.c0 wo)
    refine rd_eqF h0 ?_
    wtm_at "rs"
    by_cases h1 : r3 = 1
    · refine rd_eqT h1 ?_
      wtm_at "rc62"
      exact fin _ (by wtm_at "sm") (by wtm_at "nt") (by assumption) (by rw [e1, e4, e5, ← List.map_append, ← List.map_append]) (okAR.c1 wo)
    refine rd_eqF h1 ?_
    wtm_at "rs"
    by_cases h2 : r3 = 2
    · refine rd_eqT h2 ?_
      wtm_at "rc62"
      exact fin (ws.take r2.toNat ++ [wd] ++ ws.drop r2.toNat) (by wtm_at "sm") (by wtm_at "nt") (by assumption) (by rw [e1, e4, List.map_append, List.map_append]; rfl) (okAR.c2 wo)
    refine rd_eqF h2 ?_
    wtm_at "rs"
    by_cases h3 : r3 = 3
    · refine rd_eqT h3 ?_
      wtm_at "rc62"
      exact fin _ (by wtm_at "sm") (by wtm_at "nt") (by assumption) (by rw [e1, e3, e6, ← List.map_reverse, ← List.map_append, ← List.map_append]) (okAR.c3 wo)
    refine rd_eqF h3 ?_
    wtm_at "rc62"
    exact fin (ws.take r2.toNat ++ [wd] ++ (ws.drop r2.toNat).drop 1) (by wtm_at "sm") (by wtm_at "nt") (by assumption) (by rw [e1, e2, List.map_append, List.map_append]; rfl) (okAR.c4 wo)
/-! ### _law_fault -/
def stV (st : List Wt) : List V := (st.reverse.map Wt.str).map V.str
def faultN (ws : List Str) : Int := match faultM ws with
  | some k => k
  | none => -1
theorem dpAll_strs {K : PySem.W.Frag} {H : Hp} : ∀ (ws : List Str), DpAll K H (ws.map V.str) (ws.map PyData.str)
  | [] => .nil
  | w :: ws => .cons (.str w) (dpAll_strs ws)
theorem rd_inLw {K : PySem.W.Frag} {H : Hp} {Q : VK} {p : Addr} {x : Str} {ws : List Str} (h : SqL K H p (ws.map V.str)) (q : Q (.bl (decide (x ∈ ws))) H) : rIn K false (.str x) (.ref p) H Q :=
  ⟨p, ws.map V.str, rfl, .inl h, rfl, flat_strs ws, by rw [inV_strs]; exact q⟩
theorem rd_eqNilS {K : PySem.W.Frag} {H : Hp} {a b : Addr} {ws : List Str} {Q : VK} (h1 : SqL K H a (ws.map V.str)) (h2 : SqL K H b []) (q : Q (.bl (decide (ws = []))) H) : rEqN K false (.ref a) (.ref b) H Q := by
  refine rd_eqN h1 h2 ?_
  rw [if_neg Bool.false_ne_true, show decide (ws.map V.str = []) = decide (ws = []) from decide_eq_decide.mpr List.map_eq_nil_iff]
  exact q
theorem rd_neNilS {K : PySem.W.Frag} {H : Hp} {a b : Addr} {ws : List Str} {Q : VK} (h1 : SqL K H a (ws.map V.str)) (h2 : SqL K H b []) (q : Q (.bl (!decide (ws = []))) H) : rEqN K true (.ref a) (.ref b) H Q := by
  refine rd_eqN h1 h2 ?_
  rw [if_pos rfl, show decide (ws.map V.str = []) = decide (ws = []) from decide_eq_decide.mpr List.map_eq_nil_iff]
  exact q
def spLFault0 : Sp := fun vs H Q _ => ∃ (a : Addr) (ws : List Str), vs = [.ref a] ∧ H a = some (.lst (ws.map V.str)) ∧ ws.length < 200 ∧ (∀ w ∈ ws, w.length ≤ 100000) ∧ NoT H ∧ ∀ G, Same H G → Q (.int (faultN ws)) G
def spLFault : Sp := fun vs H Q _ => ∃ (a : Addr) (ws : List Str), vs = [.ref a] ∧ H a = some (.lst (ws.map V.str)) ∧ ws.length < 200 ∧ (∀ w ∈ ws, w.length ≤ 100000) ∧ NoT H ∧ Q (.int (faultN ws)) H
theorem use_LFault {a : Addr} {ws : List Str} {H : Hp} {Q : VK} {E : XK} (h : H a = some (.lst (ws.map V.str))) (l : ws.length < 200) (ww : ∀ w ∈ ws, w.length ≤ 100000) (nt : NoT H) (q : Q (.int (faultN ws)) H) : spLFault [.ref a] H Q E := ⟨a, ws, rfl, h, l, ww, nt, q⟩
theorem ok_law_fault0 (T : Txt K mg Ad) : Def P w K mg base 3 "_law_fault" ["_law_words_here"] spLFault0 := by
  refine T.d_law_fault.ok sc_law_fault (fun vs H Q E h => ?_) (fun f cdv A outer s H vs Q E hr h => ?_)
  · obtain ⟨a, ws, rfl, _⟩ := h
    rfl
  · obtain ⟨a, ws, rfl, ha, l, ww, nt, q⟩ := h
    refine ⟨_, (pss_cons (ps_set (i := 1) sc_law_fault.nd rfl (Or.inl rfl) (pe_lst (pa_cons pe_str pa_nil)))
      (pss_cons (ps_set (i := 2) sc_law_fault.nd rfl (Or.inl rfl) pe_int)
      (pss_cons (ps_set (i := 3) sc_law_fault.nd rfl (Or.inl rfl) pe_int)
      (pss_cons (ps_for (passes_of rfl) rfl (pi_range1 (by rfl) T.b_range (pa_cons (pe_callB c_len (by rfl) T.b_len PySem.boot_len (pa_cons (pv 0) pa_nil)) pa_nil)) (pg_name (i := 4) sc_law_fault.nd rfl (Or.inl rfl)) (pss_cons (ps_set (i := 5) sc_law_fault.nd rfl (Or.inl rfl) (pe_ix ix_list (pv 0) (pv 4) (fun _ _ => rfl)))
      (pss_cons (ps_if (pt_cmpR (op_eqN (Nat.lt_of_succ_lt (hu_of hr))) (pv 1) (pe_lst pa_nil) (nomark _)) (pss_one (ps_ret (pv 4))) pss_nil)
      (pss_cons (ps_set (i := 6) sc_law_fault.nd rfl (Or.inl rfl) (pe_bm0 PySem.F.plainAttrs_list PySem.F.slot_list_pop PySem.F.type_list_pop mt_pop (pv 1)))
      (pss_one (ps_if (PW.pt (pw_and (pt_cmpR op_eq (pv 6) pe_str (nomark _)) (pw_and1 (pt_pure (pt_cmpR op_in_seq (pv 5) (pe_lst (pa_cons pe_str (pa_cons pe_str pa_nil))) (by rfl)))))) (pss_one (ps_expr (pe_bm PySem.F.plainAttrs_list PySem.F.slot_list_append PySem.F.type_list_append mt_append (pv 1) (pa_cons (pv 5) pa_nil)))) (pss_one (ps_if (PW.pt (pw_and (pt_cmpR op_eq (pv 6) pe_str (nomark _)) (pw_and1 (pt_cmpR op_eq (pv 5) pe_str (nomark _))))) (pss_one (ps_set (i := 1) sc_law_fault.nd rfl (Or.inl rfl) (pe_op op_cat (pv 1) (pe_lst (pa_cons pe_str (pa_cons pe_str (pa_cons pe_str pa_nil))))))) (pss_one (ps_if (PW.pt (pw_and (pt_cmpR op_eq (pv 6) pe_str (nomark _)) (pw_and1 (pt_cmpR op_eq (pv 5) pe_str (nomark _))))) (pss_one (ps_set (i := 1) sc_law_fault.nd rfl (Or.inl rfl) (pe_op op_cat (pv 1) (pe_lst (pa_cons pe_str (pa_cons pe_str (pa_cons pe_str (pa_cons pe_str (pa_cons pe_str pa_nil))))))))) (pss_one (ps_if (PW.pt (pw_and (pt_cmpR op_eq (pv 6) pe_str (nomark _)) (pw_and1 (pt_cmpR op_eq (pv 5) pe_str (nomark _))))) (pss_one (ps_expr (pe_bm PySem.F.plainAttrs_list PySem.F.slot_list_append PySem.F.type_list_append mt_append (pv 1) (pa_cons pe_str pa_nil)))) (pss_one (ps_if (PW.pt (pw_and (pt_cmpR op_eq (pv 6) pe_str (nomark _)) (pw_and (pt_cmpR op_eq (pv 5) pe_str (nomark _)) (pw_and1 (pt_cmpR op_lt (pv 2) pe_int (nomark _)))))) (pss_cons (ps_set (i := 2) sc_law_fault.nd rfl (Or.inl rfl) (pe_op op_add (pv 2) pe_int))
      (pss_one (ps_set (i := 1) sc_law_fault.nd rfl (Or.inl rfl) (pe_op op_cat (pv 1) (pe_lst (pa_cons pe_str (pa_cons pe_str (pa_cons pe_str (pa_cons pe_str pa_nil))))))))) (pss_one (ps_if (PW.pt (pw_and (pt_cmpR op_eq (pv 6) pe_str (nomark _)) (pw_and1 (pt_pure (pt_cmpR op_in_seq (pv 5) (pe_lst (pa_cons pe_str (pa_cons pe_str pa_nil))) (by rfl)))))) (pss_one (ps_set (i := 2) sc_law_fault.nd rfl (Or.inl rfl) (pe_op op_add (pv 2) pe_int))) (pss_one (ps_if (PW.pt (pw_and (pt_pure (pt_cmpR op_in_seq (pv 6) (pe_lst (pa_cons pe_str (pa_cons pe_str (pa_cons pe_str pa_nil)))) (by rfl))) (pw_and1 (pt_cmpR op_eq (pv 5) (pv 6) (nomark _))))) (pss_one (ps_set (i := 2) sc_law_fault.nd rfl (Or.inl rfl) (pe_op op_sub (pv 2) (pe_callTy c_int1 (by rfl) T.b_int (by decide +kernel) (pa_cons (pe_cmpR op_eq (pv 6) pe_str (nomark _)) pa_nil))))) (pss_one (ps_if (PW.pt (pw_and (pt_pure (pt_cmpR op_in_seq (pv 6) (pe_lst (pa_cons pe_str (pa_cons pe_str (pa_cons pe_str (pa_cons pe_str (pa_cons pe_str (pa_cons pe_str (pa_cons pe_str pa_nil)))))))) (by rfl))) (pw_and1 (pt_val (pe_d (ok_law_fits T) (hr.mono (by decide)) (passes_call (takes_of rfl rfl rfl rfl) (fun _ _ _ _ h => h)) (pa_cons (pv 6) (pa_cons (pv 5) (pa_cons (pv 3) pa_nil)))))))) (pss_one (ps_if (pt_cmpR op_eq (pv 6) pe_str (nomark _)) (pss_one (ps_set (i := 3) sc_law_fault.nd rfl (Or.inl rfl) (pe_callTy c_intS (by rfl) T.b_int (by decide +kernel) (pa_cons (pv 5) pa_nil)))) pss_nil)) (pss_one (ps_ret (pv 4)))))))))))))))))))))))
      (pss_cons (ps_if (pt_cmpR (op_neN (Nat.lt_of_succ_lt (hu_of hr))) (pv 1) (pe_lst pa_nil) (nomark _)) (pss_one (ps_ret (pe_callB c_len (by rfl) T.b_len PySem.boot_len (pa_cons (pv 0) pa_nil)))) pss_nil)
      (pss_one (ps_ret (pe_un un_neg pe_int)))))))), ?_⟩
    try dsimp only [cxOf]
    wtm_at "rs"
    · rw [List.length_map]
      omega
    · rename_i D hD
      have B := (Hv.start nt).new (o := .lst [.str "saying"]) hD
      refine rd_forR (fun i σ G => ∃ (D : Addr) (st : List Wt) (o m : Int) (v4 v5 v6 : Option V), σ = [some (.ref a), some (.ref D), some (.int o), some (.int m), v4, v5, v6] ∧ Hv noX H [(D, .lst (stV st))] [] [] G ∧ runM (ws.drop i) i st o m = faultM ws ∧ 1 ≤ m ∧ m ≤ 400 ∧ -(i : Int) ≤ o ∧ o ≤ i ∧ st.length ≤ 1 + 4 * i) ⟨D, [.saying], 0, 1, _, _, _, rfl, B, rfl, by decide, by decide, by decide, by decide, by decide⟩ ?_ ?_
      · rintro i σ G hi ⟨D, st, o, m, v4, v5, v6, rfl, B, rn, m1, m4, o1, o2, sl⟩
        have hi2 : i < ws.length := by rw [List.length_map] at hi; omega
        have hw : ws[i]? = some ws[i] := List.getElem?_eq_getElem hi2
        have wl := ww _ (List.getElem_mem hi2)
        generalize ws[i] = w at *
        have ha := B.oAt ha
        wtm_at "rs"
        rw [Int.zero_add] at *
        refine rd_ixL (SqL.of ha) (show atI (ws.map V.str) ((i : Nat) : Int) = some (.str w) from atI_nat (by rw [List.getElem?_map, hw]; rfl)) ?_
        wtm_at "rs"
        rename_i p1 hp1
        have B2 := B.newL (o := .lst []) hp1
        refine rd_eqNilS (ws := st.reverse.map Wt.str) (SqL.of (B2.mAt (a := D) (o := .lst (stV st)) (by wtm_at "mem"))) (SqL.of upd_same) ?_
        refine ⟨_, rfl, ?_⟩
        clear B2
        rw [runM_some hw] at rn
        cases st with
        | nil =>
          rw [if_pos (by decide)]
          wtm_at "rs"
          rw [show stepM [] o m w = none from rfl] at rn
          have q := q _ (B.same.trans (same_new (o := .lst []) hp1))
          rw [show faultN ws = (i : Int) by unfold faultN; rw [← rn]] at q
          exact q
        | cons t r =>
          rw [if_neg (by simp)]
          wtm_at "rs"
          replace B := B.newL (o := .lst []) hp1
          have eS : ∀ (t : Wt) (r : List Wt), stV (t :: r) = stV r ++ [.str t.str] := fun t r => by unfold stV; simp
          rw [eS] at B
          refine ⟨D, stV r ++ [.str t.str], .str t.str, rfl, rfl, B.mAt (by wtm_at "mem"), by simp, ?_⟩
          rw [List.dropLast_concat]
          replace B := (B.put (u := .lst (stV r))).sub (L' := []) (by wtm_at "vsub") (by wtm_at "vsub")
          clear hp1
          revert B
          generalize upd (upd G p1 (.lst [])) D (.lst (stV r)) = G
          intro B
          have go : ∀ {st' : List Wt} {o' m' : Int}, stepM (t :: r) o m w = some (st', o', m') → runM (ws.drop (i + 1)) (i + 1) st' o' m' = faultM ws := fun h => by rw [h] at rn; exact rn
          have bad : stepM (t :: r) o m w = none → ∀ G, Same H G → Q (.int (i : Int)) G := fun h G s => by
            rw [h] at rn
            have q := q G s
            rw [show faultN ws = (i : Int) by unfold faultN; rw [← rn]] at q
            exact q
          clear q rn
          have sl2 : r.length ≤ 4 * i := by rw [List.length_cons] at sl; omega
          have lr : (stV r).length = r.length := by unfold stV; simp
          have ap : (stV r).length < sizeLine := Nat.lt_of_le_of_lt (m := 1000) (by omega) (by decide)
          have ct : ∀ xs : List V, xs.length ≤ 5 → (stV r).length + xs.length ≤ sizeLine := fun xs h => Nat.le_trans (m := 1000) (by omega) (by decide)
          by_cases ts : t = .saying
          · subst ts
            simp only [Wt.str]
            wtm_at "rs"
            rename_i p2 hp2
            refine rd_inLw (ws := ["square", "form"]) (SqL.of upd_same) ?_
            refine ⟨_, rfl, same_new hp2, ?_⟩
            clear hp2
            by_cases c1 : w = "square"
            · subst c1
              rw [if_pos (by decide +kernel)]
              wtm_at "rs"
              exact ⟨D, .square :: r, o, m, _, _, _, rfl, by rw [eS]; exact B.put (u := .lst (stV r ++ [.str "square"])), go rfl, m1, m4, by omega, by omega, by rw [List.length_cons]; omega⟩
            by_cases c2 : w = "form"
            · subst c2
              rw [if_pos (by decide +kernel)]
              wtm_at "rs"
              exact ⟨D, .form :: r, o, m, _, _, _, rfl, by rw [eS]; exact B.put (u := .lst (stV r ++ [.str "form"])), go rfl, m1, m4, by omega, by omega, by rw [List.length_cons]; omega⟩
            rw [if_neg (by rw [decide_eq_true_iff]; simp [c1, c2])]
            wtm_at "rs"
            by_cases c3 : w = "rest"
            · subst c3
              refine rd_eqT rfl ?_
              wtm_at "rs"
              rename_i p3 hp3
              have B := B.newL (o := .lst [.str "rest", .str "is", .str "modulus"]) hp3
              refine rd_cat (B.mAt (a := D) (by wtm_at "mem")) upd_same (ct _ (by decide)) fun p4 hp4 => ?_
              have B := (B.new (o := .lst (stV r ++ [.str "rest", .str "is", .str "modulus"])) hp4).drop1.sub (L' := []) (by wtm_at "vsub") (by wtm_at "vsub")
              wtm_at "rs"
              exact ⟨p4, .modul :: .is :: .rest :: r, o, m, _, _, _, rfl, by simp only [eS, List.append_assoc]; exact B, go rfl, m1, m4, by omega, by omega, by simp only [List.length_cons]; omega⟩
            refine rd_eqF c3 ?_
            wtm_at "rs"
            by_cases c4 : w = "roots"
            · subst c4
              refine rd_eqT rfl ?_
              wtm_at "rs"
              rename_i p3 hp3
              have B := B.newL (o := .lst [.str "few", .str "are", .str "twenty", .str "twenty", .str "first"]) hp3
              refine rd_cat (B.mAt (a := D) (by wtm_at "mem")) upd_same (ct _ (by decide)) fun p4 hp4 => ?_
              have B := (B.new (o := .lst (stV r ++ [.str "few", .str "are", .str "twenty", .str "twenty", .str "first"])) hp4).drop1.sub (L' := []) (by wtm_at "vsub") (by wtm_at "vsub")
              wtm_at "rs"
              exact ⟨p4, .first :: .twenty :: .twenty :: .are :: .few :: r, o, m, _, _, _, rfl, by simp only [eS, List.append_assoc]; exact B, go rfl, m1, m4, by omega, by omega, by simp only [List.length_cons]; omega⟩
            refine rd_eqF c4 ?_
            wtm_at "rs"
            by_cases c5 : w = "not"
            · subst c5
              refine rd_eqT rfl ?_
              wtm_at "rs"
              exact ⟨D, .saying :: r, o, m, _, _, _, rfl, by rw [eS]; exact B.put (u := .lst (stV r ++ [.str "saying"])), go rfl, m1, m4, by omega, by omega, by rw [List.length_cons]; omega⟩
            refine rd_eqF c5 ?_
            wtm_at "rs"
            by_cases c6 : w = "(" ∧ o < 8
            · have cc := c6
              obtain ⟨c6, c7⟩ := c6
              refine rd_eqT c6 ?_
              wtm_at "rs"
              rename_i p3 hp3
              have B := B.newL (o := .lst [.str ")", .str "saying", .str "joint", .str "saying"]) hp3
              refine rd_cat (B.mAt (a := D) (by wtm_at "mem")) upd_same (ct _ (by decide)) fun p4 hp4 => ?_
              have B := (B.new (o := .lst (stV r ++ [.str ")", .str "saying", .str "joint", .str "saying"])) hp4).drop1.sub (L' := []) (by wtm_at "vsub") (by wtm_at "vsub")
              wtm_at "rs"
              exact ⟨p4, .saying :: .joint :: .saying :: .close :: r, o + 1, m, _, _, _, rfl, by simp only [eS, List.append_assoc]; exact B, go (by unfold stepM; simp only []; rw [if_neg c1, if_neg c2, if_neg c3, if_neg c4, if_neg c5, if_pos cc]), m1, m4, by omega, by omega, by simp only [List.length_cons]; omega⟩
            have bd := bad (by unfold stepM; simp only []; rw [if_neg c1, if_neg c2, if_neg c3, if_neg c4, if_neg c5, if_neg c6])
            by_cases c7 : w = "("
            · refine rd_eqT c7 ?_
              wtm_at "rs"
              rw [if_neg (by rw [decide_eq_true_iff]; exact fun z => c6 ⟨c7, z⟩)]
              wtm_at "rs"
              refine rd_eqF (by decide +kernel) ?_
              wtm_at "rs"
              rename_i p3 hp3
              refine rd_inLw (ws := [")", "is", "are"]) (SqL.of upd_same) ?_
              refine ⟨_, rfl, same_new hp3, ?_⟩
              rw [if_neg (by decide +kernel)]
              wtm_at "rs"
              rename_i p4 hp4
              refine rd_inLw (ws := ["square", "form", "modulus", "first", "twenty", "few", "rest"]) (SqL.of upd_same) ?_
              refine ⟨_, rfl, same_new hp4, ?_⟩
              rw [if_neg (by decide +kernel)]
              wtm_at "rs"
              exact bd _ B.same
            · refine rd_eqF c7 ?_
              wtm_at "rs"
              refine rd_eqF (by decide +kernel) ?_
              wtm_at "rs"
              rename_i p3 hp3
              refine rd_inLw (ws := [")", "is", "are"]) (SqL.of upd_same) ?_
              refine ⟨_, rfl, same_new hp3, ?_⟩
              rw [if_neg (by decide +kernel)]
              wtm_at "rs"
              rename_i p4 hp4
              refine rd_inLw (ws := ["square", "form", "modulus", "first", "twenty", "few", "rest"]) (SqL.of upd_same) ?_
              refine ⟨_, rfl, same_new hp4, ?_⟩
              rw [if_neg (by decide +kernel)]
              wtm_at "rs"
              exact bd _ B.same
          · have nst : ¬ t.str = "saying" := by cases t <;> first | exact absurd rfl ts | decide +kernel
            have step : stepM (t :: r) o m w = if t.fits m w then some (r, if t = .close then o - 1 else o, if t = .modul then iVal w else m) else none := by
              cases t <;> first | exact absurd rfl ts | rfl
            wtm_at "rs"
            repeat (refine rd_eqF nst ?_; wtm_at "rs")
            by_cases tj : t = .joint
            · subst tj
              refine rd_eqT (show Wt.joint.str = ("joint" : Str) from rfl) ?_
              wtm_at "rs"
              rename_i p3 hp3
              refine rd_inLw (ws := ["and", "or"]) (SqL.of upd_same) ?_
              refine ⟨_, rfl, same_new hp3, ?_⟩
              clear hp3
              by_cases ft : w = "and" ∨ w = "or"
              · rw [if_pos (by rw [decide_eq_true_iff]; simpa using ft)]
                wtm_at "rs"
                exact ⟨D, r, o + 0, m, _, _, _, rfl, B, go (by rw [step, if_pos (show Wt.joint.fits m w from ft)]; simp), m1, m4, by omega, by omega, by omega⟩
              have bd := bad (by rw [step, if_neg (show ¬ Wt.joint.fits m w from ft)])
              rw [if_neg (by rw [decide_eq_true_iff]; simpa using ft)]
              wtm_at "rs"
              rename_i p3 hp3
              refine rd_inLw (ws := [")", "is", "are"]) (SqL.of upd_same) ?_
              refine ⟨_, rfl, same_new hp3, ?_⟩
              clear hp3
              rw [if_neg (by decide +kernel)]
              wtm_at "rs"
              rename_i p4 hp4
              refine rd_inLw (ws := ["square", "form", "modulus", "first", "twenty", "few", "rest"]) (SqL.of upd_same) ?_
              refine ⟨_, rfl, same_new hp4, ?_⟩
              rw [if_neg (by decide +kernel)]
              wtm_at "rs"
              exact bd _ B.same
            have ntj : ¬ t.str = "joint" := by cases t <;> first | exact absurd rfl tj | decide +kernel
            refine rd_eqF ntj ?_
            wtm_at "rs"
            rename_i p3 hp3
            refine rd_inLw (ws := [")", "is", "are"]) (SqL.of upd_same) ?_
            refine ⟨_, rfl, same_new hp3, ?_⟩
            clear hp3
            by_cases tw : t = .close ∨ t = .is ∨ t = .are
            · rw [if_pos (by rcases tw with z | z | z <;> subst z <;> decide +kernel)]
              have fw : t.fits m w ↔ w = t.str := by rcases tw with z | z | z <;> subst z <;> exact Iff.rfl
              have tm : t ≠ .modul := by rcases tw with z | z | z <;> subst z <;> decide
              wtm_at "rs"
              by_cases e : w = t.str
              · rw [if_pos (decide_eq_true e)]
                wtm_at "rs"
                have ec : (if decide (t.str = (")" : Str)) = true then (1 : Int) else 0) = if t = .close then 1 else 0 := by rcases tw with z | z | z <;> subst z <;> decide +kernel
                rw [show ((")" : Str)) = Str.ofString ")" from rfl] at ec
                rw [ec]
                refine ⟨D, r, o - (if t = .close then 1 else 0), m, _, _, _, rfl, B, go ?_, m1, m4, by split <;> omega, by split <;> omega, by omega⟩
                rw [step, if_pos (fw.mpr e), if_neg tm]
                by_cases z : t = .close
                · rw [if_pos z, if_pos z]
                · rw [if_neg z, if_neg z]; simp
              have bd := bad (by rw [step, if_neg (fun z => e (fw.mp z))])
              rw [if_neg (by rw [decide_eq_true_iff]; exact e)]
              wtm_at "rs"
              rename_i p4 hp4
              refine rd_inLw (ws := ["square", "form", "modulus", "first", "twenty", "few", "rest"]) (SqL.of upd_same) ?_
              refine ⟨_, rfl, same_new hp4, ?_⟩
              rw [if_neg (by rcases tw with z | z | z <;> subst z <;> decide +kernel)]
              wtm_at "rs"
              exact bd _ B.same
            have tn : t.isNum := by
              cases t <;> first | trivial | exact absurd rfl ts | exact absurd rfl tj | exact absurd (.inl rfl) tw | exact absurd (.inr (.inl rfl)) tw | exact absurd (.inr (.inr rfl)) tw
            rw [if_neg (by cases t <;> first | decide +kernel | exact tn.elim)]
            wtm_at "rs"
            rename_i p4 hp4
            refine rd_inLw (ws := ["square", "form", "modulus", "first", "twenty", "few", "rest"]) (SqL.of upd_same) ?_
            refine ⟨_, rfl, same_new hp4, ?_⟩
            clear hp4
            rw [if_pos (by cases t <;> first | decide +kernel | exact tn.elim)]
            wtm_at "rs"
            refine use_LFits tn wl (by omega) (by omega) B.nt ?_
            refine ⟨_, rfl, ?_⟩
            have tc : t ≠ .close := fun z => tw (.inl z)
            by_cases ft : t.fits m w
            · rw [if_pos (decide_eq_true ft)]
              wtm_at "rs"
              rw [if_pos ft, if_neg tc] at step
              by_cases tm : t = .modul
              · subst tm
                refine rd_eqT (show Wt.modul.str = ("modulus" : Str) from rfl) ?_
                wtm_at "rs"
                replace ft : numW w 1 400 := ft
                obtain ⟨iw, il⟩ := isIW_val ft.1
                refine rd_intS iw (by omega) ?_
                exact ⟨D, r, o, iVal w, _, _, _, rfl, B, go step, ft.2.1, ft.2.2, by omega, by omega, by omega⟩
              have ntm : ¬ t.str = "modulus" := by cases t <;> first | exact absurd rfl tm | decide +kernel
              refine rd_eqF ntm ?_
              wtm_at "rs"
              rw [if_neg tm] at step
              exact ⟨D, r, o, m, _, _, _, rfl, B, go step, m1, m4, by omega, by omega, by omega⟩
            · rw [if_neg (by rw [decide_eq_true_iff]; exact ft)]
              wtm_at "rs"
              exact bad (by rw [step, if_neg ft]) _ B.same
      · rintro σ G ⟨D, st, o, m, v4, v5, v6, rfl, B, rn, m1, m4, o1, o2, sl⟩
        wtm_at "rs"
        rename_i p1 hp1
        have B2 := B.newL (o := .lst []) hp1
        refine rd_neNilS (ws := st.reverse.map Wt.str) (SqL.of (B2.mAt (a := D) (o := .lst (stV st)) (by wtm_at "mem"))) (SqL.of upd_same) ?_
        refine ⟨_, rfl, ?_⟩
        rw [List.length_map, show ((ws.length : Int)).toNat = ws.length by omega, List.drop_length] at rn
        have rn2 : (if st = [] then none else some ws.length) = faultM ws := rn
        cases st with
        | nil =>
          rw [if_neg (by decide)]
          wtm_at "rs"
          have q := q _ B2.same
          rw [show faultN ws = -1 by unfold faultN; rw [← rn2]; rfl] at q
          exact q
        | cons t r =>
          rw [if_pos (by simp)]
          have ha := B2.oAt ha
          wtm_at "rs"
          have q := q _ B2.same
          rw [show faultN ws = (ws.length : Int) by unfold faultN; rw [← rn2]; rfl] at q
          simpa using q
theorem ok_law_fault (T : Txt K mg Ad) : Def P w K mg base 3 "_law_fault" ["_law_words_here"] spLFault :=
  (ok_law_fault0 T).forget.imp fun vs H Q E ⟨a, ws, e, h, l, ww, nt, q⟩ => ⟨nt, a, ws, e, h, l, ww, nt, fun G s => ⟨s, q⟩⟩
/-! ### _law_cell -/
theorem getD_at {ns : List Int} {i : Nat} (h : i < ns.length) : atI (ns.map V.int) (i : Int) = some (.int (ns.getD i 0)) := by
  refine atI_nat ?_
  rw [List.getElem?_map, List.getElem?_eq_getElem h, List.getD_eq_getElem?_getD, List.getElem?_eq_getElem h]
  rfl
theorem getD_out {ns : List Int} {i : Nat} (h : ¬ i < ns.length) : ns.getD i 0 = 0 := by
  rw [List.getD_eq_getElem?_getD, List.getElem?_eq_none (by omega)]
  rfl
def spCell (K : PySem.W.Frag) : Sp := fun vs H Q _ => ∃ (a : Addr) (ns : List Int) (i : Nat), vs = [.ref a, .int i] ∧ SqL K H a (ns.map V.int) ∧ Q (.int (ns.getD i 0)) H
theorem ok_law_cell (T : Txt K mg Ad) : Def P w K mg base 1 "_law_cell" ["_law_script", "_law_k"] (spCell K) := by
  refine T.d_law_cell.ok sc_law_cell (fun vs H Q E h => ?_) (fun f cdv A outer s H vs Q E hr h => ?_)
  · obtain ⟨a, ns, i, rfl, _⟩ := h
    rfl
  · obtain ⟨a, ns, i, rfl, hS, q⟩ := h
    refine ⟨_, (pss_cons (ps_if (pt_cmpR op_lt (pv 1) (pe_callB c_len (by rfl) T.b_len PySem.boot_len (pa_cons (pv 0) pa_nil)) (nomark _)) (pss_one (ps_ret (pe_ix ix_list (pv 0) (pv 1) (fun _ _ => rfl)))) pss_nil)
      (pss_one (ps_ret pe_int))), ?_⟩
    try dsimp only [cxOf]
    wtm_at "rs"
    wtm_at "i"
    · rename_i h
      rw [List.length_map] at h
      wtm_at "rs"
      exact rd_ixL hS (getD_at (by omega)) q
    · rename_i h
      rw [List.length_map] at h
      rw [getD_out (by omega)] at q
      wtm_at "rs"
      exact q
theorem use_cell {a : Addr} {ns : List Int} {i : Nat} {H : Hp} {Q : VK} {E : XK} {z : Int} (hS : SqL K H a (ns.map V.int)) (hz : z = (i : Int)) (q : Q (.int (ns.getD i 0)) H) : spCell K [.ref a, .int z] H Q E :=
  ⟨a, ns, i, by rw [hz], hS, q⟩
local macro_rules | `(tactic| wtm_at "s") => `(tactic| ((with_reducible refine use_cell (ns := ?ns) (i := ?i) ?h1 ?h2 ?_); (case h1 => wtm_at "q"); (case h2 => first | rfl | exact (Int.zero_add _) | exact (Int.natCast_succ _).symm)))
/-! ### _law_pool -/
def spPool : Sp := fun vs H Q _ => ∃ n : Int, vs = [.int n] ∧ ∀ p, H p = none → Q (.ref p) (upd H p (.lst [.int n, .int 0, .bl (decide (10 ^ 18 ≤ n))]))
theorem ok_law_pool (T : Txt K mg Ad) : Def P w K mg base 1 "_law_pool" ["_law_cell_here"] spPool := by
  refine T.d_law_pool.ok sc_law_pool (fun vs H Q E h => ?_) (fun f cdv A outer s H vs Q E hr h => ?_)
  · obtain ⟨n, rfl, _⟩ := h
    rfl
  · obtain ⟨n, rfl, q⟩ := h
    refine ⟨_, (pss_one (ps_ret (pe_lst (pa_cons (pv 0) (pa_cons pe_int (pa_cons (pe_cmpR op_ge (pv 0) (pe_op (op_powN 18) pe_int pe_int) (nomark _)) pa_nil)))))), ?_⟩
    try dsimp only [cxOf]
    wtm_at "rs"
    exact q _ (by assumption)
theorem use_pool {n : Int} {H : Hp} {Q : VK} {E : XK} (q : ∀ p, H p = none → Q (.ref p) (upd H p (.lst [.int n, .int 0, .bl (decide (10 ^ 18 ≤ n))]))) : spPool [.int n] H Q E := ⟨n, rfl, q⟩
local macro_rules | `(tactic| wtm_at "s") => `(tactic| ((with_reducible refine use_pool ?_); intro p hp))
/-! ### law -/
/-- words of a saying with brackets around it -/
structure Wd6 (ws : List Str) (n : Nat) : Prop where
  ne : ws ≠ []
  w : ∀ w ∈ ws, 32 ∉ w.cps.toList ∧ w.length ≤ 6
  n : ws.length ≤ n
theorem Wd6.say {s : Say} {n : Nat} (g : s.good) (h : s.words.length ≤ n) : Wd6 s.words n := ⟨s.words_ne, s.words_ok g, h⟩
theorem Wd6.mono {ws : List Str} {n m : Nat} (h : Wd6 ws n) (l : n ≤ m) : Wd6 ws m := ⟨h.ne, h.w, Nat.le_trans h.n l⟩
theorem lits62 : ∀ w ∈ (["(", "or", "square", ")"] : List Str), 32 ∉ w.cps.toList ∧ w.length ≤ 6 := by decide +kernel
theorem Wd6.put {ws : List Str} {n : Nat} {k : Int} (h : Wd6 ws n) (k0 : 0 ≤ k) (k1 : k ≤ 10) : Wd6 ([("(" : Str)] ++ ws ++ [("or" : Str), ("square" : Str), txI k] ++ [(")" : Str)]) (n + 5) := by
  refine ⟨by simp, fun w hw => ?_, by simp; have := h.n; omega⟩
  have tk := txI_word (n := k) (by omega) (by omega)
  simp only [List.mem_append, List.mem_cons, List.not_mem_nil, or_false] at hw
  rcases hw with ((z | z) | z | z | z) | z
  · exact lits62 w (by rw [z]; simp)
  · exact h.w w z
  · exact lits62 w (by rw [z]; simp)
  · exact lits62 w (by rw [z]; simp)
  · rw [z]; exact ⟨tk.2.2.1, by have := tk.2.2.2; omega⟩
  · exact lits62 w (by rw [z]; simp)
theorem Wd6.b {ws : List Str} {n : Nat} (h : Wd6 ws n) : WdB ws n (6 * n) := by
  refine ⟨fun w hw => ⟨(h.w w hw).1, by have := (h.w w hw).2; omega⟩, h.n, ?_⟩
  have : ∀ l : List Str, (∀ w ∈ l, w.length ≤ 6) → wsum l ≤ 6 * l.length := fun l => by
    induction l with
    | nil => intro _; exact Nat.le_refl _
    | cons w l ih =>
      intro h
      have := h w List.mem_cons_self
      have := ih fun x hx => h x (List.mem_cons_of_mem _ hx)
      rw [wsum_cons, List.length_cons]
      omega
  have := this ws fun w hw => (h.w w hw).2
  have := h.n
  omega
theorem WdB.wd {ws : List Str} {n z : Nat} (h : WdB ws n z) (ne : ws ≠ []) (hn : n < 200) (hz : z ≤ 90000) : WdOk ws := ⟨ne, fun w hw => (h.w w hw).1, Nat.lt_of_le_of_lt h.n hn, Nat.le_trans h.z hz⟩
theorem WdB.lw {ws : List Str} {n z : Nat} (h : WdB ws n z) : ∀ w ∈ ws, w.length ≤ 100000 := fun w hw => by have := (h.w w hw).2; omega
theorem told_fault {ws : List Str} (h : ws.length < 200) : toldN ws = faultN ws := by
  unfold toldN faultN
  rw [fault_reads h]
  cases rdAll ws <;> rfl
theorem ok_law {f : Addr} {fd : FuncData} (F : Fun K "law" "law" s_law f fd) (T : Txt K mg Ad) : FnOk P w K mg base (L2.CX P w) 211 f fd ["_law_script"] (spLaw K) := by
  refine F.okX sc_law (fun vs H Q E h => ?_) (fun cdv A outer s H vs Q E hr h => ?_)
  · obtain ⟨a, ns, rfl, _⟩ := h
    rfl
  · obtain ⟨a, ns, rfl, hS, hlen, nt, kq⟩ := h
    refine ⟨_, (pss_cons (ps_set (i := 1) sc_law.nd rfl (Or.inl rfl) (pe_d (ok_law_pool T) (hr.mono (by decide)) (passes_call (takes_of rfl rfl rfl rfl) (fun _ _ _ _ h => h)) (pa_cons (pe_d (ok_law_cell T) (hr.mono (by decide)) (passes_call (takes_of rfl rfl rfl rfl) (fun _ _ _ _ h => h)) (pa_cons (pv 0) (pa_cons pe_int pa_nil))) pa_nil)))
      (pss_cons (ps_set (i := 2) sc_law.nd rfl (Or.inl rfl) (pe_d (ok_law_words T) (hr.mono (by decide)) (passes_call (takes_of rfl rfl rfl rfl) (fun _ _ _ _ h => h)) (pa_cons (pe_d (ok_law_tree T) (hr.mono (by decide)) (passes_call (takes_of rfl rfl rfl rfl) (fun _ _ _ _ h => h)) (pa_cons (pv 1) (pa_cons (pe_op op_add pe_int (pe_d (ok_law_take T) (hr.mono (by decide)) (passes_call (takes_of rfl rfl rfl rfl) (fun _ _ _ _ h => h)) (pa_cons (pv 1) (pa_cons pe_int pa_nil)))) (pa_cons pe_bl pa_nil)))) pa_nil)))
      (pss_cons (ps_for (passes_of rfl) rfl (pi_range1 (by rfl) T.b_range (pa_cons (pe_d (ok_law_take T) (hr.mono (by decide)) (passes_call (takes_of rfl rfl rfl rfl) (fun _ _ _ _ h => h)) (pa_cons (pv 1) (pa_cons pe_int pa_nil))) pa_nil)) (pg_name (i := 3) sc_law.nd rfl (Or.inl rfl)) (pss_one (ps_set (i := 2) sc_law.nd rfl (Or.inl rfl) (pe_op op_cat (pe_op op_cat (pe_op op_cat (pe_lst (pa_cons pe_str pa_nil)) (pv 2)) (pe_lst (pa_cons pe_str (pa_cons pe_str (pa_cons (pe_callTy call_strI (by rfl) T.b_str (by decide +kernel) (pa_cons (pv 3) pa_nil)) pa_nil))))) (pe_lst (pa_cons pe_str pa_nil))))))
      (C8.pss_cut (ps_if (pt_cmpR op_gt (pe_d (ok_law_take T) (hr.mono (by decide)) (passes_call (takes_of rfl rfl rfl rfl) (fun _ _ _ _ h => h)) (pa_cons (pv 1) (pa_cons pe_int pa_nil))) pe_int (nomark _)) (pss_one (ps_set (i := 2) sc_law.nd rfl (Or.inl rfl) (pe_d (ok_law_words T) (hr.mono (by decide)) (passes_call (takes_of rfl rfl rfl rfl) (fun _ _ _ _ h => h)) (pa_cons (pe_d (ok_law_tree T) (hr.mono (by decide)) (passes_call (takes_of rfl rfl rfl rfl) (fun _ _ _ _ h => h)) (pa_cons (pv 1) (pa_cons (pe_op op_add pe_int (pe_d (ok_law_take T) (hr.mono (by decide)) (passes_call (takes_of rfl rfl rfl rfl) (fun _ _ _ _ h => h)) (pa_cons (pv 1) (pa_cons pe_int pa_nil)))) (pa_cons pe_bl pa_nil)))) pa_nil)))) pss_nil)
      (pss_cons (ps_if (pt_cmpR op_ne (pe_d (ok_law_told T) (hr.mono (by decide)) (passes_call (takes_of rfl rfl rfl rfl) (fun _ _ _ _ h => h)) (pa_cons (pv 2) pa_nil)) (pe_d (ok_law_fault T) (hr.mono (by decide)) (passes_call (takes_of rfl rfl rfl rfl) (fun _ _ _ _ h => h)) (pa_cons (pv 2) pa_nil)) (nomark _)) (pss_one (ps_ret pe_bl)) pss_nil)
      (pss_cons (ps_set (i := 1) sc_law.nd rfl (Or.inl rfl) (pe_d (ok_law_pool T) (hr.mono (by decide)) (passes_call (takes_of rfl rfl rfl rfl) (fun _ _ _ _ h => h)) (pa_cons (pe_d (ok_law_cell T) (hr.mono (by decide)) (passes_call (takes_of rfl rfl rfl rfl) (fun _ _ _ _ h => h)) (pa_cons (pv 0) (pa_cons pe_int pa_nil))) pa_nil)))
      (pss_cons (ps_for (passes_of rfl) rfl (pi_range1 (by rfl) T.b_range (pa_cons (pe_op op_add pe_int (pe_d (ok_law_take T) (hr.mono (by decide)) (passes_call (takes_of rfl rfl rfl rfl) (fun _ _ _ _ h => h)) (pa_cons (pv 1) (pa_cons pe_int pa_nil)))) pa_nil)) (pg_name (i := 4) sc_law.nd rfl (Or.inl rfl)) (pss_cons (ps_set (i := 2) sc_law.nd rfl (Or.inl rfl) (pe_d (ok_law_changed T) (hr.mono (by decide)) (passes_call (takes_of rfl rfl rfl rfl) (fun _ _ _ _ h => h)) (pa_cons (pv 1) (pa_cons (pv 2) pa_nil))))
      (C8.pss_cut (ps_if (pt_cmpR (op_eqN (Nat.lt_of_succ_lt (hu_of hr))) (pv 2) (pe_lst pa_nil) (nomark _)) (pss_one (ps_set (i := 2) sc_law.nd rfl (Or.inl rfl) (pe_lst (pa_cons pe_str pa_nil)))) pss_nil)
      (pss_one (ps_if (PW.pt (pw_or (pt_cmpR op_ne (pe_d (ok_law_told T) (hr.mono (by decide)) (passes_call (takes_of rfl rfl rfl rfl) (fun _ _ _ _ h => h)) (pa_cons (pv 2) pa_nil)) (pe_d (ok_law_fault T) (hr.mono (by decide)) (passes_call (takes_of rfl rfl rfl rfl) (fun _ _ _ _ h => h)) (pa_cons (pv 2) pa_nil)) (nomark _)) (pw_or1 (pt_cmpR op_ne (pe_d (ok_law_told T) (hr.mono (by decide)) (passes_call (takes_of rfl rfl rfl rfl) (fun _ _ _ _ h => h)) (pa_cons (pv 2) pa_nil)) (pe_d (ok_law_fault T) (hr.mono (by decide)) (passes_call (takes_of rfl rfl rfl rfl) (fun _ _ _ _ h => h)) (pa_cons (pv 2) pa_nil)) (nomark _))))) (pss_one (ps_ret pe_bl)) pss_nil)))))
      (pss_one (ps_ret pe_bl))))))))), ?_⟩
    try dsimp only [cxOf]
    wtm_at "rs"
    rename_i p hp c1 r r0 r1
    generalize decide (10 ^ 18 ≤ ns.getD 0 0) = b at *
    have B := ((Hv.start nt).new (o := .lst [.int (ns.getD 0 0), .int 0, .bl b]) hp).put (u := .lst [.int c1, .int (0 + 1), .bl b])
    clear hp
    refine B.gen fun G B => ?_
    obtain ⟨m, hm⟩ : ∃ m : Nat, 1 + r = (m : Int) := ⟨(1 + r).toNat, by omega⟩
    rw [hm]
    refine ⟨p, c1, 0 + 1, b, false, m, rfl, by omega, by omega, by omega, B.mAt (a := p) (by wtm_at "mem"), by omega, by omega, B.nt, fun v s c2 k2 G2 bG nG hp2 a1 a2 tl g z => ?_⟩
    have B := B.but bG nG hp2
    clear bG nG hp2
    have w1 := z.w
    have d1 := z.d
    wtm_at "rs"
    refine use_lwords tl g (by omega) (by omega) B.nt fun W G3 hW s3 n3 hW3 => ?_
    have B := B.gotM s3 n3 hW hW3
    have o6 : Wd6 s.words 50 := .say g (by omega)
    generalize s.words = ws at *
    clear s3 n3 hW hW3 tl d1 w1 g z
    wtm_at "rs"
    rename_i c3 r3 r30 r31
    have B := B.put1 (u := .lst [.int c3, .int (k2 + 1), .bl b])
    refine B.gen fun G B => ?_
    refine rd_forR (fun i σ G => ∃ (W : Addr) (ws : List Str) (v3 : Option V), σ = [some (.ref a), some (.ref p), some (.ref W), v3, none] ∧ Hv noX H [(W, .lst (ws.map V.str)), (p, .lst [.int c3, .int (k2 + 1), .bl b])] [] [] G ∧ Wd6 ws (50 + 5 * i)) ⟨W, ws, none, rfl, B, o6⟩ ?_ ?_
    · clear B
      rintro i σ G hi ⟨W, ws, v3, rfl, B, o6⟩
      have := o6.n
      have lw : (ws.map V.str).length ≤ 100 := by rw [List.length_map]; omega
      have bk : Bd 10 (0 + (i : Int)) := Bd.of (by omega) (by omega)
      wtm_at "rs"
      rename_i p1 hp1
      have B := B.newL (o := .lst [.str "("]) hp1
      clear hp1
      refine B.gen fun G B => ?_
      refine rd_cat (B.lAt (a := p1) (o := .lst [.str "("]) (by wtm_at "mem")) (B.mAt (a := W) (by wtm_at "mem")) (room2 (n := 1) (m := 100) (Nat.le_refl 1) lw (by decide)) fun p2 hp2 => ?_
      have B := B.newL (o := .lst ([.str "("] ++ ws.map V.str)) hp2
      clear hp2
      refine B.gen fun G B => ?_
      wtm_at "rs"
      rename_i p3 hp3
      have B := B.newL (o := .lst [.str "or", .str "square", .str (txI (0 + (i : Int)))]) hp3
      clear hp3
      refine B.gen fun G B => ?_
      refine rd_cat (B.lAt (a := p2) (by wtm_at "mem")) (B.lAt (a := p3) (o := .lst [.str "or", .str "square", .str (txI (0 + (i : Int)))]) (by wtm_at "mem")) (room2 (n := 101) (m := 3) (by simp only [List.length_append, List.length_map, List.length_cons, List.length_nil] at lw ⊢; omega) (Nat.le_refl 3) (by decide)) fun p4 hp4 => ?_
      have B := B.newL (o := .lst ([.str "("] ++ ws.map V.str ++ [.str "or", .str "square", .str (txI (0 + (i : Int)))])) hp4
      clear hp4
      refine B.gen fun G B => ?_
      wtm_at "rs"
      rename_i p5 hp5
      have B := B.newL (o := .lst [.str ")"]) hp5
      clear hp5
      refine B.gen fun G B => ?_
      refine rd_cat (B.lAt (a := p4) (by wtm_at "mem")) (B.lAt (a := p5) (o := .lst [.str ")"]) (by wtm_at "mem")) (room2 (n := 104) (m := 1) (by simp only [List.length_append, List.length_map, List.length_cons, List.length_nil] at lw ⊢; omega) (Nat.le_refl 1) (by decide)) fun p6 hp6 => ?_
      have B := B.drop.new (o := .lst ([.str "("] ++ ws.map V.str ++ [.str "or", .str "square", .str (txI (0 + (i : Int)))] ++ [.str ")"])) hp6
      wtm_at "rs"
      refine ⟨p6, _, _, rfl, ?_, o6.put (k := 0 + (i : Int)) (by omega) (by omega)⟩
      rw [show ([("(" : Str)] ++ ws ++ [("or" : Str), ("square" : Str), txI (0 + (i : Int))] ++ [(")" : Str)]).map V.str = [.str "("] ++ ws.map V.str ++ [.str "or", .str "square", .str (txI (0 + (i : Int)))] ++ [.str ")"] by simp]
      exact B.sub (by wtm_at "vsub") (by wtm_at "vsub")
    · clear B
      rintro σ G ⟨W, ws, v3, rfl, B, o6⟩
      replace o6 := o6.mono (m := 100) (by omega)
      wtm_at "rs"
      refine rd_cut (fun σ G => ∃ (W : Addr) (ws : List Str) (v3 : Option V) (c k : Int), σ = [some (.ref a), some (.ref p), some (.ref W), v3, none] ∧ Hv noX H [(W, .lst (ws.map V.str))] [(p, .lst [.int c, .int k, .bl b])] [] G ∧ Wd6 ws 100) ?_ ?_
      · wtm_at "rs"
        rename_i c4 r4 r40 r41
        replace B := B.put1 (u := .lst [.int c4, .int (k2 + 1 + 1), .bl b])
        refine B.gen fun G B => ?_
        by_cases e : 0 < r4
        · rw [if_pos (decide_eq_true e)]
          wtm_at "rs"
          rename_i c5 r5 r50 r51
          have B := B.put1 (u := .lst [.int c5, .int (k2 + 1 + 1 + 1), .bl b])
          refine B.gen fun G B => ?_
          obtain ⟨m, hm⟩ : ∃ m : Nat, 1 + r5 = (m : Int) := ⟨(1 + r5).toNat, by omega⟩
          rw [hm]
          refine ⟨p, c5, k2 + 1 + 1 + 1, b, false, m, rfl, by omega, by omega, by omega, B.mAt (a := p) (by wtm_at "mem"), by omega, by omega, B.nt, fun v s c6 k6 G2 bG nG hp2 a1 a2 tl g z => ?_⟩
          have B := B.drop.but bG nG hp2
          clear bG nG hp2
          have w1 := z.w
          have d1 := z.d
          wtm_at "rs"
          refine use_lwords tl g (by omega) (by omega) B.nt fun W2 G3 hW s3 n3 hW3 => ?_
          have B := (B.gotM s3 n3 hW hW3).swap.fix
          wtm_at "rs"
          exact ⟨W2, s.words, _, _, _, rfl, B, .say g (by omega)⟩
        · rw [if_neg (by rw [decide_eq_true_iff]; exact e)]
          wtm_at "rs"
          exact ⟨W, ws, _, _, _, rfl, B.swap.fix, o6⟩
      rintro σ G ⟨W, ws, v3, c, k, rfl, B, o6⟩
      replace B := B.sub (L' := []) (by wtm_at "vsub") (by wtm_at "vsub")
      have ok := o6.b
      have wd := ok.wd o6.ne (by omega) (by omega)
      have n1 := ok.n
      wtm_at "rs"
      refine use_LTold (B.mAt (a := W) (by wtm_at "mem")) wd B.nt ?_
      wtm_at "rs"
      refine use_LFault (B.mAt (a := W) (by wtm_at "mem")) (by omega) ok.lw B.nt ?_
      wtm_at "rs"
      refine rd_neF (told_fault (by omega)) ?_
      wtm_at "rs"
      rename_i p2 hp2 c2 r2 r20 r21
      generalize decide (10 ^ 18 ≤ ns.getD 1 0) = b2 at *
      have B := ((B.new (o := .lst [.int (ns.getD 1 0), .int 0, .bl b2]) hp2).put (u := .lst [.int c2, .int (0 + 1), .bl b2])).swap.fix
      clear hp2
      refine B.gen fun G B => ?_
      refine rd_forR (fun i σ G => ∃ (W : Addr) (ws : List Str) (c k : Int) (v3 v4 : Option V), σ = [some (.ref a), some (.ref p2), some (.ref W), v3, v4] ∧ Hv noX H [(p2, .lst [.int c, .int k, .bl b2])] [(W, .lst (ws.map V.str))] [] G ∧ WdB ws (100 + i) (600 + 5002 * i) ∧ ws ≠ [] ∧ 0 ≤ k ∧ k ≤ 1 + 3 * i) ⟨W, ws, c2, 0 + 1, _, _, rfl, B, ok, o6.ne, by decide, by decide⟩ ?_ ?_
      · clear B
        rintro i σ G hi ⟨W, ws, c, k, v3, v4, rfl, B, ok, ne, k0, k1⟩
        wtm_at "rs"
        refine ⟨p2, W, c, k, b2, ws, 100 + i, 600 + 5002 * i, rfl, B.mAt (a := p2) (by wtm_at "mem"), k0, by omega, B.lAt (a := W) (by wtm_at "mem"), (B.ml _ List.mem_cons_self _ List.mem_cons_self).symm, B.nt, ok, by omega, fun D G2 ws2 c' k' bG nG hp hD Dp hD2 ok2 k1' k2' => ?_⟩
        have B := ((B.but bG nG hp).sub (L' := []) (by wtm_at "vsub") (by wtm_at "vsub")).add hD2 (fun q hq => by rw [List.mem_singleton.mp hq]; exact Dp.symm)
        clear bG nG hp hD Dp hD2 ok ne
        wtm_at "rs"
        refine rd_cut (fun σ G => ∃ (W : Addr) (ws : List Str) (v3 v4 : Option V), σ = [some (.ref a), some (.ref p2), some (.ref W), v3, v4] ∧ Hv noX H [(p2, .lst [.int c', .int k', .bl b2])] [(W, .lst (ws.map V.str))] [] G ∧ WdB ws (100 + (i + 1)) (600 + 5002 * (i + 1)) ∧ ws ≠ []) ?_ ?_
        · wtm_at "rs"
          rename_i p5 hp5
          have B2 := B.newL (o := .lst []) hp5
          refine rd_eqNilS (SqL.of (B2.lAt (a := D) (by wtm_at "mem"))) (SqL.of upd_same) ?_
          refine ⟨_, rfl, ?_⟩
          clear hp5
          by_cases e : ws2 = []
          · rw [if_pos (decide_eq_true e)]
            wtm_at "rs"
            rename_i p6 hp6
            have B3 : Hv noX H [(p2, .lst [.int c', .int k', .bl b2])] [(p6, .lst [.str ""])] [] _ := (B2.newL (o := .lst [.str ""]) hp6).sub (by wtm_at "vsub") (by wtm_at "vsub")
            exact ⟨p6, [("" : Str)], _, _, rfl, B3, ⟨fun w hw => by rw [List.mem_singleton.mp hw]; unfold wOk; decide +kernel, by rw [List.length_singleton]; omega, by rw [show wsum [("" : Str)] = 0 by decide +kernel]; omega⟩, by simp⟩
          · rw [if_neg (by rw [decide_eq_true_iff]; exact e)]
            wtm_at "rs"
            exact ⟨D, ws2, _, _, rfl, B2.sub (by wtm_at "vsub") (by wtm_at "vsub"), ⟨ok2.w, by have := ok2.n; omega, by have := ok2.z; omega⟩, e⟩
        rintro σ G ⟨W, ws, v3, v4, rfl, B, ok, ne⟩
        have wd := ok.wd ne (by omega) (by omega)
        have n1 := ok.n
        wtm_at "rs"
        refine use_LTold (B.lAt (a := W) (by wtm_at "mem")) wd B.nt ?_
        wtm_at "rs"
        refine use_LFault (B.lAt (a := W) (by wtm_at "mem")) (by omega) ok.lw B.nt ?_
        wtm_at "rs"
        refine rd_neF (told_fault (by omega)) ?_
        wtm_at "rs"
        refine use_LTold (B.lAt (a := W) (by wtm_at "mem")) wd B.nt ?_
        wtm_at "rs"
        refine use_LFault (B.lAt (a := W) (by wtm_at "mem")) (by omega) ok.lw B.nt ?_
        wtm_at "rs"
        refine rd_neF (told_fault (by omega)) ?_
        wtm_at "rs"
        exact ⟨W, ws, c', k', _, _, rfl, B, ok, ne, by omega, by omega⟩
      · clear B
        rintro σ G ⟨W, ws, c, k, v3, v4, rfl, B, ok, ne, k0, k1⟩
        wtm_at "rs"
        exact kq _
end
/-! ## what the top has left, and the end -/
theorem all_mk {P : Program} {w : World} {K : PySem.W.Frag} {h : Heap} {mg : Str → Option Value} {fa : Addr} (X : K.In h) (G : h.Ns mainGlobals mg) (hfa : mg "law" = some (.ref fa))
    {tk_MOST_OPEN : Tok}
    {CO_Reader : Addr}
    {CO_Saying : Addr}
    {f0 : Addr} {od0 an0 : Option Addr} {sl0 : Array (Option Value)} {oc0 kV0 dc0 pm0 cd0 ct0 : Value}
    {f1 : Addr} {od1 an1 : Option Addr} {sl1 : Array (Option Value)} {oc1 kV1 dc1 pm1 cd1 ct1 : Value}
    {f2 : Addr} {od2 an2 : Option Addr} {sl2 : Array (Option Value)} {oc2 kV2 dc2 pm2 cd2 ct2 : Value}
    {f3 : Addr} {od3 an3 : Option Addr} {sl3 : Array (Option Value)} {oc3 kV3 dc3 pm3 cd3 ct3 : Value}
    {f4 : Addr} {od4 an4 : Option Addr} {sl4 : Array (Option Value)} {oc4 kV4 dc4 pm4 cd4 ct4 : Value}
    {f5 : Addr} {od5 an5 : Option Addr} {sl5 : Array (Option Value)} {oc5 kV5 dc5 pm5 cd5 ct5 : Value}
    {f6 : Addr} {od6 an6 : Option Addr} {sl6 : Array (Option Value)} {oc6 kV6 dc6 pm6 cd6 ct6 : Value}
    {f7 : Addr} {od7 an7 : Option Addr} {sl7 : Array (Option Value)} {oc7 kV7 dc7 pm7 cd7 ct7 : Value}
    {f8 : Addr} {od8 an8 : Option Addr} {sl8 : Array (Option Value)} {oc8 kV8 dc8 pm8 cd8 ct8 : Value}
    {f9 : Addr} {od9 an9 : Option Addr} {sl9 : Array (Option Value)} {oc9 kV9 dc9 pm9 cd9 ct9 : Value}
    {f10 : Addr} {od10 an10 : Option Addr} {sl10 : Array (Option Value)} {oc10 kV10 dc10 pm10 cd10 ct10 : Value}
    {f11 : Addr} {od11 an11 : Option Addr} {sl11 : Array (Option Value)} {oc11 kV11 dc11 pm11 cd11 ct11 : Value}
    {f12 : Addr} {od12 an12 : Option Addr} {sl12 : Array (Option Value)} {oc12 kV12 dc12 pm12 cd12 ct12 : Value}
    {f13 : Addr} {od13 an13 : Option Addr} {sl13 : Array (Option Value)} {oc13 kV13 dc13 pm13 cd13 ct13 : Value}
    {f14 : Addr} {od14 an14 : Option Addr} {sl14 : Array (Option Value)} {oc14 kV14 dc14 pm14 cd14 ct14 : Value}
    {f15 : Addr} {od15 an15 : Option Addr} {sl15 : Array (Option Value)} {oc15 kV15 dc15 pm15 cd15 ct15 : Value}
    {f16 : Addr} {od16 an16 : Option Addr} {sl16 : Array (Option Value)} {oc16 kV16 dc16 pm16 cd16 ct16 : Value}
    {f17 : Addr} {od17 an17 : Option Addr} {sl17 : Array (Option Value)} {oc17 kV17 dc17 pm17 cd17 ct17 : Value}
    {f18 : Addr} {od18 an18 : Option Addr} {sl18 : Array (Option Value)} {oc18 kV18 dc18 pm18 cd18 ct18 : Value}
    {f19 : Addr} {od19 an19 : Option Addr} {sl19 : Array (Option Value)} {oc19 kV19 dc19 pm19 cd19 ct19 : Value}
    {f20 : Addr} {od20 an20 : Option Addr} {sl20 : Array (Option Value)} {oc20 kV20 dc20 pm20 cd20 ct20 : Value}
    {f21 : Addr} {od21 an21 : Option Addr} {sl21 : Array (Option Value)} {oc21 kV21 dc21 pm21 cd21 ct21 : Value}
    {f22 : Addr} {od22 an22 : Option Addr} {sl22 : Array (Option Value)} {oc22 kV22 dc22 pm22 cd22 ct22 : Value}
    {f23 : Addr} {od23 an23 : Option Addr} {sl23 : Array (Option Value)} {oc23 kV23 dc23 pm23 cd23 ct23 : Value}
    {f24 : Addr} {od24 an24 : Option Addr} {sl24 : Array (Option Value)} {oc24 kV24 dc24 pm24 cd24 ct24 : Value}
    {f25 : Addr} {od25 an25 : Option Addr} {sl25 : Array (Option Value)} {oc25 kV25 dc25 pm25 cd25 ct25 : Value}
    {CB : Addr}
    {C0 g0 N0 : Addr} {nm0 qq0 : Str} {bs0 bm0 : List Value} {sn0 : List Str} {sub0 : List Value} {ab0 : Bool} {col0 : Option Bool} {dd0 : Option Addr} {m00 m10 m20 m30 m50 : Option Value} {odE0 anE0 : Option Addr} {slE0 : Array (Option Value)} {ocE0 kVE0 dcE0 pmE0 cdE0 ctE0 : Value}
    (z_all : PySem.W.nsIn K mainGlobals "all" = some none)
    (z_int : PySem.W.nsIn K mainGlobals "int" = some none)
    (z_len : PySem.W.nsIn K mainGlobals "len" = some none)
    (z_range : PySem.W.nsIn K mainGlobals "range" = some none)
    (z_str : PySem.W.nsIn K mainGlobals "str" = some none)
    (q_MOST_OPEN : PySem.W.nsIn K mainGlobals "MOST_OPEN" = some (some (.int 8 tk_MOST_OPEN)))
    (og_Reader : PySem.W.nsIn K mainGlobals "Reader" = some (some (.ref CO_Reader)))
    (opg_Reader : PySem.W.plainGet K CO_Reader Str.empty = true)
    (ohd_Reader : PySem.W.hasDictIn K CO_Reader = true)
    (opo_Reader : PySem.W.plainOver K CO_Reader = true)
    (osa_Reader : PySem.W.findIn K (.ref CO_Reader) "__setattr__" = some (some (.builtin "object.__setattr__")))
    (omk_Reader : PySem.W.makesIn K CO_Reader = true)
    (okc_Reader : PySem.W.keepIn K (.ref CO_Reader) = true)
    (oha_Reader : PySem.W.findIn K (.ref CO_Reader) "__class__" = some (some (.builtin "object.__class__")))
    (ohn_Reader : PySem.W.specialIn K (.builtin "object.__class__") "__get__" = some (some (.builtin "getset_descriptor.__get__")))
    (otk_Reader : PySem.W.takesIn K (.builtin "object.__class__") = some true)
    (omr_Reader : PySem.W.mroIn K CO_Reader (.type "object") = some true)
    (oci_Reader : PySem.W.isClsIn K CO_Reader = true)
    (oct_Reader : PySem.W.typeIn K (.ref CO_Reader) = some (.type "type"))
    (onf_Reader_at : PySem.W.findIn K (.ref CO_Reader) "at" = some none)
    (onf_Reader_words : PySem.W.findIn K (.ref CO_Reader) "words" = some none)
    (og_Saying : PySem.W.nsIn K mainGlobals "Saying" = some (some (.ref CO_Saying)))
    (opg_Saying : PySem.W.plainGet K CO_Saying Str.empty = true)
    (ohd_Saying : PySem.W.hasDictIn K CO_Saying = true)
    (opo_Saying : PySem.W.plainOver K CO_Saying = true)
    (osa_Saying : PySem.W.findIn K (.ref CO_Saying) "__setattr__" = some (some (.builtin "object.__setattr__")))
    (omk_Saying : PySem.W.makesIn K CO_Saying = true)
    (okc_Saying : PySem.W.keepIn K (.ref CO_Saying) = true)
    (oha_Saying : PySem.W.findIn K (.ref CO_Saying) "__class__" = some (some (.builtin "object.__class__")))
    (ohn_Saying : PySem.W.specialIn K (.builtin "object.__class__") "__get__" = some (some (.builtin "getset_descriptor.__get__")))
    (otk_Saying : PySem.W.takesIn K (.builtin "object.__class__") = some true)
    (omr_Saying : PySem.W.mroIn K CO_Saying (.type "object") = some true)
    (oci_Saying : PySem.W.isClsIn K CO_Saying = true)
    (oct_Saying : PySem.W.typeIn K (.ref CO_Saying) = some (.type "type"))
    (onf_Saying_text : PySem.W.findIn K (.ref CO_Saying) "text" = some none)
    (onf_Saying_tree : PySem.W.findIn K (.ref CO_Saying) "tree" = some none)
    (a0 : PySem.W.nsIn K mainGlobals "_law_take" = some (some (.ref f0)))
    (l0 : K.lookup f0 = some ⟨oc0, od0, .func (PySem.W.fnOf "_law_take" "_law_take" (defArgs s_law_take) (defBody s_law_take) (defScope s_law_take) .none kV0 dc0 pm0 an0 cd0 ct0), sl0⟩)
    (c0 : PySem.W.codeIn K cd0 "_law_take" = true)
    (k0 : PySem.W.keepIn K (.ref f0) = true)
    (a1 : PySem.W.nsIn K mainGlobals "_law_number" = some (some (.ref f1)))
    (l1 : K.lookup f1 = some ⟨oc1, od1, .func (PySem.W.fnOf "_law_number" "_law_number" (defArgs s_law_number) (defBody s_law_number) (defScope s_law_number) .none kV1 dc1 pm1 an1 cd1 ct1), sl1⟩)
    (c1 : PySem.W.codeIn K cd1 "_law_number" = true)
    (k1 : PySem.W.keepIn K (.ref f1) = true)
    (a2 : PySem.W.nsIn K mainGlobals "_law_atom" = some (some (.ref f2)))
    (l2 : K.lookup f2 = some ⟨oc2, od2, .func (PySem.W.fnOf "_law_atom" "_law_atom" (defArgs s_law_atom) (defBody s_law_atom) (defScope s_law_atom) .none kV2 dc2 pm2 an2 cd2 ct2), sl2⟩)
    (c2 : PySem.W.codeIn K cd2 "_law_atom" = true)
    (k2 : PySem.W.keepIn K (.ref f2) = true)
    (a3 : PySem.W.nsIn K mainGlobals "_law_tree" = some (some (.ref f3)))
    (l3 : K.lookup f3 = some ⟨oc3, od3, .func (PySem.W.fnOf "_law_tree" "_law_tree" (defArgs s_law_tree) (defBody s_law_tree) (defScope s_law_tree) .none kV3 dc3 pm3 an3 cd3 ct3), sl3⟩)
    (c3 : PySem.W.codeIn K cd3 "_law_tree" = true)
    (k3 : PySem.W.keepIn K (.ref f3) = true)
    (a4 : PySem.W.nsIn K mainGlobals "_law_words" = some (some (.ref f4)))
    (l4 : K.lookup f4 = some ⟨oc4, od4, .func (PySem.W.fnOf "_law_words" "_law_words" (defArgs s_law_words) (defBody s_law_words) (defScope s_law_words) .none kV4 dc4 pm4 an4 cd4 ct4), sl4⟩)
    (c4 : PySem.W.codeIn K cd4 "_law_words" = true)
    (k4 : PySem.W.keepIn K (.ref f4) = true)
    (a5 : PySem.W.findIn K (.ref CO_Reader) "__init__" = some (some (.ref f5)))
    (i5 : PySem.W.isFn K (.ref f5) = true)
    (l5 : K.lookup f5 = some ⟨oc5, od5, .func (PySem.W.fnOf "__init__" "Reader.__init__" (defArgs s_Reader_init) (defBody s_Reader_init) (defScope s_Reader_init) .none kV5 dc5 pm5 an5 cd5 ct5), sl5⟩)
    (c5 : PySem.W.codeIn K cd5 "Reader.__init__" = true)
    (k5 : PySem.W.keepIn K (.ref f5) = true)
    (a6 : PySem.W.findIn K (.ref CO_Reader) "next_word" = some (some (.ref f6)))
    (i6 : PySem.W.isFn K (.ref f6) = true)
    (l6 : K.lookup f6 = some ⟨oc6, od6, .func (PySem.W.fnOf "next_word" "Reader.next_word" (defArgs s_Reader_next_word) (defBody s_Reader_next_word) (defScope s_Reader_next_word) .none kV6 dc6 pm6 an6 cd6 ct6), sl6⟩)
    (c6 : PySem.W.codeIn K cd6 "Reader.next_word" = true)
    (k6 : PySem.W.keepIn K (.ref f6) = true)
    (a7 : PySem.W.nsIn K mainGlobals "is_integer_word" = some (some (.ref f7)))
    (l7 : K.lookup f7 = some ⟨oc7, od7, .func (PySem.W.fnOf "is_integer_word" "is_integer_word" (defArgs s_is_integer_word) (defBody s_is_integer_word) (defScope s_is_integer_word) .none kV7 dc7 pm7 an7 cd7 ct7), sl7⟩)
    (c7 : PySem.W.codeIn K cd7 "is_integer_word" = true)
    (k7 : PySem.W.keepIn K (.ref f7) = true)
    (a8 : PySem.W.findIn K (.ref CO_Reader) "number" = some (some (.ref f8)))
    (i8 : PySem.W.isFn K (.ref f8) = true)
    (l8 : K.lookup f8 = some ⟨oc8, od8, .func (PySem.W.fnOf "number" "Reader.number" (defArgs s_Reader_number) (defBody s_Reader_number) (defScope s_Reader_number) .none kV8 dc8 pm8 an8 cd8 ct8), sl8⟩)
    (c8 : PySem.W.codeIn K cd8 "Reader.number" = true)
    (k8 : PySem.W.keepIn K (.ref f8) = true)
    (a9 : PySem.W.findIn K (.ref CO_Reader) "first_number" = some (some (.ref f9)))
    (i9 : PySem.W.isFn K (.ref f9) = true)
    (l9 : K.lookup f9 = some ⟨oc9, od9, .func (PySem.W.fnOf "first_number" "Reader.first_number" (defArgs s_Reader_first_number) (defBody s_Reader_first_number) (defScope s_Reader_first_number) .none kV9 dc9 pm9 an9 cd9 ct9), sl9⟩)
    (c9 : PySem.W.codeIn K cd9 "Reader.first_number" = true)
    (k9 : PySem.W.keepIn K (.ref f9) = true)
    (a10 : PySem.W.findIn K (.ref CO_Reader) "rest_part" = some (some (.ref f10)))
    (i10 : PySem.W.isFn K (.ref f10) = true)
    (l10 : K.lookup f10 = some ⟨oc10, od10, .func (PySem.W.fnOf "rest_part" "Reader.rest_part" (defArgs s_Reader_rest_part) (defBody s_Reader_rest_part) (defScope s_Reader_rest_part) .none kV10 dc10 pm10 an10 cd10 ct10), sl10⟩)
    (c10 : PySem.W.codeIn K cd10 "Reader.rest_part" = true)
    (k10 : PySem.W.keepIn K (.ref f10) = true)
    (a11 : PySem.W.findIn K (.ref CO_Reader) "further" = some (some (.ref f11)))
    (i11 : PySem.W.isFn K (.ref f11) = true)
    (l11 : K.lookup f11 = some ⟨oc11, od11, .func (PySem.W.fnOf "further" "Reader.further" (defArgs s_Reader_further) (defBody s_Reader_further) (defScope s_Reader_further) .none kV11 dc11 pm11 an11 cd11 ct11), sl11⟩)
    (c11 : PySem.W.codeIn K cd11 "Reader.further" = true)
    (k11 : PySem.W.keepIn K (.ref f11) = true)
    (a12 : PySem.W.findIn K (.ref CO_Reader) "take" = some (some (.ref f12)))
    (i12 : PySem.W.isFn K (.ref f12) = true)
    (l12 : K.lookup f12 = some ⟨oc12, od12, .func (PySem.W.fnOf "take" "Reader.take" (defArgs s_Reader_take) (defBody s_Reader_take) (defScope s_Reader_take) .none kV12 dc12 pm12 an12 cd12 ct12), sl12⟩)
    (c12 : PySem.W.codeIn K cd12 "Reader.take" = true)
    (k12 : PySem.W.keepIn K (.ref f12) = true)
    (a13 : PySem.W.findIn K (.ref CO_Reader) "plain_part" = some (some (.ref f13)))
    (i13 : PySem.W.isFn K (.ref f13) = true)
    (l13 : K.lookup f13 = some ⟨oc13, od13, .func (PySem.W.fnOf "plain_part" "Reader.plain_part" (defArgs s_Reader_plain_part) (defBody s_Reader_plain_part) (defScope s_Reader_plain_part) .none kV13 dc13 pm13 an13 cd13 ct13), sl13⟩)
    (c13 : PySem.W.codeIn K cd13 "Reader.plain_part" = true)
    (k13 : PySem.W.keepIn K (.ref f13) = true)
    (a14 : PySem.W.findIn K (.ref CO_Reader) "part" = some (some (.ref f14)))
    (i14 : PySem.W.isFn K (.ref f14) = true)
    (l14 : K.lookup f14 = some ⟨oc14, od14, .func (PySem.W.fnOf "part" "Reader.part" (defArgs s_Reader_part) (defBody s_Reader_part) (defScope s_Reader_part) .none kV14 dc14 pm14 an14 cd14 ct14), sl14⟩)
    (c14 : PySem.W.codeIn K cd14 "Reader.part" = true)
    (k14 : PySem.W.keepIn K (.ref f14) = true)
    (a15 : PySem.W.findIn K (.ref CO_Reader) "whole" = some (some (.ref f15)))
    (i15 : PySem.W.isFn K (.ref f15) = true)
    (l15 : K.lookup f15 = some ⟨oc15, od15, .func (PySem.W.fnOf "whole" "Reader.whole" (defArgs s_Reader_whole) (defBody s_Reader_whole) (defScope s_Reader_whole) .none kV15 dc15 pm15 an15 cd15 ct15), sl15⟩)
    (c15 : PySem.W.codeIn K cd15 "Reader.whole" = true)
    (k15 : PySem.W.keepIn K (.ref f15) = true)
    (a16 : PySem.W.findIn K (.ref CO_Saying) "__init__" = some (some (.ref f16)))
    (i16 : PySem.W.isFn K (.ref f16) = true)
    (l16 : K.lookup f16 = some ⟨oc16, od16, .func (PySem.W.fnOf "__init__" "Saying.__init__" (defArgs s_Saying_init) (defBody s_Saying_init) (defScope s_Saying_init) .none kV16 dc16 pm16 an16 cd16 ct16), sl16⟩)
    (c16 : PySem.W.codeIn K cd16 "Saying.__init__" = true)
    (k16 : PySem.W.keepIn K (.ref f16) = true)
    (a17 : PySem.W.findIn K (.ref CO_Saying) "__str__" = some (some (.ref f17)))
    (i17 : PySem.W.isFn K (.ref f17) = true)
    (l17 : K.lookup f17 = some ⟨oc17, od17, .func (PySem.W.fnOf "__str__" "Saying.__str__" (defArgs s_Saying_str) (defBody s_Saying_str) (defScope s_Saying_str) .none kV17 dc17 pm17 an17 cd17 ct17), sl17⟩)
    (c17 : PySem.W.codeIn K cd17 "Saying.__str__" = true)
    (k17 : PySem.W.keepIn K (.ref f17) = true)
    (a18 : PySem.W.nsIn K mainGlobals "_law_is_number" = some (some (.ref f18)))
    (l18 : K.lookup f18 = some ⟨oc18, od18, .func (PySem.W.fnOf "_law_is_number" "_law_is_number" (defArgs s_law_is_number) (defBody s_law_is_number) (defScope s_law_is_number) .none kV18 dc18 pm18 an18 cd18 ct18), sl18⟩)
    (c18 : PySem.W.codeIn K cd18 "_law_is_number" = true)
    (k18 : PySem.W.keepIn K (.ref f18) = true)
    (a19 : PySem.W.nsIn K mainGlobals "_law_fits" = some (some (.ref f19)))
    (l19 : K.lookup f19 = some ⟨oc19, od19, .func (PySem.W.fnOf "_law_fits" "_law_fits" (defArgs s_law_fits) (defBody s_law_fits) (defScope s_law_fits) .none kV19 dc19 pm19 an19 cd19 ct19), sl19⟩)
    (c19 : PySem.W.codeIn K cd19 "_law_fits" = true)
    (k19 : PySem.W.keepIn K (.ref f19) = true)
    (a20 : PySem.W.nsIn K mainGlobals "_law_told" = some (some (.ref f20)))
    (l20 : K.lookup f20 = some ⟨oc20, od20, .func (PySem.W.fnOf "_law_told" "_law_told" (defArgs s_law_told) (defBody s_law_told) (defScope s_law_told) .none kV20 dc20 pm20 an20 cd20 ct20), sl20⟩)
    (c20 : PySem.W.codeIn K cd20 "_law_told" = true)
    (k20 : PySem.W.keepIn K (.ref f20) = true)
    (a21 : PySem.W.nsIn K mainGlobals "_law_changed" = some (some (.ref f21)))
    (l21 : K.lookup f21 = some ⟨oc21, od21, .func (PySem.W.fnOf "_law_changed" "_law_changed" (defArgs s_law_changed) (defBody s_law_changed) (defScope s_law_changed) .none kV21 dc21 pm21 an21 cd21 ct21), sl21⟩)
    (c21 : PySem.W.codeIn K cd21 "_law_changed" = true)
    (k21 : PySem.W.keepIn K (.ref f21) = true)
    (a22 : PySem.W.nsIn K mainGlobals "_law_fault" = some (some (.ref f22)))
    (l22 : K.lookup f22 = some ⟨oc22, od22, .func (PySem.W.fnOf "_law_fault" "_law_fault" (defArgs s_law_fault) (defBody s_law_fault) (defScope s_law_fault) .none kV22 dc22 pm22 an22 cd22 ct22), sl22⟩)
    (c22 : PySem.W.codeIn K cd22 "_law_fault" = true)
    (k22 : PySem.W.keepIn K (.ref f22) = true)
    (a23 : PySem.W.nsIn K mainGlobals "_law_cell" = some (some (.ref f23)))
    (l23 : K.lookup f23 = some ⟨oc23, od23, .func (PySem.W.fnOf "_law_cell" "_law_cell" (defArgs s_law_cell) (defBody s_law_cell) (defScope s_law_cell) .none kV23 dc23 pm23 an23 cd23 ct23), sl23⟩)
    (c23 : PySem.W.codeIn K cd23 "_law_cell" = true)
    (k23 : PySem.W.keepIn K (.ref f23) = true)
    (a24 : PySem.W.nsIn K mainGlobals "_law_pool" = some (some (.ref f24)))
    (l24 : K.lookup f24 = some ⟨oc24, od24, .func (PySem.W.fnOf "_law_pool" "_law_pool" (defArgs s_law_pool) (defBody s_law_pool) (defScope s_law_pool) .none kV24 dc24 pm24 an24 cd24 ct24), sl24⟩)
    (c24 : PySem.W.codeIn K cd24 "_law_pool" = true)
    (k24 : PySem.W.keepIn K (.ref f24) = true)
    (a25 : PySem.W.nsIn K mainGlobals "law" = some (some (.ref f25)))
    (l25 : K.lookup f25 = some ⟨oc25, od25, .func (PySem.W.fnOf "law" "law" (defArgs s_law) (defBody s_law) (defScope s_law) .none kV25 dc25 pm25 an25 cd25 ct25), sl25⟩)
    (c25 : PySem.W.codeIn K cd25 "law" = true)
    (k25 : PySem.W.keepIn K (.ref f25) = true)
    (gB : PySem.W.nsIn K mainGlobals "ClockError" = some (some (.ref CB)))
    (rB : PySem.W.readsIn K CB (.type "type") = true)
    (aB : PySem.W.specialIn K (.ref CB) "__getattribute__" = some (some (.builtin "type.__getattribute__")))
    (iB : PySem.W.findCls K (.ref CB) (.type "type") "__init__" = some (.val (.builtin "ValueError.__init__")))
    (eg0 : PySem.W.nsIn K mainGlobals "BadSaying" = some (some (.ref C0)))
    (ex0 : K.lookup C0 = some (excClassObj nm0 qq0 C0 N0 bs0 bm0 true sn0 sub0 ab0 col0 dd0 m00 m10 m20 m30 m50 "ValueError.__new__"))
    (eb0 : PySem.HandSPX.refsVE bm0 = true)
    (es0 : PySem.W.findIn K (.ref C0) "__setattr__" = some (some (.builtin "object.__setattr__")))
    (ee0 : PySem.W.subIn K (.ref C0) (.type "BaseException") = some true)
    (et0 : PySem.W.typeIn K (.ref C0) = some (.type "type"))
    (ek0 : PySem.W.keepIn K (.ref C0) = true)
    (ega0 : PySem.W.findIn K (.ref C0) "__getattribute__" = some (some (.builtin "BaseException.__getattribute__")))
    (egg0 : PySem.W.findIn K (.ref C0) "__getattr__" = some none)
    (eh0 : PySem.W.hasDictIn K C0 = true)
    (ei0 : PySem.W.isClsIn K C0 = true)
    (eu0 : PySem.W.subIn K (.ref C0) (.ref C0) = some true)
    (ef0 : PySem.W.findIn K (.ref C0) "__init__" = some (some (.ref g0)))
    (ey0 : PySem.W.typeIn K (.ref g0) = some (.type "function"))
    (el0 : K.lookup g0 = some ⟨ocE0, odE0, .func (PySem.W.fnOf "__init__" "BadSaying.__init__" (defArgs s_BadSaying_init) (defBody s_BadSaying_init) (defScope s_BadSaying_init) .none kVE0 dcE0 pmE0 anE0 cdE0 ctE0), slE0⟩)
    (ec0 : PySem.W.codeIn K cdE0 "BadSaying.__init__" = true)
    (ej0 : PySem.W.keepIn K (.ref g0) = true)
    (en0_at : PySem.W.findIn K (.ref C0) "at" = some none) :
    ∃ fd : FuncData, (∀ (s : Shared) (v : Value), BindsTo s fd ⟨[v], []⟩ [("_law_script", v)]) ∧ ∀ base : Heap, K.In base → base.Ns mainGlobals mg → FnOk P w K mg base (L2.CX P w) 211 fa fd ["_law_script"] (spLaw K) := by
  have e := hfa.symm.trans (PySem.W.mg_of X G a25)
  cases e
  have F0 := fun_mk (st := s_law_take) l0 c0 k0
  have b0 := F0.binds (ps := ["_law_pool_here", "_law_limit"]) fun _ _ _ _ _ _ us hl => match us, hl with | [_, _], _ => rfl
  have F1 := fun_mk (st := s_law_number) l1 c1 k1
  have b1 := F1.binds (ps := ["_law_pool_here", "_law_low", "_law_high"]) fun _ _ _ _ _ _ us hl => match us, hl with | [_, _, _], _ => rfl
  have F2 := fun_mk (st := s_law_atom) l2 c2 k2
  have b2 := F2.binds (ps := ["_law_pool_here", "_law_small"]) fun _ _ _ _ _ _ us hl => match us, hl with | [_, _], _ => rfl
  have F3 := fun_mk (st := s_law_tree) l3 c3 k3
  have b3 := F3.binds (ps := ["_law_pool_here", "_law_many", "_law_small"]) fun _ _ _ _ _ _ us hl => match us, hl with | [_, _, _], _ => rfl
  have F4 := fun_mk (st := s_law_words) l4 c4 k4
  have b4 := F4.binds (ps := ["_law_tree_here"]) fun _ _ _ _ _ _ us hl => match us, hl with | [_], _ => rfl
  have F5 := fun_mk (st := s_Reader_init) l5 c5 k5
  have b5 := F5.binds (ps := ["self", "words", "at"]) fun _ _ _ _ _ _ us hl => match us, hl with | [_, _, _], _ => rfl
  have F6 := fun_mk (st := s_Reader_next_word) l6 c6 k6
  have b6 := F6.binds (ps := ["self"]) fun _ _ _ _ _ _ us hl => match us, hl with | [_], _ => rfl
  have F7 := fun_mk (st := s_is_integer_word) l7 c7 k7
  have b7 := F7.binds (ps := ["word"]) fun _ _ _ _ _ _ us hl => match us, hl with | [_], _ => rfl
  have F8 := fun_mk (st := s_Reader_number) l8 c8 k8
  have b8 := F8.binds (ps := ["self", "low", "high"]) fun _ _ _ _ _ _ us hl => match us, hl with | [_, _, _], _ => rfl
  have F9 := fun_mk (st := s_Reader_first_number) l9 c9 k9
  have b9 := F9.binds (ps := ["self"]) fun _ _ _ _ _ _ us hl => match us, hl with | [_], _ => rfl
  have F10 := fun_mk (st := s_Reader_rest_part) l10 c10 k10
  have b10 := F10.binds (ps := ["self", "modulus"]) fun _ _ _ _ _ _ us hl => match us, hl with | [_, _], _ => rfl
  have F11 := fun_mk (st := s_Reader_further) l11 c11 k11
  have b11 := F11.binds (ps := ["self", "many"]) fun _ _ _ _ _ _ us hl => match us, hl with | [_, _], _ => rfl
  have F12 := fun_mk (st := s_Reader_take) l12 c12 k12
  have b12 := F12.binds (ps := ["self", "word"]) fun _ _ _ _ _ _ us hl => match us, hl with | [_, _], _ => rfl
  have F13 := fun_mk (st := s_Reader_plain_part) l13 c13 k13
  have b13 := F13.binds (ps := ["self", "word"]) fun _ _ _ _ _ _ us hl => match us, hl with | [_, _], _ => rfl
  have F14 := fun_mk (st := s_Reader_part) l14 c14 k14
  have b14 := F14.binds (ps := ["self", "depth"]) fun _ _ _ _ _ _ us hl => match us, hl with | [_, _], _ => rfl
  have F15 := fun_mk (st := s_Reader_whole) l15 c15 k15
  have b15 := F15.binds (ps := ["self"]) fun _ _ _ _ _ _ us hl => match us, hl with | [_], _ => rfl
  have F16 := fun_mk (st := s_Saying_init) l16 c16 k16
  have b16 := F16.binds (ps := ["self", "text"]) fun _ _ _ _ _ _ us hl => match us, hl with | [_, _], _ => rfl
  have F17 := fun_mk (st := s_Saying_str) l17 c17 k17
  have b17 := F17.binds (ps := ["self"]) fun _ _ _ _ _ _ us hl => match us, hl with | [_], _ => rfl
  have F18 := fun_mk (st := s_law_is_number) l18 c18 k18
  have b18 := F18.binds (ps := ["_law_word", "_law_low", "_law_high"]) fun _ _ _ _ _ _ us hl => match us, hl with | [_, _, _], _ => rfl
  have F19 := fun_mk (st := s_law_fits) l19 c19 k19
  have b19 := F19.binds (ps := ["_law_want", "_law_word", "_law_modulus"]) fun _ _ _ _ _ _ us hl => match us, hl with | [_, _, _], _ => rfl
  have F20 := fun_mk (st := s_law_told) l20 c20 k20
  have b20 := F20.binds (ps := ["_law_words_here"]) fun _ _ _ _ _ _ us hl => match us, hl with | [_], _ => rfl
  have F21 := fun_mk (st := s_law_changed) l21 c21 k21
  have b21 := F21.binds (ps := ["_law_pool_here", "_law_words_here"]) fun _ _ _ _ _ _ us hl => match us, hl with | [_, _], _ => rfl
  have F22 := fun_mk (st := s_law_fault) l22 c22 k22
  have b22 := F22.binds (ps := ["_law_words_here"]) fun _ _ _ _ _ _ us hl => match us, hl with | [_], _ => rfl
  have F23 := fun_mk (st := s_law_cell) l23 c23 k23
  have b23 := F23.binds (ps := ["_law_script", "_law_k"]) fun _ _ _ _ _ _ us hl => match us, hl with | [_, _], _ => rfl
  have F24 := fun_mk (st := s_law_pool) l24 c24 k24
  have b24 := F24.binds (ps := ["_law_cell_here"]) fun _ _ _ _ _ _ us hl => match us, hl with | [_], _ => rfl
  have F25 := fun_mk (st := s_law) l25 c25 k25
  have G0 := fun_mk (st := s_BadSaying_init) el0 ec0 ej0
  have bG0 := G0.binds (ps := ["self", "at"]) fun _ _ _ _ _ _ us hl => match us, hl with | [_, _], _ => rfl
  have T : Txt K mg ⟨C0, CO_Reader, CO_Saying, CB, tk_MOST_OPEN⟩ := {
    b_all := PySem.W.mg_none_of X G z_all
    b_int := PySem.W.mg_none_of X G z_int
    b_len := PySem.W.mg_none_of X G z_len
    b_range := PySem.W.mg_none_of X G z_range
    b_str := PySem.W.mg_none_of X G z_str
    d_law_take := ⟨_, _, F0, PySem.W.mg_of X G a0, b0⟩
    d_law_number := ⟨_, _, F1, PySem.W.mg_of X G a1, b1⟩
    d_law_atom := ⟨_, _, F2, PySem.W.mg_of X G a2, b2⟩
    d_law_tree := ⟨_, _, F3, PySem.W.mg_of X G a3, b3⟩
    d_law_words := ⟨_, _, F4, PySem.W.mg_of X G a4, b4⟩
    d_Reader_init := ⟨⟨_, _, F5, ⟨omk_Reader, a5, i5, okc_Reader⟩, b5⟩, PySem.W.mg_of X G og_Reader⟩
    d_Reader_next_word := ⟨_, _, F6, ⟨a6, i6, k6⟩, b6⟩
    d_is_integer_word := ⟨_, _, F7, PySem.W.mg_of X G a7, b7⟩
    d_Reader_number := ⟨_, _, F8, ⟨a8, i8, k8⟩, b8⟩
    d_Reader_first_number := ⟨_, _, F9, ⟨a9, i9, k9⟩, b9⟩
    d_Reader_rest_part := ⟨_, _, F10, ⟨a10, i10, k10⟩, b10⟩
    d_Reader_further := ⟨_, _, F11, ⟨a11, i11, k11⟩, b11⟩
    d_Reader_take := ⟨_, _, F12, ⟨a12, i12, k12⟩, b12⟩
    d_Reader_plain_part := ⟨_, _, F13, ⟨a13, i13, k13⟩, b13⟩
    d_Reader_part := ⟨_, _, F14, ⟨a14, i14, k14⟩, b14⟩
    d_Reader_whole := ⟨_, _, F15, ⟨a15, i15, k15⟩, b15⟩
    d_Saying_init := ⟨⟨_, _, F16, ⟨omk_Saying, a16, i16, okc_Saying⟩, b16⟩, PySem.W.mg_of X G og_Saying⟩
    d_Saying_str := ⟨_, _, F17, ⟨a17, i17, k17⟩, b17⟩
    d_law_is_number := ⟨_, _, F18, PySem.W.mg_of X G a18, b18⟩
    d_law_fits := ⟨_, _, F19, PySem.W.mg_of X G a19, b19⟩
    d_law_told := ⟨_, _, F20, PySem.W.mg_of X G a20, b20⟩
    d_law_changed := ⟨_, _, F21, PySem.W.mg_of X G a21, b21⟩
    d_law_fault := ⟨_, _, F22, PySem.W.mg_of X G a22, b22⟩
    d_law_cell := ⟨_, _, F23, PySem.W.mg_of X G a23, b23⟩
    d_law_pool := ⟨_, _, F24, PySem.W.mg_of X G a24, b24⟩
    g_Reader := PySem.W.mg_of X G og_Reader
    cl_Reader := ⟨opg_Reader, ohd_Reader, opo_Reader, osa_Reader⟩
    ty_Reader := fun H a dx fs h => .base (.ins h ⟨opg_Reader, ohd_Reader, opo_Reader, osa_Reader⟩ oha_Reader ohn_Reader otk_Reader omr_Reader)
    ki_Reader := kit_self
    kl_Reader := kit_list oci_Reader oct_Reader
    nl_Reader := notFirst_list
    nf_Reader_at := onf_Reader_at
    nf_Reader_words := onf_Reader_words
    g_Saying := PySem.W.mg_of X G og_Saying
    cl_Saying := ⟨opg_Saying, ohd_Saying, opo_Saying, osa_Saying⟩
    ty_Saying := fun H a dx fs h => .base (.ins h ⟨opg_Saying, ohd_Saying, opo_Saying, osa_Saying⟩ oha_Saying ohn_Saying otk_Saying omr_Saying)
    ki_Saying := kit_self
    kl_Saying := kit_list oci_Saying oct_Saying
    nl_Saying := notFirst_list
    nf_Saying_text := onf_Saying_text
    nf_Saying_tree := onf_Saying_tree
    k_MOST_OPEN := PySem.W.mg_of X G q_MOST_OPEN
    base := ⟨PySem.W.mg_of X G gB, rB, aB, iB⟩
    r_BadSaying := ⟨PySem.W.mg_of X G eg0, ⟨⟨_, _, _, _, _, _, _, _, _, _, _, _, _, _, _, ex0, eb0⟩, es0, ee0, et0, ek0⟩, ⟨ega0, egg0, ee0, eh0⟩, exm_self ee0 ei0 et0 eu0, ⟨_, _, ef0, ey0, G0, bG0⟩⟩
    no_BadSaying_at := en0_at
    triv := trivial }
  exact ⟨_, fun s v => .of_eq rfl, fun base _ _ => ok_law (base := base) F25 T⟩
theorem walk {l : PySem.W.OpenLaw} {q : Program} {loose : List Str} {XP : (Str → Option Value) → Heap → Prop} {YP : World → Heap → Prop} {d : DefRec} {K : Params → PySem.W.Frag} (hn : l.most = some 63) (hdf : d.params.defaults = [])
    (hY : ∀ (w : World) (h : Heap), YP w h → (K w.params).In h)
    (F : ∀ (w : World) (mg : Str → Option Value) (fa : Addr) (h : Heap), (K w.params).In h → h.Ns mainGlobals mg → mg d.name = some (.ref fa) →
      ∃ fd : FuncData, (∀ (s : Shared) (u : Value), BindsTo s fd ⟨[u], []⟩ [("_law_script", u)]) ∧ ∀ base : Heap, (K w.params).In base → base.Ns mainGlobals mg → FnOk l.prog w (K w.params) mg base (L2.CX l.prog w) 211 fa fd ["_law_script"] (spLaw (K w.params))) :
    PySem.W.WalkO q loose XP YP l.row.toRowW d [] (fun f vs => PySem.call f vs) :=
  L2.walk_of (n := 63) (k := 211) (x := "_law_script") (CX := fun w => L2.CX l.prog w) (sp := fun w => spLaw (K w.params)) hn (by decide) hdf ⟨rfl, by decide, by decide⟩ hY F (fun _ _ a ns hl hO hS => ⟨a, ns, rfl, hS, hl, NoT.only hO, fun _ => rfl⟩) fun _ _ _ _ _ h => by
    obtain ⟨_, _, _, _, _, _, _, _, _, _, _, _, z⟩ := h
    exact z.elim
end My
open PySem PySem.W PyProof.Rows
set_option maxRecDepth 100000 in
set_option maxHeartbeats 0 in
theorem PySem.Challenge.cw_everyprime_k62_texts_that_are_no_sayings_holds : PySem.Challenge.rw_everyprime_k62_texts_that_are_no_sayings.Holds := by
  w_on; o_law; k_head; (case hw => w_witness2)
  k_fill
  refine My.walk (l := PySem.Challenge.rw_everyprime_k62_texts_that_are_no_sayings) rfl rfl (fun w h Y => PySem.W.kIn_of Y) ?F
  case F =>
    intro w mg fa h KX G hmg
    refine' My.all_mk KX G hmg ?z_all ?z_int ?z_len ?z_range ?z_str ?q_MOST_OPEN ?og_Reader ?opg_Reader ?ohd_Reader ?opo_Reader ?osa_Reader ?omk_Reader ?okc_Reader ?oha_Reader ?ohn_Reader ?otk_Reader ?omr_Reader ?oci_Reader ?oct_Reader ?onf_Reader_at ?onf_Reader_words ?og_Saying ?opg_Saying ?ohd_Saying ?opo_Saying ?osa_Saying ?omk_Saying ?okc_Saying ?oha_Saying ?ohn_Saying ?otk_Saying ?omr_Saying ?oci_Saying ?oct_Saying ?onf_Saying_text ?onf_Saying_tree ?a0 ?l0 ?c0 ?k0 ?a1 ?l1 ?c1 ?k1 ?a2 ?l2 ?c2 ?k2 ?a3 ?l3 ?c3 ?k3 ?a4 ?l4 ?c4 ?k4 ?a5 ?i5 ?l5 ?c5 ?k5 ?a6 ?i6 ?l6 ?c6 ?k6 ?a7 ?l7 ?c7 ?k7 ?a8 ?i8 ?l8 ?c8 ?k8 ?a9 ?i9 ?l9 ?c9 ?k9 ?a10 ?i10 ?l10 ?c10 ?k10 ?a11 ?i11 ?l11 ?c11 ?k11 ?a12 ?i12 ?l12 ?c12 ?k12 ?a13 ?i13 ?l13 ?c13 ?k13 ?a14 ?i14 ?l14 ?c14 ?k14 ?a15 ?i15 ?l15 ?c15 ?k15 ?a16 ?i16 ?l16 ?c16 ?k16 ?a17 ?i17 ?l17 ?c17 ?k17 ?a18 ?l18 ?c18 ?k18 ?a19 ?l19 ?c19 ?k19 ?a20 ?l20 ?c20 ?k20 ?a21 ?l21 ?c21 ?k21 ?a22 ?l22 ?c22 ?k22 ?a23 ?l23 ?c23 ?k23 ?a24 ?l24 ?c24 ?k24 ?a25 ?l25 ?c25 ?k25 ?gB ?rB ?aB ?iB ?eg0 ?ex0 ?eb0 ?es0 ?ee0 ?et0 ?ek0 ?ega0 ?egg0 ?eh0 ?ei0 ?eu0 ?ef0 ?ey0 ?el0 ?ec0 ?ej0 ?en0_at
    (case z_all => k_is)
    (case z_int => k_is)
    (case z_len => k_is)
    (case z_range => k_is)
    (case z_str => k_is)
    (case q_MOST_OPEN => k_is)
    (case og_Reader => k_is)
    (case opg_Reader => k_is)
    (case ohd_Reader => k_is)
    (case opo_Reader => k_is)
    (case osa_Reader => k_is)
    (case omk_Reader => k_is)
    (case okc_Reader => k_is)
    (case oha_Reader => k_is)
    (case ohn_Reader => k_is)
    (case otk_Reader => k_is)
    (case omr_Reader => k_is)
    (case oci_Reader => k_is)
    (case oct_Reader => k_is)
    (case onf_Reader_at => k_is)
    (case onf_Reader_words => k_is)
    (case og_Saying => k_is)
    (case opg_Saying => k_is)
    (case ohd_Saying => k_is)
    (case opo_Saying => k_is)
    (case osa_Saying => k_is)
    (case omk_Saying => k_is)
    (case okc_Saying => k_is)
    (case oha_Saying => k_is)
    (case ohn_Saying => k_is)
    (case otk_Saying => k_is)
    (case omr_Saying => k_is)
    (case oci_Saying => k_is)
    (case oct_Saying => k_is)
    (case onf_Saying_text => k_is)
    (case onf_Saying_tree => k_is)
    (case a0 => k_is)
    (case l0 => k_is)
    (case c0 => k_is)
    (case k0 => k_is)
    (case a1 => k_is)
    (case l1 => k_is)
    (case c1 => k_is)
    (case k1 => k_is)
    (case a2 => k_is)
    (case l2 => k_is)
    (case c2 => k_is)
    (case k2 => k_is)
    (case a3 => k_is)
    (case l3 => k_is)
    (case c3 => k_is)
    (case k3 => k_is)
    (case a4 => k_is)
    (case l4 => k_is)
    (case c4 => k_is)
    (case k4 => k_is)
    (case a5 => k_is)
    (case i5 => k_is)
    (case l5 => k_is)
    (case c5 => k_is)
    (case k5 => k_is)
    (case a6 => k_is)
    (case i6 => k_is)
    (case l6 => k_is)
    (case c6 => k_is)
    (case k6 => k_is)
    (case a7 => k_is)
    (case l7 => k_is)
    (case c7 => k_is)
    (case k7 => k_is)
    (case a8 => k_is)
    (case i8 => k_is)
    (case l8 => k_is)
    (case c8 => k_is)
    (case k8 => k_is)
    (case a9 => k_is)
    (case i9 => k_is)
    (case l9 => k_is)
    (case c9 => k_is)
    (case k9 => k_is)
    (case a10 => k_is)
    (case i10 => k_is)
    (case l10 => k_is)
    (case c10 => k_is)
    (case k10 => k_is)
    (case a11 => k_is)
    (case i11 => k_is)
    (case l11 => k_is)
    (case c11 => k_is)
    (case k11 => k_is)
    (case a12 => k_is)
    (case i12 => k_is)
    (case l12 => k_is)
    (case c12 => k_is)
    (case k12 => k_is)
    (case a13 => k_is)
    (case i13 => k_is)
    (case l13 => k_is)
    (case c13 => k_is)
    (case k13 => k_is)
    (case a14 => k_is)
    (case i14 => k_is)
    (case l14 => k_is)
    (case c14 => k_is)
    (case k14 => k_is)
    (case a15 => k_is)
    (case i15 => k_is)
    (case l15 => k_is)
    (case c15 => k_is)
    (case k15 => k_is)
    (case a16 => k_is)
    (case i16 => k_is)
    (case l16 => k_is)
    (case c16 => k_is)
    (case k16 => k_is)
    (case a17 => k_is)
    (case i17 => k_is)
    (case l17 => k_is)
    (case c17 => k_is)
    (case k17 => k_is)
    (case a18 => k_is)
    (case l18 => k_is)
    (case c18 => k_is)
    (case k18 => k_is)
    (case a19 => k_is)
    (case l19 => k_is)
    (case c19 => k_is)
    (case k19 => k_is)
    (case a20 => k_is)
    (case l20 => k_is)
    (case c20 => k_is)
    (case k20 => k_is)
    (case a21 => k_is)
    (case l21 => k_is)
    (case c21 => k_is)
    (case k21 => k_is)
    (case a22 => k_is)
    (case l22 => k_is)
    (case c22 => k_is)
    (case k22 => k_is)
    (case a23 => k_is)
    (case l23 => k_is)
    (case c23 => k_is)
    (case k23 => k_is)
    (case a24 => k_is)
    (case l24 => k_is)
    (case c24 => k_is)
    (case k24 => k_is)
    (case a25 => k_is)
    (case l25 => k_is)
    (case c25 => k_is)
    (case k25 => k_is)
    (case gB => k_is)
    (case rB => k_is)
    (case aB => k_is)
    (case iB => k_is)
    (case eg0 => k_is)
    (case ex0 => k_is)
    (case eb0 => decide +kernel)
    (case es0 => k_is)
    (case ee0 => k_is)
    (case et0 => k_is)
    (case ek0 => k_is)
    (case ega0 => k_is)
    (case egg0 => k_is)
    (case eh0 => k_is)
    (case ei0 => k_is)
    (case eu0 => first | rfl | k_is)
    (case ef0 => k_is)
    (case ey0 => k_is)
    (case el0 => k_is)
    (case ec0 => k_is)
    (case ej0 => k_is)
    (case en0_at => k_is)
#print axioms PySem.Challenge.cw_everyprime_k62_texts_that_are_no_sayings_holds
