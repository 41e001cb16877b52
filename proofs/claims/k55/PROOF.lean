import PyProof.Rows.All
import Wide.All
import OpenK.AllK
import Wide.FinOn
import HandS.Base
import HandS.Call
import HandS.List
import HandS.Ends
import HandS.Words
import HandS.Wide
import HandS.WordsList
import HandS.Comp
import HandS.Exc
import HandS.ExcOwn
import HandS.TryOnly
import HandS.WordsExc
import HandS.ExcInit
import HandS.ExcField
import HandS.ClsMeth
import HandS.Codes
import HandS.NoneIn
import HandS.IsInst
import HandS.SortInts
import HandS.Style
import HandS.Star
import HandS.FStr
import HandS.Iter
import HandS.Dict
import HandS.Walk
import HandS.Strs
import HandS.SetBool
import HandS.SetIn
import HandS.TryMany
import HandS.More
import HandS.DictComp
import HandS.Deep
import PySem.Challenge.RW_everyprime_k55_written_primes
set_option Elab.async false
set_option linter.all false
set_option maxRecDepth 100000
set_option maxHeartbeats 4000000
namespace L2
open PySem PySem.Spec PyProof.Rows
/-- one step of a reading, found by its head -/
class Stp (G : Prop) (N : outParam Prop) : Prop where
  mp : N → G
/-! ### forgetting what was made on the way -/
/-- no dict with tuple keys is tracked -/
def noT : HO -> Bool
  | .dT _ => false
  | .frz _ u => noT u
  | _ => true
def NoT (H : Hp) : Prop := ∀ a o, H a = some o → noT o = true
theorem NoT.upd {H : Hp} {p : Addr} {o : HO} (n : NoT H) (h : noT o = true) : NoT (upd H p o) := fun a u e => by
  by_cases hb : a = p
  · subst hb
    rw [upd_same] at e
    cases e
    exact h
  · rw [upd_ne hb] at e
    exact n a u e
theorem obj_back {P : Program} {w : World} {H H' : Hp} {h h' : Heap} {a : Addr} : ∀ {o : HO}, noT o = true → ObjOk P w H' h' a o → ObjOk P w H h a o → ObjOk P w H h' a o := by
  intro o
  induction o with
  | dT kvs => intro n; cases n
  | frz ob u ih =>
    intro n x y
    exact ⟨x.1, ih n x.2 y.2⟩
  | ins C dx fs =>
    intro n x y
    exact ⟨y.1, x.2⟩
  | lst xs => intro n x y; exact x
  | tup xs => intro n x y; exact x
  | dK kvs => intro n x y; exact x
  | set S m => intro n x y; exact x
  | own z => intro n x y; exact x
  | xd fs => intro n x y; exact x
  | rng lo hi => intro n x y; exact x
  | tbl ps => intro n x y; exact x
  | met f z => intro n x y; exact x
  | ext phi => intro n x y; exact x
theorem hok_back {P : Program} {w : World} {H H' : Hp} {h h' : Heap} (n : NoT H) (x : HOk P w H' h') (y : HOk P w H h) (e : Same H H') : HOk P w H h' := fun a o q =>
  obj_back (n a o q) (x a o (e a o q)) (y a o q)
theorem Inv.forget {X : Cx} {pins pins' : List (Addr × Obj)} {σ σ' : St} {H H' : Hp} {s s' : Shared} (I : Inv X pins σ H s) (J : Inv X pins' σ' H' s') (e : Same H H') (n : NoT H) : Inv X pins' σ' H s' :=
  ⟨J.ok, J.os, J.bare, ⟨J.base.keep, J.base.slot, I.base.free, J.base.there, I.base.tups, I.base.frzs, I.base.tbls⟩, J.loc, J.cell, I.free, I.freeC,
    fun p hp => let ⟨a, b, c⟩ := J.pin p hp; ⟨a, e.free b, c⟩, hok_back n J.hok I.hok e, J.len⟩
/-- an expression whose making leaves things behind that nobody asks of -/
def tPure (t : TE) : TE := fun σ H Q => NoT H ∧ t σ H fun v H' => Same H H' ∧ Q v H
theorem pe_pure {X : Cx} {e : Expr} {t : TE} (h : PE X e t) : PE X e (tPure t) :=
  ⟨fun pins s σ H Q I ⟨n, q⟩ => thn (h.run pins s σ H _ I q) fun u s' ⟨v, H', J, r, sm, q'⟩ => ⟨v, H, I.forget J sm n, r, q'⟩⟩
def tPureT (t : TT) : TT := fun σ H Q => NoT H ∧ t σ H fun b H' => Same H H' ∧ Q b H
theorem pt_pure {X : Cx} {e : Expr} {t : TT} (h : PT X e t) : PT X e (tPureT t) :=
  ⟨fun pins s σ H Q I ⟨n, q⟩ => thn (h.run pins s σ H _ I q) fun u s' ⟨H', J, sm, q'⟩ => ⟨H, I.forget J sm n, q'⟩⟩
theorem fn_forget {P : Program} {w : World} {K : PySem.W.Frag} {mg : Str → Option Value} {base : Heap} {CX : CXT} {k : Nat} {f : Addr} {fd : FuncData} {ps : List Str} {sp : Sp} (F : FnOk P w K mg base CX k f fd ps sp) :
    FnOk P w K mg base CX k f fd ps (fun vs H Q E => NoT H ∧ sp vs H (fun v H' => Same H H' ∧ Q v H) E) := by
  refine ⟨fun vs H Q E q => F.len vs H _ E q.2, fun A outer s H args us vs Q E hr he hb hv hs => ?_⟩
  refine codeAny_mono (F.run A outer s H args us vs _ E hr he hb hv hs.2) fun r s' q => ?_
  cases r with
  | error er => exact q
  | ok fl =>
    cases fl with
    | ret u =>
      obtain ⟨v, H2, os2, bare2, un2, hok2, rv, sm, q2⟩ := q
      exact ⟨v, H, os2, bare2, ⟨un2.keep, un2.slot, fun _ _ _ n _ => n, un2.there, fun _ _ q => q, fun _ _ _ q => q, fun _ ps q => ⟨#[], by rw [q]; simp⟩⟩, hok_back hs.1 hok2 he.hok sm, rv, q2⟩
    | next => exact q
    | brk => exact q
    | cont => exact q
end L2

namespace L2
open PySem PySem.Spec PyProof.Rows
/-! ### operators in the forms that are used here -/
def CMulB (i j : Int) : Prop := CMul i j ∨ CMulW i j
theorem CMulB.ok {i j : Int} (h : CMulB i j) : IntMulOk i j := by
  rcases h with h | h
  · exact h.ok
  · exact h.ok
def CDivB (_ j : Int) : Prop := 0 < j ∧ j < 2 ^ 250
section
variable {X : Cx}
theorem op_mulB : OpR X (binaryOp .Mult) (rI CMulB fun i j => .int (i * j)) := opI fun _ _ _ _ _ _ _ hc q => mul_int q hc.ok
theorem op_fdivB : OpR X (binaryOp .FloorDiv) (rI CDivB fun i j => .int (i / j)) := fun pins s σ H x y v u Q I rx ry ⟨i, j, e1, e2, hc, q⟩ =>
  op_fdivW pins s σ H x y v u Q I rx ry ⟨i, j, e1, e2, wide_div (b := 250) hc.1 (by
    have h1 := hc.1
    have h2 := hc.2
    have h3 : j = (j.natAbs : Int) := by omega
    have h4 : (j.natAbs : Int) < ((2 ^ 250 : Nat) : Int) := by
      rw [← h3, Int.natCast_pow]
      exact h2
    exact Int.ofNat_lt.mp h4) (by decide) (by decide), q⟩
end
/-! ### the readings, one lemma each -/
section
variable {σ : St} {H : Hp} {Q : VK} {R : Bool → Hp → Prop} {RA : List V → Hp → Prop} {K : PySem.W.Frag} {v x y z : V} {i j : Int} {ta tb tc te : TE} {tt uu : TT} {t t1 t2 u : TS} {tr : TA} {r : R2}
variable {nx : St → Hp → Prop} {rt : VK} {bk ct : St → Hp → Prop}
theorem rd_var {n : Nat} (h : σ[n]? = some (some v)) (q : Q v H) : tVar n σ H Q := ⟨v, h, q⟩
theorem rd_c (q : Q v H) : tC v σ H Q := q
instance st_c  : Stp (tC v σ H Q) (Q v H) := ⟨fun h => rd_c h⟩
theorem rd_op (h : ta σ H fun x H1 => tb σ H1 fun y H2 => r x y H2 Q) : tOp r ta tb σ H Q := h
instance st_op  : Stp (tOp r ta tb σ H Q) (ta σ H fun x H1 => tb σ H1 fun y H2 => r x y H2 Q) := ⟨fun h => rd_op h⟩
theorem rd_un {ru : V → Hp → VK → Prop} (h : ta σ H fun x H1 => ru x H1 Q) : tUn ru ta σ H Q := h
instance st_un {ru : V → Hp → VK → Prop} : Stp (tUn ru ta σ H Q) (ta σ H fun x H1 => ru x H1 Q) := ⟨fun h => rd_un h⟩
theorem rd_I {C : Int → Int → Prop} {g : Int → Int → V} (hc : C i j) (q : Q (g i j) H) : rI C g (.int i) (.int j) H Q := ⟨i, j, rfl, rfl, hc, q⟩
theorem rd_I0 {g : Int → Int → V} (q : Q (g i j) H) : rI0 g (.int i) (.int j) H Q := ⟨i, j, rfl, rfl, q⟩
instance st_I0 {g : Int → Int → V} : Stp (rI0 g (.int i) (.int j) H Q) (Q (g i j) H) := ⟨fun h => rd_I0 h⟩
theorem rd_U {g : Int → V} (q : Q (g i) H) : rU g (.int i) H Q := ⟨i, rfl, q⟩
instance st_U {g : Int → V} : Stp (rU g (.int i) H Q) (Q (g i) H) := ⟨fun h => rd_U h⟩
theorem rd_eqI (q : Q (.bl (decide (i = j))) H) : rEq (.int i) (.int j) H Q := ⟨rfl, by
  have e : decide (V.int i = V.int j) = decide (i = j) := decide_eq_decide.mpr ⟨fun z => V.int.inj z, fun z => by rw [z]⟩
  rw [e]
  exact q⟩
instance st_eqI  : Stp (rEq (.int i) (.int j) H Q) (Q (.bl (decide (i = j))) H) := ⟨fun h => rd_eqI h⟩
theorem rd_neI (q : Q (.bl (!decide (i = j))) H) : rNe (.int i) (.int j) H Q := ⟨rfl, by
  have e : decide (V.int i = V.int j) = decide (i = j) := decide_eq_decide.mpr ⟨fun z => V.int.inj z, fun z => by rw [z]⟩
  rw [e]
  exact q⟩
instance st_neI  : Stp (rNe (.int i) (.int j) H Q) (Q (.bl (!decide (i = j))) H) := ⟨fun h => rd_neI h⟩
theorem rd_eqS {i j : Str} (q : Q (.bl (decide (i = j))) H) : rEq (.str i) (.str j) H Q := ⟨rfl, by
  have e : decide (V.str i = V.str j) = decide (i = j) := decide_eq_decide.mpr ⟨fun z => V.str.inj z, fun z => by rw [z]⟩
  rw [e]
  exact q⟩
instance st_eqS {i j : Str} : Stp (rEq (.str i) (.str j) H Q) (Q (.bl (decide (i = j))) H) := ⟨fun h => rd_eqS h⟩
theorem rd_neS {i j : Str} (q : Q (.bl (!decide (i = j))) H) : rNe (.str i) (.str j) H Q := ⟨rfl, by
  have e : decide (V.str i = V.str j) = decide (i = j) := decide_eq_decide.mpr ⟨fun z => V.str.inj z, fun z => by rw [z]⟩
  rw [e]
  exact q⟩
instance st_neS {i j : Str} : Stp (rNe (.str i) (.str j) H Q) (Q (.bl (!decide (i = j))) H) := ⟨fun h => rd_neS h⟩
theorem rd_eqB {i j : Bool} (q : Q (.bl (decide (i = j))) H) : rEq (.bl i) (.bl j) H Q := ⟨rfl, by
  have e : decide (V.bl i = V.bl j) = decide (i = j) := decide_eq_decide.mpr ⟨fun z => V.bl.inj z, fun z => by rw [z]⟩
  rw [e]
  exact q⟩
instance st_eqB {i j : Bool} : Stp (rEq (.bl i) (.bl j) H Q) (Q (.bl (decide (i = j))) H) := ⟨fun h => rd_eqB h⟩
theorem rd_neB {i j : Bool} (q : Q (.bl (!decide (i = j))) H) : rNe (.bl i) (.bl j) H Q := ⟨rfl, by
  have e : decide (V.bl i = V.bl j) = decide (i = j) := decide_eq_decide.mpr ⟨fun z => V.bl.inj z, fun z => by rw [z]⟩
  rw [e]
  exact q⟩
instance st_neB {i j : Bool} : Stp (rNe (.bl i) (.bl j) H Q) (Q (.bl (!decide (i = j))) H) := ⟨fun h => rd_neB h⟩
theorem rd_eqV (h : scal x y = true) (q : Q (.bl (decide (x = y))) H) : rEq x y H Q := ⟨h, q⟩
theorem rd_test (h : te σ H fun x H' => ∃ k, x = .bl k ∧ R k H') : tTest te σ H R := h
instance st_test  : Stp (tTest te σ H R) (te σ H fun x H' => ∃ k, x = .bl k ∧ R k H') := ⟨fun h => rd_test h⟩
theorem rd_B (h : te σ H fun x H' => ∃ k, x = .bl k ∧ R k H') : tB te σ H R := h
instance st_B  : Stp (tB te σ H R) (te σ H fun x H' => ∃ k, x = .bl k ∧ R k H') := ⟨fun h => rd_B h⟩
theorem rd_k {b : Bool} {P : Bool → Prop} (q : P b) : ∃ k, V.bl b = .bl k ∧ P k := ⟨b, rfl, q⟩
instance st_k {b : Bool} {P : Bool → Prop} : Stp (∃ k, V.bl b = .bl k ∧ P k) (P b) := ⟨fun h => rd_k h⟩
theorem rd_and (h : tt σ H fun c H1 => if c = true then uu σ H1 R else R false H1) : tAnd tt uu σ H R := h
instance st_and  : Stp (tAnd tt uu σ H R) (tt σ H fun c H1 => if c = true then uu σ H1 R else R false H1) := ⟨fun h => rd_and h⟩
theorem rd_or (h : tt σ H fun c H1 => if c = true then R true H1 else uu σ H1 R) : tOr tt uu σ H R := h
instance st_or  : Stp (tOr tt uu σ H R) (tt σ H fun c H1 => if c = true then R true H1 else uu σ H1 R) := ⟨fun h => rd_or h⟩
theorem rd_not (h : tt σ H fun c H1 => R (!c) H1) : tNot tt σ H R := h
instance st_not  : Stp (tNot tt σ H R) (tt σ H fun c H1 => R (!c) H1) := ⟨fun h => rd_not h⟩
theorem rd_andV (h : ta σ H fun x H1 => ∃ c, x = .bl c ∧ if c = true then tb σ H1 Q else Q (.bl false) H1) : tAndV ta tb σ H Q := h
instance st_andV  : Stp (tAndV ta tb σ H Q) (ta σ H fun x H1 => ∃ c, x = .bl c ∧ if c = true then tb σ H1 Q else Q (.bl false) H1) := ⟨fun h => rd_andV h⟩
theorem rd_orV (h : ta σ H fun x H1 => ∃ c, x = .bl c ∧ if c = true then Q (.bl true) H1 else tb σ H1 Q) : tOrV ta tb σ H Q := h
instance st_orV  : Stp (tOrV ta tb σ H Q) (ta σ H fun x H1 => ∃ c, x = .bl c ∧ if c = true then Q (.bl true) H1 else tb σ H1 Q) := ⟨fun h => rd_orV h⟩
theorem rd_notV (h : ta σ H fun x H1 => ∃ c, x = .bl c ∧ Q (.bl (!c)) H1) : tNotV ta σ H Q := h
instance st_notV  : Stp (tNotV ta σ H Q) (ta σ H fun x H1 => ∃ c, x = .bl c ∧ Q (.bl (!c)) H1) := ⟨fun h => rd_notV h⟩
theorem rd_ifx (h : tt σ H fun c H1 => if c = true then ta σ H1 Q else tb σ H1 Q) : tIf tt ta tb σ H Q := h
instance st_ifx  : Stp (tIf tt ta tb σ H Q) (tt σ H fun c H1 => if c = true then ta σ H1 Q else tb σ H1 Q) := ⟨fun h => rd_ifx h⟩
theorem rd_chain {r' : R2} (h : ta σ H fun x H1 => tb σ H1 fun y H2 => r x y H2 fun z H3 => ∃ k, z = .bl k ∧ (if k = true then tc σ H3 fun w' H4 => r' y w' H4 Q else Q (.bl false) H3)) : tChain r r' ta tb tc σ H Q := h
instance st_chain {r' : R2} : Stp (tChain r r' ta tb tc σ H Q) (ta σ H fun x H1 => tb σ H1 fun y H2 => r x y H2 fun z H3 => ∃ k, z = .bl k ∧ (if k = true then tc σ H3 fun w' H4 => r' y w' H4 Q else Q (.bl false) H3)) := ⟨fun h => rd_chain h⟩
theorem rd_nil (q : RA [] H) : tNil σ H RA := q
instance st_nil  : Stp (tNil σ H RA) (RA [] H) := ⟨fun h => rd_nil h⟩
theorem rd_cons (h : ta σ H fun x H1 => tr σ H1 fun xs H2 => RA (x :: xs) H2) : tCons ta tr σ H RA := h
instance st_cons  : Stp (tCons ta tr σ H RA) (ta σ H fun x H1 => tr σ H1 fun xs H2 => RA (x :: xs) H2) := ⟨fun h => rd_cons h⟩
theorem rd_tup (h : tr σ H fun xs H1 => xs.length ≤ sizeLine ∧ ∀ p, H1 p = none → Q (.ref p) (upd H1 p (.tup xs))) : tTup tr σ H Q := h
instance st_tup  : Stp (tTup tr σ H Q) (tr σ H fun xs H1 => xs.length ≤ sizeLine ∧ ∀ p, H1 p = none → Q (.ref p) (upd H1 p (.tup xs))) := ⟨fun h => rd_tup h⟩
theorem rd_lst (h : tr σ H fun xs H1 => xs.length ≤ sizeLine ∧ ∀ p, H1 p = none → Q (.ref p) (upd H1 p (.lst xs))) : tLst tr σ H Q := h
instance st_lst  : Stp (tLst tr σ H Q) (tr σ H fun xs H1 => xs.length ≤ sizeLine ∧ ∀ p, H1 p = none → Q (.ref p) (upd H1 p (.lst xs))) := ⟨fun h => rd_lst h⟩
theorem rd_pure (n : NoT H) (h : te σ H fun v H' => Same H H' ∧ Q v H) : tPure te σ H Q := ⟨n, h⟩
theorem rd_pureT (n : NoT H) (h : tt σ H fun v H' => Same H H' ∧ R v H) : tPureT tt σ H R := ⟨n, h⟩
theorem rd_call {sp : Sp} {E : XK} (h : tr σ H fun vs H1 => sp vs H1 Q E) : tCall sp [] E tr σ H Q := by
  show tr σ H fun vs H1 => sp (vs ++ []) H1 Q E
  simp only [List.append_nil]
  exact h
instance st_call {sp : Sp} {E : XK} : Stp (tCall sp [] E tr σ H Q) (tr σ H fun vs H1 => sp vs H1 Q E) := ⟨fun h => rd_call h⟩
theorem rd_cb {rr : List V → Hp → VK → Prop} (h : tr σ H fun vs H1 => rr vs H1 Q) : tCB rr tr σ H Q := h
instance st_cb {rr : List V → Hp → VK → Prop} : Stp (tCB rr tr σ H Q) (tr σ H fun vs H1 => rr vs H1 Q) := ⟨fun h => rd_cb h⟩
/-! statements -/
theorem rd_seq (h : t ⟨u ⟨nx, rt, bk, ct⟩, rt, bk, ct⟩ σ H) : tSeq t u ⟨nx, rt, bk, ct⟩ σ H := h
instance st_seq  : Stp (tSeq t u ⟨nx, rt, bk, ct⟩ σ H) (t ⟨u ⟨nx, rt, bk, ct⟩, rt, bk, ct⟩ σ H) := ⟨fun h => rd_seq h⟩
theorem rd_next (q : nx σ H) : tNext ⟨nx, rt, bk, ct⟩ σ H := q
instance st_next  : Stp (tNext ⟨nx, rt, bk, ct⟩ σ H) (nx σ H) := ⟨fun h => rd_next h⟩
theorem rd_break (q : bk σ H) : tBreak ⟨nx, rt, bk, ct⟩ σ H := q
instance st_break  : Stp (tBreak ⟨nx, rt, bk, ct⟩ σ H) (bk σ H) := ⟨fun h => rd_break h⟩
theorem rd_cont (q : ct σ H) : tCont ⟨nx, rt, bk, ct⟩ σ H := q
instance st_cont  : Stp (tCont ⟨nx, rt, bk, ct⟩ σ H) (ct σ H) := ⟨fun h => rd_cont h⟩
theorem rd_ret (h : te σ H rt) : tRet te ⟨nx, rt, bk, ct⟩ σ H := h
instance st_ret  : Stp (tRet te ⟨nx, rt, bk, ct⟩ σ H) (te σ H rt) := ⟨fun h => rd_ret h⟩
theorem rd_retN (h : rt .non H) : tRetN ⟨nx, rt, bk, ct⟩ σ H := h
instance st_retN  : Stp (tRetN ⟨nx, rt, bk, ct⟩ σ H) (rt .non H) := ⟨fun h => rd_retN h⟩
theorem rd_drop (h : te σ H fun _ H1 => nx σ H1) : tDrop te ⟨nx, rt, bk, ct⟩ σ H := h
instance st_drop  : Stp (tDrop te ⟨nx, rt, bk, ct⟩ σ H) (te σ H fun _ H1 => nx σ H1) := ⟨fun h => rd_drop h⟩
theorem rd_asg {g : TG} (h : te σ H fun x H1 => g x σ H1 nx) : tAsg te g ⟨nx, rt, bk, ct⟩ σ H := h
instance st_asg {g : TG} : Stp (tAsg te g ⟨nx, rt, bk, ct⟩ σ H) (te σ H fun x H1 => g x σ H1 nx) := ⟨fun h => rd_asg h⟩
theorem rd_gname {n : Nat} {N : St → Hp → Prop} (q : N (σ.set n (some v)) H) : gName n v σ H N := q
instance st_gname {n : Nat} {N : St → Hp → Prop} : Stp (gName n v σ H N) (N (σ.set n (some v)) H) := ⟨fun h => rd_gname h⟩
theorem rd_ifS (h : tt σ H fun b H1 => if b = true then t1 ⟨nx, rt, bk, ct⟩ σ H1 else t2 ⟨nx, rt, bk, ct⟩ σ H1) : tIfS tt t1 t2 ⟨nx, rt, bk, ct⟩ σ H := h
instance st_ifS  : Stp (tIfS tt t1 t2 ⟨nx, rt, bk, ct⟩ σ H) (tt σ H fun b H1 => if b = true then t1 ⟨nx, rt, bk, ct⟩ σ H1 else t2 ⟨nx, rt, bk, ct⟩ σ H1) := ⟨fun h => rd_ifS h⟩
theorem rd_par {m n : Nat} (h : tr σ H fun vs H1 => ∃ v w, vs = [v, w] ∧ nx ((σ.set m (some v)).set n (some w)) H1) : tPar m n tr ⟨nx, rt, bk, ct⟩ σ H := h
instance st_par {m n : Nat} : Stp (tPar m n tr ⟨nx, rt, bk, ct⟩ σ H) (tr σ H fun vs H1 => ∃ v w, vs = [v, w] ∧ nx ((σ.set m (some v)).set n (some w)) H1) := ⟨fun h => rd_par h⟩
theorem rd_par2 {v w : V} {P : V → V → Prop} (q : P v w) : ∃ v' w', [v, w] = [v', w'] ∧ P v' w' := ⟨v, w, rfl, q⟩
instance st_par2 {v w : V} {P : V → V → Prop} : Stp (∃ v' w', [v, w] = [v', w'] ∧ P v' w') (P v w) := ⟨fun h => rd_par2 h⟩
theorem rd_aug {n : Nat} {f : Int → Int → Int} (h : σ[n]? = some (some (.int i))) (q : te σ H fun y H1 => ∃ j, y = .int j ∧ nx (σ.set n (some (.int (f i j)))) H1) (mono : ∀ Q Q' : VK, (∀ v H, Q v H → Q' v H) → te σ H Q → te σ H Q') :
    tAug n te (ipI f) ⟨nx, rt, bk, ct⟩ σ H := ⟨.int i, h, mono _ _ (fun y H1 ⟨j, e, q⟩ => ⟨i, j, rfl, e, q⟩) q⟩
theorem rd_augC {n : Nat} {f : Int → Int → Int} (h : σ[n]? = some (some (.int i))) (q : nx (σ.set n (some (.int (f i j)))) H) : tAug n (tC (.int j)) (ipI f) ⟨nx, rt, bk, ct⟩ σ H := ⟨.int i, h, i, j, rfl, rfl, q⟩
/-! ifs -/
theorem rd_ite {p A B : Prop} [Decidable p] (h1 : p → A) (h2 : ¬ p → B) : if decide p = true then A else B := by
  by_cases h : p
  · rw [if_pos (decide_eq_true h)]
    exact h1 h
  · rw [if_neg (by rw [decide_eq_false h]; decide)]
    exact h2 h
theorem rd_iteN {p A B : Prop} [Decidable p] (h1 : ¬ p → A) (h2 : p → B) : if (!decide p) = true then A else B := by
  by_cases h : p
  · rw [if_neg (by rw [decide_eq_true h]; decide)]
    exact h2 h
  · rw [if_pos (by rw [decide_eq_false h]; decide)]
    exact h1 h
theorem rd_iteb {b : Bool} {A B : Prop} (h1 : b = true → A) (h2 : b = false → B) : if b = true then A else B := by
  cases b with
  | true => exact h1 rfl
  | false => exact h2 rfl
theorem rd_iteNT {A B : Prop} (h : B) : if (!true) = true then A else B := h
instance st_iteNT {A B : Prop} : Stp (if (!true) = true then A else B) (B) := ⟨fun h => rd_iteNT h⟩
theorem rd_iteNF {A B : Prop} (h : A) : if (!false) = true then A else B := h
instance st_iteNF {A B : Prop} : Stp (if (!false) = true then A else B) (A) := ⟨fun h => rd_iteNF h⟩
theorem rd_iteT {A B : Prop} (h : A) : if true = true then A else B := iteT h
instance st_iteT {A B : Prop} : Stp (if true = true then A else B) (A) := ⟨fun h => rd_iteT h⟩
theorem rd_iteF {A B : Prop} (h : B) : if false = true then A else B := iteF h
instance st_iteF {A B : Prop} : Stp (if false = true then A else B) (B) := ⟨fun h => rd_iteF h⟩
/-! while, for -/
def lBody (W : Nat → St → Hp → Prop) (m : Nat) (tb : TS) (nx : St → Hp → Prop) (rt : VK) : St → Hp → Prop := fun σ H =>
  ∃ N : St → Hp → Prop, (∀ σ' H', N σ' H' → ∃ m', m' < m ∧ W m' σ' H') ∧ tb ⟨N, rt, nx, N⟩ σ H
theorem rd_lBody {W : Nat → St → Hp → Prop} {m : Nat} (h : t ⟨fun σ' H' => ∃ m', m' < m ∧ W m' σ' H', rt, nx, fun σ' H' => ∃ m', m' < m ∧ W m' σ' H'⟩ σ H) : lBody W m t nx rt σ H := ⟨_, fun _ _ q => q, h⟩
instance st_lBody {W : Nat → St → Hp → Prop} {m : Nat} : Stp (lBody W m t nx rt σ H) (t ⟨fun σ' H' => ∃ m', m' < m ∧ W m' σ' H', rt, nx, fun σ' H' => ∃ m', m' < m ∧ W m' σ' H'⟩ σ H) := ⟨fun h => rd_lBody h⟩
theorem rd_while (W : Nat → St → Hp → Prop) (m0 : Nat) (h0 : W m0 σ H) (turn : ∀ m σ H, W m σ H → tt σ H fun b H1 => if b = true then lBody W m t nx rt σ H1 else nx σ H1) : tWhile tt t ⟨nx, rt, bk, ct⟩ σ H :=
  ⟨W, ⟨m0, h0⟩, fun m σ H w => turn m σ H w⟩
def fBody (J : It) (g : TG) (tb : TS) (nx : St → Hp → Prop) (rt : VK) : St → Hp → Prop := fun σ H => ∃ W : Nat → Nat → St → Hp → Prop, (∃ m, W 0 m σ H) ∧ ∀ i m σ H, W i m σ H →
  (J.stop i H ∧ nx σ H) ∨ (J.go i H ∧ ∃ N : St → Hp → Prop, (∀ σ' H', N σ' H' → ∃ m', m' < m ∧ W (i + 1) m' σ' H') ∧ ∀ x H', J.yld i H x H' → g x σ H' fun σ2 H2 => tb ⟨N, rt, nx, N⟩ σ2 H2)
theorem rd_for {wi : TI} {g : TG} (h : wi σ H fun J H1 => fBody J g t nx rt σ H1) : tFor wi g t ⟨nx, rt, bk, ct⟩ σ H := h
instance st_for {wi : TI} {g : TG} : Stp (tFor wi g t ⟨nx, rt, bk, ct⟩ σ H) (wi σ H fun J H1 => fBody J g t nx rt σ H1) := ⟨fun h => rd_for h⟩
theorem rd_rng1 {n : Int} {S : It → Hp → Prop} (h1 : -(2 ^ 62) ≤ n) (h2 : n < 2 ^ 62) (q : S (Itr 0 n.toNat) H) : ∃ j : Int, ([.int n] : List V) = [.int j] ∧ -(2 ^ 62) ≤ j ∧ j < 2 ^ 62 ∧ S (Itr 0 j.toNat) H := ⟨n, rfl, h1, h2, q⟩
theorem rd_iRng1 {S : It → Hp → Prop} (h : tr σ H fun vs H1 => ∃ j : Int, vs = [.int j] ∧ -(2 ^ 62) ≤ j ∧ j < 2 ^ 62 ∧ S (Itr 0 j.toNat) H1) : iRng1 tr σ H S := h
theorem rd_iRng2 {S : It → Hp → Prop} (h : tr σ H fun vs H1 => ∃ i j : Int, vs = [.int i, .int j] ∧ (-(2 ^ 62) ≤ i ∧ i < 2 ^ 62 ∧ -(2 ^ 62) ≤ j ∧ j < 2 ^ 62) ∧ S (Itr i (j - i).toNat) H1) : iRng2 tr σ H S := h
theorem rd_rng2 {m n : Int} {S : It → Hp → Prop} (h1 : -(2 ^ 62) ≤ m ∧ m < 2 ^ 62 ∧ -(2 ^ 62) ≤ n ∧ n < 2 ^ 62) (q : S (Itr m (n - m).toNat) H) : ∃ i j : Int, ([.int m, .int n] : List V) = [.int i, .int j] ∧ (-(2 ^ 62) ≤ i ∧ i < 2 ^ 62 ∧ -(2 ^ 62) ≤ j ∧ j < 2 ^ 62) ∧ S (Itr i (j - i).toNat) H := ⟨m, n, rfl, h1, q⟩
theorem rd_forR {lo : Int} {n : Nat} {g : TG} (Pv : Nat → St → Hp → Prop) (h0 : Pv 0 σ H)
    (hs : ∀ i σ H, i < n → Pv i σ H → g (.int (lo + i)) σ H fun σ2 H2 => t ⟨Pv (i + 1), rt, nx, Pv (i + 1)⟩ σ2 H2) (hd : ∀ σ H, Pv n σ H → nx σ H) : fBody (Itr lo n) g t nx rt σ H :=
  for_range (D := ⟨nx, rt, fun _ _ => False, fun _ _ => False⟩) Pv h0 hs hd
theorem rd_forL {a : Addr} {xs : List V} {g : TG} (Pv : Nat → St → Hp → Prop) (h0 : Pv 0 σ H) (hl : ∀ i σ H, i ≤ xs.length → Pv i σ H → SqL K H a xs)
    (hs : ∀ i x σ H, xs[i]? = some x → Pv i σ H → g x σ H fun σ2 H2 => t ⟨Pv (i + 1), rt, nx, Pv (i + 1)⟩ σ2 H2) (hd : ∀ σ H, Pv xs.length σ H → nx σ H) : fBody (Itl K a) g t nx rt σ H :=
  for_list (D := ⟨nx, rt, fun _ _ => False, fun _ _ => False⟩) Pv h0 hl hs hd
theorem rd_forT {a : Addr} {xs : List V} {g : TG} (Pv : Nat → St → Hp → Prop) (h0 : Pv 0 σ H) (hl : ∀ i σ H, i ≤ xs.length → Pv i σ H → SqT K H a xs)
    (hs : ∀ i x σ H, xs[i]? = some x → Pv i σ H → g x σ H fun σ2 H2 => t ⟨Pv (i + 1), rt, nx, Pv (i + 1)⟩ σ2 H2) (hd : ∀ σ H, Pv xs.length σ H → nx σ H) : fBody (Itt K a) g t nx rt σ H :=
  for_tup (D := ⟨nx, rt, fun _ _ => False, fun _ _ => False⟩) Pv h0 hl hs hd
theorem rd_iList {S : It → Hp → Prop} (h : ta σ H fun x H1 => ∃ a, x = .ref a ∧ (∃ xs, SqL K H1 a xs) ∧ S (Itl K a) H1) : iList K ta σ H S := h
theorem rd_iTup {S : It → Hp → Prop} (h : ta σ H fun x H1 => ∃ a, x = .ref a ∧ (∃ xs, SqT K H1 a xs) ∧ S (Itt K a) H1) : iTup K ta σ H S := h
theorem rd_ixL {p : Addr} {xs : List V} (h : SqL K H p xs) (ha : atI xs i = some v) (q : Q v H) : rIxL K (.ref p) (.int i) H Q := ⟨p, xs, i, v, rfl, rfl, h, ha, q⟩
theorem rd_ixT {p : Addr} {xs : List V} (h : SqT K H p xs) (ha : atI xs i = some v) (q : Q v H) : rIxT K (.ref p) (.int i) H Q := ⟨p, xs, i, v, rfl, rfl, h, ha, q⟩
theorem rd_inL {p : Addr} {xs : List V} (h : SqL K H p xs) (hx : flatV x = true) (hf : xs.all flatV = true) (q : Q (.bl (inV x xs)) H) : rIn K false x (.ref p) H Q := ⟨p, xs, rfl, .inl h, hx, hf, q⟩
theorem rd_inT {p : Addr} {xs : List V} (h : SqT K H p xs) (hx : flatV x = true) (hf : xs.all flatV = true) (q : Q (.bl (inV x xs)) H) : rIn K false x (.ref p) H Q := ⟨p, xs, rfl, .inr h, hx, hf, q⟩
theorem rd_ninT {p : Addr} {xs : List V} (h : SqT K H p xs) (hx : flatV x = true) (hf : xs.all flatV = true) (q : Q (.bl (!inV x xs)) H) : rIn K true x (.ref p) H Q := ⟨p, xs, rfl, .inr h, hx, hf, q⟩
end
theorem same_new {H : Hp} {p : Addr} {o : HO} (h : H p = none) : Same H (upd H p o) := fun b x e => by
  rw [upd_ne (ne_of_none e h)]
  exact e
end L2

namespace L2
open PySem PySem.Spec PyProof.Rows
section
variable {σ : St} {H : Hp} {Q : VK} {K : PySem.W.Frag} {v : V} {N : St → Hp → Prop} {S : Hp → Prop}
theorem rd_gsub {to ti : TE} {t : TSet} (h : to σ H fun o H1 => ti σ H1 fun i H2 => t o i v H2 fun H3 => N σ H3) : gSub to ti t v σ H N := h
instance st_gsub {to ti : TE} {t : TSet} : Stp (gSub to ti t v σ H N) (to σ H fun o H1 => ti σ H1 fun i H2 => t o i v H2 fun H3 => N σ H3) := ⟨fun h => rd_gsub h⟩
theorem rd_setL {p : Addr} {xs : List V} {k : Int} {j : Nat} (h : H p = some (.lst xs)) (hj : ixN xs.length k = some j) (q : S (upd H p (.lst (xs.set j v)))) : rSetL (.ref p) (.int k) v H S := ⟨p, xs, k, j, rfl, rfl, h, hj, q⟩
theorem rd_ixH {p : Addr} {xs : List V} {i : Int} (h : H p = some (.lst xs)) (ha : atI xs i = some v) (q : Q v H) : rIxL K (.ref p) (.int i) H Q := ⟨p, xs, i, v, rfl, rfl, SqL.of h, ha, q⟩
end
end L2

namespace L2
open PySem PySem.Spec PyProof.Rows
section
variable {σ : St} {H : Hp} {Q : VK} {K : PySem.W.Frag} {v x y : V} {N : St → Hp → Prop} {S : Hp → Prop} {p : Addr} {o : HO}
theorem rd_new {n : Nat} {F : Addr → Prop} (h : n ≤ sizeLine) (q : ∀ p, H p = none → F p) : n ≤ sizeLine ∧ ∀ p, H p = none → F p := ⟨h, q⟩
theorem rd_back {P : Prop} (hp : H p = none) (q : P) : Same H (upd H p o) ∧ P := ⟨same_new hp, q⟩
theorem rd_backR {P : Prop} (q : P) : Same H H ∧ P := ⟨Same.refl H, q⟩
instance st_backR {P : Prop} : Stp (Same H H ∧ P) (P) := ⟨fun h => rd_backR h⟩
theorem inV2 {i a b : Int} : inV (.int i) [.int a, .int b] = decide (i = a ∨ i = b) := by
  simp only [inV, eqV, List.any_cons, List.any_nil, Bool.or_false]
  by_cases h1 : i = a
  · subst h1
    simp
  · by_cases h2 : i = b
    · subst h2
      simp
    · have e1 : (a == i) = false := by simpa using Ne.symm h1
      have e2 : (b == i) = false := by simpa using Ne.symm h2
      rw [e1, e2]
      simp [h1, h2]
theorem rd_in2 {i a b : Int} (q : Q (.bl (decide (i = a ∨ i = b))) (upd H p (.tup [.int a, .int b]))) : rIn K false (.int i) (.ref p) (upd H p (.tup [.int a, .int b])) Q :=
  ⟨p, _, rfl, .inr (SqT.of upd_same), rfl, rfl, by
    show Q (.bl (inV (.int i) [.int a, .int b])) _
    rw [inV2]
    exact q⟩
instance st_in2 {i a b : Int} : Stp (rIn K false (.int i) (.ref p) (upd H p (.tup [.int a, .int b])) Q) (Q (.bl (decide (i = a ∨ i = b))) (upd H p (.tup [.int a, .int b]))) := ⟨fun h => rd_in2 h⟩
theorem rd_gtup {a : Addr} {xs : List V} {n : Nat} {t : TGs} (h : SqT K H a xs) (hn : xs.length = n) (q : t xs σ H N) : gTup K n t (.ref a) σ H N := ⟨a, xs, rfl, h, hn, q⟩
theorem rd_gcons {t : TG} {u : TGs} {xs : List V} (q : t x σ H fun σ' H' => u xs σ' H' N) : gCons t u (x :: xs) σ H N := ⟨x, xs, rfl, q⟩
instance st_gcons {t : TG} {u : TGs} {xs : List V} : Stp (gCons t u (x :: xs) σ H N) (t x σ H fun σ' H' => u xs σ' H' N) := ⟨fun h => rd_gcons h⟩
theorem rd_gnil (q : N σ H) : gNil [] σ H N := ⟨rfl, q⟩
instance st_gnil  : Stp (gNil [] σ H N) (N σ H) := ⟨fun h => rd_gnil h⟩
theorem rd_bm {T : String} {r : V → List V → Hp → VK → Prop} {to : TE} {t : TA} (h : to σ H fun x H1 => tyV K T x H1 ∧ t σ H1 fun xs H2 => r x xs H2 Q) : tBM K T r to t σ H Q := h
instance st_bm {T : String} {r : V → List V → Hp → VK → Prop} {to : TE} {t : TA} : Stp (tBM K T r to t σ H Q) (to σ H fun x H1 => tyV K T x H1 ∧ t σ H1 fun xs H2 => r x xs H2 Q) := ⟨fun h => rd_bm h⟩
theorem rd_bm0 {T : String} {r : V → List V → Hp → VK → Prop} {to : TE} (h : to σ H fun x H1 => tyV K T x H1 ∧ r x [] H1 Q) : tBM0 K T r to σ H Q := h
instance st_bm0 {T : String} {r : V → List V → Hp → VK → Prop} {to : TE} : Stp (tBM0 K T r to σ H Q) (to σ H fun x H1 => tyV K T x H1 ∧ r x [] H1 Q) := ⟨fun h => rd_bm0 h⟩
theorem rd_tyL {xs : List V} {P : Prop} (h : H p = some (.lst xs)) (q : P) : tyV K "list" (.ref p) H ∧ P := ⟨.inl ⟨rfl, _, SqL.of h⟩, q⟩
theorem rd_append {xs : List V} (h : H p = some (.lst xs)) (hl : xs.length < sizeLine) (q : Q .non (upd H p (.lst (xs ++ [y])))) : rAppend (.ref p) [y] H Q := ⟨p, xs, y, rfl, rfl, h, hl, q⟩
theorem same_upd2 {H' : Hp} {o1 : HO} (h : Same H H') (hp : H p = none) : Same H (upd H' p o1) := fun b x e => by
  rw [upd_ne (ne_of_none e hp)]
  exact h b x e
theorem upd_keep {q : Addr} {u : HO} (h : H p = some o) (hq : H q = none) : upd H q u p = some o := (upd_ne (ne_of_none h hq)).trans h
theorem upd_lst {H : Hp} {p : Addr} {a b : HO} : upd (upd H p a) p b = upd H p b := upd_upd
/-- the raising, its argument read -/
theorem rd_err {C : Addr} {n : Nat} {fl : List V → List (Str × V)} {vs : List V} {Q : XK} (hl : vs.length = n) (hn : n ≤ 1000) (h : ∀ d, H d = none → Q (.ref C) (some d) (upd H d (.xd (fl vs)))) : True := trivial
end
end L2

namespace L2
open PySem PySem.Spec PyProof.Rows
theorem rd_cut {σ : St} {H : Hp} {t u : TS} {nx : St → Hp → Prop} {rt : VK} {bk ct : St → Hp → Prop} (Mid : St → Hp → Prop) (h : t ⟨Mid, rt, bk, ct⟩ σ H) (q : ∀ σ' H', Mid σ' H' → u ⟨nx, rt, bk, ct⟩ σ' H') : C8.tCut t u ⟨nx, rt, bk, ct⟩ σ H := ⟨Mid, h, q⟩
/-! ### built-ins, by name -/
def rLenQ (K : PySem.W.Frag) : List V → Hp → VK → Prop := fun xs H Q => ∃ p ys, xs = [.ref p] ∧ (SqL K H p ys ∨ SqT K H p ys) ∧ Q (.int ys.length) H
def rLenS : List V → Hp → VK → Prop := fun xs H Q => ∃ z, xs = [.str z] ∧ z.length ≤ sizeLine ∧ Q (.int z.length) H
def rAbs : List V → Hp → VK → Prop := fun xs H Q => ∃ i, xs = [.int i] ∧ Q (.int (if i < 0 then -i else i)) H
def rMax2 : List V → Hp → VK → Prop := fun xs H Q => ∃ i j, xs = [.int i, .int j] ∧ Q (.int (if j > i then j else i)) H
def rMin2 : List V → Hp → VK → Prop := fun xs H Q => ∃ i j, xs = [.int i, .int j] ∧ Q (.int (if j < i then j else i)) H
def rInt1 : List V → Hp → VK → Prop := fun xs H Q => (∃ i, xs = [.int i] ∧ Q (.int i) H) ∨ ∃ k, xs = [.bl k] ∧ Q (.int (if k then 1 else 0)) H
def rListOf (K : PySem.W.Frag) : List V → Hp → VK → Prop := fun xs H Q => ∃ p ys, xs = [.ref p] ∧ (SqL K H p ys ∨ SqT K H p ys) ∧ ∀ l, H l = none → Q (.ref l) (upd H l (.lst ys))
section
variable {X : Cx}
theorem c_len : CallR X (.builtin "len") (rLenQ X.K) := call_len_seq
theorem c_lenS : CallR X (.builtin "len") rLenS := call_len_str
theorem c_abs : CallR X (.builtin "abs") rAbs := call_abs
theorem c_max2 (hc : X.calm = true) : CallR X (.builtin "max") rMax2 := call_max2 hc
theorem c_min2 (hc : X.calm = true) : CallR X (.builtin "min") rMin2 := call_min2 hc
theorem c_int1 : CallR X (.type "int") rInt1 := call_int1
theorem c_listOf : CallR X (.type "list") (rListOf X.K) := call_list_of
end
section
variable {H : Hp} {Q : VK} {K : PySem.W.Frag} {i j : Int} {p : Addr} {ys : List V}
theorem rd_abs (q : Q (.int (if i < 0 then -i else i)) H) : rAbs [.int i] H Q := ⟨i, rfl, q⟩
instance st_abs  : Stp (rAbs [.int i] H Q) (Q (.int (if i < 0 then -i else i)) H) := ⟨fun h => rd_abs h⟩
theorem rd_max2 (q : Q (.int (if j > i then j else i)) H) : rMax2 [.int i, .int j] H Q := ⟨i, j, rfl, q⟩
instance st_max2  : Stp (rMax2 [.int i, .int j] H Q) (Q (.int (if j > i then j else i)) H) := ⟨fun h => rd_max2 h⟩
theorem rd_min2 (q : Q (.int (if j < i then j else i)) H) : rMin2 [.int i, .int j] H Q := ⟨i, j, rfl, q⟩
instance st_min2  : Stp (rMin2 [.int i, .int j] H Q) (Q (.int (if j < i then j else i)) H) := ⟨fun h => rd_min2 h⟩
theorem rd_int (q : Q (.int i) H) : rInt1 [.int i] H Q := .inl ⟨i, rfl, q⟩
instance st_int  : Stp (rInt1 [.int i] H Q) (Q (.int i) H) := ⟨fun h => rd_int h⟩
theorem rd_intB {b : Bool} (q : Q (.int (if b then 1 else 0)) H) : rInt1 [.bl b] H Q := .inr ⟨b, rfl, q⟩
instance st_intB {b : Bool} : Stp (rInt1 [.bl b] H Q) (Q (.int (if b then 1 else 0)) H) := ⟨fun h => rd_intB h⟩
theorem rd_lenL (h : SqL K H p ys) (q : Q (.int ys.length) H) : rLenQ K [.ref p] H Q := ⟨p, ys, rfl, .inl h, q⟩
theorem rd_lenT (h : SqT K H p ys) (q : Q (.int ys.length) H) : rLenQ K [.ref p] H Q := ⟨p, ys, rfl, .inr h, q⟩
theorem rd_lenS {z : Str} (h : z.length ≤ sizeLine) (q : Q (.int z.length) H) : rLenS [.str z] H Q := ⟨z, rfl, h, q⟩
theorem rd_listOfL (h : SqL K H p ys) (q : ∀ l, H l = none → Q (.ref l) (upd H l (.lst ys))) : rListOf K [.ref p] H Q := ⟨p, ys, rfl, .inl h, q⟩
theorem rd_listOfT (h : SqT K H p ys) (q : ∀ l, H l = none → Q (.ref l) (upd H l (.lst ys))) : rListOf K [.ref p] H Q := ⟨p, ys, rfl, .inr h, q⟩
end
end L2

namespace L2
open PySem PySem.Spec PyProof.Rows
/-- a power with a written exponent -/
def rPowN (e : Nat) : R2 := fun x y H Q => ∃ i, x = .int i ∧ y = .int (e : Int) ∧ e ≤ 1000000 ∧ i.natAbs < 2 ^ 64 ∧ Q (.int (i ^ e)) H
theorem op_powN {X : Cx} (e : Nat) : OpR X (binaryOp .Pow) (rPowN e) := fun pins s σ H x y v u Q I rx ry ⟨i, e1, e2, h1, h2, q⟩ =>
  op_pow pins s σ H x y v u Q I rx ry ⟨i, (e : Int), e1, e2, ⟨Int.natCast_nonneg _, by omega, h2⟩, q⟩
theorem rd_powN {e : Nat} {i z : Int} {H : Hp} {Q : VK} (hz : z = (e : Int)) (h1 : e ≤ 1000000) (h2 : i.natAbs < 2 ^ 64) (q : Q (.int (i ^ e)) H) : rPowN e (.int i) (.int z) H Q := ⟨i, rfl, by rw [hz], h1, h2, q⟩
end L2

namespace L2
open PySem PySem.Spec PyProof.Rows
/-! ### a def of the text, and what it keeps -/
structure DefAt (K : PySem.W.Frag) (mg : Str → Option Value) (x : Str) (st : Stmt) (ps : List Str) : Prop where
  ex : ∃ (f : Addr) (fd : FuncData), Fun K x x st f fd ∧ mg x = some (.ref f) ∧ Binds K fd ps []
structure Def (P : Program) (w : World) (K : PySem.W.Frag) (mg : Str → Option Value) (base : Heap) (k : Nat) (x : Str) (ps : List Str) (sp : Sp) : Prop where
  ex : ∃ (f : Addr) (fd : FuncData), FnOk P w K mg base (L2.CX P w) k f fd ps sp ∧ mg x = some (.ref f) ∧ PySem.W.keepIn K (.ref f) = true ∧ Binds K fd ps []
section
variable {P : Program} {w : World} {K : PySem.W.Frag} {mg : Str → Option Value} {base : Heap}
theorem DefAt.ok {x : Str} {st : Stmt} {N ps : List Str} {k : Nat} {sp : Sp} (D : DefAt K mg x st ps) (S : FnScope N ps (defScope st)) (len : ∀ vs H Q E, sp vs H Q E → vs.length = ps.length)
    (hbody : ∀ (f : Addr) (cdv : Value) (A : Around) (outer : List Env) (s : Shared) (H : Hp) (vs : List V) (Q : VK) (E : XK), Room k (A.deeper (envOfC x (defScope st) s.heap.objs.size f cdv)) → sp vs H Q E →
      ∃ t, PSs (cxOf (L2.CX P w) P w K mg base N x (defScope st) f cdv A outer s H E) (defBody st) t ∧ t ⟨fun _ H' => Q .non H', Q, fun _ _ => False, fun _ _ => False⟩ (start N vs) H) : Def P w K mg base (k + 1) x ps sp := by
  obtain ⟨f, fd, F, g, b⟩ := D.ex
  exact ⟨f, fd, F.okX S len fun cdv A outer s H vs Q E hr h => hbody f cdv A outer s H vs Q E hr h, g, F.kp, b⟩
theorem Def.imp {k : Nat} {x : Str} {ps : List Str} {sp sp' : Sp} (D : Def P w K mg base k x ps sp) (h : ∀ vs H Q E, sp' vs H Q E → sp vs H Q E) : Def P w K mg base k x ps sp' := by
  obtain ⟨f, fd, F, g, kp, b⟩ := D.ex
  exact ⟨f, fd, F.imp h, g, kp, b⟩
theorem Def.mono {j k : Nat} {x : Str} {ps : List Str} {sp : Sp} (D : Def P w K mg base j x ps sp) (h : j ≤ k) : Def P w K mg base k x ps sp := by
  obtain ⟨f, fd, F, g, kp, b⟩ := D.ex
  exact ⟨f, fd, F.mono h, g, kp, b⟩
theorem Def.forget {k : Nat} {x : Str} {ps : List Str} {sp : Sp} (D : Def P w K mg base k x ps sp) : Def P w K mg base k x ps (fun vs H Q E => NoT H ∧ sp vs H (fun v H' => Same H H' ∧ Q v H) E) := by
  obtain ⟨f, fd, F, g, kp, b⟩ := D.ex
  exact ⟨f, fd, fn_forget F, g, kp, b⟩
end
section
variable {X : Cx}
theorem pe_d {k : Nat} {x : Str} {ps : List Str} {sp : Sp} {E : XK} {p pos : Pos} {e : Expr} {es : List Expr} {t : TA} (D : Def X.prog X.w X.K X.mg X.base k x ps sp) (hr : Room k X.A) (hx : Passes (L2.CX X.prog X.w) X E) (ha : PA X (e :: es) t) (hg : Gl X x := by rfl)
    (hd : (x == ("__debug__" : Str)) = false := by decide) (he : starEach (e :: es) X.env = (false, eval e X.env) :: starEach es X.env := by rfl) (hpl : (backTo pos (starEach es X.env)).any (·.1) = false := by rfl) :
    PE X (.Call (.Name x p) (e :: es) [] pos) (tCall sp [] E t) := by
  obtain ⟨f, fd, F, g, kp, b⟩ := D.ex
  exact pe_call F hr hg g kp b .nil hx ha hd he hpl
theorem pe_d0 {k : Nat} {x : Str} {ps : List Str} {sp : Sp} {E : XK} {p pos : Pos} (D : Def X.prog X.w X.K X.mg X.base k x ps sp) (hr : Room k X.A) (hx : Passes (L2.CX X.prog X.w) X E) (hg : Gl X x := by rfl) (hd : (x == ("__debug__" : Str)) = false := by decide) :
    PE X (.Call (.Name x p) [] [] pos) (tCall sp [] E tNil) := by
  obtain ⟨f, fd, F, g, kp, b⟩ := D.ex
  exact pe_call0 F hr hg g kp b .nil hx hd
/-- within a try's body: what is raised is wished for at the caller's slots -/
theorem pe_dS {k : Nat} {x : Str} {ps : List Str} {sp : Sp} {W : WX} {p pos : Pos} {e : Expr} {es : List Expr} {t : TA} (D : Def X.prog X.w X.K X.mg X.base k x ps sp) (hr : Room k X.A) (tk : Takes X W) (ha : PA X (e :: es) t) (hg : Gl X x := by rfl)
    (hd : (x == ("__debug__" : Str)) = false := by decide) (he : starEach (e :: es) X.env = (false, eval e X.env) :: starEach es X.env := by rfl) (hpl : (backTo pos (starEach es X.env)).any (·.1) = false := by rfl) :
    PE X (.Call (.Name x p) (e :: es) [] pos) (tCallS sp (WE W) t) := by
  obtain ⟨f, fd, F, g, kp, b⟩ := D.ex
  exact pe_callS F hr hg g kp b (fun σ => passAt tk σ) ha hd he hpl
theorem rd_callS {sp : Sp} {W : WX} {tr : TA} {σ : St} {H : Hp} {Q : VK} (h : tr σ H fun vs H1 => sp vs H1 Q (WE W σ)) : tCallS sp (WE W) tr σ H Q := h
instance st_callS {sp : Sp} {W : WX} {tr : TA} {σ : St} {H : Hp} {Q : VK} : Stp (tCallS sp (WE W) tr σ H Q) (tr σ H fun vs H1 => sp vs H1 Q (WE W σ)) := ⟨fun h => rd_callS h⟩
end
/-! ### the program's own errors -/
/-- what the top has written of ClockError, at CC -/
structure BaseC (K : PySem.W.Frag) (mg : Str → Option Value) (CC : Addr) : Prop where
  g : mg "ClockError" = some (.ref CC)
  rd : PySem.W.readsIn K CC (.type "type") = true
  ga : PySem.W.specialIn K (.ref CC) "__getattribute__" = some (some (.builtin "type.__getattribute__"))
  ini : PySem.W.findCls K (.ref CC) (.type "type") "__init__" = some (.val (.builtin "ValueError.__init__"))
section
variable {X : Cx} {e : Expr} {es : List Expr} {ta : TA} {p1 p2 pos : Pos}
theorem pe_ceinit {pl : Sem Bool} {CC : Addr} (B : BaseC X.K X.mg CC) (ha : PA X (e :: es) ta) (hg : Gl X "ClockError" := by rfl)
    (hc : eval (.Call (.Attribute (.Name "ClockError" p1) "__init__" p2) (e :: es) [] pos) X.env = (do
      let ov ← eval (.Name "ClockError" p1) X.env
      standAt p2.atName
      let (f, first) ← holding [ov] (getMethod ov "__init__" pl)
      callWith pos f first (backTo pos (starEach (e :: es) X.env)) (backToKw pos (keywordEach [] X.env))) := by rfl)
    (he : starEach (e :: es) X.env = (false, eval e X.env) :: starEach es X.env := by rfl) (hpl : (backTo pos (starEach es X.env)).any (·.1) = false := by rfl) :
    PE X (.Call (.Attribute (.Name "ClockError" p1) "__init__" p2) (e :: es) [] pos) (tVeI X.K ta) := by
  refine ⟨fun pins s σ H Q I h => ?_⟩
  refine PySem.W.methodCall_KW (ld_glob I hg B.g ?_ (by decide)) hc
  refine PySem.W.method_cls I.kIn B.ga (PySem.W.cls_value I.kIn B.rd B.ini (by decide +kernel) ?_)
  show wpAny _ _ (callWith pos (Value.builtin "ValueError.__init__") [] (backTo pos (starEach (e :: es) X.env)) []) _ _ _
  refine PyProof.Rows.callWith_method1 (thn (ha.run pos pins _ σ H _ (I.tok _) h) fun us s1 ⟨vs, H1, I1, r1, a, C, ws, ev, hl, T, ea, q⟩ => ?_) he hpl
  subst ev
  cases r1 with
  | @cons _ u0 _ ur ra rw' =>
    obtain rfl : u0 = Value.ref a := ra
    have hlen : ur.length ≤ sizeLine := by
      rw [← Paired.length rw', sizeLine_eq]
      omega
    exact oinit_ok T I1 ea hlen fun s' J => ⟨.non, H1, J, rfl, q⟩
end
/-- __init__ of an error with fields: the values ws become fl ws -/
def spErr (C : Addr) (n : Nat) (fl : List V → List (Str × V)) : Sp := fun vs H Q _ => ∃ (a : Addr) (ws : List V), vs = .ref a :: ws ∧ ws.length = n ∧ H a = some (exo a C none) ∧
  ∀ dx, H dx = none → dx ≠ a → Q .non (upd (upd H dx (exd dx (fl ws))) a (exo a C (some dx)))
/-- a class of the program's errors: raised by its name, with n values, the fields fl -/
structure ErrC (P : Program) (w : World) (K : PySem.W.Frag) (mg : Str → Option Value) (base : Heap) (x : Str) (n : Nat) (fl : List V → List (Str × V)) (C : Addr) : Prop where
  g : mg x = some (.ref C)
  T : OexC K C
  X : XfC K C
  self : PySem.W.exmOne K (.ref C) (.ref C) = some true
  ini : ∃ (fI : Addr) (fd : FuncData) (ps : List Str), PySem.W.findIn K (.ref C) "__init__" = some (some (.ref fI)) ∧ PySem.W.typeIn K (.ref fI) = some (.type "function") ∧ FnOk P w K mg base (L2.CX P w) 1 fI fd ps (spErr C n fl) ∧ Binds K fd ps []
theorem pmk_err {X : Cx} {x : Str} {C : Addr} {n : Nat} {fl : List V → List (Str × V)} {e : Expr} {es : List Expr} {ta : TA} {p pos : Pos} (Z : ErrC X.prog X.w X.K X.mg X.base x n fl C) (hr : Room 2 X.A) (ha : PA X (e :: es) ta) (hg : Gl X x := by rfl)
    (hdb : (x == ("__debug__" : Str)) = false := by decide) (he : starEach (e :: es) X.env = (false, eval e X.env) :: starEach es X.env := by rfl) (hpl : (backTo pos (starEach es X.env)).any (·.1) = false := by rfl) :
    PMk X (.Call (.Name x p) (e :: es) [] pos) (tMkO C (spErr C n fl) [] ta) := by
  obtain ⟨fI, fd, ps, iC, tI, F, b⟩ := Z.ini
  exact pmk_oex Z.T iC tI F hr b .nil passL hg Z.g ha hdb he hpl
/-- what the raising asks -/
theorem rd_mk {C : Addr} {n : Nat} {fl : List V → List (Str × V)} {ta : TA} {σ : St} {H : Hp} {Q : XK} (h : ta σ H fun vs H1 => vs.length ≤ 1000 ∧ ∀ a, H1 a = none → spErr C n fl (.ref a :: (vs ++ [])) (upd H1 a (exo a C none))
  (fun v H2 => v = .non ∧ ∃ (d : Addr) (fs : List (Str × V)), H2 a = some (exo a C (some d)) ∧ H2 d = some (exd d fs) ∧ H1 d = none ∧ Q (.ref C) (some d) (upd (del H2 a) d (.xd fs))) (fun _ _ _ => False)) : tMkO C (spErr C n fl) [] ta σ H Q := h
instance st_mk {C : Addr} {n : Nat} {fl : List V → List (Str × V)} {ta : TA} {σ : St} {H : Hp} {Q : XK} : Stp (tMkO C (spErr C n fl) [] ta σ H Q) (ta σ H fun vs H1 => vs.length ≤ 1000 ∧ ∀ a, H1 a = none → spErr C n fl (.ref a :: (vs ++ [])) (upd H1 a (exo a C none))
  (fun v H2 => v = .non ∧ ∃ (d : Addr) (fs : List (Str × V)), H2 a = some (exo a C (some d)) ∧ H2 d = some (exd d fs) ∧ H1 d = none ∧ Q (.ref C) (some d) (upd (del H2 a) d (.xd fs))) (fun _ _ _ => False)) := ⟨fun h => rd_mk h⟩
theorem rd_mk1 {C : Addr} {n : Nat} {fl : List V → List (Str × V)} {vs : List V} {H1 : Hp} {Q : XK} (hl : vs.length = n) (hn : n ≤ 1000) (h : ∀ d, H1 d = none → Q (.ref C) (some d) (upd H1 d (.xd (fl vs)))) :
    vs.length ≤ 1000 ∧ ∀ a, H1 a = none → spErr C n fl (.ref a :: (vs ++ [])) (upd H1 a (exo a C none))
      (fun v H2 => v = .non ∧ ∃ (d : Addr) (fs : List (Str × V)), H2 a = some (exo a C (some d)) ∧ H2 d = some (exd d fs) ∧ H1 d = none ∧ Q (.ref C) (some d) (upd (del H2 a) d (.xd fs))) (fun _ _ _ => False) := by
  refine ⟨by omega, fun a na => ⟨a, vs, by rw [List.append_nil], hl, upd_same, fun dx nd ne => ⟨rfl, dx, fl vs, upd_same, ?_, ?_, ?_⟩⟩⟩
  · rw [upd_ne ne, upd_same]
  · rw [upd_ne ne] at nd
    exact nd
  · have nd' : H1 dx = none := by
      rw [upd_ne ne] at nd
      exact nd
    have z := h dx nd'
    have eq : upd (del (upd (upd (upd H1 a (exo a C none)) dx (exd dx (fl vs))) a (exo a C (some dx))) a) dx (.xd (fl vs)) = upd H1 dx (.xd (fl vs)) := by
      funext b
      by_cases hb : b = dx
      · rw [hb, upd_same, upd_same]
      · rw [upd_ne hb, upd_ne hb]
        by_cases ha : b = a
        · rw [ha, del_same, na]
        · rw [del_ne ha, upd_ne ha, upd_ne hb, upd_ne ha]
    rw [eq]
    exact z
end L2

namespace L2
open PySem PySem.Spec PyProof.Rows
/-- what the top has written of an error's class -/
structure ErrRaw (K : PySem.W.Frag) (mg : Str → Option Value) (x : Str) (C : Addr) (sI : Stmt) (qual : Str) (ps : List Str) : Prop where
  g : mg x = some (.ref C)
  T : OexC K C
  X : XfC K C
  self : PySem.W.exmOne K (.ref C) (.ref C) = some true
  ini : ∃ (fI : Addr) (fd : FuncData), PySem.W.findIn K (.ref C) "__init__" = some (some (.ref fI)) ∧ PySem.W.typeIn K (.ref fI) = some (.type "function") ∧ Fun K "__init__" qual sI fI fd ∧ Binds K fd ps []
theorem ErrC.of {P : Program} {w : World} {K : PySem.W.Frag} {mg : Str → Option Value} {base : Heap} {x : Str} {C : Addr} {sI : Stmt} {qual : Str} {ps : List Str} {n : Nat} {fl : List V → List (Str × V)} (R : ErrRaw K mg x C sI qual ps)
    (h : ∀ (fI : Addr) (fd : FuncData), Fun K "__init__" qual sI fI fd → FnOk P w K mg base (L2.CX P w) 1 fI fd ps (spErr C n fl)) : ErrC P w K mg base x n fl C := by
  obtain ⟨fI, fd, i, t, F, b⟩ := R.ini
  exact ⟨R.g, R.T, R.X, R.self, fI, fd, ps, i, t, h fI fd F, b⟩
/-- an error of the class at S is what «except S» names -/
theorem exm_self {K : PySem.W.Frag} {S : Addr} (h1 : PySem.W.subIn K (.ref S) (.type "BaseException") = some true) (h2 : PySem.W.isClsIn K S = true) (h3 : PySem.W.typeIn K (.ref S) = some (.type "type")) (h4 : PySem.W.subIn K (.ref S) (.ref S) = some true) :
    PySem.W.exmOne K (.ref S) (.ref S) = some true := by
  have e1 : (PySem.W.subIn K (.ref S) (.type "BaseException") == some true) = true := by rw [h1] <;> rfl
  have e2 : ((PySem.W.clsIn K S).isSome && PySem.W.typeIn K (.ref S) == some (.type "type")) = true := by
    have h2' : (PySem.W.clsIn K S).isSome = true := h2
    rw [h2', h3] <;> rfl
  show (if (PySem.W.subIn K (.ref S) (.type "BaseException") == some true) = true then (if ((PySem.W.clsIn K S).isSome && PySem.W.typeIn K (.ref S) == some (.type "type")) = true then PySem.W.subIn K (.ref S) (.ref S) else none) else none) = some true
  rw [if_pos e1, if_pos e2]
  exact h4
theorem NoT.only {H : Hp} (h : Only H) : NoT H := fun a o e => by
  rcases h a with z | ⟨u, xs, z⟩
  · rw [z] at e
    cases e
  · rw [z] at e
    cases e
    rfl
theorem len_1 {α : Type} {ws : List α} (h : ws.length = 1) : ∃ a, ws = [a] := match ws, h with | [a], _ => ⟨a, rfl⟩
theorem len_2 {α : Type} {ws : List α} (h : ws.length = 2) : ∃ a b, ws = [a, b] := match ws, h with | [a, b], _ => ⟨a, b, rfl⟩
theorem len_3 {α : Type} {ws : List α} (h : ws.length = 3) : ∃ a b c, ws = [a, b, c] := match ws, h with | [a, b, c], _ => ⟨a, b, c, rfl⟩
/-- law's: a list of at most 63 ints is handed in, True comes out -/
def spLaw (K : PySem.W.Frag) : Sp := fun vs H Q _ => ∃ (a : Addr) (ns : List Int), vs = [.ref a] ∧ SqL K H a (ns.map V.int) ∧ ns.length ≤ 63 ∧ NoT H ∧ ∀ H', Q (.bl true) H'
end L2

namespace L2
open PySem PySem.Spec PyProof.Rows
/-! ### what is walked, by name -/
def rRng1 (S : It → Hp → Prop) (vs : List V) (H : Hp) : Prop := ∃ j : Int, vs = [.int j] ∧ -(2 ^ 62) ≤ j ∧ j < 2 ^ 62 ∧ S (Itr 0 j.toNat) H
def rRng2 (S : It → Hp → Prop) (vs : List V) (H : Hp) : Prop := ∃ i j : Int, vs = [.int i, .int j] ∧ (-(2 ^ 62) ≤ i ∧ i < 2 ^ 62 ∧ -(2 ^ 62) ≤ j ∧ j < 2 ^ 62) ∧ S (Itr i (j - i).toNat) H
def rItL (K : PySem.W.Frag) (S : It → Hp → Prop) (x : V) (H : Hp) : Prop := ∃ a, x = .ref a ∧ (∃ xs, SqL K H a xs) ∧ S (Itl K a) H
def rItT (K : PySem.W.Frag) (S : It → Hp → Prop) (x : V) (H : Hp) : Prop := ∃ a, x = .ref a ∧ (∃ xs, SqT K H a xs) ∧ S (Itt K a) H
section
variable {σ : St} {H : Hp} {Q : VK} {K : PySem.W.Frag} {v x y : V} {ta te : TE} {tt : TT} {tr : TA} {S : It → Hp → Prop}
theorem rd_iR1 (h : tr σ H (rRng1 S)) : iRng1 tr σ H S := h
instance st_iR1  : Stp (iRng1 tr σ H S) (tr σ H (rRng1 S)) := ⟨fun h => rd_iR1 h⟩
theorem rd_iR2 (h : tr σ H (rRng2 S)) : iRng2 tr σ H S := h
instance st_iR2  : Stp (iRng2 tr σ H S) (tr σ H (rRng2 S)) := ⟨fun h => rd_iR2 h⟩
theorem rd_r1 {n : Int} (h1 : -(2 ^ 62) ≤ n) (h2 : n < 2 ^ 62) (q : S (Itr 0 n.toNat) H) : rRng1 S [.int n] H := ⟨n, rfl, h1, h2, q⟩
theorem rd_r2 {m n : Int} (h1 : -(2 ^ 62) ≤ m ∧ m < 2 ^ 62 ∧ -(2 ^ 62) ≤ n ∧ n < 2 ^ 62) (q : S (Itr m (n - m).toNat) H) : rRng2 S [.int m, .int n] H := ⟨m, n, rfl, h1, q⟩
theorem rd_iL (h : ta σ H (rItL K S)) : iList K ta σ H S := h
instance st_iL  : Stp (iList K ta σ H S) (ta σ H (rItL K S)) := ⟨fun h => rd_iL h⟩
theorem rd_iT (h : ta σ H (rItT K S)) : iTup K ta σ H S := h
instance st_iT  : Stp (iTup K ta σ H S) (ta σ H (rItT K S)) := ⟨fun h => rd_iT h⟩
theorem rd_iL1 {a : Addr} {xs : List V} (h : SqL K H a xs) (q : S (Itl K a) H) : rItL K S (.ref a) H := ⟨a, rfl, ⟨xs, h⟩, q⟩
theorem rd_iT1 {a : Addr} {xs : List V} (h : SqT K H a xs) (q : S (Itt K a) H) : rItT K S (.ref a) H := ⟨a, rfl, ⟨xs, h⟩, q⟩
/-! ### list comprehensions -/
def lcB (J : It) (g : TG) (tt : TT) (te : TE) (vs : List Nat) (σ : St) (Q : VK) (H1 : Hp) : Prop := ∀ D, H1 D = none → ∃ W : Nat → Nat → Hp → Prop, (∃ m, W 0 m (upd H1 D (.lst []))) ∧ ∀ i m H, W i m H →
  (J.stop i H ∧ Q (.ref D) H) ∨ (J.go i H ∧ ∃ Nx : Hp → Prop, (∀ H', Nx H' → ∃ m', m' < m ∧ W (i + 1) m' H') ∧ ∀ x H', J.yld i H x H' → g x (wipe σ vs) H' fun σ2 H2 => wipe σ2 vs = wipe σ vs ∧ tt σ2 H2 fun b H3 =>
    if b = true then te σ2 H3 fun y H4 => ∃ acc, H4 D = some (.lst acc) ∧ acc.length < sizeLine ∧ Nx (upd H4 D (.lst (acc ++ [y]))) else Nx H3)
theorem rd_lc {wi : TI} {g : TG} {vs : List Nat} (h : wi σ H fun J H1 => lcB J g tt te vs σ Q H1) : tLc wi g tt te vs σ H Q := h
instance st_lc {wi : TI} {g : TG} {vs : List Nat} : Stp (tLc wi g tt te vs σ H Q) (wi σ H fun J H1 => lcB J g tt te vs σ Q H1) := ⟨fun h => rd_lc h⟩
theorem rd_yes {R : Bool → Hp → Prop} (q : R true H) : tYes σ H R := q
instance st_yes {R : Bool → Hp → Prop} : Stp (tYes σ H R) (R true H) := ⟨fun h => rd_yes h⟩
/-- the item that was made goes onto the list; or none does -/
def LcPut (H : Hp) (D : Addr) (l0 l1 : List V) (y : V) (H4 : Hp) : Prop := ∃ acc, H4 D = some (.lst acc) ∧ acc.length < sizeLine ∧ upd H4 D (.lst (acc ++ [y])) = upd H D (.lst l1)
def LcSkip (H : Hp) (D : Addr) (l1 : List V) (H3 : Hp) : Prop := H3 = upd H D (.lst l1)
def resR (p : Nat → Bool) (f : Nat → V) (i : Nat) : List V := ((List.range i).filter p).map f
def resL (p : V → Bool) (f : V → V) (xs : List V) : List V := (xs.filter p).map f
theorem resR_len {p : Nat → Bool} {f : Nat → V} {i : Nat} : (resR p f i).length ≤ i := by
  unfold resR
  rw [List.length_map]
  have z : ((List.range i).filter p).length ≤ (List.range i).length := List.length_filter_le _ _
  rw [List.length_range] at z
  exact z
theorem resL_len {p : V → Bool} {f : V → V} {xs : List V} : (resL p f xs).length ≤ xs.length := by
  unfold resL
  rw [List.length_map]
  exact List.length_filter_le _ _
theorem put_R {D : Addr} {p : Nat → Bool} {f : Nat → V} {i : Nat} {y : V} (hi : i < 1000000) (hp : p i = true) (hy : y = f i) : LcPut H D (resR p f i) (resR p f (i + 1)) y (upd H D (.lst (resR p f i))) := by
  refine ⟨_, upd_same, Nat.lt_of_le_of_lt resR_len (Nat.lt_trans hi (by decide)), ?_⟩
  rw [upd_upd]
  unfold resR
  rw [List.range_succ, List.filter_append, List.map_append, hy]
  simp [hp]
theorem skip_R {D : Addr} {p : Nat → Bool} {f : Nat → V} {i : Nat} (hp : p i = false) : LcSkip H D (resR p f (i + 1)) (upd H D (.lst (resR p f i))) := by
  show upd H D _ = _
  unfold resR
  rw [List.range_succ, List.filter_append, List.map_append]
  simp [hp]
theorem put_L {D : Addr} {p : V → Bool} {f : V → V} {xs : List V} {x y : V} (hi : xs.length < 1000000) (hp : p x = true) (hy : y = f x) : LcPut H D (resL p f xs) (resL p f (xs ++ [x])) y (upd H D (.lst (resL p f xs))) := by
  refine ⟨_, upd_same, Nat.lt_of_le_of_lt resL_len (Nat.lt_trans hi (by decide)), ?_⟩
  rw [upd_upd]
  unfold resL
  rw [List.filter_append, List.map_append, hy]
  simp [hp]
theorem skip_L {D : Addr} {p : V → Bool} {f : V → V} {xs : List V} {x : V} (hp : p x = false) : LcSkip H D (resL p f (xs ++ [x])) (upd H D (.lst (resL p f xs))) := by
  show upd H D _ = _
  unfold resL
  rw [List.filter_append, List.map_append]
  simp [hp]
theorem rd_lcR {lo : Int} {n : Nat} {g : TG} {vs : List Nat} (p : Nat → Bool) (f : Nat → V)
    (hs : ∀ D i, H D = none → i < n → g (.int (lo + i)) (wipe σ vs) (upd H D (.lst (resR p f i))) fun σ2 H2 => wipe σ2 vs = wipe σ vs ∧ tt σ2 H2 fun b H3 => if b = true then te σ2 H3 (LcPut H D (resR p f i) (resR p f (i + 1))) else LcSkip H D (resR p f (i + 1)) H3)
    (q : ∀ D, H D = none → Q (.ref D) (upd H D (.lst (((List.range n).filter p).map f)))) : lcB (Itr lo n) g tt te vs σ Q H := by
  intro D hD
  refine ⟨fun i m H' => m = n - i ∧ i ≤ n ∧ H' = upd H D (.lst (resR p f i)), ⟨n, by simp, Nat.zero_le _, rfl⟩, ?_⟩
  rintro i m H' ⟨rfl, hi, rfl⟩
  by_cases hlt : i < n
  · refine .inr ⟨hlt, fun H' => H' = upd H D (.lst (resR p f (i + 1))), fun H' p' => ⟨n - (i + 1), by omega, rfl, hlt, p'⟩, fun x H' y => ?_⟩
    obtain ⟨e, y⟩ := y
    subst e y
    exact hs D i hD hlt
  · have e : i = n := by omega
    subst e
    exact .inl ⟨Nat.le_refl _, q D hD⟩
theorem rd_lcL {a : Addr} {xs : List V} {g : TG} {vs : List Nat} (p : V → Bool) (f : V → V) (hS : SqL K H a xs)
    (hs : ∀ D l x r, H D = none → xs = l ++ x :: r → g x (wipe σ vs) (upd H D (.lst (resL p f l))) fun σ2 H2 => wipe σ2 vs = wipe σ vs ∧ tt σ2 H2 fun b H3 => if b = true then te σ2 H3 (LcPut H D (resL p f l) (resL p f (l ++ [x]))) else LcSkip H D (resL p f (l ++ [x])) H3)
    (q : ∀ D, H D = none → Q (.ref D) (upd H D (.lst ((xs.filter p).map f)))) : lcB (Itl K a) g tt te vs σ Q H := by
  intro D hD
  refine ⟨fun i m H' => m = xs.length - i ∧ i ≤ xs.length ∧ H' = upd H D (.lst (resL p f (xs.take i))), ⟨xs.length, by simp, Nat.zero_le _, rfl⟩, ?_⟩
  rintro i m H' ⟨rfl, hi, rfl⟩
  have hS' : SqL K (upd H D (.lst (resL p f (xs.take i)))) a xs := (same_new hD).seq hS
  by_cases hlt : i < xs.length
  · have hx : xs[i]? = some xs[i] := by simp [hlt]
    have er : xs.take (i + 1) = xs.take i ++ [xs[i]] := by rw [List.take_add_one, hx]; rfl
    refine .inr ⟨⟨xs, xs[i], hS', hx⟩, fun H' => H' = upd H D (.lst (resL p f (xs.take (i + 1)))), fun H' p' => ⟨xs.length - (i + 1), by omega, rfl, hlt, p'⟩, fun x H' y => ?_⟩
    obtain ⟨e, y⟩ := y
    subst e
    have ex : x = xs[i] := Option.some.inj ((y xs hS').symm.trans hx)
    subst ex
    have z := hs D (xs.take i) xs[i] (xs.drop (i + 1)) hD (by rw [List.getElem_cons_drop, List.take_append_drop])
    rw [← er] at z
    exact z
  · have e : i = xs.length := by omega
    subst e
    rw [List.take_length]
    exact .inl ⟨⟨xs, (same_new hD).seq hS, Nat.le_refl _⟩, q D hD⟩
/-! ### deep equality -/
theorem rd_eqD {d e : PyData} (h1 : Dp K H x d) (h2 : Dp K H y e) (s1 : SeqAt.shaped d = true) (s2 : SeqAt.shaped e = true) (q : Q (.bl (PyData.eqv d e)) H) : rEqD K x y H Q := ⟨d, e, h1, h2, s1, s2, q⟩
theorem rd_neD {d e : PyData} (h1 : Dp K H x d) (h2 : Dp K H y e) (s1 : SeqAt.shaped d = true) (s2 : SeqAt.shaped e = true) (q : Q (.bl (!PyData.eqv d e)) H) : rNeD K x y H Q := ⟨d, e, h1, h2, s1, s2, q⟩
end
section
variable {K : PySem.W.Frag} {H : Hp}
theorem dpAll_ints : ∀ ns : List Int, DpAll K H (ns.map V.int) (ns.map PyData.int)
  | [] => .nil
  | n :: r => .cons (.int n) (dpAll_ints r)
theorem dpAll_bls : ∀ ns : List Bool, DpAll K H (ns.map V.bl) (ns.map PyData.bool)
  | [] => .nil
  | n :: r => .cons (.bl n) (dpAll_bls r)
theorem dp_ints {a : Addr} {ns : List Int} (h : SqL K H a (ns.map V.int)) : Dp K H (.ref a) (.list (ns.map PyData.int)) := .lst h (dpAll_ints ns)
theorem dp_bls {a : Addr} {ns : List Bool} (h : SqL K H a (ns.map V.bl)) : Dp K H (.ref a) (.list (ns.map PyData.bool)) := .lst h (dpAll_bls ns)
end
theorem lay_ints : ∀ ns : List Int, PyData.canLayAll0 (ns.map PyData.int) = true
  | [] => rfl
  | n :: r => by
    rw [List.map_cons]
    simp [PyData.canLayAll0, lay_ints r, PyData.canLay0]
theorem eqv_ints : ∀ ns ms : List Int, PyData.eqvAll (ns.map PyData.int) (ms.map PyData.int) = decide (ns = ms)
  | [], [] => rfl
  | [], _ :: _ => rfl
  | _ :: _, [] => rfl
  | n :: r, m :: s => by
    rw [List.map_cons, List.map_cons, PyData.eqvAll, eqv_ints r s]
    by_cases h : n = m
    · subst h
      simp [PyData.eqv]
    · have : (n == m) = false := by simpa using h
      simp [PyData.eqv, this, h]
theorem eqv_bls : ∀ ns ms : List Bool, PyData.eqvAll (ns.map PyData.bool) (ms.map PyData.bool) = decide (ns = ms)
  | [], [] => rfl
  | [], _ :: _ => rfl
  | _ :: _, [] => rfl
  | n :: r, m :: s => by
    rw [List.map_cons, List.map_cons, PyData.eqvAll, eqv_bls r s]
    by_cases h : n = m
    · subst h
      simp [PyData.eqv]
    · have : (n == m) = false := by simpa using h
      simp [PyData.eqv, this, h]
/-! ### a clause of a try -/
section
variable {σ : St} {H : Hp} {K : PySem.W.Frag} {nx : St → Hp → Prop} {rt : VK} {bk ct : St → Hp → Prop} {Q : VK} {te : TE}
theorem rd_was {c cls : Value} {i : Nat} {ts : Addr → Value → Option Addr → TS} {Wout : WX} {d : Option Addr} (hx : PySem.W.exmOne K cls c = some true)
    (q : ∀ a, H a = none → ts a cls d ⟨fun σ' H' => nx (σ'.set i none) H', rt, fun σ' H' => bk (σ'.set i none) H', fun σ' H' => ct (σ'.set i none) H'⟩ (σ.set i (some (.ref a))) H) : WE (wAs K c i ts Wout ⟨nx, rt, bk, ct⟩) σ cls d H :=
  ⟨true, hx, fun _ a h => q a h, fun h => nomatch h⟩
theorem rd_wonly {c cls : Value} {ts : Addr → Value → Option Addr → TS} {Wout : WX} {d : Option Addr} (hx : PySem.W.exmOne K cls c = some true)
    (q : ∀ a, H a = none → ts a cls d ⟨nx, rt, bk, ct⟩ σ H) : WE (wOnly K c ts Wout ⟨nx, rt, bk, ct⟩) σ cls d H :=
  ⟨true, hx, fun _ a h => q a h, fun h => nomatch h⟩
def XfB (a : Addr) (cls : Value) (d : Option Addr) (C : Addr) (f : Str) (x : V) (H1 : Hp) (Q : VK) : Prop := x = .ref a ∧ cls = .ref C ∧ ∃ (dd : Addr) (fs : List (Str × V)) (v : V), d = some dd ∧ H1 dd = some (.xd fs) ∧ fs.lookup f = some v ∧ Q v H1
theorem rd_xf {a C : Addr} {cls : Value} {d : Option Addr} {f : Str} (h : te σ H fun x H1 => XfB a cls d C f x H1 Q) : tXf a cls d C f te σ H Q := h
instance st_xf {a C : Addr} {cls : Value} {d : Option Addr} {f : Str} : Stp (tXf a cls d C f te σ H Q) (te σ H fun x H1 => XfB a cls d C f x H1 Q) := ⟨fun h => rd_xf h⟩
theorem rd_xfb {a C dd : Addr} {f : Str} {fs : List (Str × V)} {v : V} (h : H dd = some (.xd fs)) (hl : fs.lookup f = some v) (q : Q v H) : XfB a (.ref C) (some dd) C f (.ref a) H Q := ⟨rfl, rfl, dd, fs, v, rfl, h, hl, q⟩
end
end L2

namespace L2
open PySem PySem.Spec PyProof.Rows
section
variable {σ : St} {H : Hp} {Q : VK} {K : PySem.W.Frag} {N : St → Hp → Prop}
theorem rd_isiII {i : Int} (q : Q (.bl true) H) : rIsi K [.int i, .ty "int"] H Q := ⟨_, _, _, _, true, rfl, .ty _, .base (.int i), kit_ty (by decide +kernel), q⟩
instance st_isiII {i : Int} : Stp (rIsi K [.int i, .ty "int"] H Q) (Q (.bl true) H) := ⟨fun h => rd_isiII h⟩
theorem rd_isiIB {i : Int} (q : Q (.bl false) H) : rIsi K [.int i, .ty "bool"] H Q := ⟨_, _, _, _, false, rfl, .ty _, .base (.int i), kit_ty (by decide +kernel), q⟩
instance st_isiIB {i : Int} : Stp (rIsi K [.int i, .ty "bool"] H Q) (Q (.bl false) H) := ⟨fun h => rd_isiIB h⟩
theorem rd_isiBB {b : Bool} (q : Q (.bl true) H) : rIsi K [.bl b, .ty "bool"] H Q := ⟨_, _, _, _, true, rfl, .ty _, .base (.bl b), kit_ty (by decide +kernel), q⟩
instance st_isiBB {b : Bool} : Stp (rIsi K [.bl b, .ty "bool"] H Q) (Q (.bl true) H) := ⟨fun h => rd_isiBB h⟩
theorem rd_unl {a : Addr} {xs : List V} {n : Nat} {t : TGs} (h : SqL K H a xs) (hn : xs.length = n) (q : t xs σ H N) : gUnl K n t (.ref a) σ H N := ⟨a, xs, rfl, h, hn, q⟩
theorem rd_slL {a : Addr} {xs : List V} {lo hi : Option Int} (h : SqL K H a xs) (q : ∀ p, H p = none → Q (.ref p) (upd H p (.lst (cutV xs lo hi)))) : rSlL K (.ref a) lo hi H Q := ⟨a, xs, rfl, h, q⟩
theorem rd_sl {r : V → Option Int → Option Int → Hp → VK → Prop} {te : TE} {tl th : TO} (h : te σ H fun x H1 => tl σ H1 fun l H2 => th σ H2 fun u H3 => r x l u H3 Q) : tSl r te tl th σ H Q := h
instance st_sl {r : V → Option Int → Option Int → Hp → VK → Prop} {te : TE} {tl th : TO} : Stp (tSl r te tl th σ H Q) (te σ H fun x H1 => tl σ H1 fun l H2 => th σ H2 fun u H3 => r x l u H3 Q) := ⟨fun h => rd_sl h⟩
theorem rd_noPart {R : Option Int → Hp → Prop} (q : R none H) : tNoPart σ H R := q
instance st_noPart {R : Option Int → Hp → Prop} : Stp (tNoPart σ H R) (R none H) := ⟨fun h => rd_noPart h⟩
def rPart (R : Option Int → Hp → Prop) (x : V) (H : Hp) : Prop := ∃ i, x = .int i ∧ R (some i) H
theorem rd_part {te : TE} {R : Option Int → Hp → Prop} (h : te σ H (rPart R)) : tPart te σ H R := h
instance st_part {te : TE} {R : Option Int → Hp → Prop} : Stp (tPart te σ H R) (te σ H (rPart R)) := ⟨fun h => rd_part h⟩
theorem rd_part1 {i : Int} {R : Option Int → Hp → Prop} (q : R (some i) H) : rPart R (.int i) H := ⟨i, rfl, q⟩
instance st_part1 {i : Int} {R : Option Int → Hp → Prop} : Stp (rPart R (.int i) H) (R (some i) H) := ⟨fun h => rd_part1 h⟩
theorem rd_cat {l b : Addr} {xs zs : List V} (h1 : H l = some (.lst xs)) (h2 : H b = some (.lst zs)) (h3 : xs.length + zs.length ≤ sizeLine) (q : ∀ p, H p = none → Q (.ref p) (upd H p (.lst (xs ++ zs)))) : rCat (.ref l) (.ref b) H Q := ⟨l, b, xs, zs, rfl, rfl, h1, h2, h3, q⟩
end
end L2
namespace L2
theorem lt_pow_of {i : Int} {k : Nat} (h1 : -(2 ^ k) < i) (h2 : i < 2 ^ k) : i.natAbs < 2 ^ k := by
  have e : ((2 ^ k : Nat) : Int) = 2 ^ k := by rw [Int.natCast_pow]; rfl
  omega
theorem CMulB.wide {i j : Int} (h1 : -(2 ^ 250) < i ∧ i < 2 ^ 250) (h2 : -(2 ^ 250) < j ∧ j < 2 ^ 250) : CMulB i j :=
  .inr (wide_mul (lt_pow_of h1.1 h1.2) (lt_pow_of h2.1 h2.2) (by decide) (by decide) (by decide))
end L2
namespace L2
open PySem PySem.Spec PyProof.Rows
section
variable {H : Hp} {Q : VK} {K : PySem.W.Frag} {p : Addr}
theorem rd_in2L {i a b : Int} (q : Q (.bl (decide (i = a ∨ i = b))) (upd H p (.lst [.int a, .int b]))) : rIn K false (.int i) (.ref p) (upd H p (.lst [.int a, .int b])) Q :=
  ⟨p, _, rfl, .inl (SqL.of upd_same), rfl, rfl, by
    show Q (.bl (inV (.int i) [.int a, .int b])) _
    rw [inV2]
    exact q⟩
instance st_in2L {i a b : Int} : Stp (rIn K false (.int i) (.ref p) (upd H p (.lst [.int a, .int b])) Q) (Q (.bl (decide (i = a ∨ i = b))) (upd H p (.lst [.int a, .int b]))) := ⟨fun h => rd_in2L h⟩
theorem rd_nin2L {i a b : Int} (q : Q (.bl (!decide (i = a ∨ i = b))) (upd H p (.lst [.int a, .int b]))) : rIn K true (.int i) (.ref p) (upd H p (.lst [.int a, .int b])) Q :=
  ⟨p, _, rfl, .inl (SqL.of upd_same), rfl, rfl, by
    show Q (.bl (!inV (.int i) [.int a, .int b])) _
    rw [inV2]
    exact q⟩
instance st_nin2L {i a b : Int} : Stp (rIn K true (.int i) (.ref p) (upd H p (.lst [.int a, .int b])) Q) (Q (.bl (!decide (i = a ∨ i = b))) (upd H p (.lst [.int a, .int b]))) := ⟨fun h => rd_nin2L h⟩
theorem rd_nin2 {i a b : Int} (q : Q (.bl (!decide (i = a ∨ i = b))) (upd H p (.tup [.int a, .int b]))) : rIn K true (.int i) (.ref p) (upd H p (.tup [.int a, .int b])) Q :=
  ⟨p, _, rfl, .inr (SqT.of upd_same), rfl, rfl, by
    show Q (.bl (!inV (.int i) [.int a, .int b])) _
    rw [inV2]
    exact q⟩
instance st_nin2 {i a b : Int} : Stp (rIn K true (.int i) (.ref p) (upd H p (.tup [.int a, .int b])) Q) (Q (.bl (!decide (i = a ∨ i = b))) (upd H p (.tup [.int a, .int b]))) := ⟨fun h => rd_nin2 h⟩
theorem beq_str {a s : Str} : (a == s) = decide (s = a) := by
  rw [Bool.beq_eq_decide_eq]
  exact decide_eq_decide.mpr eq_comm
theorem inVs4 {s a b c d : Str} : inV (.str s) [.str a, .str b, .str c, .str d] = decide (s = a ∨ s = b ∨ s = c ∨ s = d) := by
  simp only [inV, eqV, List.any_cons, List.any_nil, Bool.or_false, Bool.decide_or, beq_str]
theorem rd_ninS4 {s a b c d : Str} (q : Q (.bl (!decide (s = a ∨ s = b ∨ s = c ∨ s = d))) (upd H p (.lst [.str a, .str b, .str c, .str d]))) : rIn K true (.str s) (.ref p) (upd H p (.lst [.str a, .str b, .str c, .str d])) Q :=
  ⟨p, _, rfl, .inl (SqL.of upd_same), rfl, rfl, by
    show Q (.bl (!inV (.str s) [.str a, .str b, .str c, .str d])) _
    rw [inVs4]
    exact q⟩
instance st_ninS4 {s a b c d : Str} : Stp (rIn K true (.str s) (.ref p) (upd H p (.lst [.str a, .str b, .str c, .str d])) Q) (Q (.bl (!decide (s = a ∨ s = b ∨ s = c ∨ s = d))) (upd H p (.lst [.str a, .str b, .str c, .str d]))) := ⟨fun h => rd_ninS4 h⟩
end
end L2
namespace L2
open PySem PySem.Spec PyProof.Rows
theorem lay_all : ∀ {ds : List PyData}, (∀ d ∈ ds, d.canLay0 = true ∧ d.depth ≤ 60) → PyData.canLayAll0 ds = true ∧ PyData.depthAll ds ≤ 60
  | [], _ => ⟨rfl, Nat.zero_le _⟩
  | d :: ds, h => by
    obtain ⟨a, b⟩ := lay_all (ds := ds) fun e he => h e (List.mem_cons_of_mem _ he)
    obtain ⟨c, e⟩ := h d (List.mem_cons_self ..)
    simp only [PyData.canLayAll0, PyData.depthAll]
    exact ⟨by rw [c, a]; rfl, Nat.max_le.mpr ⟨e, b⟩⟩
theorem shaped_list {ds : List PyData} (h : ∀ d ∈ ds, d.canLay0 = true ∧ d.depth ≤ 60) : SeqAt.shaped (.list ds) = true := by
  obtain ⟨a, b⟩ := lay_all h
  unfold SeqAt.shaped
  have : (PyData.list ds).canLay0 = true := a
  rw [this, Bool.true_and, decide_eq_true_eq]
  show PyData.depthAll ds + 1 ≤ 64
  omega
theorem shaped_ints (ns : List Int) : SeqAt.shaped (.list (ns.map PyData.int)) = true := shaped_list fun d hd => by
  obtain ⟨n, _, rfl⟩ := List.mem_map.mp hd
  exact ⟨rfl, by simp [PyData.depth]⟩
theorem shaped_bls (ns : List Bool) : SeqAt.shaped (.list (ns.map PyData.bool)) = true := shaped_list fun d hd => by
  obtain ⟨n, _, rfl⟩ := List.mem_map.mp hd
  exact ⟨rfl, by simp [PyData.depth]⟩
section
variable {H : Hp} {Q : VK} {K : PySem.W.Frag} {a b p : Addr}
/-- two lists of whole numbers -/
theorem rd_eqInts {ns ms : List Int} (h1 : SqL K H a (ns.map V.int)) (h2 : SqL K H b (ms.map V.int)) (q : Q (.bl (decide (ns = ms))) H) : rEqD K (.ref a) (.ref b) H Q :=
  ⟨_, _, dp_ints h1, dp_ints h2, shaped_ints _, shaped_ints _, by rw [PyData.eqv, eqv_ints]; exact q⟩
theorem rd_neInts {ns ms : List Int} (h1 : SqL K H a (ns.map V.int)) (h2 : SqL K H b (ms.map V.int)) (q : Q (.bl (!decide (ns = ms))) H) : rNeD K (.ref a) (.ref b) H Q :=
  ⟨_, _, dp_ints h1, dp_ints h2, shaped_ints _, shaped_ints _, by rw [PyData.eqv, eqv_ints]; exact q⟩
/-- equal data -/
theorem rd_neSame {x y : V} {d : PyData} (h1 : Dp K H x d) (h2 : Dp K H y d) (s : SeqAt.shaped d = true) (q : Q (.bl false) H) : rNeD K x y H Q :=
  ⟨d, d, h1, h2, s, s, by rw [SeqAt.eqv_refl d (SeqAt.canLay_of_shaped s)]; exact q⟩
theorem rd_eqSame {x y : V} {d : PyData} (h1 : Dp K H x d) (h2 : Dp K H y d) (s : SeqAt.shaped d = true) (q : Q (.bl true) H) : rEqD K x y H Q :=
  ⟨d, d, h1, h2, s, s, by rw [SeqAt.eqv_refl d (SeqAt.canLay_of_shaped s)]; exact q⟩
theorem rd_isiL {xs : List V} (h : H a = some (.lst xs)) (q : Q (.bl true) H) : rIsi K [.ref a, .ty "list"] H Q := ⟨_, _, _, _, true, rfl, .ty _, .base (.lst h), kit_ty (by decide +kernel), q⟩
theorem rd_isiT {xs : List V} (h : H a = some (.tup xs)) (q : Q (.bl true) H) : rIsi K [.ref a, .ty "tuple"] H Q := ⟨_, _, _, _, true, rfl, .ty _, .base (.tup h), kit_ty (by decide +kernel), q⟩
end
end L2

namespace L2
open PySem PySem.Spec PyProof.Rows
theorem Same.lst {K : PySem.W.Frag} {H0 H : Hp} {a : Addr} {xs : List V} (e : Same H0 H) (h : H0 a = some (.lst xs)) : SqL K H a xs := SqL.of (e _ _ h)
theorem ne_self {α : Type} [DecidableEq α] (a : α) : (!decide (a = a)) = false := by simp
end L2
namespace L2
theorem rd_neF {p A B : Prop} [Decidable p] (h : p) (q : B) : if (!decide p) = true then A else B := by
  rw [decide_eq_true h]
  exact q
theorem rd_eqT {p A B : Prop} [Decidable p] (h : p) (q : A) : if decide p = true then A else B := by
  rw [decide_eq_true h]
  exact q
end L2
namespace L2
open PySem PySem.Spec PyProof.Rows
theorem inV_ints {x : Int} : ∀ {ns : List Int}, inV (.int x) (ns.map V.int) = decide (x ∈ ns)
  | [] => by simp [inV]
  | n :: ns => by
    have := inV_ints (x := x) (ns := ns)
    unfold inV at *
    rw [List.map_cons, List.any_cons, this, eqV, Bool.beq_eq_decide_eq, ← Bool.decide_or]
    refine decide_eq_decide.mpr ?_
    rw [List.mem_cons]
    exact or_congr eq_comm Iff.rfl
theorem flat_ints : ∀ {ns : List Int}, (ns.map V.int).all flatV = true
  | [] => rfl
  | _ :: ns => by
    rw [List.map_cons, List.all_cons, flat_ints (ns := ns)]
    rfl
section
variable {σ : St} {H : Hp} {Q : VK} {K : PySem.W.Frag} {p : Addr} {te : TE} {tt : TC}
theorem rd_inIs {x : Int} {ns : List Int} (h : SqL K H p (ns.map V.int)) (q : Q (.bl (decide (x ∈ ns))) H) : rIn K false (.int x) (.ref p) H Q :=
  rd_inL h rfl flat_ints (by rw [inV_ints]; exact q)
theorem rd_ninIs {x : Int} {ns : List Int} (h : SqL K H p (ns.map V.int)) (q : Q (.bl (!decide (x ∈ ns))) H) : rIn K true (.int x) (.ref p) H Q :=
  ⟨p, _, rfl, .inl h, rfl, flat_ints, by rw [inV_ints]; exact q⟩
theorem all_map {n : Nat} {g : Nat → Int} : ((List.range n).filter (fun _ => true)).map (fun i => V.int (g i)) = ((List.range n).map g).map V.int := by
  rw [List.filter_eq_self.mpr (fun _ _ => rfl), List.map_map]
  rfl
end
end L2
namespace L2
open PySem PySem.Spec PyProof.Rows
section
variable {σ : St} {H : Hp} {Q : VK} {K : PySem.W.Frag} {te : TE} {tt : TT}
/-- a list comprehension over a range whose items come from what stands in the heap -/
theorem rd_lcRG {lo : Int} {n : Nat} {g : TG} {vs : List Nat} (J : Addr → Nat → List V → Hp → Prop) (h0 : ∀ D, H D = none → J D 0 [] (upd H D (.lst [])))
    (hs : ∀ D i ys H', H D = none → i < n → H' D = some (.lst ys) → J D i ys H' → g (.int (lo + i)) (wipe σ vs) H' fun σ2 H2 => wipe σ2 vs = wipe σ vs ∧ tt σ2 H2 fun b H3 => if b = true then te σ2 H3 (fun y H4 => ∃ acc, H4 D = some (.lst acc) ∧ acc.length < sizeLine ∧ ∃ ys, (upd H4 D (.lst (acc ++ [y]))) D = some (.lst ys) ∧ J D (i + 1) ys (upd H4 D (.lst (acc ++ [y])))) else ∃ ys, H3 D = some (.lst ys) ∧ J D (i + 1) ys H3)
    (q : ∀ D ys H', H D = none → H' D = some (.lst ys) → J D n ys H' → Q (.ref D) H') : lcB (Itr lo n) g tt te vs σ Q H := by
  intro D hD
  refine ⟨fun i m H' => m = n - i ∧ i ≤ n ∧ ∃ ys, H' D = some (.lst ys) ∧ J D i ys H', ⟨n, by simp, Nat.zero_le _, _, upd_same, h0 D hD⟩, ?_⟩
  rintro i m H' ⟨rfl, hi, ys, hy, hj⟩
  by_cases hlt : i < n
  · refine .inr ⟨hlt, fun H' => ∃ ys, H' D = some (.lst ys) ∧ J D (i + 1) ys H', fun H' p' => ⟨n - (i + 1), by omega, rfl, hlt, p'⟩, fun x H' y => ?_⟩
    obtain ⟨e, y⟩ := y
    subst e y
    exact hs D i ys _ hD hlt hy hj
  · have e : i = n := by omega
    subst e
    exact .inl ⟨Nat.le_refl _, q D ys H' hD hy hj⟩
theorem put_G {J : Addr → Nat → List V → Hp → Prop} {D : Addr} {i : Nat} {H4 : Hp} {acc : List V} {y : V} (h : H4 D = some (.lst acc)) (hl : acc.length < sizeLine) (j : J D (i + 1) (acc ++ [y]) (upd H4 D (.lst (acc ++ [y])))) :
    ∃ acc, H4 D = some (.lst acc) ∧ acc.length < sizeLine ∧ ∃ ys, (upd H4 D (.lst (acc ++ [y]))) D = some (.lst ys) ∧ J D (i + 1) ys (upd H4 D (.lst (acc ++ [y]))) := ⟨acc, h, hl, _, upd_same, j⟩
end
end L2

namespace L2
open PySem PySem.Spec PyProof.Rows
/-! ### classes of the text: fields, methods, making, ==, calls -/
structure MethAt (K : PySem.W.Frag) (C : Addr) (m qual : Str) (st : Stmt) (ps : List Str) : Prop where
  ex : ∃ (f : Addr) (fd : FuncData), Fun K m qual st f fd ∧ Meth K C m f ∧ Binds K fd ps []
structure MDef (P : Program) (w : World) (K : PySem.W.Frag) (mg : Str → Option Value) (base : Heap) (k : Nat) (C : Addr) (m : Str) (ps : List Str) (sp : Sp) : Prop where
  ex : ∃ (f : Addr) (fd : FuncData), FnOk P w K mg base (L2.CX P w) k f fd ps sp ∧ Meth K C m f ∧ Binds K fd ps []
structure MkAt (K : PySem.W.Frag) (mg : Str → Option Value) (x : Str) (C : Addr) (qual : Str) (st : Stmt) (ps : List Str) : Prop where
  ex : ∃ (f : Addr) (fd : FuncData), Fun K "__init__" qual st f fd ∧ Mk K C f ∧ Binds K fd ps []
  g : mg x = some (.ref C)
structure MkDef (P : Program) (w : World) (K : PySem.W.Frag) (mg : Str → Option Value) (base : Heap) (k : Nat) (x : Str) (C : Addr) (ps : List Str) (sp : Sp) : Prop where
  ex : ∃ (f : Addr) (fd : FuncData), FnOk P w K mg base (L2.CX P w) k f fd ps sp ∧ Mk K C f ∧ Binds K fd ps []
  g : mg x = some (.ref C)
section
variable {P : Program} {w : World} {K : PySem.W.Frag} {mg : Str → Option Value} {base : Heap}
theorem MethAt.ok {C : Addr} {m qual : Str} {st : Stmt} {N ps : List Str} {k : Nat} {sp : Sp} (D : MethAt K C m qual st ps) (S : FnScope N ps (defScope st)) (len : ∀ vs H Q E, sp vs H Q E → vs.length = ps.length)
    (hbody : ∀ (f : Addr) (cdv : Value) (A : Around) (outer : List Env) (s : Shared) (H : Hp) (vs : List V) (Q : VK) (E : XK), Room k (A.deeper (envOfC qual (defScope st) s.heap.objs.size f cdv)) → sp vs H Q E →
      ∃ t, PSs (cxOf (L2.CX P w) P w K mg base N qual (defScope st) f cdv A outer s H E) (defBody st) t ∧ t ⟨fun _ H' => Q .non H', Q, fun _ _ => False, fun _ _ => False⟩ (start N vs) H) : MDef P w K mg base (k + 1) C m ps sp := by
  obtain ⟨f, fd, F, g, b⟩ := D.ex
  exact ⟨f, fd, F.okX S len fun cdv A outer s H vs Q E hr h => hbody f cdv A outer s H vs Q E hr h, g, b⟩
theorem MkAt.ok {x : Str} {C : Addr} {qual : Str} {st : Stmt} {N ps : List Str} {k : Nat} {sp : Sp} (D : MkAt K mg x C qual st ps) (S : FnScope N ps (defScope st)) (len : ∀ vs H Q E, sp vs H Q E → vs.length = ps.length)
    (hbody : ∀ (f : Addr) (cdv : Value) (A : Around) (outer : List Env) (s : Shared) (H : Hp) (vs : List V) (Q : VK) (E : XK), Room k (A.deeper (envOfC qual (defScope st) s.heap.objs.size f cdv)) → sp vs H Q E →
      ∃ t, PSs (cxOf (L2.CX P w) P w K mg base N qual (defScope st) f cdv A outer s H E) (defBody st) t ∧ t ⟨fun _ H' => Q .non H', Q, fun _ _ => False, fun _ _ => False⟩ (start N vs) H) : MkDef P w K mg base (k + 1) x C ps sp := by
  obtain ⟨f, fd, F, g, b⟩ := D.ex
  exact ⟨⟨f, fd, F.okX S len fun cdv A outer s H vs Q E hr h => hbody f cdv A outer s H vs Q E hr h, g, b⟩, D.g⟩
theorem MDef.imp {k : Nat} {C : Addr} {m : Str} {ps : List Str} {sp sp' : Sp} (D : MDef P w K mg base k C m ps sp) (h : ∀ vs H Q E, sp' vs H Q E → sp vs H Q E) : MDef P w K mg base k C m ps sp' := by
  obtain ⟨f, fd, F, g, b⟩ := D.ex
  exact ⟨f, fd, F.imp h, g, b⟩
theorem MDef.mono {j k : Nat} {C : Addr} {m : Str} {ps : List Str} {sp : Sp} (D : MDef P w K mg base j C m ps sp) (h : j ≤ k) : MDef P w K mg base k C m ps sp := by
  obtain ⟨f, fd, F, g, b⟩ := D.ex
  exact ⟨f, fd, F.mono h, g, b⟩
theorem MDef.forget {k : Nat} {C : Addr} {m : Str} {ps : List Str} {sp : Sp} (D : MDef P w K mg base k C m ps sp) : MDef P w K mg base k C m ps (fun vs H Q E => NoT H ∧ sp vs H (fun v H' => Same H H' ∧ Q v H) E) := by
  obtain ⟨f, fd, F, g, b⟩ := D.ex
  exact ⟨f, fd, fn_forget F, g, b⟩
end
def tFldC (C : Addr) (ta : TE) (f : Str) : TE := fun σ H Q => ta σ H fun x H1 => ∃ a dx fs v, x = .ref a ∧ H1 a = some (.ins C dx fs) ∧ fs.lookup f = some v ∧ Q v H1
def sFldC (C : Addr) (ta tv : TE) (f : Str) : TS := fun D σ H => tv σ H fun y H1 => ta σ H1 fun x H2 => ∃ a dx fs, x = .ref a ∧ H2 a = some (.ins C dx fs) ∧ fs.length < 1000 ∧ D.nx σ (upd H2 a (.ins C dx (putF f y fs)))
def tCallC (C : Addr) (sp : Sp) (E : XK) (tf : TE) (t : TA) : TE := fun σ H Q => tf σ H fun y H1 => ∃ a, y = V.ref a ∧ t σ H1 fun vs H2 => (∃ dx fs, H2 a = some (.ins C dx fs)) ∧ sp (V.ref a :: vs) H2 Q E
def rEqO (K : PySem.W.Frag) (C : Addr) (sp : Sp) (E : XK) : R2 := fun x y H Q => ∃ a dx fs ty, x = .ref a ∧ H a = some (.ins C dx fs) ∧ TyX K H y ty ∧ PySem.W.notFirst K C ty = true ∧ sp [.ref a, y] H (fun v H' => (∃ b, v = .bl b) ∧ Q v H') E
section
variable {X : Cx} {o e value : Expr} {es : List Expr} {f : Str} {pos pos' tpos apos p : Pos} {ta tv : TE} {t : TA} {C : Addr}
theorem pe_fldC (he : PE X e ta) (c : Cls X.K C) (n : NoAttr X.K C f) (hb : attributeBase e f X.env (eval e X.env) = eval e X.env := by rfl) : PE X (.Attribute e f pos) (tFldC C ta f) := by
  refine ⟨fun pins s σ H Q I h => ?_⟩
  refine attr_of hb (thn (he.run pins s σ H _ I h) fun u s1 ⟨x, H1, I1, rx, a, dx, fs, v, ex, ea, l, q⟩ => ?_)
  subst ex
  obtain rfl : u = Value.ref a := rx
  exact getattr_ok I1 ea c n l fun u' s2 I2 ru => ⟨v, H1, I2, ru, q⟩
theorem ps_fldC (ha : PE X o ta) (hv : PE X value tv) (c : Cls X.K C) (n : NoAttr X.K C f) (hs : swapsWith value (some (.Attribute o f pos')) pos.line X.env = pure false := by rfl) : PS X (.Assign [.Attribute o f pos'] value pos) (sFldC C ta tv f) := by
  refine ⟨fun pins s σ H D I h => ?_⟩
  refine plainObj_wpAny_Assign_Attribute (thn (hv.run pins s σ H _ I h) fun u s1 ⟨y, H1, I1, ry, q⟩ => thn (ha.run pins s1 σ H1 _ I1 q) fun ov s2 ⟨x, H2, I2, rx, a, dx, fs, ex, ea, l, q2⟩ => ?_) hs
  subst ex
  obtain rfl : ov = Value.ref a := rx
  exact setattr_ok I2 ea c n l ry fun s3 I3 => ⟨σ, _, I3, q2⟩
theorem pe_md {k : Nat} {m : Str} {ps : List Str} {sp : Sp} {E : XK} {pl : Sem Bool} (D : MDef X.prog X.w X.K X.mg X.base k C m ps sp) (he : PE X o ta) (c : Cls X.K C) (hr : Room k X.A) (hx : Passes (L2.CX X.prog X.w) X E) (ha : PA X (e :: es) t)
    (hst : starEach (e :: es) X.env = (false, eval e X.env) :: starEach es X.env := by rfl) (hpl : (backTo pos (starEach es X.env)).any (·.1) = false := by rfl)
    (ht : eval (.Call (.Attribute o m apos) (e :: es) [] pos) X.env = (do
      let ov ← eval o X.env
      standAt apos.atName
      let (f, first) ← holding [ov] (getMethod ov m pl)
      callWith pos f first (backTo pos (starEach (e :: es) X.env)) (backToKw pos (keywordEach [] X.env))) := by rfl) :
    PE X (.Call (.Attribute o m apos) (e :: es) [] pos) (tMeth C m sp [] E ta t) := by
  obtain ⟨f, fd, F, g, b⟩ := D.ex
  exact pe_meth he c g F hr b .nil hx ha hst hpl ht
theorem pe_md0 {k : Nat} {m : Str} {ps : List Str} {sp : Sp} {E : XK} {pl : Sem Bool} (D : MDef X.prog X.w X.K X.mg X.base k C m ps sp) (he : PE X o ta) (c : Cls X.K C) (hr : Room k X.A) (hx : Passes (L2.CX X.prog X.w) X E)
    (ht : eval (.Call (.Attribute o m apos) [] [] pos) X.env = (do
      let ov ← eval o X.env
      standAt apos.atName
      let (f, first) ← holding [ov] (getMethod ov m pl)
      callWith pos f first (backTo pos (starEach [] X.env)) (backToKw pos (keywordEach [] X.env))) := by rfl) :
    PE X (.Call (.Attribute o m apos) [] [] pos) (tMeth C m sp [] E ta tNil) := by
  obtain ⟨f, fd, F, g, b⟩ := D.ex
  exact pe_meth0 he c g F hr b .nil hx ht
theorem pe_mkd {k : Nat} {x : Str} {ps : List Str} {sp : Sp} {E : XK} (D : MkDef X.prog X.w X.K X.mg X.base k x C ps sp) (hr : Room (k + 1) X.A) (hx : Passes (L2.CX X.prog X.w) X E) (ha : PA X (e :: es) t) (hg : Gl X x := by rfl)
    (hdb : (x == ("__debug__" : Str)) = false := by decide) (he : starEach (e :: es) X.env = (false, eval e X.env) :: starEach es X.env := by rfl) (hpl : (backTo pos (starEach es X.env)).any (·.1) = false := by rfl) :
    PE X (.Call (.Name x p) (e :: es) [] pos) (tMake C sp [] E t) := by
  obtain ⟨f, fd, F, M, b⟩ := D.ex
  exact pe_make M F hr hg D.g b .nil hx ha hdb he hpl
theorem pe_mkd0 {k : Nat} {x : Str} {ps : List Str} {sp : Sp} {E : XK} (D : MkDef X.prog X.w X.K X.mg X.base k x C ps sp) (hr : Room (k + 1) X.A) (hx : Passes (L2.CX X.prog X.w) X E) (hg : Gl X x := by rfl)
    (hdb : (x == ("__debug__" : Str)) = false := by decide) :
    PE X (.Call (.Name x p) [] [] pos) (tMake C sp [] E tNil) := by
  obtain ⟨f, fd, F, M, b⟩ := D.ex
  exact pe_make0 M F hr hg D.g b .nil hx hdb
theorem pe_mcall {k : Nat} {ps : List Str} {sp : Sp} {E : XK} {fe : Expr} {tf : TE} (D : MDef X.prog X.w X.K X.mg X.base k C "__call__" ps sp) (fi : ∀ g, PySem.W.findIn X.K (.ref C) "__call__" = some (some (.ref g)) → PySem.W.fnIn X.K g = true) (hf : PE X fe tf) (hr : Room k X.A) (hx : Passes (L2.CX X.prog X.w) X E) (ha : PA X (e :: es) t)
    (ht : eval (.Call fe (e :: es) [] pos) X.env = (do callWith pos (← eval fe X.env) [] (backTo pos (starEach (e :: es) X.env)) (backToKw pos (keywordEach [] X.env))) := by rfl)
    (he : starEach (e :: es) X.env = (false, eval e X.env) :: starEach es X.env := by rfl) (hpl : (backTo pos (starEach es X.env)).any (·.1) = false := by rfl) :
    PE X (.Call fe (e :: es) [] pos) (tCallC C sp E tf t) := by
  obtain ⟨f, fd, F, g, b⟩ := D.ex
  refine ⟨fun pins s σ H Q I h => ?_⟩
  refine Call_ (thn (hf.run pins s σ H _ I h) fun u s1 ⟨y, H1, I1, ry, a, ey, q⟩ => ?_) ht
  subst ey
  obtain rfl : u = Value.ref a := ry
  refine StX.callO_with (thn (ha.run pos pins s1 σ H1 _ I1 q) fun us s2 ⟨vs, H2, I2, r, hi, q2⟩ => ?_) he hpl
  obtain ⟨ox, od, J, hd⟩ := StX.insC_at I2 (.inr hi)
  refine ⟨⟨C, ox, od, J, hd⟩, StX.run_callO (sp := fun vs H Q E => sp (vs ++ []) H Q E) ⟨g.at_, g.fn, fi f g.at_⟩ (F.raw b .nil) hr hx I2 (.inr hi) r ?_⟩
  rw [List.append_nil]
  exact q2
/-- x == y, x an instance of C with an own __eq__ -/
theorem op_eqO {k : Nat} {ps : List Str} {sp : Sp} {E : XK} (D : MDef X.prog X.w X.K X.mg X.base k C "__eq__" ps sp) (hr : Room k X.A) (hu : X.A.units < cLine) (hx : Passes (L2.CX X.prog X.w) X E) : OpR X (compareOp .Eq) (rEqO X.K C sp E) := by
  intro pins s σ H x y v u Q I rx ry h
  obtain ⟨f, fd, F, g, b⟩ := D.ex
  obtain ⟨a, dx, fs, ty, rfl, ha, hty, hn, hsp⟩ := h
  cases (show v = Value.ref a from rx)
  obtain ⟨mA, J, _⟩ := ins_get I.hok ha
  obtain ⟨od, J, _⟩ := J.look
  obtain ⟨m, hF⟩ := I.fr
  obtain ⟨P, Z, hp, _⟩ := kit_of I ry hty
  show wpAny (model X.prog X.w) X.A (richCompare .Eq (.ref a) u) (EP X pins σ Q) X.xe s
  refine PySem.W.cmp_K (op := .Eq) (tb := ty) hu hF I.ok.mod.kin J (Z.ty _ s.heap I.kIn hp) hn g.at_ g.fn ?_
  have hl := F.len _ _ _ _ hsp
  refine wpAny_mono (run_fn (dvs := []) (ds := []) (us := [.ref a, u]) (vs := [.ref a, y]) F hr b .nil hx I (.cons rfl (.cons ry .nil)) hsp) (fun r s' q => ?_) fun _ _ z => z
  obtain ⟨z, H', I', rz, ⟨bb, rfl⟩, q⟩ := q
  cases (show r = Value.bool bb from rz)
  exact ⟨.bl bb, H', I', rfl, q⟩
end
section
variable {σ : St} {H : Hp} {Q : VK} {C p : Addr} {ta tv : TE} {t : TA} {f m : Str} {v : V} {nx : St → Hp → Prop} {rt : VK} {bk ct : St → Hp → Prop} {sp : Sp} {E : XK}
theorem rd_fldC (h : ta σ H fun x H1 => ∃ a dx fs v, x = .ref a ∧ H1 a = some (.ins C dx fs) ∧ fs.lookup f = some v ∧ Q v H1) : tFldC C ta f σ H Q := h
instance st_fldC  : Stp (tFldC C ta f σ H Q) (ta σ H fun x H1 => ∃ a dx fs v, x = .ref a ∧ H1 a = some (.ins C dx fs) ∧ fs.lookup f = some v ∧ Q v H1) := ⟨fun h => rd_fldC h⟩
theorem rd_fld1 {dx : Addr} {fs : List (Str × V)} {S : V → Prop} (h : H p = some (.ins C dx fs)) (l : fs.lookup f = some v) (q : S v) : ∃ a dx fs v, V.ref p = .ref a ∧ H a = some (.ins C dx fs) ∧ fs.lookup f = some v ∧ S v := ⟨p, dx, fs, v, rfl, h, l, q⟩
theorem rd_sfldC (h : tv σ H fun y H1 => ta σ H1 fun x H2 => ∃ a dx fs, x = .ref a ∧ H2 a = some (.ins C dx fs) ∧ fs.length < 1000 ∧ nx σ (upd H2 a (.ins C dx (putF f y fs)))) : sFldC C ta tv f ⟨nx, rt, bk, ct⟩ σ H := h
instance st_sfldC  : Stp (sFldC C ta tv f ⟨nx, rt, bk, ct⟩ σ H) (tv σ H fun y H1 => ta σ H1 fun x H2 => ∃ a dx fs, x = .ref a ∧ H2 a = some (.ins C dx fs) ∧ fs.length < 1000 ∧ nx σ (upd H2 a (.ins C dx (putF f y fs)))) := ⟨fun h => rd_sfldC h⟩
theorem rd_sfld1 {dx : Addr} {fs : List (Str × V)} {S : Addr → Addr → List (Str × V) → Prop} (h : H p = some (.ins C dx fs)) (l : fs.length < 1000) (q : S p dx fs) : ∃ a dx fs, V.ref p = .ref a ∧ H a = some (.ins C dx fs) ∧ fs.length < 1000 ∧ S a dx fs := ⟨p, dx, fs, rfl, h, l, q⟩
theorem rd_meth (h : ta σ H fun x H1 => ∃ a dx fs, x = .ref a ∧ H1 a = some (.ins C dx fs) ∧ fs.lookup m = none ∧ t σ H1 fun vs H2 => sp (x :: vs) H2 Q E) : tMeth C m sp [] E ta t σ H Q := by
  show ta σ H fun x H1 => ∃ a dx fs, x = .ref a ∧ H1 a = some (.ins C dx fs) ∧ fs.lookup m = none ∧ t σ H1 fun vs H2 => sp (x :: (vs ++ [])) H2 Q E
  simp only [List.append_nil]
  exact h
instance st_meth  : Stp (tMeth C m sp [] E ta t σ H Q) (ta σ H fun x H1 => ∃ a dx fs, x = .ref a ∧ H1 a = some (.ins C dx fs) ∧ fs.lookup m = none ∧ t σ H1 fun vs H2 => sp (x :: vs) H2 Q E) := ⟨fun h => rd_meth h⟩
theorem rd_meth1 {dx : Addr} {fs : List (Str × V)} {S : Prop} (h : H p = some (.ins C dx fs)) (l : fs.lookup m = none) (q : S) : ∃ a dx fs, V.ref p = .ref a ∧ H a = some (.ins C dx fs) ∧ fs.lookup m = none ∧ S := ⟨p, dx, fs, rfl, h, l, q⟩
theorem rd_make (h : t σ H fun vs H1 => ∀ x dx, H1 x = none → H1 dx = none → dx ≠ x → sp (.ref x :: vs) (upd (upd H1 dx (.own x)) x (.ins C dx [])) (fun v H2 => v = .non ∧ Q (.ref x) H2) E) : tMake C sp [] E t σ H Q := by
  show t σ H fun vs H1 => ∀ x dx, H1 x = none → H1 dx = none → dx ≠ x → sp (.ref x :: (vs ++ [])) (upd (upd H1 dx (.own x)) x (.ins C dx [])) (fun v H2 => v = .non ∧ Q (.ref x) H2) E
  simp only [List.append_nil]
  exact h
instance st_make  : Stp (tMake C sp [] E t σ H Q) (t σ H fun vs H1 => ∀ x dx, H1 x = none → H1 dx = none → dx ≠ x → sp (.ref x :: vs) (upd (upd H1 dx (.own x)) x (.ins C dx [])) (fun v H2 => v = .non ∧ Q (.ref x) H2) E) := ⟨fun h => rd_make h⟩
theorem rd_callC (h : ta σ H fun y H1 => ∃ a, y = V.ref a ∧ t σ H1 fun vs H2 => (∃ dx fs, H2 a = some (.ins C dx fs)) ∧ sp (V.ref a :: vs) H2 Q E) : tCallC C sp E ta t σ H Q := h
instance st_callC : Stp (tCallC C sp E ta t σ H Q) (ta σ H fun y H1 => ∃ a, y = V.ref a ∧ t σ H1 fun vs H2 => (∃ dx fs, H2 a = some (.ins C dx fs)) ∧ sp (V.ref a :: vs) H2 Q E) := ⟨fun h => rd_callC h⟩
theorem rd_callO1 {S : Addr → Prop} (q : S p) : ∃ a, V.ref p = V.ref a ∧ S a := ⟨p, rfl, q⟩
instance st_callO1 {S : Addr → Prop} : Stp (∃ a, V.ref p = V.ref a ∧ S a) (S p) := ⟨fun q => rd_callO1 q⟩
theorem rd_callO2 {dx : Addr} {fs : List (Str × V)} {S : Prop} (h : H p = some (.ins C dx fs)) (q : S) : (∃ dx fs, H p = some (.ins C dx fs)) ∧ S := ⟨⟨dx, fs, h⟩, q⟩
theorem rd_isB {a b : Bool} (q : Q (.bl (decide (a = b))) H) : rIsB (.bl a) (.bl b) H Q := ⟨a, b, rfl, rfl, q⟩
instance st_isB {a b : Bool} : Stp (rIsB (.bl a) (.bl b) H Q) (Q (.bl (decide (a = b))) H) := ⟨fun h => rd_isB h⟩
theorem rd_notB {a b : Bool} (q : Q (.bl (!decide (a = b))) H) : rNotB (.bl a) (.bl b) H Q := ⟨a, b, rfl, rfl, q⟩
instance st_notB {a b : Bool} : Stp (rNotB (.bl a) (.bl b) H Q) (Q (.bl (!decide (a = b))) H) := ⟨fun h => rd_notB h⟩
theorem rd_isNone {x : V} (q : Q (.bl (decide (x = .non))) H) : (V.non = V.non) ∧ Q (.bl (decide (x = .non))) H := ⟨rfl, q⟩
instance st_isNone {x : V} : Stp ((V.non = V.non) ∧ Q (.bl (decide (x = .non))) H) (Q (.bl (decide (x = .non))) H) := ⟨fun h => rd_isNone h⟩
end
theorem kit_self {K : PySem.W.Frag} {C : Addr} : PySem.W.kitOne K (.ref C) (.ref C) = some true := if_pos (by simp)
theorem sub_ty {K : PySem.W.Frag} {C : Addr} {T : String} {l : List Value} (h : fastBuiltinMro T = some l) (hl : l.contains (.ref C) = false) : PySem.W.subIn K (.type T) (.ref C) = some false := by
  show (fastBuiltinMro T).map (·.contains (.ref C)) = some false
  rw [h, Option.map_some, hl]
theorem sub_list {K : PySem.W.Frag} {C : Addr} : PySem.W.subIn K (.type "list") (.ref C) = some false := rfl
theorem kit_list {K : PySem.W.Frag} {C : Addr} (h1 : PySem.W.isClsIn K C = true) (h2 : PySem.W.typeIn K (.ref C) = some (.type "type")) : PySem.W.kitOne K (.type "list") (.ref C) = some false := by
  have e : ((PySem.W.clsIn K C).isSome && PySem.W.typeIn K (.ref C) == some (.type "type")) = true := by
    have h1' : (PySem.W.clsIn K C).isSome = true := h1
    rw [h1', h2] <;> rfl
  show (if (Value.type "list" == Value.ref C) = true then some true else if ((PySem.W.clsIn K C).isSome && PySem.W.typeIn K (.ref C) == some (.type "type")) = true then PySem.W.subIn K (.type "list") (.ref C) else none) = some false
  rw [if_neg (by intro z; cases z), if_pos e]
  exact sub_list
theorem notFirst_list {K : PySem.W.Frag} {C : Addr} : PySem.W.notFirst K C (.type "list") = true := by
  unfold PySem.W.notFirst
  rw [sub_list]
  rfl
end L2

namespace L2
open PySem PySem.Spec PyProof.Rows
/-! ### data without bools: what == tells is equality -/
mutual
def okD : PyData → Nat → Bool
  | .none, _ => true
  | .int _, _ => true
  | .str s, _ => PyData.strOk s
  | .list xs, n => decide (0 < n) && okDs xs (n - 1)
  | .tuple xs, n => decide (0 < n) && okDs xs (n - 1)
  | .bool _, _ => false
  | .dict _, _ => false
def okDs : List PyData → Nat → Bool
  | [], _ => true
  | x :: xs, n => okD x n && okDs xs n
end
mutual
theorem okD_lay : ∀ (d : PyData) (n : Nat), okD d n = true → d.canLay0 = true ∧ d.depth ≤ n
  | .none, _, _ => ⟨rfl, by simp [PyData.depth]⟩
  | .int _, _, _ => ⟨rfl, by simp [PyData.depth]⟩
  | .str s, _, h => ⟨by simpa [okD, PyData.canLay0] using h, by simp [PyData.depth]⟩
  | .list xs, n, h => by
    simp only [okD, Bool.and_eq_true, decide_eq_true_eq] at h
    obtain ⟨a, b⟩ := okDs_lay xs (n - 1) h.2
    refine ⟨by rw [PyData.canLay0]; exact a, ?_⟩
    simp only [PyData.depth]
    omega
  | .tuple xs, n, h => by
    simp only [okD, Bool.and_eq_true, decide_eq_true_eq] at h
    obtain ⟨a, b⟩ := okDs_lay xs (n - 1) h.2
    refine ⟨by rw [PyData.canLay0]; exact a, ?_⟩
    simp only [PyData.depth]
    omega
  | .bool _, _, h => by simp [okD] at h
  | .dict _, _, h => by simp [okD] at h
theorem okDs_lay : ∀ (ds : List PyData) (n : Nat), okDs ds n = true → PyData.canLayAll0 ds = true ∧ PyData.depthAll ds ≤ n
  | [], _, _ => ⟨rfl, Nat.zero_le _⟩
  | d :: ds, n, h => by
    simp only [okDs, Bool.and_eq_true] at h
    obtain ⟨a, b⟩ := okD_lay d n h.1
    obtain ⟨c, e⟩ := okDs_lay ds n h.2
    simp only [PyData.canLayAll0, PyData.depthAll]
    exact ⟨by rw [a, c]; rfl, Nat.max_le.mpr ⟨b, e⟩⟩
end
theorem okD_shaped {d : PyData} (h : okD d 60 = true) : SeqAt.shaped d = true := by
  obtain ⟨a, b⟩ := okD_lay d 60 h
  unfold SeqAt.shaped
  rw [a, Bool.true_and, decide_eq_true_eq]
  omega
mutual
theorem okD_eqv : ∀ (d e : PyData) (n m : Nat), okD d n = true → okD e m = true → (PyData.eqv d e = true ↔ d = e)
  | .none, e, _, _, _, h => by cases e <;> simp [PyData.eqv, okD] at h ⊢
  | .int i, e, _, _, _, h => by cases e <;> simp [PyData.eqv, okD] at h ⊢
  | .str s, e, _, _, _, h => by cases e <;> simp [PyData.eqv, okD] at h ⊢
  | .list xs, e, n, m, h1, h => by
    cases e with
    | list ys =>
      simp only [okD, Bool.and_eq_true, decide_eq_true_eq] at h1 h
      rw [PyData.eqv, okDs_eqv xs ys _ _ h1.2 h.2]
      simp
    | _ => simp [PyData.eqv, okD] at h ⊢
  | .tuple xs, e, n, m, h1, h => by
    cases e with
    | tuple ys =>
      simp only [okD, Bool.and_eq_true, decide_eq_true_eq] at h1 h
      rw [PyData.eqv, okDs_eqv xs ys _ _ h1.2 h.2]
      simp
    | _ => simp [PyData.eqv, okD] at h ⊢
  | .bool _, _, _, _, h1, _ => by simp [okD] at h1
  | .dict _, _, _, _, h1, _ => by simp [okD] at h1
theorem okDs_eqv : ∀ (ds es : List PyData) (n m : Nat), okDs ds n = true → okDs es m = true → (PyData.eqvAll ds es = true ↔ ds = es)
  | [], es, _, _, _, _ => by cases es <;> simp [PyData.eqvAll]
  | d :: ds, es, n, m, h1, h2 => by
    cases es with
    | nil => simp [PyData.eqvAll]
    | cons e es =>
      simp only [okDs, Bool.and_eq_true] at h1 h2
      rw [PyData.eqvAll, Bool.and_eq_true, okD_eqv d e n m h1.1 h2.1, okDs_eqv ds es n m h1.2 h2.2]
      simp
end
theorem okD_dec {d e : PyData} [Decidable (d = e)] (h1 : okD d 60 = true) (h2 : okD e 60 = true) : PyData.eqv d e = decide (d = e) := by
  rw [Bool.eq_iff_iff, okD_eqv d e 60 60 h1 h2, decide_eq_true_iff]
theorem okDs_map {α : Type} {f : α → PyData} {n : Nat} : ∀ {l : List α}, (∀ x ∈ l, okD (f x) n = true) → okDs (l.map f) n = true
  | [], _ => rfl
  | x :: l, h => by
    rw [List.map_cons, okDs, h x (List.mem_cons_self ..), okDs_map fun y hy => h y (List.mem_cons_of_mem _ hy)]
    rfl
open Classical in
noncomputable instance decD (d e : PyData) : Decidable (d = e) := Classical.propDecidable _
section
variable {K : PySem.W.Frag} {H H' : Hp} {Q : VK} {x y : V} {d e : PyData}
theorem rd_eqP {p : Prop} [Decidable p] (h1 : Dp K H x d) (h2 : Dp K H y e) (o1 : okD d 60 = true) (o2 : okD e 60 = true) (hp : d = e ↔ p) (q : Q (.bl (decide p)) H) : rEqD K x y H Q :=
  ⟨d, e, h1, h2, okD_shaped o1, okD_shaped o2, by rw [okD_dec o1 o2, decide_eq_decide.mpr hp]; exact q⟩
theorem rd_neP {p : Prop} [Decidable p] (h1 : Dp K H x d) (h2 : Dp K H y e) (o1 : okD d 60 = true) (o2 : okD e 60 = true) (hp : d = e ↔ p) (q : Q (.bl (!decide p)) H) : rNeD K x y H Q :=
  ⟨d, e, h1, h2, okD_shaped o1, okD_shaped o2, by rw [okD_dec o1 o2, decide_eq_decide.mpr hp]; exact q⟩
theorem Same.seqT {K : PySem.W.Frag} {H H' : Hp} {a : Addr} {xs : List V} (e : Same H H') (h : SqT K H a xs) : SqT K H' a xs := by
  rcases h with (h | ⟨o, h⟩) | h
  · exact .inl (.inl (e _ _ h))
  · exact .inl (.inr ⟨o, e _ _ h⟩)
  · exact .inr h
mutual
theorem Dp.same (s : Same H H') : ∀ {v : V} {d : PyData}, Dp K H v d → Dp K H' v d
  | _, _, .non => .non
  | _, _, .bl b => .bl b
  | _, _, .int i => .int i
  | _, _, .str x => .str x
  | _, _, .lst h a => .lst (s.seq h) (DpAll.same s a)
  | _, _, .tup h a => .tup (Same.seqT s h) (DpAll.same s a)
theorem DpAll.same (s : Same H H') : ∀ {vs : List V} {ds : List PyData}, DpAll K H vs ds → DpAll K H' vs ds
  | _, _, .nil => .nil
  | _, _, .cons h a => .cons (Dp.same s h) (DpAll.same s a)
end
theorem DpAll.len : ∀ {vs : List V} {ds : List PyData}, DpAll K H vs ds → vs.length = ds.length
  | _, _, .nil => rfl
  | _, _, .cons _ a => by rw [List.length_cons, List.length_cons, DpAll.len a]
theorem DpAll.at : ∀ {vs : List V} {ds : List PyData} {i : Nat} {v : V}, DpAll K H vs ds → vs[i]? = some v → ∃ d, ds[i]? = some d ∧ Dp K H v d
  | _, _, i, _, .nil, e => by cases e
  | _, _, 0, _, .cons (d := d) h _, e => ⟨d, rfl, by cases e; exact h⟩
  | _, _, i + 1, _, .cons _ a, e => DpAll.at (i := i) a e
theorem DpAll.snoc : ∀ {vs : List V} {ds : List PyData} {v : V} {d : PyData}, DpAll K H vs ds → Dp K H v d → DpAll K H (vs ++ [v]) (ds ++ [d])
  | _, _, _, _, .nil, h => .cons h .nil
  | _, _, _, _, .cons a r, h => .cons a (DpAll.snoc r h)
theorem Dp.int_inv {n : Int} (h : Dp K H x (.int n)) : x = .int n := by
  cases h
  rfl
theorem Dp.str_inv {n : Str} (h : Dp K H x (.str n)) : x = .str n := by
  cases h
  rfl
theorem Dp.tup_inv {ds : List PyData} (h : Dp K H x (.tuple ds)) : ∃ a xs, x = .ref a ∧ SqT K H a xs ∧ DpAll K H xs ds := by
  cases h with
  | tup a b => exact ⟨_, _, rfl, a, b⟩
theorem Dp.lst_inv {ds : List PyData} (h : Dp K H x (.list ds)) : ∃ a xs, x = .ref a ∧ SqL K H a xs ∧ DpAll K H xs ds := by
  cases h with
  | lst a b => exact ⟨_, _, rfl, a, b⟩
theorem DpAll.ints : ∀ {ns : List Int} {vs : List V}, DpAll K H vs (ns.map PyData.int) → vs = ns.map V.int
  | [], _, .nil => rfl
  | n :: ns, _, .cons h a => by rw [Dp.int_inv h, DpAll.ints a]; rfl
theorem DpAll.nil_inv {vs : List V} (h : DpAll K H vs []) : vs = [] := by
  cases h
  rfl
theorem DpAll.cons_inv {vs : List V} {ds : List PyData} (h : DpAll K H vs (d :: ds)) : ∃ v vs', vs = v :: vs' ∧ Dp K H v d ∧ DpAll K H vs' ds := by
  cases h with
  | cons a b => exact ⟨_, _, rfl, a, b⟩
end
/-! ### loops that leave the heap -/
section
variable {σ : St} {H : Hp} {K : PySem.W.Frag} {t : TS} {nx : St → Hp → Prop} {rt : VK}
theorem rd_forRs {lo : Int} {n : Nat} {g : TG} (Pv : Nat → St → Prop) (h0 : Pv 0 σ)
    (hs : ∀ i σ, i < n → Pv i σ → g (.int (lo + i)) σ H fun σ2 H2 => t ⟨fun σ' H' => H = H' ∧ Pv (i + 1) σ', rt, nx, fun σ' H' => H = H' ∧ Pv (i + 1) σ'⟩ σ2 H2) (hd : ∀ σ, Pv n σ → nx σ H) : fBody (Itr lo n) g t nx rt σ H :=
  rd_forR (fun i σ' H' => H = H' ∧ Pv i σ') ⟨rfl, h0⟩ (fun i σ' H' hi p => by obtain ⟨rfl, p⟩ := p; exact hs i σ' hi p) fun σ' H' p => by obtain ⟨rfl, p⟩ := p; exact hd σ' p
theorem rd_forLs {a : Addr} {xs : List V} {g : TG} (Pv : Nat → St → Prop) (hl : SqL K H a xs) (h0 : Pv 0 σ)
    (hs : ∀ i x σ, xs[i]? = some x → Pv i σ → g x σ H fun σ2 H2 => t ⟨fun σ' H' => H = H' ∧ Pv (i + 1) σ', rt, nx, fun σ' H' => H = H' ∧ Pv (i + 1) σ'⟩ σ2 H2) (hd : ∀ σ, Pv xs.length σ → nx σ H) : fBody (Itl K a) g t nx rt σ H :=
  rd_forL (fun i σ' H' => H = H' ∧ Pv i σ') ⟨rfl, h0⟩ (fun i σ' H' _ p => by obtain ⟨rfl, _⟩ := p; exact hl) (fun i x σ' H' hi p => by obtain ⟨rfl, p⟩ := p; exact hs i x σ' hi p) fun σ' H' p => by obtain ⟨rfl, p⟩ := p; exact hd σ' p
theorem rd_forTs {a : Addr} {xs : List V} {g : TG} (Pv : Nat → St → Prop) (hl : SqT K H a xs) (h0 : Pv 0 σ)
    (hs : ∀ i x σ, xs[i]? = some x → Pv i σ → g x σ H fun σ2 H2 => t ⟨fun σ' H' => H = H' ∧ Pv (i + 1) σ', rt, nx, fun σ' H' => H = H' ∧ Pv (i + 1) σ'⟩ σ2 H2) (hd : ∀ σ, Pv xs.length σ → nx σ H) : fBody (Itt K a) g t nx rt σ H :=
  rd_forT (fun i σ' H' => H = H' ∧ Pv i σ') ⟨rfl, h0⟩ (fun i σ' H' _ p => by obtain ⟨rfl, _⟩ := p; exact hl) (fun i x σ' H' hi p => by obtain ⟨rfl, p⟩ := p; exact hs i x σ' hi p) fun σ' H' p => by obtain ⟨rfl, p⟩ := p; exact hd σ' p
end
section
theorem rd_eqF {p A B : Prop} [Decidable p] (h : ¬ p) (q : B) : if decide p = true then A else B := by
  rw [decide_eq_false h]
  exact q
theorem rd_neT {p A B : Prop} [Decidable p] (h : ¬ p) (q : A) : if (!decide p) = true then A else B := by
  rw [decide_eq_false h]
  exact q
end
instance st_non {P : Prop} : Stp (V.non = V.non ∧ P) P := ⟨fun h => ⟨rfl, h⟩⟩
theorem non_int {k : Int} : ¬ V.int k = V.non := fun z => V.noConfusion z
theorem non_ref {k : Addr} : ¬ V.ref k = V.non := fun z => V.noConfusion z
theorem upd_at {H : Hp} {p q : Addr} {o u : HO} (h : H p = some o) (n : H p = some o → p ≠ q) : upd H q u p = some o := (upd_ne (n h)).trans h
end L2

namespace L2
open PySem PySem.Spec PyProof.Rows
/-! ### sizes of whole numbers, by bits -/
structure Bd (n : Nat) (x : Int) : Prop where
  h : x.natAbs < 2 ^ n
theorem Bd.mono {n m : Nat} {x : Int} (h : Bd n x) (hm : n ≤ m) : Bd m x := ⟨Nat.lt_of_lt_of_le h.h (Nat.pow_le_pow_right (by decide) hm)⟩
theorem Bd.mul {n m : Nat} {x y : Int} (h : Bd n x) (k : Bd m y) : Bd (n + m) (x * y) := ⟨wide_lt h.h k.h⟩
theorem Bd.neg {n : Nat} {x : Int} (h : Bd n x) : Bd n (-x) := ⟨by
  rw [Int.natAbs_neg]
  exact h.h⟩
theorem Bd.add {n m : Nat} {x y : Int} (h : Bd n x) (k : Bd m y) : Bd (max n m + 1) (x + y) := ⟨by
  have a := (Bd.mono h (Nat.le_max_left n m)).h
  have b := (Bd.mono k (Nat.le_max_right n m)).h
  have := Int.natAbs_add_le x y
  rw [Nat.pow_succ]
  omega⟩
theorem Bd.sub {n m : Nat} {x y : Int} (h : Bd n x) (k : Bd m y) : Bd (max n m + 1) (x - y) := by
  rw [Int.sub_eq_add_neg]
  exact Bd.add h k.neg
theorem Bd.lt {n : Nat} {x : Int} (h : Bd n x) : -(2 ^ n) < x ∧ x < 2 ^ n := by
  have e : ((2 ^ n : Nat) : Int) = 2 ^ n := by rw [Int.natCast_pow]; rfl
  have := h.h
  omega
theorem Bd.of {n : Nat} {x : Int} (h : -(2 ^ n) < x) (k : x < 2 ^ n) : Bd n x := ⟨by
  have e : ((2 ^ n : Nat) : Int) = 2 ^ n := by rw [Int.natCast_pow]; rfl
  omega⟩
theorem Bd.le {n : Nat} {x y : Int} (h : Bd n y) (h1 : x.natAbs ≤ y.natAbs) : Bd n x := ⟨Nat.lt_of_le_of_lt h1 h.h⟩
theorem Bd.div {n : Nat} {x y : Int} (h : Bd n x) (hy : 0 < y) : Bd (n + 1) (x / y) := by
  have l := h.lt
  have p0 : (0 : Int) < 2 ^ n := Int.pow_pos (by decide)
  have e := Int.mul_ediv_add_emod x y
  have r0 := Int.emod_nonneg x (show y ≠ 0 by omega)
  have r1 := Int.emod_lt_of_pos x hy
  refine Bd.of ?_ ?_
  · rw [Int.pow_succ]
    have : -(2 ^ n) ≤ x / y := by
      refine Int.le_ediv_of_mul_le hy ?_
      have : (2 : Int) ^ n * 1 ≤ 2 ^ n * y := Int.mul_le_mul_of_nonneg_left (by omega) (by omega)
      rw [Int.neg_mul]
      omega
    omega
  · rw [Int.pow_succ]
    by_cases hx : 0 ≤ x
    · have := Int.ediv_le_self y hx
      omega
    · have := Int.ediv_neg_of_neg_of_pos (show x < 0 by omega) hy
      omega
theorem Bd.lit {x : Int} {n : Nat} (h : x.natAbs < 2 ^ 64) (hn : 64 ≤ n) : Bd n x := Bd.mono ⟨h⟩ hn
theorem Bd.mulN {n : Nat} {x y : Int} (h : Bd (n / 2) x) (k : Bd (n / 2) y) : Bd n (x * y) := (h.mul k).mono (by omega)
theorem Bd.addN {n : Nat} {x y : Int} (h : Bd (n - 1) x) (k : Bd (n - 1) y) (hn : 0 < n) : Bd n (x + y) := (h.add k).mono (by omega)
theorem Bd.subN {n : Nat} {x y : Int} (h : Bd (n - 1) x) (k : Bd (n - 1) y) (hn : 0 < n) : Bd n (x - y) := (h.sub k).mono (by omega)
theorem CMulB.bd {x y : Int} (h : Bd 9000 x) (k : Bd 9000 y) : CMulB x y := .inr (wide_mul h.h k.h (by decide) (by decide) (by decide))
end L2
namespace L2
open PySem PySem.Spec PyProof.Rows
/-! ### texts of whole numbers, str(o) of an own __str__ -/
def txI (i : Int) : Str := Str.ofString (toString i)
theorem txI_len {i : Int} {n : Nat} (h : Bd n i) (hn : n ≤ 1000) : (txI i).length ≤ 1001 ∧ i.natAbs.log2 < 1000 := by
  have l : i.natAbs.log2 < 1000 := PySem.Flt.log2_lt_of (by decide) (h.mono hn).h
  have e := int_text_length_le (k := 1000) (by decide) l
  unfold txI
  rw [PySem.ofString_length]
  exact ⟨e, l⟩
def rStrO (C : Addr) (sp : Sp) (E : XK) : List V → Hp → VK → Prop := fun xs H Q => ∃ a dx fs, xs = [.ref a] ∧ H a = some (.ins C dx fs) ∧ sp [.ref a] H (fun v H' => ∃ z, v = .str z ∧ Q (.str z) H') E
def rStrI : List V → Hp → VK → Prop := fun xs H Q => ∃ i, xs = [.int i] ∧ i.natAbs.log2 < 1920 ∧ Q (.str (txI i)) H
section
variable {X : Cx}
theorem call_strI : CallR X (.type "str") rStrI := call_str_int
theorem call_strO {k : Nat} {C : Addr} {ps : List Str} {sp : Sp} {E : XK} (D : MDef X.prog X.w X.K X.mg X.base k C "__str__" ps sp) (hr : Room (k + 2) X.A) (hx : Passes (L2.CX X.prog X.w) X E) : CallR X (.type "str") (rStrO C sp E) := by
  intro pins s σ H xs us Q I r h
  obtain ⟨f, fd, F, g, b⟩ := D.ex
  obtain ⟨a, dx, fs, rfl, ha, hsp⟩ := h
  obtain ⟨u, rfl, hu⟩ := vals1 r
  cases (show u = Value.ref a from hu)
  obtain ⟨mA, J, _⟩ := ins_get I.hok ha
  obtain ⟨od, J, _⟩ := J.look
  refine PySem.W.kso_call hr.in1.in1.units0 I.kIn J g.at_ g.fn ?_
  have e0 : Env0 X.prog X.w X.K X.mg X.base X.A.in1.in1 X.stack s H := by
    have e := I.env0
    exact ⟨e.frames, e.mod, e.bs, e.bsz, e.funs, e.frf, e.hok, e.bare⟩
  have hl := F.len _ _ _ _ hsp
  have r2 : Vals [V.ref a] [Value.ref a] := .cons rfl .nil
  refine wpAny_call (codeAny_mono (F.run X.A.in1.in1 X.stack s H ⟨[.ref a], []⟩ [.ref a] [.ref a] _ E hr.in1.in1 e0 (by
    have := b s [.ref a] I.kIn (by simpa using hl)
    simpa using this) r2 hsp) fun r s' hq => ?_)
  cases r with
  | error e => exact hx pins σ H s e s' I hq
  | ok fl =>
    cases fl with
    | ret w =>
      obtain ⟨z, H', I', rz, y, ez, q⟩ := I.after hq
      subst ez
      obtain ⟨t, rfl⟩ := rz
      exact ⟨.str y, H', I', ⟨t, rfl⟩, q⟩
    | next => exact False.elim hq
    | brk => exact False.elim hq
    | cont => exact False.elim hq
end
section
variable {σ : St} {H : Hp} {Q : VK} {te : TE} {ts : List TE} {acc : Str} {R : Str → Hp → Prop}
def rFmt (Q : VK) : V → Hp → Prop := fun x H1 => (∃ y : Str, x = .str y ∧ y.length ≤ sizeLine ∧ Q (.str y) H1) ∨ ∃ i : Int, x = .int i ∧ i.natAbs.log2 < 1920 ∧ Q (.str (toString i)) H1
instance st_fmt : Stp (tFmt te σ H Q) (te σ H (rFmt Q)) := ⟨fun h => h⟩
theorem rd_fmtI {i : Int} (h : i.natAbs.log2 < 1920) (q : Q (.str (txI i)) H) : rFmt Q (.int i) H := .inr ⟨i, rfl, h, q⟩
instance st_jsN : Stp (tJs [] acc σ H R) (R acc H) := ⟨fun h => h⟩
def rJs (ts : List TE) (acc : Str) (σ : St) (R : Str → Hp → Prop) : V → Hp → Prop := fun x H1 => ∃ y : Str, x = .str y ∧ (acc ++ y).length ≤ sizeLine ∧ tJs ts (acc ++ y) σ H1 R
instance st_jsC : Stp (tJs (te :: ts) acc σ H R) (te σ H (rJs ts acc σ R)) := ⟨fun h => h⟩
theorem rd_js {y : Str} (h : (acc ++ y).length ≤ sizeLine) (q : tJs ts (acc ++ y) σ H R) : rJs ts acc σ R (.str y) H := ⟨y, rfl, h, q⟩
theorem rd_strI {i : Int} (h : i.natAbs.log2 < 1920) (q : Q (.str (txI i)) H) : rStrI [.int i] H Q := ⟨i, rfl, h, q⟩
end
end L2

namespace L2
open PySem PySem.Spec PyProof.Rows
/-! ### walks of other kinds -/
section
variable {σ : St} {H : Hp} {K : PySem.W.Frag} {t : TS} {nx : St → Hp → Prop} {rt : VK} {Q : VK} {tr : TA} {te : TE} {tt : TT} {S : It → Hp → Prop} {J : It} {n : Nat} {G : Hp → Prop} {Y : Nat → Hp → V → Hp → Prop}
theorem rd_forW (w : Walk J n G Y) {g : TG} (Pv : Nat → St → Hp → Prop) (h0 : Pv 0 σ H) (hG : ∀ i σ H, i ≤ n → Pv i σ H → G H)
    (hs : ∀ i x σ H H', i < n → Pv i σ H → Y i H x H' → g x σ H' fun σ2 H2 => t ⟨Pv (i + 1), rt, nx, Pv (i + 1)⟩ σ2 H2) (hd : ∀ σ H, Pv n σ H → nx σ H) : fBody J g t nx rt σ H :=
  for_it (D := ⟨nx, rt, fun _ _ => False, fun _ _ => False⟩) w Pv h0 hG hs hd
def rIRev (K : PySem.W.Frag) (S : It → Hp → Prop) (vs : List V) (H : Hp) : Prop := ∃ (a : Addr) (xs : List V), vs = [.ref a] ∧ SqL K H a xs ∧ S (Itv K a xs.length) H
instance st_iRev : Stp (iRev K tr σ H S) (tr σ H (rIRev K S)) := ⟨fun h => h⟩
theorem rd_iRev1 {a : Addr} {xs : List V} (h : SqL K H a xs) (q : S (Itv K a xs.length) H) : rIRev K S [.ref a] H := ⟨a, xs, rfl, h, q⟩
theorem rd_forV {a : Addr} {xs : List V} {g : TG} (Pv : Nat → St → Hp → Prop) (h0 : Pv 0 σ H) (hl : ∀ i σ H, i ≤ xs.length → Pv i σ H → SqL K H a xs)
    (hs : ∀ i x σ H, xs.reverse[i]? = some x → Pv i σ H → g x σ H fun σ2 H2 => t ⟨Pv (i + 1), rt, nx, Pv (i + 1)⟩ σ2 H2) (hd : ∀ σ H, Pv xs.length σ H → nx σ H) : fBody (Itv K a xs.length) g t nx rt σ H :=
  rd_forW (walk_rev (K := K) (a := a) (xs := xs)) Pv h0 hl (fun i x σ H H' hi p y => by
    obtain ⟨rfl, y⟩ := y
    refine hs i x σ _ ?_ p
    rw [List.getElem?_reverse hi]
    exact y) hd
theorem rd_forVs {a : Addr} {xs : List V} {g : TG} (Pv : Nat → St → Prop) (hl : SqL K H a xs) (h0 : Pv 0 σ)
    (hs : ∀ i x σ, xs.reverse[i]? = some x → Pv i σ → g x σ H fun σ2 H2 => t ⟨fun σ' H' => H = H' ∧ Pv (i + 1) σ', rt, nx, fun σ' H' => H = H' ∧ Pv (i + 1) σ'⟩ σ2 H2) (hd : ∀ σ, Pv xs.length σ → nx σ H) : fBody (Itv K a xs.length) g t nx rt σ H :=
  rd_forV (fun i σ' H' => H = H' ∧ Pv i σ') ⟨rfl, h0⟩ (fun i σ' H' _ p => by obtain ⟨rfl, _⟩ := p; exact hl) (fun i x σ' H' hi p => by obtain ⟨rfl, p⟩ := p; exact hs i x σ' hi p) fun σ' H' p => by obtain ⟨rfl, p⟩ := p; exact hd σ' p
/-- a comprehension over a list; each turn only makes new things -/
theorem rd_lcP {a : Addr} {xs : List V} {g : TG} {vs : List Nat} (P : Nat → List V → Prop) (hS : SqL K H a xs) (nt : NoT H) (h0 : P 0 [])
    (hs : ∀ D i ys x H', xs[i]? = some x → Same H H' → NoT H' → H D = none → H' D = some (.lst ys) → P i ys → g x (wipe σ vs) H' fun σ2 H2 => wipe σ2 vs = wipe σ vs ∧ tt σ2 H2 fun b H3 =>
      if b = true then te σ2 H3 (fun y H4 => ∃ acc, H4 D = some (.lst acc) ∧ acc.length < sizeLine ∧ ∃ ys, upd H4 D (.lst (acc ++ [y])) D = some (.lst ys) ∧ Same H (upd H4 D (.lst (acc ++ [y]))) ∧ NoT (upd H4 D (.lst (acc ++ [y]))) ∧ P (i + 1) ys)
      else ∃ ys, H3 D = some (.lst ys) ∧ Same H H3 ∧ NoT H3 ∧ P (i + 1) ys)
    (q : ∀ D ys H', H D = none → H' D = some (.lst ys) → Same H H' → NoT H' → P xs.length ys → Q (.ref D) H') : lcB (Itl K a) g tt te vs σ Q H := by
  intro D hD
  refine lc_it (walk_list (K := K) (a := a) (xs := xs)) (fun i H' => ∃ ys, H' D = some (.lst ys) ∧ Same H H' ∧ NoT H' ∧ P i ys) ⟨[], upd_same, same_new hD, NoT.upd nt rfl, h0⟩ (fun i H' _ ⟨ys, _, s, _⟩ => s.seq hS) ?_ (fun H' ⟨ys, h1, s, n, p⟩ => q D ys H' hD h1 s n p)
  rintro i x H' H'' hi ⟨ys, h1, s, n, p⟩ ⟨rfl, hx⟩
  exact hs D i ys x _ hx s n hD h1 p
theorem put_P {P : List V → Prop} {D : Addr} {H H4 : Hp} {acc : List V} {y : V} (h : H4 D = some (.lst acc)) (hl : acc.length < sizeLine) (sm : Same H H4) (hD : H D = none) (n : NoT H4) (p : P (acc ++ [y])) :
    ∃ acc, H4 D = some (.lst acc) ∧ acc.length < sizeLine ∧ ∃ ys, upd H4 D (.lst (acc ++ [y])) D = some (.lst ys) ∧ Same H (upd H4 D (.lst (acc ++ [y]))) ∧ NoT (upd H4 D (.lst (acc ++ [y]))) ∧ P ys :=
  ⟨acc, h, hl, _, upd_same, same_upd2 sm hD, NoT.upd n rfl, p⟩
/-- the same over a range -/
theorem rd_lcRP {lo : Int} {m : Nat} {g : TG} {vs : List Nat} (P : Nat → List V → Prop) (nt : NoT H) (h0 : P 0 [])
    (hs : ∀ D i ys H', i < m → Same H H' → NoT H' → H D = none → H' D = some (.lst ys) → P i ys → g (.int (lo + i)) (wipe σ vs) H' fun σ2 H2 => wipe σ2 vs = wipe σ vs ∧ tt σ2 H2 fun b H3 =>
      if b = true then te σ2 H3 (fun y H4 => ∃ acc, H4 D = some (.lst acc) ∧ acc.length < sizeLine ∧ ∃ ys, upd H4 D (.lst (acc ++ [y])) D = some (.lst ys) ∧ Same H (upd H4 D (.lst (acc ++ [y]))) ∧ NoT (upd H4 D (.lst (acc ++ [y]))) ∧ P (i + 1) ys)
      else ∃ ys, H3 D = some (.lst ys) ∧ Same H H3 ∧ NoT H3 ∧ P (i + 1) ys)
    (q : ∀ D ys H', H D = none → H' D = some (.lst ys) → Same H H' → NoT H' → P m ys → Q (.ref D) H') : lcB (Itr lo m) g tt te vs σ Q H := by
  intro D hD
  refine lc_it (walk_range (lo := lo) (n := m)) (fun i H' => ∃ ys, H' D = some (.lst ys) ∧ Same H H' ∧ NoT H' ∧ P i ys) ⟨[], upd_same, same_new hD, NoT.upd nt rfl, h0⟩ (fun i H' _ _ => trivial) ?_ (fun H' ⟨ys, h1, s, n, p⟩ => q D ys H' hD h1 s n p)
  rintro i x H' H'' hi ⟨ys, h1, s, n, p⟩ ⟨rfl, hx⟩
  subst hx
  exact hs D i ys _ hi s n hD h1 p
end
def rAddS : R2 := fun x y H Q => ∃ i j, x = .str i ∧ y = .str j ∧ i.length + j.length ≤ sizeLine ∧ Q (.str (i ++ j)) H
theorem op_addS {X : Cx} : OpR X (binaryOp .Add) rAddS := op_add_str
theorem rd_addS {H : Hp} {Q : VK} {i j : Str} (h : i.length + j.length ≤ sizeLine) (q : Q (.str (i ++ j)) H) : rAddS (.str i) (.str j) H Q := ⟨i, j, rfl, rfl, h, q⟩
def rRevV (K : PySem.W.Frag) (Q : VK) : V → Hp → Prop := fun x H1 => ∃ a xs, x = .ref a ∧ SqL K H1 a xs ∧ ∀ p, H1 p = none → Q (.ref p) (upd H1 p (.lst xs.reverse))
instance st_revL {K : PySem.W.Frag} {te : TE} {σ : St} {H : Hp} {Q : VK} : Stp (tRevL K te σ H Q) (te σ H (rRevV K Q)) := ⟨fun h => h⟩
theorem rd_revV {K : PySem.W.Frag} {H : Hp} {Q : VK} {a : Addr} {xs : List V} (h : SqL K H a xs) (q : ∀ p, H p = none → Q (.ref p) (upd H p (.lst xs.reverse))) : rRevV K Q (.ref a) H := ⟨a, xs, rfl, h, q⟩
theorem room2 {xs zs : List V} {n m : Nat} (h1 : xs.length ≤ n) (h2 : zs.length ≤ m) (h : n + m ≤ 1000000) : xs.length + zs.length ≤ sizeLine := Nat.le_trans (Nat.add_le_add h1 h2) (Nat.le_trans h (by decide))
theorem len_one {v : V} : [v].length ≤ 1 := Nat.le_refl 1
theorem len_app {xs ys : List V} {n m : Nat} (h1 : xs.length ≤ n) (h2 : ys.length ≤ m) : (xs ++ ys).length ≤ n + m := by
  rw [List.length_append]
  exact Nat.add_le_add h1 h2
theorem len_rev {xs : List V} {n : Nat} (h : xs.length ≤ n) : xs.reverse.length ≤ n := by
  rw [List.length_reverse]
  exact h
theorem same_upd3 {H H' : Hp} {p : Addr} {o : HO} (h : Same H H') (hp : H' p = none) : Same H (upd H' p o) := same_upd2 h (h.free hp)
section
variable {H : Hp} {Q : VK} {i : Int}
theorem rd_eqNN (q : Q (.bl true) H) : rEq .non .non H Q := ⟨rfl, by simpa using q⟩
instance st_eqNN : Stp (rEq .non .non H Q) (Q (.bl true) H) := ⟨fun h => rd_eqNN h⟩
theorem rd_neNN (q : Q (.bl false) H) : rNe .non .non H Q := ⟨rfl, by simpa using q⟩
instance st_neNN : Stp (rNe .non .non H Q) (Q (.bl false) H) := ⟨fun h => rd_neNN h⟩
theorem rd_eqNI (q : Q (.bl false) H) : rEq .non (.int i) H Q := ⟨rfl, by simpa using q⟩
instance st_eqNI : Stp (rEq .non (.int i) H Q) (Q (.bl false) H) := ⟨fun h => rd_eqNI h⟩
theorem rd_neNI (q : Q (.bl true) H) : rNe .non (.int i) H Q := ⟨rfl, by simpa using q⟩
instance st_neNI : Stp (rNe .non (.int i) H Q) (Q (.bl true) H) := ⟨fun h => rd_neNI h⟩
theorem rd_eqIN (q : Q (.bl false) H) : rEq (.int i) .non H Q := ⟨rfl, by simpa using q⟩
instance st_eqIN : Stp (rEq (.int i) .non H Q) (Q (.bl false) H) := ⟨fun h => rd_eqIN h⟩
theorem rd_neIN (q : Q (.bl true) H) : rNe (.int i) .non H Q := ⟨rfl, by simpa using q⟩
instance st_neIN : Stp (rNe (.int i) .non H Q) (Q (.bl true) H) := ⟨fun h => rd_neIN h⟩
end
end L2

namespace L2
open PySem PySem.Spec PyProof.Rows
/-! ### sets of ints -/
section
variable {P : Program} {w : World} {K : PySem.W.Frag} {mg : Str → Option Value} {base : Heap}
/-- a def whose text asks of its code object -/
theorem DefAt.okC {x : Str} {st : Stmt} {N ps : List Str} {k : Nat} {sp : Sp} (D : DefAt K mg x st ps) (S : FnScope N ps (defScope st)) (len : ∀ vs H Q E, sp vs H Q E → vs.length = ps.length)
    (body : ∀ (f : Addr) (cdv : Value) (hcd : PySem.W.kdsCode K cdv = true) (A : Around) (outer : List Env) (s : Shared) (H : Hp) (vs : List V) (Q : VK) (E : XK), Room k (A.deeper (envOfC x (defScope st) s.heap.objs.size f cdv)) → sp vs H Q E →
      ∃ t, PSs (cxOf (L2.CX P w) P w K mg base N x (defScope st) f cdv A outer s H E) (defBody st) t ∧ t ⟨fun _ H' => Q .non H', Q, fun _ _ => False, fun _ _ => False⟩ (start N vs) H) : Def P w K mg base (k + 1) x ps sp := by
  obtain ⟨f, fd, F, g, b⟩ := D.ex
  have kp := F.kp
  obtain ⟨c0, d0, v1, v2, v3, v4, cdv, v5, sl, rfl, lk, hcd⟩ := F.ex
  exact ⟨f, _, fn_of lk hcd S len fun A outer s H vs Q E r h => body f cdv (kdsCode_of hcd) A outer s H vs Q E r h, g, kp, b⟩
end
section
variable {X : Cx}
def setNo : Int → Bool := fun _ => false
/-- two ints in braces -/
def tSet2 (w : World) (t1 t2 : TE) : TE := fun σ H Q => ∀ D, H D = none → t1 σ (upd H D (SetO w D setNo 0)) fun x H1 => t2 σ H1 fun y H2 => ∃ i j : Int, x = .int i ∧ y = .int j ∧ H2 D = some (SetO w D setNo 0) ∧
  Q (.ref D) (upd H2 D (SetO w D (fun k => decide (k = i ∨ k = j)) (if i = j then 1 else 2)))
theorem setAdd_int {pins : List (Addr × Obj)} {σ : St} {H : Hp} {s : Shared} {D : Addr} {S : Int → Bool} {n : Nat} {k : Int} {u : Value} {A : Around} {E : Value → Shared → Prop} {Q : Bool → Shared → Prop} (I : Inv X pins σ H s) (hD : H D = some (SetO X.w D S n)) (hn : n + 1 < scanBound) (hu : RelV (.int k) u)
    (q : ∀ s', Inv X pins σ (upd H D (SetO X.w D (fun j => S j || decide (j = k)) (if S k = true then n else n + 1))) s' → ∀ b, Q b s') : wpAny (model X.prog X.w) A (setAdd D u) Q E s := by
  obtain ⟨tk, rfl⟩ := hu
  have R := setO_get I hD
  unfold setAdd
  refine wpAny_holding (wpAny_bind ((intKind X.prog X.w).pyHash (intKind_is X.prog X.w k tk) ?_))
  refine setR_add_hashed (s := { s with toks := s.toks + 1 }) R hn fun h' sb new => q _ ?_ _
  have there : ∃ o, h'.get? D = some o := by
    obtain ⟨o, _, _, _, ho, _⟩ := new
    exact ⟨o, ho⟩
  exact I.write (e := D) (t' := s.toks + 1) (by rw [hD]; trivial) (.inl rfl) (fun b o ne ho => (sb.2 b ne).trans ho) there (setO_new new)
theorem pe_set2 {e1 e2 : Expr} {t1 t2 : TE} {pos : Pos} (h1 : PE X e1 t1) (h2 : PE X e2 t2) (hcd : PySem.W.kdsCode X.K X.env.code = true)
    (hs : starEach [e1, e2] X.env = [(false, eval e1 X.env), (false, eval e2 X.env)] := by rfl) : PE X (.Set [e1, e2] 0 pos) (tSet2 X.w t1 t2) := by
  refine ⟨fun pins s σ H Q I h => ?_⟩
  rw [arm_eval_Set, hs]
  refine wpAny_bind (wpAny_standAt (wpAny_bind (PySem.W.kds_main I.kIn hcd fun b => ?_)))
  show wpAny _ _ (setDisplay .oneByOne b [(false, eval e1 X.env >>= fun v => standAt pos >>= fun _ => pure v), (false, eval e2 X.env >>= fun v => standAt pos >>= fun _ => pure v)]) _ _ _
  unfold setDisplay
  rw [if_neg (by decide)]
  refine wpAny_bind (PpSet.newSet_ok ?_)
  have I1 : Inv X pins σ (upd H s.heap.objs.size (SetO X.w s.heap.objs.size setNo 0)) _ := I.laid (t' := s.toks) (fun b o z => Heap.get?_push_of_some _ z) (Nat.le_refl _) (setO_new (setR_fresh X.w))
  replace h := h s.heap.objs.size (I.hok.fresh (Nat.le_refl _))
  generalize s.heap.objs.size = D at *
  refine wpAny_bind (wpAny_holding (wpAny_bind ?_))
  show wpAny _ _ (evalAll [eval e1 X.env >>= fun v => standAt pos >>= fun _ => pure v, eval e2 X.env >>= fun v => standAt pos >>= fun _ => pure v]) _ _ _
  refine wpAny_bind (wpAny_bind (thn (h1.run pins _ σ _ _ I1 h) fun u1 s1 ⟨x, H1, I2, r1, g⟩ => wpAny_bind (wpAny_standAt (wpAny_pure ?_))))
  refine wpAny_bind (wpAny_holding (wpAny_bind (wpAny_bind (thn (h2.run pins _ σ _ _ I2 g) fun u2 s2 ⟨y, H2, I3, r2, i, j, ex, ey, hD, q⟩ => wpAny_bind (wpAny_standAt (wpAny_pure ?_))))))
  subst ex ey
  refine wpAny_bind (wpAny_holding (wpAny_pure (wpAny_pure (wpAny_pure ?_))))
  refine wpAny_bind (wpAny_holding (wpAny_bind ?_))
  rw [List.forIn_cons]
  refine wpAny_bind (wpAny_bind (setAdd_int I3 hD (by decide) r1 fun s3 I4 _ => wpAny_pure ?_))
  dsimp only
  rw [List.forIn_cons]
  refine wpAny_bind (wpAny_bind (setAdd_int I4 upd_same (by show 0 + 1 + 1 < scanBound; decide) r2 fun s4 I5 _ => wpAny_pure ?_))
  dsimp only
  rw [List.forIn_nil, if_neg (by decide)]
  refine wpAny_pure (wpAny_pure (wpAny_pure ?_))
  rw [upd_upd] at I5
  have e1 : (fun l => setNo l || decide (l = i) || decide (l = j)) = fun k : Int => decide (k = i ∨ k = j) := by
    funext l
    simp [setNo]
  have e2 : (if (setNo j || decide (j = i)) = true then if setNo i = true then 0 else 0 + 1 else (if setNo i = true then 0 else 0 + 1) + 1) = if i = j then 1 else 2 := by
    by_cases z : i = j
    · simp [setNo, z]
    · have z2 : ¬ j = i := fun y => z y.symm
      simp [setNo, z, z2]
  rw [e1, e2] at I5
  exact wpAny_pure ⟨.ref D, _, I5, rfl, q⟩
instance st_set2 {w : World} {t1 t2 : TE} {σ : St} {H : Hp} {Q : VK} : Stp (tSet2 w t1 t2 σ H Q) (∀ D, H D = none → t1 σ (upd H D (SetO w D setNo 0)) fun x H1 => t2 σ H1 fun y H2 => ∃ i j : Int, x = .int i ∧ y = .int j ∧ H2 D = some (SetO w D setNo 0) ∧
  Q (.ref D) (upd H2 D (SetO w D (fun k => decide (k = i ∨ k = j)) (if i = j then 1 else 2)))) := ⟨fun h => h⟩
instance st_par3 {i j l : Nat} {ta : TA} {σ : St} {H : Hp} {nx : St → Hp → Prop} {rt : VK} {bk ct : St → Hp → Prop} : Stp (tPar3 i j l ta ⟨nx, rt, bk, ct⟩ σ H) (ta σ H fun vs H1 => ∃ u v w, vs = [u, v, w] ∧ nx (((σ.set i (some u)).set j (some v)).set l (some w)) H1) := ⟨fun h => h⟩
instance st_par3e {u v w : V} {nx : V → V → V → Prop} : Stp (∃ u' v' w', [u, v, w] = [u', v', w'] ∧ nx u' v' w') (nx u v w) := ⟨fun h => ⟨u, v, w, rfl, h⟩⟩
/-- sorted of two ints in braces -/
theorem rd_sortSet2 {w : World} {D : Addr} {i j : Int} {n : Nat} {H : Hp} {Q : VK} (hD : H D = some (SetO w D (fun k => decide (k = i ∨ k = j)) n)) (hn : n < 64)
    (q : ∀ p, H p = none → Q (.ref p) (upd H p (.lst ((if i < j then [i, j] else if j < i then [j, i] else [i]).map V.int)))) : rSortedSet w [.ref D] H Q := by
  refine ⟨D, _, n, rfl, hD, hn, fun ns p h1 h2 _ hp => ?_⟩
  have e : ns = if i < j then [i, j] else if j < i then [j, i] else [i] := by
    have mem : ∀ k, k ∈ ns ↔ k = i ∨ k = j := fun k => by rw [h2 k]; simp
    match ns, h1, mem with
    | [], _, mem => exact absurd ((mem i).mpr (.inl rfl)) List.not_mem_nil
    | [a], _, mem =>
      have a1 := List.mem_singleton.mp ((mem i).mpr (.inl rfl))
      have a2 := List.mem_singleton.mp ((mem j).mpr (.inr rfl))
      subst a1
      subst a2
      rw [if_neg (by omega), if_neg (by omega)]
    | a :: b :: l, h1, mem =>
      obtain ⟨p1, p2⟩ := List.pairwise_cons.mp h1
      have hab := p1 b List.mem_cons_self
      have ha := (mem a).mp List.mem_cons_self
      have hb := (mem b).mp (List.mem_cons_of_mem _ List.mem_cons_self)
      have hl : l = [] := by
        cases l with
        | nil => rfl
        | cons c l =>
          have hc := (mem c).mp (List.mem_cons_of_mem _ (List.mem_cons_of_mem _ List.mem_cons_self))
          have h3 := p1 c (List.mem_cons_of_mem _ List.mem_cons_self)
          have h4 := (List.pairwise_cons.mp p2).1 c List.mem_cons_self
          omega
      subst hl
      rcases ha with rfl | rfl
      · rcases hb with rfl | rfl
        · omega
        · rw [if_pos hab]
      · rcases hb with rfl | rfl
        · rw [if_neg (by omega), if_pos hab]
        · omega
  rw [e]
  exact q p hp
end
end L2

namespace L2
open PySem PySem.Spec PyProof.Rows
theorem setPut_int {X : Cx} {pins : List (Addr × Obj)} {σ : St} {H : Hp} {s : Shared} {E : Value → Shared → Prop} {D : Addr} {S : Int → Bool} {n : Nat} {k : Int} {u : Value} {Q : Value → Shared → Prop} (I : Inv X pins σ H s) (at_ : H D = some (SetO X.w D S n)) (roomy : n + 1 < scanBound) (hu : RelV (.int k) u)
    (q : ∀ s', Inv X pins σ (upd H D (SetO X.w D (fun j => S j || decide (j = k)) (if S k = true then n else n + 1))) s' → Q .none s') : wpAny (model X.prog X.w) X.A (call (.builtin "set.add") [.ref D, u]) Q E s := by
  obtain ⟨tk, rfl⟩ := hu
  refine setR_add (setO_get I at_) roomy fun h' sb new => q _ ?_
  have there : ∃ o, h'.get? D = some o := by
    obtain ⟨o, _, _, _, ho, _⟩ := new
    exact ⟨o, ho⟩
  exact I.write (e := D) (t' := s.toks + 1) (by rw [at_]; trivial) (.inl rfl) (fun b o ne ho => (sb.2 b ne).trans ho) there (setO_new new)
section
variable {X : Cx}
/-- a set of whol, made by a comprehension: D the new set, Z what each turn keeps -/
def tScI (w : World) (wi : TI) (g : TG) (tt : TT) (te : TE) (vs : List Nat) : TE := fun σ H Q => wi σ H fun J H1 => ∀ D, H1 D = none → ∃ Z : Nat → Nat → Hp → Prop, (∃ m, Z 0 m (upd H1 D (SetO w D setNo 0))) ∧ ∀ i m G, Z i m G →
  (J.stop i G ∧ Q (.ref D) G) ∨ (J.go i G ∧ ∃ Y : Hp → Prop, (∀ G', Y G' → ∃ l, l < m ∧ Z (i + 1) l G') ∧ ∀ x G', J.yld i G x G' → g x (wipe σ vs) G' fun σ2 G2 => wipe σ2 vs = wipe σ vs ∧ tt σ2 G2 fun b G3 =>
    if b = true then te σ2 G3 fun y G4 => ∃ (c : Int) (S : Int → Bool) (n : Nat), y = .int c ∧ G4 D = some (SetO w D S n) ∧ n + 1 < scanBound ∧ Y (upd G4 D (SetO w D (fun j => S j || decide (j = c)) (if S c = true then n else n + 1))) else Y G3)
theorem scI_gen {pins : List (Addr × Obj)} {s : Shared} {σ : St} {H : Hp} {Q : VK} {use : Option (Value → Sem Unit)} {Qf : Value → Shared → Prop} {pos2 : Pos} {elt tg iter : Expr} {ifs : List Expr} {scope : Scope} {own : List (PySem.Str × Nat)} {pos : Pos} {wi : TI} {g : TG} {tt : TT} {te : TE} (calm : X.calm = true) (nd : X.N.Nodup) (it0 : PI X tg iter wi) (ok : BlkOk X.N X.env.scope scope own)
    (pg0 : ∀ (s0 : Shared) (G : Hp) (C : Addr) (cl : List (PySem.Str × Addr)) (fp : List Addr), PG (X.blk s0 G scope (compEnvC scope cl C X.env) fp) tg g)
    (pt0 : ∀ (s0 : Shared) (G : Hp) (C : Addr) (cl : List (PySem.Str × Addr)) (fp : List Addr), PTs (X.blk s0 G scope (compEnvC scope cl C X.env) fp) ifs tt)
    (pe0 : ∀ (s0 : Shared) (G : Hp) (C : Addr) (cl : List (PySem.Str × Addr)) (fp : List Addr), PE (X.blk s0 G scope (compEnvC scope cl C X.env) fp) elt te) (fold : ∀ x, foldedSetIterable iter X.env x = pure x)
    (I0 : Inv X pins σ H s) (want : (tScI X.w wi g tt te (own.map (·.2))) σ H Q)
    (last : ∀ D C s' m H', Inv X pins σ H' s' → Q (.ref D) H' → s'.heap.Ns C m → FpOk X pins H' C → compPost (model X.prog X.w) X.A X.xe use Qf (.ref D) C (.ok .next) s') :
    wpAny (model X.prog X.w) X.A (comprehension (.SetComp elt [⟨tg, iter, ifs, 0⟩] scope pos) scope X.env pos2 (newSet (.type "set")) false (eval iter X.env) use) Qf X.xe s := by
  have clo : ∀ y ∈ scope.names, y.2 = .free → ∃ c, X.env.cells.lookup y.1 = some c := fun y hy e => I0.ok.has _ ((ok.free y hy e).elim .inl .inr)
  refine wpAny_comprehension_free (use := use) rfl fold (closure_ok clo) ok.kind (fun y hy e => by rw [ok.uniq y hy, e]) (thn (it0.run pins s σ H _ I0 want) fun _ _ hx => thn hx fun _ s2 got => ?_)
  obtain ⟨it, fp, tn, J, H2, rfl, I2, T, st2, f2, q⟩ := got
  refine PpSet.newSet_ok (newEnv_comp ?_)
  obtain ⟨Z, ⟨m0, z0⟩, turn⟩ := q s2.heap.objs.size (I2.hok.fresh (Nat.le_refl _))
  have I3 : Inv X pins σ (upd H2 s2.heap.objs.size (SetO X.w s2.heap.objs.size setNo 0)) _ := I2.laid (t' := s2.toks) (fun b o e => Heap.get?_push_of_some _ e) (Nat.le_refl _) (setO_new (setR_fresh X.w))
  have old : ∀ b ∈ fp, b < s2.heap.objs.size := fun b hb => let ⟨_, e, _⟩ := T.obj _ _ st2 b hb; Heap.lt_size e
  generalize hs3 : ({ s2 with heap := s2.heap.push { cls := .type "set", dict := none, data := .set #[] 0 (.fresh 0 0 (!X.w.params.followText "set-order")) } } : Shared) = s3 at *
  have grown : ∀ b o, s2.heap.get? b = some o → s3.heap.get? b = some o := fun b o e => by rw [← hs3]; exact Heap.get?_push_of_some _ e
  have wider : s3.heap.objs.size = s2.heap.objs.size + 1 := by rw [← hs3]; exact Heap.size_push _ _
  have f3 : ∀ b ∈ fp, FpOk X pins (upd H2 s2.heap.objs.size (SetO X.w s2.heap.objs.size setNo 0)) b ∧ b < s3.heap.objs.size := fun b hb =>
    ⟨⟨by rw [upd_ne (Nat.ne_of_lt (old b hb))]; exact (f2 b hb).1, (f2 b hb).2⟩, by rw [wider]; exact Nat.lt_succ_of_lt (old b hb)⟩
  generalize s2.heap.objs.size = D at *
  have st3 := T.keep _ _ _ st2 fun b _ o e => grown b o e
  have I4 := block_start I3 ok nd f3
  generalize hH3 : upd H2 D (SetO X.w D setNo 0) = H3 at *
  have pg := pg0 s3 H3 s3.heap.objs.size (cellsFrom (s3.heap.objs.size + 1) scope.names (cloFrom X.env.cells scope.names [])) fp
  have pt := pt0 s3 H3 s3.heap.objs.size (cellsFrom (s3.heap.objs.size + 1) scope.names (cloFrom X.env.cells scope.names [])) fp
  have pe := pe0 s3 H3 s3.heap.objs.size (cellsFrom (s3.heap.objs.size + 1) scope.names (cloFrom X.env.cells scope.names [])) fp
  generalize hS4 : ({ s3 with heap := pushCells (s3.heap.push { cls := .type "dict", data := .dict #[] }) scope.names } : Shared) = s4 at *
  generalize hce : compEnvC scope (cellsFrom (s3.heap.objs.size + 1) scope.names (cloFrom X.env.cells scope.names [])) s3.heap.objs.size X.env = ce at *
  have place : ce.locals = s3.heap.objs.size := by rw [← hce]; rfl
  show codeAny _ _ (.compStart (.SetComp elt [⟨tg, iter, ifs, 0⟩] scope pos) 0 (.ref it) (.ref D) (compEnvC scope (cellsFrom (s3.heap.objs.size + 1) scope.names (cloFrom X.env.cells scope.names [])) s3.heap.objs.size X.env)) (compPost (model X.prog X.w) X.A X.xe use Qf (.ref D) s3.heap.objs.size) s4
  rw [hce]
  have st4 := T.keep _ _ s4.heap st3 fun b _ o e => by rw [← hS4]; exact pushCells_keeps _ _ _ _ (Heap.get?_push_of_some _ e)
  have none3 : ∀ b ∈ fp, H3 b = none := fun b hb => (f3 b hb).1.1
  -- an object of the walk may be met again inside the block
  have meet : ∀ {τ : L2.St} {G : Hp} {t : Shared}, Inv (X.blk s3 H3 scope ce fp) [] τ G t → (∀ b ∈ fp, G b = none) → ∀ b ∈ fp, FpOk (X.blk s3 H3 scope ce fp) [] G b := fun {τ G t} V no b hb =>
    ⟨no b hb, (V.ok.exf b hb).1, V.ok.exfs b hb, .inl hb, fun x c e => (V.ok.exf b hb).2 x c e, fun p hp => absurd (show p ∈ ([] : List (Addr × Obj)) ++ [] from hp) (by simp)⟩
  have around : codeAny (model X.prog X.w) X.A (.compLoop (.SetComp elt [⟨tg, iter, ifs, 0⟩] scope pos) 0 (.ref it) (.ref D) ce) (compPost (model X.prog X.w) X.A X.xe use Qf (.ref D) s3.heap.objs.size) s4 := by
    refine PpSet.compLoopS_any (fun m t => ∃ i G, Inv (X.blk s3 H3 scope ce fp) [] (wipe σ (own.map (·.2))) G t ∧ tn i t.heap ∧ (∀ b ∈ fp, G b = none) ∧ Z i m G) ?_ m0 ⟨0, H3, I4, st4, none3, z0⟩
    rintro m t5 ⟨i, G5, V5, w5, no5, z5⟩
    rcases turn i m G5 z5 with ⟨halt, want5⟩ | ⟨more, Y, fewer, step⟩
    · refine thnF (T.done (X.blk s3 H3 scope ce fp) rfl rfl rfl calm i [] t5 _ G5 (fun _ _ => False) V5 (meet V5 no5) w5 halt) fun r t6 ⟨er, V6⟩ => ?_
      subst er
      have V7 : Inv X pins σ G5 t6 := I3.call' (ch := fp) V6.os V6.base V6.hok V6.bare fun b hb => ⟨(f3 b hb).1.2.2.2.1, (f3 b hb).1.2.1, (f3 b hb).1.2.2.2.2.1, (f3 b hb).1.2.2.2.2.2⟩
      have gone : G5 s3.heap.objs.size = none := place ▸ (show G5 ce.locals = none from V6.free)
      obtain ⟨nm, ns6, _⟩ := V6.loc
      replace ns6 : t6.heap.Ns s3.heap.objs.size nm := place ▸ ns6
      exact last D s3.heap.objs.size t6 nm G5 V7 want5 ns6 (I3.fpOk (Nat.le_refl _) gone)
    · refine thnF (T.item (X.blk s3 H3 scope ce fp) rfl rfl rfl calm i [] t5 _ G5 (fun _ _ => False) V5 (meet V5 no5) w5 more) fun r t6 ⟨u, er, rest⟩ => ?_
      subst er
      refine thnF rest fun _ t7 ⟨x, G7, V7, r7, y7, w7, no7⟩ => ?_
      refine thnF (pg.run _ t7 _ G7 x u _ (V7.pinned (meet V7 no7) (T.obj _ _ w7)) r7 (step x G7 y7)) fun _ t8 ⟨τ, G8, V8, same8, q8⟩ => ?_
      refine thnF (pt.run _ t8 τ G8 _ V8 q8) fun b t9 ⟨G9, V9, q9⟩ => ?_
      have wend : ∀ {tz : Shared} {Gz : Hp}, Inv (X.blk s3 H3 scope ce fp) ([] ++ pinsAt fp t7.heap) τ Gz tz → Y Gz → ∃ l, l < m ∧ ∃ i G, Inv (X.blk s3 H3 scope ce fp) [] (wipe σ (own.map (·.2))) G tz ∧ tn i tz.heap ∧ (∀ b ∈ fp, G b = none) ∧ Z i l G := fun {tz Gz} Vz yz => by
        obtain ⟨l, lt, zl⟩ := fewer Gz yz
        have kept : ∀ b ∈ fp, ∀ o, t7.heap.get? b = some o → tz.heap.get? b = some o ∧ Gz b = none := fun b hb o e =>
          let k := Vz.pin (b, o) (List.mem_append_right _ (List.mem_append_right _ (mem_pinsAt hb e)))
          ⟨k.1, k.2.1⟩
        refine ⟨l, lt, i + 1, Gz, (Vz.unpinned (pins := [])).weak (by rw [← same8, wipe_length]) (fun j v e => (wipe_some (same8 ▸ e)).1), T.keep _ _ _ w7 fun b hb o e => (kept b hb o e).1, fun b hb => ?_, zl⟩
        obtain ⟨o, e, _⟩ := T.obj _ _ w7 b hb
        exact (kept b hb o e).2
      cases b with
      | false => exact wend V9 q9
      | true =>
        refine thnF (pe.run _ t9 τ G9 _ V9 q9) fun z t10 ⟨yv, G10, V10, r10, c, S0, n0, ey, at10, roomy, nxt⟩ => ?_
        subst ey
        exact setPut_int (X := X.blk s3 H3 scope ce fp) V10 at10 roomy r10 fun t11 V11 => wend V11 nxt
  exact PpSet.codeAny_compStart_set around (T.self X.A 0 _ _ _ st4 around)
theorem pe_scI {elt tg iter : Expr} {ifs : List Expr} {scope : Scope} {own : List (PySem.Str × Nat)} {pos : Pos} {wi : TI} {g : TG} {tt : TT} {te : TE} (calm : X.calm = true) (nd : X.N.Nodup) (it0 : PI X tg iter wi) (ok : BlkOk X.N X.env.scope scope own)
    (pg0 : ∀ (s0 : Shared) (G : Hp) (C : Addr) (cl : List (PySem.Str × Addr)) (fp : List Addr), PG (X.blk s0 G scope (compEnvC scope cl C X.env) fp) tg g)
    (pt0 : ∀ (s0 : Shared) (G : Hp) (C : Addr) (cl : List (PySem.Str × Addr)) (fp : List Addr), PTs (X.blk s0 G scope (compEnvC scope cl C X.env) fp) ifs tt)
    (pe0 : ∀ (s0 : Shared) (G : Hp) (C : Addr) (cl : List (PySem.Str × Addr)) (fp : List Addr), PE (X.blk s0 G scope (compEnvC scope cl C X.env) fp) elt te) (fold : ∀ x, foldedSetIterable iter X.env x = pure x := by intro _; rfl) :
    PE X (.SetComp elt [⟨tg, iter, ifs, 0⟩] scope pos) (tScI X.w wi g tt te (own.map (·.2))) := by
  refine ⟨fun pins s σ H Q I0 want => ?_⟩
  rw [PpSet.eval_SetComp]
  refine scI_gen calm nd it0 ok pg0 pt0 pe0 fold  I0 want fun D C s' m H' J q ns f => ⟨m, ns, fun h'' sb => ?_⟩
  obtain ⟨g0, g1, g2, g3, g4, g5⟩ := f
  exact ⟨.ref D, H', J.turned (t' := s'.toks) (fun b o ne e => (sb.2 b ne).trans e) g0 g1 g3 g4 g5, rfl, q⟩
theorem ps_scI {i : Nat} {y : PySem.Str} {py spos : Pos} {elt tg iter : Expr} {ifs : List Expr} {scope : Scope} {own : List (PySem.Str × Nat)} {pos : Pos} {wi : TI} {g : TG} {tt : TT} {te : TE} (calm : X.calm = true) (nd : X.N.Nodup) (hy : X.N[i]? = some y) (loc : X.env.scope.names.lookup y = some .local) (swap : swapsWith (.SetComp elt [⟨tg, iter, ifs, 0⟩] scope pos) (some (.Name y py)) spos.line X.env = pure true) (it0 : PI X tg iter wi) (ok : BlkOk X.N X.env.scope scope own)
    (pg0 : ∀ (s0 : Shared) (G : Hp) (C : Addr) (cl : List (PySem.Str × Addr)) (fp : List Addr), PG (X.blk s0 G scope (compEnvC scope cl C X.env) fp) tg g)
    (pt0 : ∀ (s0 : Shared) (G : Hp) (C : Addr) (cl : List (PySem.Str × Addr)) (fp : List Addr), PTs (X.blk s0 G scope (compEnvC scope cl C X.env) fp) ifs tt)
    (pe0 : ∀ (s0 : Shared) (G : Hp) (C : Addr) (cl : List (PySem.Str × Addr)) (fp : List Addr), PE (X.blk s0 G scope (compEnvC scope cl C X.env) fp) elt te) (fold : ∀ x, foldedSetIterable iter X.env x = pure x := by intro _; rfl) :
    PS X (.Assign [.Name y py] (.SetComp elt [⟨tg, iter, ifs, 0⟩] scope pos) spos) (tAsg (tScI X.w wi g tt te (own.map (·.2))) (gName i)) := by
  refine ⟨fun pins s σ H D I0 want => ?_⟩
  rw [exec_Assign_Name_used _ _ _ _ swap]
  refine wpAny_bind (wpAny_standAt (wpAny_bind ?_))
  show wpAny _ X.A (do let _ ← comprehension (.SetComp elt [⟨tg, iter, ifs, 0⟩] scope pos) scope X.env (firstIterPos [⟨tg, iter, ifs, 0⟩] pos) (newSet (.type "set")) false (eval iter X.env) (some (assign (.Name y py) X.env))) _ _ s
  replace want : (tScI X.w wi g tt te (own.map (·.2))) σ H (fun x G => gName i x σ G D.nx) := want
  refine wpAny_bind (thn (scI_gen (Qf := fun _ t => SP X pins D .next t) calm nd it0 ok pg0 pt0 pe0 fold  I0 want fun L C t m G J q ns f => ?_) fun _ t hq => wpAny_pure (wpAny_pure hq))
  show wpAny _ _ (assign (.Name y py) X.env (.ref L)) _ _ _
  refine wpAny_assign_Name (store_ok2 (v := V.ref L) J nd hy (.inl loc) rfl (fun t2 J2 ⟨a, sb, ha⟩ => ?_) (.inr loc))
  obtain ⟨g0, g1, g2, g3, g4, g5⟩ := f
  have away : C ≠ a := by
    rcases ha with z | z
    · exact z ▸ g1
    · exact fun e => g4 y a z e.symm
  exact ⟨m, ns.sameBut sb away, fun h3 sb3 => ⟨_, G, J2.turned (t' := t2.toks) (fun b o ne e => (sb3.2 b ne).trans e) g0 g1 g3 g4 g5, q⟩⟩
theorem sw_set {elt : Expr} {gs : List Comprehension} {scope : Scope} {pos py : Pos} {y : PySem.Str} {l : Nat} {env : Env} (kind : env.scope.kind = .function) (loc : env.scope.names.lookup y = some .local) (line : (py.line == pos.line) = true)
    (other : (scope.names.any fun (n, k) => n == y && (k == .local || k == .cell)) = false) : swapsWith (.SetComp elt gs scope pos) (some (.Name y py)) l env = pure true := by
  have k1 : env.kindOf y = some .local := loc
  have k2 : env.blockKind = .function := by unfold Env.blockKind; rw [kind]; rfl
  unfold swapsWith
  simp only [k2, k1, other, Expr.pos, line]
  rfl
end
/-! ### sorted of a set of whol, of any size -/
theorem sortSet_go {P : Program} {w : World} {A : Around} {E : Value → Shared → Prop} {s : Shared} {a : Addr} {S : Int → Bool} {n : Nat} {Q : Value → Shared → Prop} (R : SetR w s.heap a S n) (calm : A.handled = none)
    (go : ∀ s' p (out : List Value) (c : Nat) (ns : List Int), (∀ b o, s.heap.get? b = some o → s'.heap.get? b = some o) → s'.gens = s.gens → s'.os = s.os → s.heap.objs.size ≤ p →
      s'.heap.get? p = some (seqObj "list" out.toArray c) → IntsAre out ns → ns.Pairwise (· < ·) → (∀ k, k ∈ ns ↔ S k = true) → ns.length = n → n < scanBound → Q (.ref p) s') :
    wpAny (model P w) A (call (.builtin "sorted") [.ref a]) Q E s := by
  obtain ⟨ob, cs, cn, tb, atOb, exOb, dOb, good, dis, mem, few, fit, num, ris, led⟩ := R
  refine Calls.call_function_entry kind_sorted plain_sorted entry_sorted (args_sorted1 _) ?_
  unfold Builtin.«sorted»
  refine wpAny_bind (m := checkCount "sorted" 1 1 _) (wpAny_pure ?_)
  refine wpAny_bind (collect_set (A := A.in1) calm ⟨ob, atOb, exOb.1, dOb⟩ fit few ris led fun t vs keep size gens os pm => ?_)
  have lvs : vs.length = n := by rw [pm.length_eq, List.length_map, Array.length_toList, num]
  have small : vs.length ≤ sizeLine := by
    rw [lvs, sizeLine_eq]
    have b1 : cs.size < 4096 := few
    omega
  have whol : IntsAre vs (vs.map Builtin.Re.reRawOf) := ints_of vs fun v hv => by
    obtain ⟨e, he, rfl⟩ := List.mem_map.mp (pm.mem_iff.mp hv)
    obtain ⟨k, tk, h1, _⟩ := good e he
    exact ⟨k, tk, h1⟩
  have keys : (vs.map Builtin.Re.reRawOf).Perm (cs.toList.map keyOf) := by
    have z := pm.map Builtin.Re.reRawOf
    rwa [List.map_map] at z
  refine wpAny_bind (wpAny_newList ?_ small)
  have atL : (t.heap.push (seqObj "list" vs.toArray 0)).get? t.heap.objs.size = some (seqObj "list" vs.toArray 0) := Heap.get?_push_size _ rfl
  refine wpAny_bind (wpAny_holding (wpAny_call_entry slot_list_sort ⟨_, atL, rfl⟩ entry_list_sort (SrtO.list_sort_ord SrtO.swo_int atL small (fun h2 => SrtO.ints_sortable whol h2) fun out h1 h2 => ⟨_, rfl, ?_⟩) (args_list_sort _)))
  obtain ⟨k1, k2, k3⟩ := SrtO.ints_out whol h1 h2
  obtain ⟨c, atS⟩ := sortedHeap_at (vs := vs) (out := out.toArray) atL
  have pn : (out.map SrtO.iv).Perm (cs.toList.map keyOf) := k2.trans keys
  refine wpAny_pure ⟨_, rfl, go _ t.heap.objs.size out c (out.map SrtO.iv) (fun b u e => ?_) gens os size atS k1 (lt_of_le_nodup _ k3 (pn.nodup_iff.mpr dis)) (fun k => by rw [pn.mem_iff, ← mem k]) ?_ (by rw [← num]; exact few)⟩
  · have z := keep b u e
    have lt := Heap.lt_size z
    show (sortedHeap (t.heap.push (seqObj "list" vs.toArray 0)) t.heap.objs.size vs out.toArray).get? b = some u
    rw [sortedHeap_old (Nat.ne_of_lt lt) (by rw [size_push']; exact Nat.lt_succ_of_lt lt)]
    exact Heap.get?_push_of_some _ z
  · rw [pn.length_eq, List.length_map, Array.length_toList, num]
def rSortSetN (w : World) : List V → Hp → VK → Prop := fun vs H Q => ∃ (a : Addr) (S : Int → Bool) (n : Nat), vs = [V.ref a] ∧ H a = some (SetO w a S n) ∧
  ∀ (ns : List Int) (p : Addr), ns.Pairwise (· < ·) → (∀ k : Int, k ∈ ns ↔ S k = true) → ns.length = n → H p = none → Q (.ref p) (upd H p (.lst (ns.map V.int)))
theorem cr_sortSetN {X : Cx} (calm : X.calm = true) : CallR X (.builtin "sorted") (rSortSetN X.w) := by
  intro pins s σ H vs us Q I r ⟨a, S, n, ev, at_, q⟩
  subst ev
  have R := setO_get I at_
  rw [Vals.ref1 r]
  refine sortSet_go R (I.ok.hd calm) fun s' p out c ns k g o hp hg hi hs hm hl few => ?_
  have fits : (ns.map V.int).length ≤ sizeLine := by
    rw [List.length_map, hl, sizeLine_eq]
    have b1 : n < 4096 := few
    omega
  have J : Inv X pins σ (upd H p (.lst (ns.map V.int))) { s with heap := s'.heap, gens := s'.gens, drawn := s'.drawn, toks := s'.toks } :=
    I.call (ch := []) (Un.laid k hp (I.hok.fresh hp)) (I.hok.laid k hp ⟨fits, out, c, vals_of_ints hi, hg⟩) (by rw [g]; exact I.bare) (fun _ z => nomatch z)
  have e : s' = { s with heap := s'.heap, gens := s'.gens, drawn := s'.drawn, toks := s'.toks } := by
    cases s'
    cases s
    cases o
    rfl
  rw [e]
  exact ⟨.ref p, _, J, rfl, q ns p hs hm hl (I.hok.fresh hp)⟩
/-! ### readings -/
section
variable {w : World} {σ : St} {H : Hp} {Q : VK} {K : PySem.W.Frag} {te : TE} {tt : TT}
def inS (l : List Int) : Int → Bool := fun k => decide (k ∈ l)
theorem inS_nil : inS [] = setNo := by
  funext k
  simp [inS, setNo]
theorem inS_snoc {l : List Int} {c : Int} : (fun j => inS l j || decide (j = c)) = inS (l ++ [c]) := by
  funext k
  simp [inS]
def scB (w : World) (J : It) (g : TG) (tt : TT) (te : TE) (vs : List Nat) (σ : St) (Q : VK) (H1 : Hp) : Prop := ∀ D, H1 D = none → ∃ Z : Nat → Nat → Hp → Prop, (∃ m, Z 0 m (upd H1 D (SetO w D setNo 0))) ∧ ∀ i m G, Z i m G →
  (J.stop i G ∧ Q (.ref D) G) ∨ (J.go i G ∧ ∃ Y : Hp → Prop, (∀ G', Y G' → ∃ l, l < m ∧ Z (i + 1) l G') ∧ ∀ x G', J.yld i G x G' → g x (wipe σ vs) G' fun σ2 G2 => wipe σ2 vs = wipe σ vs ∧ tt σ2 G2 fun b G3 =>
    if b = true then te σ2 G3 fun y G4 => ∃ (c : Int) (S : Int → Bool) (n : Nat), y = .int c ∧ G4 D = some (SetO w D S n) ∧ n + 1 < scanBound ∧ Y (upd G4 D (SetO w D (fun j => S j || decide (j = c)) (if S c = true then n else n + 1))) else Y G3)
instance st_scI {wi : TI} {g : TG} {vs : List Nat} : Stp (tScI w wi g tt te vs σ H Q) (wi σ H fun J H1 => scB w J g tt te vs σ Q H1) := ⟨fun h => h⟩
/-- what is put in: the set then tells l, of at most m members -/
def ScPut (w : World) (H : Hp) (D : Addr) (l : List Int) (m : Nat) : VK := fun y G => ∃ (c : Int) (S : Int → Bool) (n : Nat), y = .int c ∧ G D = some (SetO w D S n) ∧ n + 1 < scanBound ∧
  ∃ k, k ≤ m ∧ upd G D (SetO w D (fun j => S j || decide (j = c)) (if S c = true then n else n + 1)) = upd H D (SetO w D (inS l) k)
theorem put_S {D : Addr} {l l' : List Int} {k m : Nat} {c : Int} {y : V} (hy : y = .int c) (hk : k ≤ m) (hm : m + 1 < 4096) (hl : l' = l ++ [c]) : ScPut w H D l' (m + 1) y (upd H D (SetO w D (inS l) k)) := by
  refine ⟨c, _, _, hy, upd_same, Nat.lt_of_le_of_lt (Nat.succ_le_succ hk) hm, if inS l c = true then k else k + 1, ?_, ?_⟩
  · split <;> omega
  · rw [upd_upd, inS_snoc, hl]
theorem rd_scR {lo : Int} {n : Nat} {g : TG} {vs : List Nat} (f : Nat → Int)
    (hs : ∀ D i k, H D = none → i < n → k ≤ i → g (.int (lo + i)) (wipe σ vs) (upd H D (SetO w D (inS ((List.range i).map f)) k)) fun σ2 H2 => wipe σ2 vs = wipe σ vs ∧ te σ2 H2 (ScPut w H D ((List.range (i + 1)).map f) (i + 1)))
    (q : ∀ D k, H D = none → k ≤ n → Q (.ref D) (upd H D (SetO w D (inS ((List.range n).map f)) k))) : scB w (Itr lo n) g tYes te vs σ Q H := by
  intro D hD
  refine ⟨fun i m G => m = n - i ∧ i ≤ n ∧ ∃ k, k ≤ i ∧ G = upd H D (SetO w D (inS ((List.range i).map f)) k), ⟨n, by simp, Nat.zero_le _, 0, Nat.le_refl _, by rw [← inS_nil]; rfl⟩, ?_⟩
  rintro i m G ⟨rfl, hi, k, hk, rfl⟩
  by_cases lt : i < n
  · refine .inr ⟨lt, fun G' => ∃ k, k ≤ i + 1 ∧ G' = upd H D (SetO w D (inS ((List.range (i + 1)).map f)) k), fun G' ⟨k', a, b⟩ => ⟨n - (i + 1), by omega, rfl, lt, k', a, b⟩, fun x G' y => ?_⟩
    obtain ⟨e, y⟩ := y
    subst e y
    exact hs D i k hD lt hk
  · have e : i = n := by omega
    subst e
    exact .inl ⟨Nat.le_refl _, q D k hD hk⟩
theorem range_snoc {f : Nat → Int} {i : Nat} : (List.range (i + 1)).map f = (List.range i).map f ++ [f i] := by
  rw [List.range_succ, List.map_append]
  rfl
/-- sorted of a set that tells l -/
theorem rd_sortSetN {D : Addr} {l : List Int} {n : Nat} (hD : H D = some (SetO w D (inS l) n)) (q : ∀ (ns : List Int) (p : Addr), ns.Pairwise (· < ·) → (∀ k, k ∈ ns ↔ k ∈ l) → H p = none → Q (.ref p) (upd H p (.lst (ns.map V.int)))) : rSortSetN w [.ref D] H Q :=
  ⟨D, _, n, rfl, hD, fun ns p h1 h2 _ hp => q ns p h1 (fun k => by rw [h2 k]; simp [inS]) hp⟩
end
end L2

namespace L2
open PySem PySem.Spec PyProof.Rows
/-! ### a set of ints by a comprehension of two clauses -/
section
variable {P : Program} {w : World} {A : Around} {R : Result → Shared → Prop} {s : Shared} {e tA fA tB fB : Expr} {cA cB : List Expr} {sc : Scope} {ps : Pos} {src dst : Value} {en : Env}
theorem sc2_turnA (e tA fA tB fB : Expr) (cA cB : List Expr) (sc : Scope) (ps : Pos) (src dst : Value) (en : Env) :
    compTurn (.SetComp e [⟨tA, fA, cA, 0⟩, ⟨tB, fB, cB, 0⟩] sc ps) 0 src dst en = (do
      standAt fA.pos
      match ← pyNext src with
      | none => pure (.done .next)
      | some item =>
        letOwnedTupleGo tA src item
        assign tA en item
        let mut good := true
        for cond in cA do
          if good then good ← isTrue cond en (eval cond en)
        if good then
          let inner ← eval fB en
          standAt fB.pos
          let inner ← foldedSetIterable fB en inner
          let _ ← runOwn (.compStart (.SetComp e [⟨tA, fA, cA, 0⟩, ⟨tB, fB, cB, 0⟩] sc ps) 1 (← holding [inner] (pyIter inner)) dst en) en
        again (.compLoop (.SetComp e [⟨tA, fA, cA, 0⟩, ⟨tB, fB, cB, 0⟩] sc ps) 0 src dst en)) := by rfl
theorem sc2_turnB (e tA fA tB fB : Expr) (cA cB : List Expr) (sc : Scope) (ps : Pos) (src dst : Value) (en : Env) :
    compTurn (.SetComp e [⟨tA, fA, cA, 0⟩, ⟨tB, fB, cB, 0⟩] sc ps) 1 src dst en = (do
      standAt fB.pos
      match ← pyNext src with
      | none => pure (.done .next)
      | some item =>
        letOwnedTupleGo tB src item
        assign tB en item
        let mut good := true
        for cond in cB do
          if good then good ← isTrue cond en (eval cond en)
        if good then
          (do let member ← eval e en; standAt e.pos; let _ ← call (.builtin "set.add") [dst, member])
        again (.compLoop (.SetComp e [⟨tA, fA, cA, 0⟩, ⟨tB, fB, cB, 0⟩] sc ps) 1 src dst en)) := by rfl
/-- what is asked of the tests -/
abbrev sc2_tests (cs : List Expr) (en : Env) : Sem Bool := forIn cs true fun c r => if r = true then do let ok ← isTrue c en (eval c en); pure (ForInStep.yield ok) else pure (ForInStep.yield r)
abbrev sc2_bad (P : Program) (w : World) (A : Around) (R : Result → Shared → Prop) (en : Env) : Value → Shared → Prop := notedBy (model P w) A en fun x t => R (.error x) t
theorem sc2_loopA (plain : ∀ x, foldedSetIterable fB en x = pure x) (Z : Nat → Shared → Prop)
    (turn : ∀ m t, Z m t → wpAny (model P w) A (pyNext src) (fun r t1 => match r with
      | none => R (.ok .next) t1
      | some u => wpAny (model P w) A (letOwnedTupleGo tA src u) (fun _ t2 => wpAny (model P w) A (assign tA en u) (fun _ t3 =>
          wpAny (model P w) A (sc2_tests cA en) (fun good t4 =>
            if good = true then wpAny (model P w) A (eval fB en) (fun x t5 => wpAny (model P w) A (pyIter x) (fun src1 t6 =>
              codeAny (model P w) A (.compStart (.SetComp e [⟨tA, fA, cA, 0⟩, ⟨tB, fB, cB, 0⟩] sc ps) 1 src1 dst en) (fun r t7 => match r with
                | .ok _ => ∃ l, l < m ∧ Z l t7
                | .error _ => False) t6) (sc2_bad P w A R en) t5) (sc2_bad P w A R en) t4
            else ∃ l, l < m ∧ Z l t4) (sc2_bad P w A R en) t3) (sc2_bad P w A R en) t2) (sc2_bad P w A R en) t1) (sc2_bad P w A R en) t)
    (m : Nat) (z : Z m s) :
    codeAny (model P w) A (.compLoop (.SetComp e [⟨tA, fA, cA, 0⟩, ⟨tB, fB, cB, 0⟩] sc ps) 0 src dst en) R s := by
  refine codeAny_loop rfl Z (fun m t hz => ?_) m z
  show wpAny _ A ((compTurn (.SetComp e [⟨tA, fA, cA, 0⟩, ⟨tB, fB, cB, 0⟩] sc ps) 0 src dst en).onRaise (fun x => do noteFrame x en; theTreesLotGoes x)) _ _ t
  refine wpAny_noted ?_
  rw [sc2_turnA]
  refine wpAny_bind (wpAny_standAt (wpAny_bind (wpAny_mono (turn m t hz) (fun r t1 k1 => ?_) fun _ _ z => z)))
  cases r with
  | none => exact wpAny_pure k1
  | some u =>
    refine wpAny_bind (wpAny_mono k1 (fun _ t2 k2 => wpAny_bind (wpAny_mono k2 (fun _ t3 k3 => wpAny_bind (wpAny_mono k3 (fun good t4 k4 => ?_) fun _ _ z => z)) fun _ _ z => z)) fun _ _ z => z)
    cases good with
    | false => exact wpAny_pure ⟨rfl, k4⟩
    | true =>
      refine wpAny_bind (wpAny_mono k4 (fun x t5 k5 => ?_) fun _ _ z => z)
      refine wpAny_bind (wpAny_standAt (wpAny_bind (wpAny_of_eq (plain x) (wpAny_bind (wpAny_holding (wpAny_mono k5 (fun src1 t6 k6 => wpAny_bind (wpAny_runOwn ?_)) fun _ _ z => z))))))
      rw [Around.mark_none]
      refine codeAny_mono k6 fun r t7 k7 => ?_
      cases r with
      | ok f =>
        first
          | exact wpAny_pure ⟨rfl, k7⟩
          | exact wpAny_bind (wpAny_pure (wpAny_pure ⟨rfl, k7⟩))
      | error x => exact k7.elim
theorem sc2_loopB (Z : Nat → Shared → Prop)
    (turn : ∀ m t, Z m t → wpAny (model P w) A (pyNext src) (fun r t1 => match r with
      | none => R (.ok .next) t1
      | some u => wpAny (model P w) A (letOwnedTupleGo tB src u) (fun _ t2 => wpAny (model P w) A (assign tB en u) (fun _ t3 =>
          wpAny (model P w) A (sc2_tests cB en) (fun good t4 =>
            if good = true then wpAny (model P w) A (eval e en) (fun x t5 =>
              wpAny (model P w) A (call (.builtin "set.add") [dst, x]) (fun _ t6 => ∃ l, l < m ∧ Z l t6) (sc2_bad P w A R en) t5) (sc2_bad P w A R en) t4
            else ∃ l, l < m ∧ Z l t4) (sc2_bad P w A R en) t3) (sc2_bad P w A R en) t2) (sc2_bad P w A R en) t1) (sc2_bad P w A R en) t)
    (m : Nat) (z : Z m s) :
    codeAny (model P w) A (.compLoop (.SetComp e [⟨tA, fA, cA, 0⟩, ⟨tB, fB, cB, 0⟩] sc ps) 1 src dst en) R s := by
  refine codeAny_loop rfl Z (fun m t hz => ?_) m z
  show wpAny _ A ((compTurn (.SetComp e [⟨tA, fA, cA, 0⟩, ⟨tB, fB, cB, 0⟩] sc ps) 1 src dst en).onRaise (fun x => do noteFrame x en; theTreesLotGoes x)) _ _ t
  refine wpAny_noted ?_
  rw [sc2_turnB]
  refine wpAny_bind (wpAny_standAt (wpAny_bind (wpAny_mono (turn m t hz) (fun r t1 k1 => ?_) fun _ _ z => z)))
  cases r with
  | none => exact wpAny_pure k1
  | some u =>
    refine wpAny_bind (wpAny_mono k1 (fun _ t2 k2 => wpAny_bind (wpAny_mono k2 (fun _ t3 k3 => wpAny_bind (wpAny_mono k3 (fun good t4 k4 => ?_) fun _ _ z => z)) fun _ _ z => z)) fun _ _ z => z)
    cases good with
    | false => exact wpAny_pure ⟨rfl, k4⟩
    | true =>
      exact wpAny_bind (wpAny_bind (wpAny_mono k4 (fun x t5 k5 => wpAny_bind (wpAny_standAt (wpAny_bind (wpAny_mono k5 (fun _ t6 k6 => wpAny_pure (wpAny_pure ⟨rfl, k6⟩)) fun _ _ z => z)))) fun _ _ z => z))
theorem sc2_startB (here : codeAny (model P w) A (.compLoop (.SetComp e [⟨tA, fA, cA, 0⟩, ⟨tB, fB, cB, 0⟩] sc ps) 1 src dst en) R s)
    (again_ : wpAny (model P w) A (pyIter src) (fun src1 t => codeAny (model P w) A (.compLoop (.SetComp e [⟨tA, fA, cA, 0⟩, ⟨tB, fB, cB, 0⟩] sc ps) 1 src1 dst en) R t) (sc2_bad P w A R en) s) :
    codeAny (model P w) A (.compStart (.SetComp e [⟨tA, fA, cA, 0⟩, ⟨tB, fB, cB, 0⟩] sc ps) 1 src dst en) R s := by
  refine codeAny_of_tree ?_
  show wpAny _ _ ((compStart (.SetComp e [⟨tA, fA, cA, 0⟩, ⟨tB, fB, cB, 0⟩] sc ps) 1 src dst en).onRaise (fun x => do noteFrame x en; standAt theWindowsPlace)) _ _ s
  refine wpAny_notedAt ?_
  unfold compStart
  show wpAny _ _ (ask >>= _) _ _ s
  refine wpAny_bind (wpAny_askSetting (wpAny_ite ?_))
  split
  · first
      | exact wpAny_bind (wpAny_pure (wpAny_pure (And.intro rfl here)))
      | exact wpAny_pure (And.intro rfl here)
  · first
      | exact wpAny_bind (wpAny_rule (wpAny_bind (wpAny_standAt (wpAny_bind (wpAny_mono again_ (fun src1 t k => wpAny_pure (And.intro rfl k)) fun _ _ x => x)))))
      | (refine wpAny_bind (wpAny_rule ?_); show wpAny _ _ (standAt fB.pos >>= _) _ _ s; exact wpAny_bind (wpAny_standAt (wpAny_bind (wpAny_mono again_ (fun src1 t k => wpAny_pure (And.intro rfl k)) fun _ _ x => x))))
end
section
variable {X : Cx}
/-- the inner clause's own loop, from which Y is reached -/
def sc2_inner (w : World) (D : Addr) (g1 : TG) (tt1 : TT) (te : TE) (vs1 : List Nat) (σ2 : St) (Y : Hp → Prop) (J1 : It) (G4 : Hp) : Prop := ∃ Z1 : Nat → Nat → Hp → Prop, (∃ m, Z1 0 m G4) ∧ ∀ j k G, Z1 j k G →
  (J1.stop j G ∧ Y G) ∨ (J1.go j G ∧ ∃ Y1 : Hp → Prop, (∀ G', Y1 G' → ∃ l, l < k ∧ Z1 (j + 1) l G') ∧ ∀ x G', J1.yld j G x G' → g1 x (wipe σ2 vs1) G' fun σ3 G5 => wipe σ3 vs1 = wipe σ2 vs1 ∧ tt1 σ3 G5 fun b G6 =>
    if b = true then te σ3 G6 fun y G7 => ∃ (c : Int) (S : Int → Bool) (n : Nat), y = .int c ∧ G7 D = some (SetO w D S n) ∧ n + 1 < scanBound ∧ Y1 (upd G7 D (SetO w D (fun j => S j || decide (j = c)) (if S c = true then n else n + 1))) else Y1 G6)
def tScI2 (w : World) (wi : TI) (g : TG) (tt : TT) (wi1 : TI) (g1 : TG) (tt1 : TT) (te : TE) (vs vs1 : List Nat) : TE := fun σ H Q => wi σ H fun J H1 => ∀ D, H1 D = none → ∃ Z : Nat → Nat → Hp → Prop, (∃ m, Z 0 m (upd H1 D (SetO w D setNo 0))) ∧ ∀ i m G, Z i m G →
  (J.stop i G ∧ Q (.ref D) G) ∨ (J.go i G ∧ ∃ Y : Hp → Prop, (∀ G', Y G' → ∃ l, l < m ∧ Z (i + 1) l G') ∧ ∀ x G', J.yld i G x G' → g x (wipe σ vs) G' fun σ2 G2 => wipe σ2 vs = wipe σ vs ∧ tt σ2 G2 fun b G3 =>
    if b = true then wi1 σ2 G3 (sc2_inner w D g1 tt1 te vs1 σ2 Y) else Y G3)
theorem scI2_gen {pins : List (Addr × Obj)} {s : Shared} {σ : St} {H : Hp} {Q : VK} {use : Option (Value → Sem Unit)} {Qf : Value → Shared → Prop} {pos2 : Pos} {elt tg iter tg1 iter1 : Expr} {ifs ifs1 : List Expr} {scope : Scope} {own : List (PySem.Str × Nat)} {vs1 : List Nat} {pos : Pos} {wi wi1 : TI} {g g1 : TG} {tt tt1 : TT} {te : TE} (calm : X.calm = true) (nd : X.N.Nodup) (it0 : PI X tg iter wi) (ok : BlkOk X.N X.env.scope scope own) (less : ∀ i ∈ vs1, i ∈ own.map (·.2))
    (pg0 : ∀ (s0 : Shared) (G : Hp) (C : Addr) (cl : List (PySem.Str × Addr)) (fp : List Addr), PG (X.blk s0 G scope (compEnvC scope cl C X.env) fp) tg g)
    (pt0 : ∀ (s0 : Shared) (G : Hp) (C : Addr) (cl : List (PySem.Str × Addr)) (fp : List Addr), PTs (X.blk s0 G scope (compEnvC scope cl C X.env) fp) ifs tt)
    (pi1 : ∀ (s0 : Shared) (G : Hp) (C : Addr) (cl : List (PySem.Str × Addr)) (fp : List Addr), PI (X.blk s0 G scope (compEnvC scope cl C X.env) fp) tg1 iter1 wi1)
    (pg1 : ∀ (s0 : Shared) (G : Hp) (C : Addr) (cl : List (PySem.Str × Addr)) (fp : List Addr), PG (X.blk s0 G scope (compEnvC scope cl C X.env) fp) tg1 g1)
    (pt1 : ∀ (s0 : Shared) (G : Hp) (C : Addr) (cl : List (PySem.Str × Addr)) (fp : List Addr), PTs (X.blk s0 G scope (compEnvC scope cl C X.env) fp) ifs1 tt1)
    (pe0 : ∀ (s0 : Shared) (G : Hp) (C : Addr) (cl : List (PySem.Str × Addr)) (fp : List Addr), PE (X.blk s0 G scope (compEnvC scope cl C X.env) fp) elt te) (fold : ∀ x, foldedSetIterable iter X.env x = pure x) (fold1 : ∀ en x, foldedSetIterable iter1 en x = pure x)
    (I0 : Inv X pins σ H s) (want : (tScI2 X.w wi g tt wi1 g1 tt1 te (own.map (·.2)) vs1) σ H Q)
    (last : ∀ D C s' m H', Inv X pins σ H' s' → Q (.ref D) H' → s'.heap.Ns C m → FpOk X pins H' C → compPost (model X.prog X.w) X.A X.xe use Qf (.ref D) C (.ok .next) s') :
    wpAny (model X.prog X.w) X.A (comprehension (.SetComp elt [⟨tg, iter, ifs, 0⟩, ⟨tg1, iter1, ifs1, 0⟩] scope pos) scope X.env pos2 (newSet (.type "set")) false (eval iter X.env) use) Qf X.xe s := by
  have clo : ∀ y ∈ scope.names, y.2 = .free → ∃ c, X.env.cells.lookup y.1 = some c := fun y hy e => I0.ok.has _ ((ok.free y hy e).elim .inl .inr)
  refine wpAny_comprehension_free (use := use) rfl fold (closure_ok clo) ok.kind (fun y hy e => by rw [ok.uniq y hy, e]) (thn (it0.run pins s σ H _ I0 want) fun _ _ hx => thn hx fun _ s2 got => ?_)
  obtain ⟨it, fp, tn, J, H2, rfl, I2, T, st2, f2, q⟩ := got
  refine PpSet.newSet_ok (newEnv_comp ?_)
  obtain ⟨Z, ⟨m0, z0⟩, turn⟩ := q s2.heap.objs.size (I2.hok.fresh (Nat.le_refl _))
  have I3 : Inv X pins σ (upd H2 s2.heap.objs.size (SetO X.w s2.heap.objs.size setNo 0)) _ := I2.laid (t' := s2.toks) (fun b o e => Heap.get?_push_of_some _ e) (Nat.le_refl _) (setO_new (setR_fresh X.w))
  have old : ∀ b ∈ fp, b < s2.heap.objs.size := fun b hb => let ⟨_, e, _⟩ := T.obj _ _ st2 b hb; Heap.lt_size e
  generalize hs3 : ({ s2 with heap := s2.heap.push { cls := .type "set", dict := none, data := .set #[] 0 (.fresh 0 0 (!X.w.params.followText "set-order")) } } : Shared) = s3 at *
  have grown : ∀ b o, s2.heap.get? b = some o → s3.heap.get? b = some o := fun b o e => by rw [← hs3]; exact Heap.get?_push_of_some _ e
  have wider : s3.heap.objs.size = s2.heap.objs.size + 1 := by rw [← hs3]; exact Heap.size_push _ _
  have f3 : ∀ b ∈ fp, FpOk X pins (upd H2 s2.heap.objs.size (SetO X.w s2.heap.objs.size setNo 0)) b ∧ b < s3.heap.objs.size := fun b hb =>
    ⟨⟨by rw [upd_ne (Nat.ne_of_lt (old b hb))]; exact (f2 b hb).1, (f2 b hb).2⟩, by rw [wider]; exact Nat.lt_succ_of_lt (old b hb)⟩
  generalize s2.heap.objs.size = D at *
  have st3 := T.keep _ _ _ st2 fun b _ o e => grown b o e
  have I4 := block_start I3 ok nd f3
  generalize hH3 : upd H2 D (SetO X.w D setNo 0) = H3 at *
  replace pg0 := pg0 s3 H3 s3.heap.objs.size (cellsFrom (s3.heap.objs.size + 1) scope.names (cloFrom X.env.cells scope.names [])) fp
  replace pt0 := pt0 s3 H3 s3.heap.objs.size (cellsFrom (s3.heap.objs.size + 1) scope.names (cloFrom X.env.cells scope.names [])) fp
  replace pe0 := pe0 s3 H3 s3.heap.objs.size (cellsFrom (s3.heap.objs.size + 1) scope.names (cloFrom X.env.cells scope.names [])) fp
  replace pi1 := pi1 s3 H3 s3.heap.objs.size (cellsFrom (s3.heap.objs.size + 1) scope.names (cloFrom X.env.cells scope.names [])) fp
  replace pg1 := pg1 s3 H3 s3.heap.objs.size (cellsFrom (s3.heap.objs.size + 1) scope.names (cloFrom X.env.cells scope.names [])) fp
  replace pt1 := pt1 s3 H3 s3.heap.objs.size (cellsFrom (s3.heap.objs.size + 1) scope.names (cloFrom X.env.cells scope.names [])) fp
  generalize hS4 : ({ s3 with heap := pushCells (s3.heap.push { cls := .type "dict", data := .dict #[] }) scope.names } : Shared) = s4 at *
  generalize hce : compEnvC scope (cellsFrom (s3.heap.objs.size + 1) scope.names (cloFrom X.env.cells scope.names [])) s3.heap.objs.size X.env = ce at *
  have place : ce.locals = s3.heap.objs.size := by rw [← hce]; rfl
  show codeAny _ _ (.compStart (.SetComp elt [⟨tg, iter, ifs, 0⟩, ⟨tg1, iter1, ifs1, 0⟩] scope pos) 0 (.ref it) (.ref D) (compEnvC scope (cellsFrom (s3.heap.objs.size + 1) scope.names (cloFrom X.env.cells scope.names [])) s3.heap.objs.size X.env)) (compPost (model X.prog X.w) X.A X.xe use Qf (.ref D) s3.heap.objs.size) s4
  rw [hce]
  have st4 := T.keep _ _ s4.heap st3 fun b _ o e => by rw [← hS4]; exact pushCells_keeps _ _ _ _ (Heap.get?_push_of_some _ e)
  have none3 : ∀ b ∈ fp, H3 b = none := fun b hb => (f3 b hb).1.1
  have meet : ∀ {τ : L2.St} {G : Hp} {t : Shared}, Inv (X.blk s3 H3 scope ce fp) [] τ G t → (∀ b ∈ fp, G b = none) → ∀ b ∈ fp, FpOk (X.blk s3 H3 scope ce fp) [] G b := fun {τ G t} V no b hb =>
    ⟨no b hb, (V.ok.exf b hb).1, V.ok.exfs b hb, .inl hb, fun x c e => (V.ok.exf b hb).2 x c e, fun p hp => absurd (show p ∈ ([] : List (Addr × Obj)) ++ [] from hp) (by simp)⟩
  have around : codeAny (model X.prog X.w) X.A (.compLoop (.SetComp elt [⟨tg, iter, ifs, 0⟩, ⟨tg1, iter1, ifs1, 0⟩] scope pos) 0 (.ref it) (.ref D) ce) (compPost (model X.prog X.w) X.A X.xe use Qf (.ref D) s3.heap.objs.size) s4 := by
    refine sc2_loopA (fold1 ce) (fun m t => ∃ i G, Inv (X.blk s3 H3 scope ce fp) [] (wipe σ (own.map (·.2))) G t ∧ tn i t.heap ∧ (∀ b ∈ fp, G b = none) ∧ Z i m G) ?_ m0 ⟨0, H3, I4, st4, none3, z0⟩
    rintro m t5 ⟨i, G5, V5, w5, no5, z5⟩
    rcases turn i m G5 z5 with ⟨halt, want5⟩ | ⟨more, Y, fewer, step⟩
    · refine thnF (T.done (X.blk s3 H3 scope ce fp) rfl rfl rfl calm i [] t5 _ G5 (fun _ _ => False) V5 (meet V5 no5) w5 halt) fun r t6 ⟨er, V6⟩ => ?_
      subst er
      have V7 : Inv X pins σ G5 t6 := I3.call' (ch := fp) V6.os V6.base V6.hok V6.bare fun b hb => ⟨(f3 b hb).1.2.2.2.1, (f3 b hb).1.2.1, (f3 b hb).1.2.2.2.2.1, (f3 b hb).1.2.2.2.2.2⟩
      have gone : G5 s3.heap.objs.size = none := place ▸ (show G5 ce.locals = none from V6.free)
      obtain ⟨nm, ns6, _⟩ := V6.loc
      replace ns6 : t6.heap.Ns s3.heap.objs.size nm := place ▸ ns6
      exact last D s3.heap.objs.size t6 nm G5 V7 want5 ns6 (I3.fpOk (Nat.le_refl _) gone)
    · refine thnF (T.item (X.blk s3 H3 scope ce fp) rfl rfl rfl calm i [] t5 _ G5 (fun _ _ => False) V5 (meet V5 no5) w5 more) fun r t6 ⟨u, er, rest⟩ => ?_
      subst er
      refine thnF rest fun _ t7 ⟨x, G7, V7, r7, y7, w7, no7⟩ => ?_
      refine thnF (pg0.run _ t7 _ G7 x u _ (V7.pinned (meet V7 no7) (T.obj _ _ w7)) r7 (step x G7 y7)) fun _ t8 ⟨τ, G8, V8, same8, q8⟩ => ?_
      refine thnF (pt0.run _ t8 τ G8 _ V8 q8) fun b t9 ⟨G9, V9, q9⟩ => ?_
      have wend : ∀ {τ' : St} {tz : Shared} {Gz : Hp}, Inv (X.blk s3 H3 scope ce fp) ([] ++ pinsAt fp t7.heap) τ' Gz tz → (wipe σ (own.map (·.2))).length = τ'.length → (∀ (j : Nat) v, (wipe σ (own.map (·.2)))[j]? = some (some v) → τ'[j]? = some (some v)) → Y Gz →
          ∃ l, l < m ∧ ∃ i G, Inv (X.blk s3 H3 scope ce fp) [] (wipe σ (own.map (·.2))) G tz ∧ tn i tz.heap ∧ (∀ b ∈ fp, G b = none) ∧ Z i l G := fun {τ' tz Gz} Vz long kn yz => by
        obtain ⟨l, lt, zl⟩ := fewer Gz yz
        have kept : ∀ b ∈ fp, ∀ o, t7.heap.get? b = some o → tz.heap.get? b = some o ∧ Gz b = none := fun b hb o e =>
          let k := Vz.pin (b, o) (List.mem_append_right _ (List.mem_append_right _ (mem_pinsAt hb e)))
          ⟨k.1, k.2.1⟩
        refine ⟨l, lt, i + 1, Gz, (Vz.unpinned (pins := [])).weak long kn, T.keep _ _ _ w7 fun b hb o e => (kept b hb o e).1, fun b hb => ?_, zl⟩
        obtain ⟨o, e, _⟩ := T.obj _ _ w7 b hb
        exact (kept b hb o e).2
      have long8 : (wipe σ (own.map (·.2))).length = τ.length := by rw [← same8, wipe_length]
      have kn8 : ∀ (j : Nat) v, (wipe σ (own.map (·.2)))[j]? = some (some v) → τ[j]? = some (some v) := fun j v e => (wipe_some (same8 ▸ e)).1
      have kn9 : ∀ (j : Nat) v, (wipe σ (own.map (·.2)))[j]? = some (some v) → (wipe τ vs1)[j]? = some (some v) := fun j v e => by
        obtain ⟨e1, e2⟩ := wipe_some (same8 ▸ e)
        rwa [wipe_out fun z => e2 (less j z)]
      cases b with
      | false => exact wend V9 long8 kn8 q9
      | true =>
        refine thnF (pi1.run _ t9 τ G9 _ V9 q9) fun _ ta hx => thnF hx fun _ tb got1 => ?_
        obtain ⟨it1, fp1, tn1, J1, Gb, rfl, Vb, T1, stb, fb, Z1, ⟨m1, z1⟩, turn1⟩ := got1
        have meet1 : ∀ {G : Hp}, (∀ b ∈ fp1, G b = none) → ∀ b ∈ fp1, FpOk (X.blk s3 H3 scope ce fp) ([] ++ pinsAt fp t7.heap) G b := fun no b hb => ⟨no b hb, (fb b hb).2⟩
        have inside : codeAny (model X.prog X.w) X.A (.compLoop (.SetComp elt [⟨tg, iter, ifs, 0⟩, ⟨tg1, iter1, ifs1, 0⟩] scope pos) 1 (.ref it1) (.ref D) ce)
            (fun r tz => match r with
              | .ok _ => ∃ l, l < m ∧ ∃ i G, Inv (X.blk s3 H3 scope ce fp) [] (wipe σ (own.map (·.2))) G tz ∧ tn i tz.heap ∧ (∀ b ∈ fp, G b = none) ∧ Z i l G
              | .error _ => False) tb := by
          refine sc2_loopB (fun k t => ∃ j G, Inv (X.blk s3 H3 scope ce fp) ([] ++ pinsAt fp t7.heap) (wipe τ vs1) G t ∧ tn1 j t.heap ∧ (∀ b ∈ fp1, G b = none) ∧ Z1 j k G) ?_ m1 ⟨0, Gb, Vb.weak (wipe_length _ _) (fun j v e => (wipe_some e).1), stb, fun b hb => (fb b hb).1, z1⟩
          rintro k tc ⟨j, Gc, Vc, stc, noc, zc⟩
          rcases turn1 j k Gc zc with ⟨halt1, y1⟩ | ⟨more1, Y1, fewer1, step1⟩
          · refine thnF (T1.done (X.blk s3 H3 scope ce fp) rfl rfl rfl calm j _ tc (wipe τ vs1) Gc (fun _ _ => False) Vc (meet1 noc) stc halt1) fun r td ⟨er, Vd⟩ => ?_
            subst er
            exact wend Vd (long8.trans (wipe_length τ vs1).symm) kn9 y1
          · refine thnF (T1.item (X.blk s3 H3 scope ce fp) rfl rfl rfl calm j _ tc (wipe τ vs1) Gc (fun _ _ => False) Vc (meet1 noc) stc more1) fun r td ⟨u1, er, rest1⟩ => ?_
            subst er
            refine thnF rest1 fun _ tf ⟨x1, Gf, Vf, rf, yf, stf, nof⟩ => ?_
            refine thnF (pg1.run _ tf (wipe τ vs1) Gf x1 u1 _ (Vf.pinned (meet1 nof) (T1.obj _ _ stf)) rf (step1 x1 Gf yf)) fun _ tg ⟨τ1, Gg, Vg, sameg, qg⟩ => ?_
            refine thnF (pt1.run _ tg τ1 Gg _ Vg qg) fun b1 th ⟨Gh, Vh, qh⟩ => ?_
            have wend1 : ∀ {tz : Shared} {Gz : Hp}, Inv (X.blk s3 H3 scope ce fp) (([] ++ pinsAt fp t7.heap) ++ pinsAt fp1 tf.heap) τ1 Gz tz → Y1 Gz → ∃ l, l < k ∧ ∃ j G, Inv (X.blk s3 H3 scope ce fp) ([] ++ pinsAt fp t7.heap) (wipe τ vs1) G tz ∧ tn1 j tz.heap ∧ (∀ b ∈ fp1, G b = none) ∧ Z1 j l G := fun {tz Gz} Vz yz => by
              obtain ⟨l, lt, zl⟩ := fewer1 Gz yz
              have kept : ∀ b ∈ fp1, ∀ o, tf.heap.get? b = some o → tz.heap.get? b = some o ∧ Gz b = none := fun b hb o e =>
                let k := Vz.pin (b, o) (List.mem_append_right _ (List.mem_append_right _ (mem_pinsAt hb e)))
                ⟨k.1, k.2.1⟩
              refine ⟨l, lt, j + 1, Gz, Vz.unpinned.weak (by rw [← sameg, wipe_length]) (fun j v e => (wipe_some (sameg ▸ e)).1), T1.keep _ _ _ stf fun b hb o e => (kept b hb o e).1, fun b hb => ?_, zl⟩
              obtain ⟨o, e, _⟩ := T1.obj _ _ stf b hb
              exact (kept b hb o e).2
            cases b1 with
            | false => exact wend1 Vh qh
            | true =>
              refine thnF (pe0.run _ th τ1 Gh _ Vh qh) fun z ti ⟨yv, Gi, Vi, ri, c, S0, n0, ey, at_, roomy, nxt⟩ => ?_
              subst ey
              exact setPut_int (X := X.blk s3 H3 scope ce fp) Vi at_ roomy ri fun tj Vj => wend1 Vj nxt
        exact sc2_startB inside (T1.self X.A 0 _ _ _ stb inside)
  exact PpSet.codeAny_compStart_set around (T.self X.A 0 _ _ _ st4 around)
theorem pe_scI2 {elt tg iter tg1 iter1 : Expr} {ifs ifs1 : List Expr} {scope : Scope} {own : List (PySem.Str × Nat)} {vs1 : List Nat} {pos : Pos} {wi wi1 : TI} {g g1 : TG} {tt tt1 : TT} {te : TE} (calm : X.calm = true) (nd : X.N.Nodup) (it0 : PI X tg iter wi) (ok : BlkOk X.N X.env.scope scope own) (less : ∀ i ∈ vs1, i ∈ own.map (·.2))
    (pg0 : ∀ (s0 : Shared) (G : Hp) (C : Addr) (cl : List (PySem.Str × Addr)) (fp : List Addr), PG (X.blk s0 G scope (compEnvC scope cl C X.env) fp) tg g)
    (pt0 : ∀ (s0 : Shared) (G : Hp) (C : Addr) (cl : List (PySem.Str × Addr)) (fp : List Addr), PTs (X.blk s0 G scope (compEnvC scope cl C X.env) fp) ifs tt)
    (pi1 : ∀ (s0 : Shared) (G : Hp) (C : Addr) (cl : List (PySem.Str × Addr)) (fp : List Addr), PI (X.blk s0 G scope (compEnvC scope cl C X.env) fp) tg1 iter1 wi1)
    (pg1 : ∀ (s0 : Shared) (G : Hp) (C : Addr) (cl : List (PySem.Str × Addr)) (fp : List Addr), PG (X.blk s0 G scope (compEnvC scope cl C X.env) fp) tg1 g1)
    (pt1 : ∀ (s0 : Shared) (G : Hp) (C : Addr) (cl : List (PySem.Str × Addr)) (fp : List Addr), PTs (X.blk s0 G scope (compEnvC scope cl C X.env) fp) ifs1 tt1)
    (pe0 : ∀ (s0 : Shared) (G : Hp) (C : Addr) (cl : List (PySem.Str × Addr)) (fp : List Addr), PE (X.blk s0 G scope (compEnvC scope cl C X.env) fp) elt te) (fold : ∀ x, foldedSetIterable iter X.env x = pure x := by intro _; rfl) (fold1 : ∀ en x, foldedSetIterable iter1 en x = pure x := by intro _ _; rfl) :
    PE X (.SetComp elt [⟨tg, iter, ifs, 0⟩, ⟨tg1, iter1, ifs1, 0⟩] scope pos) (tScI2 X.w wi g tt wi1 g1 tt1 te (own.map (·.2)) vs1) := by
  refine ⟨fun pins s σ H Q I0 want => ?_⟩
  rw [PpSet.eval_SetComp]
  refine scI2_gen calm nd it0 ok less pg0 pt0 pi1 pg1 pt1 pe0 fold fold1  I0 want fun D C s' m H' J q ns f => ⟨m, ns, fun h'' sb => ?_⟩
  obtain ⟨g0, g1, g2, g3, g4, g5⟩ := f
  exact ⟨.ref D, H', J.turned (t' := s'.toks) (fun b o ne e => (sb.2 b ne).trans e) g0 g1 g3 g4 g5, rfl, q⟩
theorem ps_scI2 {i : Nat} {y : PySem.Str} {py spos : Pos} {elt tg iter tg1 iter1 : Expr} {ifs ifs1 : List Expr} {scope : Scope} {own : List (PySem.Str × Nat)} {vs1 : List Nat} {pos : Pos} {wi wi1 : TI} {g g1 : TG} {tt tt1 : TT} {te : TE} (calm : X.calm = true) (nd : X.N.Nodup) (hy : X.N[i]? = some y) (loc : X.env.scope.names.lookup y = some .local) (swap : swapsWith (.SetComp elt [⟨tg, iter, ifs, 0⟩, ⟨tg1, iter1, ifs1, 0⟩] scope pos) (some (.Name y py)) spos.line X.env = pure true) (it0 : PI X tg iter wi) (ok : BlkOk X.N X.env.scope scope own) (less : ∀ i ∈ vs1, i ∈ own.map (·.2))
    (pg0 : ∀ (s0 : Shared) (G : Hp) (C : Addr) (cl : List (PySem.Str × Addr)) (fp : List Addr), PG (X.blk s0 G scope (compEnvC scope cl C X.env) fp) tg g)
    (pt0 : ∀ (s0 : Shared) (G : Hp) (C : Addr) (cl : List (PySem.Str × Addr)) (fp : List Addr), PTs (X.blk s0 G scope (compEnvC scope cl C X.env) fp) ifs tt)
    (pi1 : ∀ (s0 : Shared) (G : Hp) (C : Addr) (cl : List (PySem.Str × Addr)) (fp : List Addr), PI (X.blk s0 G scope (compEnvC scope cl C X.env) fp) tg1 iter1 wi1)
    (pg1 : ∀ (s0 : Shared) (G : Hp) (C : Addr) (cl : List (PySem.Str × Addr)) (fp : List Addr), PG (X.blk s0 G scope (compEnvC scope cl C X.env) fp) tg1 g1)
    (pt1 : ∀ (s0 : Shared) (G : Hp) (C : Addr) (cl : List (PySem.Str × Addr)) (fp : List Addr), PTs (X.blk s0 G scope (compEnvC scope cl C X.env) fp) ifs1 tt1)
    (pe0 : ∀ (s0 : Shared) (G : Hp) (C : Addr) (cl : List (PySem.Str × Addr)) (fp : List Addr), PE (X.blk s0 G scope (compEnvC scope cl C X.env) fp) elt te) (fold : ∀ x, foldedSetIterable iter X.env x = pure x := by intro _; rfl) (fold1 : ∀ en x, foldedSetIterable iter1 en x = pure x := by intro _ _; rfl) :
    PS X (.Assign [.Name y py] (.SetComp elt [⟨tg, iter, ifs, 0⟩, ⟨tg1, iter1, ifs1, 0⟩] scope pos) spos) (tAsg (tScI2 X.w wi g tt wi1 g1 tt1 te (own.map (·.2)) vs1) (gName i)) := by
  refine ⟨fun pins s σ H D I0 want => ?_⟩
  rw [exec_Assign_Name_used _ _ _ _ swap]
  refine wpAny_bind (wpAny_standAt (wpAny_bind ?_))
  show wpAny _ X.A (do let _ ← comprehension (.SetComp elt [⟨tg, iter, ifs, 0⟩, ⟨tg1, iter1, ifs1, 0⟩] scope pos) scope X.env (firstIterPos [⟨tg, iter, ifs, 0⟩, ⟨tg1, iter1, ifs1, 0⟩] pos) (newSet (.type "set")) false (eval iter X.env) (some (assign (.Name y py) X.env))) _ _ s
  replace want : (tScI2 X.w wi g tt wi1 g1 tt1 te (own.map (·.2)) vs1) σ H (fun x G => gName i x σ G D.nx) := want
  refine wpAny_bind (thn (scI2_gen (Qf := fun _ t => SP X pins D .next t) calm nd it0 ok less pg0 pt0 pi1 pg1 pt1 pe0 fold fold1  I0 want fun L C t m G J q ns f => ?_) fun _ t hq => wpAny_pure (wpAny_pure hq))
  show wpAny _ _ (assign (.Name y py) X.env (.ref L)) _ _ _
  refine wpAny_assign_Name (store_ok2 (v := V.ref L) J nd hy (.inl loc) rfl (fun t2 J2 ⟨a, sb, ha⟩ => ?_) (.inr loc))
  obtain ⟨g0, g1, g2, g3, g4, g5⟩ := f
  have away : C ≠ a := by
    rcases ha with z | z
    · exact z ▸ g1
    · exact fun e => g4 y a z e.symm
  exact ⟨m, ns.sameBut sb away, fun h3 sb3 => ⟨_, G, J2.turned (t' := t2.toks) (fun b o ne e => (sb3.2 b ne).trans e) g0 g1 g3 g4 g5, q⟩⟩
end
end L2
/-! ### a set of ints as what was put in, in order -/
namespace L2
open PySem PySem.Spec PyProof.Rows
def insL (l : List Int) (c : Int) : List Int := if c ∈ l then l else l ++ [c]
def ofL (xs : List Int) : List Int := xs.foldl insL []
theorem ofL_snoc {xs : List Int} {c : Int} : ofL (xs ++ [c]) = insL (ofL xs) c := by
  unfold ofL
  rw [List.foldl_append]
  rfl
theorem mem_insL {l : List Int} {c k : Int} : k ∈ insL l c ↔ k ∈ l ∨ k = c := by
  unfold insL
  split
  · rename_i h
    exact ⟨.inl, fun z => z.elim id fun e => e ▸ h⟩
  · simp
theorem mem_foldl : ∀ {xs l : List Int} {k : Int}, k ∈ xs.foldl insL l ↔ k ∈ l ∨ k ∈ xs
  | [], l, k => by simp
  | c :: xs, l, k => by
    rw [List.foldl_cons, mem_foldl (xs := xs), mem_insL, List.mem_cons]
    constructor
    · rintro ((h | h) | h)
      · exact .inl h
      · exact .inr (.inl h)
      · exact .inr (.inr h)
    · rintro (h | h | h)
      · exact .inl (.inl h)
      · exact .inl (.inr h)
      · exact .inr h
theorem mem_ofL {xs : List Int} {k : Int} : k ∈ ofL xs ↔ k ∈ xs := by
  unfold ofL
  rw [mem_foldl]
  simp
theorem nodup_insL {l : List Int} {c : Int} (h : l.Nodup) : (insL l c).Nodup := by
  unfold insL
  split
  · exact h
  · rename_i hc
    refine List.nodup_append.mpr ⟨h, by simp, ?_⟩
    intro a ha b hb e
    rw [List.mem_singleton] at hb
    exact hc (hb ▸ e ▸ ha)
theorem nodup_foldl : ∀ {xs l : List Int}, l.Nodup → (xs.foldl insL l).Nodup
  | [], _, h => h
  | _ :: xs, _, h => nodup_foldl (xs := xs) (nodup_insL h)
theorem nodup_ofL {xs : List Int} : (ofL xs).Nodup := nodup_foldl List.nodup_nil
theorem len_insL {l : List Int} {c : Int} : (insL l c).length ≤ l.length + 1 := by
  unfold insL
  split
  · exact Nat.le_succ _
  · simp
theorem len_foldl : ∀ {xs l : List Int}, (xs.foldl insL l).length ≤ l.length + xs.length
  | [], _ => Nat.le_refl _
  | c :: xs, l => by
    have a := len_foldl (xs := xs) (l := insL l c)
    have b := len_insL (l := l) (c := c)
    rw [List.foldl_cons, List.length_cons]
    omega
theorem len_ofL {xs : List Int} : (ofL xs).length ≤ xs.length := by
  have := len_foldl (xs := xs) (l := [])
  unfold ofL
  simpa using this
/-- distinct ints from 0 on below M are at most M -/
theorem nodup_le : ∀ {M : Nat} {l : List Int}, l.Nodup → (∀ x ∈ l, 0 ≤ x ∧ x < (M : Int)) → l.length ≤ M
  | 0, l, _, h => by
    cases l with
    | nil => exact Nat.le_refl _
    | cons a l => have := h a List.mem_cons_self; omega
  | M + 1, l, nd, h => by
    have e1 : (l.filter (fun x => decide (x ≠ (M : Int)))).length ≤ M := nodup_le (nd.filter _) fun x hx => by
      obtain ⟨a, b⟩ := List.mem_filter.mp hx
      have := h x a
      have := of_decide_eq_true b
      omega
    have e2 : (l.filter (fun x => decide (x = (M : Int)))).length ≤ 1 := by
      match hf : l.filter (fun x => decide (x = (M : Int))) with
      | [] => exact Nat.zero_le _
      | [_] => exact Nat.le_refl _
      | a :: b :: r =>
        have n2 : (a :: b :: r).Nodup := hf ▸ nd.filter _
        have ha : a ∈ l.filter (fun x => decide (x = (M : Int))) := by rw [hf]; exact List.mem_cons_self
        have hb : b ∈ l.filter (fun x => decide (x = (M : Int))) := by rw [hf]; exact List.mem_cons_of_mem _ List.mem_cons_self
        have ea := of_decide_eq_true (List.mem_filter.mp ha).2
        have eb := of_decide_eq_true (List.mem_filter.mp hb).2
        have := (List.nodup_cons.mp n2).1
        rw [ea, eb] at this
        exact absurd List.mem_cons_self this
    have e3 : l.length = (l.filter (fun x => decide (x = (M : Int)))).length + (l.filter (fun x => decide (x ≠ (M : Int)))).length := by
      clear h e1 e2 nd
      induction l with
      | nil => rfl
      | cons a l ih =>
        by_cases z : a = (M : Int)
        · simp [z, ih]
          omega
        · simp [z, ih]
          omega
    omega
theorem ofL_le {M : Nat} {xs : List Int} (h : ∀ x ∈ xs, 0 ≤ x ∧ x < (M : Int)) : (ofL xs).length ≤ M := nodup_le nodup_ofL fun x hx => h x (mem_ofL.mp hx)
section
variable {w : World} {σ : St} {H : Hp} {Q : VK} {K : PySem.W.Frag} {te : TE} {tt : TT}
/-- the heap with the set of what stands in xs at D -/
def SetL (w : World) (H : Hp) (D : Addr) (xs : List Int) : Hp := upd H D (SetO w D (inS (ofL xs)) (ofL xs).length)
theorem SetL.at {D : Addr} {xs : List Int} : SetL w H D xs D = some (SetO w D (inS (ofL xs)) (ofL xs).length) := upd_same
theorem SetL.same {D : Addr} {xs : List Int} (h : H D = none) : Same H (SetL w H D xs) := same_new h
theorem SetL.nt {D : Addr} {xs : List Int} (h : NoT H) : NoT (SetL w H D xs) := NoT.upd h rfl
theorem SetL.nil {D : Addr} : upd H D (SetO w D setNo 0) = SetL w H D [] := by rw [← inS_nil]; rfl
theorem SetL.put {D : Addr} {xs : List Int} {c : Int} : upd (SetL w H D xs) D (SetO w D (fun j => inS (ofL xs) j || decide (j = c)) (if inS (ofL xs) c = true then (ofL xs).length else (ofL xs).length + 1)) = SetL w H D (xs ++ [c]) := by
  unfold SetL
  rw [upd_upd, ofL_snoc, inS_snoc]
  by_cases h : c ∈ ofL xs
  · have e1 : inS (ofL xs) c = true := decide_eq_true h
    have e2 : inS (ofL xs ++ [c]) = inS (ofL xs) := by
      funext k
      refine decide_eq_decide.mpr ?_
      rw [List.mem_append, List.mem_singleton]
      exact ⟨fun z => z.elim id fun e => e ▸ h, .inl⟩
    rw [if_pos e1, e2, show insL (ofL xs) c = ofL xs from if_pos h]
  · have e1 : ¬ inS (ofL xs) c = true := fun z => h (of_decide_eq_true z)
    rw [if_neg e1, show insL (ofL xs) c = ofL xs ++ [c] from if_neg h, List.length_append]
    rfl
/-- what is put in: the set then holds xs -/
def ScP (w : World) (H : Hp) (D : Addr) (xs : List Int) : VK := fun y G => ∃ (c : Int) (S : Int → Bool) (n : Nat), y = .int c ∧ G D = some (SetO w D S n) ∧ n + 1 < scanBound ∧
  upd G D (SetO w D (fun j => S j || decide (j = c)) (if S c = true then n else n + 1)) = SetL w H D xs
theorem put_P2 {D : Addr} {xs ys : List Int} {c : Int} {y : V} (hy : y = .int c) (hm : (ofL xs).length < 4095) (hl : ys = xs ++ [c]) : ScP w H D ys y (SetL w H D xs) :=
  ⟨c, _, _, hy, upd_same, Nat.succ_lt_succ hm, by rw [hl]; exact SetL.put⟩
theorem rd_scRL {lo : Int} {n : Nat} {g : TG} {vs : List Nat} (f : Nat → Int)
    (hs : ∀ D i, H D = none → i < n → g (.int (lo + i)) (wipe σ vs) (SetL w H D ((List.range i).map f)) fun σ2 H2 => wipe σ2 vs = wipe σ vs ∧ te σ2 H2 (ScP w H D ((List.range (i + 1)).map f)))
    (q : ∀ D, H D = none → Q (.ref D) (SetL w H D ((List.range n).map f))) : scB w (Itr lo n) g tYes te vs σ Q H := by
  intro D hD
  refine ⟨fun i m G => m = n - i ∧ i ≤ n ∧ G = SetL w H D ((List.range i).map f), ⟨n, by simp, Nat.zero_le _, SetL.nil⟩, ?_⟩
  rintro i m G ⟨rfl, hi, rfl⟩
  by_cases lt : i < n
  · refine .inr ⟨lt, fun G' => G' = SetL w H D ((List.range (i + 1)).map f), fun G' e => ⟨n - (i + 1), by omega, rfl, lt, e⟩, fun x G' y => ?_⟩
    obtain ⟨e, y⟩ := y
    subst e y
    exact hs D i hD lt
  · have e : i = n := by omega
    subst e
    exact .inl ⟨Nat.le_refl _, q D hD⟩
/-- over a list that stands still -/
theorem rd_scLL {a : Addr} {vsx : List V} {g : TG} {vs : List Nat} (f : V → Int) (hS : SqL K H a vsx)
    (hs : ∀ D l x r, H D = none → vsx = l ++ x :: r → g x (wipe σ vs) (SetL w H D (l.map f)) fun σ2 H2 => wipe σ2 vs = wipe σ vs ∧ te σ2 H2 (ScP w H D ((l ++ [x]).map f)))
    (q : ∀ D, H D = none → Q (.ref D) (SetL w H D (vsx.map f))) : scB w (Itl K a) g tYes te vs σ Q H := by
  intro D hD
  refine ⟨fun i m G => m = vsx.length - i ∧ i ≤ vsx.length ∧ G = SetL w H D ((vsx.take i).map f), ⟨vsx.length, by simp, Nat.zero_le _, SetL.nil⟩, ?_⟩
  rintro i m G ⟨rfl, hi, rfl⟩
  have hS' : SqL K (SetL w H D ((vsx.take i).map f)) a vsx := (SetL.same hD).seq hS
  by_cases hlt : i < vsx.length
  · have hx : vsx[i]? = some vsx[i] := by simp [hlt]
    have er : vsx.take (i + 1) = vsx.take i ++ [vsx[i]] := by rw [List.take_add_one, hx]; rfl
    refine .inr ⟨⟨vsx, vsx[i], hS', hx⟩, fun G' => G' = SetL w H D ((vsx.take (i + 1)).map f), fun G' e => ⟨vsx.length - (i + 1), by omega, rfl, hlt, e⟩, fun x G' y => ?_⟩
    obtain ⟨e, y⟩ := y
    subst e
    have ex : x = vsx[i] := Option.some.inj ((y vsx hS').symm.trans hx)
    subst ex
    have z := hs D (vsx.take i) vsx[i] (vsx.drop (i + 1)) hD (by rw [List.getElem_cons_drop, List.take_append_drop])
    rw [← er] at z
    exact z
  · have e : i = vsx.length := by omega
    subst e
    rw [List.take_length]
    exact .inl ⟨⟨vsx, (SetL.same hD).seq hS, Nat.le_refl _⟩, q D hD⟩
/-- two clauses -/
def sc2B (w : World) (J : It) (g : TG) (tt : TT) (wi1 : TI) (g1 : TG) (tt1 : TT) (te : TE) (vs vs1 : List Nat) (σ : St) (Q : VK) (H1 : Hp) : Prop := ∀ D, H1 D = none → ∃ Z : Nat → Nat → Hp → Prop, (∃ m, Z 0 m (upd H1 D (SetO w D setNo 0))) ∧ ∀ i m G, Z i m G →
  (J.stop i G ∧ Q (.ref D) G) ∨ (J.go i G ∧ ∃ Y : Hp → Prop, (∀ G', Y G' → ∃ l, l < m ∧ Z (i + 1) l G') ∧ ∀ x G', J.yld i G x G' → g x (wipe σ vs) G' fun σ2 G2 => wipe σ2 vs = wipe σ vs ∧ tt σ2 G2 fun b G3 =>
    if b = true then wi1 σ2 G3 (sc2_inner w D g1 tt1 te vs1 σ2 Y) else Y G3)
instance st_scI2 {wi wi1 : TI} {g g1 : TG} {tt1 : TT} {vs vs1 : List Nat} : Stp (tScI2 w wi g tt wi1 g1 tt1 te vs vs1 σ H Q) (wi σ H fun J H1 => sc2B w J g tt wi1 g1 tt1 te vs vs1 σ Q H1) := ⟨fun h => h⟩
def rowsL (f : Nat → Nat → Int) (m : Nat) : Nat → List Int
  | 0 => []
  | i + 1 => rowsL f m i ++ (List.range m).map (f i)
theorem mem_rowsL {f : Nat → Nat → Int} {m : Nat} {k : Int} : ∀ {n : Nat}, k ∈ rowsL f m n ↔ ∃ i j, i < n ∧ j < m ∧ f i j = k
  | 0 => by simp [rowsL]
  | n + 1 => by
    rw [rowsL, List.mem_append, mem_rowsL (n := n), List.mem_map]
    constructor
    · rintro (⟨i, j, a, b, c⟩ | ⟨j, a, b⟩)
      · exact ⟨i, j, by omega, b, c⟩
      · exact ⟨n, j, by omega, List.mem_range.mp a, b⟩
    · rintro ⟨i, j, a, b, c⟩
      by_cases e : i = n
      · subst e
        exact .inr ⟨j, List.mem_range.mpr b, c⟩
      · exact .inl ⟨i, j, by omega, b, c⟩
theorem rd_sc2R {lo : Int} {n m : Nat} {g g1 : TG} {wi1 : TI} {vs vs1 : List Nat} (f : Nat → Nat → Int)
    (hs : ∀ D i, H D = none → i < n → g (.int (lo + i)) (wipe σ vs) (SetL w H D (rowsL f m i)) fun σ2 H2 => wipe σ2 vs = wipe σ vs ∧ wi1 σ2 H2 (sc2_inner w D g1 tYes te vs1 σ2 fun G => G = SetL w H D (rowsL f m (i + 1))))
    (q : ∀ D, H D = none → Q (.ref D) (SetL w H D (rowsL f m n))) : sc2B w (Itr lo n) g tYes wi1 g1 tYes te vs vs1 σ Q H := by
  intro D hD
  refine ⟨fun i m' G => m' = n - i ∧ i ≤ n ∧ G = SetL w H D (rowsL f m i), ⟨n, by simp, Nat.zero_le _, SetL.nil⟩, ?_⟩
  rintro i m' G ⟨rfl, hi, rfl⟩
  by_cases lt : i < n
  · refine .inr ⟨lt, fun G' => G' = SetL w H D (rowsL f m (i + 1)), fun G' e => ⟨n - (i + 1), by omega, rfl, lt, e⟩, fun x G' y => ?_⟩
    obtain ⟨e, y⟩ := y
    subst e y
    exact hs D i hD lt
  · have e : i = n := by omega
    subst e
    exact .inl ⟨Nat.le_refl _, q D hD⟩
theorem rd_sc2in {lo : Int} {m : Nat} {g1 : TG} {vs1 : List Nat} {D : Addr} {xs zs : List Int} {H0 : Hp} (f : Nat → Int) (hz : zs = xs ++ (List.range m).map f)
    (hs : ∀ j, j < m → g1 (.int (lo + j)) (wipe σ vs1) (SetL w H0 D (xs ++ (List.range j).map f)) fun σ3 H5 => wipe σ3 vs1 = wipe σ vs1 ∧ te σ3 H5 (ScP w H0 D (xs ++ (List.range (j + 1)).map f))) :
    sc2_inner w D g1 tYes te vs1 σ (fun G => G = SetL w H0 D zs) (Itr lo m) (SetL w H0 D xs) := by
  subst hz
  refine ⟨fun j k G => k = m - j ∧ j ≤ m ∧ G = SetL w H0 D (xs ++ (List.range j).map f), ⟨m, by simp, Nat.zero_le _, by simp⟩, ?_⟩
  rintro j k G ⟨rfl, hj, rfl⟩
  by_cases lt : j < m
  · refine .inr ⟨lt, fun G' => G' = SetL w H0 D (xs ++ (List.range (j + 1)).map f), fun G' e => ⟨m - (j + 1), by omega, rfl, lt, e⟩, fun x G' y => ?_⟩
    obtain ⟨e, y⟩ := y
    subst e y
    exact hs j lt
  · have e : j = m := by omega
    subst e
    exact .inl ⟨Nat.le_refl _, rfl⟩
theorem row_snoc {xs : List Int} {f : Nat → Int} {j : Nat} : xs ++ (List.range (j + 1)).map f = (xs ++ (List.range j).map f) ++ [f j] := by
  rw [range_snoc, List.append_assoc]
/-- sorted of the set of xs -/
theorem rd_sortSL {D : Addr} {xs : List Int} {H' : Hp} (hD : H' D = some (SetO w D (inS (ofL xs)) (ofL xs).length)) (q : ∀ (ns : List Int) (p : Addr), ns.Pairwise (· < ·) → (∀ k, k ∈ ns ↔ k ∈ xs) → H' p = none → Q (.ref p) (upd H' p (.lst (ns.map V.int)))) : rSortSetN w [.ref D] H' Q :=
  rd_sortSetN hD fun ns p h1 h2 hp => q ns p h1 (fun k => by rw [h2 k, mem_ofL]) hp
end
end L2
namespace L2
open PySem PySem.Spec PyProof.Rows
/-! ### list comprehensions over a list of ints -/
section
variable {σ : St} {H : Hp} {Q : VK} {K : PySem.W.Frag} {te : TE} {tt : TT}
def resI (p : Int → Bool) (f : Int → V) (ns : List Int) : List V := (ns.filter p).map f
theorem resI_len {p : Int → Bool} {f : Int → V} {ns : List Int} : (resI p f ns).length ≤ ns.length := by
  unfold resI
  rw [List.length_map]
  exact List.length_filter_le _ _
theorem put_I {D : Addr} {p : Int → Bool} {f : Int → V} {l : List Int} {x : Int} {y : V} (hi : l.length < 1000000) (hp : p x = true) (hy : y = f x) : LcPut H D (resI p f l) (resI p f (l ++ [x])) y (upd H D (.lst (resI p f l))) := by
  refine ⟨_, upd_same, Nat.lt_of_le_of_lt resI_len (Nat.lt_trans hi (by decide)), ?_⟩
  rw [upd_upd]
  unfold resI
  rw [List.filter_append, List.map_append, hy]
  simp [hp]
theorem skip_I {D : Addr} {p : Int → Bool} {f : Int → V} {l : List Int} {x : Int} (hp : p x = false) : LcSkip H D (resI p f (l ++ [x])) (upd H D (.lst (resI p f l))) := by
  show upd H D _ = _
  unfold resI
  rw [List.filter_append, List.map_append]
  simp [hp]
theorem rd_lcI {a : Addr} {ns : List Int} {g : TG} {vs : List Nat} (p : Int → Bool) (f : Int → V) (hS : SqL K H a (ns.map V.int))
    (hs : ∀ D l x r, H D = none → ns = l ++ x :: r → g (.int x) (wipe σ vs) (upd H D (.lst (resI p f l))) fun σ2 H2 => wipe σ2 vs = wipe σ vs ∧ tt σ2 H2 fun b H3 => if b = true then te σ2 H3 (LcPut H D (resI p f l) (resI p f (l ++ [x]))) else LcSkip H D (resI p f (l ++ [x])) H3)
    (q : ∀ D, H D = none → Q (.ref D) (upd H D (.lst ((ns.filter p).map f)))) : lcB (Itl K a) g tt te vs σ Q H := by
  intro D hD
  refine ⟨fun i m H' => m = ns.length - i ∧ i ≤ ns.length ∧ H' = upd H D (.lst (resI p f (ns.take i))), ⟨ns.length, by simp, Nat.zero_le _, rfl⟩, ?_⟩
  rintro i m H' ⟨rfl, hi, rfl⟩
  have hS' : SqL K (upd H D (.lst (resI p f (ns.take i)))) a (ns.map V.int) := (same_new hD).seq hS
  by_cases hlt : i < ns.length
  · have hx : (ns.map V.int)[i]? = some (.int ns[i]) := by simp [hlt]
    have er : ns.take (i + 1) = ns.take i ++ [ns[i]] := by rw [List.take_add_one, List.getElem?_eq_getElem hlt]; rfl
    refine .inr ⟨⟨_, _, hS', hx⟩, fun H' => H' = upd H D (.lst (resI p f (ns.take (i + 1)))), fun H' p' => ⟨ns.length - (i + 1), by omega, rfl, hlt, p'⟩, fun x H' y => ?_⟩
    obtain ⟨e, y⟩ := y
    subst e
    have ex : x = .int ns[i] := Option.some.inj ((y _ hS').symm.trans hx)
    subst ex
    have z := hs D (ns.take i) ns[i] (ns.drop (i + 1)) hD (by rw [List.getElem_cons_drop, List.take_append_drop])
    rw [← er] at z
    exact z
  · have e : i = ns.length := by omega
    subst e
    rw [List.take_length]
    exact .inl ⟨⟨_, (same_new hD).seq hS, by rw [List.length_map]; exact Nat.le_refl _⟩, q D hD⟩
end
end L2

namespace L2
open PySem PySem.Spec PyProof.Rows
/-! ### making and methods within a try -/
section
variable {X : Cx} {k : Nat} {f C : Addr} {fd : FuncData} {ps : List PySem.Str} {sp : Sp} {x m : PySem.Str} {p pos apos : Pos} {e o : Expr} {es : List Expr} {ta : TE} {t : TA} {W : WX}
def tMakeT (C : Addr) (sp : Sp) (E : St → XK) (t : TA) : TE := fun σ H Q => t σ H fun vs H1 => ∀ x dx, H1 x = none → H1 dx = none → dx ≠ x → sp (.ref x :: vs) (upd (upd H1 dx (.own x)) x (.ins C dx [])) (fun v H2 => v = .non ∧ Q (.ref x) H2) (E σ)
theorem run_mkS {pins : List (Addr × Obj)} {σ : St} {H : Hp} {s : Shared} {Q : VK} {us : List Value} {vs : List V} (M : Mk X.K C f) (F : FnOk X.prog X.w X.K X.mg X.base (L2.CX X.prog X.w) k f fd ps sp) (hr : Room (k + 1) X.A) (hb : Binds X.K fd ps []) (tk : Takes X W) (I : Inv X pins σ H s) (r : Vals vs us)
    (h : ∀ x dx, H x = none → H dx = none → dx ≠ x → sp (.ref x :: vs) (upd (upd H dx (.own x)) x (.ins C dx [])) (fun v H2 => v = .non ∧ Q (.ref x) H2) (WE W σ)) :
    wpAny (model X.prog X.w) X.A (call (.ref C) us) (EP X pins σ Q) X.xe s := by
  have go := h (s.heap.objs.size + 1) s.heap.objs.size (I.hok.fresh (Nat.le_succ _)) (I.hok.fresh (Nat.le_refl _)) (Nat.ne_of_lt (Nat.lt_succ_self _))
  have J := Inv.made (C := C) I
  have rr : Vals (V.ref (s.heap.objs.size + 1) :: vs) (Value.ref (s.heap.objs.size + 1) :: us) := .cons rfl r
  have len : (Value.ref (s.heap.objs.size + 1) :: us).length = ps.length := rr.length.symm.trans (F.len _ _ _ _ go)
  have bs := hb _ (Value.ref (s.heap.objs.size + 1) :: us) J.kIn (by rw [List.append_nil]; exact len)
  rw [List.append_nil] at bs
  refine wpAny_call (make_map (f := f) I.kIn M.makes M.init (beq_iff_eq.mp M.fn) (codeAny_mono (F.run _ X.stack _ _ ⟨Value.ref (s.heap.objs.size + 1) :: us, []⟩ _ _ _ _ (hr.make C us []) (J.env0.make C us []) bs rr go) fun res t done => ?_))
  cases res with
  | error x => exact passAt tk σ pins _ _ x t J done
  | ok fl =>
    cases fl with
    | ret u =>
      obtain ⟨v, H', I3, rv, ev, q3⟩ := J.after done
      subst ev
      exact ⟨rv, V.ref (s.heap.objs.size + 1), H', I3, rfl, q3⟩
    | next => exact done.elim
    | brk => exact done.elim
    | cont => exact done.elim
theorem pe_mkdS (D : MkDef X.prog X.w X.K X.mg X.base k x C ps sp) (hr : Room (k + 1) X.A) (tk : Takes X W) (ha : PA X (e :: es) t) (hg : Gl X x := by rfl)
    (hdb : (x == ("__debug__" : PySem.Str)) = false := by decide) (he : starEach (e :: es) X.env = (false, eval e X.env) :: starEach es X.env := by rfl) (hpl : (backTo pos (starEach es X.env)).any (·.1) = false := by rfl) :
    PE X (.Call (.Name x p) (e :: es) [] pos) (tMakeT C sp (WE W) t) := by
  obtain ⟨f, fd, F, M, b⟩ := D.ex
  refine ⟨fun pins s σ H Q I h => wpAny_Call_Name_kw (ld_glob I hg D.g ?_ hdb)⟩
  exact PySem.W.callWith_K (h₀ := X.base) I.ok.mod.kin M.kp (thn (ha.run pos pins s σ H _ I h) fun us s1 ⟨vs, H1, I1, r, q⟩ => ⟨I1.kIn, run_mkS M F hr b tk I1 r q⟩) he hpl
instance st_makeS {σ : St} {H : Hp} {Q : VK} {E : St → XK} : Stp (tMakeT C sp E t σ H Q) (t σ H fun vs H1 => ∀ x dx, H1 x = none → H1 dx = none → dx ≠ x → sp (.ref x :: vs) (upd (upd H1 dx (.own x)) x (.ins C dx [])) (fun v H2 => v = .non ∧ Q (.ref x) H2) (E σ)) := ⟨fun h => h⟩
/-- o.m(e, ..) within a try -/
def tMethT (C : Addr) (m : PySem.Str) (sp : Sp) (E : St → XK) (ta : TE) (t : TA) : TE := fun σ H Q => ta σ H fun x H1 => ∃ a dx fs, x = .ref a ∧ H1 a = some (.ins C dx fs) ∧ fs.lookup m = none ∧ t σ H1 fun vs H2 => sp (x :: vs) H2 Q (E σ)
theorem pe_mdS {pl : Sem Bool} (D : MDef X.prog X.w X.K X.mg X.base k C m ps sp) (he : PE X o ta) (c : Cls X.K C) (hr : Room k X.A) (tk : Takes X W) (ha : PA X (e :: es) t)
    (hst : starEach (e :: es) X.env = (false, eval e X.env) :: starEach es X.env := by rfl) (hpl : (backTo pos (starEach es X.env)).any (·.1) = false := by rfl)
    (ht : eval (.Call (.Attribute o m apos) (e :: es) [] pos) X.env = (do
      let self ← eval o X.env
      standAt apos.atName
      let (g, ahead) ← holding [self] (getMethod self m pl)
      callWith pos g ahead (backTo pos (starEach (e :: es) X.env)) (backToKw pos (keywordEach [] X.env))) := by rfl) :
    PE X (.Call (.Attribute o m apos) (e :: es) [] pos) (tMethT C m sp (WE W) ta t) := by
  obtain ⟨f, fd, F, g, b⟩ := D.ex
  refine ⟨fun pins s σ H Q I h => PySem.W.methodCall_KW (pl := pl) (thn (he.run pins s σ H _ I h) fun u s1 ⟨x, H1, I1, rx, a, dx, fs, ex, at_, no, q⟩ => ?_) ht⟩
  subst ex
  obtain rfl : u = Value.ref a := rx
  refine getmeth_ok I1 at_ c g no ?_
  refine PySem.W.callWith_K (first := [.ref a]) (h₀ := X.base) I1.ok.mod.kin g.kp (thn (ha.run pos pins s1 σ H1 _ I1 q) fun us s2 ⟨vs, H2, I2, r, q2⟩ => ⟨I2.kIn, ?_⟩) hst hpl
  exact run_fnS (E := WE W) (us := .ref a :: us) (vs := .ref a :: vs) F hr b (passAt tk σ) I2 (.cons rfl r) q2
theorem pe_md0S {pl : Sem Bool} (D : MDef X.prog X.w X.K X.mg X.base k C m ps sp) (he : PE X o ta) (c : Cls X.K C) (hr : Room k X.A) (tk : Takes X W)
    (ht : eval (.Call (.Attribute o m apos) [] [] pos) X.env = (do
      let self ← eval o X.env
      standAt apos.atName
      let (g, ahead) ← holding [self] (getMethod self m pl)
      callWith pos g ahead (backTo pos (starEach [] X.env)) (backToKw pos (keywordEach [] X.env))) := by rfl) :
    PE X (.Call (.Attribute o m apos) [] [] pos) (tMethT C m sp (WE W) ta tNil) := by
  obtain ⟨f, fd, F, g, b⟩ := D.ex
  refine ⟨fun pins s σ H Q I h => PySem.W.methodCall_KW (pl := pl) (thn (he.run pins s σ H _ I h) fun u s1 ⟨x, H1, I1, rx, a, dx, fs, ex, at_, no, q⟩ => ?_) ht⟩
  subst ex
  obtain rfl : u = Value.ref a := rx
  refine getmeth_ok I1 at_ c g no ?_
  exact PySem.W.callWith_K0 (first := [.ref a]) I1.kIn g.kp (run_fnS (E := WE W) (us := [.ref a]) (vs := [.ref a]) F hr b (passAt tk σ) I1 (.cons rfl .nil) q)
instance st_methT {σ : St} {H : Hp} {Q : VK} {E : St → XK} : Stp (tMethT C m sp E ta t σ H Q) (ta σ H fun x H1 => ∃ a dx fs, x = .ref a ∧ H1 a = some (.ins C dx fs) ∧ fs.lookup m = none ∧ t σ H1 fun vs H2 => sp (x :: vs) H2 Q (E σ)) := ⟨fun h => h⟩
end
end L2
namespace L2
open PySem PySem.Spec PyProof.Rows
theorem upd_id {H : Hp} {p : Addr} {o : HO} (h : H p = some o) : upd H p o = H := funext fun b => by
  by_cases e : b = p
  · subst e
    rw [upd_same, h]
  · rw [upd_ne e]
section
variable {H : Hp} {Q : VK} {K : PySem.W.Frag} {a : Addr}
theorem rd_sortedI {ns : List Int} (h : SqL K H a (ns.map V.int)) (q : ∀ (ms : List Int) (p : Addr), ms.Perm ns → ms.Pairwise (· ≤ ·) → H p = none → Q (.ref p) (upd H p (.lst (ms.map V.int)))) : rSortedI K [.ref a] H Q := ⟨a, ns, rfl, h, q⟩
end
end L2

namespace L2
open PySem PySem.Spec PyProof.Rows
/-! ### dicts with ints as keys -/
section
variable {σ : St} {H : Hp} {Q : VK} {K : PySem.W.Frag} {v x y : V} {td ty tv : TE} {a : Addr} {i : Int} {kvs : List (Key × V)} {nx : St → Hp → Prop} {rt : VK} {bk ct : St → Hp → Prop}
instance st_dnewK : Stp (tDNewK σ H Q) (∀ p, H p = none → Q (.ref p) (upd H p (.dK []))) := ⟨fun h => h⟩
def rDGetV (Q : VK) : V → V → Hp → Prop := fun x y H => ∃ a v, x = .ref a ∧ DGet H a y (some v) ∧ Q v H
def rDInV (Q : VK) : V → V → Hp → Prop := fun x y H => ∃ a o, x = .ref a ∧ DGet H a y o ∧ Q (.bl o.isSome) H
def rDNinV (Q : VK) : V → V → Hp → Prop := fun x y H => ∃ a o, x = .ref a ∧ DGet H a y o ∧ Q (.bl (!o.isSome)) H
def rDPutV (S : Hp → Prop) : V → V → V → Hp → Prop := fun x y v H => ∃ a H4, x = .ref a ∧ DPut H a y v H4 ∧ S H4
instance st_dget : Stp (tDGet td ty σ H Q) (td σ H fun x H1 => ty σ H1 fun y H2 => rDGetV Q x y H2) := ⟨fun h => h⟩
instance st_din : Stp (tDIn ty td σ H Q) (ty σ H fun y H1 => td σ H1 fun x H2 => rDInV Q x y H2) := ⟨fun h => h⟩
instance st_dnotin : Stp (tDNotIn ty td σ H Q) (ty σ H fun y H1 => td σ H1 fun x H2 => rDNinV Q x y H2) := ⟨fun h => h⟩
instance st_dput : Stp (sDPut td ty tv ⟨nx, rt, bk, ct⟩ σ H) (tv σ H fun v H1 => td σ H1 fun x H2 => ty σ H2 fun y H3 => rDPutV (nx σ) x y v H3) := ⟨fun h => h⟩
theorem rd_dget1 (h : H a = some (.dK kvs)) (hv : valV kvs (.inl i) = some v) (q : Q v H) : rDGetV Q (.ref a) (.int i) H := ⟨a, v, rfl, hv ▸ DGet.k (k := .inl i) h, q⟩
theorem rd_din1 {b : Bool} (h : H a = some (.dK kvs)) (hb : (valV kvs (.inl i)).isSome = b) (q : Q (.bl b) H) : rDInV Q (.ref a) (.int i) H := ⟨a, _, rfl, DGet.k (k := .inl i) h, by rw [hb]; exact q⟩
theorem rd_dnotin1 {b : Bool} (h : H a = some (.dK kvs)) (hb : (valV kvs (.inl i)).isSome = b) (q : Q (.bl (!b)) H) : rDNinV Q (.ref a) (.int i) H := ⟨a, _, rfl, DGet.k (k := .inl i) h, by rw [hb]; exact q⟩
theorem rd_dput1 {S : Hp → Prop} (h : H a = some (.dK kvs)) (hl : kvs.length < sizeLine) (q : S (upd H a (.dK (putK kvs (.inl i) v)))) : rDPutV S (.ref a) (.int i) v H := ⟨a, _, rfl, DPut.k (k := .inl i) h hl, q⟩
/-! dicts of flags: {k: True for ..}; ks the keys, in order -/
def dFl (ks : List Int) : List (Key × V) := ks.map fun k => (.inl k, .bl true)
abbrev DFl (ks : List Int) : HO := .dK (dFl ks)
theorem dFl_len {ks : List Int} : (dFl ks).length = ks.length := List.length_map ..
theorem dFl_val {i : Int} : ∀ {ks : List Int}, (valV (dFl ks) (.inl i)).isSome = decide (i ∈ ks)
  | [] => by simp [dFl, valV]
  | k :: ks => by
    have ih := dFl_val (i := i) (ks := ks)
    by_cases e : k = i
    · subst e
      have : valV (dFl (k :: ks)) (.inl k) = some (.bl true) := valV_pos (p := ((Sum.inl k : Key), V.bl true)) (r := dFl ks) (k := Sum.inl k) rfl
      rw [this]
      simp
    · have : valV (dFl (k :: ks)) (.inl i) = valV (dFl ks) (.inl i) := valV_neg (p := ((Sum.inl k : Key), V.bl true)) (r := dFl ks) (k := Sum.inl i) fun z => e (Sum.inl.inj z)
      rw [this, ih]
      refine decide_eq_decide.mpr ?_
      rw [List.mem_cons]
      exact ⟨.inr, fun z => z.elim (fun z => absurd z.symm e) id⟩
theorem dFl_put {ks : List Int} {i : Int} : putK (dFl ks) (.inl i) (.bl true) = dFl (insL ks i) := by
  unfold insL
  by_cases h : i ∈ ks
  · rw [if_pos h]
    unfold putK
    rw [if_pos (by rw [valV_any, dFl_val, decide_eq_true h])]
    unfold dFl
    rw [List.map_map]
    refine List.map_congr_left fun k _ => ?_
    by_cases e : k = i
    · subst e
      simp
    · simp [e]
  · rw [if_neg h]
    have hn : valV (dFl ks) (.inl i) = none := by
      have := dFl_val (i := i) (ks := ks)
      rw [decide_eq_false h] at this
      cases hv : valV (dFl ks) (.inl i) with
      | none => rfl
      | some _ => rw [hv] at this; cases this
    rw [putK_new _ hn]
    unfold dFl
    rw [List.map_append]
    rfl
theorem dFl_keys {ks : List Int} : ((dFl ks).map fun kv => kV kv.1) = ks.map V.int := by
  unfold dFl
  rw [List.map_map]
  rfl
theorem rd_dinF {ks : List Int} (h : H a = some (DFl ks)) (q : Q (.bl (decide (i ∈ ks))) H) : rDInV Q (.ref a) (.int i) H := rd_din1 h dFl_val q
theorem rd_dnotinF {ks : List Int} (h : H a = some (DFl ks)) (q : Q (.bl (!decide (i ∈ ks))) H) : rDNinV Q (.ref a) (.int i) H := rd_dnotin1 h dFl_val q
theorem rd_dputF {ks : List Int} {S : Hp → Prop} (h : H a = some (DFl ks)) (hl : ks.length < 1000000) (q : S (upd H a (DFl (insL ks i)))) : rDPutV S (.ref a) (.int i) (.bl true) H :=
  rd_dput1 h (by rw [dFl_len]; exact Nat.lt_trans hl (by decide)) (by rw [dFl_put]; exact q)
def rListD : List V → Hp → VK → Prop := fun xs H Q => ∃ (a : Addr) (kvs : List (Key × V)), xs = [.ref a] ∧ Rd H a (.dK kvs) ∧ ∀ p, H p = none → Q (.ref p) (upd H p (.lst (kvs.map fun kv => kV kv.1)))
theorem c_listD {X : Cx} (calm : X.calm = true) : CallR X (.type "list") rListD := call_listD calm
theorem rd_listF {ks : List Int} (h : H a = some (DFl ks)) (q : ∀ p, H p = none → Q (.ref p) (upd H p (.lst (ks.map V.int)))) : rListD [.ref a] H Q := ⟨a, dFl ks, rfl, .inl h, by rw [dFl_keys]; exact q⟩
/-- y in xs, data of any depth -/
theorem rd_inDp {d : PyData} {ds : List PyData} {p : Prop} [Decidable p] (h1 : Dp K H x d) (h2 : Dp K H y (.list ds)) (o1 : okD d 60 = true) (o2 : okDs ds 59 = true) (hp : d ∈ ds ↔ p) (q : Q (.bl (decide p)) H) : rInD K x y H Q := by
  have s2 : okD (.list ds) 60 = true := by simp [okD, o2]
  refine ⟨d, ds, h1, h2, okD_shaped o1, okD_shaped s2, ?_⟩
  have e : (ds.any fun z => PyData.eqv z d) = decide p := by
    rw [Bool.eq_iff_iff, List.any_eq_true, decide_eq_true_iff, ← hp]
    constructor
    · rintro ⟨z, hz, e⟩
      have oz : okD z 59 = true := by
        clear h2 hp s2 q
        induction ds with
        | nil => cases hz
        | cons b ds ih =>
          simp only [okDs, Bool.and_eq_true] at o2
          rcases List.mem_cons.mp hz with rfl | hz
          · exact o2.1
          · exact ih o2.2 hz
      rw [(okD_eqv z d 59 60 oz o1).mp e] at hz
      exact hz
    · intro hz
      have := (okD_eqv d d 60 60 o1 o1).mpr rfl
      exact ⟨d, hz, this⟩
  rw [e]
  exact q
theorem rd_notInDp {d : PyData} {ds : List PyData} {p : Prop} [Decidable p] (h1 : Dp K H x d) (h2 : Dp K H y (.list ds)) (o1 : okD d 60 = true) (o2 : okDs ds 59 = true) (hp : d ∈ ds ↔ p) (q : Q (.bl (!decide p)) H) : rNotInD K x y H Q := by
  obtain ⟨d', ds', a1, a2, a3, a4, a5⟩ := rd_inDp (Q := fun v H => ∃ b, v = .bl b ∧ Q (.bl (!b)) H) h1 h2 o1 o2 hp ⟨_, rfl, q⟩
  obtain ⟨b, e, q'⟩ := a5
  refine ⟨d', ds', a1, a2, a3, a4, ?_⟩
  rw [V.bl.inj e]
  exact q'
end
end L2
namespace L2
open PySem PySem.Spec PyProof.Rows
theorem room65 {k : Nat} {A : Around} (r : Room k A) : A.units + 65 < cLine := by
  have := r.un
  omega
end L2

namespace My
open PySem PySem.Spec PyProof.Rows L2
/-! one step of a reading, by its head -/
local macro_rules | `(tactic| wtm_at "r") => `(tactic| first
  | (with_reducible refine rd_var rfl ?_)
  | (with_reducible refine Stp.mp ?_)
  | (with_reducible first
    | refine rd_I ?_ ?_
    | refine rd_augC rfl ?_
    | refine rd_r1 ?_ ?_ ?_
    | refine rd_r2 ?_ ?_
    | refine rd_pure ?_ ?_
    | refine rd_pureT ?_ ?_
    | refine rd_back (by assumption) ?_
    | fail)
  | fail)
/-! branch -/
local macro_rules | `(tactic| wtm_at "i") => `(tactic| (with_reducible first
  | refine rd_ite (fun _ => ?_) (fun _ => ?_)
  | refine rd_iteN (fun _ => ?_) (fun _ => ?_)
  | refine rd_iteb (fun _ => ?_) (fun _ => ?_)))
/-! where something stands in the heap; two places differ -/
local macro_rules | `(tactic| wtm_at "ne") => `(tactic| with_reducible first
  | assumption
  | exact Ne.symm (by assumption)
  | exact ne_of_none (by assumption) (by assumption)
  | exact Ne.symm (ne_of_none (by assumption) (by assumption))
  | fail)
local macro_rules | `(tactic| wtm_at "h") => `(tactic| first
  | with_reducible assumption
  | with_reducible exact upd_same
  | ((with_reducible rw [upd_upd]); wtm_at "h")
  | ((with_reducible refine upd_at ?h1 ?h2); (case h1 => wtm_at "h"); (case h2 => intro hh; first | with_reducible exact ne_of_none hh (by assumption) | wtm_at "ne" | fail))
  | fail)
/-! what was tracked stands -/
local macro_rules | `(tactic| wtm_at "sm") => `(tactic| first
  | with_reducible assumption
  | (with_reducible exact Same.refl _)
  | ((with_reducible refine same_upd3 ?_ (by with_reducible assumption)); wtm_at "sm")
  | ((with_reducible refine same_upd2 ?_ (by with_reducible assumption)); wtm_at "sm")
  | (refine same_upd2 ?_ (by first | with_reducible assumption | (refine Same.free ?_ (by with_reducible assumption); wtm_at "sm") | fail); wtm_at "sm")
  | (refine Same.trans ?_ (by with_reducible assumption); wtm_at "sm")
  | (refine Same.trans (by with_reducible assumption) ?_; wtm_at "sm")
  | fail)
local macro_rules | `(tactic| wtm_at "q") => `(tactic| first
  | with_reducible assumption
  | ((with_reducible refine SqL.of ?h1); (case h1 => wtm_at "h"))
  | ((with_reducible refine SqT.of ?h1); (case h1 => wtm_at "h"))
  | ((with_reducible refine Same.seq ?_ (by assumption)); wtm_at "sm")
  | ((with_reducible refine Same.seqT ?_ (by assumption)); wtm_at "sm")
  | ((with_reducible refine Same.lst ?_ (by assumption)); wtm_at "sm")
  | assumption
  | fail)
/-! data, read off the heap -/
local macro_rules | `(tactic| wtm_at "dp") => `(tactic| first
  | with_reducible assumption
  | exact Dp.int _
  | exact Dp.bl _
  | exact Dp.str _
  | exact Dp.non
  | exact DpAll.nil
  | (with_reducible exact dpAll_ints _)
  | (with_reducible exact dpAll_bls _)
  | ((with_reducible refine DpAll.cons (d := ?d) (ds := ?ds) ?h1 ?h2); (case h1 => wtm_at "dp"); (case h2 => wtm_at "dp"))
  | ((with_reducible refine Dp.lst (xs := ?xs) (ds := ?ds) ?h1 ?h2); (case h1 => wtm_at "q"); (case h2 => wtm_at "dp"))
  | ((with_reducible refine Dp.tup (xs := ?xs) (ds := ?ds) ?h1 ?h2); (case h1 => wtm_at "q"); (case h2 => wtm_at "dp"))
  | ((with_reducible refine Dp.same ?_ (by assumption)); wtm_at "sm")
  | fail)
/-! no dict with tuple keys -/
local macro_rules | `(tactic| wtm_at "nt") => `(tactic| first
  | with_reducible assumption
  | ((with_reducible refine NoT.upd ?_ rfl); wtm_at "nt")
  | fail)
/-! what is asked on the side -/
local macro_rules | `(tactic| wtm_at "s") => `(tactic| first
  | ((with_reducible show NoT _); wtm_at "nt")
  | ((with_reducible show (_ : Int) < _); omega)
  | ((with_reducible show CMulB _ _); assumption)
  | ((with_reducible show CMulB _ _); exact Or.inl (Or.inl ⟨by omega, by omega⟩))
  | ((with_reducible show CMulB _ _); exact Or.inl (Or.inr ⟨by omega, by omega⟩))
  | ((with_reducible show CMulB _ _); exact CMulB.wide ⟨by omega, by omega⟩ ⟨by omega, by omega⟩)
  | ((with_reducible show CDivB _ _); exact ⟨by omega, by omega⟩)
  | ((with_reducible refine rd_powN ?h1 ?h2 ?h3 ?_); (case h1 => rfl); (case h2 => decide); (case h3 => first | decide | omega))
  | ((with_reducible refine rd_setL (xs := ?xs) (j := ?j) ?h1 ?h2 ?_); (case h1 => wtm_at "h"); (case h2 => rfl))
  | ((with_reducible refine rd_ixL (xs := ?xs) (v := ?v) ?h1 ?h2 ?_); (case h1 => wtm_at "q"); (case h2 => rfl))
  | ((with_reducible refine rd_ixT (xs := ?xs) (v := ?v) ?h1 ?h2 ?_); (case h1 => wtm_at "q"); (case h2 => rfl))
  | ((with_reducible show -2 ^ 62 ≤ (_ : Int)); omega)
  | ((with_reducible show (_ : Int) ≤ _); omega)
  | ((with_reducible show (_ : Int) ≤ _ ∧ _); exact ⟨by omega, by omega, by omega, by omega⟩)
  | ((with_reducible refine rd_iL1 (xs := ?xs) ?h1 ?_); (case h1 => wtm_at "q"))
  | ((with_reducible refine rd_iT1 (xs := ?xs) ?h1 ?_); (case h1 => wtm_at "q"))
  | ((with_reducible refine rd_eqD (d := ?d) (e := ?e) ?h1 ?h2 ?h3 ?h4 ?_); (case h1 => wtm_at "dp"); (case h2 => wtm_at "dp"); (case h3 => rfl); (case h4 => rfl))
  | ((with_reducible refine rd_neD (d := ?d) (e := ?e) ?h1 ?h2 ?h3 ?h4 ?_); (case h1 => wtm_at "dp"); (case h2 => wtm_at "dp"); (case h3 => rfl); (case h4 => rfl))
  | ((with_reducible refine rd_xfb (fs := ?fs) (v := ?v) ?h1 ?h2 ?_); (case h1 => wtm_at "h"); (case h2 => rfl))
  | ((with_reducible refine rd_append (xs := ?xs) ?h1 ?h2 ?_); (case h1 => wtm_at "h"); (case h2 => first | assumption | exact Nat.le_of_ble_eq_true rfl | (refine Nat.lt_of_le_of_lt (m := 1000000) ?_ (by decide); omega)))
  | ((with_reducible refine rd_lenL (ys := ?ys) ?h1 ?_); (case h1 => wtm_at "q"))
  | ((with_reducible refine rd_lenT (ys := ?ys) ?h1 ?_); (case h1 => wtm_at "q"))
  | ((with_reducible refine rd_new ?h1 ?_); (case h1 => exact Nat.le_of_ble_eq_true rfl); intro p hp)
  | ((with_reducible refine rd_tyL (xs := ?xs) ?h1 ?_); (case h1 => wtm_at "h"))
  | ((with_reducible refine rd_gtup (xs := ?xs) ?h1 ?h2 ?_); (case h1 => wtm_at "q"); (case h2 => rfl))
  | ((with_reducible refine rd_unl (xs := ?xs) ?h1 ?h2 ?_); (case h1 => wtm_at "q"); (case h2 => rfl))
  | ((with_reducible refine rd_slL (xs := ?xs) ?h1 ?_); (case h1 => wtm_at "q"); intro p hp)
  | ((with_reducible refine rd_cat (xs := ?xs) (zs := ?zs) ?h1 ?h2 ?h3 ?_); (case h1 => wtm_at "h"); (case h2 => wtm_at "h"); (case h3 => first | assumption | exact Nat.le_of_ble_eq_true rfl); intro p hp)
  | ((with_reducible refine rd_isiL (xs := ?xs) ?h1 ?_); (case h1 => wtm_at "h"))
  | ((with_reducible refine rd_isiT (xs := ?xs) ?h1 ?_); (case h1 => wtm_at "h"))
  | ((with_reducible refine rd_mk1 ?h1 ?h2 ?_); (case h1 => rfl); (case h2 => decide)))
local macro_rules | `(tactic| wtm_at "s") => `(tactic| first
  | ((with_reducible refine rd_neF ?h1 ?_); (case h1 => first | with_reducible rfl | assumption | fail))
  | ((with_reducible refine rd_eqT ?h1 ?_); (case h1 => first | with_reducible rfl | assumption | fail))
  | ((with_reducible refine rd_neT ?h1 ?_); (case h1 => first | assumption | exact non_int | exact non_ref | exact Bool.false_ne_true | exact Bool.false_ne_true.symm | fail))
  | ((with_reducible refine rd_eqF ?h1 ?_); (case h1 => first | assumption | exact non_int | exact non_ref | exact Bool.false_ne_true | exact Bool.false_ne_true.symm | fail))
  | fail)
local macro_rules | `(tactic| wtm_at "bd") => `(tactic| first
  | with_reducible assumption
  | exact Bd.mono (by with_reducible assumption) (by decide)
  | exact Bd.lit (by decide) (by decide)
  | ((with_reducible refine Bd.mulN ?_ ?_) <;> wtm_at "bd")
  | ((with_reducible refine Bd.addN ?h1 ?h2 ?h3); (case h1 => wtm_at "bd"); (case h2 => wtm_at "bd"); (case h3 => decide))
  | ((with_reducible refine Bd.subN ?h1 ?h2 ?h3); (case h1 => wtm_at "bd"); (case h2 => wtm_at "bd"); (case h3 => decide))
  | ((with_reducible refine Bd.neg ?h1); (case h1 => wtm_at "bd"))
  | fail)
local macro_rules | `(tactic| wtm_at "s") => `(tactic| first
  | ((with_reducible refine rd_fld1 (dx := ?dx) (fs := ?fs) (v := ?v) ?h1 ?h2 ?_); (case h1 => wtm_at "h"); (case h2 => rfl))
  | ((with_reducible refine rd_meth1 (dx := ?dx) (fs := ?fs) ?h1 ?h2 ?_); (case h1 => wtm_at "h"); (case h2 => rfl))
  | ((with_reducible refine rd_sfld1 (dx := ?dx) (fs := ?fs) ?h1 ?h2 ?_); (case h1 => wtm_at "h"); (case h2 => exact Nat.le_of_ble_eq_true rfl))
  | ((with_reducible refine rd_fmtI ?h1 ?_); (case h1 => exact Nat.lt_trans (txI_len (n := 1000) (by wtm_at "bd") (Nat.le_refl _)).2 (by decide)))
  | ((with_reducible refine rd_strI ?h1 ?_); (case h1 => exact Nat.lt_trans (txI_len (n := 1000) (by wtm_at "bd") (Nat.le_refl _)).2 (by decide)))
  | ((with_reducible refine rd_eqInts (ns := ?ns) (ms := ?ms) ?h1 ?h2 ?_); (case h1 => wtm_at "q"); (case h2 => wtm_at "q"))
  | ((with_reducible refine rd_neInts (ns := ?ns) (ms := ?ms) ?h1 ?h2 ?_); (case h1 => wtm_at "q"); (case h2 => wtm_at "q"))
  | ((with_reducible refine rd_listOfL (ys := ?ys) ?h1 ?_); (case h1 => wtm_at "q"); intro l hl)
  | ((with_reducible refine rd_revV (xs := ?xs) ?h1 ?_); (case h1 => wtm_at "q"); intro p hp)
  | ((with_reducible refine rd_iRev1 (xs := ?xs) ?h1 ?_); (case h1 => wtm_at "q"))
  | ((with_reducible refine rd_callO2 (dx := ?dx) (fs := ?fs) ?h1 ?_); (case h1 => wtm_at "h"))
  | ((with_reducible show CMulB _ _); refine CMulB.bd ?_ ?_ <;> wtm_at "bd")
  | fail)
local macro_rules | `(tactic| wtm_at "s") => `(tactic| first
  | ((with_reducible refine rd_dinF (ks := ?ks) ?h1 ?_); (case h1 => wtm_at "h"))
  | ((with_reducible refine rd_dnotinF (ks := ?ks) ?h1 ?_); (case h1 => wtm_at "h"))
  | ((with_reducible refine rd_listF (ks := ?ks) ?h1 ?_); (case h1 => wtm_at "h"); intro l hl)
  | ((with_reducible refine rd_sortedI (ns := ?ns) ?h1 ?_); (case h1 => wtm_at "q"))
  | fail)
/-! a test that omega answers -/
local macro_rules | `(tactic| wtm_at "o") => `(tactic| first
  | ((with_reducible refine rd_neF ?h1 ?_); (case h1 => omega))
  | ((with_reducible refine rd_eqT ?h1 ?_); (case h1 => omega))
  | ((with_reducible refine rd_neT ?h1 ?_); (case h1 => omega))
  | ((with_reducible refine rd_eqF ?h1 ?_); (case h1 => omega))
  | fail)
/-! steps while there is one way -/
local macro_rules | `(tactic| wtm_at "rs") => `(tactic| repeat' (first | wtm_at "r" | wtm_at "s" | fail))
/-! all ways -/
local macro_rules | `(tactic| wtm_at "ra") => `(tactic| repeat' (first | wtm_at "r" | wtm_at "s" | wtm_at "i" | fail))
local macro_rules | `(tactic| wtm_at "ro") => `(tactic| repeat' (first | wtm_at "r" | wtm_at "s" | wtm_at "o" | fail))
local macro_rules | `(tactic| wtm_at "rao") => `(tactic| repeat' (first | wtm_at "r" | wtm_at "s" | wtm_at "o" | wtm_at "i" | fail))

/-! ## mathematics -/
/-! part m_prime -/
namespace QR
def Pm (p : Int) : Prop := 2 ≤ p ∧ ∀ d : Int, 2 ≤ d → d < p → ¬ d ∣ p
theorem split_le {n d e : Int} (h2 : 2 ≤ d) (hdn : d < n) (he : n = d * e) : (d * d ≤ n ∨ e * e ≤ n) ∧ 2 ≤ e := by
  have e0 : 2 ≤ e := by
    rcases Int.lt_or_le e 2 with z | z
    · exfalso
      have : d * e ≤ d * 1 := Int.mul_le_mul_of_nonneg_left (by omega) (by omega)
      omega
    · exact z
  refine ⟨?_, e0⟩
  rcases Int.le_total d e with z | z
  · left
    have : d * d ≤ d * e := Int.mul_le_mul_of_nonneg_left z (by omega)
    omega
  · right
    have : e * e ≤ d * e := Int.mul_le_mul_of_nonneg_right z (by omega)
    omega
theorem pm_of_trial {n k : Int} (h2 : 2 ≤ n) (hk0 : 0 ≤ k) (hk : n < k * k) (h : ∀ d : Int, 2 ≤ d → d < k → ¬ d ∣ n) : Pm n := by
  refine ⟨h2, fun d hd hn hdv => ?_⟩
  obtain ⟨e, he⟩ := hdv
  have lt : ∀ x : Int, 0 ≤ x → x * x ≤ n → x < k := fun x hx hxx => by
    rcases Int.lt_or_le x k with z | z
    · exact z
    · exfalso
      have a : k * k ≤ x * k := Int.mul_le_mul_of_nonneg_right z hk0
      have b : x * k ≤ x * x := Int.mul_le_mul_of_nonneg_left z hx
      omega
  obtain ⟨a, b⟩ := split_le hd hn he
  rcases a with a | a
  · exact h d hd (lt d (by omega) a) ⟨e, he⟩
  · exact h e b (lt e (by omega) a) ⟨d, by rw [he, Int.mul_comm]⟩
theorem pm_of_odd_trial {n k : Int} (h3 : 3 ≤ n) (ho : n % 2 = 1) (hk0 : 0 ≤ k) (hk : n < k * k) (h : ∀ d : Int, 3 ≤ d → d % 2 = 1 → d < k → ¬ d ∣ n) : Pm n := by
  refine pm_of_trial (by omega) hk0 hk fun d hd hdk hdv => ?_
  have : d % 2 = 1 := by
    obtain ⟨e, he⟩ := hdv
    rcases Int.emod_two_eq d with z | z
    · exfalso
      rw [he, Int.mul_emod, z, Int.zero_mul] at ho
      simp at ho
    · exact z
  exact h d (by omega) this hdk hdv
theorem not_pm {n k : Int} (h2 : 2 ≤ k) (hk : k * k ≤ n) (hd : n % k = 0) : ¬ Pm n := fun hp => by
  have : k < k * k := by
    have : k * 2 ≤ k * k := Int.mul_le_mul_of_nonneg_left h2 (by omega)
    omega
  exact hp.2 k h2 (by omega) (Int.dvd_of_emod_eq_zero hd)
theorem no_dvd_step {n k : Int} (h : ∀ d : Int, 2 ≤ d → d < k → ¬ d ∣ n) (hd : n % k ≠ 0) : ∀ d : Int, 2 ≤ d → d < k + 1 → ¬ d ∣ n := fun d h2 hk z => by
  by_cases e : d = k
  · rw [e] at z
    exact hd (Int.emod_eq_zero_of_dvd z)
  · exact h d h2 (by omega) z
theorem no_dvd_step2 {n k : Int} (hk : k % 2 = 1) (h : ∀ d : Int, 3 ≤ d → d % 2 = 1 → d < k → ¬ d ∣ n) (hd : n % k ≠ 0) : ∀ d : Int, 3 ≤ d → d % 2 = 1 → d < k + 2 → ¬ d ∣ n := fun d h2 ho hk z => by
  by_cases e : d = k
  · rw [e] at z
    exact hd (Int.emod_eq_zero_of_dvd z)
  · exact h d h2 ho (by omega) z
theorem sq_bound {k n : Int} (h0 : 0 ≤ k) (hk : k * k ≤ n) (hn : n < 2 ^ 120) : k < 2 ^ 60 := by
  rcases Int.lt_or_le k (2 ^ 60) with z | z
  · exact z
  · exfalso
    have a : (2 : Int) ^ 60 * 2 ^ 60 ≤ k * 2 ^ 60 := Int.mul_le_mul_of_nonneg_right z (by decide)
    have b : k * 2 ^ 60 ≤ k * k := Int.mul_le_mul_of_nonneg_left z h0
    have c : (2 : Int) ^ 60 * 2 ^ 60 = 2 ^ 120 := by decide
    omega
theorem le_sq {k : Int} (h : 1 ≤ k) : k ≤ k * k := by
  have : k * 1 ≤ k * k := Int.mul_le_mul_of_nonneg_left h (by omega)
  omega
/-- an odd prime -/
def OP (n : Int) : Prop := Pm n ∧ n % 2 = 1
theorem OP.three {n : Int} (h : OP n) : 3 ≤ n := by
  have := h.1.1
  have := h.2
  omega
theorem pm_two : Pm 2 := ⟨by omega, fun d h1 h2 => by omega⟩
theorem pm_odd {n : Int} (h : Pm n) (h3 : 3 ≤ n) : n % 2 = 1 := by
  rcases Int.emod_two_eq n with z | z
  · exact absurd (Int.dvd_of_emod_eq_zero z) (h.2 2 (by omega) (by omega))
  · exact z
/-- a prime, by looking at all divisors up to a side -/
theorem op_by {n : Nat} (k : Nat) (h3 : 3 ≤ n) (ho : n % 2 = 1) (hk : n < k * k) (h : (List.range k).all (fun d => d < 2 || n % d != 0) = true) : OP n := by
  refine ⟨pm_of_trial (k := k) (by omega) (by omega) (by exact_mod_cast hk) fun d h2 hd hv => ?_, by omega⟩
  have := List.all_eq_true.mp h d.toNat (List.mem_range.mpr (by omega))
  have hz : n % d.toNat = 0 := by
    have e := Int.emod_eq_zero_of_dvd hv
    rw [show d = ((d.toNat : Nat) : Int) by omega, ← Int.natCast_emod] at e
    exact_mod_cast e
  have h2' : ¬ d.toNat < 2 := by omega
  simp [hz, h2'] at this
open Classical in
noncomputable instance decPm (n : Int) : Decidable (Pm n) := Classical.propDecidable _
noncomputable instance decOP (n : Int) : Decidable (OP n) := instDecidableAnd
end QR
/-! part m_vopt -/
def vOpt : Option Int → V
  | some z => .int z
  | none => .non
theorem vOpt_some {z : Int} : vOpt (some z) = .int z := rfl
theorem vOpt_none : vOpt none = .non := rfl
/-! part m_form -/
/-- a form's three numbers -/
structure Fm where
  a : Int
  b : Int
  c : Int
deriving DecidableEq
def Fm.D (f : Fm) : Int := f.b * f.b - 4 * f.a * f.c
def Fm.ok (f : Fm) : Prop := 1 ≤ f.a ∧ f.D < 0
def Fm.at (f : Fm) (x y : Int) : Int := f.a * x * x + f.b * x * y + f.c * y * y
def Fm.st (f : Fm) (k : Int) : Fm := if k = 0 then ⟨f.c, -f.b, f.a⟩ else ⟨f.a, f.b + 2 * f.a * k, f.a * k * k + f.b * k + f.c⟩
def Fm.turn (f : Fm) (ks : List Int) : Fm := ks.foldl Fm.st f
def Fm.nx (f : Fm) : Option Int := if ¬ (-f.a < f.b ∧ f.b ≤ f.a) then some ((f.a - f.b) / (2 * f.a)) else if f.c < f.a ∨ f.a = f.c ∧ f.b < 0 then some 0 else none
def Fm.bd (n : Nat) (f : Fm) : Prop := Bd n f.a ∧ Bd n f.b ∧ Bd n f.c
theorem Fm.st_zero (f : Fm) : f.st 0 = ⟨f.c, -f.b, f.a⟩ := if_pos rfl
theorem Fm.st_ne {f : Fm} {k : Int} (h : k ≠ 0) : f.st k = ⟨f.a, f.b + 2 * f.a * k, f.a * k * k + f.b * k + f.c⟩ := if_neg h
theorem Fm.st_D (f : Fm) (k : Int) : (f.st k).D = f.D := by
  unfold Fm.st Fm.D
  split
  · simp only [Int.neg_mul_neg]
    grind
  · grind
theorem sq_nonneg (x : Int) : 0 ≤ x * x := by
  rcases Int.le_total 0 x with h | h
  · exact Int.mul_nonneg h h
  · have := Int.mul_nonneg (show 0 ≤ -x by omega) (show 0 ≤ -x by omega)
    rw [Int.neg_mul_neg] at this
    exact this
theorem Fm.ok.c_pos {f : Fm} (h : f.ok) : 1 ≤ f.c := by
  obtain ⟨h1, h2⟩ := h
  unfold Fm.D at h2
  have := sq_nonneg f.b
  rcases Int.lt_or_le f.c 1 with z | z
  · exfalso
    have : 4 * f.a * f.c ≤ 4 * f.a * 0 := Int.mul_le_mul_of_nonneg_left (by omega) (by omega)
    omega
  · exact z
theorem Fm.at_D (f : Fm) (x y : Int) : 4 * f.a * f.at x y = (2 * f.a * x + f.b * y) * (2 * f.a * x + f.b * y) - f.D * (y * y) := by
  unfold Fm.at Fm.D
  grind
theorem Fm.ok.st {f : Fm} (h : f.ok) (k : Int) : (f.st k).ok := by
  refine ⟨?_, by rw [Fm.st_D]; exact h.2⟩
  unfold Fm.st
  split
  · exact h.c_pos
  · exact h.1
theorem Fm.bd.mono {n m : Nat} {f : Fm} (h : Fm.bd n f) (hm : n ≤ m) : Fm.bd m f := ⟨h.1.mono hm, h.2.1.mono hm, h.2.2.mono hm⟩
theorem Fm.turn_snoc (f : Fm) (ks : List Int) (k : Int) : f.turn (ks ++ [k]) = (f.turn ks).st k := by
  unfold Fm.turn
  rw [List.foldl_append]
  rfl
theorem Fm.turn_D (f : Fm) : ∀ ks : List Int, (f.turn ks).D = f.D
  | [] => rfl
  | k :: ks => by
    show ((f.st k).turn ks).D = f.D
    rw [Fm.turn_D (f.st k) ks, Fm.st_D]
theorem Fm.ok.turn {f : Fm} (h : f.ok) : ∀ ks : List Int, (f.turn ks).ok
  | [] => h
  | k :: ks => Fm.ok.turn (h.st k) ks
theorem sq_le {x y : Int} (h : x.natAbs ≤ y.natAbs) : x * x ≤ y * y := by
  have e : ∀ z : Int, z * z = (z.natAbs : Int) * z.natAbs := fun z => by
    rw [← Int.natCast_mul, Int.natAbs_mul_self]
  rw [e x, e y]
  exact Int.mul_le_mul (by omega) (by omega) (by omega) (by omega)
/-! part m_side -/
open Classical in
/-- the integer from 0 on whose square is given -/
noncomputable def sideO (s : Int) : Option Int := if h : ∃ r : Int, 0 ≤ r ∧ r * r = s then some h.choose else none
theorem sq_inj {r t : Int} (hr : 0 ≤ r) (ht : 0 ≤ t) (e : r * r = t * t) : r = t := by
  rcases Int.lt_trichotomy r t with z | z | z
  · have := Int.mul_self_lt_mul_self hr z
    omega
  · exact z
  · have := Int.mul_self_lt_mul_self ht z
    omega
theorem sideO_some {s r : Int} (hr : 0 ≤ r) (e : r * r = s) : sideO s = some r := by
  unfold sideO
  have h : ∃ r : Int, 0 ≤ r ∧ r * r = s := ⟨r, hr, e⟩
  rw [dif_pos h]
  have := h.choose_spec
  exact congrArg some (sq_inj this.1 hr (by rw [this.2, e]))
theorem sideO_none {s : Int} (h : ∀ r : Int, 0 ≤ r → r * r ≠ s) : sideO s = none := dif_neg fun ⟨r, a, b⟩ => h r a b
theorem sideO_prop {s r : Int} (h : sideO s = some r) : 0 ≤ r ∧ r * r = s := by
  unfold sideO at h
  split at h
  · rename_i z
    have := z.choose_spec
    cases h
    exact this
  · cases h
theorem sideO_no {s r : Int} (h : sideO s = none) (hr : 0 ≤ r) : r * r ≠ s := fun e => by
  rw [sideO_some hr e] at h
  cases h
theorem sq_mono {x y : Int} (hx : 0 ≤ x) (h : x ≤ y) : x * x ≤ y * y := Int.mul_le_mul h h hx (by omega)
theorem nyy_le {n p y : Int} (hn : 1 ≤ n) (hy : 0 ≤ y) (h : n * y * y ≤ p) : y ≤ p := by
  have a := Int.mul_le_mul_of_nonneg_right hn (sq_nonneg y)
  rw [Int.mul_assoc] at h
  have b : y ≤ y * y ∨ y = 0 := by
    rcases Int.lt_or_le 0 y with z | z
    · exact .inl (QR.le_sq (by omega))
    · exact .inr (by omega)
  rcases b with b | b
  · omega
  · subst b
    omega
/-! part m_signs -/
def factorOf (rule : Str) (n m : Int) : Int :=
  if rule = "two" ∧ (m % 8 = 3 ∨ m % 8 = 5) then -1
  else if rule = "minus" ∧ m % 4 = 3 then -1
  else if rule = "turn" ∧ n % 4 = 3 ∧ m % 4 = 3 then -1
  else 1
theorem factorOf_pm (rule : Str) (n m : Int) : factorOf rule n m = 1 ∨ factorOf rule n m = -1 := by
  unfold factorOf
  split
  · exact .inr rfl
  · split
    · exact .inr rfl
    · split
      · exact .inr rfl
      · exact .inl rfl
def facT (m : Nat) : Int := if m % 8 = 3 ∨ m % 8 = 5 then -1 else 1
def facR (n m : Nat) : Int := if n % 4 = 3 ∧ m % 4 = 3 then -1 else 1
theorem str_ne1 : ¬ (("turn" : Str) = "two") := by decide +kernel
theorem str_ne2 : ¬ (("turn" : Str) = "minus") := by decide +kernel
theorem str_ne3 : ¬ (("two" : Str) = "minus") := by decide +kernel
theorem str_ne4 : ¬ (("two" : Str) = "turn") := by decide +kernel
theorem str_ne5 : ¬ (("rest" : Str) = "two") := by decide +kernel
theorem str_ne6 : ¬ (("rest" : Str) = "minus") := by decide +kernel
theorem str_ne7 : ¬ (("rest" : Str) = "turn") := by decide +kernel
theorem str_ne8 : ¬ (("two" : Str) = "rest") := by decide +kernel
theorem str_ne9 : ¬ (("turn" : Str) = "rest") := by decide +kernel
theorem str_ne10 : ¬ (("minus" : Str) = "rest") := by decide +kernel
theorem str_ne11 : ¬ (("minus" : Str) = "two") := by decide +kernel
theorem str_ne12 : ¬ (("minus" : Str) = "turn") := by decide +kernel
theorem factorOf_two (n m : Int) (hm : 0 < m) : factorOf "two" n m = facT m.toNat := by
  unfold factorOf facT
  have e : (m % 8 = 3 ∨ m % 8 = 5) ↔ (m.toNat % 8 = 3 ∨ m.toNat % 8 = 5) := by omega
  by_cases h : m % 8 = 3 ∨ m % 8 = 5
  · rw [if_pos ⟨rfl, h⟩, if_pos (e.mp h)]
  · rw [if_neg (fun z => h z.2), if_neg (fun z => str_ne3 z.1), if_neg (fun z => str_ne4 z.1), if_neg (fun z => h (e.mpr z))]
theorem factorOf_turn (n m : Int) (hn : 0 ≤ n) (hm : 0 < m) : factorOf "turn" n m = facR n.toNat m.toNat := by
  unfold factorOf facR
  have e : (n % 4 = 3 ∧ m % 4 = 3) ↔ (n.toNat % 4 = 3 ∧ m.toNat % 4 = 3) := by omega
  by_cases h : n % 4 = 3 ∧ m % 4 = 3
  · rw [if_neg (fun z => str_ne1 z.1), if_neg (fun z => str_ne2 z.1), if_pos ⟨rfl, h⟩, if_pos (e.mp h)]
  · rw [if_neg (fun z => str_ne1 z.1), if_neg (fun z => str_ne2 z.1), if_neg (fun z => h z.2), if_neg (fun z => h (e.mpr z))]
/-- the sign, by the program's own steps -/
def jac (n m : Nat) : Int :=
  if _h : n = 0 then (if m = 1 then 1 else 0)
  else if n % 2 = 0 then facT m * jac (n / 2) m
  else facR n m * jac (m % n) n
termination_by n
decreasing_by
  · omega
  · exact Nat.mod_lt _ (by omega)
theorem jac_zero (m : Nat) : jac 0 m = if m = 1 then 1 else 0 := by
  rw [jac]
  simp
theorem jac_two {n m : Nat} (h0 : n ≠ 0) (h : n % 2 = 0) : jac n m = facT m * jac (n / 2) m := by
  rw [jac, dif_neg h0, if_pos h]
theorem jac_turn {n m : Nat} (h : n % 2 = 1) : jac n m = facR n m * jac (m % n) n := by
  rw [jac, dif_neg (by omega), if_neg (by omega)]
def sgn (n m : Int) : Int := jac (n % m).toNat m.toNat
/-! part m_qr -/
namespace QR
def Pr : Nat → (Nat → Int) → Int
  | 0, _ => 1
  | n + 1, f => Pr n f * f n
theorem P_mul : ∀ (n : Nat) (f g : Nat → Int), Pr n (fun i => f i * g i) = Pr n f * Pr n g
  | 0, _, _ => rfl
  | n + 1, f, g => by
    simp only [Pr, P_mul n]
    grind
theorem P_congr : ∀ (n : Nat) {f g : Nat → Int}, (∀ i, i < n → f i = g i) → Pr n f = Pr n g
  | 0, _, _, _ => rfl
  | n + 1, f, g, h => by
    simp only [Pr]
    rw [P_congr n fun i hi => h i (by omega), h n (by omega)]
theorem P_one : ∀ n : Nat, Pr n (fun _ => 1) = 1
  | 0 => rfl
  | n + 1 => by
    simp only [Pr, P_one n]
    rfl
theorem P_neg : ∀ n : Nat, Pr n (fun _ => -1) = if n % 2 = 0 then 1 else -1
  | 0 => rfl
  | n + 1 => by
    simp only [Pr, P_neg n]
    split <;> split <;> omega
theorem P_swap (k : Nat) (f : Nat → Nat → Int) : ∀ h : Nat, Pr h (fun x => Pr k (fun y => f x y)) = Pr k (fun y => Pr h (fun x => f x y))
  | 0 => by simp only [Pr, P_one]
  | h + 1 => by
    simp only [Pr]
    rw [P_swap k f h, ← P_mul]
theorem P_zero : ∀ (n : Nat) (f : Nat → Int) (i : Nat), i < n → f i = 0 → Pr n f = 0
  | 0, _, _, h, _ => by omega
  | n + 1, f, i, h, e => by
    simp only [Pr]
    by_cases hi : i = n
    · rw [← hi, e, Int.mul_zero]
    · rw [P_zero n f i (by omega) e, Int.zero_mul]
theorem P_pm : ∀ (n : Nat) (f : Nat → Int), (∀ i, i < n → f i = 1 ∨ f i = -1) → Pr n f = 1 ∨ Pr n f = -1
  | 0, _, _ => .inl rfl
  | n + 1, f, h => by
    simp only [Pr]
    rcases P_pm n f (fun i hi => h i (by omega)) with a | a <;> rcases h n (by omega) with b | b <;> rw [a, b] <;> decide
def pl : List Int → Int
  | [] => 1
  | x :: l => x * pl l
theorem pl_append : ∀ l k : List Int, pl (l ++ k) = pl l * pl k
  | [], k => by simp [pl]
  | x :: l, k => by
    simp only [List.cons_append, pl, pl_append l k, Int.mul_assoc]
theorem pl_perm {l k : List Int} (h : l.Perm k) : pl l = pl k := by
  induction h with
  | nil => rfl
  | cons x _ ih => simp only [pl, ih]
  | swap x y l => simp only [pl]; grind
  | trans _ _ a b => exact a.trans b
theorem P_pl : ∀ (n : Nat) (f : Nat → Int), Pr n f = pl ((List.range n).map f)
  | 0, _ => rfl
  | n + 1, f => by
    rw [List.range_succ, List.map_append, pl_append, ← P_pl n f]
    simp [Pr, pl]
theorem perm_of : ∀ (l k : List Nat), l.Nodup → (∀ x, x ∈ l → x ∈ k) → k.length ≤ l.length → l.Perm k
  | [], k, _, _, h => by
    have : k = [] := List.eq_nil_of_length_eq_zero (by simpa using h)
    rw [this]
  | x :: l, k, hn, hs, hl => by
    have hx : x ∈ k := hs x (List.mem_cons_self ..)
    have hp := List.perm_cons_erase hx
    have hn' := List.nodup_cons.mp hn
    have hlen : (k.erase x).length + 1 = k.length := by
      rw [List.length_erase_of_mem hx]
      have := List.length_pos_of_mem hx
      omega
    refine List.Perm.trans (List.Perm.cons x (perm_of l (k.erase x) hn'.2 (fun y hy => ?_) ?_)) hp.symm
    · refine (List.mem_erase_of_ne ?_).mpr (hs y (List.mem_cons_of_mem _ hy))
      rintro rfl
      exact hn'.1 hy
    · simp only [List.length_cons] at hl
      omega
theorem nodup_map {f : Nat → Nat} : ∀ l : List Nat, l.Nodup → (∀ x, x ∈ l → ∀ y, y ∈ l → f x = f y → x = y) → (l.map f).Nodup
  | [], _, _ => List.nodup_nil
  | x :: l, hn, hi => by
    have hn' := List.nodup_cons.mp hn
    rw [List.map_cons, List.nodup_cons]
    refine ⟨fun hm => ?_, nodup_map l hn'.2 fun a ha b hb => hi a (List.mem_cons_of_mem _ ha) b (List.mem_cons_of_mem _ hb)⟩
    obtain ⟨y, hy, e⟩ := List.mem_map.mp hm
    have := hi y (List.mem_cons_of_mem _ hy) x (List.mem_cons_self ..) e
    rw [this] at hy
    exact hn'.1 hy
theorem perm_range {n : Nat} {π : Nat → Nat} (h1 : ∀ i, i < n → π i < n) (h2 : ∀ i, i < n → ∀ j, j < n → π i = π j → i = j) : ((List.range n).map π).Perm (List.range n) := by
  refine perm_of _ _ (nodup_map _ List.nodup_range fun x hx y hy => h2 x (List.mem_range.mp hx) y (List.mem_range.mp hy)) (fun x hx => ?_) (by simp)
  obtain ⟨i, hi, rfl⟩ := List.mem_map.mp hx
  exact List.mem_range.mpr (h1 i (List.mem_range.mp hi))
theorem P_perm {n : Nat} {π : Nat → Nat} (f : Nat → Int) (h1 : ∀ i, i < n → π i < n) (h2 : ∀ i, i < n → ∀ j, j < n → π i = π j → i = j) : Pr n (fun i => f (π i)) = Pr n f := by
  rw [P_pl, P_pl]
  have := pl_perm ((perm_range h1 h2).map f)
  rw [List.map_map] at this
  exact this
theorem P_flip (n : Nat) (f : Nat → Int) : Pr n (fun i => f (n - 1 - i)) = Pr n f :=
  P_perm (π := fun i => n - 1 - i) f (fun i hi => by show n - 1 - i < n; omega) (fun i hi j hj h => by
    have h : n - 1 - i = n - 1 - j := h
    omega)
/-- one mark in a row -/
theorem P_mark (c : Nat) (p : Prop) [Decidable p] : ∀ k : Nat, Pr k (fun y => if y = c ∧ p then -1 else 1) = if c < k ∧ p then -1 else 1
  | 0 => by simp [Pr]
  | k + 1 => by
    simp only [Pr]
    rw [P_mark c p k]
    by_cases hp : p
    · simp only [hp, and_true]
      by_cases h1 : c < k
      · rw [if_pos h1, if_neg (by omega), if_pos (by omega)]
        rfl
      · by_cases h2 : k = c
        · rw [if_neg h1, if_pos h2, if_pos (by omega)]
          rfl
        · rw [if_neg h1, if_neg h2, if_neg (by omega)]
          rfl
    · simp [hp]
/-- the sign of the absolutely least rest, to the modulus 2 h + 1 -/
def sg (h : Nat) (a : Int) : Int :=
  if a % (2 * h + 1) = 0 then 0 else if a % (2 * h + 1) ≤ h then 1 else -1
theorem rem_lo (h : Nat) (a : Int) : 0 ≤ a % (2 * h + 1) := Int.emod_nonneg a (by omega)
theorem rem_hi (h : Nat) (a : Int) : a % (2 * h + 1) ≤ 2 * h := by
  have := Int.emod_lt_of_pos a (show (0 : Int) < 2 * h + 1 by omega)
  omega
theorem dvd_rem (h : Nat) (a : Int) : (2 * (h : Int) + 1) ∣ a - a % (2 * h + 1) := ⟨a / (2 * h + 1), by
  have := Int.mul_ediv_add_emod a (2 * (h : Int) + 1)
  omega⟩
theorem sgv {h : Nat} {a r : Int} (hd : (2 * (h : Int) + 1) ∣ a - r) (h0 : 0 ≤ r) (h1 : r ≤ 2 * h) : sg h a = if r = 0 then 0 else if r ≤ h then 1 else -1 := by
  have e : a % (2 * h + 1) = r := by
    have := Int.emod_eq_emod_iff_emod_sub_eq_zero.mpr (Int.emod_eq_zero_of_dvd hd)
    rw [this, Int.emod_eq_of_lt h0 (by omega)]
  unfold sg
  rw [e]
theorem sg_congr {h : Nat} {a b : Int} (hd : (2 * (h : Int) + 1) ∣ a - b) : sg h a = sg h b := by
  unfold sg
  rw [Int.emod_eq_emod_iff_emod_sub_eq_zero.mpr (Int.emod_eq_zero_of_dvd hd)]
theorem sg_neg (h : Nat) (a : Int) : sg h (-a) = -sg h a := by
  have h0 := rem_lo h a
  have h1 := rem_hi h a
  obtain ⟨k, hk⟩ := dvd_rem h a
  rw [sgv (a := a) (dvd_rem h a) h0 h1]
  by_cases hz : a % (2 * h + 1) = 0
  · rw [sgv (r := 0) ⟨-k, by grind⟩ (by omega) (by omega), if_pos rfl, if_pos hz]
    rfl
  · rw [sgv (r := 2 * h + 1 - a % (2 * h + 1)) ⟨-k - 1, by grind⟩ (by omega) (by omega), if_neg (by omega), if_neg hz]
    split <;> split <;> omega
theorem sg_smul {h : Nat} {s : Int} (hs : s = 1 ∨ s = -1) (a : Int) : sg h (s * a) = s * sg h a := by
  rcases hs with rfl | rfl
  · rw [Int.one_mul, Int.one_mul]
  · rw [Int.neg_mul, Int.one_mul, sg_neg, Int.neg_mul, Int.one_mul]
theorem sg_pm {h : Nat} {a : Int} (ha : a % (2 * h + 1) ≠ 0) : sg h a = 1 ∨ sg h a = -1 := by
  unfold sg
  rw [if_neg ha]
  split
  · exact .inl rfl
  · exact .inr rfl
/-- the absolutely least rest, less one -/
def al (h : Nat) (a : Int) : Nat := if a % (2 * h + 1) ≤ h then (a % (2 * h + 1) - 1).toNat else (2 * h - a % (2 * h + 1)).toNat
theorem al_lt {h : Nat} {a : Int} (ha : a % (2 * h + 1) ≠ 0) : al h a < h := by
  have h0 := rem_lo h a
  have h1 := rem_hi h a
  unfold al
  split <;> omega
theorem al_dvd {h : Nat} {a : Int} (ha : a % (2 * h + 1) ≠ 0) : (2 * (h : Int) + 1) ∣ a - sg h a * (al h a + 1) := by
  have h0 := rem_lo h a
  have h1 := rem_hi h a
  obtain ⟨k, hk⟩ := dvd_rem h a
  unfold sg al
  rw [if_neg ha]
  by_cases hr : a % (2 * h + 1) ≤ h
  · rw [if_pos hr, if_pos hr, show (((a % (2 * h + 1) - 1).toNat : Int)) = a % (2 * h + 1) - 1 by omega]
    exact ⟨k, by omega⟩
  · rw [if_neg hr, if_neg hr, show (((2 * h - a % (2 * h + 1)).toNat : Int)) = 2 * h - a % (2 * h + 1) by omega]
    exact ⟨k + 1, by grind⟩
theorem small_dvd {m x : Int} (hd : m ∣ x) (h1 : -m < x) (h2 : x < m) : x = 0 := by
  rcases Int.lt_trichotomy x 0 with h | h | h
  · have := Int.le_of_dvd (show 0 < -x by omega) (Int.dvd_neg.mpr hd)
    omega
  · exact h
  · have := Int.le_of_dvd h hd
    omega
theorem cop_dvd {b m : Int} (hc : Int.gcd b m = 1) {x : Int} (hd : m ∣ b * x) : m ∣ x := by
  have h1 : m.natAbs ∣ b.natAbs * x.natAbs := by
    rw [← Int.natAbs_mul]
    exact Int.natAbs_dvd_natAbs.mpr hd
  have h2 : m.natAbs.Coprime b.natAbs := by
    unfold Nat.Coprime
    rw [Nat.gcd_comm]
    exact hc
  exact Int.natAbs_dvd_natAbs.mp (h2.dvd_of_dvd_mul_left h1)
def G (a : Int) (h : Nat) : Int := Pr h (fun i => sg h (a * ((i : Int) + 1)))
theorem cop_ne {b : Int} {h : Nat} (hc : Int.gcd b (2 * h + 1) = 1) {i : Nat} (hi : i < h) : (b * ((i : Int) + 1)) % (2 * h + 1) ≠ 0 := by
  intro z
  have := small_dvd (cop_dvd hc (Int.dvd_of_emod_eq_zero z)) (by omega) (by omega)
  omega
theorem G_congr {h : Nat} {a b : Int} (hd : (2 * (h : Int) + 1) ∣ a - b) : G a h = G b h := by
  refine P_congr h fun i hi => sg_congr ?_
  rw [← Int.sub_mul]
  exact Int.dvd_mul_of_dvd_left hd
theorem G_pm {h : Nat} {a : Int} (hc : Int.gcd a (2 * h + 1) = 1) : G a h = 1 ∨ G a h = -1 :=
  P_pm h _ fun i hi => sg_pm (cop_ne hc hi)
theorem G_zero {h : Nat} {a : Int} (hc : Int.gcd a (2 * h + 1) ≠ 1) : G a h = 0 := by
  obtain ⟨k, hk⟩ := Int.gcd_dvd_right a (2 * (h : Int) + 1)
  obtain ⟨l, hl⟩ := Int.gcd_dvd_left a (2 * (h : Int) + 1)
  generalize hg : Int.gcd a (2 * h + 1) = g at *
  have g0 : g ≠ 0 := by
    rintro rfl
    simp at hk
    omega
  have g2 : g ≠ 2 := by
    rintro rfl
    simp at hk
    omega
  have k0 : 0 < k := by
    rcases Int.lt_trichotomy k 0 with z | z | z
    · have := Int.mul_neg_of_pos_of_neg (show (0 : Int) < g by omega) z
      omega
    · rw [z] at hk
      omega
    · exact z
  have k1 : 3 * k ≤ g * k := Int.mul_le_mul_of_nonneg_right (by omega) (by omega)
  refine P_zero h _ (k - 1).toNat (by omega) ?_
  have e : (((k - 1).toNat : Int)) + 1 = k := by omega
  rw [e]
  unfold sg
  rw [if_pos]
  refine Int.emod_eq_zero_of_dvd ⟨l, ?_⟩
  rw [hk]
  conv => lhs; rw [hl]
  grind
theorem G_mul (a b : Int) (h : Nat) : G (a * b) h = G a h * G b h := by
  by_cases hc : Int.gcd b (2 * h + 1) = 1
  · have hp : Pr h (fun i => sg h (a * ((al h (b * ((i : Int) + 1)) : Int) + 1))) = Pr h (fun i => sg h (a * ((i : Int) + 1))) := by
      refine P_perm (π := fun i => al h (b * ((i : Int) + 1))) (fun i => sg h (a * ((i : Int) + 1))) (fun i hi => al_lt (cop_ne hc hi)) (fun i hi j hj e => ?_)
      have e : al h (b * ((i : Int) + 1)) = al h (b * ((j : Int) + 1)) := e
      obtain ⟨u, hu⟩ := al_dvd (cop_ne hc hi)
      obtain ⟨v, hv⟩ := al_dvd (cop_ne hc hj)
      rw [e] at hu
      rcases sg_pm (cop_ne hc hi) with s | s <;> rcases sg_pm (cop_ne hc hj) with t | t <;> rw [s] at hu <;> rw [t] at hv
      · have := small_dvd (cop_dvd (x := (i : Int) - j) hc ⟨u - v, by grind⟩) (by omega) (by omega)
        omega
      · have := small_dvd (cop_dvd (x := (i : Int) + j + 2) hc ⟨u + v, by grind⟩) (by omega) (by omega)
        omega
      · have := small_dvd (cop_dvd (x := (i : Int) + j + 2) hc ⟨u + v, by grind⟩) (by omega) (by omega)
        omega
      · have := small_dvd (cop_dvd (x := (i : Int) - j) hc ⟨u - v, by grind⟩) (by omega) (by omega)
        omega
    have e : G (a * b) h = Pr h (fun i => sg h (a * ((al h (b * ((i : Int) + 1)) : Int) + 1)) * sg h (b * ((i : Int) + 1))) := by
      refine P_congr h fun i hi => ?_
      rw [Int.mul_comm _ (sg h (b * ((i : Int) + 1))), ← sg_smul (sg_pm (cop_ne hc hi))]
      refine sg_congr ?_
      obtain ⟨u, hu⟩ := al_dvd (cop_ne hc hi)
      exact ⟨a * u, by grind⟩
    rw [e, P_mul, hp]
    rfl
  · rw [G_zero hc, Int.mul_zero, G_zero]
    intro z
    apply hc
    have h1 : Int.gcd b (2 * h + 1) ∣ Int.gcd (a * b) (2 * h + 1) := Int.dvd_gcd (Int.dvd_mul_of_dvd_right (Int.gcd_dvd_left ..)) (Int.gcd_dvd_right ..)
    rw [z] at h1
    exact Nat.dvd_one.mp h1

def tq (h k x y : Nat) : Int := (2 * k + 1) * ((x : Int) + 1) - (2 * h + 1) * ((y : Int) + 1)
def eqq (h k x y : Nat) : Int := if tq h k x y < 0 ∧ -(h : Int) ≤ tq h k x y then -1 else 1
theorem tq_comm (h k x y : Nat) : tq k h y x = -tq h k x y := by
  unfold tq
  omega
theorem q_in {h k x : Nat} (hx : x < h) (hr : (h : Int) < ((2 * k + 1) * ((x : Int) + 1)) % (2 * h + 1)) : ((2 * k + 1) * ((x : Int) + 1)) / (2 * h + 1) < k := by
  have e := Int.mul_ediv_add_emod ((2 * (k : Int) + 1) * ((x : Int) + 1)) (2 * (h : Int) + 1)
  generalize ((2 * (k : Int) + 1) * ((x : Int) + 1)) / (2 * (h : Int) + 1) = q at *
  have h1 : (2 * (k : Int) + 1) * ((x : Int) + 1) ≤ (2 * (k : Int) + 1) * h := Int.mul_le_mul_of_nonneg_left (by omega) (by omega)
  have h2 : (2 * (h : Int) + 1) * (q + 1) < (2 * (h : Int) + 1) * (k + 1) := by grind
  have := Int.lt_of_mul_lt_mul_left h2 (by omega)
  omega
theorem inner {h k x : Nat} (hc : Int.gcd (2 * k + 1) (2 * h + 1) = 1) (hx : x < h) : Pr k (fun y => eqq h k x y) = sg h ((2 * k + 1) * ((x : Int) + 1)) := by
  have hne := cop_ne hc hx
  have h0 := rem_lo h ((2 * k + 1) * ((x : Int) + 1))
  have h1 := rem_hi h ((2 * k + 1) * ((x : Int) + 1))
  have e := Int.mul_ediv_add_emod ((2 * (k : Int) + 1) * ((x : Int) + 1)) (2 * (h : Int) + 1)
  have q0 : 0 ≤ ((2 * (k : Int) + 1) * ((x : Int) + 1)) / (2 * (h : Int) + 1) := Int.ediv_nonneg (Int.mul_nonneg (by omega) (by omega)) (by omega)
  have qi := @q_in h k x hx
  unfold sg
  rw [if_neg hne]
  have hm : ∀ y, y < k → eqq h k x y = if y = (((2 * (k : Int) + 1) * ((x : Int) + 1)) / (2 * (h : Int) + 1)).toNat ∧ ¬ ((2 * (k : Int) + 1) * ((x : Int) + 1)) % (2 * h + 1) ≤ h then -1 else 1 := by
    intro y hy
    unfold eqq tq
    generalize ((2 * (k : Int) + 1) * ((x : Int) + 1)) / (2 * (h : Int) + 1) = q at *
    generalize ((2 * (k : Int) + 1) * ((x : Int) + 1)) % (2 * (h : Int) + 1) = r at *
    rw [← e]
    have hz : (2 * (h : Int) + 1) * q + r - (2 * (h : Int) + 1) * ((y : Int) + 1) = (2 * (h : Int) + 1) * (q - y - 1) + r := by grind
    rw [hz]
    congr 1
    refine propext ⟨fun ⟨a, b⟩ => ?_, fun ⟨a, b⟩ => ?_⟩
    · rcases Int.lt_trichotomy (q - y) 0 with z | z | z
      · have : (2 * (h : Int) + 1) * (q - y - 1) ≤ (2 * (h : Int) + 1) * (-2) := Int.mul_le_mul_of_nonneg_left (by omega) (by omega)
        omega
      · have z : q - y - 1 = -1 := by omega
        rw [z] at a b
        omega
      · have : 0 ≤ (2 * (h : Int) + 1) * (q - y - 1) := Int.mul_nonneg (by omega) (by omega)
        omega
    · have z : q - y - 1 = -1 := by omega
      rw [z]
      omega
  rw [P_congr k hm, P_mark]
  by_cases hr : ((2 * (k : Int) + 1) * ((x : Int) + 1)) % (2 * h + 1) ≤ h
  · rw [if_neg (fun z => z.2 hr), if_pos hr]
  · rw [if_pos ⟨by have := qi (by omega); omega, hr⟩, if_neg hr]
theorem tq_ne {h k x y : Nat} (hc : Int.gcd (2 * k + 1) (2 * h + 1) = 1) (hx : x < h) : tq h k x y ≠ 0 := by
  intro z
  apply cop_ne hc hx
  unfold tq at z
  exact Int.emod_eq_zero_of_dvd ⟨(y : Int) + 1, by omega⟩
theorem PP_pm (h k : Nat) (f : Nat → Nat → Int) (hf : ∀ x y, f x y = 1 ∨ f x y = -1) : Pr h (fun x => Pr k (fun y => f x y)) = 1 ∨ Pr h (fun x => Pr k (fun y => f x y)) = -1 :=
  P_pm h _ fun x _ => P_pm k _ fun y _ => hf x y
theorem PP_flip (h k : Nat) (f : Nat → Nat → Int) : Pr h (fun x => Pr k (fun y => f (h - 1 - x) (k - 1 - y))) = Pr h (fun x => Pr k (fun y => f x y)) := by
  rw [P_congr h fun x _ => P_flip k (fun y => f (h - 1 - x) y)]
  exact P_flip h (fun x => Pr k (fun y => f x y))
def bq (h k x y : Nat) : Int := if tq h k x y < -(h : Int) then -1 else 1
def cq (h k x y : Nat) : Int := if (k : Int) < tq h k x y then -1 else 1
theorem bc (h k : Nat) : Pr h (fun x => Pr k (fun y => bq h k x y)) = Pr h (fun x => Pr k (fun y => cq h k x y)) := by
  rw [← PP_flip h k (fun x y => cq h k x y)]
  refine P_congr h fun x hx => P_congr k fun y hy => ?_
  unfold bq cq
  have e : tq h k (h - 1 - x) (k - 1 - y) = k - h - tq h k x y := by
    unfold tq
    rw [show (((h - 1 - x : Nat) : Int)) = h - 1 - x by omega, show (((k - 1 - y : Nat) : Int)) = k - 1 - y by omega]
    grind
  rw [e]
  split <;> split <;> omega
theorem recip0 {h k : Nat} (hc : Int.gcd (2 * k + 1) (2 * h + 1) = 1) : G (2 * k + 1) h * G (2 * h + 1) k = if h % 2 = 1 ∧ k % 2 = 1 then -1 else 1 := by
  have e1 : G (2 * k + 1) h = Pr h (fun x => Pr k (fun y => eqq h k x y)) := P_congr h fun x hx => (inner hc hx).symm
  have e2 : G (2 * h + 1) k = Pr h (fun x => Pr k (fun y => eqq k h y x)) := by
    rw [P_swap]
    exact P_congr k fun y hy => (inner (by rw [Int.gcd_comm]; exact hc) hy).symm
  have e3 : Pr h (fun x => Pr k (fun y => eqq h k x y * eqq k h y x * (bq h k x y * cq h k x y))) = Pr h (fun _ => Pr k (fun _ => -1)) := by
    refine P_congr h fun x hx => P_congr k fun y hy => ?_
    have := tq_ne (y := y) hc hx
    unfold eqq bq cq
    rw [tq_comm h k x y]
    generalize tq h k x y = t at *
    split <;> split <;> split <;> split <;> omega
  have e4 : Pr h (fun x => Pr k (fun y => eqq h k x y * eqq k h y x * (bq h k x y * cq h k x y))) = Pr h (fun x => Pr k (fun y => eqq h k x y)) * Pr h (fun x => Pr k (fun y => eqq k h y x)) * (Pr h (fun x => Pr k (fun y => bq h k x y)) * Pr h (fun x => Pr k (fun y => cq h k x y))) := by
    simp only [P_mul]
  rw [bc, ← e1, ← e2, e3] at e4
  have hb : Pr h (fun x => Pr k (fun y => cq h k x y)) * Pr h (fun x => Pr k (fun y => cq h k x y)) = 1 := by
    rcases PP_pm h k (fun x y => cq h k x y) (fun x y => by unfold cq; split <;> omega) with z | z <;> rw [z] <;> rfl
  rw [hb, Int.mul_one] at e4
  rw [← e4]
  simp only [P_neg]
  split
  · rw [P_one, if_neg (by omega)]
  · rw [P_neg]
    split <;> split <;> omega
def RR (h k : Nat) : Int := if h % 2 = 1 ∧ k % 2 = 1 then -1 else 1
theorem recip (h k : Nat) : G (2 * k + 1) h = RR h k * G (2 * h + 1) k := by
  by_cases hc : Int.gcd (2 * k + 1) (2 * h + 1) = 1
  · have e := recip0 hc
    have h1 : Int.gcd (2 * h + 1) (2 * k + 1) = 1 := by rw [Int.gcd_comm]; exact hc
    unfold RR
    rw [← e, Int.mul_assoc]
    rcases G_pm h1 with z | z <;> rw [z] <;> simp
  · rw [G_zero hc, G_zero (a := 2 * h + 1) (h := k) (by rw [Int.gcd_comm]; exact hc), Int.mul_zero]
theorem P_cut (c : Nat) : ∀ n : Nat, Pr n (fun i => if i < c then 1 else -1) = if (n - c) % 2 = 0 then 1 else -1
  | 0 => by simp [Pr]
  | n + 1 => by
    simp only [Pr]
    rw [P_cut c n]
    split <;> split <;> split <;> omega
theorem G_neg1 (h : Nat) : G (-1) h = if h % 2 = 0 then 1 else -1 := by
  rw [← P_neg]
  refine P_congr h fun i hi => ?_
  rw [Int.neg_mul, Int.one_mul, sg_neg, sgv (r := (i : Int) + 1) ⟨0, by omega⟩ (by omega) (by omega), if_neg (by omega), if_pos (by omega)]
theorem G_two (h : Nat) : G 2 h = if (2 * h + 1) % 8 = 3 ∨ (2 * h + 1) % 8 = 5 then -1 else 1 := by
  have e : G 2 h = Pr h (fun i => if i < h / 2 then 1 else -1) := by
    refine P_congr h fun i hi => ?_
    rw [sgv (r := 2 * ((i : Int) + 1)) ⟨0, by omega⟩ (by omega) (by omega), if_neg (by omega)]
    split <;> split <;> omega
  rw [e, P_cut]
  split <;> split <;> omega
theorem G_one (h : Nat) : G 1 h = 1 := by
  refine Eq.trans (P_congr h fun i hi => ?_) (P_one h)
  rw [Int.one_mul, sgv (r := (i : Int) + 1) ⟨0, by omega⟩ (by omega) (by omega), if_neg (by omega), if_pos (by omega)]
theorem G_at0 (h : Nat) : G 0 h = if h = 0 then 1 else 0 := by
  by_cases hh : h = 0
  · rw [if_pos hh, hh]
    rfl
  · rw [if_neg hh]
    refine P_zero h _ 0 (by omega) ?_
    rw [Int.zero_mul]
    rfl
/-- an odd positive number of the same rest -/
theorem odd_rep (a : Int) (H : Nat) : ∃ k : Nat, (2 * (H : Int) + 1) ∣ a - (2 * (k : Int) + 1) := by
  have h0 := rem_lo H a
  obtain ⟨u, hu⟩ := dvd_rem H a
  by_cases he : a % (2 * H + 1) % 2 = 1
  · refine ⟨((a % (2 * H + 1) - 1) / 2).toNat, u, ?_⟩
    rw [show 2 * ((((a % (2 * H + 1) - 1) / 2).toNat : Int)) + 1 = a % (2 * H + 1) by omega]
    exact hu
  · refine ⟨((a % (2 * H + 1) + 2 * H) / 2).toNat, u - 1, ?_⟩
    rw [show 2 * ((((a % (2 * H + 1) + 2 * H) / 2).toNat : Int)) + 1 = a % (2 * H + 1) + (2 * H + 1) by omega]
    grind
theorem G_mod_mul (a : Int) {h h' H : Nat} (hH : (2 * (H : Int) + 1) = (2 * h + 1) * (2 * h' + 1)) : G a H = G a h * G a h' := by
  obtain ⟨k, u, hu⟩ := odd_rep a H
  rw [G_congr (h := H) ⟨u, hu⟩, G_congr (h := h) (a := a) (b := 2 * k + 1) ⟨(2 * h' + 1) * u, by rw [hu, hH, Int.mul_assoc]⟩, G_congr (h := h') (a := a) (b := 2 * k + 1) ⟨(2 * h + 1) * u, by rw [hu, hH]; grind⟩,
    recip, recip h k, recip h' k, hH, G_mul]
  have e : (H : Int) = 2 * (h * h') + h + h' := by grind
  have e' : H = 2 * (h * h') + h + h' := by exact_mod_cast e
  have er : RR H k = RR h k * RR h' k := by
    unfold RR
    generalize h * h' = z at *
    split <;> split <;> split <;> omega
  rw [er]
  grind
theorem G_eq_zero {a : Int} {h : Nat} : G a h = 0 ↔ Int.gcd a (2 * h + 1) ≠ 1 := by
  constructor
  · intro z hc
    rcases G_pm hc with e | e <;> rw [e] at z <;> cases z
  · exact G_zero
end QR
section
open QR
theorem jac_G : ∀ (n h : Nat), jac n (2 * h + 1) = G n h := by
  intro n
  induction n using Nat.strongRecOn with
  | ind n ih =>
    intro h
    by_cases h0 : n = 0
    · subst h0
      rw [jac_zero, show ((0 : Nat) : Int) = 0 from rfl, G_at0]
      split <;> split <;> omega
    · by_cases h2 : n % 2 = 0
      · rw [jac_two h0 h2, ih (n / 2) (by omega) h, show (n : Int) = 2 * ((n / 2 : Nat) : Int) by omega, G_mul, G_two]
        rfl
      · obtain ⟨k, rfl⟩ : ∃ k, n = 2 * k + 1 := ⟨n / 2, by omega⟩
        rw [jac_turn (by omega), ih ((2 * h + 1) % (2 * k + 1)) (Nat.mod_lt _ (by omega)) k]
        have e : G (((2 * k + 1 : Nat) : Int)) h = RR h k * G (2 * h + 1) k := by
          rw [← recip]
          rfl
        rw [e]
        have e2 : G (((2 * h + 1) % (2 * k + 1) : Nat) : Int) k = G (2 * h + 1) k := by
          refine G_congr ⟨-((2 * (h : Int) + 1) / (2 * k + 1)), ?_⟩
          have := Int.mul_ediv_add_emod (2 * (h : Int) + 1) (2 * k + 1)
          rw [Int.natCast_emod, show ((2 * h + 1 : Nat) : Int) = 2 * (h : Int) + 1 by omega, show ((2 * k + 1 : Nat) : Int) = 2 * (k : Int) + 1 by omega, Int.mul_neg]
          omega
        rw [e2]
        congr 1
        unfold facR RR
        split <;> split <;> omega
theorem sgn_G (n : Int) (h : Nat) : sgn n (2 * h + 1) = G n h := by
  unfold sgn
  rw [show (2 * (h : Int) + 1).toNat = 2 * h + 1 by omega, jac_G]
  have h0 := rem_lo h n
  rw [Int.toNat_of_nonneg h0]
  obtain ⟨u, hu⟩ := dvd_rem h n
  exact G_congr ⟨-u, by rw [Int.mul_neg, ← hu]; omega⟩
theorem odd_half {m : Int} (h1 : 1 ≤ m) (h2 : m % 2 = 1) : ∃ h : Nat, m = 2 * h + 1 := ⟨(m / 2).toNat, by omega⟩
end
section
open QR
variable {m : Int} (h1 : 1 ≤ m) (h2 : m % 2 = 1)
include h1 h2
theorem sgn_mul (a b : Int) : sgn (a * b) m = sgn a m * sgn b m := by
  obtain ⟨h, rfl⟩ := odd_half h1 h2
  rw [sgn_G, sgn_G, sgn_G, G_mul]
theorem sgn_mod_mul (a : Int) {t : Int} (h3 : 1 ≤ t) (h4 : t % 2 = 1) : sgn a (m * t) = sgn a m * sgn a t := by
  obtain ⟨h, rfl⟩ := odd_half h1 h2
  obtain ⟨k, rfl⟩ := odd_half h3 h4
  have e : (2 * (h : Int) + 1) * (2 * k + 1) = 2 * ((2 * (h * k) + h + k : Nat) : Int) + 1 := by
    push_cast
    grind
  rw [e, sgn_G, sgn_G, sgn_G, G_mod_mul a e.symm]
theorem sgn_congr {a b : Int} (hd : m ∣ a - b) : sgn a m = sgn b m := by
  obtain ⟨h, rfl⟩ := odd_half h1 h2
  rw [sgn_G, sgn_G, G_congr hd]
theorem sgn_neg1 : sgn (-1) m = 2 - m % 4 := by
  obtain ⟨h, rfl⟩ := odd_half h1 h2
  rw [sgn_G, G_neg1]
  split <;> omega
theorem sgn_two : sgn 2 m = if m % 8 = 3 ∨ m % 8 = 5 then -1 else 1 := by
  obtain ⟨h, rfl⟩ := odd_half h1 h2
  rw [sgn_G, G_two]
  split <;> split <;> omega
theorem sgn_turn {t : Int} (h3 : 1 ≤ t) (h4 : t % 2 = 1) : sgn t m = (if m % 4 = 3 ∧ t % 4 = 3 then -1 else 1) * sgn m t := by
  obtain ⟨h, rfl⟩ := odd_half h1 h2
  obtain ⟨k, rfl⟩ := odd_half h3 h4
  rw [sgn_G, sgn_G, recip]
  congr 1
  unfold RR
  split <;> split <;> omega
theorem sgn_zero {a : Int} : sgn a m = 0 ↔ Int.gcd a m ≠ 1 := by
  obtain ⟨h, rfl⟩ := odd_half h1 h2
  rw [sgn_G, G_eq_zero]
theorem sgn_pm {a : Int} (hc : Int.gcd a m = 1) : sgn a m = 1 ∨ sgn a m = -1 := by
  obtain ⟨h, rfl⟩ := odd_half h1 h2
  rw [sgn_G]
  exact G_pm hc
theorem sgn_sq (a : Int) : sgn a m * sgn a m = if Int.gcd a m = 1 then 1 else 0 := by
  by_cases hc : Int.gcd a m = 1
  · rw [if_pos hc]
    rcases sgn_pm h1 h2 hc with e | e <;> rw [e] <;> rfl
  · rw [if_neg hc, (sgn_zero h1 h2).mpr hc]
    rfl
end
/-! part m_euler -/
namespace QR
theorem al_inj {b : Int} {h : Nat} (hc : Int.gcd b (2 * h + 1) = 1) : ∀ i, i < h → ∀ j, j < h → al h (b * ((i : Int) + 1)) = al h (b * ((j : Int) + 1)) → i = j := by
  intro i hi j hj e
  obtain ⟨u, hu⟩ := al_dvd (cop_ne hc hi)
  obtain ⟨v, hv⟩ := al_dvd (cop_ne hc hj)
  rw [e] at hu
  rcases sg_pm (cop_ne hc hi) with s | s <;> rcases sg_pm (cop_ne hc hj) with t | t <;> rw [s] at hu <;> rw [t] at hv
  · have := small_dvd (cop_dvd (x := (i : Int) - j) hc ⟨u - v, by grind⟩) (by omega) (by omega)
    omega
  · have := small_dvd (cop_dvd (x := (i : Int) + j + 2) hc ⟨u + v, by grind⟩) (by omega) (by omega)
    omega
  · have := small_dvd (cop_dvd (x := (i : Int) + j + 2) hc ⟨u + v, by grind⟩) (by omega) (by omega)
    omega
  · have := small_dvd (cop_dvd (x := (i : Int) - j) hc ⟨u - v, by grind⟩) (by omega) (by omega)
    omega
theorem Pm.cop {p : Int} (hp : Pm p) {x : Int} (hx : ¬ p ∣ x) : Int.gcd x p = 1 := by
  have hd := Int.gcd_dvd_right x p
  have hl := Int.gcd_dvd_left x p
  have h2 := hp.1
  have hle := Int.le_of_dvd (by omega) hd
  generalize hg : Int.gcd x p = g at *
  by_cases h1 : (g : Int) = p
  · rw [h1] at hl
    exact absurd hl hx
  · by_cases h0 : g = 0
    · rw [h0] at hd
      have := Int.zero_dvd.mp hd
      omega
    · have := hp.2 g
      by_cases hz : g = 1
      · exact hz
      · exact absurd hd (this (by omega) (by omega))
theorem Pm.dvd_mul {p : Int} (hp : Pm p) {x y : Int} (h : p ∣ x * y) : p ∣ x ∨ p ∣ y := by
  by_cases hx : p ∣ x
  · exact .inl hx
  · exact .inr (cop_dvd (hp.cop hx) h)
theorem Pr_dvd {m : Int} : ∀ (n : Nat) (f g : Nat → Int), (∀ i, i < n → m ∣ f i - g i) → m ∣ Pr n f - Pr n g
  | 0, _, _, _ => ⟨0, by simp [Pr]⟩
  | n + 1, f, g, h => by
    obtain ⟨u, hu⟩ := Pr_dvd n f g fun i hi => h i (by omega)
    obtain ⟨v, hv⟩ := h n (by omega)
    exact ⟨u * f n + Pr n g * v, by simp only [Pr]; grind⟩
theorem Pr_cancel {m : Int} : ∀ (n : Nat) (f : Nat → Int) (x : Int), (∀ i, i < n → Int.gcd (f i) m = 1) → m ∣ Pr n f * x → m ∣ x
  | 0, _, x, _, h => by simpa [Pr] using h
  | n + 1, f, x, hc, h => by
    simp only [Pr] at h
    rw [Int.mul_assoc] at h
    exact cop_dvd (hc n (by omega)) (Pr_cancel n f _ (fun i hi => hc i (by omega)) h)
theorem Pr_const (a : Int) (f : Nat → Int) : ∀ n : Nat, Pr n (fun i => a * f i) = a ^ n * Pr n f
  | 0 => by simp [Pr]
  | n + 1 => by
    simp only [Pr]
    rw [Pr_const a f n, Int.pow_succ]
    grind
theorem Pr_first (f : Nat → Int) : ∀ n : Nat, Pr (n + 1) f = f 0 * Pr n (fun i => f (i + 1))
  | 0 => by simp [Pr]
  | n + 1 => by
    have := Pr_first f n
    simp only [Pr] at *
    rw [this]
    grind
theorem gauss {h : Nat} (hp : Pm (2 * h + 1)) {a : Int} (ha : ¬ (2 * (h : Int) + 1) ∣ a) : (2 * (h : Int) + 1) ∣ a ^ h - G a h := by
  have hc := hp.cop ha
  have h1 : (2 * (h : Int) + 1) ∣ Pr h (fun i => a * ((i : Int) + 1)) - Pr h (fun i => sg h (a * ((i : Int) + 1)) * ((al h (a * ((i : Int) + 1)) : Int) + 1)) :=
    Pr_dvd h _ _ fun i hi => al_dvd (cop_ne hc hi)
  have h2 : Pr h (fun i => (al h (a * ((i : Int) + 1)) : Int) + 1) = Pr h (fun i => (i : Int) + 1) :=
    P_perm (π := fun i => al h (a * ((i : Int) + 1))) (fun i => (i : Int) + 1) (fun i hi => al_lt (cop_ne hc hi)) (al_inj hc)
  rw [Pr_const, P_mul, h2] at h1
  refine Pr_cancel h (fun i => (i : Int) + 1) _ (fun i hi => hp.cop fun z => ?_) ?_
  · have := Int.le_of_dvd (by omega) z
    omega
  · obtain ⟨u, hu⟩ := h1
    exact ⟨u, by unfold G; grind⟩
theorem solve {h : Nat} {x : Int} (hc : Int.gcd x (2 * h + 1) = 1) {a : Int} (ha : ¬ (2 * (h : Int) + 1) ∣ a) : ∃ j, j < 2 * h ∧ (2 * (h : Int) + 1) ∣ x * ((j : Int) + 1) - a := by
  have hne : ∀ j : Nat, j < 2 * h → (x * ((j : Int) + 1)) % (2 * h + 1) ≠ 0 := by
    intro j hj z
    have := Int.le_of_dvd (by omega) (cop_dvd hc (Int.dvd_of_emod_eq_zero z))
    omega
  have hp := perm_range (n := 2 * h) (π := fun j => ((x * ((j : Int) + 1)) % (2 * h + 1) - 1).toNat) (fun j hj => by
    have h0 := rem_lo h (x * ((j : Int) + 1))
    have h1 := rem_hi h (x * ((j : Int) + 1))
    have := hne j hj
    show ((x * ((j : Int) + 1)) % (2 * h + 1) - 1).toNat < 2 * h
    omega) (fun i hi j hj e => by
    have e : ((x * ((i : Int) + 1)) % (2 * h + 1) - 1).toNat = ((x * ((j : Int) + 1)) % (2 * h + 1) - 1).toNat := e
    have h0 := rem_lo h (x * ((j : Int) + 1))
    have h1 := rem_lo h (x * ((i : Int) + 1))
    have n0 := hne i hi
    have n1 := hne j hj
    obtain ⟨u, hu⟩ := dvd_rem h (x * ((i : Int) + 1))
    obtain ⟨v, hv⟩ := dvd_rem h (x * ((j : Int) + 1))
    have e2 : (x * ((i : Int) + 1)) % (2 * h + 1) = (x * ((j : Int) + 1)) % (2 * h + 1) := by omega
    have := small_dvd (cop_dvd (x := (i : Int) - j) hc ⟨u - v, by grind⟩) (by omega) (by omega)
    omega)
  have h0 := rem_lo h a
  have h1 := rem_hi h a
  have h2 : a % (2 * h + 1) ≠ 0 := fun z => ha (Int.dvd_of_emod_eq_zero z)
  have hm : (a % (2 * h + 1) - 1).toNat ∈ List.range (2 * h) := List.mem_range.mpr (by omega)
  obtain ⟨j, hj, e⟩ := List.mem_map.mp (hp.mem_iff.mpr hm)
  have hj := List.mem_range.mp hj
  have k0 := rem_lo h (x * ((j : Int) + 1))
  have k1 := hne j hj
  have e2 : (x * ((j : Int) + 1)) % (2 * h + 1) = a % (2 * h + 1) := by omega
  obtain ⟨u, hu⟩ := dvd_rem h (x * ((j : Int) + 1))
  obtain ⟨v, hv⟩ := dvd_rem h a
  exact ⟨j, hj, u - v, by grind⟩
theorem pairs {m a : Int} : ∀ (n : Nat) (L : List Int), L.length ≤ n → L.Nodup → (∀ x, x ∈ L → ∃ y, y ∈ L ∧ y ≠ x ∧ m ∣ x * y - a) → (∀ x, x ∈ L → ∀ y, y ∈ L → ∀ z, z ∈ L → m ∣ x * y - a → m ∣ x * z - a → y = z) → m ∣ pl L - a ^ (L.length / 2) := by
  intro n
  induction n with
  | zero =>
    intro L hl _ _ _
    have : L = [] := List.eq_nil_of_length_eq_zero (by omega)
    subst this
    exact ⟨0, by simp [pl]⟩
  | succ n ih =>
    intro L hl hn hx hu
    match L, hl, hn, hx, hu with
    | [], _, _, _, _ => exact ⟨0, by simp [pl]⟩
    | x :: T, hl, hn, hx, hu =>
      have hn' := List.nodup_cons.mp hn
      obtain ⟨y, hy, yx, hd⟩ := hx x (List.mem_cons_self ..)
      have hyT : y ∈ T := by
        rcases List.mem_cons.mp hy with z | z
        · exact absurd z yx
        · exact z
      have hp := List.perm_cons_erase hyT
      have hlen : (T.erase y).length + 1 = T.length := by
        rw [List.length_erase_of_mem hyT]
        have := List.length_pos_of_mem hyT
        omega
      have hnd : (y :: T.erase y).Nodup := hp.nodup hn'.2
      have hnd' := List.nodup_cons.mp hnd
      have sub : ∀ z, z ∈ T.erase y → z ∈ T := fun z hz => hp.mem_iff.mpr (List.mem_cons_of_mem _ hz)
      have hI := ih (T.erase y) (by simp only [List.length_cons] at hl; omega) hnd'.2 (fun z hz => by
        have hzT := sub z hz
        have hzL := List.mem_cons_of_mem x hzT
        obtain ⟨w, hw, wz, hd2⟩ := hx z hzL
        have wx : w ≠ x := by
          rintro rfl
          have : z = y := hu w (List.mem_cons_self ..) z hzL y hy (by rw [Int.mul_comm]; exact hd2) hd
          rw [this] at hz
          exact hnd'.1 hz
        have wy : w ≠ y := by
          rintro rfl
          have : z = x := hu w hy z hzL x (List.mem_cons_self ..) (by rw [Int.mul_comm]; exact hd2) (by rw [Int.mul_comm]; exact hd)
          rw [this] at hzT
          exact hn'.1 hzT
        refine ⟨w, ?_, wz, hd2⟩
        rcases List.mem_cons.mp hw with q | q
        · exact absurd q wx
        · rcases List.mem_cons.mp (hp.mem_iff.mp q) with q | q
          · exact absurd q wy
          · exact q) (fun z hz w hw v hv => hu z (List.mem_cons_of_mem _ (sub z hz)) w (List.mem_cons_of_mem _ (sub w hw)) v (List.mem_cons_of_mem _ (sub v hv)))
      obtain ⟨s, hs⟩ := hI
      obtain ⟨t, ht⟩ := hd
      have e : pl (x :: T) = x * (y * pl (T.erase y)) := by
        rw [pl, pl_perm hp]
        rfl
      have e2 : (x :: T).length / 2 = (T.erase y).length / 2 + 1 := by
        simp only [List.length_cons]
        omega
      rw [e, e2, Int.pow_succ]
      exact ⟨t * pl (T.erase y) + a * s, by grind⟩
theorem nodup_mapI {f : Nat → Int} : ∀ l : List Nat, l.Nodup → (∀ x y, f x = f y → x = y) → (l.map f).Nodup
  | [], _, _ => List.nodup_nil
  | x :: l, hn, hi => by
    have hn' := List.nodup_cons.mp hn
    rw [List.map_cons, List.nodup_cons]
    refine ⟨fun hm => ?_, nodup_mapI l hn'.2 hi⟩
    obtain ⟨y, hy, e⟩ := List.mem_map.mp hm
    rw [hi y x e] at hy
    exact hn'.1 hy
theorem mem_row {n : Nat} {c x : Int} : x ∈ (List.range n).map (fun i : Nat => (i : Int) + c) ↔ c ≤ x ∧ x < n + c := by
  constructor
  · intro hx
    obtain ⟨i, hi, rfl⟩ := List.mem_map.mp hx
    have := List.mem_range.mp hi
    omega
  · intro ⟨a, b⟩
    exact List.mem_map.mpr ⟨(x - c).toNat, List.mem_range.mpr (by omega), by omega⟩
section
variable {h : Nat} (hp : Pm (2 * h + 1))
include hp
theorem uniq {a x y z : Int} (hx : ¬ (2 * (h : Int) + 1) ∣ x) (h1 : (2 * (h : Int) + 1) ∣ x * y - a) (h2 : (2 * (h : Int) + 1) ∣ x * z - a) (hy : 0 < y ∧ y ≤ 2 * h) (hz : 0 < z ∧ z ≤ 2 * h) : y = z := by
  obtain ⟨u, hu⟩ := h1
  obtain ⟨v, hv⟩ := h2
  have := small_dvd (cop_dvd (x := y - z) (hp.cop hx) ⟨u - v, by grind⟩) (by omega) (by omega)
  omega
theorem not_dvd {x : Int} (h1 : 0 < x) (h2 : x ≤ 2 * h) : ¬ (2 * (h : Int) + 1) ∣ x := fun z => by
  have := Int.le_of_dvd h1 z
  omega
theorem all_prod {a : Int} (ha : ¬ (2 * (h : Int) + 1) ∣ a) (hn : ∀ x : Int, ¬ (2 * (h : Int) + 1) ∣ x * x - a) : (2 * (h : Int) + 1) ∣ Pr (2 * h) (fun i => (i : Int) + 1) - a ^ h := by
  have := pairs (m := 2 * h + 1) (a := a) _ ((List.range (2 * h)).map fun i : Nat => (i : Int) + 1) (Nat.le_refl _) (nodup_mapI _ List.nodup_range fun x y e => by omega) (fun x hx => by
    have hx := mem_row.mp hx
    have nx := not_dvd hp (x := x) (by omega) (by omega)
    obtain ⟨j, hj, hd⟩ := solve (hp.cop nx) ha
    refine ⟨(j : Int) + 1, mem_row.mpr (by omega), ?_, hd⟩
    intro e
    rw [e] at hd
    exact hn x hd) (fun x hx y hy z hz h1 h2 => by
    have hx := mem_row.mp hx
    have hy := mem_row.mp hy
    have hz := mem_row.mp hz
    exact uniq hp (not_dvd hp (by omega) (by omega)) h1 h2 (by omega) (by omega))
  rw [← P_pl] at this
  simpa using this
theorem wilson : (2 * (h : Int) + 1) ∣ Pr (2 * h) (fun i => (i : Int) + 1) + 1 := by
  have h3 := hp.1
  obtain ⟨g, rfl⟩ : ∃ g, h = g + 1 := ⟨h - 1, by omega⟩
  have n1 : ¬ (2 * ((g + 1 : Nat) : Int) + 1) ∣ 1 := not_dvd hp (by omega) (by omega)
  have := pairs (m := 2 * ((g + 1 : Nat) : Int) + 1) (a := 1) _ ((List.range (2 * g)).map fun i : Nat => (i : Int) + 2) (Nat.le_refl _) (nodup_mapI _ List.nodup_range fun x y e => by omega) (fun x hx => by
    have hx := mem_row.mp hx
    have nx := not_dvd hp (x := x) (by omega) (by omega)
    obtain ⟨j, hj, hd⟩ := solve (hp.cop nx) n1
    refine ⟨(j : Int) + 1, mem_row.mpr ?_, ?_, hd⟩
    · by_cases j0 : j = 0
      · subst j0
        have := small_dvd (x := x - 1) (by simpa using hd) (by omega) (by omega)
        omega
      · by_cases j1 : j = 2 * g + 1
        · subst j1
          obtain ⟨u, hu⟩ := hd
          have := small_dvd (m := 2 * ((g + 1 : Nat) : Int) + 1) (x := -x - 1 + (2 * ((g + 1 : Nat) : Int) + 1)) ⟨u - x + 1, by grind⟩ (by omega) (by omega)
          omega
        · omega
    · intro e
      rw [e] at hd
      have hd2 : (2 * ((g + 1 : Nat) : Int) + 1) ∣ (x - 1) * (x + 1) := by
        rw [show (x - 1) * (x + 1) = x * x - 1 by grind]
        exact hd
      rcases hp.dvd_mul hd2 with q | q
      · exact not_dvd hp (by omega) (by omega) q
      · exact not_dvd hp (by omega) (by omega) q) (fun x hx y hy z hz h1 h2 => by
    have hx := mem_row.mp hx
    have hy := mem_row.mp hy
    have hz := mem_row.mp hz
    exact uniq hp (not_dvd hp (by omega) (by omega)) h1 h2 (by omega) (by omega))
  rw [← P_pl, Int.one_pow] at this
  obtain ⟨u, hu⟩ := this
  rw [show 2 * (g + 1) = 2 * g + 1 + 1 by omega]
  have e : Pr (2 * g + 1 + 1) (fun i => (i : Int) + 1) = Pr (2 * g) (fun i => (i : Int) + 2) * (2 * g + 2) := by
    rw [Pr, Pr_first]
    have : Pr (2 * g) (fun i => ((i + 1 : Nat) : Int) + 1) = Pr (2 * g) (fun i => (i : Int) + 2) := P_congr _ fun i _ => by omega
    rw [this]
    simp
    grind
  rw [e]
  exact ⟨u * (2 * g + 2) + 1, by push_cast at *; grind⟩
/-- the sign to a prime modulus is by squares -/
theorem euler {a : Int} (ha : ¬ (2 * (h : Int) + 1) ∣ a) : G a h = 1 ↔ ∃ x : Int, (2 * (h : Int) + 1) ∣ x * x - a := by
  constructor
  · intro hg
    refine Classical.byContradiction fun hn => ?_
    obtain ⟨u, hu⟩ := all_prod hp ha fun x hx => hn ⟨x, hx⟩
    obtain ⟨v, hv⟩ := wilson hp
    obtain ⟨w, hw⟩ := gauss hp ha
    rw [hg] at hw
    have : (2 * (h : Int) + 1) ∣ 2 := ⟨v - u - w, by grind⟩
    have := Int.le_of_dvd (by omega) this
    have := hp.1
    omega
  · rintro ⟨x, hx⟩
    rw [← G_congr hx, G_mul]
    have hc : Int.gcd x (2 * h + 1) = 1 := hp.cop fun z => ha (by
      have := Int.dvd_sub (Int.dvd_mul_of_dvd_left z (c := x)) hx
      rw [show x * x - (x * x - a) = a by omega] at this
      exact this)
    rcases G_pm hc with e | e <;> rw [e] <;> rfl
end
end QR
/-! part m_wr -/
def WrAt (p n x y : Int) : Prop := 0 ≤ x ∧ 0 ≤ y ∧ x * x + n * y * y = p
namespace QR
theorem sq_zero {x : Int} (h : x * x = 0) : x = 0 := by
  rcases Int.mul_eq_zero.mp h with h | h <;> exact h
theorem not_sq_prime {p y : Int} (hp : Pm p) : y * y ≠ p := fun e => by
  have h2 := hp.1
  have a : p ∣ y * y := ⟨1, by omega⟩
  have b : p ∣ y := (Pm.dvd_mul hp a).elim id id
  obtain ⟨k, rfl⟩ := b
  have e1 : p * (k * k * p) = p * 1 := by
    rw [Int.mul_one]
    calc p * (k * k * p) = p * k * (p * k) := by grind
      _ = p := e
  have e2 : k * k * p = 1 := Int.eq_of_mul_eq_mul_left (by omega) e1
  have := sq_nonneg k
  rcases Int.lt_or_le 0 (k * k) with z | z
  · have : 1 * p ≤ k * k * p := Int.mul_le_mul_of_nonneg_right (by omega) (by omega)
    omega
  · have : k * k = 0 := by omega
    rw [this] at e2
    omega
/-- the same way, or (for n = 1) the other way round -/
theorem wr_unique {p n x y u v : Int} (hp : Pm p) (hn : 1 ≤ n) (h1 : WrAt p n x y) (h2 : WrAt p n u v) : (x = u ∧ y = v) ∨ n = 1 ∧ x = v ∧ y = u := by
  obtain ⟨x0, y0, e1⟩ := h1
  obtain ⟨u0, v0, e2⟩ := h2
  have p2 := hp.1
  have same : x * v = u * y → x = u ∧ y = v := fun e => by
    have a : p * (v * v) = p * (y * y) := by
      have : x * v * (x * v) = u * y * (u * y) := by rw [e]
      grind
    have b : v * v = y * y := Int.eq_of_mul_eq_mul_left (by omega) a
    have c : v = y := sq_inj v0 y0 b
    subst c
    exact ⟨sq_inj x0 u0 (by omega), rfl⟩
  have big : ∀ z : Int, p ∣ z → z ≠ 0 → p * p ≤ z * z := fun z ⟨k, hk⟩ hz => by
    subst hk
    have hk0 : k ≠ 0 := fun e => hz (by rw [e, Int.mul_zero])
    have : 1 ≤ k * k := by
      have := sq_nonneg k
      rcases Int.lt_or_le 0 (k * k) with z | z
      · omega
      · exact absurd (sq_zero (show k * k = 0 by omega)) hk0
    have : p * p * 1 ≤ p * p * (k * k) := Int.mul_le_mul_of_nonneg_left this (sq_nonneg p)
    calc p * p ≤ p * p * (k * k) := by omega
      _ = p * k * (p * k) := by grind
  have d : p ∣ (x * v - u * y) * (x * v + u * y) := ⟨v * v - y * y, by grind⟩
  have i1 : p * p = (x * u + n * (y * v)) * (x * u + n * (y * v)) + n * ((x * v - u * y) * (x * v - u * y)) := by
    rw [show p * p = p * (u * u + n * v * v) by rw [e2]]
    rw [show p * (u * u + n * v * v) = (x * x + n * y * y) * (u * u + n * v * v) by rw [e1]]
    grind
  have i2 : p * p = (x * u - n * (y * v)) * (x * u - n * (y * v)) + n * ((x * v + u * y) * (x * v + u * y)) := by
    rw [show p * p = p * (u * u + n * v * v) by rw [e2]]
    rw [show p * (u * u + n * v * v) = (x * x + n * y * y) * (u * u + n * v * v) by rw [e1]]
    grind
  have pp : 0 < p * p := by
    have : 2 * p ≤ p * p := Int.mul_le_mul_of_nonneg_right p2 (by omega)
    omega
  have cut : ∀ s z : Int, p * p = s * s + n * (z * z) → p ∣ z → z ≠ 0 → n = 1 ∧ s = 0 := fun s z e hz h0 => by
    have a := big z hz h0
    have b := sq_nonneg s
    have c : 1 * (z * z) ≤ n * (z * z) := Int.mul_le_mul_of_nonneg_right hn (sq_nonneg z)
    have n1 : n = 1 := by
      rcases Int.lt_or_le 1 n with w | w
      · have : 2 * (z * z) ≤ n * (z * z) := Int.mul_le_mul_of_nonneg_right (by omega) (sq_nonneg z)
        omega
      · omega
    subst n1
    exact ⟨rfl, sq_zero (by omega)⟩
  rcases Pm.dvd_mul hp d with h | h
  · by_cases z : x * v - u * y = 0
    · exact .inl (same (by omega))
    · obtain ⟨rfl, s0⟩ := cut _ _ i1 h z
      exfalso
      have a : 0 ≤ x * u := Int.mul_nonneg x0 u0
      have b : 0 ≤ y * v := Int.mul_nonneg y0 v0
      have c : x * u = 0 := by omega
      rcases Int.mul_eq_zero.mp c with w | w
      · subst w
        exact not_sq_prime hp (y := y) (by rw [Int.one_mul] at e1; omega)
      · subst w
        exact not_sq_prime hp (y := v) (by rw [Int.one_mul] at e2; omega)
  · by_cases z : x * v + u * y = 0
    · have a : 0 ≤ x * v := Int.mul_nonneg x0 v0
      have b : 0 ≤ u * y := Int.mul_nonneg u0 y0
      exact .inl (same (by omega))
    · obtain ⟨rfl, s0⟩ := cut _ _ i2 h z
      refine .inr ⟨rfl, ?_⟩
      have e3 : x * u = y * v := by omega
      have a : p * (x * x) = p * (v * v) := by
        have : x * u * (x * u) = y * v * (y * v) := by rw [e3]
        grind
      have b : x = v := sq_inj x0 v0 (Int.eq_of_mul_eq_mul_left (by omega) a)
      subst b
      exact ⟨rfl, sq_inj y0 u0 (by rw [Int.one_mul] at e1 e2; omega)⟩
end QR
/-! part m_rows -/
/-- the list that a list of tuples holds -/
def RowsAt (H : Hp) : List Addr → List (List V) → Prop
  | [], [] => True
  | t :: ts, l :: ls => H t = some (.tup l) ∧ RowsAt H ts ls
  | _, _ => False
theorem RowsAt.mono {H H' : Hp} (s : Same H H') : ∀ {ts : List Addr} {ls : List (List V)}, RowsAt H ts ls → RowsAt H' ts ls
  | [], [], _ => trivial
  | _ :: _, _ :: _, h => ⟨s _ _ h.1, RowsAt.mono s h.2⟩
  | [], _ :: _, h => h.elim
  | _ :: _, [], h => h.elim
theorem RowsAt.len {H : Hp} : ∀ {ts : List Addr} {ls : List (List V)}, RowsAt H ts ls → ts.length = ls.length
  | [], [], _ => rfl
  | _ :: _, _ :: _, h => by rw [List.length_cons, List.length_cons, RowsAt.len h.2]
  | [], _ :: _, h => h.elim
  | _ :: _, [], h => h.elim
theorem RowsAt.snoc {H : Hp} {t : Addr} {l : List V} (ht : H t = some (.tup l)) : ∀ {ts : List Addr} {ls : List (List V)}, RowsAt H ts ls → RowsAt H (ts ++ [t]) (ls ++ [l])
  | [], [], _ => ⟨ht, trivial⟩
  | _ :: _, _ :: _, h => ⟨h.1, RowsAt.snoc ht h.2⟩
  | [], _ :: _, h => h.elim
  | _ :: _, [], h => h.elim
theorem RowsAt.other {H : Hp} {p : Addr} {xs : List V} {o : HO} (hp : H p = some (.lst xs)) : ∀ {ts : List Addr} {ls : List (List V)}, RowsAt H ts ls → RowsAt (upd H p o) ts ls
  | [], [], _ => trivial
  | t :: _, _ :: _, h => ⟨by
      rw [upd_ne (ne_of h.1 hp (by intro z; cases z))]
      exact h.1, RowsAt.other hp h.2⟩
  | [], _ :: _, h => h.elim
  | _ :: _, [], h => h.elim
theorem RowsAt.at {H : Hp} : ∀ {ts : List Addr} {ls : List (List V)} {i : Nat} {v : V}, RowsAt H ts ls → (ts.map V.ref)[i]? = some v → ∃ (t : Addr) (l : List V), v = .ref t ∧ H t = some (.tup l) ∧ ls[i]? = some l
  | t :: ts, l :: ls, 0, v, h, e => ⟨t, l, (Option.some.inj e).symm, h.1, rfl⟩
  | t :: ts, l :: ls, i + 1, v, h, e => RowsAt.at h.2 (i := i) e
  | [], _, _, _, _, e => by cases e
  | _ :: _, [], _, _, h, _ => h.elim
/-! part m_sq -/
open QR in
theorem sq_mem {p n : Int} (hp : QR.OP p) (hn : ¬ n % p = 0) : (n % p ∈ (List.range (p - 1).toNat).map (fun i : Nat => (1 + (i : Int)) * (1 + (i : Int)) % p)) ↔ sgn n p = 1 := by
  have p3 := hp.three
  obtain ⟨h, rfl⟩ := odd_half (by omega) hp.2
  rw [sgn_G, euler hp.1 (fun z => hn (Int.emod_eq_zero_of_dvd z)), List.mem_map]
  constructor
  · rintro ⟨i, _, e⟩
    exact ⟨1 + i, Int.dvd_of_emod_eq_zero (Int.emod_eq_emod_iff_emod_sub_eq_zero.mp e)⟩
  · rintro ⟨x, hx⟩
    have h0 := rem_lo h x
    have h1 := rem_hi h x
    have hz : x % (2 * (h : Int) + 1) ≠ 0 := by
      intro z
      obtain ⟨u, hu⟩ := Int.dvd_of_emod_eq_zero z
      obtain ⟨v, hv⟩ := hx
      exact hn (Int.emod_eq_zero_of_dvd ⟨u * x - v, by grind⟩)
    refine ⟨(x % (2 * h + 1) - 1).toNat, List.mem_range.mpr (by omega), ?_⟩
    rw [show 1 + (((x % (2 * h + 1) - 1).toNat : Nat) : Int) = x % (2 * h + 1) by omega]
    obtain ⟨u, hu⟩ := dvd_rem h x
    obtain ⟨v, hv⟩ := hx
    refine Int.emod_eq_emod_iff_emod_sub_eq_zero.mpr (Int.emod_eq_zero_of_dvd ⟨v - u * x - u * (x % (2 * h + 1)), ?_⟩)
    grind
theorem sgn_away {p n : Int} (hp : QR.OP p) (hn : ¬ n % p = 0) : sgn n p = 1 ∨ sgn n p = -1 :=
  sgn_pm (by have := hp.three; omega) hp.2 (hp.1.cop fun z => hn (Int.emod_eq_zero_of_dvd z))
theorem sgn_at0 {p n : Int} (hp : QR.OP p) (hn : n % p = 0) : sgn n p = 0 :=
  (sgn_zero (by have := hp.three; omega) hp.2).mpr fun z => by
    have := hp.three
    have hd := Int.dvd_of_emod_eq_zero hn
    have h1 : p ∣ ((Int.gcd n p : Nat) : Int) := Int.dvd_coe_gcd hd (Int.dvd_refl p)
    rw [z] at h1
    have := Int.le_of_dvd (by decide) h1
    omega
theorem cut_ints (ns : List Int) (lo hi : Option Int) : ∃ ms : List Int, cutV (ns.map V.int) lo hi = ms.map V.int := by
  unfold cutV
  exact ⟨_, by rw [← List.map_drop, ← List.map_take]⟩
theorem sgn_b {n p : Int} (hp : QR.OP p) : -1 ≤ sgn n p ∧ sgn n p ≤ 1 := by
  by_cases h : n % p = 0
  · rw [sgn_at0 hp h]
    decide
  · rcases sgn_away hp h with e | e <;> rw [e] <;> decide
theorem sgn_1 (n : Int) : sgn n 1 = 1 := by
  unfold sgn
  rw [Int.emod_one, show (0 : Int).toNat = 0 from rfl, show (1 : Int).toNat = 1 from rfl, jac_zero, if_pos rfl]
/-! part m_cip -/
namespace QR
/-! binomial numbers, and that a prime divides the inner ones -/
def ch : Nat → Nat → Int
  | _, 0 => 1
  | 0, _ + 1 => 0
  | n + 1, k + 1 => ch n k + ch n (k + 1)
theorem ch_zero (n : Nat) : ch n 0 = 1 := by cases n <;> rfl
theorem ch_succ (n k : Nat) : ch (n + 1) (k + 1) = ch n k + ch n (k + 1) := rfl
theorem ch_out : ∀ (n k : Nat), n < k → ch n k = 0
  | 0, k + 1, _ => rfl
  | n + 1, k + 1, h => by rw [ch_succ, ch_out n k (by omega), ch_out n (k + 1) (by omega)]; rfl
  | _, 0, h => by omega
theorem ch_self : ∀ n : Nat, ch n n = 1
  | 0 => rfl
  | n + 1 => by rw [ch_succ, ch_self n, ch_out n (n + 1) (by omega)]; rfl
theorem ch_mul : ∀ (n k : Nat), ((k : Int) + 1) * ch (n + 1) (k + 1) = ((n : Int) + 1) * ch n k
  | 0, 0 => rfl
  | 0, k + 1 => by rw [ch_out 1 (k + 2) (by omega), ch_out 0 (k + 1) (by omega)]; simp
  | n + 1, 0 => by
    have h := ch_mul n 0
    have e : ch (n + 1 + 1) (0 + 1) = ch (n + 1) 0 + ch (n + 1) (0 + 1) := rfl
    rw [e, ch_zero, Int.mul_add, h, ch_zero]
    push_cast
    omega
  | n + 1, k + 1 => by
    have h1 := ch_mul n k
    have h2 := ch_mul n (k + 1)
    rw [ch_succ (n + 1) (k + 1)]
    rw [ch_succ n k] at *
    have e1 : (((k + 1 : Nat) : Int)) = (k : Int) + 1 := by omega
    have e2 : (((n + 1 : Nat) : Int)) = (n : Int) + 1 := by omega
    rw [e1] at *
    rw [e2]
    grind
theorem ch_dvd {p : Nat} (hp : Pm p) {k : Nat} (h : k + 1 < p) : (p : Int) ∣ ch p (k + 1) := by
  obtain ⟨n, rfl⟩ : ∃ n, p = n + 1 := ⟨p - 1, by omega⟩
  have e := ch_mul n k
  have hd : (((n + 1 : Nat) : Int)) ∣ ((k : Int) + 1) * ch (n + 1) (k + 1) := ⟨ch n k, by rw [e]; push_cast; rfl⟩
  rcases hp.dvd_mul hd with z | z
  · have := Int.le_of_dvd (by omega) z
    omega
  · exact z
def Sm : Nat → (Nat → Int) → Int
  | 0, _ => 0
  | n + 1, f => Sm n f + f n
theorem Sm_congr : ∀ (n : Nat) {f g : Nat → Int}, (∀ i, i < n → f i = g i) → Sm n f = Sm n g
  | 0, _, _, _ => rfl
  | n + 1, f, g, h => by rw [Sm, Sm, Sm_congr n fun i hi => h i (by omega), h n (by omega)]
theorem Sm_add (f g : Nat → Int) : ∀ n : Nat, Sm n (fun i => f i + g i) = Sm n f + Sm n g
  | 0 => rfl
  | n + 1 => by
    rw [Sm, Sm, Sm, Sm_add f g n]
    omega
theorem Sm_mul (c : Int) (f : Nat → Int) : ∀ n : Nat, Sm n (fun i => c * f i) = c * Sm n f
  | 0 => by simp [Sm]
  | n + 1 => by rw [Sm, Sm, Sm_mul c f n, Int.mul_add]
theorem Sm_first (f : Nat → Int) : ∀ n : Nat, Sm (n + 1) f = f 0 + Sm n (fun i => f (i + 1))
  | 0 => by simp [Sm]
  | n + 1 => by
    rw [Sm, Sm_first f n, Sm]
    omega
theorem Sm_dvd {m : Int} : ∀ (n : Nat) (f : Nat → Int), (∀ i, i < n → m ∣ f i) → m ∣ Sm n f
  | 0, _, _ => ⟨0, by simp [Sm]⟩
  | n + 1, f, h => Int.dvd_add (Sm_dvd n f fun i hi => h i (by omega)) (h n (by omega))
/-- the n-th power of t and a step -/
def Fb (t : Int) : Nat → (Nat → Int) → Int
  | 0, s => s 0
  | n + 1, s => t * Fb t n s + Fb t n (fun k => s (k + 1))
theorem Fb_sum (t : Int) : ∀ (n : Nat) (s : Nat → Int), Fb t n s = Sm (n + 1) (fun k => ch n k * t ^ (n - k) * s k)
  | 0, s => by simp [Fb, Sm, ch]
  | n + 1, s => by
    rw [Fb, Fb_sum t n s, Fb_sum t n, Sm_first _ (n + 1), ← Sm_mul]
    have e1 : Sm (n + 1) (fun k => t * (ch n k * t ^ (n - k) * s k)) = t ^ (n + 1) * s 0 + Sm (n + 1) (fun k => ch n (k + 1) * t ^ (n - k) * s (k + 1)) := by
      rw [Sm_first _ n]
      conv => rhs; rw [Sm]
      rw [ch_out n (n + 1) (by omega), ch_zero]
      have e2 : Sm n (fun i => t * (ch n (i + 1) * t ^ (n - (i + 1)) * s (i + 1))) = Sm n (fun k => ch n (k + 1) * t ^ (n - k) * s (k + 1)) := by
        refine Sm_congr n fun i hi => ?_
        have : n - i = (n - (i + 1)) + 1 := by omega
        rw [this, Int.pow_succ]
        grind
      rw [e2, Nat.sub_zero, Int.pow_succ]
      grind
    rw [e1, ch_zero, Nat.sub_zero]
    have e3 : Sm (n + 1) (fun i => ch (n + 1) (i + 1) * t ^ (n + 1 - (i + 1)) * s (i + 1)) = Sm (n + 1) (fun k => ch n (k + 1) * t ^ (n - k) * s (k + 1)) + Sm (n + 1) (fun k => ch n k * t ^ (n - k) * s (k + 1)) := by
      rw [← Sm_add]
      refine Sm_congr _ fun i hi => ?_
      rw [ch_succ, show n + 1 - (i + 1) = n - i by omega]
      grind
    rw [e3]
    grind
theorem Fb_frob {p : Nat} (hp : Pm p) (t : Int) (s : Nat → Int) : (p : Int) ∣ Fb t p s - (t ^ p * s 0 + s p) := by
  have h2 := hp.1
  obtain ⟨n, rfl⟩ : ∃ n, p = n + 1 := ⟨p - 1, by omega⟩
  rw [Fb_sum, Sm_first, Sm]
  rw [ch_zero, ch_self, Nat.sub_zero, Nat.sub_self, Int.pow_zero]
  have : (((n + 1 : Nat)) : Int) ∣ Sm n (fun i => ch (n + 1) (i + 1) * t ^ (n + 1 - (i + 1)) * s (i + 1)) := Sm_dvd n _ fun i hi => by
    obtain ⟨c, hc⟩ := ch_dvd hp (k := i) (by omega)
    exact ⟨c * t ^ (n + 1 - (i + 1)) * s (i + 1), by rw [hc]; grind⟩
  obtain ⟨c, hc⟩ := this
  exact ⟨c, by rw [hc]; grind⟩
/-! sums of an integer and a multiple of a root of w -/
def mulQ (w : Int) (x y : Int × Int) : Int × Int := (x.1 * y.1 + x.2 * y.2 * w, x.1 * y.2 + x.2 * y.1)
def powQ (w : Int) (x : Int × Int) : Nat → Int × Int
  | 0 => (1, 0)
  | n + 1 => mulQ w (powQ w x n) x
theorem mulQ_assoc (w : Int) (x y z : Int × Int) : mulQ w (mulQ w x y) z = mulQ w x (mulQ w y z) := by
  simp only [mulQ, Prod.mk.injEq]
  constructor <;> grind
theorem mulQ_comm (w : Int) (x y : Int × Int) : mulQ w x y = mulQ w y x := by
  simp only [mulQ, Prod.mk.injEq]
  constructor <;> grind
theorem mulQ_one (w : Int) (x : Int × Int) : mulQ w x (1, 0) = x := by
  simp [mulQ]
theorem powQ_add (w : Int) (x : Int × Int) (m : Nat) : ∀ n : Nat, powQ w x (m + n) = mulQ w (powQ w x m) (powQ w x n)
  | 0 => (mulQ_one w _).symm
  | n + 1 => by
    rw [← Nat.add_assoc, powQ, powQ_add w x m n, powQ, mulQ_assoc]
theorem powQ_sq (w : Int) (x : Int × Int) (n : Nat) : powQ w (mulQ w x x) n = powQ w x (2 * n) := by
  induction n with
  | zero => rfl
  | succ n ih =>
    rw [powQ, ih, show 2 * (n + 1) = 2 * n + 1 + 1 by omega, powQ, powQ, mulQ_assoc]
def sE (w : Int) (k : Nat) : Int := if k % 2 = 0 then w ^ (k / 2) else 0
def sO (w : Int) (k : Nat) : Int := if k % 2 = 0 then 0 else w ^ (k / 2)
theorem Fb_mul (t c : Int) : ∀ (n : Nat) (s : Nat → Int), Fb t n (fun k => c * s k) = c * Fb t n s
  | 0, s => rfl
  | n + 1, s => by
    rw [Fb, Fb, Fb_mul t c n s, Fb_mul t c n fun k => s (k + 1)]
    grind
theorem powQ_Fb (w t : Int) : ∀ n : Nat, powQ w (t, 1) n = (Fb t n (sE w), Fb t n (sO w))
  | 0 => by simp [powQ, Fb, sE, sO]
  | n + 1 => by
    have h1 : (fun k => sE w (k + 1)) = fun k => w * sO w k := by
      funext k
      unfold sE sO
      rcases Nat.mod_two_eq_zero_or_one k with h | h
      · rw [if_neg (by omega), if_pos h, Int.mul_zero]
      · rw [if_pos (by omega), if_neg (by omega), show (k + 1) / 2 = k / 2 + 1 by omega, Int.pow_succ, Int.mul_comm]
    have h2 : (fun k => sO w (k + 1)) = fun k => sE w k := by
      funext k
      unfold sE sO
      rcases Nat.mod_two_eq_zero_or_one k with h | h
      · rw [if_neg (by omega), if_pos h, show (k + 1) / 2 = k / 2 by omega]
      · rw [if_pos (by omega), if_neg (by omega)]
    rw [powQ, powQ_Fb w t n, Fb, Fb, h1, h2, Fb_mul]
    simp only [mulQ, Prod.mk.injEq]
    constructor <;> grind
section
variable {h : Nat}
theorem G_eq_dvd {a : Int} : G a h = 0 ↔ Int.gcd a (2 * h + 1) ≠ 1 := G_eq_zero
theorem fermat (hp : Pm (2 * (h : Int) + 1)) (t : Int) : (2 * (h : Int) + 1) ∣ t ^ (2 * h + 1) - t := by
  by_cases ht : (2 * (h : Int) + 1) ∣ t
  · obtain ⟨c, hc⟩ := ht
    refine ⟨t ^ (2 * h) * c - c, ?_⟩
    rw [Int.pow_succ]
    generalize t ^ (2 * h) = X
    rw [hc]
    grind
  · obtain ⟨c, hc⟩ := gauss hp ht
    have hg := G_pm (hp.cop ht)
    have hgg : G t h * G t h = 1 := by rcases hg with e | e <;> rw [e] <;> rfl
    have e : t ^ h = (2 * (h : Int) + 1) * c + G t h := by omega
    have e2 : t ^ (2 * h + 1) = t ^ h * t ^ h * t := by
      rw [Int.pow_succ, show 2 * h = h + h by omega, Int.pow_add]
    exact ⟨((2 * (h : Int) + 1) * c * c + 2 * c * G t h) * t, by rw [e2, e]; grind⟩
/-- the power with the exponent p + 1 is the norm -/
theorem frob (hp : Pm (2 * (h : Int) + 1)) {w t : Int} (hw : G w h = -1) : (2 * (h : Int) + 1) ∣ (powQ w (t, 1) (2 * h + 2)).1 - (t * t - w) ∧ (2 * (h : Int) + 1) ∣ (powQ w (t, 1) (2 * h + 2)).2 := by
  have hp' : Pm (((2 * h + 1 : Nat)) : Int) := by
    have : (((2 * h + 1 : Nat)) : Int) = 2 * (h : Int) + 1 := by omega
    rw [this]
    exact hp
  have wd : ¬ (2 * (h : Int) + 1) ∣ w := fun z => by
    have : G w h = 0 := by
      have h2 := hp.1
      obtain ⟨c, hc⟩ := z
      rw [G_congr (b := 0) ⟨c, by rw [hc]; omega⟩]
      rw [G_at0, if_neg (by omega)]
    rw [this] at hw
    exact absurd hw (by decide)
  obtain ⟨c1, e1⟩ := Fb_frob hp' t (sE w)
  obtain ⟨c2, e2⟩ := Fb_frob hp' t (sO w)
  obtain ⟨c3, e3⟩ := fermat hp t
  obtain ⟨c4, e4⟩ := gauss hp wd
  have cst : (((2 * h + 1 : Nat)) : Int) = 2 * (h : Int) + 1 := by omega
  rw [cst] at e1 e2
  have s1 : sE w 0 = 1 := by simp [sE]
  have s2 : sE w (2 * h + 1) = 0 := if_neg (by omega)
  have s3 : sO w 0 = 0 := by simp [sO]
  have s4 : sO w (2 * h + 1) = w ^ h := by
    unfold sO
    rw [if_neg (by omega), show (2 * h + 1) / 2 = h by omega]
  rw [s1, s2] at e1
  rw [s3, s4] at e2
  rw [hw] at e4
  rw [show 2 * h + 2 = 2 * h + 1 + 1 from rfl, powQ, powQ_Fb]
  simp only [mulQ]
  generalize Fb t (2 * h + 1) (sE w) = A at *
  generalize Fb t (2 * h + 1) (sO w) = B at *
  generalize t ^ (2 * h + 1) = T at *
  generalize w ^ h = W at *
  generalize 2 * (h : Int) + 1 = p at *
  have eA : A = t + p * (c1 + c3) := by rw [Int.mul_add]; omega
  have eB : B = -1 + p * (c2 + c4) := by rw [Int.mul_add]; omega
  exact ⟨⟨(c1 + c3) * t + (c2 + c4) * w, by rw [eA, eB]; grind⟩, ⟨c1 + c3 + (c2 + c4) * t, by rw [eA, eB]; grind⟩⟩
/-- the half power is a root -/
theorem cipolla (hp : Pm (2 * (h : Int) + 1)) {n w t : Int} (hw : G w h = -1) (hn : G n h = 1) (hwn : (2 * (h : Int) + 1) ∣ t * t - n - w) {r : Int × Int} (hr1 : (2 * (h : Int) + 1) ∣ r.1 - (powQ w (t, 1) (h + 1)).1) (hr2 : (2 * (h : Int) + 1) ∣ r.2 - (powQ w (t, 1) (h + 1)).2) : (2 * (h : Int) + 1) ∣ r.1 * r.1 - n := by
  obtain ⟨⟨d1, f1⟩, ⟨d2, f2⟩⟩ := frob hp (t := t) hw
  rw [show 2 * h + 2 = (h + 1) + (h + 1) by omega, powQ_add] at f1 f2
  simp only [mulQ] at f1 f2
  generalize (powQ w (t, 1) (h + 1)).1 = a at *
  generalize (powQ w (t, 1) (h + 1)).2 = b at *
  have h2 := hp.1
  have h3 : Pm (2 * (h : Int) + 1) := hp
  have hd2 : (2 * (h : Int) + 1) ∣ 2 * (a * b) := ⟨d2, by rw [← f2]; grind⟩
  have n2 : ¬ (2 * (h : Int) + 1) ∣ 2 := fun z => by
    have := Int.le_of_dvd (by decide) z
    omega
  have hab : (2 * (h : Int) + 1) ∣ a * b := (hp.dvd_mul hd2).resolve_left n2
  obtain ⟨g, hg⟩ := hwn
  obtain ⟨k1, hk1⟩ := hr1
  generalize hpp : 2 * (h : Int) + 1 = p at *
  have era : r.1 = a + p * k1 := by omega
  have etn : t * t - w = n + p * g := by omega
  have ef : a * a + b * b * w = n + p * (g + d1) := by rw [Int.mul_add]; omega
  rcases h3.dvd_mul hab with z | z
  · exfalso
    obtain ⟨u, hu⟩ := z
    have hc : p ∣ b * b * w - n := ⟨g + d1 - a * u, by rw [hu] at ef ⊢; grind⟩
    rw [← hpp] at hc
    have e1 := G_congr hc
    rw [G_mul, hw, hn, G_mul] at e1
    have e2 : 0 ≤ G b h * G b h := by
      rcases Int.le_total 0 (G b h) with y | y
      · exact Int.mul_nonneg y y
      · have := Int.mul_nonneg (show 0 ≤ -G b h by omega) (show 0 ≤ -G b h by omega)
        rw [Int.neg_mul_neg] at this
        exact this
    omega
  · obtain ⟨u, hu⟩ := z
    refine ⟨g + d1 - b * u * w + 2 * a * k1 + p * k1 * k1, ?_⟩
    rw [era]
    have : b * b * w = p * (b * u * w) := by rw [hu]; grind
    grind
end
end QR
/-! part m_rt -/
/-! roots on a clock -/
def cg (p a b : Int) : Prop := p ∣ a - b
theorem cg.mulQ1 {p w a b c d a' b' c' d' : Int} (h1 : p ∣ a - a') (h2 : p ∣ b - b') (h3 : p ∣ c - c') (h4 : p ∣ d - d') : p ∣ (a * c + b * d * w) % p - (a' * c' + b' * d' * w) := by
  obtain ⟨x, hx⟩ := h1
  obtain ⟨y, hy⟩ := h2
  obtain ⟨z, hz⟩ := h3
  obtain ⟨u, hu⟩ := h4
  have e := Int.mul_ediv_add_emod (a * c + b * d * w) p
  generalize (a * c + b * d * w) / p = q at *
  generalize (a * c + b * d * w) % p = r at *
  have ea : a = a' + p * x := by omega
  have eb : b = b' + p * y := by omega
  have ec : c = c' + p * z := by omega
  have ed : d = d' + p * u := by omega
  refine ⟨a' * z + x * c' + p * x * z + (b' * u + y * d' + p * y * u) * w - q, ?_⟩
  have : r = a * c + b * d * w - p * q := by omega
  rw [this, ea, eb, ec, ed]
  grind
theorem cg.mulQ2 {p a b c d a' b' c' d' : Int} (h1 : p ∣ a - a') (h2 : p ∣ b - b') (h3 : p ∣ c - c') (h4 : p ∣ d - d') : p ∣ (a * d + b * c) % p - (a' * d' + b' * c') := by
  obtain ⟨x, hx⟩ := h1
  obtain ⟨y, hy⟩ := h2
  obtain ⟨z, hz⟩ := h3
  obtain ⟨u, hu⟩ := h4
  have e := Int.mul_ediv_add_emod (a * d + b * c) p
  generalize (a * d + b * c) / p = q at *
  generalize (a * d + b * c) % p = r at *
  have ea : a = a' + p * x := by omega
  have eb : b = b' + p * y := by omega
  have ec : c = c' + p * z := by omega
  have ed : d = d' + p * u := by omega
  refine ⟨a' * u + x * d' + p * x * u + (b' * z + y * c' + p * y * z) - q, ?_⟩
  have : r = a * d + b * c - p * q := by omega
  rw [this, ea, eb, ec, ed]
  grind
namespace QR
/-- what the loop keeps: the pairs stand for sums, and result times power to the exponent is one and the same -/
def Keep (p w t : Int) (h : Nat) (a b c d : Int) (e : Nat) : Prop := ∃ R S : Int × Int, p ∣ a - R.1 ∧ p ∣ b - R.2 ∧ p ∣ c - S.1 ∧ p ∣ d - S.2 ∧ mulQ w R (powQ w S e) = powQ w (t, 1) h
theorem Keep.start {p w t : Int} {h : Nat} : Keep p w t h 1 0 (t % p) 1 h :=
  ⟨(1, 0), (t, 1), ⟨0, by simp⟩, ⟨0, by simp⟩, ⟨-(t / p), by have := Int.mul_ediv_add_emod t p; rw [Int.mul_neg]; dsimp only; omega⟩, ⟨0, by simp⟩, by rw [mulQ_comm, mulQ_one]⟩
theorem Keep.odd {p w t a b c d : Int} {h e : Nat} (k : Keep p w t h a b c d e) (ho : e % 2 = 1) : Keep p w t h ((a * c + b * d * w) % p) ((a * d + b * c) % p) ((c * c + d * d * w) % p) ((c * d + d * c) % p) (e / 2) := by
  obtain ⟨R, S, h1, h2, h3, h4, he⟩ := k
  refine ⟨mulQ w R S, mulQ w S S, cg.mulQ1 h1 h2 h3 h4, cg.mulQ2 h1 h2 h3 h4, cg.mulQ1 h3 h4 h3 h4, cg.mulQ2 h3 h4 h3 h4, ?_⟩
  rw [powQ_sq, mulQ_assoc, mulQ_comm w S, ← he]
  rw [show e = 2 * (e / 2) + 1 by omega, powQ, show (2 * (e / 2) + 1) / 2 = e / 2 by omega]
theorem Keep.even {p w t a b c d : Int} {h e : Nat} (k : Keep p w t h a b c d e) (ho : e % 2 = 0) : Keep p w t h a b ((c * c + d * d * w) % p) ((c * d + d * c) % p) (e / 2) := by
  obtain ⟨R, S, h1, h2, h3, h4, he⟩ := k
  refine ⟨R, mulQ w S S, h1, h2, cg.mulQ1 h3 h4 h3 h4, cg.mulQ2 h3 h4 h3 h4, ?_⟩
  rw [powQ_sq, ← he, show 2 * (e / 2) = e by omega]
theorem Keep.fin {p n t a b c d : Int} (hp : OP p) (hn : sgn n p = 1) (hw : sgn (t * t - n) p = -1) (k : Keep p ((t * t - n) % p) t ((p + 1) / 2).toNat a b c d 0) : p ∣ a * a - n := by
  obtain ⟨h, rfl⟩ := odd_half (by have := hp.three; omega) hp.2
  rw [sgn_G] at hn hw
  obtain ⟨R, S, h1, h2, h3, h4, he⟩ := k
  rw [powQ, mulQ_one] at he
  subst he
  have e := Int.mul_ediv_add_emod (t * t - n) (2 * (h : Int) + 1)
  have hwn : (2 * (h : Int) + 1) ∣ t * t - n - (t * t - n) % (2 * (h : Int) + 1) := ⟨(t * t - n) / (2 * (h : Int) + 1), by omega⟩
  rw [show ((2 * (h : Int) + 1 + 1) / 2).toNat = h + 1 by omega] at h1 h2
  refine cipolla (r := (a, b)) hp.1 (w := (t * t - n) % (2 * (h : Int) + 1)) (t := t) ?_ hn hwn h1 h2
  rw [← hw]
  exact G_congr ⟨-((t * t - n) / (2 * (h : Int) + 1)), by rw [Int.mul_neg]; omega⟩
theorem has_root {p n : Int} (hp : OP p) (hn : sgn n p ≠ -1) : ∃ r : Int, 0 ≤ r ∧ r < p ∧ p ∣ r * r - n := by
  have h3 := hp.three
  have : ∃ r : Int, p ∣ r * r - n := by
    by_cases h0 : n % p = 0
    · obtain ⟨c, hc⟩ := Int.dvd_of_emod_eq_zero h0
      exact ⟨0, -c, by rw [hc, Int.mul_neg]; omega⟩
    · obtain ⟨h, rfl⟩ := odd_half (by omega) hp.2
      have hd : ¬ (2 * (h : Int) + 1) ∣ n := fun z => h0 (Int.emod_eq_zero_of_dvd z)
      have e := (sgn_away hp h0).resolve_right hn
      rw [sgn_G] at e
      exact (euler hp.1 hd).mp e
  obtain ⟨r, c, hc⟩ := this
  refine ⟨r % p, Int.emod_nonneg _ (by omega), Int.emod_lt_of_pos _ (by omega), ?_⟩
  have e := Int.mul_ediv_add_emod r p
  generalize r / p = q at *
  generalize r % p = s at *
  exact ⟨c - 2 * q * s - p * q * q, by rw [← e] at hc; grind⟩
theorem root_mod {p n x : Int} (h : p ∣ x * x - n % p) : p ∣ x * x - n := by
  obtain ⟨c, hc⟩ := h
  have e := Int.mul_ediv_add_emod n p
  exact ⟨c - n / p, by rw [Int.mul_sub]; omega⟩
theorem root_neg {p n x : Int} (h : p ∣ x * x - n) : p ∣ (p - x) * (p - x) - n := by
  obtain ⟨c, hc⟩ := h
  exact ⟨p - 2 * x + c, by rw [Int.mul_add, ← hc]; grind⟩
theorem root_one {p n x y : Int} (hp : OP p) (hx : 0 ≤ x) (hx2 : 2 * x < p) (hxn : p ∣ x * x - n) (hy : 0 ≤ y) (hy2 : 2 * y < p) (hyn : p ∣ y * y - n) : x = y := by
  have h3 := hp.three
  have : p ∣ (x - y) * (x + y) := by
    obtain ⟨c, hc⟩ := hxn
    obtain ⟨d, hd⟩ := hyn
    exact ⟨c - d, by rw [Int.mul_sub, ← hc, ← hd]; grind⟩
  rcases hp.1.dvd_mul this with z | z
  · rcases Int.lt_trichotomy x y with l | l | l
    · have := Int.le_of_dvd (by omega) (Int.dvd_neg.mpr z)
      omega
    · exact l
    · have := Int.le_of_dvd (by omega) z
      omega
  · by_cases h : x + y = 0
    · omega
    · have := Int.le_of_dvd (by omega) z
      omega
end QR
/-! part m_clk -/
/-! odd primes up to 10000019, and Euler's power -/
theorem op_top : QR.OP (10000019 : Int) := QR.op_by (n := 10000019) 3163 (by decide) (by decide) (by decide) (by decide +kernel)
theorem op_nine : ∀ z ∈ ([97, 193, 257, 12289, 40961, 65537, 786433, 5767169, 7340033] : List Int), QR.OP z ∧ z ≤ 10000019 := by
  intro z hz
  simp only [List.mem_cons, List.not_mem_nil, or_false] at hz
  rcases hz with rfl | rfl | rfl | rfl | rfl | rfl | rfl | rfl | rfl
  · exact ⟨QR.op_by (n := 97) 10 (by decide) (by decide) (by decide) (by decide +kernel), by decide⟩
  · exact ⟨QR.op_by (n := 193) 14 (by decide) (by decide) (by decide) (by decide +kernel), by decide⟩
  · exact ⟨QR.op_by (n := 257) 17 (by decide) (by decide) (by decide) (by decide +kernel), by decide⟩
  · exact ⟨QR.op_by (n := 12289) 111 (by decide) (by decide) (by decide) (by decide +kernel), by decide⟩
  · exact ⟨QR.op_by (n := 40961) 203 (by decide) (by decide) (by decide) (by decide +kernel), by decide⟩
  · exact ⟨QR.op_by (n := 65537) 257 (by decide) (by decide) (by decide) (by decide +kernel), by decide⟩
  · exact ⟨QR.op_by (n := 786433) 887 (by decide) (by decide) (by decide) (by decide +kernel), by decide⟩
  · exact ⟨QR.op_by (n := 5767169) 2402 (by decide) (by decide) (by decide) (by decide +kernel), by decide⟩
  · exact ⟨QR.op_by (n := 7340033) 2710 (by decide) (by decide) (by decide) (by decide +kernel), by decide⟩
theorem rest_by {p r Y : Int} (h : p ∣ Y - r) (h0 : 0 ≤ r) (h1 : r < p) : Y % p = r := by
  obtain ⟨c, hc⟩ := h
  rw [show Y = r + p * c by omega, Int.add_mul_emod_self_left, Int.emod_eq_of_lt h0 h1]
theorem euler_pow {n p : Int} (hp : QR.OP p) : n ^ ((p - 1) / 2).toNat % p = p - 1 ↔ sgn n p = -1 := by
  have h3 := hp.three
  obtain ⟨h, rfl⟩ := odd_half (by omega) hp.2
  rw [show ((2 * (h : Int) + 1 - 1) / 2).toNat = h by omega]
  by_cases h0 : n % (2 * (h : Int) + 1) = 0
  · rw [sgn_at0 hp h0]
    obtain ⟨c, hc⟩ := Int.dvd_of_emod_eq_zero h0
    have : n ^ h % (2 * (h : Int) + 1) = 0 := by
      refine Int.emod_eq_zero_of_dvd ?_
      obtain ⟨k, rfl⟩ : ∃ k, h = k + 1 := ⟨h - 1, by omega⟩
      rw [Int.pow_succ]
      exact Int.dvd_mul_of_dvd_right ⟨c, hc⟩
    rw [this]
    omega
  · obtain ⟨c, hc⟩ := QR.gauss hp.1 (a := n) fun z => h0 (Int.emod_eq_zero_of_dvd z)
    rw [sgn_G]
    rcases sgn_away hp h0 with e | e
    · rw [sgn_G] at e
      rw [e] at hc ⊢
      rw [rest_by (r := 1) ⟨c, hc⟩ (by omega) (by omega)]
      omega
    · rw [sgn_G] at e
      rw [e] at hc ⊢
      rw [rest_by (r := 2 * (h : Int) + 1 - 1) ⟨c - 1, by rw [Int.mul_sub]; omega⟩ (by omega) (by omega)]
      omega
theorem sgn_shift {n m p k : Int} (hp : QR.OP p) (e : m = n + p * k) : sgn m p = sgn n p :=
  sgn_congr (by have := hp.three; omega) hp.2 ⟨k, by omega⟩
theorem root_shift {n m p k x : Int} (e : m = n + p * k) (h : p ∣ x * x - m) : p ∣ x * x - n := by
  obtain ⟨c, hc⟩ := h
  exact ⟨c + k, by rw [Int.mul_add]; omega⟩
theorem ix_mem {ns : List Int} {i : Int} (h0 : 0 ≤ i) (h1 : i < ns.length) : ∃ z ∈ ns, L2.atI (ns.map L2.V.int) i = some (.int z) := by
  have hl : i.toNat < ns.length := by omega
  refine ⟨ns[i.toNat]'hl, List.getElem_mem hl, ?_⟩
  have e : i = (i.toNat : Int) := by omega
  refine (congrArg (L2.atI _) e).trans (L2.atI_nat ?_)
  rw [List.getElem?_map, List.getElem?_eq_getElem (by omega)]
  rfl
/-! ## the text by places -/
def topS (i : Nat) : Stmt := PySem.Challenge.pw_everyprime_k55_written_primes.main.body.getD i (.Pass ⟨0, 0, 0, 0⟩)
abbrev s_law_cell : Stmt := topS 6
theorem sc_law_cell : FnScope ["_law_script", "_law_k"] ["_law_script", "_law_k"] (defScope s_law_cell) := ⟨rfl, rfl, rfl, by decide +kernel, rfl, by decide +kernel, by decide +kernel⟩
abbrev s_law_found : Stmt := topS 9
theorem sc_law_found : FnScope ["_law_p", "_law_n", "_law_rows", "_law_squares_of", "_law_x", "_law_y"] ["_law_p", "_law_n"] (defScope s_law_found) := ⟨rfl, rfl, rfl, by decide +kernel, rfl, by decide +kernel, by decide +kernel⟩
abbrev s_law_is_odd_prime : Stmt := topS 7
theorem sc_law_is_odd_prime : FnScope ["_law_n", "_law_k"] ["_law_n"] (defScope s_law_is_odd_prime) := ⟨rfl, rfl, rfl, by decide +kernel, rfl, by decide +kernel, by decide +kernel⟩
abbrev s_law_next_prime : Stmt := topS 8
theorem sc_law_next_prime : FnScope ["_law_n", "_law_found_here"] ["_law_n"] (defScope s_law_next_prime) := ⟨rfl, rfl, rfl, by decide +kernel, rfl, by decide +kernel, by decide +kernel⟩
abbrev s_law_pool : Stmt := topS 4
theorem sc_law_pool : FnScope ["_law_cell_here"] ["_law_cell_here"] (defScope s_law_pool) := ⟨rfl, rfl, rfl, by decide +kernel, rfl, by decide +kernel, by decide +kernel⟩
abbrev s_law_take : Stmt := topS 5
theorem sc_law_take : FnScope ["_law_pool_here", "_law_limit", "_law_drawn", "_law_mixed"] ["_law_pool_here", "_law_limit"] (defScope s_law_take) := ⟨rfl, rfl, rfl, by decide +kernel, rfl, by decide +kernel, by decide +kernel⟩
abbrev s_side_of : Stmt := topS 1
theorem sc_side_of : FnScope ["square", "low", "high", "middle"] ["square"] (defScope s_side_of) := ⟨rfl, rfl, rfl, by decide +kernel, rfl, by decide +kernel, by decide +kernel⟩
abbrev s_written : Stmt := topS 2
theorem sc_written : FnScope ["p", "n", "y", "x"] ["p", "n"] (defScope s_written) := ⟨rfl, rfl, rfl, by decide +kernel, rfl, by decide +kernel, by decide +kernel⟩
abbrev s_law : Stmt := topS 10
theorem sc_law : FnScope ["_law_script", "_law_k", "_law_pool_here", "_law_n", "_law_p", "_law_y", "_law_x", "_law_rows", "_law_told"] ["_law_script"] (defScope s_law) := ⟨rfl, rfl, rfl, by decide +kernel, rfl, by decide +kernel, by decide +kernel⟩
/-- the addresses of the classes -/
structure Adr where
  c_base : Addr
structure Txt (K : PySem.W.Frag) (mg : Str → Option Value) (Ad : Adr) : Prop where
  b_int : mg "int" = none
  b_isinstance : mg "isinstance" = none
  b_len : mg "len" = none
  b_max : mg "max" = none
  b_min : mg "min" = none
  b_range : mg "range" = none
  b_tuple : mg "tuple" = none
  d_law_cell : DefAt K mg "_law_cell" s_law_cell ["_law_script", "_law_k"]
  d_law_found : DefAt K mg "_law_found" s_law_found ["_law_p", "_law_n"]
  d_law_is_odd_prime : DefAt K mg "_law_is_odd_prime" s_law_is_odd_prime ["_law_n"]
  d_law_next_prime : DefAt K mg "_law_next_prime" s_law_next_prime ["_law_n"]
  d_law_pool : DefAt K mg "_law_pool" s_law_pool ["_law_cell_here"]
  d_law_take : DefAt K mg "_law_take" s_law_take ["_law_pool_here", "_law_limit"]
  d_side_of : DefAt K mg "side_of" s_side_of ["square"]
  d_written : DefAt K mg "written" s_written ["p", "n"]
  triv : True
section
variable {P : Program} {w : World} {K : PySem.W.Frag} {mg : Str → Option Value} {base : Heap} {Ad : Adr}
/-! ### _law_cell -/
theorem getD_at {ns : List Int} {i : Nat} (h : i < ns.length) : atI (ns.map V.int) (i : Int) = some (.int (ns.getD i 0)) := by
  refine atI_nat ?_
  rw [List.getElem?_map, List.getElem?_eq_getElem h, List.getD_eq_getElem?_getD, List.getElem?_eq_getElem h]
  rfl
theorem getD_out {ns : List Int} {i : Nat} (h : ¬ i < ns.length) : ns.getD i 0 = 0 := by
  rw [List.getD_eq_getElem?_getD, List.getElem?_eq_none (by omega)]
  rfl
def spCell (K : PySem.W.Frag) : Sp := fun vs H Q _ => ∃ (a : Addr) (ns : List Int) (i : Nat), vs = [.ref a, .int i] ∧ SqL K H a (ns.map V.int) ∧ Q (.int (ns.getD i 0)) H
theorem ok_law_cell (T : Txt K mg Ad) : Def P w K mg base 1 "_law_cell" ["_law_script", "_law_k"] (spCell K) := by
  refine T.d_law_cell.ok sc_law_cell (fun vs H Q E h => ?_) (fun f cdv A outer s H vs Q E hr h => ?_)
  · obtain ⟨a, ns, i, rfl, _⟩ := h
    rfl
  · obtain ⟨a, ns, i, rfl, hS, q⟩ := h
    refine ⟨_, (pss_cons (ps_if (pt_cmpR op_lt (pv 1) (pe_callB c_len (by rfl) T.b_len PySem.boot_len (pa_cons (pv 0) pa_nil)) (nomark _)) (pss_one (ps_ret (pe_ix ix_list (pv 0) (pv 1) (fun _ _ => rfl)))) pss_nil)
      (pss_one (ps_ret pe_int))), ?_⟩
    try dsimp only [cxOf]
    wtm_at "rs"
    wtm_at "i"
    · rename_i h
      rw [List.length_map] at h
      wtm_at "rs"
      exact rd_ixL hS (getD_at (by omega)) q
    · rename_i h
      rw [List.length_map] at h
      rw [getD_out (by omega)] at q
      wtm_at "rs"
      exact q
theorem use_cell {a : Addr} {ns : List Int} {i : Nat} {H : Hp} {Q : VK} {E : XK} {z : Int} (hS : SqL K H a (ns.map V.int)) (hz : z = (i : Int)) (q : Q (.int (ns.getD i 0)) H) : spCell K [.ref a, .int z] H Q E :=
  ⟨a, ns, i, by rw [hz], hS, q⟩
local macro_rules | `(tactic| wtm_at "s") => `(tactic| ((with_reducible refine use_cell (ns := ?ns) (i := ?i) ?h1 ?h2 ?_); (case h1 => wtm_at "q"); (case h2 => first | rfl | exact (Int.zero_add _) | exact (Int.natCast_succ _).symm)))
/-! ### _law_found -/
/-- the squares up to n and their sides -/
def sqD (n : Nat) : List (Key × V) := (List.range n).map fun i : Nat => (Sum.inl ((i : Int) * i), V.int i)
theorem sqD_val {k : Int} : ∀ {n : Nat}, valV (sqD n) (Sum.inl k) = if ∃ i : Nat, i < n ∧ (i : Int) * i = k then some (vOpt (sideO k)) else none
  | 0 => by simp [sqD, valV]
  | n + 1 => by
    have e : sqD (n + 1) = sqD n ++ [(Sum.inl ((n : Int) * n), V.int n)] := by
      unfold sqD
      rw [List.range_succ, List.map_append]
      rfl
    have ih := sqD_val (k := k) (n := n)
    by_cases h : ∃ i : Nat, i < n ∧ (i : Int) * i = k
    · rw [if_pos h] at ih
      rw [if_pos (let ⟨i, a, b⟩ := h; ⟨i, by omega, b⟩), e]
      unfold valV at ih ⊢
      rw [List.find?_append]
      cases hf : (sqD n).find? fun kv => decide (kv.1 = Sum.inl k) with
      | none => rw [hf] at ih; cases ih
      | some z => rw [hf] at ih; exact ih
    · rw [if_neg h] at ih
      rw [e, valV_snoc _ _ _ _ (by
        have : ¬ ∃ i : Nat, i < n ∧ (i : Int) * i = (n : Int) * n := fun ⟨i, a, b⟩ => by
          have := sq_inj (by omega) (by omega) b
          omega
        rw [sqD_val (n := n), if_neg this])]
      by_cases hk : k = (n : Int) * n
      · rw [if_pos (by rw [hk]), if_pos ⟨n, by omega, hk.symm⟩, hk, sideO_some (by omega) rfl]
        rfl
      · rw [if_neg (fun z => hk (Sum.inl.inj z)), ih, if_neg (fun ⟨i, a, b⟩ => by
          by_cases c : i = n
          · subst c
            exact hk b.symm
          · exact h ⟨i, by omega, b⟩)]
theorem sqD_put {n : Nat} : putK (sqD n) (Sum.inl ((n : Int) * n)) (V.int n) = sqD (n + 1) := by
  have : ¬ ∃ i : Nat, i < n ∧ (i : Int) * i = (n : Int) * n := fun ⟨i, a, b⟩ => by
    have := sq_inj (by omega) (by omega) b
    omega
  rw [putK_new _ (by rw [sqD_val, if_neg this])]
  unfold sqD
  rw [List.range_succ, List.map_append]
  rfl
theorem sqD_len {n : Nat} : (sqD n).length = n := by
  unfold sqD
  rw [List.length_map, List.length_range]
abbrev pairV (r : Int × Int) : List V := [.int r.1, .int r.2]
abbrev pairD (r : Int × Int) : PyData := .tuple [.int r.1, .int r.2]
theorem RowsAt.dps {H : Hp} {K : PySem.W.Frag} : ∀ {ts : List Addr} {rs : List (Int × Int)}, RowsAt H ts (rs.map pairV) → DpAll K H (ts.map V.ref) (rs.map pairD)
  | [], [], _ => .nil
  | _ :: _, _ :: _, h => .cons (.tup (SqT.of h.1) (.cons (.int _) (.cons (.int _) .nil))) (RowsAt.dps h.2)
  | [], _ :: _, h => h.elim
  | _ :: _, [], h => h.elim
/-- the ways, found one by one -/
def WrInv (p n y : Int) (rs : List (Int × Int)) : Prop := (∀ r ∈ rs, WrAt p n r.1 r.2 ∧ r.2 < y) ∧ (∀ u v, WrAt p n u v → v < y → (u, v) ∈ rs) ∧ rs.Pairwise fun a b => a.2 < b.2
theorem WrInv.nil {p n : Int} : WrInv p n 0 [] := ⟨fun r h => absurd h List.not_mem_nil, fun u v h z => by have := h.2.1; omega, List.Pairwise.nil⟩
theorem WrInv.put {p n y x : Int} {rs : List (Int × Int)} (h : WrInv p n y rs) (hx : WrAt p n x y) : WrInv p n (y + 1) (rs ++ [(x, y)]) := by
  obtain ⟨h1, h2, h3⟩ := h
  refine ⟨fun r hr => ?_, fun u v hu hv => ?_, List.pairwise_append.mpr ⟨h3, List.pairwise_singleton .., fun a ha b hb => ?_⟩⟩
  · rcases List.mem_append.mp hr with hr | hr
    · have := h1 r hr
      exact ⟨this.1, by omega⟩
    · rw [List.mem_singleton.mp hr]
      exact ⟨hx, by dsimp only; omega⟩
  · rcases Int.lt_or_eq_of_le (show v ≤ y by omega) with z | z
    · exact List.mem_append_left _ (h2 u v hu z)
    · subst z
      obtain ⟨a1, a2, a3⟩ := hu
      obtain ⟨b1, b2, b3⟩ := hx
      rw [sq_inj a1 b1 (by omega)]
      exact List.mem_append_right _ List.mem_cons_self
  · rw [List.mem_singleton.mp hb]
    exact (h1 a ha).2
theorem WrInv.skip {p n y : Int} {rs : List (Int × Int)} (h : WrInv p n y rs) (hx : ∀ x, ¬ WrAt p n x y) : WrInv p n (y + 1) rs := by
  obtain ⟨h1, h2, h3⟩ := h
  refine ⟨fun r hr => ?_, fun u v hu hv => ?_, h3⟩
  · have := h1 r hr
    exact ⟨this.1, by omega⟩
  · rcases Int.lt_or_eq_of_le (show v ≤ y by omega) with z | z
    · exact h2 u v hu z
    · subst z
      exact absurd hu (hx u)
/-- all ways -/
def WrAll (p n : Int) (rs : List (Int × Int)) : Prop := (∀ r, r ∈ rs ↔ WrAt p n r.1 r.2) ∧ rs.Pairwise fun a b => a.2 < b.2
theorem WrInv.all {p n y : Int} {rs : List (Int × Int)} (h : WrInv p n y rs) (hn : 1 ≤ n) (hy : 0 ≤ y) (hb : p < n * y * y) : WrAll p n rs := by
  obtain ⟨h1, h2, h3⟩ := h
  refine ⟨fun r => ⟨fun hr => (h1 r hr).1, fun hr => h2 _ _ hr ?_⟩, h3⟩
  rcases Int.lt_or_le r.2 y with z | z
  · exact z
  · exfalso
    obtain ⟨a, b, c⟩ := hr
    have := sq_nonneg r.1
    have b : n * y * y ≤ n * r.2 * r.2 := by
      rw [Int.mul_assoc, Int.mul_assoc]
      exact Int.mul_le_mul_of_nonneg_left (sq_mono hy z) (by omega)
    omega
theorem WrInv.len {p n : Int} : ∀ {y : Nat} {rs : List (Int × Int)}, WrInv p n y rs → rs.length ≤ y
  | y, rs, ⟨h1, _, h3⟩ => by
    have := nodup_le (M := y) (l := rs.map (·.2)) (List.pairwise_map.mpr (h3.imp fun h => by omega)) fun x hx => by
      obtain ⟨r, hr, rfl⟩ := List.mem_map.mp hx
      have := h1 r hr
      exact ⟨this.1.2.1, this.2⟩
    rwa [List.length_map] at this
def spFound : Sp := fun vs H Q E => ∃ p n : Int, vs = [.int p, .int n] ∧ 1 ≤ n ∧ n ≤ 60 ∧ 0 ≤ p ∧ p < 1000000 ∧ NoT H ∧ ∀ D H' ts rs, Same H H' → NoT H' → H D = none → H' D = some (.lst (ts.map V.ref)) → RowsAt H' ts (rs.map pairV) → WrAll p n rs → Q (.ref D) H'
theorem ok_law_found (T : Txt K mg Ad) : Def P w K mg base 1 "_law_found" ["_law_p", "_law_n"] spFound := by
  refine T.d_law_found.ok sc_law_found (fun vs H Q E h => ?_) (fun f cdv A outer s H vs Q E hr h => ?_)
  · obtain ⟨p, n, rfl, _⟩ := h
    rfl
  · obtain ⟨p, n, rfl, n1, n2, p0, p1, nt, q⟩ := h
    refine ⟨_, (pss_cons (ps_set (i := 2) sc_law_found.nd rfl (Or.inl rfl) (pe_lst pa_nil))
      (pss_cons (ps_set (i := 3) sc_law_found.nd rfl (Or.inl rfl) pe_dnewK)
      (pss_cons (ps_set (i := 4) sc_law_found.nd rfl (Or.inl rfl) pe_int)
      (pss_cons (ps_while (passes_of rfl) (pt_cmpR op_le (pe_op op_mulB (pv 4) (pv 4)) (pv 0) (nomark _)) (pss_cons (ps_dput (hu_of hr) (pv 3) (pe_op op_mulB (pv 4) (pv 4)) (pv 4) rfl)
      (pss_one (ps_set (i := 4) sc_law_found.nd rfl (Or.inl rfl) (pe_op op_add (pv 4) pe_int)))))
      (pss_cons (ps_set (i := 5) sc_law_found.nd rfl (Or.inl rfl) pe_int)
      (pss_cons (ps_while (passes_of rfl) (pt_cmpR op_le (pe_op op_mulB (pe_op op_mulB (pv 1) (pv 5)) (pv 5)) (pv 0) (nomark _)) (pss_cons (ps_if (pt_cmp (pc_din (hu_of hr) (pe_op op_sub (pv 0) (pe_op op_mulB (pe_op op_mulB (pv 1) (pv 5)) (pv 5))) (pv 3))) (pss_one (ps_expr (pe_bm PySem.F.plainAttrs_list PySem.F.slot_list_append PySem.F.type_list_append mt_append (pv 2) (pa_cons (pe_tup (pa_cons (pe_dget (hu_of hr) (pv 3) (pe_op op_sub (pv 0) (pe_op op_mulB (pe_op op_mulB (pv 1) (pv 5)) (pv 5))) (fun _ _ => rfl)) (pa_cons (pv 5) pa_nil))) pa_nil)))) pss_nil)
      (pss_one (ps_set (i := 5) sc_law_found.nd rfl (Or.inl rfl) (pe_op op_add (pv 5) pe_int)))))
      (pss_one (ps_ret (pv 2))))))))), ?_⟩
    try dsimp only [cxOf]
    wtm_at "rs"
    rename_i D hD
    intro S hS
    wtm_at "rs"
    have hDS : D ≠ S := by
      rintro rfl
      rw [upd_same] at hS
      cases hS
    refine rd_while (fun μ σ H' => ∃ m : Nat, μ = (p + 1 - m).toNat ∧ σ = [some (.int p), some (.int n), some (.ref D), some (.ref S), some (.int m), none] ∧ H' = upd (upd H D (.lst [])) S (.dK (sqD m)) ∧ (m : Int) ≤ p + 1 ∧ ∀ i : Nat, i < m → (i : Int) * i ≤ p) _
      ⟨0, rfl, rfl, rfl, by omega, fun i hi => absurd hi (Nat.not_lt_zero i)⟩ ?_
    rintro μ σ H' ⟨m, rfl, rfl, rfl, mp, lows⟩
    have Bm : Bd 40 (m : Int) := Bd.of (by omega) (by omega)
    wtm_at "rs"
    wtm_at "i"
    · rename_i h1
      have mp2 : (m : Int) ≤ p := nyy_le (n := 1) (by omega) (by omega) (by rw [Int.one_mul]; exact h1)
      wtm_at "rs"
      refine rd_dput1 upd_same (by rw [sqD_len]; exact Nat.lt_of_le_of_lt (m := 1000000) (by omega) (by decide)) ?_
      rw [sqD_put, upd_upd]
      wtm_at "rs"
      exact ⟨_, by omega, m + 1, rfl, rfl, rfl, by omega, fun i hi => by
        rcases Nat.lt_or_ge i m with z | z
        · exact lows i z
        · have : i = m := by omega
          rw [this]
          exact h1⟩
    · rename_i h1
      have hsq : ∀ k : Int, 0 ≤ k → k ≤ p → (valV (sqD m) (Sum.inl k)) = (sideO k).map V.int := fun k k0 k1 => by
        rw [sqD_val]
        cases hs : sideO k with
        | none =>
          rw [if_neg (fun ⟨i, a, b⟩ => sideO_no hs (by omega) b)]
          rfl
        | some r =>
          obtain ⟨r0, r1⟩ := sideO_prop hs
          rw [if_pos ⟨r.toNat, by
            rcases Int.lt_or_le r m with z | z
            · omega
            · have := sq_mono (show (0 : Int) ≤ m by omega) z
              omega, by rw [show ((r.toNat : Nat) : Int) = r by omega]; exact r1⟩]
          rfl
      wtm_at "rs"
      have hSf : H S = none := (same_new hD).free hS
      refine rd_while (fun μ σ H' => ∃ (y : Nat) (ts : List Addr) (rs : List (Int × Int)), μ = (p + 1 - y).toNat ∧ σ = [some (.int p), some (.int n), some (.ref D), some (.ref S), some (.int m), some (.int y)] ∧ H' D = some (.lst (ts.map V.ref)) ∧ H' S = some (.dK (sqD m)) ∧ RowsAt H' ts (rs.map pairV) ∧ Same H H' ∧ NoT H' ∧ (y : Int) ≤ p + 1 ∧ WrInv p n y rs) _
        ⟨0, [], [], rfl, rfl, by rw [upd_ne hDS]; exact upd_same, upd_same, trivial, same_upd2 (same_new hD) hSf, by wtm_at "nt", by omega, WrInv.nil⟩ ?_
      rintro μ σ H' ⟨y, ts, rs, rfl, rfl, hDl, hSl, hrow, sm, nt', yp, inv⟩
      have By : Bd 40 (y : Int) := Bd.of (by omega) (by omega)
      have Bn : Bd 40 n := Bd.of (by omega) (by omega)
      have hy0 : 0 ≤ n * y * y := by
        rw [Int.mul_assoc]
        exact Int.mul_nonneg (by omega) (sq_nonneg y)
      wtm_at "rs"
      wtm_at "i"
      · rename_i h2
        have yp2 : (y : Int) ≤ p := nyy_le n1 (by omega) h2
        have hv := hsq (p - n * y * y) (by omega) (by omega)
        wtm_at "rs"
        refine rd_din1 (b := (sideO (p - n * y * y)).isSome) hSl (by rw [hv]; cases sideO (p - n * y * y) <;> rfl) ?_
        wtm_at "rs"
        cases hs : sideO (p - n * y * y) with
        | none =>
          rw [Option.isSome_none]
          wtm_at "rs"
          exact ⟨_, by omega, y + 1, ts, rs, rfl, rfl, hDl, hSl, hrow, sm, nt', by omega, inv.skip fun x hx => sideO_no hs hx.1 (by have := hx.2.2; omega)⟩
        | some x =>
          obtain ⟨x0, x1⟩ := sideO_prop hs
          rw [hs] at hv
          have tlen : ts.length = rs.length := by rw [hrow.len, List.length_map]
          have rlen := inv.len
          rw [Option.isSome_some]
          wtm_at "rs"
          refine rd_dget1 hSl hv ?_
          wtm_at "rs"
          rename_i t ht
          have hDt := (same_new (o := HO.tup [.int x, .int y]) ht) _ _ hDl
          refine rd_append (xs := ts.map V.ref) hDt (by rw [List.length_map]; exact Nat.lt_of_le_of_lt (m := 1000001) (by omega) (by decide)) ?_
          wtm_at "rs"
          refine ⟨_, by omega, y + 1, ts ++ [t], rs ++ [(x, (y : Int))], rfl, rfl, by rw [upd_same, List.map_append]; rfl, ?_, ?_, ?_, by wtm_at "nt", by omega, inv.put ⟨x0, by omega, by omega⟩⟩
          · rw [upd_ne hDS.symm]
            exact (same_new ht) _ _ hSl
          · rw [List.map_append]
            exact RowsAt.other hDt (RowsAt.snoc upd_same (hrow.mono (same_new ht)))
          · exact same_upd2 (sm.trans (same_new ht)) hD
      · rename_i h2
        wtm_at "rs"
        exact q D H' ts rs sm nt' hD hDl hrow (inv.all n1 (by omega) (by omega))
theorem use_found {p n : Int} {H : Hp} {Q : VK} {E : XK} (n1 : 1 ≤ n) (n2 : n ≤ 60) (p0 : 0 ≤ p) (p1 : p < 1000000) (nt : NoT H) (q : ∀ D H' ts rs, Same H H' → NoT H' → H D = none → H' D = some (.lst (ts.map V.ref)) → RowsAt H' ts (rs.map pairV) → WrAll p n rs → Q (.ref D) H') : spFound [.int p, .int n] H Q E := ⟨p, n, rfl, n1, n2, p0, p1, nt, q⟩
/-! ### _law_is_odd_prime -/
def spOP : Sp := fun vs H Q _ => ∃ n : Int, vs = [.int n] ∧ n < 2 ^ 120 ∧ Q (.bl (decide (QR.OP n))) H
theorem ok_law_is_odd_prime (T : Txt K mg Ad) : Def P w K mg base 1 "_law_is_odd_prime" ["_law_n"] spOP := by
  refine T.d_law_is_odd_prime.ok sc_law_is_odd_prime (fun vs H Q E h => ?_) (fun f cdv A outer s H vs Q E hr h => ?_)
  · obtain ⟨n, rfl, _⟩ := h
    rfl
  · obtain ⟨n, rfl, hn, q⟩ := h
    refine ⟨_, (pss_cons (ps_if (PW.pt (pw_or (pt_cmpR op_lt (pv 0) pe_int (nomark _)) (pw_or1 (pt_cmpR op_eq (pe_op op_mod (pv 0) pe_int) pe_int (nomark _))))) (pss_one (ps_ret pe_bl)) pss_nil)
      (pss_cons (ps_set (i := 1) sc_law_is_odd_prime.nd rfl (Or.inl rfl) pe_int)
      (pss_cons (ps_while (passes_of rfl) (pt_cmpR op_le (pe_op op_mulB (pv 1) (pv 1)) (pv 0) (nomark _)) (pss_cons (ps_if (pt_cmpR op_eq (pe_op op_mod (pv 0) (pv 1)) pe_int (nomark _)) (pss_one (ps_ret pe_bl)) pss_nil)
      (pss_one (ps_set (i := 1) sc_law_is_odd_prime.nd rfl (Or.inl rfl) (pe_op op_add (pv 1) pe_int)))))
      (pss_one (ps_ret pe_bl))))), ?_⟩
    try dsimp only [cxOf]
    wtm_at "ra"
    · rw [decide_eq_false (fun z : QR.OP n => by have := z.three; omega)] at q
      exact q
    · rw [decide_eq_false (fun z : QR.OP n => by have := z.2; omega)] at q
      exact q
    · refine rd_while (fun μ σ H' => ∃ k : Int, μ = (n + 2 - k).toNat ∧ σ = [some (.int n), some (.int k)] ∧ H = H' ∧ 3 ≤ k ∧ k % 2 = 1 ∧ k < 2 ^ 61 ∧ ∀ d : Int, 3 ≤ d → d % 2 = 1 → d < k → ¬ d ∣ n) (n - 1).toNat
        ⟨3, by omega, rfl, rfl, by omega, by omega, by omega, fun d _ _ _ => by omega⟩ ?_
      rintro μ σ H' ⟨k, rfl, rfl, rfl, hk, hk2, hk3, inv⟩
      wtm_at "ra"
      · rename_i hle hz
        rw [decide_eq_false (fun z : QR.OP n => QR.not_pm (by omega) hle hz z.1)] at q
        exact q
      · rename_i hle hz
        have b := QR.sq_bound (by omega) hle hn
        have c := QR.le_sq (show 1 ≤ k by omega)
        exact ⟨_, by omega, k + 2, rfl, rfl, rfl, by omega, by omega, by omega, QR.no_dvd_step2 hk2 inv hz⟩
      · rename_i hgt
        rw [decide_eq_true (show QR.OP n from ⟨QR.pm_of_odd_trial (by omega) (by omega) (by omega) (by omega) inv, by omega⟩)] at q
        exact q
theorem use_OP {n : Int} {H : Hp} {Q : VK} {E : XK} (h : n < 2 ^ 120) (q : Q (.bl (decide (QR.OP n))) H) : spOP [.int n] H Q E := ⟨n, rfl, h, q⟩
local macro_rules | `(tactic| wtm_at "s") => `(tactic| ((with_reducible refine use_OP ?h1 ?_); (case h1 => omega)))
/-! ### _law_next_prime -/
def spNext : Sp := fun vs H Q _ => ∃ n q : Int, vs = [.int n] ∧ QR.OP q ∧ n ≤ q ∧ q < 2 ^ 100 ∧ ∀ r : Int, QR.OP r → n ≤ r → r ≤ q → Q (.int r) H
theorem ok_law_next_prime (T : Txt K mg Ad) : Def P w K mg base 2 "_law_next_prime" ["_law_n"] spNext := by
  refine T.d_law_next_prime.ok sc_law_next_prime (fun vs H Q E h => ?_) (fun f cdv A outer s H vs Q E hr h => ?_)
  · obtain ⟨n, _, rfl, _⟩ := h
    rfl
  · obtain ⟨n, q, rfl, hq, hn, hb, qo⟩ := h
    refine ⟨_, (pss_cons (ps_set (i := 1) sc_law_next_prime.nd rfl (Or.inl rfl) (pe_callB (c_max2 rfl) (by rfl) T.b_max (by decide +kernel) (pa_cons pe_int (pa_cons (pv 0) pa_nil))))
      (pss_cons (ps_while (passes_of rfl) (pt_not (pt_val (pe_d (ok_law_is_odd_prime T) (hr.mono (by decide)) (passes_call (takes_of rfl rfl rfl rfl) (fun _ _ _ _ h => h)) (pa_cons (pv 1) pa_nil)))) (pss_one (ps_set (i := 1) sc_law_next_prime.nd rfl (Or.inl rfl) (pe_op op_add (pv 1) pe_int))))
      (pss_one (ps_ret (pv 1))))), ?_⟩
    try dsimp only [cxOf]
    have q3 := hq.three
    wtm_at "rs"
    refine rd_while (fun μ σ H' => ∃ r : Int, μ = (q - r).toNat ∧ σ = [some (.int n), some (.int r)] ∧ H = H' ∧ n ≤ r ∧ r ≤ q) _
      ⟨_, rfl, rfl, rfl, by omega, by omega⟩ ?_
    rintro μ σ H' ⟨r, rfl, rfl, rfl, h1, h2⟩
    wtm_at "ra"
    · rename_i hno
      have : r ≠ q := fun z => by
        rw [z] at hno
        exact absurd hq (by simpa using hno)
      exact ⟨_, by omega, r + 1, rfl, rfl, rfl, by omega, by omega⟩
    · rename_i hyes
      exact qo r (by simpa using hyes) h1 h2
/-! ### _law_pool -/
def spPool : Sp := fun vs H Q _ => ∃ n : Int, vs = [.int n] ∧ ∀ p, H p = none → Q (.ref p) (upd H p (.lst [.int n, .int 0, .bl (decide (10 ^ 18 ≤ n))]))
theorem ok_law_pool (T : Txt K mg Ad) : Def P w K mg base 1 "_law_pool" ["_law_cell_here"] spPool := by
  refine T.d_law_pool.ok sc_law_pool (fun vs H Q E h => ?_) (fun f cdv A outer s H vs Q E hr h => ?_)
  · obtain ⟨n, rfl, _⟩ := h
    rfl
  · obtain ⟨n, rfl, q⟩ := h
    refine ⟨_, (pss_one (ps_ret (pe_lst (pa_cons (pv 0) (pa_cons pe_int (pa_cons (pe_cmpR op_ge (pv 0) (pe_op (op_powN 18) pe_int pe_int) (nomark _)) pa_nil)))))), ?_⟩
    try dsimp only [cxOf]
    wtm_at "rs"
    exact q _ (by assumption)
theorem use_pool {n : Int} {H : Hp} {Q : VK} {E : XK} (q : ∀ p, H p = none → Q (.ref p) (upd H p (.lst [.int n, .int 0, .bl (decide (10 ^ 18 ≤ n))]))) : spPool [.int n] H Q E := ⟨n, rfl, q⟩
local macro_rules | `(tactic| wtm_at "s") => `(tactic| ((with_reducible refine use_pool ?_); intro p hp))
/-! ### _law_take -/
def spTake : Sp := fun vs H Q _ => ∃ (p : Addr) (c k lim : Int) (b : Bool), vs = [.ref p, .int lim] ∧ H p = some (.lst [.int c, .int k, .bl b]) ∧ 0 < lim ∧ lim < 2 ^ 240 ∧ 0 ≤ k ∧ k ≤ 1000000 ∧
  ∀ c' r : Int, 0 ≤ r → r < lim → Q (.int r) (upd H p (.lst [.int c', .int (k + 1), .bl b]))
theorem ok_law_take (T : Txt K mg Ad) : Def P w K mg base 1 "_law_take" ["_law_pool_here", "_law_limit"] spTake := by
  refine T.d_law_take.ok sc_law_take (fun vs H Q E h => ?_) (fun f cdv A outer s H vs Q E hr h => ?_)
  · obtain ⟨p, c, k, lim, b, rfl, _⟩ := h
    rfl
  · obtain ⟨p, c, k, lim, b, rfl, hp, l0, l1, k0, k1, q⟩ := h
    refine ⟨_, (pss_cons (ps_asg (pe_op op_add (pe_ix ix_list (pv 0) pe_int (fun _ _ => rfl)) pe_int) (pg_sub (pv 0) pe_int set_list))
      (pss_cons (ps_if (pt_val (pe_ix ix_list (pv 0) pe_int (fun _ _ => rfl))) (pss_cons (ps_set (i := 2) sc_law_take.nd rfl (Or.inl rfl) (pe_op op_mod (pe_callTy c_int1 (by rfl) T.b_int (by decide +kernel) (pa_cons (pe_ix ix_list (pv 0) pe_int (fun _ _ => rfl)) pa_nil)) (pv 1)))
      (pss_cons (ps_asg (pe_op op_fdivB (pe_callTy c_int1 (by rfl) T.b_int (by decide +kernel) (pa_cons (pe_ix ix_list (pv 0) pe_int (fun _ _ => rfl)) pa_nil)) (pv 1)) (pg_sub (pv 0) pe_int set_list))
      (pss_one (ps_ret (pv 2))))) pss_nil)
      (pss_cons (ps_set (i := 3) sc_law_take.nd rfl (Or.inl rfl) (pe_op op_mod (pe_callTy c_int1 (by rfl) T.b_int (by decide +kernel) (pa_cons (pe_op op_add (pe_op op_add (pe_op op_mulB (pe_ix ix_list (pv 0) pe_int (fun _ _ => rfl)) pe_int) (pe_op op_mulB (pe_ix ix_list (pv 0) pe_int (fun _ _ => rfl)) pe_int)) pe_int) pa_nil)) pe_int))
      (pss_one (ps_ret (pe_op op_mod (pe_op op_fdivB (pe_callTy c_int1 (by rfl) T.b_int (by decide +kernel) (pa_cons (pe_op op_mod (pe_op (op_powN 5) (pv 3) pe_int) pe_int) pa_nil)) pe_int) (pv 1))))))), ?_⟩
    try dsimp only [cxOf]
    wtm_at "ra"
    · rw [upd_lst]
      exact q (c / lim) (c % lim) (Int.emod_nonneg _ (by omega)) (Int.emod_lt_of_pos _ l0)
    · exact q c _ (Int.emod_nonneg _ (by omega)) (Int.emod_lt_of_pos _ l0)
theorem use_take {p : Addr} {c k lim : Int} {b : Bool} {H : Hp} {Q : VK} {E : XK} (hp : H p = some (.lst [.int c, .int k, .bl b])) (l0 : 0 < lim) (l1 : lim < 2 ^ 240) (k0 : 0 ≤ k) (k1 : k ≤ 1000000)
    (q : ∀ c' r : Int, 0 ≤ r → r < lim → Q (.int r) (upd H p (.lst [.int c', .int (k + 1), .bl b]))) : spTake [.ref p, .int lim] H Q E := ⟨p, c, k, lim, b, rfl, hp, l0, l1, k0, k1, q⟩
local macro_rules | `(tactic| wtm_at "s") => `(tactic| ((with_reducible refine use_take (c := ?c) (k := ?k) (b := ?b) ?h1 ?h2 ?h3 ?h4 ?h5 ?_); (case h1 => wtm_at "h"); (case h2 => omega); (case h3 => omega); (case h4 => omega); (case h5 => omega); intro c' r hr0 hr1))
/-! ### side_of -/
def spSide : Sp := fun vs H Q _ => ∃ s : Int, vs = [.int s] ∧ s < 2 ^ 400 ∧ Q (vOpt (sideO s)) H
theorem side_step {lo hi m : Int} (h0 : 0 ≤ lo) (h1 : hi - lo > 1) (hm : m = (lo + hi) / 2) : lo < m ∧ m < hi := by omega
theorem ok_side_of (T : Txt K mg Ad) : Def P w K mg base 1 "side_of" ["square"] spSide := by
  refine T.d_side_of.ok sc_side_of (fun vs H Q E h => ?_) (fun f cdv A outer s H vs Q E hr h => ?_)
  · obtain ⟨s, rfl, _⟩ := h
    rfl
  · obtain ⟨s, rfl, hb, q⟩ := h
    refine ⟨_, (pss_cons (ps_set (i := 1) sc_side_of.nd rfl (Or.inl rfl) pe_int)
      (pss_cons (ps_set (i := 2) sc_side_of.nd rfl (Or.inl rfl) (pe_op op_add (pv 0) pe_int))
      (pss_cons (ps_while (passes_of rfl) (pt_cmpR op_gt (pe_op op_sub (pv 2) (pv 1)) pe_int (nomark _)) (pss_cons (ps_set (i := 3) sc_side_of.nd rfl (Or.inl rfl) (pe_op op_fdivB (pe_op op_add (pv 1) (pv 2)) pe_int))
      (pss_one (ps_if (pt_cmpR op_le (pe_op op_mulB (pv 3) (pv 3)) (pv 0) (nomark _)) (pss_one (ps_set (i := 1) sc_side_of.nd rfl (Or.inl rfl) (pv 3))) (pss_one (ps_set (i := 2) sc_side_of.nd rfl (Or.inl rfl) (pv 3)))))))
      (pss_cons (ps_if (pt_cmpR op_eq (pe_op op_mulB (pv 1) (pv 1)) (pv 0) (nomark _)) (pss_one (ps_ret (pv 1))) pss_nil)
      (pss_one (ps_ret pe_non)))))), ?_⟩
    try dsimp only [cxOf]
    wtm_at "rs"
    refine rd_while (fun μ σ H' => ∃ (lo hi : Int) (v3 : Option V), μ = (hi - lo).toNat ∧ σ = [some (.int s), some (.int lo), some (.int hi), v3] ∧ H = H' ∧ 0 ≤ lo ∧ (s < 0 ∧ lo = 0 ∧ hi ≤ 0 ∨ 0 ≤ s ∧ lo < hi ∧ hi ≤ s + 1 ∧ lo * lo ≤ s ∧ s < hi * hi)) _
      ⟨0, s + 1, _, rfl, rfl, rfl, by omega, ?_⟩ ?_
    · by_cases h : s < 0
      · exact .inl ⟨h, rfl, by omega⟩
      · have := QR.le_sq (show 1 ≤ s + 1 by omega)
        exact .inr ⟨by omega, by omega, by omega, by omega, by omega⟩
    · rintro μ σ H' ⟨lo, hi, v3, rfl, rfl, rfl, h0, inv⟩
      have Bl : Bd 400 lo := Bd.of (by omega) (by omega)
      wtm_at "rs"
      wtm_at "i"
      · rename_i h1
        rcases inv with ⟨a, b, c⟩ | ⟨a, b, c, d, e⟩
        · omega
        have Bm : Bd 401 ((lo + hi) / 2) := Bd.of (by omega) (by omega)
        obtain ⟨m0, m1⟩ := side_step h0 h1 rfl
        wtm_at "rs"
        generalize (lo + hi) / 2 = m at *
        wtm_at "i"
        · rename_i h2
          wtm_at "rs"
          exact ⟨_, by omega, m, hi, _, rfl, rfl, rfl, by omega, .inr ⟨a, m1, c, by omega, e⟩⟩
        · rename_i h2
          wtm_at "rs"
          exact ⟨_, by omega, lo, m, _, rfl, rfl, rfl, h0, .inr ⟨a, m0, by omega, d, by omega⟩⟩
      · rename_i h1
        wtm_at "rs"
        wtm_at "i"
        · rename_i h2
          rw [sideO_some h0 h2] at q
          wtm_at "rs"
          exact q
        · rename_i h2
          have : sideO s = none := sideO_none fun r hr e => by
            rcases inv with ⟨a, b, c⟩ | ⟨a, b, c, d, e2⟩
            · have := sq_nonneg r
              omega
            · have h3 : hi = lo + 1 := by omega
              subst h3
              rcases Int.lt_trichotomy r lo with z | z | z
              · have := Int.mul_self_lt_mul_self hr z
                omega
              · rw [z] at e
                exact h2 e
              · have := sq_mono (show 0 ≤ lo + 1 by omega) (show lo + 1 ≤ r by omega)
                omega
          rw [this] at q
          wtm_at "rs"
          exact q
theorem use_side {s : Int} {H : Hp} {Q : VK} {E : XK} (hb : s < 2 ^ 400) (q : Q (vOpt (sideO s)) H) : spSide [.int s] H Q E := ⟨s, rfl, hb, q⟩
/-! ### written -/
def spWritten : Sp := fun vs H Q _ => ∃ p n : Int, vs = [.int p, .int n] ∧ 1 ≤ n ∧ n < 2 ^ 60 ∧ 0 ≤ p ∧ p < 2 ^ 100 ∧ ((∀ x y, ¬ WrAt p n x y) → Q .non H) ∧
  ∀ x y D, WrAt p n x y → (∀ u v, WrAt p n u v → y ≤ v) → H D = none → Q (.ref D) (upd H D (.tup [.int x, .int y]))
theorem ok_written (T : Txt K mg Ad) : Def P w K mg base 2 "written" ["p", "n"] spWritten := by
  refine T.d_written.ok sc_written (fun vs H Q E h => ?_) (fun f cdv A outer s H vs Q E hr h => ?_)
  · obtain ⟨p, n, rfl, _⟩ := h
    rfl
  · obtain ⟨p, n, rfl, hn, hn2, hp, hp2, q1, q2⟩ := h
    refine ⟨_, (pss_cons (ps_set (i := 2) sc_written.nd rfl (Or.inl rfl) pe_int)
      (pss_cons (ps_while (passes_of rfl) (pt_cmpR op_le (pe_op op_mulB (pe_op op_mulB (pv 1) (pv 2)) (pv 2)) (pv 0) (nomark _)) (pss_cons (ps_set (i := 3) sc_written.nd rfl (Or.inl rfl) (pe_d (ok_side_of T) (hr.mono (by decide)) (passes_call (takes_of rfl rfl rfl rfl) (fun _ _ _ _ h => h)) (pa_cons (pe_op op_sub (pv 0) (pe_op op_mulB (pe_op op_mulB (pv 1) (pv 2)) (pv 2))) pa_nil)))
      (pss_cons (ps_if (pt_cmpR op_notN (pv 3) pe_non (nomark _)) (pss_one (ps_ret (pe_tup (pa_cons (pv 3) (pa_cons (pv 2) pa_nil))))) pss_nil)
      (pss_one (ps_aug (i := 2) sc_written.nd rfl (Or.inl rfl) pe_int ip_add)))))
      (pss_one (ps_ret pe_non)))), ?_⟩
    try dsimp only [cxOf]
    have Bn : Bd 60 n := Bd.of (by omega) (by omega)
    wtm_at "rs"
    refine rd_while (fun μ σ H' => ∃ (y : Int) (v3 : Option V), μ = (p + 1 - y).toNat ∧ σ = [some (.int p), some (.int n), some (.int y), v3] ∧ H = H' ∧ 0 ≤ y ∧ y ≤ p + 1 ∧ ∀ u v, WrAt p n u v → y ≤ v) _
      ⟨0, _, rfl, rfl, rfl, by omega, by omega, fun u v h => h.2.1⟩ ?_
    rintro μ σ H' ⟨y, v3, rfl, rfl, rfl, y0, y1, inv⟩
    have By : Bd 110 y := Bd.of (by omega) (by omega)
    wtm_at "rs"
    wtm_at "i"
    · rename_i h1
      have yp := nyy_le hn y0 h1
      have hy2 : 0 ≤ n * y * y := by
        rw [Int.mul_assoc]
        exact Int.mul_nonneg (by omega) (sq_nonneg y)
      wtm_at "rs"
      refine use_side (by omega) ?_
      cases hs : sideO (p - n * y * y) with
      | none =>
        rw [vOpt_none]
        wtm_at "rs"
        refine ⟨_, by omega, y + 1, _, rfl, rfl, rfl, by omega, by omega, fun u v h => ?_⟩
        have a := inv u v h
        rcases Int.lt_or_eq_of_le a with z | z
        · omega
        · exfalso
          obtain ⟨h1, h2, h3⟩ := h
          subst z
          exact sideO_no hs h1 (by omega)
      | some x =>
        rw [vOpt_some]
        obtain ⟨x0, x1⟩ := sideO_prop hs
        wtm_at "rs"
        exact q2 x y _ ⟨x0, y0, by omega⟩ inv (by assumption)
    · rename_i h1
      wtm_at "rs"
      refine q1 fun x v h => ?_
      have a := inv x v h
      obtain ⟨h2, h3, h4⟩ := h
      have := sq_nonneg x
      have b : n * y * y ≤ n * v * v := by
        rw [Int.mul_assoc, Int.mul_assoc]
        exact Int.mul_le_mul_of_nonneg_left (sq_mono y0 a) (by omega)
      omega
theorem use_written {p n : Int} {H : Hp} {Q : VK} {E : XK} (hn : 1 ≤ n) (hn2 : n < 2 ^ 60) (hp : 0 ≤ p) (hp2 : p < 2 ^ 100) (q1 : (∀ x y, ¬ WrAt p n x y) → Q .non H) (q2 : ∀ x y D, WrAt p n x y → (∀ u v, WrAt p n u v → y ≤ v) → H D = none → Q (.ref D) (upd H D (.tup [.int x, .int y]))) : spWritten [.int p, .int n] H Q E :=
  ⟨p, n, rfl, hn, hn2, hp, hp2, q1, q2⟩
/-! ### law -/
theorem op_999983 : QR.OP (999983 : Int) := QR.op_by (n := 999983) 1000 (by decide) (by decide) (by decide) (by decide +kernel)
theorem all_len {p n : Int} {rs : List (Int × Int)} (hp : QR.Pm p) (hn : 1 ≤ n) (h : WrAll p n rs) : (rs.length : Int) ≤ 1 + (if n = 1 then 1 else 0) := by
  obtain ⟨h1, h2⟩ := h
  match rs, h1, h2 with
  | [], _, _ => split <;> simp
  | [_], _, _ => split <;> simp
  | [a, b], h1, h2 =>
    have ha := (h1 a).mp List.mem_cons_self
    have hb := (h1 b).mp (List.mem_cons_of_mem _ List.mem_cons_self)
    have lt := (List.pairwise_cons.mp h2).1 b List.mem_cons_self
    rcases QR.wr_unique hp hn ha hb with ⟨_, e⟩ | ⟨e, _⟩
    · omega
    · rw [if_pos e]
      simp
  | a :: b :: c :: r, h1, h2 =>
    exfalso
    have ha := (h1 a).mp List.mem_cons_self
    have hb := (h1 b).mp (List.mem_cons_of_mem _ List.mem_cons_self)
    have hc := (h1 c).mp (List.mem_cons_of_mem _ (List.mem_cons_of_mem _ List.mem_cons_self))
    obtain ⟨p1, p2⟩ := List.pairwise_cons.mp h2
    have l1 := p1 b List.mem_cons_self
    have l2 := p1 c (List.mem_cons_of_mem _ List.mem_cons_self)
    have l3 := (List.pairwise_cons.mp p2).1 c List.mem_cons_self
    rcases QR.wr_unique hp hn ha hb with ⟨_, e⟩ | ⟨_, e1, e2⟩
    · omega
    · rcases QR.wr_unique hp hn ha hc with ⟨_, e⟩ | ⟨_, e3, e4⟩ <;> omega
theorem no_31 (x y : Int) : ¬ WrAt 3 1 x y := fun ⟨h1, h2, h3⟩ => by
  have a : x ≤ 1 := by
    rcases Int.lt_or_le 1 x with z | z
    · have := sq_mono (show (0 : Int) ≤ 2 by decide) (show 2 ≤ x by omega)
      have := sq_nonneg y
      rw [Int.one_mul] at h3
      omega
    · exact z
  have b : y ≤ 1 := by
    rcases Int.lt_or_le 1 y with z | z
    · have := sq_mono (show (0 : Int) ≤ 2 by decide) (show 2 ≤ y by omega)
      have := sq_nonneg x
      rw [Int.one_mul] at h3
      omega
    · exact z
  have : x = 0 ∨ x = 1 := by omega
  have : y = 0 ∨ y = 1 := by omega
  rcases ‹x = 0 ∨ x = 1› with rfl | rfl <;> rcases ‹y = 0 ∨ y = 1› with rfl | rfl <;> omega
theorem eqv00 : PyData.eqv (.list []) (.list []) = true := rfl
theorem pm_three : QR.Pm 3 := (QR.op_by (n := 3) 2 (by decide) (by decide) (by decide) (by decide)).1
theorem pm_five : QR.Pm 5 := (QR.op_by (n := 5) 3 (by decide) (by decide) (by decide) (by decide)).1
theorem okD_ls {ds : List PyData} (h : okDs ds 59 = true) : okD (.list ds) 60 = true := by simp [okD, h]
theorem okDs_pairs : ∀ {rs : List (Int × Int)}, okDs (rs.map pairD) 59 = true
  | [] => rfl
  | _ :: rs => by
    rw [List.map_cons, okDs, okDs_pairs (rs := rs)]
    rfl
theorem pairD_mem {rs : List (Int × Int)} {x y : Int} : PyData.tuple [.int x, .int y] ∈ rs.map pairD ↔ (x, y) ∈ rs := by
  rw [List.mem_map]
  constructor
  · rintro ⟨r, hr, e⟩
    simp only [pairD, PyData.tuple.injEq, List.cons.injEq, PyData.int.injEq, and_true] at e
    obtain ⟨rfl, rfl⟩ := e
    exact hr
  · intro h
    exact ⟨_, h, rfl⟩
theorem ok_law {f : Addr} {fd : FuncData} (F : Fun K "law" "law" s_law f fd) (T : Txt K mg Ad) : FnOk P w K mg base (L2.CX P w) 3 f fd ["_law_script"] (spLaw K) := by
  refine F.okX sc_law (fun vs H Q E h => ?_) (fun cdv A outer s H vs Q E hr h => ?_)
  · obtain ⟨a, ns, rfl, _⟩ := h
    rfl
  · obtain ⟨a, ns, rfl, hS, hlen, nt, k⟩ := h
    refine ⟨_, (pss_cons (ps_for (passes_of rfl) rfl (pi_range1 (by rfl) T.b_range (pa_cons (pe_callB (c_max2 rfl) (by rfl) T.b_max (by decide +kernel) (pa_cons pe_int (pa_cons (pe_callB (c_min2 rfl) (by rfl) T.b_min (by decide +kernel) (pa_cons (pe_callB c_len (by rfl) T.b_len PySem.boot_len (pa_cons (pv 0) pa_nil)) (pa_cons pe_int pa_nil))) pa_nil))) pa_nil)) (pg_name (i := 1) sc_law.nd rfl (Or.inl rfl)) (pss_cons (ps_set (i := 2) sc_law.nd rfl (Or.inl rfl) (pe_d (ok_law_pool T) (hr.mono (by decide)) (passes_call (takes_of rfl rfl rfl rfl) (fun _ _ _ _ h => h)) (pa_cons (pe_d (ok_law_cell T) (hr.mono (by decide)) (passes_call (takes_of rfl rfl rfl rfl) (fun _ _ _ _ h => h)) (pa_cons (pv 0) (pa_cons (pv 1) pa_nil))) pa_nil)))
      (pss_cons (ps_set (i := 3) sc_law.nd rfl (Or.inl rfl) (pe_op op_add pe_int (pe_d (ok_law_take T) (hr.mono (by decide)) (passes_call (takes_of rfl rfl rfl rfl) (fun _ _ _ _ h => h)) (pa_cons (pv 2) (pa_cons pe_int pa_nil)))))
      (pss_cons (ps_set (i := 4) sc_law.nd rfl (Or.inl rfl) (pe_d (ok_law_next_prime T) (hr.mono (by decide)) (passes_call (takes_of rfl rfl rfl rfl) (fun _ _ _ _ h => h)) (pa_cons (pe_op op_add pe_int (pe_d (ok_law_take T) (hr.mono (by decide)) (passes_call (takes_of rfl rfl rfl rfl) (fun _ _ _ _ h => h)) (pa_cons (pv 2) (pa_cons pe_int pa_nil)))) pa_nil)))
      (C8.pss_cut (ps_if (pt_cmpR op_eq (pe_d (ok_law_take T) (hr.mono (by decide)) (passes_call (takes_of rfl rfl rfl rfl) (fun _ _ _ _ h => h)) (pa_cons (pv 2) (pa_cons pe_int pa_nil))) pe_int (nomark _)) (pss_one (ps_set (i := 4) sc_law.nd rfl (Or.inl rfl) (pe_d (ok_law_next_prime T) (hr.mono (by decide)) (passes_call (takes_of rfl rfl rfl rfl) (fun _ _ _ _ h => h)) (pa_cons (pe_op op_add pe_int (pe_d (ok_law_take T) (hr.mono (by decide)) (passes_call (takes_of rfl rfl rfl rfl) (fun _ _ _ _ h => h)) (pa_cons (pv 2) (pa_cons pe_int pa_nil)))) pa_nil)))) pss_nil)
      (C8.pss_cut (ps_if (pt_cmpR op_eq (pe_d (ok_law_take T) (hr.mono (by decide)) (passes_call (takes_of rfl rfl rfl rfl) (fun _ _ _ _ h => h)) (pa_cons (pv 2) (pa_cons pe_int pa_nil))) pe_int (nomark _)) (pss_cons (ps_set (i := 5) sc_law.nd rfl (Or.inl rfl) (pe_op op_add pe_int (pe_d (ok_law_take T) (hr.mono (by decide)) (passes_call (takes_of rfl rfl rfl rfl) (fun _ _ _ _ h => h)) (pa_cons (pv 2) (pa_cons pe_int pa_nil)))))
      (pss_cons (ps_set (i := 6) sc_law.nd rfl (Or.inl rfl) (pe_op op_add pe_int (pe_d (ok_law_take T) (hr.mono (by decide)) (passes_call (takes_of rfl rfl rfl rfl) (fun _ _ _ _ h => h)) (pa_cons (pv 2) (pa_cons pe_int pa_nil)))))
      (pss_one (ps_if (pt_val (pe_d (ok_law_is_odd_prime T) (hr.mono (by decide)) (passes_call (takes_of rfl rfl rfl rfl) (fun _ _ _ _ h => h)) (pa_cons (pe_op op_add (pe_op op_mulB (pv 6) (pv 6)) (pe_op op_mulB (pe_op op_mulB (pv 3) (pv 5)) (pv 5))) pa_nil))) (pss_one (ps_set (i := 4) sc_law.nd rfl (Or.inl rfl) (pe_op op_add (pe_op op_mulB (pv 6) (pv 6)) (pe_op op_mulB (pe_op op_mulB (pv 3) (pv 5)) (pv 5))))) pss_nil)))) pss_nil)
      (pss_cons (ps_set (i := 7) sc_law.nd rfl (Or.inl rfl) (pe_d (ok_law_found T) (hr.mono (by decide)) (passes_call (takes_of rfl rfl rfl rfl) (fun _ _ _ _ h => h)) (pa_cons (pv 4) (pa_cons (pv 3) pa_nil))))
      (pss_cons (ps_set (i := 8) sc_law.nd rfl (Or.inl rfl) (pe_d (ok_written T) (hr.mono (by decide)) (passes_call (takes_of rfl rfl rfl rfl) (fun _ _ _ _ h => h)) (pa_cons (pv 4) (pa_cons (pv 3) pa_nil))))
      (pss_cons (ps_if (PW.pt (pw_and (pt_cmpR (op_eqD hr.units) (pv 7) (pe_lst pa_nil) (nomark _)) (pw_and1 (pt_cmpR op_notN (pv 8) pe_non (nomark _))))) (pss_one (ps_ret pe_bl)) pss_nil)
      (pss_one (ps_if (pt_cmpR (op_neD hr.units) (pv 7) (pe_lst pa_nil) (nomark _)) (pss_cons (ps_if (PW.pt (pw_or (pt_not (pt_val (pe_callB call_isi (by rfl) T.b_isinstance (by decide +kernel) (pa_cons (pv 8) (pa_cons (pe_bltn (v := .ty "tuple") (by rfl) T.b_tuple (by decide +kernel) rfl) pa_nil))))) (pw_or (pt_cmpR (op_notInD (room65 hr)) (pv 8) (pv 7) (by rfl)) (pw_or1 (pt_cmpR op_gt (pe_callB c_len (by rfl) T.b_len PySem.boot_len (pa_cons (pv 7) pa_nil)) (pe_op op_add pe_int (pe_callTy c_int1 (by rfl) T.b_int (by decide +kernel) (pa_cons (pe_cmpR op_eq (pv 3) pe_int (nomark _)) pa_nil))) (nomark _)))))) (pss_one (ps_ret pe_bl)) pss_nil)
      (pss_one (ps_if (PW.pt (pw_and (pt_cmpR op_eq (pv 3) pe_int (nomark _)) (pw_and1 (pt_cmpR op_lt (pe_ix ix_tup (pv 8) pe_int (fun _ _ => rfl)) (pe_ix ix_tup (pv 8) pe_int (fun _ _ => rfl)) (nomark _))))) (pss_one (ps_ret pe_bl)) pss_nil))) pss_nil)))))))))))
      (pss_one (ps_ret (pe_and (pe_cmpR (op_eqD hr.units) (pe_d (ok_written T) (hr.mono (by decide)) (passes_call (takes_of rfl rfl rfl rfl) (fun _ _ _ _ h => h)) (pa_cons pe_int (pa_cons pe_int pa_nil))) (pe_tup (pa_cons pe_int (pa_cons pe_int pa_nil))) (nomark _)) (pe_and (pe_cmpR op_isN (pe_d (ok_written T) (hr.mono (by decide)) (passes_call (takes_of rfl rfl rfl rfl) (fun _ _ _ _ h => h)) (pa_cons pe_int (pa_cons pe_int pa_nil))) pe_non (nomark _)) (pe_one (pe_cmpR (op_eqD hr.units) (pe_d (ok_written T) (hr.mono (by decide)) (passes_call (takes_of rfl rfl rfl rfl) (fun _ _ _ _ h => h)) (pa_cons pe_int (pa_cons pe_int pa_nil))) (pe_tup (pa_cons pe_int (pa_cons pe_int pa_nil))) (nomark _)))))))), ?_⟩
    try dsimp only [cxOf]
    wtm_at "rs"
    have hlt : ns.length = (ns.map V.int).length := (List.length_map ..).symm
    refine rd_forR (fun i σ H' => ∃ (v1 v2 v3 v4 v5 v6 v7 v8 : Option V), σ = [some (.ref a), v1, v2, v3, v4, v5, v6, v7, v8] ∧ Same H H' ∧ NoT H') ⟨_, _, _, _, _, _, _, _, rfl, Same.refl _, nt⟩ ?_ ?_
    · rintro i σ H1 hi ⟨v1, v2, v3, v4, v5, v6, v7, v8, rfl, sm, nt1⟩
      have hS1 := sm.seq hS
      wtm_at "rs"
      rename_i pz hpz c1 n0 n00 n01 c2 r2 r20 r21
      generalize hn : 1 + n0 = n at *
      have n1 : 1 ≤ n := by omega
      have n2 : n ≤ 60 := by omega
      clear hn n00 n01
      have hop : QR.OP (7919 : Int) := QR.op_by (n := 7919) 90 (by decide) (by decide) (by decide) (by decide +kernel)
      refine ⟨_, 7919, rfl, hop, by omega, by decide, fun p hp h1 h2 => ?_⟩
      wtm_at "rs"
      refine rd_cut (fun σ2 H2 => ∃ (p c k : Int) (b : Bool), σ2 = [some (.ref a), some (.int (0 + i)), some (.ref pz), some (.int n), some (.int p), v5, v6, v7, v8] ∧ Same H H2 ∧ NoT H2 ∧ H2 pz = some (.lst [.int c, .int k, .bl b]) ∧ 0 ≤ k ∧ k ≤ 10 ∧ QR.OP p ∧ p < 1000000) ?_ ?_
      · wtm_at "rs"
        wtm_at "i"
        · wtm_at "rs"
          refine ⟨_, 999983, rfl, op_999983, by omega, by decide, fun p hp h1 h2 => ?_⟩
          wtm_at "rs"
          exact ⟨p, _, _, _, rfl, by wtm_at "sm", by wtm_at "nt", upd_same, by omega, by omega, hp, by omega⟩
        · wtm_at "rs"
          exact ⟨p, _, _, _, rfl, by wtm_at "sm", by wtm_at "nt", upd_same, by omega, by omega, hp, by omega⟩
      have hpz3 : H pz = none := sm.free hpz
      clear sm nt1 hS1
      rintro σ2 H2 ⟨p, c, k, b, rfl, sm, nt1, hpz2, k0, k1, hp, hp9⟩
      refine rd_cut (fun σ2 H2 => ∃ (p : Int) (v5 v6 : Option V), σ2 = [some (.ref a), some (.int (0 + i)), some (.ref pz), some (.int n), some (.int p), v5, v6, v7, v8] ∧ Same H H2 ∧ NoT H2 ∧ QR.OP p ∧ p < 1000000) ?_ ?_
      · wtm_at "rs"
        wtm_at "i"
        · wtm_at "rs"
          rename_i c3 x3 x30 x31 hx1 c4 y4 y40 y41 c5 z5 z50 z51
          have s1 : (1 + z5) * (1 + z5) ≤ 40 * 40 := Int.mul_le_mul (by omega) (by omega) (by omega) (by omega)
          have s2 : n * (1 + y4) ≤ 60 * 5 := Int.mul_le_mul (by omega) (by omega) (by omega) (by omega)
          have s3 : n * (1 + y4) * (1 + y4) ≤ 60 * 5 * 5 := Int.mul_le_mul (by omega) (by omega) (by omega) (by omega)
          wtm_at "rs"
          wtm_at "i"
          · rename_i ho
            wtm_at "rs"
            exact ⟨_, _, _, rfl, by wtm_at "sm", by wtm_at "nt", ho, by omega⟩
          · wtm_at "rs"
            exact ⟨p, _, _, rfl, by wtm_at "sm", by wtm_at "nt", hp, hp9⟩
        · wtm_at "rs"
          exact ⟨p, _, _, rfl, by wtm_at "sm", by wtm_at "nt", hp, hp9⟩
      clear hp hp9 sm nt1
      rintro σ3 H3 ⟨p, v5, v6, rfl, sm, nt3, hp, hp9⟩
      have p3 := hp.three
      wtm_at "rs"
      refine use_found n1 n2 (by omega) hp9 nt3 fun D H4 ts rs sm4 nt4 hD hDl hrow hall => ?_
      have hlen2 := all_len hp.1 n1 hall
      have tlen : ts.length = rs.length := by rw [hrow.len, List.length_map]
      replace sm := sm.trans sm4
      wtm_at "rs"
      refine use_written n1 (by omega) (by omega) (by omega) (fun hno => ?_) (fun x y W hxy hmin hW => ?_)
      · have hrs : rs = [] := by
          cases rs with
          | nil => rfl
          | cons r rs => exact absurd ((hall.1 r).mp List.mem_cons_self) (hno _ _)
        subst hrs
        obtain rfl : ts = [] := List.eq_nil_of_length_eq_zero tlen
        replace hDl : H4 D = some (.lst []) := hDl
        wtm_at "rs"
        rw [eqv00]
        wtm_at "rs"
        rw [eqv00]
        wtm_at "rs"
        exact ⟨_, _, _, _, _, _, _, _, rfl, by wtm_at "sm", by wtm_at "nt"⟩
      · have hin : (x, y) ∈ rs := (hall.1 (x, y)).mpr hxy
        have hne : ¬ rs = [] := fun z => by rw [z] at hin; cases hin
        wtm_at "rs"
        rename_i e0 he0
        have hrW := hrow.mono (same_new (o := HO.tup [.int x, .int y]) hW)
        have hDW := (same_new (o := HO.tup [.int x, .int y]) hW) _ _ hDl
        have hWW : upd H4 W (.tup [.int x, .int y]) W = some (.tup [.int x, .int y]) := upd_same
        have smW := sm.trans (same_new (o := HO.tup [.int x, .int y]) hW)
        have ntW : NoT (upd H4 W (.tup [.int x, .int y])) := NoT.upd nt4 rfl
        generalize upd H4 W (.tup [.int x, .int y]) = H5 at *
        have hne2 : ¬ (rs.map pairD = []) := fun z => hne (List.map_eq_nil_iff.mp z)
        have dl := fun {H' : Hp} (s : Same H5 H') => Dp.lst (K := K) (SqL.of (s _ _ hDW)) (RowsAt.dps (hrW.mono s))
        refine rd_eqP (p := rs = []) (dl (same_new he0)) (.lst (SqL.of upd_same) .nil) (okD_ls okDs_pairs) rfl (by simp) ?_
        wtm_at "rs"
        rename_i e1 he1
        refine rd_neP (p := rs = []) (dl ((same_new he0).trans (same_new he1))) (.lst (SqL.of upd_same) .nil) (okD_ls okDs_pairs) rfl (by simp) ?_
        have smX := (same_new (o := HO.lst []) he0).trans (same_new (o := HO.lst []) he1)
        have ntX : NoT (upd (upd H5 e0 (.lst [])) e1 (.lst [])) := by wtm_at "nt"
        generalize upd (upd H5 e0 (.lst [])) e1 (.lst []) = H6 at *
        have hW6 := smX _ _ hWW
        have hD6 := smX _ _ hDW
        wtm_at "rs"
        refine rd_notInDp (d := .tuple [.int x, .int y]) (ds := rs.map pairD) (p := (x, y) ∈ rs) (.tup (SqT.of hW6) (.cons (.int _) (.cons (.int _) .nil))) (dl smX) rfl okDs_pairs pairD_mem ?_
        wtm_at "rs"
        rw [List.length_map, tlen]
        have hsw : n = 1 → y ≤ x := fun e => by
          subst e
          have := hmin y x ⟨hxy.2.1, hxy.1, by have := hxy.2.2; rw [Int.one_mul] at this ⊢; omega⟩
          exact this
        refine rd_ite (fun hgt => absurd hgt ?_) (fun _ => ?_)
        · by_cases e : n = 1
          · rw [if_pos e] at hlen2
            simp only [e, decide_true, if_true]
            omega
          · rw [if_neg e] at hlen2
            simp only [e, decide_false, Bool.false_eq_true, if_false]
            omega
        · wtm_at "ra"
          · rename_i e lt
            have := hsw e
            omega
          · exact ⟨_, _, _, _, _, _, _, _, rfl, smW.trans smX, ntX⟩
          · exact ⟨_, _, _, _, _, _, _, _, rfl, smW.trans smX, ntX⟩
    · rintro σ H' ⟨v1, v2, v3, v4, v5, v6, v7, v8, rfl, sm, nt'⟩
      wtm_at "rs"
      refine use_written (by decide) (by decide) (by decide) (by decide) (fun hno => absurd (show WrAt 3 2 1 1 from ⟨by decide, by decide, by decide⟩) (hno 1 1)) (fun x y W hxy hmin hW => ?_)
      have e1 : x = 1 ∧ y = 1 := (QR.wr_unique pm_three (by decide) hxy (show WrAt 3 2 1 1 from ⟨by decide, by decide, by decide⟩)).elim id fun z => absurd z.1 (by decide)
      obtain ⟨rfl, rfl⟩ := e1
      wtm_at "rs"
      rw [show PyData.eqv (.tuple [.int 1, .int 1]) (.tuple [.int 1, .int 1]) = true by decide]
      wtm_at "rs"
      refine use_written (by decide) (by decide) (by decide) (by decide) (fun hno => ?_) (fun x y W2 hxy hmin hW => absurd hxy (no_31 x y))
      wtm_at "rs"
      refine use_written (by decide) (by decide) (by decide) (by decide) (fun hno => absurd (show WrAt 5 5 0 1 from ⟨by decide, by decide, by decide⟩) (hno 0 1)) (fun x y W3 hxy hmin hW3 => ?_)
      have e2 : x = 0 ∧ y = 1 := (QR.wr_unique pm_five (by decide) hxy (show WrAt 5 5 0 1 from ⟨by decide, by decide, by decide⟩)).elim id fun z => absurd z.1 (by decide)
      obtain ⟨rfl, rfl⟩ := e2
      wtm_at "rs"
      rw [show PyData.eqv (.tuple [.int 0, .int 1]) (.tuple [.int 0, .int 1]) = true by decide]
      exact k _
end
/-! ## what the top has left, and the end -/
theorem all_mk {P : Program} {w : World} {K : PySem.W.Frag} {h : Heap} {mg : Str → Option Value} {fa : Addr} (X : K.In h) (G : h.Ns mainGlobals mg) (hfa : mg "law" = some (.ref fa))
    {f0 : Addr} {od0 an0 : Option Addr} {sl0 : Array (Option Value)} {oc0 kV0 dc0 pm0 cd0 ct0 : Value}
    {f1 : Addr} {od1 an1 : Option Addr} {sl1 : Array (Option Value)} {oc1 kV1 dc1 pm1 cd1 ct1 : Value}
    {f2 : Addr} {od2 an2 : Option Addr} {sl2 : Array (Option Value)} {oc2 kV2 dc2 pm2 cd2 ct2 : Value}
    {f3 : Addr} {od3 an3 : Option Addr} {sl3 : Array (Option Value)} {oc3 kV3 dc3 pm3 cd3 ct3 : Value}
    {f4 : Addr} {od4 an4 : Option Addr} {sl4 : Array (Option Value)} {oc4 kV4 dc4 pm4 cd4 ct4 : Value}
    {f5 : Addr} {od5 an5 : Option Addr} {sl5 : Array (Option Value)} {oc5 kV5 dc5 pm5 cd5 ct5 : Value}
    {f6 : Addr} {od6 an6 : Option Addr} {sl6 : Array (Option Value)} {oc6 kV6 dc6 pm6 cd6 ct6 : Value}
    {f7 : Addr} {od7 an7 : Option Addr} {sl7 : Array (Option Value)} {oc7 kV7 dc7 pm7 cd7 ct7 : Value}
    {f8 : Addr} {od8 an8 : Option Addr} {sl8 : Array (Option Value)} {oc8 kV8 dc8 pm8 cd8 ct8 : Value}
    (z_int : PySem.W.nsIn K mainGlobals "int" = some none)
    (z_isinstance : PySem.W.nsIn K mainGlobals "isinstance" = some none)
    (z_len : PySem.W.nsIn K mainGlobals "len" = some none)
    (z_max : PySem.W.nsIn K mainGlobals "max" = some none)
    (z_min : PySem.W.nsIn K mainGlobals "min" = some none)
    (z_range : PySem.W.nsIn K mainGlobals "range" = some none)
    (z_tuple : PySem.W.nsIn K mainGlobals "tuple" = some none)
    (a0 : PySem.W.nsIn K mainGlobals "_law_cell" = some (some (.ref f0)))
    (l0 : K.lookup f0 = some ⟨oc0, od0, .func (PySem.W.fnOf "_law_cell" "_law_cell" (defArgs s_law_cell) (defBody s_law_cell) (defScope s_law_cell) .none kV0 dc0 pm0 an0 cd0 ct0), sl0⟩)
    (c0 : PySem.W.codeIn K cd0 "_law_cell" = true)
    (k0 : PySem.W.keepIn K (.ref f0) = true)
    (a1 : PySem.W.nsIn K mainGlobals "_law_found" = some (some (.ref f1)))
    (l1 : K.lookup f1 = some ⟨oc1, od1, .func (PySem.W.fnOf "_law_found" "_law_found" (defArgs s_law_found) (defBody s_law_found) (defScope s_law_found) .none kV1 dc1 pm1 an1 cd1 ct1), sl1⟩)
    (c1 : PySem.W.codeIn K cd1 "_law_found" = true)
    (k1 : PySem.W.keepIn K (.ref f1) = true)
    (a2 : PySem.W.nsIn K mainGlobals "_law_is_odd_prime" = some (some (.ref f2)))
    (l2 : K.lookup f2 = some ⟨oc2, od2, .func (PySem.W.fnOf "_law_is_odd_prime" "_law_is_odd_prime" (defArgs s_law_is_odd_prime) (defBody s_law_is_odd_prime) (defScope s_law_is_odd_prime) .none kV2 dc2 pm2 an2 cd2 ct2), sl2⟩)
    (c2 : PySem.W.codeIn K cd2 "_law_is_odd_prime" = true)
    (k2 : PySem.W.keepIn K (.ref f2) = true)
    (a3 : PySem.W.nsIn K mainGlobals "_law_next_prime" = some (some (.ref f3)))
    (l3 : K.lookup f3 = some ⟨oc3, od3, .func (PySem.W.fnOf "_law_next_prime" "_law_next_prime" (defArgs s_law_next_prime) (defBody s_law_next_prime) (defScope s_law_next_prime) .none kV3 dc3 pm3 an3 cd3 ct3), sl3⟩)
    (c3 : PySem.W.codeIn K cd3 "_law_next_prime" = true)
    (k3 : PySem.W.keepIn K (.ref f3) = true)
    (a4 : PySem.W.nsIn K mainGlobals "_law_pool" = some (some (.ref f4)))
    (l4 : K.lookup f4 = some ⟨oc4, od4, .func (PySem.W.fnOf "_law_pool" "_law_pool" (defArgs s_law_pool) (defBody s_law_pool) (defScope s_law_pool) .none kV4 dc4 pm4 an4 cd4 ct4), sl4⟩)
    (c4 : PySem.W.codeIn K cd4 "_law_pool" = true)
    (k4 : PySem.W.keepIn K (.ref f4) = true)
    (a5 : PySem.W.nsIn K mainGlobals "_law_take" = some (some (.ref f5)))
    (l5 : K.lookup f5 = some ⟨oc5, od5, .func (PySem.W.fnOf "_law_take" "_law_take" (defArgs s_law_take) (defBody s_law_take) (defScope s_law_take) .none kV5 dc5 pm5 an5 cd5 ct5), sl5⟩)
    (c5 : PySem.W.codeIn K cd5 "_law_take" = true)
    (k5 : PySem.W.keepIn K (.ref f5) = true)
    (a6 : PySem.W.nsIn K mainGlobals "side_of" = some (some (.ref f6)))
    (l6 : K.lookup f6 = some ⟨oc6, od6, .func (PySem.W.fnOf "side_of" "side_of" (defArgs s_side_of) (defBody s_side_of) (defScope s_side_of) .none kV6 dc6 pm6 an6 cd6 ct6), sl6⟩)
    (c6 : PySem.W.codeIn K cd6 "side_of" = true)
    (k6 : PySem.W.keepIn K (.ref f6) = true)
    (a7 : PySem.W.nsIn K mainGlobals "written" = some (some (.ref f7)))
    (l7 : K.lookup f7 = some ⟨oc7, od7, .func (PySem.W.fnOf "written" "written" (defArgs s_written) (defBody s_written) (defScope s_written) .none kV7 dc7 pm7 an7 cd7 ct7), sl7⟩)
    (c7 : PySem.W.codeIn K cd7 "written" = true)
    (k7 : PySem.W.keepIn K (.ref f7) = true)
    (a8 : PySem.W.nsIn K mainGlobals "law" = some (some (.ref f8)))
    (l8 : K.lookup f8 = some ⟨oc8, od8, .func (PySem.W.fnOf "law" "law" (defArgs s_law) (defBody s_law) (defScope s_law) .none kV8 dc8 pm8 an8 cd8 ct8), sl8⟩)
    (c8 : PySem.W.codeIn K cd8 "law" = true)
    (k8 : PySem.W.keepIn K (.ref f8) = true) :
    ∃ fd : FuncData, (∀ (s : Shared) (v : Value), BindsTo s fd ⟨[v], []⟩ [("_law_script", v)]) ∧ ∀ base : Heap, K.In base → base.Ns mainGlobals mg → FnOk P w K mg base (L2.CX P w) 3 fa fd ["_law_script"] (spLaw K) := by
  have e := hfa.symm.trans (PySem.W.mg_of X G a8)
  cases e
  have F0 := fun_mk (st := s_law_cell) l0 c0 k0
  have b0 := F0.binds (ps := ["_law_script", "_law_k"]) fun _ _ _ _ _ _ us hl => match us, hl with | [_, _], _ => rfl
  have F1 := fun_mk (st := s_law_found) l1 c1 k1
  have b1 := F1.binds (ps := ["_law_p", "_law_n"]) fun _ _ _ _ _ _ us hl => match us, hl with | [_, _], _ => rfl
  have F2 := fun_mk (st := s_law_is_odd_prime) l2 c2 k2
  have b2 := F2.binds (ps := ["_law_n"]) fun _ _ _ _ _ _ us hl => match us, hl with | [_], _ => rfl
  have F3 := fun_mk (st := s_law_next_prime) l3 c3 k3
  have b3 := F3.binds (ps := ["_law_n"]) fun _ _ _ _ _ _ us hl => match us, hl with | [_], _ => rfl
  have F4 := fun_mk (st := s_law_pool) l4 c4 k4
  have b4 := F4.binds (ps := ["_law_cell_here"]) fun _ _ _ _ _ _ us hl => match us, hl with | [_], _ => rfl
  have F5 := fun_mk (st := s_law_take) l5 c5 k5
  have b5 := F5.binds (ps := ["_law_pool_here", "_law_limit"]) fun _ _ _ _ _ _ us hl => match us, hl with | [_, _], _ => rfl
  have F6 := fun_mk (st := s_side_of) l6 c6 k6
  have b6 := F6.binds (ps := ["square"]) fun _ _ _ _ _ _ us hl => match us, hl with | [_], _ => rfl
  have F7 := fun_mk (st := s_written) l7 c7 k7
  have b7 := F7.binds (ps := ["p", "n"]) fun _ _ _ _ _ _ us hl => match us, hl with | [_, _], _ => rfl
  have F8 := fun_mk (st := s_law) l8 c8 k8
  have T : Txt K mg ⟨0⟩ := {
    b_int := PySem.W.mg_none_of X G z_int
    b_isinstance := PySem.W.mg_none_of X G z_isinstance
    b_len := PySem.W.mg_none_of X G z_len
    b_max := PySem.W.mg_none_of X G z_max
    b_min := PySem.W.mg_none_of X G z_min
    b_range := PySem.W.mg_none_of X G z_range
    b_tuple := PySem.W.mg_none_of X G z_tuple
    d_law_cell := ⟨_, _, F0, PySem.W.mg_of X G a0, b0⟩
    d_law_found := ⟨_, _, F1, PySem.W.mg_of X G a1, b1⟩
    d_law_is_odd_prime := ⟨_, _, F2, PySem.W.mg_of X G a2, b2⟩
    d_law_next_prime := ⟨_, _, F3, PySem.W.mg_of X G a3, b3⟩
    d_law_pool := ⟨_, _, F4, PySem.W.mg_of X G a4, b4⟩
    d_law_take := ⟨_, _, F5, PySem.W.mg_of X G a5, b5⟩
    d_side_of := ⟨_, _, F6, PySem.W.mg_of X G a6, b6⟩
    d_written := ⟨_, _, F7, PySem.W.mg_of X G a7, b7⟩
    triv := trivial }
  exact ⟨_, fun s v => .of_eq rfl, fun base _ _ => ok_law (base := base) F8 T⟩
theorem walk {l : PySem.W.OpenLaw} {q : Program} {loose : List Str} {XP : (Str → Option Value) → Heap → Prop} {YP : World → Heap → Prop} {d : DefRec} {K : Params → PySem.W.Frag} (hn : l.most = some 63) (hdf : d.params.defaults = [])
    (hY : ∀ (w : World) (h : Heap), YP w h → (K w.params).In h)
    (F : ∀ (w : World) (mg : Str → Option Value) (fa : Addr) (h : Heap), (K w.params).In h → h.Ns mainGlobals mg → mg d.name = some (.ref fa) →
      ∃ fd : FuncData, (∀ (s : Shared) (u : Value), BindsTo s fd ⟨[u], []⟩ [("_law_script", u)]) ∧ ∀ base : Heap, (K w.params).In base → base.Ns mainGlobals mg → FnOk l.prog w (K w.params) mg base (L2.CX l.prog w) 3 fa fd ["_law_script"] (spLaw (K w.params))) :
    PySem.W.WalkO q loose XP YP l.row.toRowW d [] (fun f vs => PySem.call f vs) :=
  L2.walk_of (n := 63) (k := 3) (x := "_law_script") (CX := fun w => L2.CX l.prog w) (sp := fun w => spLaw (K w.params)) hn (by decide) hdf ⟨rfl, by decide, by decide⟩ hY F (fun _ _ a ns hl hO hS => ⟨a, ns, rfl, hS, hl, NoT.only hO, fun _ => rfl⟩) fun _ _ _ _ _ h => by
    obtain ⟨_, _, _, _, _, _, _, _, _, _, _, _, z⟩ := h
    exact z.elim
end My
open PySem PySem.W PyProof.Rows
set_option maxRecDepth 100000 in
set_option maxHeartbeats 0 in
theorem PySem.Challenge.cw_everyprime_k55_written_primes_holds : PySem.Challenge.rw_everyprime_k55_written_primes.Holds := by
  w_on; o_law; k_head; (case hw => w_witness2)
  k_fill
  refine My.walk (l := PySem.Challenge.rw_everyprime_k55_written_primes) rfl rfl (fun w h Y => PySem.W.kIn_of Y) ?F
  case F =>
    intro w mg fa h KX G hmg
    refine' My.all_mk KX G hmg ?z_int ?z_isinstance ?z_len ?z_max ?z_min ?z_range ?z_tuple ?a0 ?l0 ?c0 ?k0 ?a1 ?l1 ?c1 ?k1 ?a2 ?l2 ?c2 ?k2 ?a3 ?l3 ?c3 ?k3 ?a4 ?l4 ?c4 ?k4 ?a5 ?l5 ?c5 ?k5 ?a6 ?l6 ?c6 ?k6 ?a7 ?l7 ?c7 ?k7 ?a8 ?l8 ?c8 ?k8
    (case z_int => k_is)
    (case z_isinstance => k_is)
    (case z_len => k_is)
    (case z_max => k_is)
    (case z_min => k_is)
    (case z_range => k_is)
    (case z_tuple => k_is)
    (case a0 => k_is)
    (case l0 => k_is)
    (case c0 => k_is)
    (case k0 => k_is)
    (case a1 => k_is)
    (case l1 => k_is)
    (case c1 => k_is)
    (case k1 => k_is)
    (case a2 => k_is)
    (case l2 => k_is)
    (case c2 => k_is)
    (case k2 => k_is)
    (case a3 => k_is)
    (case l3 => k_is)
    (case c3 => k_is)
    (case k3 => k_is)
    (case a4 => k_is)
    (case l4 => k_is)
    (case c4 => k_is)
    (case k4 => k_is)
    (case a5 => k_is)
    (case l5 => k_is)
    (case c5 => k_is)
    (case k5 => k_is)
    (case a6 => k_is)
    (case l6 => k_is)
    (case c6 => k_is)
    (case k6 => k_is)
    (case a7 => k_is)
    (case l7 => k_is)
    (case c7 => k_is)
    (case k7 => k_is)
    (case a8 => k_is)
    (case l8 => k_is)
    (case c8 => k_is)
    (case k8 => k_is)
#print axioms PySem.Challenge.cw_everyprime_k55_written_primes_holds
