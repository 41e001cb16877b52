import PyProof.Rows.All
import Wide.All
import OpenK.AllK
import Wide.FinOn
import HandS.Base
import HandS.Call
import HandS.List
import HandS.Ends
import HandS.Words
import HandS.Wide
import HandS.WordsList
import HandS.Comp
import HandS.Exc
import HandS.ExcOwn
import HandS.TryOnly
import HandS.WordsExc
import HandS.ExcInit
import HandS.ExcField
import HandS.ClsMeth
import HandS.Codes
import HandS.NoneIn
import HandS.IsInst
import HandS.SortInts
import HandS.Style
import HandS.Star
import HandS.FStr
import HandS.Iter
import HandS.Dict
import HandS.Walk
import HandS.Strs
import HandS.SetBool
import HandS.SetIn
import HandS.TryMany
import HandS.More
import HandS.DictComp
import HandS.Deep
import KE.KOpsOwn
import HandS.Small
import HandS.TupAny
import HandS.SetFor
import HandS.Zip
import PySem.Challenge.RW_everyprime_k75_whole_counts_that_agree
set_option Elab.async false
set_option linter.all false
set_option maxRecDepth 100000
set_option maxHeartbeats 4000000
namespace My
section
open PySem PySem.W PyProof.Rows
set_option maxHeartbeats 0
open_top hd_top for PySem.Challenge.rw_everyprime_k75_whole_counts_that_agree
end
end My
namespace L2
open PySem PySem.Spec PyProof.Rows
/-- one step of a reading, found by its head -/
class Stp (G : Prop) (N : outParam Prop) : Prop where
  mp : N → G
/-! ### forgetting what was made on the way -/
/-- no dict with tuple keys is tracked -/
def noT : HO -> Bool
  | .dT _ => false
  | .frz _ u => noT u
  | _ => true
def NoT (H : Hp) : Prop := ∀ a o, H a = some o → noT o = true
theorem NoT.upd {H : Hp} {p : Addr} {o : HO} (n : NoT H) (h : noT o = true) : NoT (upd H p o) := fun a u e => by
  by_cases hb : a = p
  · subst hb
    rw [upd_same] at e
    cases e
    exact h
  · rw [upd_ne hb] at e
    exact n a u e
theorem obj_back {P : Program} {w : World} {H H' : Hp} {h h' : Heap} {a : Addr} : ∀ {o : HO}, noT o = true → ObjOk P w H' h' a o → ObjOk P w H h a o → ObjOk P w H h' a o := by
  intro o
  induction o with
  | dT kvs => intro n; cases n
  | frz ob u ih =>
    intro n x y
    exact ⟨x.1, ih n x.2 y.2⟩
  | ins C dx fs =>
    intro n x y
    exact ⟨y.1, x.2⟩
  | lst xs => intro n x y; exact x
  | tup xs => intro n x y; exact x
  | dK kvs => intro n x y; exact x
  | set S m => intro n x y; exact x
  | own z => intro n x y; exact x
  | xd fs => intro n x y; exact x
  | rng lo hi => intro n x y; exact x
  | tbl ps => intro n x y; exact x
  | met f z => intro n x y; exact x
  | ext phi => intro n x y; exact x
theorem hok_back {P : Program} {w : World} {H H' : Hp} {h h' : Heap} (n : NoT H) (x : HOk P w H' h') (y : HOk P w H h) (e : Same H H') : HOk P w H h' := fun a o q =>
  obj_back (n a o q) (x a o (e a o q)) (y a o q)
theorem Inv.forget {X : Cx} {pins pins' : List (Addr × Obj)} {σ σ' : St} {H H' : Hp} {s s' : Shared} (I : Inv X pins σ H s) (J : Inv X pins' σ' H' s') (e : Same H H') (n : NoT H) : Inv X pins' σ' H s' :=
  ⟨J.ok, J.os, J.bare, ⟨J.base.keep, J.base.slot, I.base.free, J.base.there, I.base.tups, I.base.frzs, I.base.tbls⟩, J.loc, J.cell, I.free, I.freeC,
    fun p hp => let ⟨a, b, c⟩ := J.pin p hp; ⟨a, e.free b, c⟩, hok_back n J.hok I.hok e, J.len⟩
/-- an expression whose making leaves things behind that nobody asks of -/
def tPure (t : TE) : TE := fun σ H Q => NoT H ∧ t σ H fun v H' => Same H H' ∧ Q v H
def tPureT (t : TT) : TT := fun σ H Q => NoT H ∧ t σ H fun b H' => Same H H' ∧ Q b H
theorem pt_pure {X : Cx} {e : Expr} {t : TT} (h : PT X e t) : PT X e (tPureT t) :=
  ⟨fun pins s σ H Q I ⟨n, q⟩ => thn (h.run pins s σ H _ I q) fun u s' ⟨H', J, sm, q'⟩ => ⟨H, I.forget J sm n, q'⟩⟩
theorem fn_forget {P : Program} {w : World} {K : PySem.W.Frag} {mg : Str → Option Value} {base : Heap} {CX : CXT} {k : Nat} {f : Addr} {fd : FuncData} {ps : List Str} {sp : Sp} (F : FnOk P w K mg base CX k f fd ps sp) :
    FnOk P w K mg base CX k f fd ps (fun vs H Q E => NoT H ∧ sp vs H (fun v H' => Same H H' ∧ Q v H) E) := by
  refine ⟨fun vs H Q E q => F.len vs H _ E q.2, fun A outer s H args us vs Q E hr he hb hv hs => ?_⟩
  refine codeAny_mono (F.run A outer s H args us vs _ E hr he hb hv hs.2) fun r s' q => ?_
  cases r with
  | error er => exact q
  | ok fl =>
    cases fl with
    | ret u =>
      obtain ⟨v, H2, os2, bare2, un2, hok2, rv, sm, q2⟩ := q
      exact ⟨v, H, os2, bare2, ⟨un2.keep, un2.slot, fun _ _ _ n _ => n, un2.there, fun _ _ q => q, fun _ _ _ q => q, fun _ ps q => ⟨#[], by rw [q]; simp⟩⟩, hok_back hs.1 hok2 he.hok sm, rv, q2⟩
    | next => exact q
    | brk => exact q
    | cont => exact q
end L2
namespace L2
open PySem PySem.Spec PyProof.Rows
/-! ### operators in the forms that are used here -/
def CMulB (i j : Int) : Prop := CMul i j ∨ CMulW i j
theorem CMulB.ok {i j : Int} (h : CMulB i j) : IntMulOk i j := by
  rcases h with h | h
  · exact h.ok
  · exact h.ok
def CDivB (_ j : Int) : Prop := 0 < j ∧ j < 2 ^ 250 ∨ 0 < j ∧ j.natAbs < 2 ^ 9000
section
variable {X : Cx}
theorem op_mulB : OpR X (binaryOp .Mult) (rI CMulB fun i j => .int (i * j)) := opI fun _ _ _ _ _ _ _ hc q => mul_int q hc.ok
theorem CDivB.wide {i j : Int} (h : CDivB i j) : CDivW i j := by
  rcases h with ⟨h1, h2⟩ | ⟨h1, h2⟩
  · refine wide_div (b := 250) h1 ?_ (by decide) (by decide)
    have h3 : j = (j.natAbs : Int) := by omega
    have h4 : (j.natAbs : Int) < ((2 ^ 250 : Nat) : Int) := by
      rw [← h3, Int.natCast_pow]
      exact h2
    exact Int.ofNat_lt.mp h4
  · exact wide_div h1 h2 (by decide) (by decide)
theorem op_fdivB : OpR X (binaryOp .FloorDiv) (rI CDivB fun i j => .int (i / j)) := fun pins s σ H x y v u Q I rx ry ⟨i, j, e1, e2, hc, q⟩ =>
  op_fdivW pins s σ H x y v u Q I rx ry ⟨i, j, e1, e2, hc.wide, q⟩
end
/-! ### the readings, one lemma each -/
section
variable {σ : St} {H : Hp} {Q : VK} {R : Bool → Hp → Prop} {RA : List V → Hp → Prop} {K : PySem.W.Frag} {v x y z : V} {i j : Int} {ta tb tc te : TE} {tt uu : TT} {t t1 t2 u : TS} {tr : TA} {r : R2}
variable {nx : St → Hp → Prop} {rt : VK} {bk ct : St → Hp → Prop}
theorem rd_var {n : Nat} (h : σ[n]? = some (some v)) (q : Q v H) : tVar n σ H Q := ⟨v, h, q⟩
theorem rd_c (q : Q v H) : tC v σ H Q := q
instance st_c  : Stp (tC v σ H Q) (Q v H) := ⟨fun h => rd_c h⟩
theorem rd_op (h : ta σ H fun x H1 => tb σ H1 fun y H2 => r x y H2 Q) : tOp r ta tb σ H Q := h
instance st_op  : Stp (tOp r ta tb σ H Q) (ta σ H fun x H1 => tb σ H1 fun y H2 => r x y H2 Q) := ⟨fun h => rd_op h⟩
theorem rd_un {ru : V → Hp → VK → Prop} (h : ta σ H fun x H1 => ru x H1 Q) : tUn ru ta σ H Q := h
instance st_un {ru : V → Hp → VK → Prop} : Stp (tUn ru ta σ H Q) (ta σ H fun x H1 => ru x H1 Q) := ⟨fun h => rd_un h⟩
theorem rd_I {C : Int → Int → Prop} {g : Int → Int → V} (hc : C i j) (q : Q (g i j) H) : rI C g (.int i) (.int j) H Q := ⟨i, j, rfl, rfl, hc, q⟩
theorem rd_I0 {g : Int → Int → V} (q : Q (g i j) H) : rI0 g (.int i) (.int j) H Q := ⟨i, j, rfl, rfl, q⟩
instance st_I0 {g : Int → Int → V} : Stp (rI0 g (.int i) (.int j) H Q) (Q (g i j) H) := ⟨fun h => rd_I0 h⟩
theorem rd_U {g : Int → V} (q : Q (g i) H) : rU g (.int i) H Q := ⟨i, rfl, q⟩
instance st_U {g : Int → V} : Stp (rU g (.int i) H Q) (Q (g i) H) := ⟨fun h => rd_U h⟩
theorem rd_eqI (q : Q (.bl (decide (i = j))) H) : rEq (.int i) (.int j) H Q := ⟨rfl, by
  have e : decide (V.int i = V.int j) = decide (i = j) := decide_eq_decide.mpr ⟨fun z => V.int.inj z, fun z => by rw [z]⟩
  rw [e]
  exact q⟩
instance st_eqI  : Stp (rEq (.int i) (.int j) H Q) (Q (.bl (decide (i = j))) H) := ⟨fun h => rd_eqI h⟩
theorem rd_neI (q : Q (.bl (!decide (i = j))) H) : rNe (.int i) (.int j) H Q := ⟨rfl, by
  have e : decide (V.int i = V.int j) = decide (i = j) := decide_eq_decide.mpr ⟨fun z => V.int.inj z, fun z => by rw [z]⟩
  rw [e]
  exact q⟩
instance st_neI  : Stp (rNe (.int i) (.int j) H Q) (Q (.bl (!decide (i = j))) H) := ⟨fun h => rd_neI h⟩
theorem rd_eqS {i j : Str} (q : Q (.bl (decide (i = j))) H) : rEq (.str i) (.str j) H Q := ⟨rfl, by
  have e : decide (V.str i = V.str j) = decide (i = j) := decide_eq_decide.mpr ⟨fun z => V.str.inj z, fun z => by rw [z]⟩
  rw [e]
  exact q⟩
instance st_eqS {i j : Str} : Stp (rEq (.str i) (.str j) H Q) (Q (.bl (decide (i = j))) H) := ⟨fun h => rd_eqS h⟩
theorem rd_neS {i j : Str} (q : Q (.bl (!decide (i = j))) H) : rNe (.str i) (.str j) H Q := ⟨rfl, by
  have e : decide (V.str i = V.str j) = decide (i = j) := decide_eq_decide.mpr ⟨fun z => V.str.inj z, fun z => by rw [z]⟩
  rw [e]
  exact q⟩
instance st_neS {i j : Str} : Stp (rNe (.str i) (.str j) H Q) (Q (.bl (!decide (i = j))) H) := ⟨fun h => rd_neS h⟩
theorem rd_eqB {i j : Bool} (q : Q (.bl (decide (i = j))) H) : rEq (.bl i) (.bl j) H Q := ⟨rfl, by
  have e : decide (V.bl i = V.bl j) = decide (i = j) := decide_eq_decide.mpr ⟨fun z => V.bl.inj z, fun z => by rw [z]⟩
  rw [e]
  exact q⟩
instance st_eqB {i j : Bool} : Stp (rEq (.bl i) (.bl j) H Q) (Q (.bl (decide (i = j))) H) := ⟨fun h => rd_eqB h⟩
theorem rd_neB {i j : Bool} (q : Q (.bl (!decide (i = j))) H) : rNe (.bl i) (.bl j) H Q := ⟨rfl, by
  have e : decide (V.bl i = V.bl j) = decide (i = j) := decide_eq_decide.mpr ⟨fun z => V.bl.inj z, fun z => by rw [z]⟩
  rw [e]
  exact q⟩
instance st_neB {i j : Bool} : Stp (rNe (.bl i) (.bl j) H Q) (Q (.bl (!decide (i = j))) H) := ⟨fun h => rd_neB h⟩
theorem rd_test (h : te σ H fun x H' => ∃ k, x = .bl k ∧ R k H') : tTest te σ H R := h
instance st_test  : Stp (tTest te σ H R) (te σ H fun x H' => ∃ k, x = .bl k ∧ R k H') := ⟨fun h => rd_test h⟩
theorem rd_B (h : te σ H fun x H' => ∃ k, x = .bl k ∧ R k H') : tB te σ H R := h
instance st_B  : Stp (tB te σ H R) (te σ H fun x H' => ∃ k, x = .bl k ∧ R k H') := ⟨fun h => rd_B h⟩
theorem rd_k {b : Bool} {P : Bool → Prop} (q : P b) : ∃ k, V.bl b = .bl k ∧ P k := ⟨b, rfl, q⟩
instance st_k {b : Bool} {P : Bool → Prop} : Stp (∃ k, V.bl b = .bl k ∧ P k) (P b) := ⟨fun h => rd_k h⟩
theorem rd_and (h : tt σ H fun c H1 => if c = true then uu σ H1 R else R false H1) : tAnd tt uu σ H R := h
instance st_and  : Stp (tAnd tt uu σ H R) (tt σ H fun c H1 => if c = true then uu σ H1 R else R false H1) := ⟨fun h => rd_and h⟩
theorem rd_or (h : tt σ H fun c H1 => if c = true then R true H1 else uu σ H1 R) : tOr tt uu σ H R := h
instance st_or  : Stp (tOr tt uu σ H R) (tt σ H fun c H1 => if c = true then R true H1 else uu σ H1 R) := ⟨fun h => rd_or h⟩
theorem rd_not (h : tt σ H fun c H1 => R (!c) H1) : tNot tt σ H R := h
instance st_not  : Stp (tNot tt σ H R) (tt σ H fun c H1 => R (!c) H1) := ⟨fun h => rd_not h⟩
theorem rd_andV (h : ta σ H fun x H1 => ∃ c, x = .bl c ∧ if c = true then tb σ H1 Q else Q (.bl false) H1) : tAndV ta tb σ H Q := h
instance st_andV  : Stp (tAndV ta tb σ H Q) (ta σ H fun x H1 => ∃ c, x = .bl c ∧ if c = true then tb σ H1 Q else Q (.bl false) H1) := ⟨fun h => rd_andV h⟩
theorem rd_orV (h : ta σ H fun x H1 => ∃ c, x = .bl c ∧ if c = true then Q (.bl true) H1 else tb σ H1 Q) : tOrV ta tb σ H Q := h
instance st_orV  : Stp (tOrV ta tb σ H Q) (ta σ H fun x H1 => ∃ c, x = .bl c ∧ if c = true then Q (.bl true) H1 else tb σ H1 Q) := ⟨fun h => rd_orV h⟩
theorem rd_notV (h : ta σ H fun x H1 => ∃ c, x = .bl c ∧ Q (.bl (!c)) H1) : tNotV ta σ H Q := h
instance st_notV  : Stp (tNotV ta σ H Q) (ta σ H fun x H1 => ∃ c, x = .bl c ∧ Q (.bl (!c)) H1) := ⟨fun h => rd_notV h⟩
theorem rd_ifx (h : tt σ H fun c H1 => if c = true then ta σ H1 Q else tb σ H1 Q) : tIf tt ta tb σ H Q := h
instance st_ifx  : Stp (tIf tt ta tb σ H Q) (tt σ H fun c H1 => if c = true then ta σ H1 Q else tb σ H1 Q) := ⟨fun h => rd_ifx h⟩
theorem rd_chain {r' : R2} (h : ta σ H fun x H1 => tb σ H1 fun y H2 => r x y H2 fun z H3 => ∃ k, z = .bl k ∧ (if k = true then tc σ H3 fun w' H4 => r' y w' H4 Q else Q (.bl false) H3)) : tChain r r' ta tb tc σ H Q := h
instance st_chain {r' : R2} : Stp (tChain r r' ta tb tc σ H Q) (ta σ H fun x H1 => tb σ H1 fun y H2 => r x y H2 fun z H3 => ∃ k, z = .bl k ∧ (if k = true then tc σ H3 fun w' H4 => r' y w' H4 Q else Q (.bl false) H3)) := ⟨fun h => rd_chain h⟩
theorem rd_nil (q : RA [] H) : tNil σ H RA := q
instance st_nil  : Stp (tNil σ H RA) (RA [] H) := ⟨fun h => rd_nil h⟩
theorem rd_cons (h : ta σ H fun x H1 => tr σ H1 fun xs H2 => RA (x :: xs) H2) : tCons ta tr σ H RA := h
instance st_cons  : Stp (tCons ta tr σ H RA) (ta σ H fun x H1 => tr σ H1 fun xs H2 => RA (x :: xs) H2) := ⟨fun h => rd_cons h⟩
theorem rd_tup (h : tr σ H fun xs H1 => xs.length ≤ sizeLine ∧ ∀ p, H1 p = none → Q (.ref p) (upd H1 p (.tup xs))) : tTup tr σ H Q := h
instance st_tup  : Stp (tTup tr σ H Q) (tr σ H fun xs H1 => xs.length ≤ sizeLine ∧ ∀ p, H1 p = none → Q (.ref p) (upd H1 p (.tup xs))) := ⟨fun h => rd_tup h⟩
theorem rd_lst (h : tr σ H fun xs H1 => xs.length ≤ sizeLine ∧ ∀ p, H1 p = none → Q (.ref p) (upd H1 p (.lst xs))) : tLst tr σ H Q := h
instance st_lst  : Stp (tLst tr σ H Q) (tr σ H fun xs H1 => xs.length ≤ sizeLine ∧ ∀ p, H1 p = none → Q (.ref p) (upd H1 p (.lst xs))) := ⟨fun h => rd_lst h⟩
theorem rd_pure (n : NoT H) (h : te σ H fun v H' => Same H H' ∧ Q v H) : tPure te σ H Q := ⟨n, h⟩
theorem rd_pureT (n : NoT H) (h : tt σ H fun v H' => Same H H' ∧ R v H) : tPureT tt σ H R := ⟨n, h⟩
theorem rd_call {sp : Sp} {E : XK} (h : tr σ H fun vs H1 => sp vs H1 Q E) : tCall sp [] E tr σ H Q := by
  show tr σ H fun vs H1 => sp (vs ++ []) H1 Q E
  simp only [List.append_nil]
  exact h
instance st_call {sp : Sp} {E : XK} : Stp (tCall sp [] E tr σ H Q) (tr σ H fun vs H1 => sp vs H1 Q E) := ⟨fun h => rd_call h⟩
theorem rd_cb {rr : List V → Hp → VK → Prop} (h : tr σ H fun vs H1 => rr vs H1 Q) : tCB rr tr σ H Q := h
instance st_cb {rr : List V → Hp → VK → Prop} : Stp (tCB rr tr σ H Q) (tr σ H fun vs H1 => rr vs H1 Q) := ⟨fun h => rd_cb h⟩
/-! statements -/
theorem rd_seq (h : t ⟨u ⟨nx, rt, bk, ct⟩, rt, bk, ct⟩ σ H) : tSeq t u ⟨nx, rt, bk, ct⟩ σ H := h
instance st_seq  : Stp (tSeq t u ⟨nx, rt, bk, ct⟩ σ H) (t ⟨u ⟨nx, rt, bk, ct⟩, rt, bk, ct⟩ σ H) := ⟨fun h => rd_seq h⟩
theorem rd_next (q : nx σ H) : tNext ⟨nx, rt, bk, ct⟩ σ H := q
instance st_next  : Stp (tNext ⟨nx, rt, bk, ct⟩ σ H) (nx σ H) := ⟨fun h => rd_next h⟩
theorem rd_break (q : bk σ H) : tBreak ⟨nx, rt, bk, ct⟩ σ H := q
instance st_break  : Stp (tBreak ⟨nx, rt, bk, ct⟩ σ H) (bk σ H) := ⟨fun h => rd_break h⟩
theorem rd_cont (q : ct σ H) : tCont ⟨nx, rt, bk, ct⟩ σ H := q
instance st_cont  : Stp (tCont ⟨nx, rt, bk, ct⟩ σ H) (ct σ H) := ⟨fun h => rd_cont h⟩
theorem rd_ret (h : te σ H rt) : tRet te ⟨nx, rt, bk, ct⟩ σ H := h
instance st_ret  : Stp (tRet te ⟨nx, rt, bk, ct⟩ σ H) (te σ H rt) := ⟨fun h => rd_ret h⟩
theorem rd_retN (h : rt .non H) : tRetN ⟨nx, rt, bk, ct⟩ σ H := h
instance st_retN  : Stp (tRetN ⟨nx, rt, bk, ct⟩ σ H) (rt .non H) := ⟨fun h => rd_retN h⟩
theorem rd_drop (h : te σ H fun _ H1 => nx σ H1) : tDrop te ⟨nx, rt, bk, ct⟩ σ H := h
instance st_drop  : Stp (tDrop te ⟨nx, rt, bk, ct⟩ σ H) (te σ H fun _ H1 => nx σ H1) := ⟨fun h => rd_drop h⟩
theorem rd_asg {g : TG} (h : te σ H fun x H1 => g x σ H1 nx) : tAsg te g ⟨nx, rt, bk, ct⟩ σ H := h
instance st_asg {g : TG} : Stp (tAsg te g ⟨nx, rt, bk, ct⟩ σ H) (te σ H fun x H1 => g x σ H1 nx) := ⟨fun h => rd_asg h⟩
theorem rd_gname {n : Nat} {N : St → Hp → Prop} (q : N (σ.set n (some v)) H) : gName n v σ H N := q
instance st_gname {n : Nat} {N : St → Hp → Prop} : Stp (gName n v σ H N) (N (σ.set n (some v)) H) := ⟨fun h => rd_gname h⟩
theorem rd_ifS (h : tt σ H fun b H1 => if b = true then t1 ⟨nx, rt, bk, ct⟩ σ H1 else t2 ⟨nx, rt, bk, ct⟩ σ H1) : tIfS tt t1 t2 ⟨nx, rt, bk, ct⟩ σ H := h
instance st_ifS  : Stp (tIfS tt t1 t2 ⟨nx, rt, bk, ct⟩ σ H) (tt σ H fun b H1 => if b = true then t1 ⟨nx, rt, bk, ct⟩ σ H1 else t2 ⟨nx, rt, bk, ct⟩ σ H1) := ⟨fun h => rd_ifS h⟩
theorem rd_par {m n : Nat} (h : tr σ H fun vs H1 => ∃ v w, vs = [v, w] ∧ nx ((σ.set m (some v)).set n (some w)) H1) : tPar m n tr ⟨nx, rt, bk, ct⟩ σ H := h
instance st_par {m n : Nat} : Stp (tPar m n tr ⟨nx, rt, bk, ct⟩ σ H) (tr σ H fun vs H1 => ∃ v w, vs = [v, w] ∧ nx ((σ.set m (some v)).set n (some w)) H1) := ⟨fun h => rd_par h⟩
theorem rd_par2 {v w : V} {P : V → V → Prop} (q : P v w) : ∃ v' w', [v, w] = [v', w'] ∧ P v' w' := ⟨v, w, rfl, q⟩
instance st_par2 {v w : V} {P : V → V → Prop} : Stp (∃ v' w', [v, w] = [v', w'] ∧ P v' w') (P v w) := ⟨fun h => rd_par2 h⟩
theorem rd_augG {n : Nat} {x : V} {te : TE} {ti : TIp} (h : σ[n]? = some (some x)) (q : te σ H fun y H1 => ti x y H1 fun z H2 => nx (σ.set n (some z)) H2) : tAug n te ti ⟨nx, rt, bk, ct⟩ σ H := ⟨x, h, q⟩
theorem rd_ipI {f : Int → Int → Int} {i j : Int} {R : VK} (q : R (.int (f i j)) H) : ipI f (.int i) (.int j) H R := ⟨i, j, rfl, rfl, q⟩
instance st_ipI {f : Int → Int → Int} {i j : Int} {R : VK} : Stp (ipI f (.int i) (.int j) H R) (R (.int (f i j)) H) := ⟨fun h => rd_ipI h⟩
theorem rd_augC {n : Nat} {f : Int → Int → Int} (h : σ[n]? = some (some (.int i))) (q : nx (σ.set n (some (.int (f i j)))) H) : tAug n (tC (.int j)) (ipI f) ⟨nx, rt, bk, ct⟩ σ H := ⟨.int i, h, i, j, rfl, rfl, q⟩
/-! ifs -/
theorem rd_ite {p A B : Prop} [Decidable p] (h1 : p → A) (h2 : ¬ p → B) : if decide p = true then A else B := by
  by_cases h : p
  · rw [if_pos (decide_eq_true h)]
    exact h1 h
  · rw [if_neg (by rw [decide_eq_false h]; decide)]
    exact h2 h
theorem rd_iteN {p A B : Prop} [Decidable p] (h1 : ¬ p → A) (h2 : p → B) : if (!decide p) = true then A else B := by
  by_cases h : p
  · rw [if_neg (by rw [decide_eq_true h]; decide)]
    exact h2 h
  · rw [if_pos (by rw [decide_eq_false h]; decide)]
    exact h1 h
theorem rd_iteb {b : Bool} {A B : Prop} (h1 : b = true → A) (h2 : b = false → B) : if b = true then A else B := by
  cases b with
  | true => exact h1 rfl
  | false => exact h2 rfl
theorem rd_iteNT {A B : Prop} (h : B) : if (!true) = true then A else B := h
instance st_iteNT {A B : Prop} : Stp (if (!true) = true then A else B) (B) := ⟨fun h => rd_iteNT h⟩
theorem rd_iteNF {A B : Prop} (h : A) : if (!false) = true then A else B := h
instance st_iteNF {A B : Prop} : Stp (if (!false) = true then A else B) (A) := ⟨fun h => rd_iteNF h⟩
theorem rd_iteT {A B : Prop} (h : A) : if true = true then A else B := iteT h
instance st_iteT {A B : Prop} : Stp (if true = true then A else B) (A) := ⟨fun h => rd_iteT h⟩
theorem rd_iteF {A B : Prop} (h : B) : if false = true then A else B := iteF h
instance st_iteF {A B : Prop} : Stp (if false = true then A else B) (B) := ⟨fun h => rd_iteF h⟩
/-! while, for -/
def lBody (W : Nat → St → Hp → Prop) (m : Nat) (tb : TS) (nx : St → Hp → Prop) (rt : VK) : St → Hp → Prop := fun σ H =>
  ∃ N : St → Hp → Prop, (∀ σ' H', N σ' H' → ∃ m', m' < m ∧ W m' σ' H') ∧ tb ⟨N, rt, nx, N⟩ σ H
theorem rd_lBody {W : Nat → St → Hp → Prop} {m : Nat} (h : t ⟨fun σ' H' => ∃ m', m' < m ∧ W m' σ' H', rt, nx, fun σ' H' => ∃ m', m' < m ∧ W m' σ' H'⟩ σ H) : lBody W m t nx rt σ H := ⟨_, fun _ _ q => q, h⟩
instance st_lBody {W : Nat → St → Hp → Prop} {m : Nat} : Stp (lBody W m t nx rt σ H) (t ⟨fun σ' H' => ∃ m', m' < m ∧ W m' σ' H', rt, nx, fun σ' H' => ∃ m', m' < m ∧ W m' σ' H'⟩ σ H) := ⟨fun h => rd_lBody h⟩
theorem rd_while (W : Nat → St → Hp → Prop) (m0 : Nat) (h0 : W m0 σ H) (turn : ∀ m σ H, W m σ H → tt σ H fun b H1 => if b = true then lBody W m t nx rt σ H1 else nx σ H1) : tWhile tt t ⟨nx, rt, bk, ct⟩ σ H :=
  ⟨W, ⟨m0, h0⟩, fun m σ H w => turn m σ H w⟩
def fBody (J : It) (g : TG) (tb : TS) (nx : St → Hp → Prop) (rt : VK) : St → Hp → Prop := fun σ H => ∃ W : Nat → Nat → St → Hp → Prop, (∃ m, W 0 m σ H) ∧ ∀ i m σ H, W i m σ H →
  (J.stop i H ∧ nx σ H) ∨ (J.go i H ∧ ∃ N : St → Hp → Prop, (∀ σ' H', N σ' H' → ∃ m', m' < m ∧ W (i + 1) m' σ' H') ∧ ∀ x H', J.yld i H x H' → g x σ H' fun σ2 H2 => tb ⟨N, rt, nx, N⟩ σ2 H2)
theorem rd_for {wi : TI} {g : TG} (h : wi σ H fun J H1 => fBody J g t nx rt σ H1) : tFor wi g t ⟨nx, rt, bk, ct⟩ σ H := h
instance st_for {wi : TI} {g : TG} : Stp (tFor wi g t ⟨nx, rt, bk, ct⟩ σ H) (wi σ H fun J H1 => fBody J g t nx rt σ H1) := ⟨fun h => rd_for h⟩
theorem rd_forR {lo : Int} {n : Nat} {g : TG} (Pv : Nat → St → Hp → Prop) (h0 : Pv 0 σ H)
    (hs : ∀ i σ H, i < n → Pv i σ H → g (.int (lo + i)) σ H fun σ2 H2 => t ⟨Pv (i + 1), rt, nx, Pv (i + 1)⟩ σ2 H2) (hd : ∀ σ H, Pv n σ H → nx σ H) : fBody (Itr lo n) g t nx rt σ H :=
  for_range (D := ⟨nx, rt, fun _ _ => False, fun _ _ => False⟩) Pv h0 hs hd
theorem rd_forL {a : Addr} {xs : List V} {g : TG} (Pv : Nat → St → Hp → Prop) (h0 : Pv 0 σ H) (hl : ∀ i σ H, i ≤ xs.length → Pv i σ H → SqL K H a xs)
    (hs : ∀ i x σ H, xs[i]? = some x → Pv i σ H → g x σ H fun σ2 H2 => t ⟨Pv (i + 1), rt, nx, Pv (i + 1)⟩ σ2 H2) (hd : ∀ σ H, Pv xs.length σ H → nx σ H) : fBody (Itl K a) g t nx rt σ H :=
  for_list (D := ⟨nx, rt, fun _ _ => False, fun _ _ => False⟩) Pv h0 hl hs hd
theorem rd_forT {a : Addr} {xs : List V} {g : TG} (Pv : Nat → St → Hp → Prop) (h0 : Pv 0 σ H) (hl : ∀ i σ H, i ≤ xs.length → Pv i σ H → SqT K H a xs)
    (hs : ∀ i x σ H, xs[i]? = some x → Pv i σ H → g x σ H fun σ2 H2 => t ⟨Pv (i + 1), rt, nx, Pv (i + 1)⟩ σ2 H2) (hd : ∀ σ H, Pv xs.length σ H → nx σ H) : fBody (Itt K a) g t nx rt σ H :=
  for_tup (D := ⟨nx, rt, fun _ _ => False, fun _ _ => False⟩) Pv h0 hl hs hd
theorem rd_ixL {p : Addr} {xs : List V} (h : SqL K H p xs) (ha : atI xs i = some v) (q : Q v H) : rIxL K (.ref p) (.int i) H Q := ⟨p, xs, i, v, rfl, rfl, h, ha, q⟩
theorem rd_ixT {p : Addr} {xs : List V} (h : SqT K H p xs) (ha : atI xs i = some v) (q : Q v H) : rIxT K (.ref p) (.int i) H Q := ⟨p, xs, i, v, rfl, rfl, h, ha, q⟩
theorem rd_inL {p : Addr} {xs : List V} (h : SqL K H p xs) (hx : flatV x = true) (hf : xs.all flatV = true) (q : Q (.bl (inV x xs)) H) : rIn K false x (.ref p) H Q := ⟨p, xs, rfl, .inl h, hx, hf, q⟩
theorem rd_inT {p : Addr} {xs : List V} (h : SqT K H p xs) (hx : flatV x = true) (hf : xs.all flatV = true) (q : Q (.bl (inV x xs)) H) : rIn K false x (.ref p) H Q := ⟨p, xs, rfl, .inr h, hx, hf, q⟩
theorem rd_ninT {p : Addr} {xs : List V} (h : SqT K H p xs) (hx : flatV x = true) (hf : xs.all flatV = true) (q : Q (.bl (!inV x xs)) H) : rIn K true x (.ref p) H Q := ⟨p, xs, rfl, .inr h, hx, hf, q⟩
end
theorem same_new {H : Hp} {p : Addr} {o : HO} (h : H p = none) : Same H (upd H p o) := fun b x e => by
  rw [upd_ne (ne_of_none e h)]
  exact e
end L2
namespace L2
open PySem PySem.Spec PyProof.Rows
section
variable {σ : St} {H : Hp} {Q : VK} {K : PySem.W.Frag} {v : V} {N : St → Hp → Prop} {S : Hp → Prop}
theorem rd_gsub {to ti : TE} {t : TSet} (h : to σ H fun o H1 => ti σ H1 fun i H2 => t o i v H2 fun H3 => N σ H3) : gSub to ti t v σ H N := h
instance st_gsub {to ti : TE} {t : TSet} : Stp (gSub to ti t v σ H N) (to σ H fun o H1 => ti σ H1 fun i H2 => t o i v H2 fun H3 => N σ H3) := ⟨fun h => rd_gsub h⟩
theorem rd_setL {p : Addr} {xs : List V} {k : Int} {j : Nat} (h : H p = some (.lst xs)) (hj : ixN xs.length k = some j) (q : S (upd H p (.lst (xs.set j v)))) : rSetL (.ref p) (.int k) v H S := ⟨p, xs, k, j, rfl, rfl, h, hj, q⟩
end
end L2
namespace L2
open PySem PySem.Spec PyProof.Rows
section
variable {σ : St} {H : Hp} {Q : VK} {K : PySem.W.Frag} {v x y : V} {N : St → Hp → Prop} {S : Hp → Prop} {p : Addr} {o : HO}
theorem rd_new {n : Nat} {F : Addr → Prop} (h : n ≤ sizeLine) (q : ∀ p, H p = none → F p) : n ≤ sizeLine ∧ ∀ p, H p = none → F p := ⟨h, q⟩
theorem rd_back {P : Prop} (hp : H p = none) (q : P) : Same H (upd H p o) ∧ P := ⟨same_new hp, q⟩
theorem rd_backR {P : Prop} (q : P) : Same H H ∧ P := ⟨Same.refl H, q⟩
instance st_backR {P : Prop} : Stp (Same H H ∧ P) (P) := ⟨fun h => rd_backR h⟩
theorem inV2 {i a b : Int} : inV (.int i) [.int a, .int b] = decide (i = a ∨ i = b) := by
  simp only [inV, eqV, List.any_cons, List.any_nil, Bool.or_false]
  by_cases h1 : i = a
  · subst h1
    simp
  · by_cases h2 : i = b
    · subst h2
      simp
    · have e1 : (a == i) = false := by simpa using Ne.symm h1
      have e2 : (b == i) = false := by simpa using Ne.symm h2
      rw [e1, e2]
      simp [h1, h2]
theorem rd_in2 {i a b : Int} (q : Q (.bl (decide (i = a ∨ i = b))) (upd H p (.tup [.int a, .int b]))) : rIn K false (.int i) (.ref p) (upd H p (.tup [.int a, .int b])) Q :=
  ⟨p, _, rfl, .inr (SqT.of upd_same), rfl, rfl, by
    show Q (.bl (inV (.int i) [.int a, .int b])) _
    rw [inV2]
    exact q⟩
instance st_in2 {i a b : Int} : Stp (rIn K false (.int i) (.ref p) (upd H p (.tup [.int a, .int b])) Q) (Q (.bl (decide (i = a ∨ i = b))) (upd H p (.tup [.int a, .int b]))) := ⟨fun h => rd_in2 h⟩
theorem rd_gtup {a : Addr} {xs : List V} {n : Nat} {t : TGs} (h : SqT K H a xs) (hn : xs.length = n) (q : t xs σ H N) : gTup K n t (.ref a) σ H N := ⟨a, xs, rfl, h, hn, q⟩
theorem rd_gcons {t : TG} {u : TGs} {xs : List V} (q : t x σ H fun σ' H' => u xs σ' H' N) : gCons t u (x :: xs) σ H N := ⟨x, xs, rfl, q⟩
instance st_gcons {t : TG} {u : TGs} {xs : List V} : Stp (gCons t u (x :: xs) σ H N) (t x σ H fun σ' H' => u xs σ' H' N) := ⟨fun h => rd_gcons h⟩
theorem rd_gnil (q : N σ H) : gNil [] σ H N := ⟨rfl, q⟩
instance st_gnil  : Stp (gNil [] σ H N) (N σ H) := ⟨fun h => rd_gnil h⟩
theorem rd_bm {T : String} {r : V → List V → Hp → VK → Prop} {to : TE} {t : TA} (h : to σ H fun x H1 => tyV K T x H1 ∧ t σ H1 fun xs H2 => r x xs H2 Q) : tBM K T r to t σ H Q := h
instance st_bm {T : String} {r : V → List V → Hp → VK → Prop} {to : TE} {t : TA} : Stp (tBM K T r to t σ H Q) (to σ H fun x H1 => tyV K T x H1 ∧ t σ H1 fun xs H2 => r x xs H2 Q) := ⟨fun h => rd_bm h⟩
theorem rd_bm0 {T : String} {r : V → List V → Hp → VK → Prop} {to : TE} (h : to σ H fun x H1 => tyV K T x H1 ∧ r x [] H1 Q) : tBM0 K T r to σ H Q := h
instance st_bm0 {T : String} {r : V → List V → Hp → VK → Prop} {to : TE} : Stp (tBM0 K T r to σ H Q) (to σ H fun x H1 => tyV K T x H1 ∧ r x [] H1 Q) := ⟨fun h => rd_bm0 h⟩
theorem rd_tyL {xs : List V} {P : Prop} (h : H p = some (.lst xs)) (q : P) : tyV K "list" (.ref p) H ∧ P := ⟨.inl ⟨rfl, _, SqL.of h⟩, q⟩
theorem rd_append {xs : List V} (h : H p = some (.lst xs)) (hl : xs.length < sizeLine) (q : Q .non (upd H p (.lst (xs ++ [y])))) : rAppend (.ref p) [y] H Q := ⟨p, xs, y, rfl, rfl, h, hl, q⟩
theorem same_upd2 {H' : Hp} {o1 : HO} (h : Same H H') (hp : H p = none) : Same H (upd H' p o1) := fun b x e => by
  rw [upd_ne (ne_of_none e hp)]
  exact h b x e
theorem upd_keep {q : Addr} {u : HO} (h : H p = some o) (hq : H q = none) : upd H q u p = some o := (upd_ne (ne_of_none h hq)).trans h
end
end L2
namespace L2
open PySem PySem.Spec PyProof.Rows
theorem rd_cut {σ : St} {H : Hp} {t u : TS} {nx : St → Hp → Prop} {rt : VK} {bk ct : St → Hp → Prop} (Mid : St → Hp → Prop) (h : t ⟨Mid, rt, bk, ct⟩ σ H) (q : ∀ σ' H', Mid σ' H' → u ⟨nx, rt, bk, ct⟩ σ' H') : C8.tCut t u ⟨nx, rt, bk, ct⟩ σ H := ⟨Mid, h, q⟩
/-! ### built-ins, by name -/
def rLenQ (K : PySem.W.Frag) : List V → Hp → VK → Prop := fun xs H Q => ∃ p ys, xs = [.ref p] ∧ (SqL K H p ys ∨ SqT K H p ys) ∧ Q (.int ys.length) H
def rAbs : List V → Hp → VK → Prop := fun xs H Q => ∃ i, xs = [.int i] ∧ Q (.int (if i < 0 then -i else i)) H
def rMax2 : List V → Hp → VK → Prop := fun xs H Q => ∃ i j, xs = [.int i, .int j] ∧ Q (.int (if j > i then j else i)) H
def rMin2 : List V → Hp → VK → Prop := fun xs H Q => ∃ i j, xs = [.int i, .int j] ∧ Q (.int (if j < i then j else i)) H
def rInt1 : List V → Hp → VK → Prop := fun xs H Q => (∃ i, xs = [.int i] ∧ Q (.int i) H) ∨ ∃ k, xs = [.bl k] ∧ Q (.int (if k then 1 else 0)) H
def rListOf (K : PySem.W.Frag) : List V → Hp → VK → Prop := fun xs H Q => ∃ p ys, xs = [.ref p] ∧ (SqL K H p ys ∨ SqT K H p ys) ∧ ∀ l, H l = none → Q (.ref l) (upd H l (.lst ys))
section
variable {X : Cx}
theorem c_len : CallR X (.builtin "len") (rLenQ X.K) := call_len_seq
theorem c_abs : CallR X (.builtin "abs") rAbs := call_abs
theorem c_max2 (hc : X.calm = true) : CallR X (.builtin "max") rMax2 := call_max2 hc
theorem c_min2 (hc : X.calm = true) : CallR X (.builtin "min") rMin2 := call_min2 hc
theorem c_int1 : CallR X (.type "int") rInt1 := call_int1
theorem c_listOf : CallR X (.type "list") (rListOf X.K) := call_list_of
end
section
variable {H : Hp} {Q : VK} {K : PySem.W.Frag} {i j : Int} {p : Addr} {ys : List V}
theorem rd_abs (q : Q (.int (if i < 0 then -i else i)) H) : rAbs [.int i] H Q := ⟨i, rfl, q⟩
instance st_abs  : Stp (rAbs [.int i] H Q) (Q (.int (if i < 0 then -i else i)) H) := ⟨fun h => rd_abs h⟩
theorem rd_max2 (q : Q (.int (if j > i then j else i)) H) : rMax2 [.int i, .int j] H Q := ⟨i, j, rfl, q⟩
instance st_max2  : Stp (rMax2 [.int i, .int j] H Q) (Q (.int (if j > i then j else i)) H) := ⟨fun h => rd_max2 h⟩
theorem rd_min2 (q : Q (.int (if j < i then j else i)) H) : rMin2 [.int i, .int j] H Q := ⟨i, j, rfl, q⟩
instance st_min2  : Stp (rMin2 [.int i, .int j] H Q) (Q (.int (if j < i then j else i)) H) := ⟨fun h => rd_min2 h⟩
theorem rd_int (q : Q (.int i) H) : rInt1 [.int i] H Q := .inl ⟨i, rfl, q⟩
instance st_int  : Stp (rInt1 [.int i] H Q) (Q (.int i) H) := ⟨fun h => rd_int h⟩
theorem rd_intB {b : Bool} (q : Q (.int (if b then 1 else 0)) H) : rInt1 [.bl b] H Q := .inr ⟨b, rfl, q⟩
instance st_intB {b : Bool} : Stp (rInt1 [.bl b] H Q) (Q (.int (if b then 1 else 0)) H) := ⟨fun h => rd_intB h⟩
theorem rd_lenL (h : SqL K H p ys) (q : Q (.int ys.length) H) : rLenQ K [.ref p] H Q := ⟨p, ys, rfl, .inl h, q⟩
theorem rd_lenT (h : SqT K H p ys) (q : Q (.int ys.length) H) : rLenQ K [.ref p] H Q := ⟨p, ys, rfl, .inr h, q⟩
theorem rd_listOfL (h : SqL K H p ys) (q : ∀ l, H l = none → Q (.ref l) (upd H l (.lst ys))) : rListOf K [.ref p] H Q := ⟨p, ys, rfl, .inl h, q⟩
theorem rd_listOfT (h : SqT K H p ys) (q : ∀ l, H l = none → Q (.ref l) (upd H l (.lst ys))) : rListOf K [.ref p] H Q := ⟨p, ys, rfl, .inr h, q⟩
end
end L2
namespace L2
open PySem PySem.Spec PyProof.Rows
/-- a power with a written exponent -/
def rPowN (e : Nat) : R2 := fun x y H Q => ∃ i, x = .int i ∧ y = .int (e : Int) ∧ e ≤ 1000000 ∧ i.natAbs < 2 ^ 64 ∧ Q (.int (i ^ e)) H
theorem op_powN {X : Cx} (e : Nat) : OpR X (binaryOp .Pow) (rPowN e) := fun pins s σ H x y v u Q I rx ry ⟨i, e1, e2, h1, h2, q⟩ =>
  op_pow pins s σ H x y v u Q I rx ry ⟨i, (e : Int), e1, e2, ⟨Int.natCast_nonneg _, by omega, h2⟩, q⟩
theorem rd_powN {e : Nat} {i z : Int} {H : Hp} {Q : VK} (hz : z = (e : Int)) (h1 : e ≤ 1000000) (h2 : i.natAbs < 2 ^ 64) (q : Q (.int (i ^ e)) H) : rPowN e (.int i) (.int z) H Q := ⟨i, rfl, by rw [hz], h1, h2, q⟩
end L2
namespace L2
open PySem PySem.Spec PyProof.Rows
/-! ### a def of the text, and what it keeps -/
structure DefAt (K : PySem.W.Frag) (mg : Str → Option Value) (x : Str) (st : Stmt) (ps : List Str) : Prop where
  ex : ∃ (f : Addr) (fd : FuncData), Fun K x x st f fd ∧ mg x = some (.ref f) ∧ Binds K fd ps []
structure Def (P : Program) (w : World) (K : PySem.W.Frag) (mg : Str → Option Value) (base : Heap) (k : Nat) (x : Str) (ps : List Str) (sp : Sp) : Prop where
  ex : ∃ (f : Addr) (fd : FuncData), FnOk P w K mg base (L2.CX P w) k f fd ps sp ∧ mg x = some (.ref f) ∧ PySem.W.keepIn K (.ref f) = true ∧ Binds K fd ps []
section
variable {P : Program} {w : World} {K : PySem.W.Frag} {mg : Str → Option Value} {base : Heap}
theorem DefAt.ok {x : Str} {st : Stmt} {N ps : List Str} {k : Nat} {sp : Sp} (D : DefAt K mg x st ps) (S : FnScope N ps (defScope st)) (len : ∀ vs H Q E, sp vs H Q E → vs.length = ps.length)
    (hbody : ∀ (f : Addr) (cdv : Value) (A : Around) (outer : List Env) (s : Shared) (H : Hp) (vs : List V) (Q : VK) (E : XK), Room k (A.deeper (envOfC x (defScope st) s.heap.objs.size f cdv)) → sp vs H Q E →
      ∃ t, PSs (cxOf (L2.CX P w) P w K mg base N x (defScope st) f cdv A outer s H E) (defBody st) t ∧ t ⟨fun _ H' => Q .non H', Q, fun _ _ => False, fun _ _ => False⟩ (start N vs) H) : Def P w K mg base (k + 1) x ps sp := by
  obtain ⟨f, fd, F, g, b⟩ := D.ex
  exact ⟨f, fd, F.okX S len fun cdv A outer s H vs Q E hr h => hbody f cdv A outer s H vs Q E hr h, g, F.kp, b⟩
theorem Def.imp {k : Nat} {x : Str} {ps : List Str} {sp sp' : Sp} (D : Def P w K mg base k x ps sp) (h : ∀ vs H Q E, sp' vs H Q E → sp vs H Q E) : Def P w K mg base k x ps sp' := by
  obtain ⟨f, fd, F, g, kp, b⟩ := D.ex
  exact ⟨f, fd, F.imp h, g, kp, b⟩
theorem Def.mono {j k : Nat} {x : Str} {ps : List Str} {sp : Sp} (D : Def P w K mg base j x ps sp) (h : j ≤ k) : Def P w K mg base k x ps sp := by
  obtain ⟨f, fd, F, g, kp, b⟩ := D.ex
  exact ⟨f, fd, F.mono h, g, kp, b⟩
theorem Def.forget {k : Nat} {x : Str} {ps : List Str} {sp : Sp} (D : Def P w K mg base k x ps sp) : Def P w K mg base k x ps (fun vs H Q E => NoT H ∧ sp vs H (fun v H' => Same H H' ∧ Q v H) E) := by
  obtain ⟨f, fd, F, g, kp, b⟩ := D.ex
  exact ⟨f, fd, fn_forget F, g, kp, b⟩
end
section
variable {X : Cx}
theorem pe_d {k : Nat} {x : Str} {ps : List Str} {sp : Sp} {E : XK} {p pos : Pos} {e : Expr} {es : List Expr} {t : TA} (D : Def X.prog X.w X.K X.mg X.base k x ps sp) (hr : Room k X.A) (hx : Passes (L2.CX X.prog X.w) X E) (ha : PA X (e :: es) t) (hg : Gl X x := by rfl)
    (hd : (x == ("__debug__" : Str)) = false := by decide) (he : starEach (e :: es) X.env = (false, eval e X.env) :: starEach es X.env := by rfl) (hpl : (backTo pos (starEach es X.env)).any (·.1) = false := by rfl) :
    PE X (.Call (.Name x p) (e :: es) [] pos) (tCall sp [] E t) := by
  obtain ⟨f, fd, F, g, kp, b⟩ := D.ex
  exact pe_call F hr hg g kp b .nil hx ha hd he hpl
theorem rd_callS {sp : Sp} {W : WX} {tr : TA} {σ : St} {H : Hp} {Q : VK} (h : tr σ H fun vs H1 => sp vs H1 Q (WE W σ)) : tCallS sp (WE W) tr σ H Q := h
instance st_callS {sp : Sp} {W : WX} {tr : TA} {σ : St} {H : Hp} {Q : VK} : Stp (tCallS sp (WE W) tr σ H Q) (tr σ H fun vs H1 => sp vs H1 Q (WE W σ)) := ⟨fun h => rd_callS h⟩
end
/-! ### the program's own errors -/
/-- what the top has written of ClockError, at CC -/
structure BaseC (K : PySem.W.Frag) (mg : Str → Option Value) (CC : Addr) : Prop where
  g : mg "ClockError" = some (.ref CC)
  rd : PySem.W.readsIn K CC (.type "type") = true
  ga : PySem.W.specialIn K (.ref CC) "__getattribute__" = some (some (.builtin "type.__getattribute__"))
  ini : PySem.W.findCls K (.ref CC) (.type "type") "__init__" = some (.val (.builtin "ValueError.__init__"))
section
variable {X : Cx} {e : Expr} {es : List Expr} {ta : TA} {p1 p2 pos : Pos}
theorem pe_ceinit {pl : Sem Bool} {CC : Addr} (B : BaseC X.K X.mg CC) (ha : PA X (e :: es) ta) (hg : Gl X "ClockError" := by rfl)
    (hc : eval (.Call (.Attribute (.Name "ClockError" p1) "__init__" p2) (e :: es) [] pos) X.env = (do
      let ov ← eval (.Name "ClockError" p1) X.env
      standAt p2.atName
      let (f, first) ← holding [ov] (getMethod ov "__init__" pl)
      callWith pos f first (backTo pos (starEach (e :: es) X.env)) (backToKw pos (keywordEach [] X.env))) := by rfl)
    (he : starEach (e :: es) X.env = (false, eval e X.env) :: starEach es X.env := by rfl) (hpl : (backTo pos (starEach es X.env)).any (·.1) = false := by rfl) :
    PE X (.Call (.Attribute (.Name "ClockError" p1) "__init__" p2) (e :: es) [] pos) (tVeI X.K ta) := by
  refine ⟨fun pins s σ H Q I h => ?_⟩
  refine PySem.W.methodCall_KW (ld_glob I hg B.g ?_ (by decide)) hc
  refine PySem.W.method_cls I.kIn B.ga (PySem.W.cls_value I.kIn B.rd B.ini (by decide +kernel) ?_)
  show wpAny _ _ (callWith pos (Value.builtin "ValueError.__init__") [] (backTo pos (starEach (e :: es) X.env)) []) _ _ _
  refine PyProof.Rows.callWith_method1 (thn (ha.run pos pins _ σ H _ (I.tok _) h) fun us s1 ⟨vs, H1, I1, r1, a, C, ws, ev, hl, T, ea, q⟩ => ?_) he hpl
  subst ev
  cases r1 with
  | @cons _ u0 _ ur ra rw' =>
    obtain rfl : u0 = Value.ref a := ra
    have hlen : ur.length ≤ sizeLine := by
      rw [← Paired.length rw', sizeLine_eq]
      omega
    exact oinit_ok T I1 ea hlen fun s' J => ⟨.non, H1, J, rfl, q⟩
end
/-- __init__ of an error with fields: the values ws become fl ws -/
def spErr (C : Addr) (n : Nat) (fl : List V → List (Str × V)) : Sp := fun vs H Q _ => ∃ (a : Addr) (ws : List V), vs = .ref a :: ws ∧ ws.length = n ∧ H a = some (exo a C none) ∧
  ∀ dx, H dx = none → dx ≠ a → Q .non (upd (upd H dx (exd dx (fl ws))) a (exo a C (some dx)))
/-- a class of the program's errors: raised by its name, with n values, the fields fl -/
structure ErrC (P : Program) (w : World) (K : PySem.W.Frag) (mg : Str → Option Value) (base : Heap) (x : Str) (n : Nat) (fl : List V → List (Str × V)) (C : Addr) : Prop where
  g : mg x = some (.ref C)
  T : OexC K C
  X : XfC K C
  self : PySem.W.exmOne K (.ref C) (.ref C) = some true
  ini : ∃ (fI : Addr) (fd : FuncData) (ps : List Str), PySem.W.findIn K (.ref C) "__init__" = some (some (.ref fI)) ∧ PySem.W.typeIn K (.ref fI) = some (.type "function") ∧ FnOk P w K mg base (L2.CX P w) 1 fI fd ps (spErr C n fl) ∧ Binds K fd ps []
theorem pmk_err {X : Cx} {x : Str} {C : Addr} {n : Nat} {fl : List V → List (Str × V)} {e : Expr} {es : List Expr} {ta : TA} {p pos : Pos} (Z : ErrC X.prog X.w X.K X.mg X.base x n fl C) (hr : Room 2 X.A) (ha : PA X (e :: es) ta) (hg : Gl X x := by rfl)
    (hdb : (x == ("__debug__" : Str)) = false := by decide) (he : starEach (e :: es) X.env = (false, eval e X.env) :: starEach es X.env := by rfl) (hpl : (backTo pos (starEach es X.env)).any (·.1) = false := by rfl) :
    PMk X (.Call (.Name x p) (e :: es) [] pos) (tMkO C (spErr C n fl) [] ta) := by
  obtain ⟨fI, fd, ps, iC, tI, F, b⟩ := Z.ini
  exact pmk_oex Z.T iC tI F hr b .nil passL hg Z.g ha hdb he hpl
/-- what the raising asks -/
theorem rd_mk {C : Addr} {n : Nat} {fl : List V → List (Str × V)} {ta : TA} {σ : St} {H : Hp} {Q : XK} (h : ta σ H fun vs H1 => vs.length ≤ 1000 ∧ ∀ a, H1 a = none → spErr C n fl (.ref a :: (vs ++ [])) (upd H1 a (exo a C none))
  (fun v H2 => v = .non ∧ ∃ (d : Addr) (fs : List (Str × V)), H2 a = some (exo a C (some d)) ∧ H2 d = some (exd d fs) ∧ H1 d = none ∧ Q (.ref C) (some d) (upd (del H2 a) d (.xd fs))) (fun _ _ _ => False)) : tMkO C (spErr C n fl) [] ta σ H Q := h
instance st_mk {C : Addr} {n : Nat} {fl : List V → List (Str × V)} {ta : TA} {σ : St} {H : Hp} {Q : XK} : Stp (tMkO C (spErr C n fl) [] ta σ H Q) (ta σ H fun vs H1 => vs.length ≤ 1000 ∧ ∀ a, H1 a = none → spErr C n fl (.ref a :: (vs ++ [])) (upd H1 a (exo a C none))
  (fun v H2 => v = .non ∧ ∃ (d : Addr) (fs : List (Str × V)), H2 a = some (exo a C (some d)) ∧ H2 d = some (exd d fs) ∧ H1 d = none ∧ Q (.ref C) (some d) (upd (del H2 a) d (.xd fs))) (fun _ _ _ => False)) := ⟨fun h => rd_mk h⟩
theorem rd_mk1 {C : Addr} {n : Nat} {fl : List V → List (Str × V)} {vs : List V} {H1 : Hp} {Q : XK} (hl : vs.length = n) (hn : n ≤ 1000) (h : ∀ d, H1 d = none → Q (.ref C) (some d) (upd H1 d (.xd (fl vs)))) :
    vs.length ≤ 1000 ∧ ∀ a, H1 a = none → spErr C n fl (.ref a :: (vs ++ [])) (upd H1 a (exo a C none))
      (fun v H2 => v = .non ∧ ∃ (d : Addr) (fs : List (Str × V)), H2 a = some (exo a C (some d)) ∧ H2 d = some (exd d fs) ∧ H1 d = none ∧ Q (.ref C) (some d) (upd (del H2 a) d (.xd fs))) (fun _ _ _ => False) := by
  refine ⟨by omega, fun a na => ⟨a, vs, by rw [List.append_nil], hl, upd_same, fun dx nd ne => ⟨rfl, dx, fl vs, upd_same, ?_, ?_, ?_⟩⟩⟩
  · rw [upd_ne ne, upd_same]
  · rw [upd_ne ne] at nd
    exact nd
  · have nd' : H1 dx = none := by
      rw [upd_ne ne] at nd
      exact nd
    have z := h dx nd'
    have eq : upd (del (upd (upd (upd H1 a (exo a C none)) dx (exd dx (fl vs))) a (exo a C (some dx))) a) dx (.xd (fl vs)) = upd H1 dx (.xd (fl vs)) := by
      funext b
      by_cases hb : b = dx
      · rw [hb, upd_same, upd_same]
      · rw [upd_ne hb, upd_ne hb]
        by_cases ha : b = a
        · rw [ha, del_same, na]
        · rw [del_ne ha, upd_ne ha, upd_ne hb, upd_ne ha]
    rw [eq]
    exact z
end L2
namespace L2
open PySem PySem.Spec PyProof.Rows
/-- what the top has written of an error's class -/
structure ErrRaw (K : PySem.W.Frag) (mg : Str → Option Value) (x : Str) (C : Addr) (sI : Stmt) (qual : Str) (ps : List Str) : Prop where
  g : mg x = some (.ref C)
  T : OexC K C
  X : XfC K C
  self : PySem.W.exmOne K (.ref C) (.ref C) = some true
  ini : ∃ (fI : Addr) (fd : FuncData), PySem.W.findIn K (.ref C) "__init__" = some (some (.ref fI)) ∧ PySem.W.typeIn K (.ref fI) = some (.type "function") ∧ Fun K "__init__" qual sI fI fd ∧ Binds K fd ps []
theorem ErrC.of {P : Program} {w : World} {K : PySem.W.Frag} {mg : Str → Option Value} {base : Heap} {x : Str} {C : Addr} {sI : Stmt} {qual : Str} {ps : List Str} {n : Nat} {fl : List V → List (Str × V)} (R : ErrRaw K mg x C sI qual ps)
    (h : ∀ (fI : Addr) (fd : FuncData), Fun K "__init__" qual sI fI fd → FnOk P w K mg base (L2.CX P w) 1 fI fd ps (spErr C n fl)) : ErrC P w K mg base x n fl C := by
  obtain ⟨fI, fd, i, t, F, b⟩ := R.ini
  exact ⟨R.g, R.T, R.X, R.self, fI, fd, ps, i, t, h fI fd F, b⟩
/-- an error of the class at S is what «except S» names -/
theorem exm_self {K : PySem.W.Frag} {S : Addr} (h1 : PySem.W.subIn K (.ref S) (.type "BaseException") = some true) (h2 : PySem.W.isClsIn K S = true) (h3 : PySem.W.typeIn K (.ref S) = some (.type "type")) (h4 : PySem.W.subIn K (.ref S) (.ref S) = some true) :
    PySem.W.exmOne K (.ref S) (.ref S) = some true := by
  have e1 : (PySem.W.subIn K (.ref S) (.type "BaseException") == some true) = true := by rw [h1] <;> rfl
  have e2 : ((PySem.W.clsIn K S).isSome && PySem.W.typeIn K (.ref S) == some (.type "type")) = true := by
    have h2' : (PySem.W.clsIn K S).isSome = true := h2
    rw [h2', h3] <;> rfl
  show (if (PySem.W.subIn K (.ref S) (.type "BaseException") == some true) = true then (if ((PySem.W.clsIn K S).isSome && PySem.W.typeIn K (.ref S) == some (.type "type")) = true then PySem.W.subIn K (.ref S) (.ref S) else none) else none) = some true
  rw [if_pos e1, if_pos e2]
  exact h4
theorem NoT.only {H : Hp} (h : Only H) : NoT H := fun a o e => by
  rcases h a with z | ⟨u, xs, z⟩
  · rw [z] at e
    cases e
  · rw [z] at e
    cases e
    rfl
theorem len_1 {α : Type} {ws : List α} (h : ws.length = 1) : ∃ a, ws = [a] := match ws, h with | [a], _ => ⟨a, rfl⟩
/-- law's: a list of at most 63 ints is handed in, True comes out -/
def spLaw (K : PySem.W.Frag) : Sp := fun vs H Q _ => ∃ (a : Addr) (ns : List Int), vs = [.ref a] ∧ SqL K H a (ns.map V.int) ∧ ns.length ≤ 63 ∧ NoT H ∧ ∀ H', Q (.bl true) H'
end L2
namespace L2
open PySem PySem.Spec PyProof.Rows
/-! ### what is walked, by name -/
def rRng1 (S : It → Hp → Prop) (vs : List V) (H : Hp) : Prop := ∃ j : Int, vs = [.int j] ∧ -(2 ^ 62) ≤ j ∧ j < 2 ^ 62 ∧ S (Itr 0 j.toNat) H
def rRng2 (S : It → Hp → Prop) (vs : List V) (H : Hp) : Prop := ∃ i j : Int, vs = [.int i, .int j] ∧ (-(2 ^ 62) ≤ i ∧ i < 2 ^ 62 ∧ -(2 ^ 62) ≤ j ∧ j < 2 ^ 62) ∧ S (Itr i (j - i).toNat) H
def rItL (K : PySem.W.Frag) (S : It → Hp → Prop) (x : V) (H : Hp) : Prop := ∃ a, x = .ref a ∧ (∃ xs, SqL K H a xs) ∧ S (Itl K a) H
def rItT (K : PySem.W.Frag) (S : It → Hp → Prop) (x : V) (H : Hp) : Prop := ∃ a, x = .ref a ∧ (∃ xs, SqT K H a xs) ∧ S (Itt K a) H
section
variable {σ : St} {H : Hp} {Q : VK} {K : PySem.W.Frag} {v x y : V} {ta te : TE} {tt : TT} {tr : TA} {S : It → Hp → Prop}
theorem rd_iR1 (h : tr σ H (rRng1 S)) : iRng1 tr σ H S := h
instance st_iR1  : Stp (iRng1 tr σ H S) (tr σ H (rRng1 S)) := ⟨fun h => rd_iR1 h⟩
theorem rd_iR2 (h : tr σ H (rRng2 S)) : iRng2 tr σ H S := h
instance st_iR2  : Stp (iRng2 tr σ H S) (tr σ H (rRng2 S)) := ⟨fun h => rd_iR2 h⟩
theorem rd_r1 {n : Int} (h1 : -(2 ^ 62) ≤ n) (h2 : n < 2 ^ 62) (q : S (Itr 0 n.toNat) H) : rRng1 S [.int n] H := ⟨n, rfl, h1, h2, q⟩
theorem rd_r2 {m n : Int} (h1 : -(2 ^ 62) ≤ m ∧ m < 2 ^ 62 ∧ -(2 ^ 62) ≤ n ∧ n < 2 ^ 62) (q : S (Itr m (n - m).toNat) H) : rRng2 S [.int m, .int n] H := ⟨m, n, rfl, h1, q⟩
theorem rd_iL (h : ta σ H (rItL K S)) : iList K ta σ H S := h
instance st_iL  : Stp (iList K ta σ H S) (ta σ H (rItL K S)) := ⟨fun h => rd_iL h⟩
theorem rd_iT (h : ta σ H (rItT K S)) : iTup K ta σ H S := h
instance st_iT  : Stp (iTup K ta σ H S) (ta σ H (rItT K S)) := ⟨fun h => rd_iT h⟩
theorem rd_iL1 {a : Addr} {xs : List V} (h : SqL K H a xs) (q : S (Itl K a) H) : rItL K S (.ref a) H := ⟨a, rfl, ⟨xs, h⟩, q⟩
theorem rd_iT1 {a : Addr} {xs : List V} (h : SqT K H a xs) (q : S (Itt K a) H) : rItT K S (.ref a) H := ⟨a, rfl, ⟨xs, h⟩, q⟩
/-! ### list comprehensions -/
def lcB (J : It) (g : TG) (tt : TT) (te : TE) (vs : List Nat) (σ : St) (Q : VK) (H1 : Hp) : Prop := ∀ D, H1 D = none → ∃ W : Nat → Nat → Hp → Prop, (∃ m, W 0 m (upd H1 D (.lst []))) ∧ ∀ i m H, W i m H →
  (J.stop i H ∧ Q (.ref D) H) ∨ (J.go i H ∧ ∃ Nx : Hp → Prop, (∀ H', Nx H' → ∃ m', m' < m ∧ W (i + 1) m' H') ∧ ∀ x H', J.yld i H x H' → g x (wipe σ vs) H' fun σ2 H2 => wipe σ2 vs = wipe σ vs ∧ tt σ2 H2 fun b H3 =>
    if b = true then te σ2 H3 fun y H4 => ∃ acc, H4 D = some (.lst acc) ∧ acc.length < sizeLine ∧ Nx (upd H4 D (.lst (acc ++ [y]))) else Nx H3)
theorem rd_lc {wi : TI} {g : TG} {vs : List Nat} (h : wi σ H fun J H1 => lcB J g tt te vs σ Q H1) : tLc wi g tt te vs σ H Q := h
instance st_lc {wi : TI} {g : TG} {vs : List Nat} : Stp (tLc wi g tt te vs σ H Q) (wi σ H fun J H1 => lcB J g tt te vs σ Q H1) := ⟨fun h => rd_lc h⟩
theorem rd_yes {R : Bool → Hp → Prop} (q : R true H) : tYes σ H R := q
instance st_yes {R : Bool → Hp → Prop} : Stp (tYes σ H R) (R true H) := ⟨fun h => rd_yes h⟩
/-- the item that was made goes onto the list; or none does -/
def LcPut (H : Hp) (D : Addr) (l0 l1 : List V) (y : V) (H4 : Hp) : Prop := ∃ acc, H4 D = some (.lst acc) ∧ acc.length < sizeLine ∧ upd H4 D (.lst (acc ++ [y])) = upd H D (.lst l1)
def LcSkip (H : Hp) (D : Addr) (l1 : List V) (H3 : Hp) : Prop := H3 = upd H D (.lst l1)
def resR (p : Nat → Bool) (f : Nat → V) (i : Nat) : List V := ((List.range i).filter p).map f
theorem resR_len {p : Nat → Bool} {f : Nat → V} {i : Nat} : (resR p f i).length ≤ i := by
  unfold resR
  rw [List.length_map]
  have z : ((List.range i).filter p).length ≤ (List.range i).length := List.length_filter_le _ _
  rw [List.length_range] at z
  exact z
theorem put_R {D : Addr} {p : Nat → Bool} {f : Nat → V} {i : Nat} {y : V} (hi : i < 1000000) (hp : p i = true) (hy : y = f i) : LcPut H D (resR p f i) (resR p f (i + 1)) y (upd H D (.lst (resR p f i))) := by
  refine ⟨_, upd_same, Nat.lt_of_le_of_lt resR_len (Nat.lt_trans hi (by decide)), ?_⟩
  rw [upd_upd]
  unfold resR
  rw [List.range_succ, List.filter_append, List.map_append, hy]
  simp [hp]
theorem skip_R {D : Addr} {p : Nat → Bool} {f : Nat → V} {i : Nat} (hp : p i = false) : LcSkip H D (resR p f (i + 1)) (upd H D (.lst (resR p f i))) := by
  show upd H D _ = _
  unfold resR
  rw [List.range_succ, List.filter_append, List.map_append]
  simp [hp]
theorem rd_lcR {lo : Int} {n : Nat} {g : TG} {vs : List Nat} (p : Nat → Bool) (f : Nat → V)
    (hs : ∀ D i, H D = none → i < n → g (.int (lo + i)) (wipe σ vs) (upd H D (.lst (resR p f i))) fun σ2 H2 => wipe σ2 vs = wipe σ vs ∧ tt σ2 H2 fun b H3 => if b = true then te σ2 H3 (LcPut H D (resR p f i) (resR p f (i + 1))) else LcSkip H D (resR p f (i + 1)) H3)
    (q : ∀ D, H D = none → Q (.ref D) (upd H D (.lst (((List.range n).filter p).map f)))) : lcB (Itr lo n) g tt te vs σ Q H := by
  intro D hD
  refine ⟨fun i m H' => m = n - i ∧ i ≤ n ∧ H' = upd H D (.lst (resR p f i)), ⟨n, by simp, Nat.zero_le _, rfl⟩, ?_⟩
  rintro i m H' ⟨rfl, hi, rfl⟩
  by_cases hlt : i < n
  · refine .inr ⟨hlt, fun H' => H' = upd H D (.lst (resR p f (i + 1))), fun H' p' => ⟨n - (i + 1), by omega, rfl, hlt, p'⟩, fun x H' y => ?_⟩
    obtain ⟨e, y⟩ := y
    subst e y
    exact hs D i hD hlt
  · have e : i = n := by omega
    subst e
    exact .inl ⟨Nat.le_refl _, q D hD⟩
/-! ### deep equality -/
theorem rd_eqD {d e : PyData} (h1 : Dp K H x d) (h2 : Dp K H y e) (s1 : SeqAt.shaped d = true) (s2 : SeqAt.shaped e = true) (q : Q (.bl (PyData.eqv d e)) H) : rEqD K x y H Q := ⟨d, e, h1, h2, s1, s2, q⟩
theorem rd_neD {d e : PyData} (h1 : Dp K H x d) (h2 : Dp K H y e) (s1 : SeqAt.shaped d = true) (s2 : SeqAt.shaped e = true) (q : Q (.bl (!PyData.eqv d e)) H) : rNeD K x y H Q := ⟨d, e, h1, h2, s1, s2, q⟩
end
section
variable {K : PySem.W.Frag} {H : Hp}
theorem dpAll_ints : ∀ ns : List Int, DpAll K H (ns.map V.int) (ns.map PyData.int)
  | [] => .nil
  | n :: r => .cons (.int n) (dpAll_ints r)
theorem dpAll_bls : ∀ ns : List Bool, DpAll K H (ns.map V.bl) (ns.map PyData.bool)
  | [] => .nil
  | n :: r => .cons (.bl n) (dpAll_bls r)
theorem dp_ints {a : Addr} {ns : List Int} (h : SqL K H a (ns.map V.int)) : Dp K H (.ref a) (.list (ns.map PyData.int)) := .lst h (dpAll_ints ns)
end
theorem eqv_ints : ∀ ns ms : List Int, PyData.eqvAll (ns.map PyData.int) (ms.map PyData.int) = decide (ns = ms)
  | [], [] => rfl
  | [], _ :: _ => rfl
  | _ :: _, [] => rfl
  | n :: r, m :: s => by
    rw [List.map_cons, List.map_cons, PyData.eqvAll, eqv_ints r s]
    by_cases h : n = m
    · subst h
      simp [PyData.eqv]
    · have : (n == m) = false := by simpa using h
      simp [PyData.eqv, this, h]
/-! ### a clause of a try -/
section
variable {σ : St} {H : Hp} {K : PySem.W.Frag} {nx : St → Hp → Prop} {rt : VK} {bk ct : St → Hp → Prop} {Q : VK} {te : TE}
theorem rd_was {c cls : Value} {i : Nat} {ts : Addr → Value → Option Addr → TS} {Wout : WX} {d : Option Addr} (hx : PySem.W.exmOne K cls c = some true)
    (q : ∀ a, H a = none → ts a cls d ⟨fun σ' H' => nx (σ'.set i none) H', rt, fun σ' H' => bk (σ'.set i none) H', fun σ' H' => ct (σ'.set i none) H'⟩ (σ.set i (some (.ref a))) H) : WE (wAs K c i ts Wout ⟨nx, rt, bk, ct⟩) σ cls d H :=
  ⟨true, hx, fun _ a h => q a h, fun h => nomatch h⟩
theorem rd_wonly {c cls : Value} {ts : Addr → Value → Option Addr → TS} {Wout : WX} {d : Option Addr} (hx : PySem.W.exmOne K cls c = some true)
    (q : ∀ a, H a = none → ts a cls d ⟨nx, rt, bk, ct⟩ σ H) : WE (wOnly K c ts Wout ⟨nx, rt, bk, ct⟩) σ cls d H :=
  ⟨true, hx, fun _ a h => q a h, fun h => nomatch h⟩
def XfB (a : Addr) (cls : Value) (d : Option Addr) (C : Addr) (f : Str) (x : V) (H1 : Hp) (Q : VK) : Prop := x = .ref a ∧ cls = .ref C ∧ ∃ (dd : Addr) (fs : List (Str × V)) (v : V), d = some dd ∧ H1 dd = some (.xd fs) ∧ fs.lookup f = some v ∧ Q v H1
theorem rd_xf {a C : Addr} {cls : Value} {d : Option Addr} {f : Str} (h : te σ H fun x H1 => XfB a cls d C f x H1 Q) : tXf a cls d C f te σ H Q := h
instance st_xf {a C : Addr} {cls : Value} {d : Option Addr} {f : Str} : Stp (tXf a cls d C f te σ H Q) (te σ H fun x H1 => XfB a cls d C f x H1 Q) := ⟨fun h => rd_xf h⟩
theorem rd_xfb {a C dd : Addr} {f : Str} {fs : List (Str × V)} {v : V} (h : H dd = some (.xd fs)) (hl : fs.lookup f = some v) (q : Q v H) : XfB a (.ref C) (some dd) C f (.ref a) H Q := ⟨rfl, rfl, dd, fs, v, rfl, h, hl, q⟩
end
end L2
namespace L2
open PySem PySem.Spec PyProof.Rows
section
variable {σ : St} {H : Hp} {Q : VK} {K : PySem.W.Frag} {N : St → Hp → Prop}
theorem rd_isiII {i : Int} (q : Q (.bl true) H) : rIsi K [.int i, .ty "int"] H Q := ⟨_, _, _, _, true, rfl, .ty _, .base (.int i), kit_ty (by decide +kernel), q⟩
instance st_isiII {i : Int} : Stp (rIsi K [.int i, .ty "int"] H Q) (Q (.bl true) H) := ⟨fun h => rd_isiII h⟩
theorem rd_isiIB {i : Int} (q : Q (.bl false) H) : rIsi K [.int i, .ty "bool"] H Q := ⟨_, _, _, _, false, rfl, .ty _, .base (.int i), kit_ty (by decide +kernel), q⟩
instance st_isiIB {i : Int} : Stp (rIsi K [.int i, .ty "bool"] H Q) (Q (.bl false) H) := ⟨fun h => rd_isiIB h⟩
theorem rd_isiBB {b : Bool} (q : Q (.bl true) H) : rIsi K [.bl b, .ty "bool"] H Q := ⟨_, _, _, _, true, rfl, .ty _, .base (.bl b), kit_ty (by decide +kernel), q⟩
instance st_isiBB {b : Bool} : Stp (rIsi K [.bl b, .ty "bool"] H Q) (Q (.bl true) H) := ⟨fun h => rd_isiBB h⟩
theorem rd_unl {a : Addr} {xs : List V} {n : Nat} {t : TGs} (h : SqL K H a xs) (hn : xs.length = n) (q : t xs σ H N) : gUnl K n t (.ref a) σ H N := ⟨a, xs, rfl, h, hn, q⟩
theorem rd_slL {a : Addr} {xs : List V} {lo hi : Option Int} (h : SqL K H a xs) (q : ∀ p, H p = none → Q (.ref p) (upd H p (.lst (cutV xs lo hi)))) : rSlL K (.ref a) lo hi H Q := ⟨a, xs, rfl, h, q⟩
theorem rd_sl {r : V → Option Int → Option Int → Hp → VK → Prop} {te : TE} {tl th : TO} (h : te σ H fun x H1 => tl σ H1 fun l H2 => th σ H2 fun u H3 => r x l u H3 Q) : tSl r te tl th σ H Q := h
instance st_sl {r : V → Option Int → Option Int → Hp → VK → Prop} {te : TE} {tl th : TO} : Stp (tSl r te tl th σ H Q) (te σ H fun x H1 => tl σ H1 fun l H2 => th σ H2 fun u H3 => r x l u H3 Q) := ⟨fun h => rd_sl h⟩
theorem rd_noPart {R : Option Int → Hp → Prop} (q : R none H) : tNoPart σ H R := q
instance st_noPart {R : Option Int → Hp → Prop} : Stp (tNoPart σ H R) (R none H) := ⟨fun h => rd_noPart h⟩
def rPart (R : Option Int → Hp → Prop) (x : V) (H : Hp) : Prop := ∃ i, x = .int i ∧ R (some i) H
theorem rd_part {te : TE} {R : Option Int → Hp → Prop} (h : te σ H (rPart R)) : tPart te σ H R := h
instance st_part {te : TE} {R : Option Int → Hp → Prop} : Stp (tPart te σ H R) (te σ H (rPart R)) := ⟨fun h => rd_part h⟩
theorem rd_part1 {i : Int} {R : Option Int → Hp → Prop} (q : R (some i) H) : rPart R (.int i) H := ⟨i, rfl, q⟩
instance st_part1 {i : Int} {R : Option Int → Hp → Prop} : Stp (rPart R (.int i) H) (R (some i) H) := ⟨fun h => rd_part1 h⟩
theorem rd_cat {l b : Addr} {xs zs : List V} (h1 : H l = some (.lst xs)) (h2 : H b = some (.lst zs)) (h3 : xs.length + zs.length ≤ sizeLine) (q : ∀ p, H p = none → Q (.ref p) (upd H p (.lst (xs ++ zs)))) : rCat (.ref l) (.ref b) H Q := ⟨l, b, xs, zs, rfl, rfl, h1, h2, h3, q⟩
end
end L2
namespace L2
theorem lt_pow_of {i : Int} {k : Nat} (h1 : -(2 ^ k) < i) (h2 : i < 2 ^ k) : i.natAbs < 2 ^ k := by
  have e : ((2 ^ k : Nat) : Int) = 2 ^ k := by rw [Int.natCast_pow]; rfl
  omega
theorem CMulB.wide {i j : Int} (h1 : -(2 ^ 250) < i ∧ i < 2 ^ 250) (h2 : -(2 ^ 250) < j ∧ j < 2 ^ 250) : CMulB i j :=
  .inr (wide_mul (lt_pow_of h1.1 h1.2) (lt_pow_of h2.1 h2.2) (by decide) (by decide) (by decide))
end L2
namespace L2
open PySem PySem.Spec PyProof.Rows
section
variable {H : Hp} {Q : VK} {K : PySem.W.Frag} {p : Addr}
theorem rd_in2L {i a b : Int} (q : Q (.bl (decide (i = a ∨ i = b))) (upd H p (.lst [.int a, .int b]))) : rIn K false (.int i) (.ref p) (upd H p (.lst [.int a, .int b])) Q :=
  ⟨p, _, rfl, .inl (SqL.of upd_same), rfl, rfl, by
    show Q (.bl (inV (.int i) [.int a, .int b])) _
    rw [inV2]
    exact q⟩
instance st_in2L {i a b : Int} : Stp (rIn K false (.int i) (.ref p) (upd H p (.lst [.int a, .int b])) Q) (Q (.bl (decide (i = a ∨ i = b))) (upd H p (.lst [.int a, .int b]))) := ⟨fun h => rd_in2L h⟩
theorem rd_nin2L {i a b : Int} (q : Q (.bl (!decide (i = a ∨ i = b))) (upd H p (.lst [.int a, .int b]))) : rIn K true (.int i) (.ref p) (upd H p (.lst [.int a, .int b])) Q :=
  ⟨p, _, rfl, .inl (SqL.of upd_same), rfl, rfl, by
    show Q (.bl (!inV (.int i) [.int a, .int b])) _
    rw [inV2]
    exact q⟩
instance st_nin2L {i a b : Int} : Stp (rIn K true (.int i) (.ref p) (upd H p (.lst [.int a, .int b])) Q) (Q (.bl (!decide (i = a ∨ i = b))) (upd H p (.lst [.int a, .int b]))) := ⟨fun h => rd_nin2L h⟩
theorem rd_nin2 {i a b : Int} (q : Q (.bl (!decide (i = a ∨ i = b))) (upd H p (.tup [.int a, .int b]))) : rIn K true (.int i) (.ref p) (upd H p (.tup [.int a, .int b])) Q :=
  ⟨p, _, rfl, .inr (SqT.of upd_same), rfl, rfl, by
    show Q (.bl (!inV (.int i) [.int a, .int b])) _
    rw [inV2]
    exact q⟩
instance st_nin2 {i a b : Int} : Stp (rIn K true (.int i) (.ref p) (upd H p (.tup [.int a, .int b])) Q) (Q (.bl (!decide (i = a ∨ i = b))) (upd H p (.tup [.int a, .int b]))) := ⟨fun h => rd_nin2 h⟩
theorem beq_str {a s : Str} : (a == s) = decide (s = a) := by
  rw [Bool.beq_eq_decide_eq]
  exact decide_eq_decide.mpr eq_comm
theorem inVs4 {s a b c d : Str} : inV (.str s) [.str a, .str b, .str c, .str d] = decide (s = a ∨ s = b ∨ s = c ∨ s = d) := by
  simp only [inV, eqV, List.any_cons, List.any_nil, Bool.or_false, Bool.decide_or, beq_str]
theorem rd_ninS4 {s a b c d : Str} (q : Q (.bl (!decide (s = a ∨ s = b ∨ s = c ∨ s = d))) (upd H p (.lst [.str a, .str b, .str c, .str d]))) : rIn K true (.str s) (.ref p) (upd H p (.lst [.str a, .str b, .str c, .str d])) Q :=
  ⟨p, _, rfl, .inl (SqL.of upd_same), rfl, rfl, by
    show Q (.bl (!inV (.str s) [.str a, .str b, .str c, .str d])) _
    rw [inVs4]
    exact q⟩
instance st_ninS4 {s a b c d : Str} : Stp (rIn K true (.str s) (.ref p) (upd H p (.lst [.str a, .str b, .str c, .str d])) Q) (Q (.bl (!decide (s = a ∨ s = b ∨ s = c ∨ s = d))) (upd H p (.lst [.str a, .str b, .str c, .str d]))) := ⟨fun h => rd_ninS4 h⟩
end
end L2
namespace L2
open PySem PySem.Spec PyProof.Rows
theorem lay_all : ∀ {ds : List PyData}, (∀ d ∈ ds, d.canLay0 = true ∧ d.depth ≤ 60) → PyData.canLayAll0 ds = true ∧ PyData.depthAll ds ≤ 60
  | [], _ => ⟨rfl, Nat.zero_le _⟩
  | d :: ds, h => by
    obtain ⟨a, b⟩ := lay_all (ds := ds) fun e he => h e (List.mem_cons_of_mem _ he)
    obtain ⟨c, e⟩ := h d (List.mem_cons_self ..)
    simp only [PyData.canLayAll0, PyData.depthAll]
    exact ⟨by rw [c, a]; rfl, Nat.max_le.mpr ⟨e, b⟩⟩
theorem shaped_list {ds : List PyData} (h : ∀ d ∈ ds, d.canLay0 = true ∧ d.depth ≤ 60) : SeqAt.shaped (.list ds) = true := by
  obtain ⟨a, b⟩ := lay_all h
  unfold SeqAt.shaped
  have : (PyData.list ds).canLay0 = true := a
  rw [this, Bool.true_and, decide_eq_true_eq]
  show PyData.depthAll ds + 1 ≤ 64
  omega
theorem shaped_ints (ns : List Int) : SeqAt.shaped (.list (ns.map PyData.int)) = true := shaped_list fun d hd => by
  obtain ⟨n, _, rfl⟩ := List.mem_map.mp hd
  exact ⟨rfl, by simp [PyData.depth]⟩
section
variable {H : Hp} {Q : VK} {K : PySem.W.Frag} {a b p : Addr}
/-- two lists of whole numbers -/
theorem rd_eqInts {ns ms : List Int} (h1 : SqL K H a (ns.map V.int)) (h2 : SqL K H b (ms.map V.int)) (q : Q (.bl (decide (ns = ms))) H) : rEqD K (.ref a) (.ref b) H Q :=
  ⟨_, _, dp_ints h1, dp_ints h2, shaped_ints _, shaped_ints _, by rw [PyData.eqv, eqv_ints]; exact q⟩
theorem rd_neInts {ns ms : List Int} (h1 : SqL K H a (ns.map V.int)) (h2 : SqL K H b (ms.map V.int)) (q : Q (.bl (!decide (ns = ms))) H) : rNeD K (.ref a) (.ref b) H Q :=
  ⟨_, _, dp_ints h1, dp_ints h2, shaped_ints _, shaped_ints _, by rw [PyData.eqv, eqv_ints]; exact q⟩
theorem rd_isiL {xs : List V} (h : H a = some (.lst xs)) (q : Q (.bl true) H) : rIsi K [.ref a, .ty "list"] H Q := ⟨_, _, _, _, true, rfl, .ty _, .base (.lst h), kit_ty (by decide +kernel), q⟩
theorem rd_isiT {xs : List V} (h : H a = some (.tup xs)) (q : Q (.bl true) H) : rIsi K [.ref a, .ty "tuple"] H Q := ⟨_, _, _, _, true, rfl, .ty _, .base (.tup h), kit_ty (by decide +kernel), q⟩
end
end L2
namespace L2
open PySem PySem.Spec PyProof.Rows
theorem Same.lst {K : PySem.W.Frag} {H0 H : Hp} {a : Addr} {xs : List V} (e : Same H0 H) (h : H0 a = some (.lst xs)) : SqL K H a xs := SqL.of (e _ _ h)
end L2
namespace L2
theorem rd_neF {p A B : Prop} [Decidable p] (h : p) (q : B) : if (!decide p) = true then A else B := by
  rw [decide_eq_true h]
  exact q
theorem rd_eqT {p A B : Prop} [Decidable p] (h : p) (q : A) : if decide p = true then A else B := by
  rw [decide_eq_true h]
  exact q
end L2
namespace L2
open PySem PySem.Spec PyProof.Rows
theorem inV_ints {x : Int} : ∀ {ns : List Int}, inV (.int x) (ns.map V.int) = decide (x ∈ ns)
  | [] => by simp [inV]
  | n :: ns => by
    have := inV_ints (x := x) (ns := ns)
    unfold inV at *
    rw [List.map_cons, List.any_cons, this, eqV, Bool.beq_eq_decide_eq, ← Bool.decide_or]
    refine decide_eq_decide.mpr ?_
    rw [List.mem_cons]
    exact or_congr eq_comm Iff.rfl
theorem flat_ints : ∀ {ns : List Int}, (ns.map V.int).all flatV = true
  | [] => rfl
  | _ :: ns => by
    rw [List.map_cons, List.all_cons, flat_ints (ns := ns)]
    rfl
section
variable {σ : St} {H : Hp} {Q : VK} {K : PySem.W.Frag} {p : Addr} {te : TE} {tt : TC}
theorem rd_inIs {x : Int} {ns : List Int} (h : SqL K H p (ns.map V.int)) (q : Q (.bl (decide (x ∈ ns))) H) : rIn K false (.int x) (.ref p) H Q :=
  rd_inL h rfl flat_ints (by rw [inV_ints]; exact q)
end
end L2
namespace L2
open PySem PySem.Spec PyProof.Rows
end L2
namespace L2
open PySem PySem.Spec PyProof.Rows
/-! ### classes of the text: fields, methods, making, ==, calls -/
structure MethAt (K : PySem.W.Frag) (C : Addr) (m qual : Str) (st : Stmt) (ps : List Str) : Prop where
  ex : ∃ (f : Addr) (fd : FuncData), Fun K m qual st f fd ∧ Meth K C m f ∧ Binds K fd ps []
structure MDef (P : Program) (w : World) (K : PySem.W.Frag) (mg : Str → Option Value) (base : Heap) (k : Nat) (C : Addr) (m : Str) (ps : List Str) (sp : Sp) : Prop where
  ex : ∃ (f : Addr) (fd : FuncData), FnOk P w K mg base (L2.CX P w) k f fd ps sp ∧ Meth K C m f ∧ Binds K fd ps []
structure MkAt (K : PySem.W.Frag) (mg : Str → Option Value) (x : Str) (C : Addr) (qual : Str) (st : Stmt) (ps : List Str) : Prop where
  ex : ∃ (f : Addr) (fd : FuncData), Fun K "__init__" qual st f fd ∧ Mk K C f ∧ Binds K fd ps []
  g : mg x = some (.ref C)
structure MkDef (P : Program) (w : World) (K : PySem.W.Frag) (mg : Str → Option Value) (base : Heap) (k : Nat) (x : Str) (C : Addr) (ps : List Str) (sp : Sp) : Prop where
  ex : ∃ (f : Addr) (fd : FuncData), FnOk P w K mg base (L2.CX P w) k f fd ps sp ∧ Mk K C f ∧ Binds K fd ps []
  g : mg x = some (.ref C)
section
variable {P : Program} {w : World} {K : PySem.W.Frag} {mg : Str → Option Value} {base : Heap}
theorem MethAt.ok {C : Addr} {m qual : Str} {st : Stmt} {N ps : List Str} {k : Nat} {sp : Sp} (D : MethAt K C m qual st ps) (S : FnScope N ps (defScope st)) (len : ∀ vs H Q E, sp vs H Q E → vs.length = ps.length)
    (hbody : ∀ (f : Addr) (cdv : Value) (A : Around) (outer : List Env) (s : Shared) (H : Hp) (vs : List V) (Q : VK) (E : XK), Room k (A.deeper (envOfC qual (defScope st) s.heap.objs.size f cdv)) → sp vs H Q E →
      ∃ t, PSs (cxOf (L2.CX P w) P w K mg base N qual (defScope st) f cdv A outer s H E) (defBody st) t ∧ t ⟨fun _ H' => Q .non H', Q, fun _ _ => False, fun _ _ => False⟩ (start N vs) H) : MDef P w K mg base (k + 1) C m ps sp := by
  obtain ⟨f, fd, F, g, b⟩ := D.ex
  exact ⟨f, fd, F.okX S len fun cdv A outer s H vs Q E hr h => hbody f cdv A outer s H vs Q E hr h, g, b⟩
theorem MkAt.ok {x : Str} {C : Addr} {qual : Str} {st : Stmt} {N ps : List Str} {k : Nat} {sp : Sp} (D : MkAt K mg x C qual st ps) (S : FnScope N ps (defScope st)) (len : ∀ vs H Q E, sp vs H Q E → vs.length = ps.length)
    (hbody : ∀ (f : Addr) (cdv : Value) (A : Around) (outer : List Env) (s : Shared) (H : Hp) (vs : List V) (Q : VK) (E : XK), Room k (A.deeper (envOfC qual (defScope st) s.heap.objs.size f cdv)) → sp vs H Q E →
      ∃ t, PSs (cxOf (L2.CX P w) P w K mg base N qual (defScope st) f cdv A outer s H E) (defBody st) t ∧ t ⟨fun _ H' => Q .non H', Q, fun _ _ => False, fun _ _ => False⟩ (start N vs) H) : MkDef P w K mg base (k + 1) x C ps sp := by
  obtain ⟨f, fd, F, g, b⟩ := D.ex
  exact ⟨⟨f, fd, F.okX S len fun cdv A outer s H vs Q E hr h => hbody f cdv A outer s H vs Q E hr h, g, b⟩, D.g⟩
theorem MDef.imp {k : Nat} {C : Addr} {m : Str} {ps : List Str} {sp sp' : Sp} (D : MDef P w K mg base k C m ps sp) (h : ∀ vs H Q E, sp' vs H Q E → sp vs H Q E) : MDef P w K mg base k C m ps sp' := by
  obtain ⟨f, fd, F, g, b⟩ := D.ex
  exact ⟨f, fd, F.imp h, g, b⟩
theorem MDef.mono {j k : Nat} {C : Addr} {m : Str} {ps : List Str} {sp : Sp} (D : MDef P w K mg base j C m ps sp) (h : j ≤ k) : MDef P w K mg base k C m ps sp := by
  obtain ⟨f, fd, F, g, b⟩ := D.ex
  exact ⟨f, fd, F.mono h, g, b⟩
theorem MDef.forget {k : Nat} {C : Addr} {m : Str} {ps : List Str} {sp : Sp} (D : MDef P w K mg base k C m ps sp) : MDef P w K mg base k C m ps (fun vs H Q E => NoT H ∧ sp vs H (fun v H' => Same H H' ∧ Q v H) E) := by
  obtain ⟨f, fd, F, g, b⟩ := D.ex
  exact ⟨f, fd, fn_forget F, g, b⟩
end
def tFldC (C : Addr) (ta : TE) (f : Str) : TE := fun σ H Q => ta σ H fun x H1 => ∃ a dx fs v, x = .ref a ∧ H1 a = some (.ins C dx fs) ∧ fs.lookup f = some v ∧ Q v H1
def sFldC (C : Addr) (ta tv : TE) (f : Str) : TS := fun D σ H => tv σ H fun y H1 => ta σ H1 fun x H2 => ∃ a dx fs, x = .ref a ∧ H2 a = some (.ins C dx fs) ∧ fs.length < 1000 ∧ D.nx σ (upd H2 a (.ins C dx (putF f y fs)))
def tCallC (C : Addr) (sp : Sp) (E : XK) (tf : TE) (t : TA) : TE := fun σ H Q => tf σ H fun y H1 => ∃ a, y = V.ref a ∧ t σ H1 fun vs H2 => (∃ dx fs, H2 a = some (.ins C dx fs)) ∧ sp (V.ref a :: vs) H2 Q E
def rEqO (K : PySem.W.Frag) (C : Addr) (sp : Sp) (E : XK) : R2 := fun x y H Q => ∃ a dx fs ty, x = .ref a ∧ H a = some (.ins C dx fs) ∧ TyX K H y ty ∧ PySem.W.notFirst K C ty = true ∧ sp [.ref a, y] H (fun v H' => (∃ b, v = .bl b) ∧ Q v H') E
section
variable {X : Cx} {o e value : Expr} {es : List Expr} {f : Str} {pos pos' tpos apos p : Pos} {ta tv : TE} {t : TA} {C : Addr}
theorem pe_fldC (he : PE X e ta) (c : Cls X.K C) (n : NoAttr X.K C f) (hb : attributeBase e f X.env (eval e X.env) = eval e X.env := by rfl) : PE X (.Attribute e f pos) (tFldC C ta f) := by
  refine ⟨fun pins s σ H Q I h => ?_⟩
  refine attr_of hb (thn (he.run pins s σ H _ I h) fun u s1 ⟨x, H1, I1, rx, a, dx, fs, v, ex, ea, l, q⟩ => ?_)
  subst ex
  obtain rfl : u = Value.ref a := rx
  exact getattr_ok I1 ea c n l fun u' s2 I2 ru => ⟨v, H1, I2, ru, q⟩
theorem ps_fldC (ha : PE X o ta) (hv : PE X value tv) (c : Cls X.K C) (n : NoAttr X.K C f) (hs : swapsWith value (some (.Attribute o f pos')) pos.line X.env = pure false := by rfl) : PS X (.Assign [.Attribute o f pos'] value pos) (sFldC C ta tv f) := by
  refine ⟨fun pins s σ H D I h => ?_⟩
  refine plainObj_wpAny_Assign_Attribute (thn (hv.run pins s σ H _ I h) fun u s1 ⟨y, H1, I1, ry, q⟩ => thn (ha.run pins s1 σ H1 _ I1 q) fun ov s2 ⟨x, H2, I2, rx, a, dx, fs, ex, ea, l, q2⟩ => ?_) hs
  subst ex
  obtain rfl : ov = Value.ref a := rx
  exact setattr_ok I2 ea c n l ry fun s3 I3 => ⟨σ, _, I3, q2⟩
theorem pe_md {k : Nat} {m : Str} {ps : List Str} {sp : Sp} {E : XK} {pl : Sem Bool} (D : MDef X.prog X.w X.K X.mg X.base k C m ps sp) (he : PE X o ta) (c : Cls X.K C) (hr : Room k X.A) (hx : Passes (L2.CX X.prog X.w) X E) (ha : PA X (e :: es) t)
    (hst : starEach (e :: es) X.env = (false, eval e X.env) :: starEach es X.env := by rfl) (hpl : (backTo pos (starEach es X.env)).any (·.1) = false := by rfl)
    (ht : eval (.Call (.Attribute o m apos) (e :: es) [] pos) X.env = (do
      let ov ← eval o X.env
      standAt apos.atName
      let (f, first) ← holding [ov] (getMethod ov m pl)
      callWith pos f first (backTo pos (starEach (e :: es) X.env)) (backToKw pos (keywordEach [] X.env))) := by rfl) :
    PE X (.Call (.Attribute o m apos) (e :: es) [] pos) (tMeth C m sp [] E ta t) := by
  obtain ⟨f, fd, F, g, b⟩ := D.ex
  exact pe_meth he c g F hr b .nil hx ha hst hpl ht
theorem pe_mkd {k : Nat} {x : Str} {ps : List Str} {sp : Sp} {E : XK} (D : MkDef X.prog X.w X.K X.mg X.base k x C ps sp) (hr : Room (k + 1) X.A) (hx : Passes (L2.CX X.prog X.w) X E) (ha : PA X (e :: es) t) (hg : Gl X x := by rfl)
    (hdb : (x == ("__debug__" : Str)) = false := by decide) (he : starEach (e :: es) X.env = (false, eval e X.env) :: starEach es X.env := by rfl) (hpl : (backTo pos (starEach es X.env)).any (·.1) = false := by rfl) :
    PE X (.Call (.Name x p) (e :: es) [] pos) (tMake C sp [] E t) := by
  obtain ⟨f, fd, F, M, b⟩ := D.ex
  exact pe_make M F hr hg D.g b .nil hx ha hdb he hpl
theorem pe_mcall {k : Nat} {ps : List Str} {sp : Sp} {E : XK} {fe : Expr} {tf : TE} (D : MDef X.prog X.w X.K X.mg X.base k C "__call__" ps sp) (fi : ∀ g, PySem.W.findIn X.K (.ref C) "__call__" = some (some (.ref g)) → PySem.W.fnIn X.K g = true) (hf : PE X fe tf) (hr : Room k X.A) (hx : Passes (L2.CX X.prog X.w) X E) (ha : PA X (e :: es) t)
    (ht : eval (.Call fe (e :: es) [] pos) X.env = (do callWith pos (← eval fe X.env) [] (backTo pos (starEach (e :: es) X.env)) (backToKw pos (keywordEach [] X.env))) := by rfl)
    (he : starEach (e :: es) X.env = (false, eval e X.env) :: starEach es X.env := by rfl) (hpl : (backTo pos (starEach es X.env)).any (·.1) = false := by rfl) :
    PE X (.Call fe (e :: es) [] pos) (tCallC C sp E tf t) := by
  obtain ⟨f, fd, F, g, b⟩ := D.ex
  refine ⟨fun pins s σ H Q I h => ?_⟩
  refine Call_ (thn (hf.run pins s σ H _ I h) fun u s1 ⟨y, H1, I1, ry, a, ey, q⟩ => ?_) ht
  subst ey
  obtain rfl : u = Value.ref a := ry
  refine StX.callO_with (thn (ha.run pos pins s1 σ H1 _ I1 q) fun us s2 ⟨vs, H2, I2, r, hi, q2⟩ => ?_) he hpl
  obtain ⟨ox, od, J, hd⟩ := StX.insC_at I2 (.inr hi)
  refine ⟨⟨C, ox, od, J, hd⟩, StX.run_callO (sp := fun vs H Q E => sp (vs ++ []) H Q E) ⟨g.at_, g.fn, fi f g.at_⟩ (F.raw b .nil) hr hx I2 (.inr hi) r ?_⟩
  rw [List.append_nil]
  exact q2
/-- x == y, x an instance of C with an own __eq__ -/
theorem op_eqO {k : Nat} {ps : List Str} {sp : Sp} {E : XK} (D : MDef X.prog X.w X.K X.mg X.base k C "__eq__" ps sp) (hr : Room k X.A) (hu : X.A.units < cLine) (hx : Passes (L2.CX X.prog X.w) X E) : OpR X (compareOp .Eq) (rEqO X.K C sp E) := by
  intro pins s σ H x y v u Q I rx ry h
  obtain ⟨f, fd, F, g, b⟩ := D.ex
  obtain ⟨a, dx, fs, ty, rfl, ha, hty, hn, hsp⟩ := h
  cases (show v = Value.ref a from rx)
  obtain ⟨mA, J, _⟩ := ins_get I.hok ha
  obtain ⟨od, J, _⟩ := J.look
  obtain ⟨m, hF⟩ := I.fr
  obtain ⟨P, Z, hp, _⟩ := kit_of I ry hty
  show wpAny (model X.prog X.w) X.A (richCompare .Eq (.ref a) u) (EP X pins σ Q) X.xe s
  refine PySem.W.cmp_K (op := .Eq) (tb := ty) hu hF I.ok.mod.kin J (Z.ty _ s.heap I.kIn hp) hn g.at_ g.fn ?_
  have hl := F.len _ _ _ _ hsp
  refine wpAny_mono (run_fn (dvs := []) (ds := []) (us := [.ref a, u]) (vs := [.ref a, y]) F hr b .nil hx I (.cons rfl (.cons ry .nil)) hsp) (fun r s' q => ?_) fun _ _ z => z
  obtain ⟨z, H', I', rz, ⟨bb, rfl⟩, q⟩ := q
  cases (show r = Value.bool bb from rz)
  exact ⟨.bl bb, H', I', rfl, q⟩
end
section
variable {σ : St} {H : Hp} {Q : VK} {C p : Addr} {ta tv : TE} {t : TA} {f m : Str} {v : V} {nx : St → Hp → Prop} {rt : VK} {bk ct : St → Hp → Prop} {sp : Sp} {E : XK}
theorem rd_fldC (h : ta σ H fun x H1 => ∃ a dx fs v, x = .ref a ∧ H1 a = some (.ins C dx fs) ∧ fs.lookup f = some v ∧ Q v H1) : tFldC C ta f σ H Q := h
instance st_fldC  : Stp (tFldC C ta f σ H Q) (ta σ H fun x H1 => ∃ a dx fs v, x = .ref a ∧ H1 a = some (.ins C dx fs) ∧ fs.lookup f = some v ∧ Q v H1) := ⟨fun h => rd_fldC h⟩
theorem rd_fld1 {dx : Addr} {fs : List (Str × V)} {S : V → Prop} (h : H p = some (.ins C dx fs)) (l : fs.lookup f = some v) (q : S v) : ∃ a dx fs v, V.ref p = .ref a ∧ H a = some (.ins C dx fs) ∧ fs.lookup f = some v ∧ S v := ⟨p, dx, fs, v, rfl, h, l, q⟩
theorem rd_sfldC (h : tv σ H fun y H1 => ta σ H1 fun x H2 => ∃ a dx fs, x = .ref a ∧ H2 a = some (.ins C dx fs) ∧ fs.length < 1000 ∧ nx σ (upd H2 a (.ins C dx (putF f y fs)))) : sFldC C ta tv f ⟨nx, rt, bk, ct⟩ σ H := h
instance st_sfldC  : Stp (sFldC C ta tv f ⟨nx, rt, bk, ct⟩ σ H) (tv σ H fun y H1 => ta σ H1 fun x H2 => ∃ a dx fs, x = .ref a ∧ H2 a = some (.ins C dx fs) ∧ fs.length < 1000 ∧ nx σ (upd H2 a (.ins C dx (putF f y fs)))) := ⟨fun h => rd_sfldC h⟩
theorem rd_sfld1 {dx : Addr} {fs : List (Str × V)} {S : Addr → Addr → List (Str × V) → Prop} (h : H p = some (.ins C dx fs)) (l : fs.length < 1000) (q : S p dx fs) : ∃ a dx fs, V.ref p = .ref a ∧ H a = some (.ins C dx fs) ∧ fs.length < 1000 ∧ S a dx fs := ⟨p, dx, fs, rfl, h, l, q⟩
theorem rd_meth (h : ta σ H fun x H1 => ∃ a dx fs, x = .ref a ∧ H1 a = some (.ins C dx fs) ∧ fs.lookup m = none ∧ t σ H1 fun vs H2 => sp (x :: vs) H2 Q E) : tMeth C m sp [] E ta t σ H Q := by
  show ta σ H fun x H1 => ∃ a dx fs, x = .ref a ∧ H1 a = some (.ins C dx fs) ∧ fs.lookup m = none ∧ t σ H1 fun vs H2 => sp (x :: (vs ++ [])) H2 Q E
  simp only [List.append_nil]
  exact h
instance st_meth  : Stp (tMeth C m sp [] E ta t σ H Q) (ta σ H fun x H1 => ∃ a dx fs, x = .ref a ∧ H1 a = some (.ins C dx fs) ∧ fs.lookup m = none ∧ t σ H1 fun vs H2 => sp (x :: vs) H2 Q E) := ⟨fun h => rd_meth h⟩
theorem rd_meth1 {dx : Addr} {fs : List (Str × V)} {S : Prop} (h : H p = some (.ins C dx fs)) (l : fs.lookup m = none) (q : S) : ∃ a dx fs, V.ref p = .ref a ∧ H a = some (.ins C dx fs) ∧ fs.lookup m = none ∧ S := ⟨p, dx, fs, rfl, h, l, q⟩
theorem rd_make (h : t σ H fun vs H1 => ∀ x dx, H1 x = none → H1 dx = none → dx ≠ x → sp (.ref x :: vs) (upd (upd H1 dx (.own x)) x (.ins C dx [])) (fun v H2 => v = .non ∧ Q (.ref x) H2) E) : tMake C sp [] E t σ H Q := by
  show t σ H fun vs H1 => ∀ x dx, H1 x = none → H1 dx = none → dx ≠ x → sp (.ref x :: (vs ++ [])) (upd (upd H1 dx (.own x)) x (.ins C dx [])) (fun v H2 => v = .non ∧ Q (.ref x) H2) E
  simp only [List.append_nil]
  exact h
instance st_make  : Stp (tMake C sp [] E t σ H Q) (t σ H fun vs H1 => ∀ x dx, H1 x = none → H1 dx = none → dx ≠ x → sp (.ref x :: vs) (upd (upd H1 dx (.own x)) x (.ins C dx [])) (fun v H2 => v = .non ∧ Q (.ref x) H2) E) := ⟨fun h => rd_make h⟩
theorem rd_callC (h : ta σ H fun y H1 => ∃ a, y = V.ref a ∧ t σ H1 fun vs H2 => (∃ dx fs, H2 a = some (.ins C dx fs)) ∧ sp (V.ref a :: vs) H2 Q E) : tCallC C sp E ta t σ H Q := h
instance st_callC : Stp (tCallC C sp E ta t σ H Q) (ta σ H fun y H1 => ∃ a, y = V.ref a ∧ t σ H1 fun vs H2 => (∃ dx fs, H2 a = some (.ins C dx fs)) ∧ sp (V.ref a :: vs) H2 Q E) := ⟨fun h => rd_callC h⟩
theorem rd_callO1 {S : Addr → Prop} (q : S p) : ∃ a, V.ref p = V.ref a ∧ S a := ⟨p, rfl, q⟩
instance st_callO1 {S : Addr → Prop} : Stp (∃ a, V.ref p = V.ref a ∧ S a) (S p) := ⟨fun q => rd_callO1 q⟩
theorem rd_callO2 {dx : Addr} {fs : List (Str × V)} {S : Prop} (h : H p = some (.ins C dx fs)) (q : S) : (∃ dx fs, H p = some (.ins C dx fs)) ∧ S := ⟨⟨dx, fs, h⟩, q⟩
theorem rd_isB {a b : Bool} (q : Q (.bl (decide (a = b))) H) : rIsB (.bl a) (.bl b) H Q := ⟨a, b, rfl, rfl, q⟩
instance st_isB {a b : Bool} : Stp (rIsB (.bl a) (.bl b) H Q) (Q (.bl (decide (a = b))) H) := ⟨fun h => rd_isB h⟩
theorem rd_notB {a b : Bool} (q : Q (.bl (!decide (a = b))) H) : rNotB (.bl a) (.bl b) H Q := ⟨a, b, rfl, rfl, q⟩
instance st_notB {a b : Bool} : Stp (rNotB (.bl a) (.bl b) H Q) (Q (.bl (!decide (a = b))) H) := ⟨fun h => rd_notB h⟩
theorem rd_isNone {x : V} (q : Q (.bl (decide (x = .non))) H) : (V.non = V.non) ∧ Q (.bl (decide (x = .non))) H := ⟨rfl, q⟩
instance st_isNone {x : V} : Stp ((V.non = V.non) ∧ Q (.bl (decide (x = .non))) H) (Q (.bl (decide (x = .non))) H) := ⟨fun h => rd_isNone h⟩
end
theorem kit_self {K : PySem.W.Frag} {C : Addr} : PySem.W.kitOne K (.ref C) (.ref C) = some true := if_pos (by simp)
theorem sub_list {K : PySem.W.Frag} {C : Addr} : PySem.W.subIn K (.type "list") (.ref C) = some false := rfl
theorem kit_list {K : PySem.W.Frag} {C : Addr} (h1 : PySem.W.isClsIn K C = true) (h2 : PySem.W.typeIn K (.ref C) = some (.type "type")) : PySem.W.kitOne K (.type "list") (.ref C) = some false := by
  have e : ((PySem.W.clsIn K C).isSome && PySem.W.typeIn K (.ref C) == some (.type "type")) = true := by
    have h1' : (PySem.W.clsIn K C).isSome = true := h1
    rw [h1', h2] <;> rfl
  show (if (Value.type "list" == Value.ref C) = true then some true else if ((PySem.W.clsIn K C).isSome && PySem.W.typeIn K (.ref C) == some (.type "type")) = true then PySem.W.subIn K (.type "list") (.ref C) else none) = some false
  rw [if_neg (by intro z; cases z), if_pos e]
  exact sub_list
theorem notFirst_list {K : PySem.W.Frag} {C : Addr} : PySem.W.notFirst K C (.type "list") = true := by
  unfold PySem.W.notFirst
  rw [sub_list]
  rfl
end L2
namespace L2
open PySem PySem.Spec PyProof.Rows
/-! ### data without bools: what == tells is equality -/
mutual
def okD : PyData → Nat → Bool
  | .none, _ => true
  | .int _, _ => true
  | .str s, _ => PyData.strOk s
  | .list xs, n => decide (0 < n) && okDs xs (n - 1)
  | .tuple xs, n => decide (0 < n) && okDs xs (n - 1)
  | .bool _, _ => false
  | .dict _, _ => false
def okDs : List PyData → Nat → Bool
  | [], _ => true
  | x :: xs, n => okD x n && okDs xs n
end
mutual
theorem okD_lay : ∀ (d : PyData) (n : Nat), okD d n = true → d.canLay0 = true ∧ d.depth ≤ n
  | .none, _, _ => ⟨rfl, by simp [PyData.depth]⟩
  | .int _, _, _ => ⟨rfl, by simp [PyData.depth]⟩
  | .str s, _, h => ⟨by simpa [okD, PyData.canLay0] using h, by simp [PyData.depth]⟩
  | .list xs, n, h => by
    simp only [okD, Bool.and_eq_true, decide_eq_true_eq] at h
    obtain ⟨a, b⟩ := okDs_lay xs (n - 1) h.2
    refine ⟨by rw [PyData.canLay0]; exact a, ?_⟩
    simp only [PyData.depth]
    omega
  | .tuple xs, n, h => by
    simp only [okD, Bool.and_eq_true, decide_eq_true_eq] at h
    obtain ⟨a, b⟩ := okDs_lay xs (n - 1) h.2
    refine ⟨by rw [PyData.canLay0]; exact a, ?_⟩
    simp only [PyData.depth]
    omega
  | .bool _, _, h => by simp [okD] at h
  | .dict _, _, h => by simp [okD] at h
theorem okDs_lay : ∀ (ds : List PyData) (n : Nat), okDs ds n = true → PyData.canLayAll0 ds = true ∧ PyData.depthAll ds ≤ n
  | [], _, _ => ⟨rfl, Nat.zero_le _⟩
  | d :: ds, n, h => by
    simp only [okDs, Bool.and_eq_true] at h
    obtain ⟨a, b⟩ := okD_lay d n h.1
    obtain ⟨c, e⟩ := okDs_lay ds n h.2
    simp only [PyData.canLayAll0, PyData.depthAll]
    exact ⟨by rw [a, c]; rfl, Nat.max_le.mpr ⟨b, e⟩⟩
end
theorem okD_shaped {d : PyData} (h : okD d 60 = true) : SeqAt.shaped d = true := by
  obtain ⟨a, b⟩ := okD_lay d 60 h
  unfold SeqAt.shaped
  rw [a, Bool.true_and, decide_eq_true_eq]
  omega
mutual
theorem okD_eqv : ∀ (d e : PyData) (n m : Nat), okD d n = true → okD e m = true → (PyData.eqv d e = true ↔ d = e)
  | .none, e, _, _, _, h => by cases e <;> simp [PyData.eqv, okD] at h ⊢
  | .int i, e, _, _, _, h => by cases e <;> simp [PyData.eqv, okD] at h ⊢
  | .str s, e, _, _, _, h => by cases e <;> simp [PyData.eqv, okD] at h ⊢
  | .list xs, e, n, m, h1, h => by
    cases e with
    | list ys =>
      simp only [okD, Bool.and_eq_true, decide_eq_true_eq] at h1 h
      rw [PyData.eqv, okDs_eqv xs ys _ _ h1.2 h.2]
      simp
    | _ => simp [PyData.eqv, okD] at h ⊢
  | .tuple xs, e, n, m, h1, h => by
    cases e with
    | tuple ys =>
      simp only [okD, Bool.and_eq_true, decide_eq_true_eq] at h1 h
      rw [PyData.eqv, okDs_eqv xs ys _ _ h1.2 h.2]
      simp
    | _ => simp [PyData.eqv, okD] at h ⊢
  | .bool _, _, _, _, h1, _ => by simp [okD] at h1
  | .dict _, _, _, _, h1, _ => by simp [okD] at h1
theorem okDs_eqv : ∀ (ds es : List PyData) (n m : Nat), okDs ds n = true → okDs es m = true → (PyData.eqvAll ds es = true ↔ ds = es)
  | [], es, _, _, _, _ => by cases es <;> simp [PyData.eqvAll]
  | d :: ds, es, n, m, h1, h2 => by
    cases es with
    | nil => simp [PyData.eqvAll]
    | cons e es =>
      simp only [okDs, Bool.and_eq_true] at h1 h2
      rw [PyData.eqvAll, Bool.and_eq_true, okD_eqv d e n m h1.1 h2.1, okDs_eqv ds es n m h1.2 h2.2]
      simp
end
theorem okD_dec {d e : PyData} [Decidable (d = e)] (h1 : okD d 60 = true) (h2 : okD e 60 = true) : PyData.eqv d e = decide (d = e) := by
  rw [Bool.eq_iff_iff, okD_eqv d e 60 60 h1 h2, decide_eq_true_iff]
theorem okDs_map {α : Type} {f : α → PyData} {n : Nat} : ∀ {l : List α}, (∀ x ∈ l, okD (f x) n = true) → okDs (l.map f) n = true
  | [], _ => rfl
  | x :: l, h => by
    rw [List.map_cons, okDs, h x (List.mem_cons_self ..), okDs_map fun y hy => h y (List.mem_cons_of_mem _ hy)]
    rfl
open Classical in
noncomputable instance decD (d e : PyData) : Decidable (d = e) := Classical.propDecidable _
section
variable {K : PySem.W.Frag} {H H' : Hp} {Q : VK} {x y : V} {d e : PyData}
theorem rd_eqP {p : Prop} [Decidable p] (h1 : Dp K H x d) (h2 : Dp K H y e) (o1 : okD d 60 = true) (o2 : okD e 60 = true) (hp : d = e ↔ p) (q : Q (.bl (decide p)) H) : rEqD K x y H Q :=
  ⟨d, e, h1, h2, okD_shaped o1, okD_shaped o2, by rw [okD_dec o1 o2, decide_eq_decide.mpr hp]; exact q⟩
theorem Same.seqT {K : PySem.W.Frag} {H H' : Hp} {a : Addr} {xs : List V} (e : Same H H') (h : SqT K H a xs) : SqT K H' a xs := by
  rcases h with (h | ⟨o, h⟩) | h
  · exact .inl (.inl (e _ _ h))
  · exact .inl (.inr ⟨o, e _ _ h⟩)
  · exact .inr h
mutual
theorem Dp.same (s : Same H H') : ∀ {v : V} {d : PyData}, Dp K H v d → Dp K H' v d
  | _, _, .non => .non
  | _, _, .bl b => .bl b
  | _, _, .int i => .int i
  | _, _, .str x => .str x
  | _, _, .lst h a => .lst (s.seq h) (DpAll.same s a)
  | _, _, .tup h a => .tup (Same.seqT s h) (DpAll.same s a)
theorem DpAll.same (s : Same H H') : ∀ {vs : List V} {ds : List PyData}, DpAll K H vs ds → DpAll K H' vs ds
  | _, _, .nil => .nil
  | _, _, .cons h a => .cons (Dp.same s h) (DpAll.same s a)
end
theorem DpAll.len : ∀ {vs : List V} {ds : List PyData}, DpAll K H vs ds → vs.length = ds.length
  | _, _, .nil => rfl
  | _, _, .cons _ a => by rw [List.length_cons, List.length_cons, DpAll.len a]
theorem DpAll.at : ∀ {vs : List V} {ds : List PyData} {i : Nat} {v : V}, DpAll K H vs ds → vs[i]? = some v → ∃ d, ds[i]? = some d ∧ Dp K H v d
  | _, _, i, _, .nil, e => by cases e
  | _, _, 0, _, .cons (d := d) h _, e => ⟨d, rfl, by cases e; exact h⟩
  | _, _, i + 1, _, .cons _ a, e => DpAll.at (i := i) a e
theorem DpAll.snoc : ∀ {vs : List V} {ds : List PyData} {v : V} {d : PyData}, DpAll K H vs ds → Dp K H v d → DpAll K H (vs ++ [v]) (ds ++ [d])
  | _, _, _, _, .nil, h => .cons h .nil
  | _, _, _, _, .cons a r, h => .cons a (DpAll.snoc r h)
theorem Dp.int_inv {n : Int} (h : Dp K H x (.int n)) : x = .int n := by
  cases h
  rfl
theorem DpAll.ints : ∀ {ns : List Int} {vs : List V}, DpAll K H vs (ns.map PyData.int) → vs = ns.map V.int
  | [], _, .nil => rfl
  | n :: ns, _, .cons h a => by rw [Dp.int_inv h, DpAll.ints a]; rfl
theorem DpAll.nil_inv {vs : List V} (h : DpAll K H vs []) : vs = [] := by
  cases h
  rfl
theorem DpAll.cons_inv {vs : List V} {ds : List PyData} (h : DpAll K H vs (d :: ds)) : ∃ v vs', vs = v :: vs' ∧ Dp K H v d ∧ DpAll K H vs' ds := by
  cases h with
  | cons a b => exact ⟨_, _, rfl, a, b⟩
end
/-! ### loops that leave the heap -/
section
variable {σ : St} {H : Hp} {K : PySem.W.Frag} {t : TS} {nx : St → Hp → Prop} {rt : VK}
theorem rd_forLs {a : Addr} {xs : List V} {g : TG} (Pv : Nat → St → Prop) (hl : SqL K H a xs) (h0 : Pv 0 σ)
    (hs : ∀ i x σ, xs[i]? = some x → Pv i σ → g x σ H fun σ2 H2 => t ⟨fun σ' H' => H = H' ∧ Pv (i + 1) σ', rt, nx, fun σ' H' => H = H' ∧ Pv (i + 1) σ'⟩ σ2 H2) (hd : ∀ σ, Pv xs.length σ → nx σ H) : fBody (Itl K a) g t nx rt σ H :=
  rd_forL (fun i σ' H' => H = H' ∧ Pv i σ') ⟨rfl, h0⟩ (fun i σ' H' _ p => by obtain ⟨rfl, _⟩ := p; exact hl) (fun i x σ' H' hi p => by obtain ⟨rfl, p⟩ := p; exact hs i x σ' hi p) fun σ' H' p => by obtain ⟨rfl, p⟩ := p; exact hd σ' p
theorem rd_forTs {a : Addr} {xs : List V} {g : TG} (Pv : Nat → St → Prop) (hl : SqT K H a xs) (h0 : Pv 0 σ)
    (hs : ∀ i x σ, xs[i]? = some x → Pv i σ → g x σ H fun σ2 H2 => t ⟨fun σ' H' => H = H' ∧ Pv (i + 1) σ', rt, nx, fun σ' H' => H = H' ∧ Pv (i + 1) σ'⟩ σ2 H2) (hd : ∀ σ, Pv xs.length σ → nx σ H) : fBody (Itt K a) g t nx rt σ H :=
  rd_forT (fun i σ' H' => H = H' ∧ Pv i σ') ⟨rfl, h0⟩ (fun i σ' H' _ p => by obtain ⟨rfl, _⟩ := p; exact hl) (fun i x σ' H' hi p => by obtain ⟨rfl, p⟩ := p; exact hs i x σ' hi p) fun σ' H' p => by obtain ⟨rfl, p⟩ := p; exact hd σ' p
end
section
theorem rd_eqF {p A B : Prop} [Decidable p] (h : ¬ p) (q : B) : if decide p = true then A else B := by
  rw [decide_eq_false h]
  exact q
theorem rd_neT {p A B : Prop} [Decidable p] (h : ¬ p) (q : A) : if (!decide p) = true then A else B := by
  rw [decide_eq_false h]
  exact q
end
instance st_non {P : Prop} : Stp (V.non = V.non ∧ P) P := ⟨fun h => ⟨rfl, h⟩⟩
theorem non_int {k : Int} : ¬ V.int k = V.non := fun z => V.noConfusion z
theorem non_ref {k : Addr} : ¬ V.ref k = V.non := fun z => V.noConfusion z
theorem upd_at {H : Hp} {p q : Addr} {o u : HO} (h : H p = some o) (n : H p = some o → p ≠ q) : upd H q u p = some o := (upd_ne (n h)).trans h
end L2
namespace L2
open PySem PySem.Spec PyProof.Rows
/-! ### sizes of whole numbers, by bits -/
structure Bd (n : Nat) (x : Int) : Prop where
  h : x.natAbs < 2 ^ n
theorem Bd.mono {n m : Nat} {x : Int} (h : Bd n x) (hm : n ≤ m) : Bd m x := ⟨Nat.lt_of_lt_of_le h.h (Nat.pow_le_pow_right (by decide) hm)⟩
theorem Bd.mul {n m : Nat} {x y : Int} (h : Bd n x) (k : Bd m y) : Bd (n + m) (x * y) := ⟨wide_lt h.h k.h⟩
theorem Bd.neg {n : Nat} {x : Int} (h : Bd n x) : Bd n (-x) := ⟨by
  rw [Int.natAbs_neg]
  exact h.h⟩
theorem Bd.add {n m : Nat} {x y : Int} (h : Bd n x) (k : Bd m y) : Bd (max n m + 1) (x + y) := ⟨by
  have a := (Bd.mono h (Nat.le_max_left n m)).h
  have b := (Bd.mono k (Nat.le_max_right n m)).h
  have := Int.natAbs_add_le x y
  rw [Nat.pow_succ]
  omega⟩
theorem Bd.sub {n m : Nat} {x y : Int} (h : Bd n x) (k : Bd m y) : Bd (max n m + 1) (x - y) := by
  rw [Int.sub_eq_add_neg]
  exact Bd.add h k.neg
theorem Bd.lt {n : Nat} {x : Int} (h : Bd n x) : -(2 ^ n) < x ∧ x < 2 ^ n := by
  have e : ((2 ^ n : Nat) : Int) = 2 ^ n := by rw [Int.natCast_pow]; rfl
  have := h.h
  omega
theorem Bd.of {n : Nat} {x : Int} (h : -(2 ^ n) < x) (k : x < 2 ^ n) : Bd n x := ⟨by
  have e : ((2 ^ n : Nat) : Int) = 2 ^ n := by rw [Int.natCast_pow]; rfl
  omega⟩
theorem Bd.le {n : Nat} {x y : Int} (h : Bd n y) (h1 : x.natAbs ≤ y.natAbs) : Bd n x := ⟨Nat.lt_of_le_of_lt h1 h.h⟩
theorem Bd.lit {x : Int} {n : Nat} (h : x.natAbs < 2 ^ 64) (hn : 64 ≤ n) : Bd n x := Bd.mono ⟨h⟩ hn
theorem Bd.mulN {n : Nat} {x y : Int} (h : Bd (n / 2) x) (k : Bd (n / 2) y) : Bd n (x * y) := (h.mul k).mono (by omega)
theorem Bd.addN {n : Nat} {x y : Int} (h : Bd (n - 1) x) (k : Bd (n - 1) y) (hn : 0 < n) : Bd n (x + y) := (h.add k).mono (by omega)
theorem Bd.subN {n : Nat} {x y : Int} (h : Bd (n - 1) x) (k : Bd (n - 1) y) (hn : 0 < n) : Bd n (x - y) := (h.sub k).mono (by omega)
theorem CMulB.bd {x y : Int} (h : Bd 9000 x) (k : Bd 9000 y) : CMulB x y := .inr (wide_mul h.h k.h (by decide) (by decide) (by decide))
end L2
namespace L2
open PySem PySem.Spec PyProof.Rows
/-! ### texts of whole numbers, str(o) of an own __str__ -/
def txI (i : Int) : Str := Str.ofString (toString i)
theorem txI_len {i : Int} {n : Nat} (h : Bd n i) (hn : n ≤ 1000) : (txI i).length ≤ 1001 ∧ i.natAbs.log2 < 1000 := by
  have l : i.natAbs.log2 < 1000 := PySem.Flt.log2_lt_of (by decide) (h.mono hn).h
  have e := int_text_length_le (k := 1000) (by decide) l
  unfold txI
  rw [PySem.ofString_length]
  exact ⟨e, l⟩
def rStrI : List V → Hp → VK → Prop := fun xs H Q => ∃ i, xs = [.int i] ∧ i.natAbs.log2 < 1920 ∧ Q (.str (txI i)) H
section
variable {σ : St} {H : Hp} {Q : VK} {te : TE} {ts : List TE} {acc : Str} {R : Str → Hp → Prop}
def rFmt (Q : VK) : V → Hp → Prop := fun x H1 => (∃ y : Str, x = .str y ∧ y.length ≤ sizeLine ∧ Q (.str y) H1) ∨ ∃ i : Int, x = .int i ∧ i.natAbs.log2 < 1920 ∧ Q (.str (toString i)) H1
instance st_fmt : Stp (tFmt te σ H Q) (te σ H (rFmt Q)) := ⟨fun h => h⟩
theorem rd_fmtI {i : Int} (h : i.natAbs.log2 < 1920) (q : Q (.str (txI i)) H) : rFmt Q (.int i) H := .inr ⟨i, rfl, h, q⟩
instance st_jsN : Stp (tJs [] acc σ H R) (R acc H) := ⟨fun h => h⟩
def rJs (ts : List TE) (acc : Str) (σ : St) (R : Str → Hp → Prop) : V → Hp → Prop := fun x H1 => ∃ y : Str, x = .str y ∧ (acc ++ y).length ≤ sizeLine ∧ tJs ts (acc ++ y) σ H1 R
instance st_jsC : Stp (tJs (te :: ts) acc σ H R) (te σ H (rJs ts acc σ R)) := ⟨fun h => h⟩
theorem rd_strI {i : Int} (h : i.natAbs.log2 < 1920) (q : Q (.str (txI i)) H) : rStrI [.int i] H Q := ⟨i, rfl, h, q⟩
end
end L2
namespace L2
open PySem PySem.Spec PyProof.Rows
/-! ### walks of other kinds -/
section
variable {σ : St} {H : Hp} {K : PySem.W.Frag} {t : TS} {nx : St → Hp → Prop} {rt : VK} {Q : VK} {tr : TA} {te : TE} {tt : TT} {S : It → Hp → Prop} {J : It} {n : Nat} {G : Hp → Prop} {Y : Nat → Hp → V → Hp → Prop}
def rIRev (K : PySem.W.Frag) (S : It → Hp → Prop) (vs : List V) (H : Hp) : Prop := ∃ (a : Addr) (xs : List V), vs = [.ref a] ∧ SqL K H a xs ∧ S (Itv K a xs.length) H
instance st_iRev : Stp (iRev K tr σ H S) (tr σ H (rIRev K S)) := ⟨fun h => h⟩
theorem rd_iRev1 {a : Addr} {xs : List V} (h : SqL K H a xs) (q : S (Itv K a xs.length) H) : rIRev K S [.ref a] H := ⟨a, xs, rfl, h, q⟩
/-- a comprehension over a list; each turn only makes new things -/
theorem rd_lcP {a : Addr} {xs : List V} {g : TG} {vs : List Nat} (P : Nat → List V → Prop) (hS : SqL K H a xs) (nt : NoT H) (h0 : P 0 [])
    (hs : ∀ D i ys x H', xs[i]? = some x → Same H H' → NoT H' → H D = none → H' D = some (.lst ys) → P i ys → g x (wipe σ vs) H' fun σ2 H2 => wipe σ2 vs = wipe σ vs ∧ tt σ2 H2 fun b H3 =>
      if b = true then te σ2 H3 (fun y H4 => ∃ acc, H4 D = some (.lst acc) ∧ acc.length < sizeLine ∧ ∃ ys, upd H4 D (.lst (acc ++ [y])) D = some (.lst ys) ∧ Same H (upd H4 D (.lst (acc ++ [y]))) ∧ NoT (upd H4 D (.lst (acc ++ [y]))) ∧ P (i + 1) ys)
      else ∃ ys, H3 D = some (.lst ys) ∧ Same H H3 ∧ NoT H3 ∧ P (i + 1) ys)
    (q : ∀ D ys H', H D = none → H' D = some (.lst ys) → Same H H' → NoT H' → P xs.length ys → Q (.ref D) H') : lcB (Itl K a) g tt te vs σ Q H := by
  intro D hD
  refine lc_it (walk_list (K := K) (a := a) (xs := xs)) (fun i H' => ∃ ys, H' D = some (.lst ys) ∧ Same H H' ∧ NoT H' ∧ P i ys) ⟨[], upd_same, same_new hD, NoT.upd nt rfl, h0⟩ (fun i H' _ ⟨ys, _, s, _⟩ => s.seq hS) ?_ (fun H' ⟨ys, h1, s, n, p⟩ => q D ys H' hD h1 s n p)
  rintro i x H' H'' hi ⟨ys, h1, s, n, p⟩ ⟨rfl, hx⟩
  exact hs D i ys x _ hx s n hD h1 p
theorem put_P {P : List V → Prop} {D : Addr} {H H4 : Hp} {acc : List V} {y : V} (h : H4 D = some (.lst acc)) (hl : acc.length < sizeLine) (sm : Same H H4) (hD : H D = none) (n : NoT H4) (p : P (acc ++ [y])) :
    ∃ acc, H4 D = some (.lst acc) ∧ acc.length < sizeLine ∧ ∃ ys, upd H4 D (.lst (acc ++ [y])) D = some (.lst ys) ∧ Same H (upd H4 D (.lst (acc ++ [y]))) ∧ NoT (upd H4 D (.lst (acc ++ [y]))) ∧ P ys :=
  ⟨acc, h, hl, _, upd_same, same_upd2 sm hD, NoT.upd n rfl, p⟩
end
def rRevV (K : PySem.W.Frag) (Q : VK) : V → Hp → Prop := fun x H1 => ∃ a xs, x = .ref a ∧ SqL K H1 a xs ∧ ∀ p, H1 p = none → Q (.ref p) (upd H1 p (.lst xs.reverse))
instance st_revL {K : PySem.W.Frag} {te : TE} {σ : St} {H : Hp} {Q : VK} : Stp (tRevL K te σ H Q) (te σ H (rRevV K Q)) := ⟨fun h => h⟩
theorem rd_revV {K : PySem.W.Frag} {H : Hp} {Q : VK} {a : Addr} {xs : List V} (h : SqL K H a xs) (q : ∀ p, H p = none → Q (.ref p) (upd H p (.lst xs.reverse))) : rRevV K Q (.ref a) H := ⟨a, xs, rfl, h, q⟩
theorem room2 {xs zs : List V} {n m : Nat} (h1 : xs.length ≤ n) (h2 : zs.length ≤ m) (h : n + m ≤ 1000000) : xs.length + zs.length ≤ sizeLine := Nat.le_trans (Nat.add_le_add h1 h2) (Nat.le_trans h (by decide))
theorem len_one {v : V} : [v].length ≤ 1 := Nat.le_refl 1
theorem same_upd3 {H H' : Hp} {p : Addr} {o : HO} (h : Same H H') (hp : H' p = none) : Same H (upd H' p o) := same_upd2 h (h.free hp)
section
variable {H : Hp} {Q : VK} {i : Int}
theorem rd_eqNN (q : Q (.bl true) H) : rEq .non .non H Q := ⟨rfl, by simpa using q⟩
instance st_eqNN : Stp (rEq .non .non H Q) (Q (.bl true) H) := ⟨fun h => rd_eqNN h⟩
theorem rd_neNN (q : Q (.bl false) H) : rNe .non .non H Q := ⟨rfl, by simpa using q⟩
instance st_neNN : Stp (rNe .non .non H Q) (Q (.bl false) H) := ⟨fun h => rd_neNN h⟩
theorem rd_eqNI (q : Q (.bl false) H) : rEq .non (.int i) H Q := ⟨rfl, by simpa using q⟩
instance st_eqNI : Stp (rEq .non (.int i) H Q) (Q (.bl false) H) := ⟨fun h => rd_eqNI h⟩
theorem rd_neNI (q : Q (.bl true) H) : rNe .non (.int i) H Q := ⟨rfl, by simpa using q⟩
instance st_neNI : Stp (rNe .non (.int i) H Q) (Q (.bl true) H) := ⟨fun h => rd_neNI h⟩
theorem rd_eqIN (q : Q (.bl false) H) : rEq (.int i) .non H Q := ⟨rfl, by simpa using q⟩
instance st_eqIN : Stp (rEq (.int i) .non H Q) (Q (.bl false) H) := ⟨fun h => rd_eqIN h⟩
theorem rd_neIN (q : Q (.bl true) H) : rNe (.int i) .non H Q := ⟨rfl, by simpa using q⟩
instance st_neIN : Stp (rNe (.int i) .non H Q) (Q (.bl true) H) := ⟨fun h => rd_neIN h⟩
end
end L2
namespace L2
open PySem PySem.Spec PyProof.Rows
/-! ### sets of ints -/
section
variable {P : Program} {w : World} {K : PySem.W.Frag} {mg : Str → Option Value} {base : Heap}
/-- a def whose text asks of its code object -/
theorem DefAt.okC {x : Str} {st : Stmt} {N ps : List Str} {k : Nat} {sp : Sp} (D : DefAt K mg x st ps) (S : FnScope N ps (defScope st)) (len : ∀ vs H Q E, sp vs H Q E → vs.length = ps.length)
    (body : ∀ (f : Addr) (cdv : Value) (hcd : PySem.W.kdsCode K cdv = true) (A : Around) (outer : List Env) (s : Shared) (H : Hp) (vs : List V) (Q : VK) (E : XK), Room k (A.deeper (envOfC x (defScope st) s.heap.objs.size f cdv)) → sp vs H Q E →
      ∃ t, PSs (cxOf (L2.CX P w) P w K mg base N x (defScope st) f cdv A outer s H E) (defBody st) t ∧ t ⟨fun _ H' => Q .non H', Q, fun _ _ => False, fun _ _ => False⟩ (start N vs) H) : Def P w K mg base (k + 1) x ps sp := by
  obtain ⟨f, fd, F, g, b⟩ := D.ex
  have kp := F.kp
  obtain ⟨c0, d0, v1, v2, v3, v4, cdv, v5, sl, rfl, lk, hcd⟩ := F.ex
  exact ⟨f, _, fn_of lk hcd S len fun A outer s H vs Q E r h => body f cdv (kdsCode_of hcd) A outer s H vs Q E r h, g, kp, b⟩
end
section
variable {X : Cx}
def setNo : Int → Bool := fun _ => false
/-- two ints in braces -/
def tSet2 (w : World) (t1 t2 : TE) : TE := fun σ H Q => ∀ D, H D = none → t1 σ (upd H D (SetO w D setNo 0)) fun x H1 => t2 σ H1 fun y H2 => ∃ i j : Int, x = .int i ∧ y = .int j ∧ H2 D = some (SetO w D setNo 0) ∧
  Q (.ref D) (upd H2 D (SetO w D (fun k => decide (k = i ∨ k = j)) (if i = j then 1 else 2)))
theorem setAdd_int {pins : List (Addr × Obj)} {σ : St} {H : Hp} {s : Shared} {D : Addr} {S : Int → Bool} {n : Nat} {k : Int} {u : Value} {A : Around} {E : Value → Shared → Prop} {Q : Bool → Shared → Prop} (I : Inv X pins σ H s) (hD : H D = some (SetO X.w D S n)) (hn : n + 1 < scanBound) (hu : RelV (.int k) u)
    (q : ∀ s', Inv X pins σ (upd H D (SetO X.w D (fun j => S j || decide (j = k)) (if S k = true then n else n + 1))) s' → ∀ b, Q b s') : wpAny (model X.prog X.w) A (setAdd D u) Q E s := by
  obtain ⟨tk, rfl⟩ := hu
  have R := setO_get I hD
  unfold setAdd
  refine wpAny_holding (wpAny_bind ((intKind X.prog X.w).pyHash (intKind_is X.prog X.w k tk) ?_))
  refine setR_add_hashed (s := { s with toks := s.toks + 1 }) R hn fun h' sb new => q _ ?_ _
  have there : ∃ o, h'.get? D = some o := by
    obtain ⟨o, _, _, _, ho, _⟩ := new
    exact ⟨o, ho⟩
  exact I.write (e := D) (t' := s.toks + 1) (by rw [hD]; trivial) (.inl rfl) (fun b o ne ho => (sb.2 b ne).trans ho) there (setO_new new)
theorem pe_set2 {e1 e2 : Expr} {t1 t2 : TE} {pos : Pos} (h1 : PE X e1 t1) (h2 : PE X e2 t2) (hcd : PySem.W.kdsCode X.K X.env.code = true)
    (hs : starEach [e1, e2] X.env = [(false, eval e1 X.env), (false, eval e2 X.env)] := by rfl) : PE X (.Set [e1, e2] 0 pos) (tSet2 X.w t1 t2) := by
  refine ⟨fun pins s σ H Q I h => ?_⟩
  rw [arm_eval_Set, hs]
  refine wpAny_bind (wpAny_standAt (wpAny_bind (PySem.W.kds_main I.kIn hcd fun b => ?_)))
  show wpAny _ _ (setDisplay .oneByOne b [(false, eval e1 X.env >>= fun v => standAt pos >>= fun _ => pure v), (false, eval e2 X.env >>= fun v => standAt pos >>= fun _ => pure v)]) _ _ _
  unfold setDisplay
  rw [if_neg (by decide)]
  refine wpAny_bind (PpSet.newSet_ok ?_)
  have I1 : Inv X pins σ (upd H s.heap.objs.size (SetO X.w s.heap.objs.size setNo 0)) _ := I.laid (t' := s.toks) (fun b o z => Heap.get?_push_of_some _ z) (Nat.le_refl _) (setO_new (setR_fresh X.w))
  replace h := h s.heap.objs.size (I.hok.fresh (Nat.le_refl _))
  generalize s.heap.objs.size = D at *
  refine wpAny_bind (wpAny_holding (wpAny_bind ?_))
  show wpAny _ _ (evalAll [eval e1 X.env >>= fun v => standAt pos >>= fun _ => pure v, eval e2 X.env >>= fun v => standAt pos >>= fun _ => pure v]) _ _ _
  refine wpAny_bind (wpAny_bind (thn (h1.run pins _ σ _ _ I1 h) fun u1 s1 ⟨x, H1, I2, r1, g⟩ => wpAny_bind (wpAny_standAt (wpAny_pure ?_))))
  refine wpAny_bind (wpAny_holding (wpAny_bind (wpAny_bind (thn (h2.run pins _ σ _ _ I2 g) fun u2 s2 ⟨y, H2, I3, r2, i, j, ex, ey, hD, q⟩ => wpAny_bind (wpAny_standAt (wpAny_pure ?_))))))
  subst ex ey
  refine wpAny_bind (wpAny_holding (wpAny_pure (wpAny_pure (wpAny_pure ?_))))
  refine wpAny_bind (wpAny_holding (wpAny_bind ?_))
  rw [List.forIn_cons]
  refine wpAny_bind (wpAny_bind (setAdd_int I3 hD (by decide) r1 fun s3 I4 _ => wpAny_pure ?_))
  dsimp only
  rw [List.forIn_cons]
  refine wpAny_bind (wpAny_bind (setAdd_int I4 upd_same (by show 0 + 1 + 1 < scanBound; decide) r2 fun s4 I5 _ => wpAny_pure ?_))
  dsimp only
  rw [List.forIn_nil, if_neg (by decide)]
  refine wpAny_pure (wpAny_pure (wpAny_pure ?_))
  rw [upd_upd] at I5
  have e1 : (fun l => setNo l || decide (l = i) || decide (l = j)) = fun k : Int => decide (k = i ∨ k = j) := by
    funext l
    simp [setNo]
  have e2 : (if (setNo j || decide (j = i)) = true then if setNo i = true then 0 else 0 + 1 else (if setNo i = true then 0 else 0 + 1) + 1) = if i = j then 1 else 2 := by
    by_cases z : i = j
    · simp [setNo, z]
    · have z2 : ¬ j = i := fun y => z y.symm
      simp [setNo, z, z2]
  rw [e1, e2] at I5
  exact wpAny_pure ⟨.ref D, _, I5, rfl, q⟩
instance st_set2 {w : World} {t1 t2 : TE} {σ : St} {H : Hp} {Q : VK} : Stp (tSet2 w t1 t2 σ H Q) (∀ D, H D = none → t1 σ (upd H D (SetO w D setNo 0)) fun x H1 => t2 σ H1 fun y H2 => ∃ i j : Int, x = .int i ∧ y = .int j ∧ H2 D = some (SetO w D setNo 0) ∧
  Q (.ref D) (upd H2 D (SetO w D (fun k => decide (k = i ∨ k = j)) (if i = j then 1 else 2)))) := ⟨fun h => h⟩
instance st_par3 {i j l : Nat} {ta : TA} {σ : St} {H : Hp} {nx : St → Hp → Prop} {rt : VK} {bk ct : St → Hp → Prop} : Stp (tPar3 i j l ta ⟨nx, rt, bk, ct⟩ σ H) (ta σ H fun vs H1 => ∃ u v w, vs = [u, v, w] ∧ nx (((σ.set i (some u)).set j (some v)).set l (some w)) H1) := ⟨fun h => h⟩
instance st_par3e {u v w : V} {nx : V → V → V → Prop} : Stp (∃ u' v' w', [u, v, w] = [u', v', w'] ∧ nx u' v' w') (nx u v w) := ⟨fun h => ⟨u, v, w, rfl, h⟩⟩
/-- sorted of two ints in braces -/
theorem rd_sortSet2 {w : World} {D : Addr} {i j : Int} {n : Nat} {H : Hp} {Q : VK} (hD : H D = some (SetO w D (fun k => decide (k = i ∨ k = j)) n)) (hn : n < 64)
    (q : ∀ p, H p = none → Q (.ref p) (upd H p (.lst ((if i < j then [i, j] else if j < i then [j, i] else [i]).map V.int)))) : rSortedSet w [.ref D] H Q := by
  refine ⟨D, _, n, rfl, hD, hn, fun ns p h1 h2 _ hp => ?_⟩
  have e : ns = if i < j then [i, j] else if j < i then [j, i] else [i] := by
    have mem : ∀ k, k ∈ ns ↔ k = i ∨ k = j := fun k => by rw [h2 k]; simp
    match ns, h1, mem with
    | [], _, mem => exact absurd ((mem i).mpr (.inl rfl)) List.not_mem_nil
    | [a], _, mem =>
      have a1 := List.mem_singleton.mp ((mem i).mpr (.inl rfl))
      have a2 := List.mem_singleton.mp ((mem j).mpr (.inr rfl))
      subst a1
      subst a2
      rw [if_neg (by omega), if_neg (by omega)]
    | a :: b :: l, h1, mem =>
      obtain ⟨p1, p2⟩ := List.pairwise_cons.mp h1
      have hab := p1 b List.mem_cons_self
      have ha := (mem a).mp List.mem_cons_self
      have hb := (mem b).mp (List.mem_cons_of_mem _ List.mem_cons_self)
      have hl : l = [] := by
        cases l with
        | nil => rfl
        | cons c l =>
          have hc := (mem c).mp (List.mem_cons_of_mem _ (List.mem_cons_of_mem _ List.mem_cons_self))
          have h3 := p1 c (List.mem_cons_of_mem _ List.mem_cons_self)
          have h4 := (List.pairwise_cons.mp p2).1 c List.mem_cons_self
          omega
      subst hl
      rcases ha with rfl | rfl
      · rcases hb with rfl | rfl
        · omega
        · rw [if_pos hab]
      · rcases hb with rfl | rfl
        · rw [if_neg (by omega), if_pos hab]
        · omega
  rw [e]
  exact q p hp
end
end L2
namespace L2
open PySem PySem.Spec PyProof.Rows
section
variable {X : Cx}
/-- a set of whol, made by a comprehension: D the new set, Z what each turn keeps -/
def tScI (w : World) (wi : TI) (g : TG) (tt : TT) (te : TE) (vs : List Nat) : TE := fun σ H Q => wi σ H fun J H1 => ∀ D, H1 D = none → ∃ Z : Nat → Nat → Hp → Prop, (∃ m, Z 0 m (upd H1 D (SetO w D setNo 0))) ∧ ∀ i m G, Z i m G →
  (J.stop i G ∧ Q (.ref D) G) ∨ (J.go i G ∧ ∃ Y : Hp → Prop, (∀ G', Y G' → ∃ l, l < m ∧ Z (i + 1) l G') ∧ ∀ x G', J.yld i G x G' → g x (wipe σ vs) G' fun σ2 G2 => wipe σ2 vs = wipe σ vs ∧ tt σ2 G2 fun b G3 =>
    if b = true then te σ2 G3 fun y G4 => ∃ (c : Int) (S : Int → Bool) (n : Nat), y = .int c ∧ G4 D = some (SetO w D S n) ∧ n + 1 < scanBound ∧ Y (upd G4 D (SetO w D (fun j => S j || decide (j = c)) (if S c = true then n else n + 1))) else Y G3)
end
/-! ### sorted of a set of whol, of any size -/
theorem sortSet_go {P : Program} {w : World} {A : Around} {E : Value → Shared → Prop} {s : Shared} {a : Addr} {S : Int → Bool} {n : Nat} {Q : Value → Shared → Prop} (R : SetR w s.heap a S n) (calm : A.handled = none)
    (go : ∀ s' p (out : List Value) (c : Nat) (ns : List Int), (∀ b o, s.heap.get? b = some o → s'.heap.get? b = some o) → s'.gens = s.gens → s'.os = s.os → s.heap.objs.size ≤ p →
      s'.heap.get? p = some (seqObj "list" out.toArray c) → IntsAre out ns → ns.Pairwise (· < ·) → (∀ k, k ∈ ns ↔ S k = true) → ns.length = n → n < scanBound → Q (.ref p) s') :
    wpAny (model P w) A (call (.builtin "sorted") [.ref a]) Q E s := by
  obtain ⟨ob, cs, cn, tb, atOb, exOb, dOb, good, dis, mem, few, fit, num, ris, led⟩ := R
  refine Calls.call_function_entry kind_sorted plain_sorted entry_sorted (args_sorted1 _) ?_
  unfold Builtin.«sorted»
  refine wpAny_bind (m := checkCount "sorted" 1 1 _) (wpAny_pure ?_)
  refine wpAny_bind (collect_set (A := A.in1) calm ⟨ob, atOb, exOb.1, dOb⟩ fit few ris led fun t vs keep size gens os pm => ?_)
  have lvs : vs.length = n := by rw [pm.length_eq, List.length_map, Array.length_toList, num]
  have small : vs.length ≤ sizeLine := by
    rw [lvs, sizeLine_eq]
    have b1 : cs.size < 4096 := few
    omega
  have whol : IntsAre vs (vs.map Builtin.Re.reRawOf) := ints_of vs fun v hv => by
    obtain ⟨e, he, rfl⟩ := List.mem_map.mp (pm.mem_iff.mp hv)
    obtain ⟨k, tk, h1, _⟩ := good e he
    exact ⟨k, tk, h1⟩
  have keys : (vs.map Builtin.Re.reRawOf).Perm (cs.toList.map keyOf) := by
    have z := pm.map Builtin.Re.reRawOf
    rwa [List.map_map] at z
  refine wpAny_bind (wpAny_newList ?_ small)
  have atL : (t.heap.push (seqObj "list" vs.toArray 0)).get? t.heap.objs.size = some (seqObj "list" vs.toArray 0) := Heap.get?_push_size _ rfl
  refine wpAny_bind (wpAny_holding (wpAny_call_entry slot_list_sort ⟨_, atL, rfl⟩ entry_list_sort (SrtO.list_sort_ord SrtO.swo_int atL small (fun h2 => SrtO.ints_sortable whol h2) fun out h1 h2 => ⟨_, rfl, ?_⟩) (args_list_sort _)))
  obtain ⟨k1, k2, k3⟩ := SrtO.ints_out whol h1 h2
  obtain ⟨c, atS⟩ := sortedHeap_at (vs := vs) (out := out.toArray) atL
  have pn : (out.map SrtO.iv).Perm (cs.toList.map keyOf) := k2.trans keys
  refine wpAny_pure ⟨_, rfl, go _ t.heap.objs.size out c (out.map SrtO.iv) (fun b u e => ?_) gens os size atS k1 (lt_of_le_nodup _ k3 (pn.nodup_iff.mpr dis)) (fun k => by rw [pn.mem_iff, ← mem k]) ?_ (by rw [← num]; exact few)⟩
  · have z := keep b u e
    have lt := Heap.lt_size z
    show (sortedHeap (t.heap.push (seqObj "list" vs.toArray 0)) t.heap.objs.size vs out.toArray).get? b = some u
    rw [sortedHeap_old (Nat.ne_of_lt lt) (by rw [size_push']; exact Nat.lt_succ_of_lt lt)]
    exact Heap.get?_push_of_some _ z
  · rw [pn.length_eq, List.length_map, Array.length_toList, num]
def rSortSetN (w : World) : List V → Hp → VK → Prop := fun vs H Q => ∃ (a : Addr) (S : Int → Bool) (n : Nat), vs = [V.ref a] ∧ H a = some (SetO w a S n) ∧
  ∀ (ns : List Int) (p : Addr), ns.Pairwise (· < ·) → (∀ k : Int, k ∈ ns ↔ S k = true) → ns.length = n → H p = none → Q (.ref p) (upd H p (.lst (ns.map V.int)))
theorem cr_sortSetN {X : Cx} (calm : X.calm = true) : CallR X (.builtin "sorted") (rSortSetN X.w) := by
  intro pins s σ H vs us Q I r ⟨a, S, n, ev, at_, q⟩
  subst ev
  have R := setO_get I at_
  rw [Vals.ref1 r]
  refine sortSet_go R (I.ok.hd calm) fun s' p out c ns k g o hp hg hi hs hm hl few => ?_
  have fits : (ns.map V.int).length ≤ sizeLine := by
    rw [List.length_map, hl, sizeLine_eq]
    have b1 : n < 4096 := few
    omega
  have J : Inv X pins σ (upd H p (.lst (ns.map V.int))) { s with heap := s'.heap, gens := s'.gens, drawn := s'.drawn, toks := s'.toks } :=
    I.call (ch := []) (Un.laid k hp (I.hok.fresh hp)) (I.hok.laid k hp ⟨fits, out, c, vals_of_ints hi, hg⟩) (by rw [g]; exact I.bare) (fun _ z => nomatch z)
  have e : s' = { s with heap := s'.heap, gens := s'.gens, drawn := s'.drawn, toks := s'.toks } := by
    cases s'
    cases s
    cases o
    rfl
  rw [e]
  exact ⟨.ref p, _, J, rfl, q ns p hs hm hl (I.hok.fresh hp)⟩
/-! ### readings -/
section
variable {w : World} {σ : St} {H : Hp} {Q : VK} {K : PySem.W.Frag} {te : TE} {tt : TT}
def inS (l : List Int) : Int → Bool := fun k => decide (k ∈ l)
theorem inS_nil : inS [] = setNo := by
  funext k
  simp [inS, setNo]
theorem inS_snoc {l : List Int} {c : Int} : (fun j => inS l j || decide (j = c)) = inS (l ++ [c]) := by
  funext k
  simp [inS]
def scB (w : World) (J : It) (g : TG) (tt : TT) (te : TE) (vs : List Nat) (σ : St) (Q : VK) (H1 : Hp) : Prop := ∀ D, H1 D = none → ∃ Z : Nat → Nat → Hp → Prop, (∃ m, Z 0 m (upd H1 D (SetO w D setNo 0))) ∧ ∀ i m G, Z i m G →
  (J.stop i G ∧ Q (.ref D) G) ∨ (J.go i G ∧ ∃ Y : Hp → Prop, (∀ G', Y G' → ∃ l, l < m ∧ Z (i + 1) l G') ∧ ∀ x G', J.yld i G x G' → g x (wipe σ vs) G' fun σ2 G2 => wipe σ2 vs = wipe σ vs ∧ tt σ2 G2 fun b G3 =>
    if b = true then te σ2 G3 fun y G4 => ∃ (c : Int) (S : Int → Bool) (n : Nat), y = .int c ∧ G4 D = some (SetO w D S n) ∧ n + 1 < scanBound ∧ Y (upd G4 D (SetO w D (fun j => S j || decide (j = c)) (if S c = true then n else n + 1))) else Y G3)
instance st_scI {wi : TI} {g : TG} {vs : List Nat} : Stp (tScI w wi g tt te vs σ H Q) (wi σ H fun J H1 => scB w J g tt te vs σ Q H1) := ⟨fun h => h⟩
/-- sorted of a set that tells l -/
theorem rd_sortSetN {D : Addr} {l : List Int} {n : Nat} (hD : H D = some (SetO w D (inS l) n)) (q : ∀ (ns : List Int) (p : Addr), ns.Pairwise (· < ·) → (∀ k, k ∈ ns ↔ k ∈ l) → H p = none → Q (.ref p) (upd H p (.lst (ns.map V.int)))) : rSortSetN w [.ref D] H Q :=
  ⟨D, _, n, rfl, hD, fun ns p h1 h2 _ hp => q ns p h1 (fun k => by rw [h2 k]; simp [inS]) hp⟩
end
end L2
namespace L2
open PySem PySem.Spec PyProof.Rows
/-! ### a set of ints by a comprehension of two clauses -/
section
variable {X : Cx}
/-- the inner clause's own loop, from which Y is reached -/
def sc2_inner (w : World) (D : Addr) (g1 : TG) (tt1 : TT) (te : TE) (vs1 : List Nat) (σ2 : St) (Y : Hp → Prop) (J1 : It) (G4 : Hp) : Prop := ∃ Z1 : Nat → Nat → Hp → Prop, (∃ m, Z1 0 m G4) ∧ ∀ j k G, Z1 j k G →
  (J1.stop j G ∧ Y G) ∨ (J1.go j G ∧ ∃ Y1 : Hp → Prop, (∀ G', Y1 G' → ∃ l, l < k ∧ Z1 (j + 1) l G') ∧ ∀ x G', J1.yld j G x G' → g1 x (wipe σ2 vs1) G' fun σ3 G5 => wipe σ3 vs1 = wipe σ2 vs1 ∧ tt1 σ3 G5 fun b G6 =>
    if b = true then te σ3 G6 fun y G7 => ∃ (c : Int) (S : Int → Bool) (n : Nat), y = .int c ∧ G7 D = some (SetO w D S n) ∧ n + 1 < scanBound ∧ Y1 (upd G7 D (SetO w D (fun j => S j || decide (j = c)) (if S c = true then n else n + 1))) else Y1 G6)
def tScI2 (w : World) (wi : TI) (g : TG) (tt : TT) (wi1 : TI) (g1 : TG) (tt1 : TT) (te : TE) (vs vs1 : List Nat) : TE := fun σ H Q => wi σ H fun J H1 => ∀ D, H1 D = none → ∃ Z : Nat → Nat → Hp → Prop, (∃ m, Z 0 m (upd H1 D (SetO w D setNo 0))) ∧ ∀ i m G, Z i m G →
  (J.stop i G ∧ Q (.ref D) G) ∨ (J.go i G ∧ ∃ Y : Hp → Prop, (∀ G', Y G' → ∃ l, l < m ∧ Z (i + 1) l G') ∧ ∀ x G', J.yld i G x G' → g x (wipe σ vs) G' fun σ2 G2 => wipe σ2 vs = wipe σ vs ∧ tt σ2 G2 fun b G3 =>
    if b = true then wi1 σ2 G3 (sc2_inner w D g1 tt1 te vs1 σ2 Y) else Y G3)
end
end L2
/-! ### a set of ints as what was put in, in order -/
namespace L2
open PySem PySem.Spec PyProof.Rows
def insL (l : List Int) (c : Int) : List Int := if c ∈ l then l else l ++ [c]
def ofL (xs : List Int) : List Int := xs.foldl insL []
theorem ofL_snoc {xs : List Int} {c : Int} : ofL (xs ++ [c]) = insL (ofL xs) c := by
  unfold ofL
  rw [List.foldl_append]
  rfl
theorem mem_insL {l : List Int} {c k : Int} : k ∈ insL l c ↔ k ∈ l ∨ k = c := by
  unfold insL
  split
  · rename_i h
    exact ⟨.inl, fun z => z.elim id fun e => e ▸ h⟩
  · simp
theorem mem_foldl : ∀ {xs l : List Int} {k : Int}, k ∈ xs.foldl insL l ↔ k ∈ l ∨ k ∈ xs
  | [], l, k => by simp
  | c :: xs, l, k => by
    rw [List.foldl_cons, mem_foldl (xs := xs), mem_insL, List.mem_cons]
    constructor
    · rintro ((h | h) | h)
      · exact .inl h
      · exact .inr (.inl h)
      · exact .inr (.inr h)
    · rintro (h | h | h)
      · exact .inl (.inl h)
      · exact .inl (.inr h)
      · exact .inr h
theorem mem_ofL {xs : List Int} {k : Int} : k ∈ ofL xs ↔ k ∈ xs := by
  unfold ofL
  rw [mem_foldl]
  simp
theorem nodup_insL {l : List Int} {c : Int} (h : l.Nodup) : (insL l c).Nodup := by
  unfold insL
  split
  · exact h
  · rename_i hc
    refine List.nodup_append.mpr ⟨h, by simp, ?_⟩
    intro a ha b hb e
    rw [List.mem_singleton] at hb
    exact hc (hb ▸ e ▸ ha)
theorem nodup_foldl : ∀ {xs l : List Int}, l.Nodup → (xs.foldl insL l).Nodup
  | [], _, h => h
  | _ :: xs, _, h => nodup_foldl (xs := xs) (nodup_insL h)
theorem nodup_ofL {xs : List Int} : (ofL xs).Nodup := nodup_foldl List.nodup_nil
theorem len_insL {l : List Int} {c : Int} : (insL l c).length ≤ l.length + 1 := by
  unfold insL
  split
  · exact Nat.le_succ _
  · simp
theorem len_foldl : ∀ {xs l : List Int}, (xs.foldl insL l).length ≤ l.length + xs.length
  | [], _ => Nat.le_refl _
  | c :: xs, l => by
    have a := len_foldl (xs := xs) (l := insL l c)
    have b := len_insL (l := l) (c := c)
    rw [List.foldl_cons, List.length_cons]
    omega
theorem len_ofL {xs : List Int} : (ofL xs).length ≤ xs.length := by
  have := len_foldl (xs := xs) (l := [])
  unfold ofL
  simpa using this
/-- distinct ints from 0 on below M are at most M -/
theorem nodup_le : ∀ {M : Nat} {l : List Int}, l.Nodup → (∀ x ∈ l, 0 ≤ x ∧ x < (M : Int)) → l.length ≤ M
  | 0, l, _, h => by
    cases l with
    | nil => exact Nat.le_refl _
    | cons a l => have := h a List.mem_cons_self; omega
  | M + 1, l, nd, h => by
    have e1 : (l.filter (fun x => decide (x ≠ (M : Int)))).length ≤ M := nodup_le (nd.filter _) fun x hx => by
      obtain ⟨a, b⟩ := List.mem_filter.mp hx
      have := h x a
      have := of_decide_eq_true b
      omega
    have e2 : (l.filter (fun x => decide (x = (M : Int)))).length ≤ 1 := by
      match hf : l.filter (fun x => decide (x = (M : Int))) with
      | [] => exact Nat.zero_le _
      | [_] => exact Nat.le_refl _
      | a :: b :: r =>
        have n2 : (a :: b :: r).Nodup := hf ▸ nd.filter _
        have ha : a ∈ l.filter (fun x => decide (x = (M : Int))) := by rw [hf]; exact List.mem_cons_self
        have hb : b ∈ l.filter (fun x => decide (x = (M : Int))) := by rw [hf]; exact List.mem_cons_of_mem _ List.mem_cons_self
        have ea := of_decide_eq_true (List.mem_filter.mp ha).2
        have eb := of_decide_eq_true (List.mem_filter.mp hb).2
        have := (List.nodup_cons.mp n2).1
        rw [ea, eb] at this
        exact absurd List.mem_cons_self this
    have e3 : l.length = (l.filter (fun x => decide (x = (M : Int)))).length + (l.filter (fun x => decide (x ≠ (M : Int)))).length := by
      clear h e1 e2 nd
      induction l with
      | nil => rfl
      | cons a l ih =>
        by_cases z : a = (M : Int)
        · simp [z, ih]
          omega
        · simp [z, ih]
          omega
    omega
section
variable {w : World} {σ : St} {H : Hp} {Q : VK} {K : PySem.W.Frag} {te : TE} {tt : TT}
/-- the heap with the set of what stands in xs at D -/
def SetL (w : World) (H : Hp) (D : Addr) (xs : List Int) : Hp := upd H D (SetO w D (inS (ofL xs)) (ofL xs).length)
theorem SetL.at {D : Addr} {xs : List Int} : SetL w H D xs D = some (SetO w D (inS (ofL xs)) (ofL xs).length) := upd_same
theorem SetL.same {D : Addr} {xs : List Int} (h : H D = none) : Same H (SetL w H D xs) := same_new h
theorem SetL.nt {D : Addr} {xs : List Int} (h : NoT H) : NoT (SetL w H D xs) := NoT.upd h rfl
theorem SetL.nil {D : Addr} : upd H D (SetO w D setNo 0) = SetL w H D [] := by rw [← inS_nil]; rfl
theorem SetL.put {D : Addr} {xs : List Int} {c : Int} : upd (SetL w H D xs) D (SetO w D (fun j => inS (ofL xs) j || decide (j = c)) (if inS (ofL xs) c = true then (ofL xs).length else (ofL xs).length + 1)) = SetL w H D (xs ++ [c]) := by
  unfold SetL
  rw [upd_upd, ofL_snoc, inS_snoc]
  by_cases h : c ∈ ofL xs
  · have e1 : inS (ofL xs) c = true := decide_eq_true h
    have e2 : inS (ofL xs ++ [c]) = inS (ofL xs) := by
      funext k
      refine decide_eq_decide.mpr ?_
      rw [List.mem_append, List.mem_singleton]
      exact ⟨fun z => z.elim id fun e => e ▸ h, .inl⟩
    rw [if_pos e1, e2, show insL (ofL xs) c = ofL xs from if_pos h]
  · have e1 : ¬ inS (ofL xs) c = true := fun z => h (of_decide_eq_true z)
    rw [if_neg e1, show insL (ofL xs) c = ofL xs ++ [c] from if_neg h, List.length_append]
    rfl
/-- two clauses -/
def sc2B (w : World) (J : It) (g : TG) (tt : TT) (wi1 : TI) (g1 : TG) (tt1 : TT) (te : TE) (vs vs1 : List Nat) (σ : St) (Q : VK) (H1 : Hp) : Prop := ∀ D, H1 D = none → ∃ Z : Nat → Nat → Hp → Prop, (∃ m, Z 0 m (upd H1 D (SetO w D setNo 0))) ∧ ∀ i m G, Z i m G →
  (J.stop i G ∧ Q (.ref D) G) ∨ (J.go i G ∧ ∃ Y : Hp → Prop, (∀ G', Y G' → ∃ l, l < m ∧ Z (i + 1) l G') ∧ ∀ x G', J.yld i G x G' → g x (wipe σ vs) G' fun σ2 G2 => wipe σ2 vs = wipe σ vs ∧ tt σ2 G2 fun b G3 =>
    if b = true then wi1 σ2 G3 (sc2_inner w D g1 tt1 te vs1 σ2 Y) else Y G3)
instance st_scI2 {wi wi1 : TI} {g g1 : TG} {tt1 : TT} {vs vs1 : List Nat} : Stp (tScI2 w wi g tt wi1 g1 tt1 te vs vs1 σ H Q) (wi σ H fun J H1 => sc2B w J g tt wi1 g1 tt1 te vs vs1 σ Q H1) := ⟨fun h => h⟩
end
end L2
namespace L2
open PySem PySem.Spec PyProof.Rows
/-! ### list comprehensions over a list of ints -/
section
variable {σ : St} {H : Hp} {Q : VK} {K : PySem.W.Frag} {te : TE} {tt : TT}
def resI (p : Int → Bool) (f : Int → V) (ns : List Int) : List V := (ns.filter p).map f
theorem resI_len {p : Int → Bool} {f : Int → V} {ns : List Int} : (resI p f ns).length ≤ ns.length := by
  unfold resI
  rw [List.length_map]
  exact List.length_filter_le _ _
theorem put_I {D : Addr} {p : Int → Bool} {f : Int → V} {l : List Int} {x : Int} {y : V} (hi : l.length < 1000000) (hp : p x = true) (hy : y = f x) : LcPut H D (resI p f l) (resI p f (l ++ [x])) y (upd H D (.lst (resI p f l))) := by
  refine ⟨_, upd_same, Nat.lt_of_le_of_lt resI_len (Nat.lt_trans hi (by decide)), ?_⟩
  rw [upd_upd]
  unfold resI
  rw [List.filter_append, List.map_append, hy]
  simp [hp]
theorem skip_I {D : Addr} {p : Int → Bool} {f : Int → V} {l : List Int} {x : Int} (hp : p x = false) : LcSkip H D (resI p f (l ++ [x])) (upd H D (.lst (resI p f l))) := by
  show upd H D _ = _
  unfold resI
  rw [List.filter_append, List.map_append]
  simp [hp]
theorem rd_lcI {a : Addr} {ns : List Int} {g : TG} {vs : List Nat} (p : Int → Bool) (f : Int → V) (hS : SqL K H a (ns.map V.int))
    (hs : ∀ D l x r, H D = none → ns = l ++ x :: r → g (.int x) (wipe σ vs) (upd H D (.lst (resI p f l))) fun σ2 H2 => wipe σ2 vs = wipe σ vs ∧ tt σ2 H2 fun b H3 => if b = true then te σ2 H3 (LcPut H D (resI p f l) (resI p f (l ++ [x]))) else LcSkip H D (resI p f (l ++ [x])) H3)
    (q : ∀ D, H D = none → Q (.ref D) (upd H D (.lst ((ns.filter p).map f)))) : lcB (Itl K a) g tt te vs σ Q H := by
  intro D hD
  refine ⟨fun i m H' => m = ns.length - i ∧ i ≤ ns.length ∧ H' = upd H D (.lst (resI p f (ns.take i))), ⟨ns.length, by simp, Nat.zero_le _, rfl⟩, ?_⟩
  rintro i m H' ⟨rfl, hi, rfl⟩
  have hS' : SqL K (upd H D (.lst (resI p f (ns.take i)))) a (ns.map V.int) := (same_new hD).seq hS
  by_cases hlt : i < ns.length
  · have hx : (ns.map V.int)[i]? = some (.int ns[i]) := by simp [hlt]
    have er : ns.take (i + 1) = ns.take i ++ [ns[i]] := by rw [List.take_add_one, List.getElem?_eq_getElem hlt]; rfl
    refine .inr ⟨⟨_, _, hS', hx⟩, fun H' => H' = upd H D (.lst (resI p f (ns.take (i + 1)))), fun H' p' => ⟨ns.length - (i + 1), by omega, rfl, hlt, p'⟩, fun x H' y => ?_⟩
    obtain ⟨e, y⟩ := y
    subst e
    have ex : x = .int ns[i] := Option.some.inj ((y _ hS').symm.trans hx)
    subst ex
    have z := hs D (ns.take i) ns[i] (ns.drop (i + 1)) hD (by rw [List.getElem_cons_drop, List.take_append_drop])
    rw [← er] at z
    exact z
  · have e : i = ns.length := by omega
    subst e
    rw [List.take_length]
    exact .inl ⟨⟨_, (same_new hD).seq hS, by rw [List.length_map]; exact Nat.le_refl _⟩, q D hD⟩
end
end L2
namespace L2
open PySem PySem.Spec PyProof.Rows
/-! ### making and methods within a try -/
section
variable {X : Cx} {k : Nat} {f C : Addr} {fd : FuncData} {ps : List PySem.Str} {sp : Sp} {x m : PySem.Str} {p pos apos : Pos} {e o : Expr} {es : List Expr} {ta : TE} {t : TA} {W : WX}
def tMakeT (C : Addr) (sp : Sp) (E : St → XK) (t : TA) : TE := fun σ H Q => t σ H fun vs H1 => ∀ x dx, H1 x = none → H1 dx = none → dx ≠ x → sp (.ref x :: vs) (upd (upd H1 dx (.own x)) x (.ins C dx [])) (fun v H2 => v = .non ∧ Q (.ref x) H2) (E σ)
instance st_makeS {σ : St} {H : Hp} {Q : VK} {E : St → XK} : Stp (tMakeT C sp E t σ H Q) (t σ H fun vs H1 => ∀ x dx, H1 x = none → H1 dx = none → dx ≠ x → sp (.ref x :: vs) (upd (upd H1 dx (.own x)) x (.ins C dx [])) (fun v H2 => v = .non ∧ Q (.ref x) H2) (E σ)) := ⟨fun h => h⟩
/-- o.m(e, ..) within a try -/
def tMethT (C : Addr) (m : PySem.Str) (sp : Sp) (E : St → XK) (ta : TE) (t : TA) : TE := fun σ H Q => ta σ H fun x H1 => ∃ a dx fs, x = .ref a ∧ H1 a = some (.ins C dx fs) ∧ fs.lookup m = none ∧ t σ H1 fun vs H2 => sp (x :: vs) H2 Q (E σ)
theorem pe_mdS {pl : Sem Bool} (D : MDef X.prog X.w X.K X.mg X.base k C m ps sp) (he : PE X o ta) (c : Cls X.K C) (hr : Room k X.A) (tk : Takes X W) (ha : PA X (e :: es) t)
    (hst : starEach (e :: es) X.env = (false, eval e X.env) :: starEach es X.env := by rfl) (hpl : (backTo pos (starEach es X.env)).any (·.1) = false := by rfl)
    (ht : eval (.Call (.Attribute o m apos) (e :: es) [] pos) X.env = (do
      let self ← eval o X.env
      standAt apos.atName
      let (g, ahead) ← holding [self] (getMethod self m pl)
      callWith pos g ahead (backTo pos (starEach (e :: es) X.env)) (backToKw pos (keywordEach [] X.env))) := by rfl) :
    PE X (.Call (.Attribute o m apos) (e :: es) [] pos) (tMethT C m sp (WE W) ta t) := by
  obtain ⟨f, fd, F, g, b⟩ := D.ex
  refine ⟨fun pins s σ H Q I h => PySem.W.methodCall_KW (pl := pl) (thn (he.run pins s σ H _ I h) fun u s1 ⟨x, H1, I1, rx, a, dx, fs, ex, at_, no, q⟩ => ?_) ht⟩
  subst ex
  obtain rfl : u = Value.ref a := rx
  refine getmeth_ok I1 at_ c g no ?_
  refine PySem.W.callWith_K (first := [.ref a]) (h₀ := X.base) I1.ok.mod.kin g.kp (thn (ha.run pos pins s1 σ H1 _ I1 q) fun us s2 ⟨vs, H2, I2, r, q2⟩ => ⟨I2.kIn, ?_⟩) hst hpl
  exact run_fnS (E := WE W) (us := .ref a :: us) (vs := .ref a :: vs) F hr b (passAt tk σ) I2 (.cons rfl r) q2
instance st_methT {σ : St} {H : Hp} {Q : VK} {E : St → XK} : Stp (tMethT C m sp E ta t σ H Q) (ta σ H fun x H1 => ∃ a dx fs, x = .ref a ∧ H1 a = some (.ins C dx fs) ∧ fs.lookup m = none ∧ t σ H1 fun vs H2 => sp (x :: vs) H2 Q (E σ)) := ⟨fun h => h⟩
end
end L2
namespace L2
open PySem PySem.Spec PyProof.Rows
section
variable {H : Hp} {Q : VK} {K : PySem.W.Frag} {a : Addr}
theorem rd_sortedI {ns : List Int} (h : SqL K H a (ns.map V.int)) (q : ∀ (ms : List Int) (p : Addr), ms.Perm ns → ms.Pairwise (· ≤ ·) → H p = none → Q (.ref p) (upd H p (.lst (ms.map V.int)))) : rSortedI K [.ref a] H Q := ⟨a, ns, rfl, h, q⟩
end
end L2
namespace L2
open PySem PySem.Spec PyProof.Rows
/-! ### dicts with ints as keys -/
section
variable {σ : St} {H : Hp} {Q : VK} {K : PySem.W.Frag} {v x y : V} {td ty tv : TE} {a : Addr} {i : Int} {kvs : List (Key × V)} {nx : St → Hp → Prop} {rt : VK} {bk ct : St → Hp → Prop}
instance st_dnewK : Stp (tDNewK σ H Q) (∀ p, H p = none → Q (.ref p) (upd H p (.dK []))) := ⟨fun h => h⟩
def rDGetV (Q : VK) : V → V → Hp → Prop := fun x y H => ∃ a v, x = .ref a ∧ DGet H a y (some v) ∧ Q v H
def rDInV (Q : VK) : V → V → Hp → Prop := fun x y H => ∃ a o, x = .ref a ∧ DGet H a y o ∧ Q (.bl o.isSome) H
def rDNinV (Q : VK) : V → V → Hp → Prop := fun x y H => ∃ a o, x = .ref a ∧ DGet H a y o ∧ Q (.bl (!o.isSome)) H
def rDPutV (S : Hp → Prop) : V → V → V → Hp → Prop := fun x y v H => ∃ a H4, x = .ref a ∧ DPut H a y v H4 ∧ S H4
instance st_dget : Stp (tDGet td ty σ H Q) (td σ H fun x H1 => ty σ H1 fun y H2 => rDGetV Q x y H2) := ⟨fun h => h⟩
instance st_din : Stp (tDIn ty td σ H Q) (ty σ H fun y H1 => td σ H1 fun x H2 => rDInV Q x y H2) := ⟨fun h => h⟩
instance st_dnotin : Stp (tDNotIn ty td σ H Q) (ty σ H fun y H1 => td σ H1 fun x H2 => rDNinV Q x y H2) := ⟨fun h => h⟩
instance st_dput : Stp (sDPut td ty tv ⟨nx, rt, bk, ct⟩ σ H) (tv σ H fun v H1 => td σ H1 fun x H2 => ty σ H2 fun y H3 => rDPutV (nx σ) x y v H3) := ⟨fun h => h⟩
theorem rd_dget1 (h : H a = some (.dK kvs)) (hv : valV kvs (.inl i) = some v) (q : Q v H) : rDGetV Q (.ref a) (.int i) H := ⟨a, v, rfl, hv ▸ DGet.k (k := .inl i) h, q⟩
theorem rd_din1 {b : Bool} (h : H a = some (.dK kvs)) (hb : (valV kvs (.inl i)).isSome = b) (q : Q (.bl b) H) : rDInV Q (.ref a) (.int i) H := ⟨a, _, rfl, DGet.k (k := .inl i) h, by rw [hb]; exact q⟩
theorem rd_dnotin1 {b : Bool} (h : H a = some (.dK kvs)) (hb : (valV kvs (.inl i)).isSome = b) (q : Q (.bl (!b)) H) : rDNinV Q (.ref a) (.int i) H := ⟨a, _, rfl, DGet.k (k := .inl i) h, by rw [hb]; exact q⟩
theorem rd_dput1 {S : Hp → Prop} (h : H a = some (.dK kvs)) (hl : kvs.length < sizeLine) (q : S (upd H a (.dK (putK kvs (.inl i) v)))) : rDPutV S (.ref a) (.int i) v H := ⟨a, _, rfl, DPut.k (k := .inl i) h hl, q⟩
/-! dicts of flags: {k: True for ..}; ks the keys, in order -/
def dFl (ks : List Int) : List (Key × V) := ks.map fun k => (.inl k, .bl true)
abbrev DFl (ks : List Int) : HO := .dK (dFl ks)
theorem dFl_len {ks : List Int} : (dFl ks).length = ks.length := List.length_map ..
theorem dFl_val {i : Int} : ∀ {ks : List Int}, (valV (dFl ks) (.inl i)).isSome = decide (i ∈ ks)
  | [] => by simp [dFl, valV]
  | k :: ks => by
    have ih := dFl_val (i := i) (ks := ks)
    by_cases e : k = i
    · subst e
      have : valV (dFl (k :: ks)) (.inl k) = some (.bl true) := valV_pos (p := ((Sum.inl k : Key), V.bl true)) (r := dFl ks) (k := Sum.inl k) rfl
      rw [this]
      simp
    · have : valV (dFl (k :: ks)) (.inl i) = valV (dFl ks) (.inl i) := valV_neg (p := ((Sum.inl k : Key), V.bl true)) (r := dFl ks) (k := Sum.inl i) fun z => e (Sum.inl.inj z)
      rw [this, ih]
      refine decide_eq_decide.mpr ?_
      rw [List.mem_cons]
      exact ⟨.inr, fun z => z.elim (fun z => absurd z.symm e) id⟩
theorem dFl_put {ks : List Int} {i : Int} : putK (dFl ks) (.inl i) (.bl true) = dFl (insL ks i) := by
  unfold insL
  by_cases h : i ∈ ks
  · rw [if_pos h]
    unfold putK
    rw [if_pos (by rw [valV_any, dFl_val, decide_eq_true h])]
    unfold dFl
    rw [List.map_map]
    refine List.map_congr_left fun k _ => ?_
    by_cases e : k = i
    · subst e
      simp
    · simp [e]
  · rw [if_neg h]
    have hn : valV (dFl ks) (.inl i) = none := by
      have := dFl_val (i := i) (ks := ks)
      rw [decide_eq_false h] at this
      cases hv : valV (dFl ks) (.inl i) with
      | none => rfl
      | some _ => rw [hv] at this; cases this
    rw [putK_new _ hn]
    unfold dFl
    rw [List.map_append]
    rfl
theorem dFl_keys {ks : List Int} : ((dFl ks).map fun kv => kV kv.1) = ks.map V.int := by
  unfold dFl
  rw [List.map_map]
  rfl
theorem rd_dinF {ks : List Int} (h : H a = some (DFl ks)) (q : Q (.bl (decide (i ∈ ks))) H) : rDInV Q (.ref a) (.int i) H := rd_din1 h dFl_val q
theorem rd_dnotinF {ks : List Int} (h : H a = some (DFl ks)) (q : Q (.bl (!decide (i ∈ ks))) H) : rDNinV Q (.ref a) (.int i) H := rd_dnotin1 h dFl_val q
theorem rd_dputF {ks : List Int} {S : Hp → Prop} (h : H a = some (DFl ks)) (hl : ks.length < 1000000) (q : S (upd H a (DFl (insL ks i)))) : rDPutV S (.ref a) (.int i) (.bl true) H :=
  rd_dput1 h (by rw [dFl_len]; exact Nat.lt_trans hl (by decide)) (by rw [dFl_put]; exact q)
def rListDo : List V → Hp → VK → Prop := fun xs H Q => ∃ (a : Addr) (kvs : List (Key × V)), xs = [.ref a] ∧ Rd H a (.dK kvs) ∧ ∀ p, H p = none → Q (.ref p) (upd H p (.lst (kvs.map fun kv => kV kv.1)))
theorem c_listD {X : Cx} (calm : X.calm = true) : CallR X (.type "list") rListDo := call_listD calm
theorem rd_listF {ks : List Int} (h : H a = some (DFl ks)) (q : ∀ p, H p = none → Q (.ref p) (upd H p (.lst (ks.map V.int)))) : rListDo [.ref a] H Q := ⟨a, dFl ks, rfl, .inl h, by rw [dFl_keys]; exact q⟩
end
end L2
namespace L2
open PySem PySem.Spec PyProof.Rows
end L2
namespace L2
open PySem PySem.Spec PyProof.Rows
/-! ### two roads for one expression -/
def tAlt (t u : TE) : TE := fun σ H Q => t σ H Q ∨ u σ H Q
def iAlt (t u : TI) : TI := fun σ H S => t σ H S ∨ u σ H S
section
variable {X : Cx} {e tg : Expr}
theorem pe_alt {t u : TE} (h : PE X e t) (k : PE X e u) : PE X e (tAlt t u) := ⟨fun pins s σ H Q I z => z.elim (h.run pins s σ H Q I) (k.run pins s σ H Q I)⟩
theorem pi_alt {t u : TI} (h : PI X tg e t) (k : PI X tg e u) : PI X tg e (iAlt t u) := ⟨fun pins s σ H S I z => z.elim (h.run pins s σ H S I) (k.run pins s σ H S I)⟩
end
/-! ### operators of own classes -/
def rInO (C : Addr) (sp : Sp) (E : XK) : R2 := fun x y H Q => ∃ a dx fs, y = .ref a ∧ H a = some (.ins C dx fs) ∧ sp [.ref a, x] H (fun v H' => ∃ b, v = .bl b ∧ Q (.bl b) H') E
def rBinO (C : Addr) (sp : Sp) (E : XK) : R2 := fun x y H Q => ∃ a b dx fs dy gs, x = .ref a ∧ y = .ref b ∧ H a = some (.ins C dx fs) ∧ H b = some (.ins C dy gs) ∧ sp [.ref a, .ref b] H (fun v H' => ∃ r, v = .ref r ∧ Q (.ref r) H') E
def rUnO (C : Addr) (sp : Sp) (E : XK) : V → Hp → VK → Prop := fun x H Q => ∃ a dx fs, x = .ref a ∧ H a = some (.ins C dx fs) ∧ sp [.ref a] H Q E
/-- an own instance's truth -/
def rTruO (C : Addr) (sp : Sp) (E : XK) (R : Bool → Hp → Prop) (x : V) (H : Hp) : Prop := ∃ a dx fs, x = .ref a ∧ H a = some (.ins C dx fs) ∧ sp [.ref a] H (fun v H' => ∃ b, v = .bl b ∧ R b H') E
section
variable {X : Cx} {k : Nat} {C : Addr} {ps : List PySem.Str} {sp : Sp} {E : XK} {m : PySem.Str}
theorem own_at {pins : List (Addr × Obj)} {σ : St} {H : Hp} {s : Shared} {a dx : Addr} {fs : List (PySem.Str × V)} (I : Inv X pins σ H s) (ha : H a = some (.ins C dx fs)) : ∃ ox od, PySem.W.InstAt s.heap a ox C (some od) := by
  obtain ⟨mA, J, _⟩ := ins_get I.hok ha
  obtain ⟨od, J, _⟩ := J.look
  exact ⟨_, od, J⟩
theorem op_inO (D : MDef X.prog X.w X.K X.mg X.base k C "__contains__" ps sp) (hr : Room k X.A) (hx : Passes (L2.CX X.prog X.w) X E) : OpR X (compareOp .In) (rInO C sp E) := by
  intro pins s σ H x y v u Q I rx ry ⟨a, dx, fs, ey, ha, go⟩
  subst ey
  cases (show u = Value.ref a from ry)
  obtain ⟨f, fd, F, g, b⟩ := D.ex
  obtain ⟨ox, od, J⟩ := own_at I ha
  obtain ⟨m, hF⟩ := I.fr
  refine PySem.W.in_K hF I.ok.mod.kin J g.at_ g.fn (wpAny_mono (run_fn (dvs := []) (ds := []) (us := [.ref a, v]) (vs := [.ref a, x]) F hr b .nil hx I (.cons rfl (.cons rx .nil)) go) (fun r t done => ?_) fun _ _ z => z)
  obtain ⟨z, H', I', rz, bb, ez, q⟩ := done
  subst ez
  cases (show r = Value.bool bb from rz)
  exact wpAny_truthy_bool ⟨.bl bb, H', I', rfl, q⟩
theorem op_binO {op : Operator} (D : MDef X.prog X.w X.K X.mg X.base k C m ps sp) (hm : PySem.dunder op.info.2 = m) (first : PySem.W.selfFirst X.K C = true) (ty : ∀ (H : Hp) (a dx : Addr) (fs : List (PySem.Str × V)), H a = some (.ins C dx fs) → TyX X.K H (.ref a) (.ref C)) (hr : Room k X.A) (hx : Passes (L2.CX X.prog X.w) X E) :
    OpR X (binaryOp op) (rBinO C sp E) := by
  intro pins s σ H x y v u Q I rx ry ⟨a, b, dx, fs, dy, gs, ex, ey, ha, hb, go⟩
  subst ex ey hm
  cases (show v = Value.ref a from rx)
  cases (show u = Value.ref b from ry)
  obtain ⟨f, fd, F, g, bd⟩ := D.ex
  obtain ⟨ox, od, J⟩ := own_at I ha
  obtain ⟨m, hF⟩ := I.fr
  obtain ⟨P, Z, hp, _⟩ := kit_of I (show RelV (V.ref b) (Value.ref b) from rfl) (ty H b dy gs hb)
  refine PySem.W.binop_K hF I.ok.mod.kin J (Z.ty _ s.heap I.kIn hp) first g.at_ g.fn (wpAny_mono (run_fn (dvs := []) (ds := []) (us := [.ref a, .ref b]) (vs := [.ref a, .ref b]) F hr bd .nil hx I (.cons rfl (.cons rfl .nil)) go) (fun r t done => ?_) fun _ _ z => z)
  obtain ⟨z, H', I', rz, rr, ez, q⟩ := done
  subst ez
  cases (show r = Value.ref rr from rz)
  exact ⟨.ref rr, H', I', rfl, q⟩
theorem un_invO (D : MDef X.prog X.w X.K X.mg X.base k C "__invert__" ps sp) (hr : Room k X.A) (hx : Passes (L2.CX X.prog X.w) X E) : UnR X (unaryOp .Invert) (rUnO C sp E) := by
  intro pins s σ H x v Q I rx ⟨a, dx, fs, ex, ha, go⟩
  subst ex
  cases (show v = Value.ref a from rx)
  obtain ⟨f, fd, F, g, b⟩ := D.ex
  obtain ⟨ox, od, J⟩ := own_at I ha
  obtain ⟨m, hF⟩ := I.fr
  exact PySem.W.ksp_inv hF I.ok.mod.kin J g.at_ g.fn (run_fn (dvs := []) (ds := []) (us := [.ref a]) (vs := [.ref a]) F hr b .nil hx I (.cons rfl .nil) go)
variable {a : Expr} {ta : TE} {pos : Pos}
/-- an instance as a test -/
def tTruO (C : Addr) (sp : Sp) (E : XK) (ta : TE) : TT := fun σ H R => ta σ H (rTruO C sp E R)
/-- not of an instance, as a value -/
def tNotO (C : Addr) (sp : Sp) (E : XK) (ta : TE) : TE := fun σ H Q => ta σ H (rTruO C sp E fun b H' => Q (.bl (!b)) H')
end
section
variable {σ : St} {H : Hp} {Q : VK} {R : Bool → Hp → Prop} {C a b dx dy : Addr} {fs gs : List (PySem.Str × V)} {sp : Sp} {E : XK} {x : V} {ta te : TE} {t u : TE}
instance st_tTruO : Stp (tTruO C sp E ta σ H R) (ta σ H (rTruO C sp E R)) := ⟨fun h => h⟩
instance st_tNotO : Stp (tNotO C sp E ta σ H Q) (ta σ H (rTruO C sp E fun b H' => Q (.bl (!b)) H')) := ⟨fun h => h⟩
theorem rd_inO (h : H a = some (.ins C dx fs)) (q : sp [.ref a, x] H (fun v H' => ∃ b, v = .bl b ∧ Q (.bl b) H') E) : rInO C sp E x (.ref a) H Q := ⟨a, dx, fs, rfl, h, q⟩
theorem rd_binO (h : H a = some (.ins C dx fs)) (k : H b = some (.ins C dy gs)) (q : sp [.ref a, .ref b] H (fun v H' => ∃ r, v = .ref r ∧ Q (.ref r) H') E) : rBinO C sp E (.ref a) (.ref b) H Q := ⟨a, b, dx, fs, dy, gs, rfl, rfl, h, k, q⟩
theorem rd_unO (h : H a = some (.ins C dx fs)) (q : sp [.ref a] H Q E) : rUnO C sp E (.ref a) H Q := ⟨a, dx, fs, rfl, h, q⟩
end
/-! ### bool(o) -/
/-! ### classmethods -/
structure CMAt (K : PySem.W.Frag) (C : Addr) (m qual : PySem.Str) (st : Stmt) : Prop where
  ex : ∃ (mc : Value) (p g : Addr) (fd : FuncData), ClX.CRead K C mc ∧ ClX.CMet K C mc m p g ∧ Fun K m qual st g fd
structure CMDef (P : Program) (w : World) (K : PySem.W.Frag) (mg : PySem.Str → Option Value) (base : Heap) (k : Nat) (C : Addr) (m : PySem.Str) (sp : Sp) : Prop where
  ex : ∃ (mc : Value) (p g : Addr), ClX.CRead K C mc ∧ ClX.CMet K C mc m p g ∧ FnR P w K mg base (L2.CX P w) k g sp
section
variable {P : Program} {w : World} {K : PySem.W.Frag} {mg : PySem.Str → Option Value} {base : Heap}
theorem CMDef.imp {k : Nat} {C : Addr} {m : PySem.Str} {sp sp' : Sp} (D : CMDef P w K mg base k C m sp) (h : ∀ vs H Q E, sp' vs H Q E → sp vs H Q E) : CMDef P w K mg base k C m sp' := by
  obtain ⟨mc, p, g, a, b, F⟩ := D.ex
  exact ⟨mc, p, g, a, b, F.imp h⟩
theorem FnR.forget {k : Nat} {f : Addr} {sp : Sp} (F : FnR P w K mg base (L2.CX P w) k f sp) : FnR P w K mg base (L2.CX P w) k f (fun vs H Q E => NoT H ∧ sp vs H (fun v H' => Same H H' ∧ Q v H) E) := by
  intro A outer s H us vs Q E hr he r q
  refine codeAny_mono (F A outer s H us vs _ E hr he r q.2) fun res t done => ?_
  cases res with
  | error er => exact done
  | ok fl =>
    cases fl with
    | ret u =>
      obtain ⟨v, H2, os2, bare2, un2, hok2, rv, sm, q2⟩ := done
      exact ⟨v, H, os2, bare2, ⟨un2.keep, un2.slot, fun _ _ _ n _ => n, un2.there, fun _ _ q => q, fun _ _ _ q => q, fun _ ps q => ⟨#[], by rw [q]; simp⟩⟩, hok_back q.1 hok2 he.hok sm, rv, q2⟩
    | next => exact done
    | brk => exact done
    | cont => exact done
theorem CMDef.forget {k : Nat} {C : Addr} {m : PySem.Str} {sp : Sp} (D : CMDef P w K mg base k C m sp) : CMDef P w K mg base k C m (fun vs H Q E => NoT H ∧ sp vs H (fun v H' => Same H H' ∧ Q v H) E) := by
  obtain ⟨mc, p, g, a, b, F⟩ := D.ex
  exact ⟨mc, p, g, a, b, FnR.forget F⟩
/-- a classmethod with plain parameters -/
theorem CMAt.ok {C : Addr} {m qual : PySem.Str} {st : Stmt} {N ps : List PySem.Str} {k : Nat} {sp : Sp} (D : CMAt K C m qual st) (S : FnScope N ps (defScope st)) (len : ∀ vs H Q E, sp vs H Q E → vs.length = ps.length)
    (binds : ∀ (f : Addr) (fd : FuncData), Fun K m qual st f fd → Binds K fd ps [])
    (hbody : ∀ (f : Addr) (cdv : Value) (A : Around) (outer : List Env) (s : Shared) (H : Hp) (vs : List V) (Q : VK) (E : XK), Room k (A.deeper (envOfC qual (defScope st) s.heap.objs.size f cdv)) → sp vs H Q E →
      ∃ t, PSs (cxOf (L2.CX P w) P w K mg base N qual (defScope st) f cdv A outer s H E) (defBody st) t ∧ t ⟨fun _ H' => Q .non H', Q, fun _ _ => False, fun _ _ => False⟩ (start N vs) H) : CMDef P w K mg base (k + 1) C m sp := by
  obtain ⟨mc, p, g, fd, a, b, F⟩ := D.ex
  refine ⟨mc, p, g, a, b, FnR.imp (FnOk.raw (F.okX S len fun cdv A outer s H vs Q E hr h => hbody g cdv A outer s H vs Q E hr h) (binds g fd F) .nil) fun vs H Q E h => ?_⟩
  rw [List.append_nil]
  exact h
/-- a classmethod with a star parameter behind the plain ones -/
theorem CMAt.okStar {C : Addr} {m qual pv : PySem.Str} {st : Stmt} {N ps : List PySem.Str} {k : Nat} {sp : Sp} (D : CMAt K C m qual st) (S : FnScope N (ps ++ [pv]) (defScope st))
    (binds : ∀ (kV doc pm cdv ct : Value) (an : Option Addr) (us rest : List Value), us.length = ps.length → bindArgs (PySem.W.fnOf m qual (defArgs st) (defBody st) (defScope st) .none kV doc pm an cdv ct) ⟨us ++ rest, []⟩ = (newTuple rest >>= fun t => pure (ps.zip us ++ [(pv, t)])))
    (hbody : ∀ (f : Addr) (cdv : Value) (A : Around) (outer : List Env) (s : Shared) (H : Hp) (vs : List V) (Q : VK) (E : XK), Room k (A.deeper (envOfC qual (defScope st) s.heap.objs.size f cdv)) → sp vs H Q E →
      ∃ t, PSs (cxOf (L2.CX P w) P w K mg base N qual (defScope st) f cdv A outer s H E) (defBody st) t ∧ t ⟨fun _ H' => Q .non H', Q, fun _ _ => False, fun _ _ => False⟩ (start N vs) H) :
    CMDef P w K mg base (k + 1) C m (fun vs H Q E => ∃ ws rest, vs = ws ++ rest ∧ ws.length = ps.length ∧ rest.length ≤ sizeLine ∧ ∀ p, H p = none → sp (ws ++ [V.ref p]) (upd H p (.tup rest)) Q E) := by
  obtain ⟨mc, p, g, fd, a, b, F⟩ := D.ex
  obtain ⟨c0, d0, kV, doc, pm, an, cdv, ct, sl, rfl, lk, hcd⟩ := F.ex
  exact ⟨mc, p, g, a, b, StX.fn_star lk hcd S StX.cxUp (binds kV doc pm cdv ct an) fun A outer s H vs Q E hr h => hbody g cdv A outer s H vs Q E hr h⟩
end
section
variable {X : Cx} {k : Nat} {C : Addr} {m : PySem.Str} {sp : Sp} {E : XK} {o e : Expr} {es : List Expr} {ta : TE} {t : TA} {pos apos : Pos}
theorem pe_cm {pl : Sem Bool} (D : CMDef X.prog X.w X.K X.mg X.base k C m sp) (he : PE X o ta) (hr : Room k X.A) (hx : Passes (L2.CX X.prog X.w) X E) (ha : PA X (e :: es) t)
    (hst : starEach (e :: es) X.env = (false, eval e X.env) :: starEach es X.env := by rfl) (hpl : (backTo pos (starEach es X.env)).any (·.1) = false := by rfl)
    (ht : eval (.Call (.Attribute o m apos) (e :: es) [] pos) X.env = (do
      let self ← eval o X.env
      standAt apos.atName
      let (g, ahead) ← holding [self] (getMethod self m pl)
      callWith pos g ahead (backTo pos (starEach (e :: es) X.env)) (backToKw pos (keywordEach [] X.env))) := by rfl) :
    PE X (.Call (.Attribute o m apos) (e :: es) [] pos) (ClX.tCMeth C sp E ta t) := by
  obtain ⟨mc, p, g, a, b, F⟩ := D.ex
  exact ClX.pe_cmeth he a b F hr hx ha hst hpl ht
theorem pe_cm0 {pl : Sem Bool} (D : CMDef X.prog X.w X.K X.mg X.base k C m sp) (he : PE X o ta) (hr : Room k X.A) (hx : Passes (L2.CX X.prog X.w) X E)
    (ht : eval (.Call (.Attribute o m apos) [] [] pos) X.env = (do
      let self ← eval o X.env
      standAt apos.atName
      let (g, ahead) ← holding [self] (getMethod self m pl)
      callWith pos g ahead (backTo pos (starEach [] X.env)) (backToKw pos (keywordEach [] X.env))) := by rfl) :
    PE X (.Call (.Attribute o m apos) [] [] pos) (ClX.tCMeth C sp E ta tNil) := by
  obtain ⟨mc, p, g, a, b, F⟩ := D.ex
  refine ⟨fun pins s σ H Q I h => PySem.W.methodCall_KW (pl := pl) (thn (he.run pins s σ H _ I h) fun u s1 ⟨x, H1, I1, rx, ex, q⟩ => ?_) ht⟩
  subst ex
  obtain rfl : u = Value.ref C := rx
  refine ClX.getmethcm_ok I1 a b fun s2 I2 => ?_
  exact PySem.W.callWith_M0 (first := []) ⟨ClX.pin_at I2, I2.kIn⟩ b.fi (ClX.run_cm (us := []) F hr hx I2 .nil q)
instance st_cm {σ : St} {H : Hp} {Q : VK} : Stp (ClX.tCMeth C sp E ta t σ H Q) (ta σ H fun x H1 => x = .ref C ∧ t σ H1 fun vs H2 => sp (.ref C :: vs) H2 Q E) := ⟨fun h => h⟩
instance st_cm1 {P : Prop} : Stp (V.ref C = V.ref C ∧ P) P := ⟨fun h => ⟨rfl, h⟩⟩
/-- cls(..), the class in a name -/
def tMakeL (C : Addr) (sp : Sp) (E : XK) (tf : TE) (t : TA) : TE := fun σ H Q => tf σ H fun y H1 => y = .ref C ∧ t σ H1 fun vs H2 => ∀ x dx, H2 x = none → H2 dx = none → dx ≠ x → sp (.ref x :: vs) (upd (upd H2 dx (.own x)) x (.ins C dx [])) (fun v H3 => v = .non ∧ Q (.ref x) H3) E
instance st_makeL {σ : St} {H : Hp} {Q : VK} {tf : TE} : Stp (tMakeL C sp E tf t σ H Q) (tf σ H fun y H1 => y = .ref C ∧ t σ H1 fun vs H2 => ∀ x dx, H2 x = none → H2 dx = none → dx ≠ x → sp (.ref x :: vs) (upd (upd H2 dx (.own x)) x (.ins C dx [])) (fun v H3 => v = .non ∧ Q (.ref x) H3) E) := ⟨fun h => h⟩
theorem pe_mkL {x : PySem.Str} {ps : List PySem.Str} {fe : Expr} {tf : TE} (D : MkDef X.prog X.w X.K X.mg X.base k x C ps sp) (hf : PE X fe tf) (hr : Room (k + 1) X.A) (hx : Passes (L2.CX X.prog X.w) X E) (ha : PA X (e :: es) t)
    (ht : eval (.Call fe (e :: es) [] pos) X.env = (do callWith pos (← eval fe X.env) [] (backTo pos (starEach (e :: es) X.env)) (backToKw pos (keywordEach [] X.env))) := by rfl)
    (he : starEach (e :: es) X.env = (false, eval e X.env) :: starEach es X.env := by rfl) (hpl : (backTo pos (starEach es X.env)).any (·.1) = false := by rfl) :
    PE X (.Call fe (e :: es) [] pos) (tMakeL C sp E tf t) := by
  obtain ⟨f, fd, F, M, b⟩ := D.ex
  refine ⟨fun pins s σ H Q I h => Call_ (thn (hf.run pins s σ H _ I h) fun u s1 ⟨y, H1, I1, ry, ey, q⟩ => ?_) ht⟩
  subst ey
  obtain rfl : u = Value.ref C := ry
  refine PySem.W.callWith_K (h₀ := X.base) I1.ok.mod.kin M.kp (thn (ha.run pos pins s1 σ H1 _ I1 q) fun us s2 ⟨vs, H2, I2, r, q2⟩ => ⟨I2.kIn, ?_⟩) he hpl
  refine run_make (dvs := []) M F hr b .nil hx I2 r ?_
  rw [List.append_nil]
  exact q2
end
end L2
namespace L2
open PySem PySem.Spec PyProof.Rows
/-! ### bool(t), a tuple -/
end L2
namespace L2
open PySem PySem.Spec PyProof.Rows
/-! ### a def under a second name -/
structure DefAtA (K : PySem.W.Frag) (mg : PySem.Str → Option Value) (y x : PySem.Str) (st : Stmt) (ps : List PySem.Str) : Prop where
  ex : ∃ (f : Addr) (fd : FuncData), Fun K x x st f fd ∧ mg y = some (.ref f) ∧ Binds K fd ps []
theorem DefAtA.ok {P : Program} {w : World} {K : PySem.W.Frag} {mg : PySem.Str → Option Value} {base : Heap} {y x : PySem.Str} {st : Stmt} {N ps : List PySem.Str} {k : Nat} {sp : Sp} (D : DefAtA K mg y x st ps) (S : FnScope N ps (defScope st)) (len : ∀ vs H Q E, sp vs H Q E → vs.length = ps.length)
    (body : ∀ (f : Addr) (cdv : Value) (A : Around) (outer : List Env) (s : Shared) (H : Hp) (vs : List V) (Q : VK) (E : XK), Room k (A.deeper (envOfC x (defScope st) s.heap.objs.size f cdv)) → sp vs H Q E →
      ∃ t, PSs (cxOf (L2.CX P w) P w K mg base N x (defScope st) f cdv A outer s H E) (defBody st) t ∧ t ⟨fun _ H' => Q .non H', Q, fun _ _ => False, fun _ _ => False⟩ (start N vs) H) : Def P w K mg base (k + 1) y ps sp := by
  obtain ⟨f, fd, F, g, b⟩ := D.ex
  exact ⟨f, fd, F.okX S len fun cdv A outer s H vs Q E hr h => body f cdv A outer s H vs Q E hr h, g, F.kp, b⟩
/-! ### {k: v for ..} given to a name -/
theorem ps_setDc {X : Cx} {i : Nat} {y : PySem.Str} {py spos : Pos} {kx vx tg iter : Expr} {ifs : List Expr} {scope : Scope} {own : List (PySem.Str × Nat)} {pos : Pos} {wi : TI} {g : TG} {tt : TT} {tk tv : TE} (calm : X.calm = true) (nd : X.N.Nodup) (hy : X.N[i]? = some y) (loc : X.env.scope.names.lookup y = some .local)
    (swap : swapsWith (.DictComp kx vx [⟨tg, iter, ifs, 0⟩] scope pos) (some (.Name y py)) spos.line X.env = pure true) (it0 : PI X tg iter wi) (ok : BlkOk X.N X.env.scope scope own)
    (pg0 : ∀ (s0 : Shared) (G : Hp) (C : Addr) (cl : List (PySem.Str × Addr)) (fp : List Addr), PG (X.blk s0 G scope (compEnvC scope cl C X.env) fp) tg g)
    (pt0 : ∀ (s0 : Shared) (G : Hp) (C : Addr) (cl : List (PySem.Str × Addr)) (fp : List Addr), PTs (X.blk s0 G scope (compEnvC scope cl C X.env) fp) ifs tt)
    (pk0 : ∀ (s0 : Shared) (G : Hp) (C : Addr) (cl : List (PySem.Str × Addr)) (fp : List Addr), PE (X.blk s0 G scope (compEnvC scope cl C X.env) fp) kx tk)
    (pe0 : ∀ (s0 : Shared) (G : Hp) (C : Addr) (cl : List (PySem.Str × Addr)) (fp : List Addr), PE (X.blk s0 G scope (compEnvC scope cl C X.env) fp) vx tv) (fold : ∀ x, foldedSetIterable iter X.env x = pure x := by intro _; rfl) :
    PS X (.Assign [.Name y py] (.DictComp kx vx [⟨tg, iter, ifs, 0⟩] scope pos) spos) (tAsg (tDc wi g tt tk tv (own.map (·.2))) (gName i)) := by
  refine ⟨fun pins s σ H D I0 want => ?_⟩
  rw [exec_Assign_Name_used _ _ _ _ swap]
  refine wpAny_bind (wpAny_standAt (wpAny_bind ?_))
  show wpAny _ X.A (do let _ ← comprehension (.DictComp kx vx [⟨tg, iter, ifs, 0⟩] scope pos) scope X.env (firstIterPos [⟨tg, iter, ifs, 0⟩] pos) newDict false (eval iter X.env) (some (assign (.Name y py) X.env))) _ _ s
  replace want : tDc wi g tt tk tv (own.map (·.2)) σ H (fun x G => gName i x σ G D.nx) := want
  refine wpAny_bind (thn (dc_core (Qf := fun _ t => SP X pins D .next t) calm nd I0 it0 ok pg0 pt0 pk0 pe0 fold want fun L C t m G J q ns f => ?_) fun _ t hq => wpAny_pure (wpAny_pure hq))
  show wpAny _ _ (assign (.Name y py) X.env (.ref L)) _ _ _
  refine wpAny_assign_Name (store_ok2 (v := V.ref L) J nd hy (.inl loc) rfl (fun t2 J2 ⟨a, sb, ha⟩ => ?_) (.inr loc))
  obtain ⟨g0, g1, g2, g3, g4, g5⟩ := f
  have away : C ≠ a := by
    rcases ha with z | z
    · exact z ▸ g1
    · exact fun e => g4 y a z e.symm
  exact ⟨m, ns.sameBut sb away, fun h3 sb3 => ⟨_, G, J2.turned (t' := t2.toks) (fun b o ne e => (sb3.2 b ne).trans e) g0 g1 g3 g4 g5, q⟩⟩
theorem sw_dc {kx vx : Expr} {gs : List Comprehension} {scope : Scope} {pos py : Pos} {y : PySem.Str} {l : Nat} {env : Env} (kind : env.scope.kind = .function) (loc : env.scope.names.lookup y = some .local) (line : (py.line == pos.line) = true)
    (other : (scope.names.any fun (n, k) => n == y && (k == .local || k == .cell)) = false) : swapsWith (.DictComp kx vx gs scope pos) (some (.Name y py)) l env = pure true := by
  have k1 : env.kindOf y = some .local := loc
  have k2 : env.blockKind = .function := by unfold Env.blockKind; rw [kind]; rfl
  unfold swapsWith
  simp only [k2, k1, other, Expr.pos, line]
  rfl
/-- {x: True for x in xs}, xs a list or tuple of ints -/
def dcB (J : It) (g : TG) (tt : TT) (tk tv : TE) (vs : List Nat) (σ : St) (Q : VK) (H1 : Hp) : Prop := ∀ D, H1 D = none → ∃ W : Nat → Nat → Hp → Prop, (∃ m, W 0 m (upd H1 D (.dK []))) ∧ ∀ i m H, W i m H →
  (J.stop i H ∧ Q (.ref D) H) ∨ (J.go i H ∧ ∃ Nx : Hp → Prop, (∀ H', Nx H' → ∃ m', m' < m ∧ W (i + 1) m' H') ∧ ∀ x H', J.yld i H x H' → g x (wipe σ vs) H' fun σ2 H2 => wipe σ2 vs = wipe σ vs ∧ tt σ2 H2 fun b H3 =>
    if b = true then tk σ2 H3 fun y H4 => tv σ2 H4 fun z H5 => ∃ kvs k, y = kV k ∧ H5 D = some (.dK kvs) ∧ kvs.length < sizeLine ∧ Nx (upd H5 D (.dK (putK kvs k z))) else Nx H3)
section
variable {σ : St} {H : Hp} {Q : VK} {K : PySem.W.Frag} {tk tv : TE} {tt : TT}
instance st_dc {wi : TI} {g : TG} {vs : List Nat} : Stp (tDc wi g tt tk tv vs σ H Q) (wi σ H fun J H1 => dcB J g tt tk tv vs σ Q H1) := ⟨fun h => h⟩
def DcPut (H : Hp) (D : Addr) (xs : List Int) (y z : V) (H5 : Hp) : Prop := ∃ kvs k, y = kV k ∧ H5 D = some (.dK kvs) ∧ kvs.length < sizeLine ∧ upd H5 D (.dK (putK kvs k z)) = upd H D (DFl (ofL xs))
theorem put_F {D : Addr} {xs ys : List Int} {c : Int} (few : xs.length < 100000) (e : ys = xs ++ [c]) : DcPut H D ys (.int c) (.bl true) (upd H D (DFl (ofL xs))) := by
  refine ⟨_, .inl c, rfl, upd_same, ?_, ?_⟩
  · rw [dFl_len]
    exact Nat.lt_trans (Nat.lt_of_le_of_lt len_ofL few) (by decide)
  · rw [upd_upd, dFl_put, e, ofL_snoc]
theorem rd_dcLF {a : Addr} {ns : List Int} {g : TG} {vs : List Nat} (hS : SqL K H a (ns.map V.int))
    (hs : ∀ D l x r, H D = none → ns = l ++ x :: r → g (.int x) (wipe σ vs) (upd H D (DFl (ofL l))) fun σ2 H2 => wipe σ2 vs = wipe σ vs ∧ tk σ2 H2 fun y H4 => tv σ2 H4 fun z H5 => DcPut H D (l ++ [x]) y z H5)
    (q : ∀ D, H D = none → Q (.ref D) (upd H D (DFl (ofL ns)))) : dcB (Itl K a) g tYes tk tv vs σ Q H := by
  intro D hD
  refine ⟨fun i m G => m = ns.length - i ∧ i ≤ ns.length ∧ G = upd H D (DFl (ofL (ns.take i))), ⟨ns.length, by simp, Nat.zero_le _, rfl⟩, ?_⟩
  rintro i m G ⟨rfl, hi, rfl⟩
  have hS' : SqL K (upd H D (DFl (ofL (ns.take i)))) a (ns.map V.int) := (same_new hD).seq hS
  by_cases hlt : i < ns.length
  · have hx : (ns.map V.int)[i]? = some (.int ns[i]) := by simp [hlt]
    have er : ns.take (i + 1) = ns.take i ++ [ns[i]] := by rw [List.take_add_one, List.getElem?_eq_getElem hlt]; rfl
    refine .inr ⟨⟨_, _, hS', hx⟩, fun G' => G' = upd H D (DFl (ofL (ns.take (i + 1)))), fun G' e => ⟨ns.length - (i + 1), by omega, rfl, hlt, e⟩, fun x G' y => ?_⟩
    obtain ⟨e, y⟩ := y
    subst e
    have ex : x = .int ns[i] := Option.some.inj ((y _ hS').symm.trans hx)
    subst ex
    have z := hs D (ns.take i) ns[i] (ns.drop (i + 1)) hD (by rw [List.getElem_cons_drop, List.take_append_drop])
    rw [← er] at z
    exact z
  · have e : i = ns.length := by omega
    subst e
    rw [List.take_length]
    exact .inl ⟨⟨_, (same_new hD).seq hS, by rw [List.length_map]; exact Nat.le_refl _⟩, q D hD⟩
theorem rd_dcTF {a : Addr} {ns : List Int} {g : TG} {vs : List Nat} (hS : SqT K H a (ns.map V.int))
    (hs : ∀ D l x r, H D = none → ns = l ++ x :: r → g (.int x) (wipe σ vs) (upd H D (DFl (ofL l))) fun σ2 H2 => wipe σ2 vs = wipe σ vs ∧ tk σ2 H2 fun y H4 => tv σ2 H4 fun z H5 => DcPut H D (l ++ [x]) y z H5)
    (q : ∀ D, H D = none → Q (.ref D) (upd H D (DFl (ofL ns)))) : dcB (Itt K a) g tYes tk tv vs σ Q H := by
  intro D hD
  refine ⟨fun i m G => m = ns.length - i ∧ i ≤ ns.length ∧ G = upd H D (DFl (ofL (ns.take i))), ⟨ns.length, by simp, Nat.zero_le _, rfl⟩, ?_⟩
  rintro i m G ⟨rfl, hi, rfl⟩
  have hS' : SqT K (upd H D (DFl (ofL (ns.take i)))) a (ns.map V.int) := (same_new hD).seqT hS
  by_cases hlt : i < ns.length
  · have hx : (ns.map V.int)[i]? = some (.int ns[i]) := by simp [hlt]
    have er : ns.take (i + 1) = ns.take i ++ [ns[i]] := by rw [List.take_add_one, List.getElem?_eq_getElem hlt]; rfl
    refine .inr ⟨⟨_, _, hS', hx⟩, fun G' => G' = upd H D (DFl (ofL (ns.take (i + 1)))), fun G' e => ⟨ns.length - (i + 1), by omega, rfl, hlt, e⟩, fun x G' y => ?_⟩
    obtain ⟨e, y⟩ := y
    subst e
    have ex : x = .int ns[i] := Option.some.inj ((y _ hS').symm.trans hx)
    subst ex
    have z := hs D (ns.take i) ns[i] (ns.drop (i + 1)) hD (by rw [List.getElem_cons_drop, List.take_append_drop])
    rw [← er] at z
    exact z
  · have e : i = ns.length := by omega
    subst e
    rw [List.take_length]
    exact .inl ⟨⟨_, (same_new hD).seqT hS, by rw [List.length_map]; exact Nat.le_refl _⟩, q D hD⟩
end
end L2
namespace L2
open PySem PySem.Spec PyProof.Rows
end L2
namespace PySem.W
open PySem PySem.Spec PySem.Calls PyProof.Rows
end PySem.W
namespace L2
open PySem PySem.Spec PyProof.Rows
end L2
namespace L2
open PySem PySem.Spec PyProof.Rows
end L2
namespace L2
open PySem PySem.Spec PyProof.Rows
/-! ### set(xs), a list of ints -/
section
variable {P : Program} {w : World} {A : Around} {E : Value → Shared → Prop} {s : Shared}
/-- a set as it begins -/
abbrev setAtFirst (w : World) : Obj := { cls := .type "set", dict := none, data := .set #[] 0 (.fresh 0 0 (!w.params.followText "set-order")) }
theorem setOf_list {src : Addr} {its : Array Value} (ks : List Int) {Q : Value → Shared → Prop} (calm : A.handled = none) (isL : s.heap.IsList src its) (whole : IntsAre its.toList ks) (few : ks.length + 1 < scanBound)
    (go : ∀ (h' : Heap) (tk c : Nat), SetR w h' s.heap.objs.size (fun j => decide (j ∈ ks)) c → c ≤ ks.length → (∀ b o, s.heap.get? b = some o → h'.get? b = some o) → Q (.ref s.heap.objs.size) { s with heap := h', toks := tk }) :
    wpAny (model P w) A (call (.type "set") [.ref src]) Q E s := by
  have sizes : its.size = ks.length := by rw [← IntsAre.length whole, Array.length_toList]
  have k1 := F.called_set.made
  have k2 := F.called_set.sub
  have k3 := F.called_set.notType
  have k4 := F.called_set.canCreate
  obtain ⟨mro0, mro1, k5⟩ := F.called_set.mro
  refine wpAny_call ?_
  refine codeAny_of_tree ?_
  show wpAny _ _ (callAny (.type "set") _) _ _ s
  refine wpAny_pure ⟨Code.quiet_builtin _ (by decide +kernel), ?_⟩
  refine codeAny_builtin F.entry_type_call ?_
  rw [Around.under_plain (weight_type_call_type "set" [.ref src] []) rfl]
  have k6 := F.typeCall_set_1 (.ref src)
  repeat (any_goals (first | assumption | wp_step | fail))
  refine codeAny_mono (code_set_led1 (.ref src) (E := E) (Q₁ := fun u t => u = .ref s.heap.objs.size ∧ t = { s with heap := s.heap.push (setAtFirst w) }) ⟨rfl, rfl⟩) fun res t made => ?_
  cases res with
  | error x => exact made
  | ok flow =>
    cases flow with
    | ret u =>
      obtain ⟨rfl, rfl⟩ := made
      have atS : (s.heap.push (setAtFirst w)).get? s.heap.objs.size = some (setAtFirst w) := Heap.get?_push_size _ rfl
      have tyS : Shared.TypeIs { s with heap := s.heap.push (setAtFirst w) } (.ref s.heap.objs.size) "set" := ⟨_, atS, rfl⟩
      have k7 := F.called_set.init.lookup
      have k8 := F.called_set.init.bind (.ref s.heap.objs.size)
      repeat (any_goals (first | assumption | wp_step | fail))
      refine codeAny_mono (codeAny_call_builtin (R := wants (fun r t2 => r = .none ∧ ∃ h' tk c, t2 = { s with heap := h', toks := tk } ∧ SetR w h' s.heap.objs.size (fun j => decide (j ∈ ks)) c ∧ c ≤ ks.length ∧
          (∀ b o, s.heap.get? b = some o → h'.get? b = some o)) E) F.called_set.init.plain F.entry_set_init (check_set_init_1 tyS ?_)) fun res2 t2 done => ?_
      · obtain ⟨⟨cls0, dct0, dat0, slt0⟩, atO, isC, ep, isD⟩ := isL
        dsimp only at isC isD
        subst isC isD
        have atO1 : (s.heap.push (setAtFirst w)).get? src = some { cls := .type "list", dict := dct0, data := .seq its ep, slots := slt0 } := Heap.get?_push_of_some _ atO
        have n1 := F.sub_list_set
        have n2 := F.sub_list_frozenset
        have n3 : (Value.type "list" == Value.type "dict") = false := by decide
        have isL1 : (s.heap.push (setAtFirst w)).IsList src its := ⟨_, atO1, rfl, ep, rfl⟩
        unfold Builtin.«set.__init__» noKeywords Builtin.Frozenset.updateFrom
        generalize hit : pyIter = iterOf
        wp_walk
        subst hit
        refine wpAny_pyIter_list isL1 ?_
        refine wpAny_bind (wpAny_runValue ?_)
        have small : src < s.heap.objs.size := Heap.lt_size atO
        have grow : (s.heap.push (setAtFirst w)).objs.size = s.heap.objs.size + 1 := Heap.size_push ..
        have calm3 : A.in1.in1.in1.handled = none := by simp [calm]
        have apart : src ≠ (s.heap.push (setAtFirst w)).objs.size := by
          rw [grow]
          exact Nat.ne_of_lt (Nat.lt_succ_of_lt small)
        have away : s.heap.objs.size ∉ [(s.heap.push (setAtFirst w)).objs.size, src] := by
          rw [grow, List.mem_cons, List.mem_singleton]
          exact not_or.mpr ⟨Nat.ne_of_lt (Nat.lt_succ_self _), Nat.ne_of_gt small⟩
        have each : ∀ (i : Nat) (v : Value), its[i]? = some v → ∃ k t, ks[i]? = some k ∧ v = .int k t := fun i v hv => by
          have hi : i < ks.length := by
            rw [← sizes]
            exact (Array.getElem?_eq_some_iff.mp hv).1
          obtain ⟨t, e⟩ := PyProof.Rows.IntsAre.int_at whole i v (by rw [Array.getElem?_toList]; exact hv)
          refine ⟨ks[i], t, List.getElem?_eq_getElem hi, ?_⟩
          rw [e, List.getD_eq_getElem?_getD, List.getElem?_eq_getElem hi] <;> rfl
        refine set_update_ints ((Walks.list calm3 _ src apart its).toS) s.heap.objs.size away ks sizes few each (its.size - 0) 0 _ (by omega) (Nat.zero_le _)
          ⟨⟨_, Heap.get?_push_size _ rfl, rfl, rfl⟩, (isL1.push _)⟩ ?first ?last
        case first =>
          refine ⟨0, Nat.le_refl 0, setR_new_at ?_⟩
          exact Heap.get?_push_of_some _ atS
        case last =>
          intro t3 c3 mv le3 R3
          obtain ⟨h3, g3, d3, k3, o3⟩ := t3
          obtain rfl : g3 = s.gens := mv.gens
          obtain rfl : d3 = s.drawn := mv.drawn
          obtain rfl : o3 = s.os := mv.os
          show wpAny _ _ _ _ _ _
          refine wpAny_pure ?_
          show wpAny _ _ (ret Value.none) _ _ _
          refine wpAny_pure ⟨rfl, h3, k3, c3, rfl, R3, by rw [← sizes]; exact le3, fun b o e => ?_⟩
          have lt := Heap.lt_size e
          refine mv.heap b o ?_ (Heap.get?_push_of_some _ (Heap.get?_push_of_some _ e))
          rw [List.mem_cons, List.mem_singleton, grow]
          exact not_or.mpr ⟨Nat.ne_of_lt lt, Nat.ne_of_lt (Nat.lt_succ_of_lt lt)⟩
      · cases res2 with
        | error x => exact done
        | ok flow2 =>
          cases flow2 with
          | ret r =>
            obtain ⟨rfl, h', tk, c, rfl, R3, le3, keep⟩ := done
            repeat (any_goals (first | assumption | wp_step | fail))
            exact go _ _ _ R3 le3 keep
          | _ => exact done.elim
    | _ => exact made.elim
end
/-- set(xs), a list or a tuple of ints -/
def rSetOf (K : PySem.W.Frag) (w : World) : List V → Hp → VK → Prop := fun vs H Q => ∃ (a : Addr) (ns : List Int), vs = [.ref a] ∧ (SqL K H a (ns.map V.int) ∨ SqT K H a (ns.map V.int)) ∧ ns.length < 4095 ∧ ∀ D n, H D = none → Q (.ref D) (upd H D (SetO w D (inS ns) n))
theorem cr_setOf {X : Cx} (calm : X.calm = true) : CallR X (.type "set") (rSetOf X.K X.w) := by
  intro pins s σ H vs us Q I r ⟨a, ns, ev, at_, few, q⟩
  subst ev
  rw [Vals.ref1 r]
  have fin : ∀ (h' : Heap) (tk c : Nat), SetR X.w h' s.heap.objs.size (fun j => decide (j ∈ ns)) c → c ≤ ns.length → (∀ b o, s.heap.get? b = some o → h'.get? b = some o) → EP X pins σ Q (.ref s.heap.objs.size) { s with heap := h', toks := tk } := fun h' tk c R _ keep => by
    have free : H s.heap.objs.size = none := I.hok.fresh (Nat.le_refl _)
    exact ⟨.ref s.heap.objs.size, _, I.laid (t' := tk) keep (Nat.le_refl _) (setO_new R), rfl, q _ c free⟩
  rcases at_ with h | h
  · obtain ⟨its, rv, p, hz⟩ := I.list h
    exact setOf_list ns (I.ok.hd calm) p.isList rv.ints (Nat.succ_lt_succ few) fin
  · obtain ⟨its, rv, p, hz⟩ := I.tuple h
    exact call_set_tupI ns (I.ok.hd calm) (show s.heap.IsTuple a its.toArray from p) (ints_of_vals rv) (Nat.succ_lt_succ few) fin
theorem rd_setOfL {K : PySem.W.Frag} {w : World} {a : Addr} {ns : List Int} {H : Hp} {Q : VK} (h : SqL K H a (ns.map V.int)) (few : ns.length < 4095) (q : ∀ D n, H D = none → Q (.ref D) (upd H D (SetO w D (inS ns) n))) : rSetOf K w [.ref a] H Q := ⟨a, ns, rfl, .inl h, few, q⟩
end L2
namespace PySem.W
open PySem PySem.Spec PySem.Calls PyProof.Rows Builtin
end PySem.W
namespace L2
open PySem PySem.Spec PyProof.Rows
end L2
namespace L2
open PySem PySem.Spec PyProof.Rows
/-! ### a view of the heap: what is kept of an earlier one, what is ours to change, what stands besides, what no list decides -/
def rigid : HO → Bool
  | .ins _ _ _ => true
  | .tup _ => true
  | _ => false
/-- all that is no list, dict or the like still stands -/
def Keeps (G G' : Hp) : Prop := ∀ b o, rigid o = true → G b = some o → G' b = some o
theorem Keeps.refl (G : Hp) : Keeps G G := fun _ _ _ h => h
theorem Keeps.trans {G G' G'' : Hp} (a : Keeps G G') (b : Keeps G' G'') : Keeps G G'' := fun c o r h => b c o r (a c o r h)
theorem Keeps.of {G G' : Hp} (s : Same G G') : Keeps G G' := fun b o _ h => s b o h
theorem Keeps.put {G : Hp} {x : Addr} {o u : HO} (h : G x = some o) (r : rigid o = false) : Keeps G (upd G x u) := fun b v rv hb => by
  by_cases e : b = x
  · subst e
    rw [h] at hb
    cases hb
    rw [r] at rv
    cases rv
  · rw [upd_ne e]
    exact hb
def Rig (P : Hp → Prop) (G : Hp) : Prop := ∀ G', Keeps G G' → P G'
structure Hv (X : Addr → Prop) (H : Hp) (M L : List (Addr × HO)) (Z : List (Hp → Prop)) (G : Hp) : Prop where
  old : ∀ b o, ¬ X b → H b = some o → G b = some o
  nt : NoT G
  m : ∀ q ∈ M, G q.1 = some q.2 ∧ (X q.1 ∨ H q.1 = none) ∧ rigid q.2 = false
  l : ∀ q ∈ L, G q.1 = some q.2
  nd : M.Pairwise fun q r => q.1 ≠ r.1
  ml : ∀ q ∈ M, ∀ r ∈ L, q.1 ≠ r.1
  z : ∀ P ∈ Z, Rig P G
def noX : Addr → Prop := fun _ => False
/-- nothing but x has changed -/
def But (x : Addr) (H H' : Hp) : Prop := ∀ b o, b ≠ x → H b = some o → H' b = some o
theorem But.of {x : Addr} {H H' : Hp} (h : Same H H') : But x H H' := fun b o _ e => h b o e
theorem But.new {x p : Addr} {H G : Hp} {o : HO} (h : But x H G) (hp : G p = none) : But x H (upd G p o) := fun b o1 n e => upd_keep (h b o1 n e) hp
theorem But.put {x : Addr} {H G : Hp} {o : HO} (h : But x H G) : But x H (upd G x o) := fun b o1 n e => by
  rw [upd_ne n]
  exact h b o1 n e
theorem But.refl {x : Addr} {H : Hp} : But x H H := fun _ _ _ e => e
theorem But.trans {x : Addr} {H G L : Hp} (a : But x H G) (b : But x G L) : But x H L := fun c o n e => b c o n (a c o n e)
theorem But.same {x : Addr} {H G L : Hp} (a : But x H G) (b : Same G L) : But x H L := fun c o n e => b c o (a c o n e)
/-- what stood ahead of x still stands -/
theorem But.old {x : Addr} {H0 H G : Hp} (a : But x H G) (s : Same H0 H) (f : H0 x = none) : Same H0 G := fun c o e => a c o (fun z => by
  rw [z, f] at e
  cases e) (s c o e)
theorem But.fresh {x D : Addr} {H G : Hp} {o : HO} (h : But x H G) (f : H D = none) : But x H (upd G D o) := fun b o1 n e => by
  rw [upd_ne (ne_of_none e f)]
  exact h b o1 n e
section
variable {X : Addr → Prop} {H G G' : Hp} {M L : List (Addr × HO)} {Z : List (Hp → Prop)} {a b D p x y : Addr} {o u v : HO} {P : Hp → Prop} {xs : List V}
theorem Hv.start (nt : NoT H) : Hv noX H [] [] [] H := ⟨fun _ _ _ h => h, nt, fun _ h => absurd h List.not_mem_nil, fun _ h => absurd h List.not_mem_nil, List.Pairwise.nil, fun _ h => absurd h List.not_mem_nil, fun _ h => absurd h List.not_mem_nil⟩
theorem Hv.same (B : Hv noX H M L Z G) : Same H G := fun b o h => B.old b o id h
theorem Hv.mAt (B : Hv X H M L Z G) (h : (a, o) ∈ M) : G a = some o := (B.m _ h).1
theorem Hv.lAt (B : Hv X H M L Z G) (h : (a, o) ∈ L) : G a = some o := B.l _ h
theorem Hv.zAt (B : Hv X H M L Z G) (h : P ∈ Z) : P G := B.z P h G (Keeps.refl G)
theorem Hv.oAt (B : Hv noX H M L Z G) (h : H a = some o) : G a = some o := B.old a o id h
theorem Hv.oAtX (B : Hv (· = p) H M L Z G) (h : H a = some o) (n : a ≠ p) : G a = some o := B.old a o n h
theorem Hv.fr (B : Hv noX H M L Z G) (h : (a, o) ∈ M) : H a = none := (B.m _ h).2.1.elim False.elim id
theorem Hv.free (B : Hv noX H M L Z G) (h : G D = none) : H D = none := B.same.free h
theorem Hv.freeX (B : Hv (· = p) H ((p, o) :: M) L Z G) (h : G D = none) : H D = none := by
  have hp := (B.m _ List.mem_cons_self).1
  cases e : H D with
  | none => rfl
  | some u =>
    have n : D ≠ p := fun z => by
      subst z
      rw [h] at hp
      cases hp
    rw [B.old D u n e] at h
    cases h
theorem Hv.away (B : Hv X H M L Z G) (h : G D = none) : ∀ q ∈ M, q.1 ≠ D := fun q hq e => by
  have := (B.m q hq).1
  rw [e, h] at this
  cases this
theorem Hv.next (B : Hv X H M L Z G) (s : Same G G') (n : NoT G') : Hv X H M L Z G' := ⟨fun b o h e => s b o (B.old b o h e), n, fun q hq => ⟨s _ _ (B.m q hq).1, (B.m q hq).2⟩, fun q hq => s _ _ (B.l q hq), B.nd, B.ml, fun P hP G2 k => B.z P hP G2 ((Keeps.of s).trans k)⟩
theorem Hv.newG (B : Hv X H M L Z G) (h : G D = none) (f : X D ∨ H D = none) (r : rigid o = false) (hn : noT o = true) : Hv X H ((D, o) :: M) L Z (upd G D o) := by
  have C := B.next (same_new (o := o) h) (NoT.upd B.nt hn)
  refine ⟨C.old, C.nt, fun q hq => ?_, C.l, List.pairwise_cons.mpr ⟨fun q hq => (B.away h q hq).symm, C.nd⟩, fun q hq q2 h2 => ?_, C.z⟩
  · rcases List.mem_cons.mp hq with e | hq
    · subst e
      exact ⟨upd_same, f, r⟩
    · exact C.m q hq
  · rcases List.mem_cons.mp hq with e | hq
    · subst e
      exact fun e => by
        have := B.l q2 h2
        rw [← e, h] at this
        cases this
    · exact C.ml q hq q2 h2
/-- a new thing, ours -/
theorem Hv.new (B : Hv noX H M L Z G) (h : G D = none) (r : rigid o = false := by rfl) (hn : noT o = true := by rfl) : Hv noX H ((D, o) :: M) L Z (upd G D o) := B.newG h (.inr (B.free h)) r hn
theorem Hv.newX (B : Hv (· = p) H ((p, u) :: M) L Z G) (h : G D = none) (r : rigid o = false := by rfl) (hn : noT o = true := by rfl) : Hv (· = p) H ((p, u) :: (D, o) :: M) L Z (upd G D o) := by
  have C := B.newG (o := o) h (.inr (B.freeX h)) r hn
  refine ⟨C.old, C.nt, fun q hq => C.m q ?_, C.l, ?_, fun q hq => C.ml q ?_, C.z⟩
  · simp only [List.mem_cons] at hq ⊢
    exact hq.elim (fun e => .inr (.inl e)) fun e => e.elim .inl fun e => .inr (.inr e)
  · obtain ⟨h1, h2⟩ := List.pairwise_cons.mp C.nd
    obtain ⟨h3, h4⟩ := List.pairwise_cons.mp h2
    exact List.pairwise_cons.mpr ⟨fun q hq => (List.mem_cons.mp hq).elim (fun e => by rw [e]; exact (h1 _ List.mem_cons_self).symm) (h3 q), List.pairwise_cons.mpr ⟨fun q hq => h1 q (List.mem_cons_of_mem _ hq), h4⟩⟩
  · simp only [List.mem_cons] at hq ⊢
    exact hq.elim (fun e => .inr (.inl e)) fun e => e.elim .inl fun e => .inr (.inr e)
/-- a new thing that stays as it is -/
theorem Hv.newL (B : Hv X H M L Z G) (h : G D = none) (hn : noT o = true := by rfl) : Hv X H M ((D, o) :: L) Z (upd G D o) := by
  have C := B.next (same_new (o := o) h) (NoT.upd B.nt hn)
  refine ⟨C.old, C.nt, C.m, fun q hq => ?_, C.nd, fun q hq q2 h2 => ?_, C.z⟩
  · rcases List.mem_cons.mp hq with e | hq
    · subst e
      exact upd_same
    · exact C.l q hq
  · rcases List.mem_cons.mp h2 with e | h2
    · subst e
      exact B.away h q hq
    · exact C.ml q hq q2 h2
/-- what stands besides -/
theorem Hv.add (B : Hv X H M L Z G) (h : G a = some o) (n : ∀ q ∈ M, q.1 ≠ a) : Hv X H M ((a, o) :: L) Z G := ⟨B.old, B.nt, B.m, fun q hq => (List.mem_cons.mp hq).elim (fun e => by rw [e]; exact h) (B.l q), B.nd, fun q hq q2 h2 => (List.mem_cons.mp h2).elim (fun e => by rw [e]; exact n q hq) (B.ml q hq q2), B.z⟩
/-- what a call has made: at D, free ahead of it -/
theorem Hv.got (B : Hv X H M L Z G) (s : Same G G') (n : NoT G') (f : G D = none) (h : G' D = some o) : Hv X H M ((D, o) :: L) Z G' := (B.next s n).add h (B.away f)
theorem Hv.gotM (B : Hv noX H M L Z G) (s : Same G G') (n : NoT G') (f : G D = none) (h : G' D = some o) (r : rigid o = false := by rfl) : Hv noX H ((D, o) :: M) L Z G' := by
  have C := B.next s n
  refine ⟨C.old, C.nt, fun q hq => (List.mem_cons.mp hq).elim (fun e => by rw [e]; exact ⟨h, .inr (B.free f), r⟩) (C.m q), C.l, List.pairwise_cons.mpr ⟨fun q hq => (B.away f q hq).symm, C.nd⟩, fun q hq q2 h2 => (List.mem_cons.mp hq).elim (fun e => ?_) fun hq => C.ml q hq q2 h2, C.z⟩
  rw [e]
  exact fun z => by
    have := B.l q2 h2
    rw [← z, f] at this
    cases this
/-- rigid things -/
theorem Hv.rig (B : Hv X H M L Z G) (h : Rig P G) : Hv X H M L (P :: Z) G := ⟨B.old, B.nt, B.m, B.l, B.nd, B.ml, fun Q hQ => (List.mem_cons.mp hQ).elim (fun e => by rw [e]; exact h) (B.z Q)⟩
/-- ours has changed -/
theorem Hv.but (B : Hv X H ((p, o) :: M) L Z G) (b : But p G G') (n : NoT G') (h : G' p = some u) (r : rigid u = false := by rfl) : Hv X H ((p, u) :: M) L Z G' := by
  obtain ⟨h1, h2, h3⟩ := B.m _ List.mem_cons_self
  obtain ⟨n1, n2⟩ := List.pairwise_cons.mp B.nd
  refine ⟨fun c w hc e => ?_, n, fun q hq => ?_, fun q hq => b _ _ (fun e => B.ml _ List.mem_cons_self q hq e.symm) (B.l q hq), List.pairwise_cons.mpr ⟨fun q hq => n1 q hq, n2⟩, fun q hq q2 k2 => ?_, fun P hP G2 k => B.z P hP G2 (Keeps.trans (fun c w rw hc => ?_) k)⟩
  · by_cases e2 : c = p
    · subst e2
      exact (h2.elim hc fun z => by rw [z] at e; cases e).elim
    · exact b c w e2 (B.old c w hc e)
  · rcases List.mem_cons.mp hq with e | hq
    · subst e
      exact ⟨h, h2, r⟩
    · obtain ⟨k1, k2⟩ := B.m q (List.mem_cons_of_mem _ hq)
      exact ⟨b _ _ (fun e => n1 q hq e.symm) k1, k2⟩
  · rcases List.mem_cons.mp hq with e | hq
    · subst e
      exact B.ml _ List.mem_cons_self q2 k2
    · exact B.ml _ (List.mem_cons_of_mem _ hq) q2 k2
  · refine b c w (fun e => ?_) hc
    subst e
    have : some o = some w := h1.symm.trans hc
    cases this
    have h3' : rigid o = false := h3
    rw [h3'] at rw
    cases rw
theorem Hv.put (B : Hv X H ((x, o) :: M) L Z G) (r : rigid u = false := by rfl) (hn : noT u = true := by rfl) : Hv X H ((x, u) :: M) L Z (upd G x u) := B.but (fun b w n e => by rw [upd_ne n]; exact e) (NoT.upd B.nt hn) upd_same r
theorem Hv.perm {M' : List (Addr × HO)} (B : Hv X H M L Z G) (h : ∀ q ∈ M', q ∈ M) (n : M'.Pairwise fun q r => q.1 ≠ r.1) : Hv X H M' L Z G := ⟨B.old, B.nt, fun q hq => B.m q (h q hq), B.l, n, fun q hq => B.ml q (h q hq), B.z⟩
theorem Hv.swap {q r : Addr × HO} (B : Hv X H (q :: r :: M) L Z G) : Hv X H (r :: q :: M) L Z G := by
  obtain ⟨h1, h2⟩ := List.pairwise_cons.mp B.nd
  obtain ⟨h3, h4⟩ := List.pairwise_cons.mp h2
  refine B.perm (fun k hk => ?_) (List.pairwise_cons.mpr ⟨fun k hk => (List.mem_cons.mp hk).elim (fun e => by rw [e]; exact (h1 _ List.mem_cons_self).symm) (h3 k), List.pairwise_cons.mpr ⟨fun k hk => h1 k (List.mem_cons_of_mem _ hk), h4⟩⟩)
  simp only [List.mem_cons] at hk ⊢
  exact hk.elim (fun e => .inr (.inl e)) fun e => e.elim .inl fun e => .inr (.inr e)
theorem Hv.rot {q r t : Addr × HO} (B : Hv X H (q :: r :: t :: M) L Z G) : Hv X H (t :: q :: r :: M) L Z G := by
  obtain ⟨h1, h2⟩ := List.pairwise_cons.mp B.nd
  obtain ⟨h3, h4⟩ := List.pairwise_cons.mp h2
  obtain ⟨h5, h6⟩ := List.pairwise_cons.mp h4
  have e1 := h1 r List.mem_cons_self
  have e2 := h1 t (List.mem_cons_of_mem _ List.mem_cons_self)
  have e3 := h3 t List.mem_cons_self
  refine B.perm (fun k hk => ?_) (List.pairwise_cons.mpr ⟨fun k hk => ?_, List.pairwise_cons.mpr ⟨fun k hk => ?_, List.pairwise_cons.mpr ⟨fun k hk => h3 k (List.mem_cons_of_mem _ hk), h6⟩⟩⟩)
  · simp only [List.mem_cons] at hk ⊢
    rcases hk with e | e | e | e
    · exact .inr (.inr (.inl e))
    · exact .inl e
    · exact .inr (.inl e)
    · exact .inr (.inr (.inr e))
  · rcases List.mem_cons.mp hk with e | hk
    · rw [e]; exact e2.symm
    · rcases List.mem_cons.mp hk with e | hk
      · rw [e]; exact e3.symm
      · exact h5 k hk
  · rcases List.mem_cons.mp hk with e | hk
    · rw [e]; exact e1
    · exact h1 k (List.mem_cons_of_mem _ (List.mem_cons_of_mem _ hk))
theorem Hv.drop {q : Addr × HO} (B : Hv X H (q :: M) L Z G) : Hv X H M L Z G := B.perm (fun k hk => List.mem_cons_of_mem _ hk) (List.pairwise_cons.mp B.nd).2
/-- ours no more to change -/
theorem Hv.fix {q : Addr × HO} (B : Hv X H (q :: M) L Z G) : Hv X H M (q :: L) Z G := by
  obtain ⟨h1, h2⟩ := List.pairwise_cons.mp B.nd
  exact B.drop.add (B.m q List.mem_cons_self).1 fun k hk => (h1 k hk).symm
theorem sub_nil {α : Type _} {L : List α} : ∀ q ∈ ([] : List α), q ∈ L := fun _ h => absurd h List.not_mem_nil
theorem sub_cons {α : Type _} {a : α} {L L' : List α} (h : a ∈ L) (k : ∀ q ∈ L', q ∈ L) : ∀ q ∈ a :: L', q ∈ L := fun q hq => (List.mem_cons.mp hq).elim (fun e => by rw [e]; exact h) (k q)
theorem Hv.sub {L' : List (Addr × HO)} {Z' : List (Hp → Prop)} (B : Hv X H M L Z G) (h : ∀ q ∈ L', q ∈ L) (k : ∀ q ∈ Z', q ∈ Z) : Hv X H M L' Z' G := ⟨B.old, B.nt, B.m, fun q hq => B.l q (h q hq), B.nd, fun q hq r hr => B.ml q hq r (h r hr), fun P hP => B.z P (k P hP)⟩
/-- the heap by a letter -/
@[elab_as_elim] theorem Hv.gen {motive : Hp → Prop} (B : Hv X H M L Z G) (k : ∀ G', Hv X H M L Z G' → motive G') : motive G := k G B
end
/-- tuple(xs) -/
abbrev rTupOf (K : PySem.W.Frag) : List V → Hp → VK → Prop := fun xs H Q => ∃ p ys, xs = [.ref p] ∧ ((SqL K H p ys ∧ ∀ l, H l = none → Q (.ref l) (upd H l (.tup ys))) ∨ (SqT K H p ys ∧ Q (.ref p) H))
theorem call_tupN {X : Cx} : CallR X (.type "tuple") (rTupOf X.K) := call_tuple_of
section
variable {K : PySem.W.Frag} {H : Hp} {p : Addr} {ys : List V} {Q : VK}
theorem rd_tupL (h : SqL K H p ys) (q : ∀ l, H l = none → Q (.ref l) (upd H l (.tup ys))) : rTupOf K [.ref p] H Q := ⟨p, ys, rfl, .inl ⟨h, q⟩⟩
theorem rd_tupT (h : SqT K H p ys) (q : Q (.ref p) H) : rTupOf K [.ref p] H Q := ⟨p, ys, rfl, .inr ⟨h, q⟩⟩
end
end L2
namespace L2
open PySem PySem.Spec PyProof.Rows
/-! ### classmethods and own operators within a try -/
section
variable {X : Cx} {pins : List (Addr × Obj)} {σ : St} {H : Hp} {s : Shared} {k : Nat} {f C : Addr} {fd : FuncData} {ps : List PySem.Str} {sp : Sp} {x m : PySem.Str} {p pos apos : Pos} {e o : Expr} {es : List Expr} {ta tb : TE} {t : TA} {W : WX}
def tCMethT (C : Addr) (sp : Sp) (E : St → XK) (ta : TE) (t : TA) : TE := fun σ H Q => ta σ H fun x H1 => x = .ref C ∧ t σ H1 fun vs H2 => sp (.ref C :: vs) H2 Q (E σ)
instance st_cmT {σ : St} {H : Hp} {Q : VK} {E : St → XK} : Stp (tCMethT C sp E ta t σ H Q) (ta σ H fun x H1 => x = .ref C ∧ t σ H1 fun vs H2 => sp (.ref C :: vs) H2 Q (E σ)) := ⟨fun h => h⟩
/-- a op b, two own instances, within a try -/
def tOpT (C : Addr) (sp : Sp) (E : St → XK) (ta tb : TE) : TE := fun σ H Q => ta σ H fun x H1 => tb σ H1 fun y H2 => rBinO C sp (E σ) x y H2 Q
theorem pe_opS {op : Operator} {a b : Expr} (D : MDef X.prog X.w X.K X.mg X.base k C m ps sp) (hm : PySem.dunder op.info.2 = m) (first : PySem.W.selfFirst X.K C = true) (ty : ∀ (H : Hp) (a dx : Addr) (fs : List (PySem.Str × V)), H a = some (.ins C dx fs) → TyX X.K H (.ref a) (.ref C)) (hr : Room k X.A) (tk : Takes X W)
    (ea : PE X a ta) (eb : PE X b tb) : PE X (.BinOp a op b pos) (tOpT C sp (WE W) ta tb) := by
  refine ⟨fun pins s σ H Q I h => ?_⟩
  refine wpAny_BinOp (binT ea eb I h fun v u s x y H I rx ry q => ?_)
  obtain ⟨a, b, dx, fs, dy, gs, ex, ey, ha, hb, go⟩ := q
  subst ex ey hm
  cases (show v = Value.ref a from rx)
  cases (show u = Value.ref b from ry)
  obtain ⟨f, fd, F, g, bd⟩ := D.ex
  obtain ⟨ox, od, J⟩ := own_at I ha
  obtain ⟨m, hF⟩ := I.fr
  obtain ⟨P, Z, hp, _⟩ := kit_of I (show RelV (V.ref b) (Value.ref b) from rfl) (ty H b dy gs hb)
  refine PySem.W.binop_K hF I.ok.mod.kin J (Z.ty _ s.heap I.kIn hp) first g.at_ g.fn (wpAny_mono (run_fnS (E := WE W) (us := [.ref a, .ref b]) (vs := [.ref a, .ref b]) F hr bd (passAt tk σ) I (.cons rfl (.cons rfl .nil)) go) (fun r t done => ?_) fun _ _ z => z)
  obtain ⟨z, H', I', rz, rr, ez, q⟩ := done
  subst ez
  cases (show r = Value.ref rr from rz)
  exact ⟨.ref rr, H', I', rfl, q⟩
instance st_opT {σ : St} {H : Hp} {Q : VK} {E : St → XK} : Stp (tOpT C sp E ta tb σ H Q) (ta σ H fun x H1 => tb σ H1 fun y H2 => rBinO C sp (E σ) x y H2 Q) := ⟨fun h => h⟩
end
end L2
namespace L2
open PySem PySem.Spec PyProof.Rows
/-! ### comprehensions over a tuple of ints -/
section
variable {σ : St} {H : Hp} {Q : VK} {K : PySem.W.Frag} {te : TE} {tt : TT}
theorem rd_lcIT {a : Addr} {ns : List Int} {g : TG} {vs : List Nat} (p : Int → Bool) (f : Int → V) (hS : SqT K H a (ns.map V.int))
    (hs : ∀ D l x r, H D = none → ns = l ++ x :: r → g (.int x) (wipe σ vs) (upd H D (.lst (resI p f l))) fun σ2 H2 => wipe σ2 vs = wipe σ vs ∧ tt σ2 H2 fun b H3 => if b = true then te σ2 H3 (LcPut H D (resI p f l) (resI p f (l ++ [x]))) else LcSkip H D (resI p f (l ++ [x])) H3)
    (q : ∀ D, H D = none → Q (.ref D) (upd H D (.lst ((ns.filter p).map f)))) : lcB (Itt K a) g tt te vs σ Q H := by
  intro D hD
  refine ⟨fun i m H' => m = ns.length - i ∧ i ≤ ns.length ∧ H' = upd H D (.lst (resI p f (ns.take i))), ⟨ns.length, by simp, Nat.zero_le _, rfl⟩, ?_⟩
  rintro i m H' ⟨rfl, hi, rfl⟩
  have hS' : SqT K (upd H D (.lst (resI p f (ns.take i)))) a (ns.map V.int) := (same_new hD).seqT hS
  by_cases hlt : i < ns.length
  · have hx : (ns.map V.int)[i]? = some (.int ns[i]) := by simp [hlt]
    have er : ns.take (i + 1) = ns.take i ++ [ns[i]] := by rw [List.take_add_one, List.getElem?_eq_getElem hlt]; rfl
    refine .inr ⟨⟨_, _, hS', hx⟩, fun H' => H' = upd H D (.lst (resI p f (ns.take (i + 1)))), fun H' p' => ⟨ns.length - (i + 1), by omega, rfl, hlt, p'⟩, fun x H' y => ?_⟩
    obtain ⟨e, y⟩ := y
    subst e
    have ex : x = .int ns[i] := Option.some.inj ((y _ hS').symm.trans hx)
    subst ex
    have z := hs D (ns.take i) ns[i] (ns.drop (i + 1)) hD (by rw [List.getElem_cons_drop, List.take_append_drop])
    rw [← er] at z
    exact z
  · have e : i = ns.length := by omega
    subst e
    rw [List.take_length]
    exact .inl ⟨⟨_, (same_new hD).seqT hS, by rw [List.length_map]; exact Nat.le_refl _⟩, q D hD⟩
theorem rd_inTs {x : Int} {ns : List Int} {p : Addr} (h : SqT K H p (ns.map V.int)) (q : Q (.bl (decide (x ∈ ns))) H) : rIn K false (.int x) (.ref p) H Q :=
  rd_inT h rfl flat_ints (by rw [inV_ints]; exact q)
theorem rd_ninTs {x : Int} {ns : List Int} {p : Addr} (h : SqT K H p (ns.map V.int)) (q : Q (.bl (!decide (x ∈ ns))) H) : rIn K true (.int x) (.ref p) H Q :=
  rd_ninT h rfl flat_ints (by rw [inV_ints]; exact q)
theorem rd_extend {l b : Addr} {xs zs : List V} (h : H l = some (.lst xs)) (k : H b = some (.lst zs)) (z : xs.length + zs.length ≤ sizeLine) (q : Q .non (upd H l (.lst (xs ++ zs)))) : rExtend (.ref l) [.ref b] H Q := ⟨l, b, xs, zs, rfl, rfl, h, k, z, q⟩
instance st_m1 {r : V → List V → Hp → VK → Prop} {ta tb : TE} : Stp (tM1 r ta tb σ H Q) (ta σ H fun x H1 => (∃ a, x = .str a) ∧ tb σ H1 fun y H2 => r x [y] H2 Q) := ⟨fun h => h⟩
/-! ### ranges with a step -/
def rRng3 (S : It → Hp → Prop) : List V → Hp → Prop := fun vs H1 => ∃ (i j c : Int) (n : Nat), vs = [.int i, .int j, .int c] ∧ RgC i j c n ∧ S (Itc i c n) H1
instance st_iRng3 {ta : TA} {S : It → Hp → Prop} : Stp (iRng3 ta σ H S) (ta σ H (rRng3 S)) := ⟨fun h => h⟩
theorem rd_r3 {S : It → Hp → Prop} {i j c : Int} {n : Nat} (h : RgC i j c n) (q : S (Itc i c n) H) : rRng3 S [.int i, .int j, .int c] H := ⟨i, j, c, n, rfl, h, q⟩
theorem rd_lcC {lo c : Int} {n : Nat} {g : TG} {vs : List Nat} (p : Nat → Bool) (f : Nat → V)
    (hs : ∀ D i, H D = none → i < n → g (.int (lo + (i : Nat) * c)) (wipe σ vs) (upd H D (.lst (resR p f i))) fun σ2 H2 => wipe σ2 vs = wipe σ vs ∧ tt σ2 H2 fun b H3 => if b = true then te σ2 H3 (LcPut H D (resR p f i) (resR p f (i + 1))) else LcSkip H D (resR p f (i + 1)) H3)
    (q : ∀ D, H D = none → Q (.ref D) (upd H D (.lst (((List.range n).filter p).map f)))) : lcB (Itc lo c n) g tt te vs σ Q H := by
  intro D hD
  refine ⟨fun i m H' => m = n - i ∧ i ≤ n ∧ H' = upd H D (.lst (resR p f i)), ⟨n, by simp, Nat.zero_le _, rfl⟩, ?_⟩
  rintro i m H' ⟨rfl, hi, rfl⟩
  by_cases hlt : i < n
  · refine .inr ⟨hlt, fun H' => H' = upd H D (.lst (resR p f (i + 1))), fun H' p' => ⟨n - (i + 1), by omega, rfl, hlt, p'⟩, fun x H' y => ?_⟩
    obtain ⟨e, y⟩ := y
    subst e y
    exact hs D i hD hlt
  · have e : i = n := by omega
    subst e
    exact .inl ⟨Nat.le_refl _, q D hD⟩
end
end L2
namespace L2
open PySem PySem.Spec PyProof.Rows
/-! ### dicts from ints: what is computed for each of some keys -/
def dV (f : Int → V) (l : List Int) : List (Key × V) := l.map fun k => (.inl k, f k)
theorem dV_len {f : Int → V} {l : List Int} : (dV f l).length = l.length := List.length_map ..
theorem dV_val {f : Int → V} {i : Int} : ∀ {l : List Int}, valV (dV f l) (.inl i) = if i ∈ l then some (f i) else none
  | [] => by simp [dV, valV]
  | k :: l => by
    have ih := dV_val (f := f) (i := i) (l := l)
    by_cases e : k = i
    · subst e
      have : valV (dV f (k :: l)) (.inl k) = some (f k) := valV_pos (p := ((Sum.inl k : Key), f k)) (r := dV f l) (k := Sum.inl k) rfl
      rw [this, if_pos List.mem_cons_self]
    · have : valV (dV f (k :: l)) (.inl i) = valV (dV f l) (.inl i) := valV_neg (p := ((Sum.inl k : Key), f k)) (r := dV f l) (k := Sum.inl i) fun z => e (Sum.inl.inj z)
      rw [this, ih]
      by_cases h : i ∈ l
      · rw [if_pos h, if_pos (List.mem_cons_of_mem _ h)]
      · rw [if_neg h, if_neg fun z => (List.mem_cons.mp z).elim (fun z => e z.symm) h]
theorem dV_snoc {f : Int → V} {l : List Int} {i : Int} (h : i ∉ l) : putK (dV f l) (.inl i) (f i) = dV f (l ++ [i]) := by
  rw [putK_new _ (by rw [dV_val, if_neg h])]
  unfold dV
  rw [List.map_append]
  rfl
theorem dV_keys {f : Int → V} {l : List Int} : ((dV f l).map fun kv => kV kv.1) = l.map V.int := by
  unfold dV
  rw [List.map_map]
  rfl
/-! dicts from ints to things that were made -/
def lnK (es : List (Int × Addr)) : List (Key × V) := es.map fun e => (.inl e.1, .ref e.2)
theorem lnK_len {es : List (Int × Addr)} : (lnK es).length = es.length := List.length_map ..
theorem lnK_none {i : Int} : ∀ {es : List (Int × Addr)}, i ∉ es.map (·.1) → valV (lnK es) (.inl i) = none
  | [], _ => by simp [lnK, valV]
  | e :: es, h => by
    rw [List.map_cons, List.mem_cons, not_or] at h
    have : valV (lnK (e :: es)) (.inl i) = valV (lnK es) (.inl i) := valV_neg (p := ((Sum.inl e.1 : Key), V.ref e.2)) (r := lnK es) (k := Sum.inl i) fun z => h.1 (Sum.inl.inj z).symm
    rw [this, lnK_none h.2]
theorem lnK_some {i : Int} : ∀ {es : List (Int × Addr)}, i ∈ es.map (·.1) → ∃ t, (i, t) ∈ es ∧ valV (lnK es) (.inl i) = some (.ref t)
  | [], h => by cases h
  | e :: es, h => by
    by_cases z : e.1 = i
    · subst z
      exact ⟨e.2, List.mem_cons_self, valV_pos (p := ((Sum.inl e.1 : Key), V.ref e.2)) (r := lnK es) (k := Sum.inl e.1) rfl⟩
    · have hm : i ∈ es.map (·.1) := (List.mem_cons.mp h).resolve_left fun y => z y.symm
      obtain ⟨t, ht, hv⟩ := lnK_some hm
      refine ⟨t, List.mem_cons_of_mem _ ht, ?_⟩
      have : valV (lnK (e :: es)) (.inl i) = valV (lnK es) (.inl i) := valV_neg (p := ((Sum.inl e.1 : Key), V.ref e.2)) (r := lnK es) (k := Sum.inl i) fun y => z (Sum.inl.inj y)
      rw [this, hv]
theorem lnK_put {es : List (Int × Addr)} {i : Int} {t : Addr} (h : i ∉ es.map (·.1)) : putK (lnK es) (.inl i) (.ref t) = lnK (es ++ [(i, t)]) := by
  rw [putK_new _ (lnK_none h)]
  unfold lnK
  rw [List.map_append]
  rfl
theorem lnK_over {es : List (Int × Addr)} {i : Int} {t u : Addr} (h : i ∉ es.map (·.1)) : putK (lnK (es ++ [(i, t)])) (.inl i) (.ref u) = lnK (es ++ [(i, u)]) := by
  have hm : i ∈ (es ++ [(i, t)]).map (·.1) := by simp
  obtain ⟨_, _, hv⟩ := lnK_some hm
  unfold putK
  rw [if_pos (by rw [valV_any, hv]; rfl)]
  unfold lnK
  rw [List.map_append, List.map_append, List.map_append, List.map_map]
  have h1 : es.map (fun e => ((Sum.inl e.1 : Key), V.ref e.2)) = es.map ((fun kv : Key × V => if kv.1 = Sum.inl i then (kv.1, V.ref u) else kv) ∘ fun e => ((Sum.inl e.1 : Key), V.ref e.2)) := by
    refine List.map_congr_left fun e he => ?_
    have : e.1 ≠ i := fun z => h (List.mem_map.mpr ⟨e, he, z⟩)
    simp [this]
  rw [h1]
  simp
section
variable {σ : St} {H : Hp} {Q : VK} {K : PySem.W.Frag} {tk tv : TE} {a : Addr} {i : Int} {v : V}
def DcPutV (H : Hp) (D : Addr) (f : Int → V) (xs : List Int) (y z : V) (H5 : Hp) : Prop := ∃ kvs k, y = kV k ∧ H5 D = some (.dK kvs) ∧ kvs.length < sizeLine ∧ upd H5 D (.dK (putK kvs k z)) = upd H D (.dK (dV f xs))
theorem put_V {D : Addr} {f : Int → V} {xs : List Int} {c : Int} {z : V} (few : xs.length < 100000) (n : c ∉ xs) (e : z = f c) : DcPutV H D f (xs ++ [c]) (.int c) z (upd H D (.dK (dV f xs))) := by
  refine ⟨_, .inl c, rfl, upd_same, ?_, ?_⟩
  · rw [dV_len]
    exact Nat.lt_trans few (by decide)
  · rw [upd_upd, e, dV_snoc n]
/-- {x: f x for x in xs} -/
theorem rd_dcLV {ns : List Int} {g : TG} {vs : List Nat} (f : Int → V) (hS : SqL K H a (ns.map V.int))
    (hs : ∀ D l x r, H D = none → ns = l ++ x :: r → g (.int x) (wipe σ vs) (upd H D (.dK (dV f l))) fun σ2 H2 => wipe σ2 vs = wipe σ vs ∧ tk σ2 H2 fun y H4 => tv σ2 H4 fun z H5 => DcPutV H D f (l ++ [x]) y z H5)
    (q : ∀ D, H D = none → Q (.ref D) (upd H D (.dK (dV f ns)))) : dcB (Itl K a) g tYes tk tv vs σ Q H := by
  intro D hD
  refine ⟨fun i m G => m = ns.length - i ∧ i ≤ ns.length ∧ G = upd H D (.dK (dV f (ns.take i))), ⟨ns.length, by simp, Nat.zero_le _, rfl⟩, ?_⟩
  rintro i m G ⟨rfl, hi, rfl⟩
  have hS' : SqL K (upd H D (.dK (dV f (ns.take i)))) a (ns.map V.int) := (same_new hD).seq hS
  by_cases hlt : i < ns.length
  · have hx : (ns.map V.int)[i]? = some (.int ns[i]) := by simp [hlt]
    have er : ns.take (i + 1) = ns.take i ++ [ns[i]] := by rw [List.take_add_one, List.getElem?_eq_getElem hlt]; rfl
    refine .inr ⟨⟨_, _, hS', hx⟩, fun G' => G' = upd H D (.dK (dV f (ns.take (i + 1)))), fun G' e => ⟨ns.length - (i + 1), by omega, rfl, hlt, e⟩, fun x G' y => ?_⟩
    obtain ⟨e, y⟩ := y
    subst e
    have ex : x = .int ns[i] := Option.some.inj ((y _ hS').symm.trans hx)
    subst ex
    have z := hs D (ns.take i) ns[i] (ns.drop (i + 1)) hD (by rw [List.getElem_cons_drop, List.take_append_drop])
    rw [← er] at z
    exact z
  · have e : i = ns.length := by omega
    subst e
    rw [List.take_length]
    exact .inl ⟨⟨_, (same_new hD).seq hS, by rw [List.length_map]; exact Nat.le_refl _⟩, q D hD⟩
theorem rd_dinV {f : Int → V} {l : List Int} (h : H a = some (.dK (dV f l))) (q : Q (.bl (decide (i ∈ l))) H) : rDInV Q (.ref a) (.int i) H := rd_din1 h (by rw [dV_val]; by_cases e : i ∈ l <;> simp [e]) q
theorem rd_dgetV {f : Int → V} {l : List Int} (h : H a = some (.dK (dV f l))) (m : i ∈ l) (q : Q (f i) H) : rDGetV Q (.ref a) (.int i) H := rd_dget1 h (by rw [dV_val, if_pos m]) q
theorem rd_dgetN {es : List (Int × Addr)} {t : Addr} (h : H a = some (.dK (lnK es))) (hv : valV (lnK es) (.inl i) = some (.ref t)) (q : Q (.ref t) H) : rDGetV Q (.ref a) (.int i) H := rd_dget1 h hv q
theorem rd_dputN {S : Hp → Prop} {es : List (Int × Addr)} {t : Addr} (h : H a = some (.dK (lnK es))) (hl : es.length < 1000000) (n : i ∉ es.map (·.1)) (q : S (upd H a (.dK (lnK (es ++ [(i, t)]))))) : rDPutV S (.ref a) (.int i) (.ref t) H :=
  rd_dput1 h (by rw [lnK_len]; exact Nat.lt_trans hl (by decide)) (by rw [lnK_put n]; exact q)
theorem rd_dputO {S : Hp → Prop} {es : List (Int × Addr)} {t u : Addr} (h : H a = some (.dK (lnK (es ++ [(i, t)])))) (hl : es.length < 1000000) (n : i ∉ es.map (·.1)) (q : S (upd H a (.dK (lnK (es ++ [(i, u)]))))) : rDPutV S (.ref a) (.int i) (.ref u) H :=
  rd_dput1 h (by rw [lnK_len, List.length_append]; exact Nat.lt_of_le_of_lt (m := 1000001) (by simp; omega) (by decide)) (by rw [lnK_over n]; exact q)
theorem rd_listV {f : Int → V} {l : List Int} (h : H a = some (.dK (dV f l))) (q : ∀ p, H p = none → Q (.ref p) (upd H p (.lst (l.map V.int)))) : rListDo [.ref a] H Q := ⟨a, _, rfl, .inl h, by rw [dV_keys]; exact q⟩
end
end L2
namespace L2
open PySem PySem.Spec PyProof.Rows
/-! ### a call of an instance within a try -/
section
variable {X : Cx} {k : Nat} {C : Addr} {ps : List PySem.Str} {sp : Sp} {pos : Pos} {e : Expr} {es : List Expr} {t : TA} {W : WX}
def tCallCT (C : Addr) (sp : Sp) (E : St → XK) (tf : TE) (t : TA) : TE := fun σ H Q => tf σ H fun y H1 => ∃ a, y = V.ref a ∧ t σ H1 fun vs H2 => (∃ dx fs, H2 a = some (.ins C dx fs)) ∧ sp (V.ref a :: vs) H2 Q (E σ)
instance st_callCT {σ : St} {H : Hp} {Q : VK} {E : St → XK} {tf : TE} : Stp (tCallCT C sp E tf t σ H Q) (tf σ H fun y H1 => ∃ a, y = V.ref a ∧ t σ H1 fun vs H2 => (∃ dx fs, H2 a = some (.ins C dx fs)) ∧ sp (V.ref a :: vs) H2 Q (E σ)) := ⟨fun h => h⟩
end
end L2
namespace L2
open PySem PySem.Spec PyProof.Rows
section
variable {σ : St} {H : Hp} {Q : VK} {K : PySem.W.Frag} {tk tv : TE} {a : Addr}
def DcPutN (H : Hp) (D : Addr) (ns : List Int) (i : Nat) (P : List (Int × Addr) → Hp → Prop) (y z : V) (H5 : Hp) : Prop :=
  ∃ kvs k, y = kV k ∧ H5 D = some (.dK kvs) ∧ kvs.length < sizeLine ∧ ∃ es : List (Int × Addr), es.map (·.1) = ns.take (i + 1) ∧ upd H5 D (.dK (putK kvs k z)) D = some (.dK (lnK es)) ∧ Same H (upd H5 D (.dK (putK kvs k z))) ∧ NoT (upd H5 D (.dK (putK kvs k z))) ∧ P es (upd H5 D (.dK (putK kvs k z)))
theorem put_N {D t : Addr} {ns : List Int} {i : Nat} {x : Int} {es : List (Int × Addr)} {P : List (Int × Addr) → Hp → Prop} {H5 : Hp} (nd : ns.Nodup) (few : ns.length < 100000) (hx : ns[i]? = some x) (he : es.map (·.1) = ns.take i) (h1 : H5 D = some (.dK (lnK es))) (hD : H D = none) (h2 : Same H H5) (h3 : NoT H5) (h4 : P (es ++ [(x, t)]) (upd H5 D (.dK (lnK (es ++ [(x, t)]))))) : DcPutN H D ns i P (.int x) (.ref t) H5 := by
  have er : ns.take (i + 1) = ns.take i ++ [x] := by rw [List.take_add_one, hx]; rfl
  have xn : x ∉ es.map (·.1) := fun z => by
    rw [he] at z
    have g := nd
    rw [← List.take_append_drop (i + 1) ns, er, List.append_assoc] at g
    exact (List.nodup_append.mp g).2.2 _ z _ List.mem_cons_self rfl
  have les : es.length < 100000 := by
    have := congrArg List.length he
    rw [List.length_map, List.length_take] at this
    omega
  refine ⟨_, .inl x, rfl, h1, by rw [lnK_len]; exact Nat.lt_trans les (by decide), es ++ [(x, t)], by rw [List.map_append, he, er]; rfl, ?_, same_upd2 h2 hD, NoT.upd h3 rfl, ?_⟩
  · rw [upd_same, lnK_put xn]
  · rw [lnK_put xn]
    exact h4
/-- {x: something made for x in xs} -/
theorem rd_dcLN {ns : List Int} {g : TG} {vs : List Nat} (P : List (Int × Addr) → Hp → Prop) (hS : SqL K H a (ns.map V.int)) (nt : NoT H) (h0 : ∀ D, H D = none → P [] (upd H D (.dK [])))
    (hs : ∀ D i es x G, H D = none → ns[i]? = some x → es.map (·.1) = ns.take i → Same H G → NoT G → G D = some (.dK (lnK es)) → P es G → g (.int x) (wipe σ vs) G fun σ2 H2 => wipe σ2 vs = wipe σ vs ∧ tk σ2 H2 fun y H4 => tv σ2 H4 fun z H5 => DcPutN H D ns i P y z H5)
    (q : ∀ D es G, H D = none → es.map (·.1) = ns → G D = some (.dK (lnK es)) → Same H G → NoT G → P es G → Q (.ref D) G) : dcB (Itl K a) g tYes tk tv vs σ Q H := by
  intro D hD
  refine ⟨fun i m G => m = ns.length - i ∧ i ≤ ns.length ∧ ∃ es : List (Int × Addr), es.map (·.1) = ns.take i ∧ G D = some (.dK (lnK es)) ∧ Same H G ∧ NoT G ∧ P es G, ⟨ns.length, by simp, Nat.zero_le _, [], rfl, upd_same, same_new hD, NoT.upd nt rfl, h0 D hD⟩, ?_⟩
  rintro i m G ⟨rfl, hi, es, he, hG, sm, n, p⟩
  have hS' : SqL K G a (ns.map V.int) := sm.seq hS
  by_cases hlt : i < ns.length
  · have hx : (ns.map V.int)[i]? = some (.int ns[i]) := by simp [hlt]
    refine .inr ⟨⟨_, _, hS', hx⟩, fun G' => ∃ es : List (Int × Addr), es.map (·.1) = ns.take (i + 1) ∧ G' D = some (.dK (lnK es)) ∧ Same H G' ∧ NoT G' ∧ P es G', fun G' e => ⟨ns.length - (i + 1), by omega, rfl, hlt, e⟩, fun x G' y => ?_⟩
    obtain ⟨e, y⟩ := y
    have ex : x = .int ns[i] := Option.some.inj ((y _ hS').symm.trans hx)
    subst ex
    rw [e]
    exact hs D i es ns[i] G hD (by simp [hlt]) he sm n hG p
  · have e : i = ns.length := by omega
    subst e
    rw [List.take_length] at he
    exact .inl ⟨⟨_, hS', by rw [List.length_map]; exact Nat.le_refl _⟩, q D es G hD he hG sm n p⟩
end
end L2
namespace L2
open PySem PySem.Spec PyProof.Rows
section
variable {σ : St} {H : Hp} {Q : VK}
instance st_disp {trs : List (TE × TE)} : Stp (tDisp trs σ H Q) (∀ p, H p = none → tPairs trs σ (upd H p (.dK [])) fun ps H2 => H2 p = some (.dK []) ∧ ∃ kvs : List (Key × V), ps = kvs.map (fun kv => (kV kv.1, kv.2)) ∧ kvs.length ≤ 15 ∧ Q (.ref p) (upd H2 p (.dK (mergeK [] kvs)))) := ⟨fun h => h⟩
instance st_prn {R : List (V × V) → Hp → Prop} : Stp (tPairs [] σ H R) (R [] H) := ⟨fun h => h⟩
instance st_prc {tk tv : TE} {trs : List (TE × TE)} {R : List (V × V) → Hp → Prop} : Stp (tPairs ((tk, tv) :: trs) σ H R) (tk σ H fun k H1 => tv σ H1 fun v H2 => tPairs trs σ H2 fun ps H3 => R ((k, v) :: ps) H3) := ⟨fun h => h⟩
end
theorem merge1 {i : Int} {v : V} : mergeK [] [((Sum.inl i : Key), v)] = [((Sum.inl i : Key), v)] := rfl
end L2
/-! ### zip of two tuples -/
namespace L2
open PySem PySem.Spec PyProof.Rows
section
variable {K : PySem.W.Frag} {a b : Addr} {xs ys : List V}
theorem walk_zipT {n : Nat} (hn : n = min xs.length ys.length) : Walk (RZ.ItzT K a b) n (fun H => SqT K H a xs ∧ SqT K H b ys) (YPair (fun i => xs[i]?) (fun i => ys[i]?)) := by
  subst hn
  refine ⟨fun i _ hi q => ?_, fun _ q => ⟨xs, ys, q.1, q.2, by omega⟩, fun i H v H' _ q y => ?_⟩
  · have h1 : i < xs.length := by omega
    have h2 : i < ys.length := by omega
    exact ⟨xs, ys, xs[i], ys[i], q.1, q.2, by simp [h1], by simp [h2]⟩
  · obtain ⟨T, x, z, h1, h2, h3, h4, h5⟩ := y
    exact ⟨T, x, z, h1, h2, h3, h4 xs q.1, h5 ys q.2⟩
variable {σ : St} {H : Hp} {Q : VK} {tt : TT} {te : TE}
def rZipA (K : PySem.W.Frag) (S : It → Hp → Prop) : List V → Hp → Prop := fun vs H1 => ∃ a b xs ys, vs = [.ref a, .ref b] ∧ ((SqL K H1 a xs ∧ SqL K H1 b ys ∧ S (Itz K a b) H1) ∨ (SqT K H1 a xs ∧ SqT K H1 b ys ∧ S (RZ.ItzT K a b) H1))
instance st_iZipA {ta : TA} {S : It → Hp → Prop} : Stp (RZ.iZipA K ta σ H S) (ta σ H (rZipA K S)) := ⟨fun h => h⟩
theorem rd_zipT {S : It → Hp → Prop} (h1 : SqT K H a xs) (h2 : SqT K H b ys) (q : S (RZ.ItzT K a b) H) : rZipA K S [.ref a, .ref b] H := ⟨a, b, xs, ys, rfl, .inr ⟨h1, h2, q⟩⟩
theorem rd_lcZT {g : TG} {vs : List Nat} (P : Nat → List V → Prop) (hx : SqT K H a xs) (hy : SqT K H b ys) (hl : xs.length = ys.length) (nt : NoT H) (h0 : P 0 [])
    (hs : ∀ D i zs x y T H', xs[i]? = some x → ys[i]? = some y → Same H H' → NoT H' → H D = none → H' D = some (.lst zs) → H' T = some (.tup [x, y]) → P i zs → g (.ref T) (wipe σ vs) H' fun σ2 H2 => wipe σ2 vs = wipe σ vs ∧ tt σ2 H2 fun b H3 =>
      if b = true then te σ2 H3 (fun y H4 => ∃ acc, H4 D = some (.lst acc) ∧ acc.length < sizeLine ∧ ∃ ys, upd H4 D (.lst (acc ++ [y])) D = some (.lst ys) ∧ Same H (upd H4 D (.lst (acc ++ [y]))) ∧ NoT (upd H4 D (.lst (acc ++ [y]))) ∧ P (i + 1) ys)
      else ∃ ys, H3 D = some (.lst ys) ∧ Same H H3 ∧ NoT H3 ∧ P (i + 1) ys)
    (q : ∀ D zs H', H D = none → H' D = some (.lst zs) → Same H H' → NoT H' → P xs.length zs → Q (.ref D) H') : lcB (RZ.ItzT K a b) g tt te vs σ Q H := by
  intro D hD
  refine lc_it (walk_zipT (K := K) (a := a) (b := b) (xs := xs) (ys := ys) (n := xs.length) (by omega)) (fun i H' => ∃ zs, H' D = some (.lst zs) ∧ Same H H' ∧ NoT H' ∧ P i zs) ⟨[], upd_same, same_new hD, NoT.upd nt rfl, h0⟩ (fun i H' _ ⟨_, _, s, _⟩ => ⟨Same.seqT s hx, Same.seqT s hy⟩) ?_ (fun H' ⟨zs, h1, s, n, p⟩ => q D zs H' hD h1 s n p)
  rintro i v H' H'' hi ⟨zs, h1, s, n, p⟩ ⟨T, x, y, rfl, hT, rfl, hx1, hy1⟩
  have ne : D ≠ T := fun z => by
    rw [z, hT] at h1
    exact absurd h1 (by simp)
  exact hs D i zs x y T _ hx1 hy1 (s.trans (same_new hT)) (NoT.upd n rfl) hD (by rw [upd_ne ne]; exact h1) upd_same p
end
end L2
/-! ### a dict of values filled by a loop -/
namespace L2
open PySem PySem.Spec PyProof.Rows
def keyAdd (l : List Int) (i : Int) : List Int := if i ∈ l then l else l ++ [i]
theorem dV_put {f : Int → V} {l : List Int} {i : Int} : putK (dV f l) (.inl i) (f i) = dV f (keyAdd l i) := by
  unfold keyAdd
  by_cases h : i ∈ l
  · rw [if_pos h]
    unfold putK
    rw [if_pos (by rw [valV_any, dV_val, if_pos h]; rfl)]
    unfold dV
    rw [List.map_map]
    refine List.map_congr_left fun e _ => ?_
    by_cases z : e = i <;> simp [z]
  · rw [if_neg h, putK_new _ (by rw [dV_val, if_neg h])]
    unfold dV
    rw [List.map_append]
    rfl
theorem rd_dputV {H : Hp} {a : Addr} {S : Hp → Prop} {f : Int → V} {l : List Int} {i : Int} {v : V} (h : H a = some (.dK (dV f l))) (hl : l.length < 1000000) (e : v = f i) (q : S (upd H a (.dK (dV f (keyAdd l i))))) : rDPutV S (.ref a) (.int i) v H := by
  subst e
  exact rd_dput1 h (by rw [dV_len]; exact Nat.lt_trans hl (by decide)) (by rw [dV_put]; exact q)
end L2
/-! ### a dict comprehension over the items of a locked dict -/
namespace L2
open PySem PySem.Spec PyProof.Rows
end L2
namespace L2
open PySem PySem.Spec PyProof.Rows
section
variable {σ : St} {H : Hp} {Q : VK}
def rItemsI (S : It → Hp → Prop) : V → Hp → Prop := fun x H1 => ∃ d o kvs, x = .ref d ∧ H1 d = some (.frz o (.dK kvs)) ∧ S (Iti d o kvs) H1
instance st_iItems {td : TE} {S : It → Hp → Prop} : Stp (iItems td σ H S) (td σ H (rItemsI S)) := ⟨fun h => h⟩
theorem rd_items {S : It → Hp → Prop} {d : Addr} {o : Obj} {kvs : List (Key × V)} (h : H d = some (.frz o (.dK kvs))) (q : S (Iti d o kvs) H) : rItemsI S (.ref d) H := ⟨d, o, kvs, rfl, h, q⟩
end
end L2
/-! ### an entry made anew in its place -/
namespace L2
open PySem PySem.Spec PyProof.Rows
def lnSet (es : List (Int × Addr)) (r : Int) (u : Addr) : List (Int × Addr) := es.map fun e => if e.1 = r then (e.1, u) else e
theorem lnSet_keys {es : List (Int × Addr)} {r : Int} {u : Addr} : (lnSet es r u).map (·.1) = es.map (·.1) := by
  unfold lnSet
  rw [List.map_map]
  refine List.map_congr_left fun e _ => ?_
  by_cases z : e.1 = r <;> simp [z]
theorem lnK_set {es : List (Int × Addr)} {r : Int} {u : Addr} (h : r ∈ es.map (·.1)) : putK (lnK es) (.inl r) (.ref u) = lnK (lnSet es r u) := by
  obtain ⟨_, _, hv⟩ := lnK_some h
  unfold putK
  rw [if_pos (by rw [valV_any, hv]; rfl)]
  unfold lnK lnSet
  rw [List.map_map, List.map_map]
  refine List.map_congr_left fun e _ => ?_
  by_cases z : e.1 = r <;> simp [z]
theorem rd_dputS {H : Hp} {a u : Addr} {S : Hp → Prop} {es : List (Int × Addr)} {r : Int} (h : H a = some (.dK (lnK es))) (hl : es.length < 1000000) (m : r ∈ es.map (·.1)) (q : S (upd H a (.dK (lnK (lnSet es r u))))) : rDPutV S (.ref a) (.int r) (.ref u) H :=
  rd_dput1 h (by rw [lnK_len]; exact Nat.lt_trans hl (by decide)) (by rw [lnK_set m]; exact q)
end L2
namespace My
open PySem PySem.Spec PyProof.Rows L2
/-! one step of a reading, by its head -/
local macro_rules | `(tactic| wtm_at "r") => `(tactic| first
  | (with_reducible refine rd_var rfl ?_)
  | (with_reducible refine Stp.mp ?_)
  | (with_reducible first
    | refine rd_I ?_ ?_
    | refine rd_augC rfl ?_
    | refine rd_augG rfl ?_
    | refine rd_r1 ?_ ?_ ?_
    | refine rd_r2 ?_ ?_
    | refine rd_pure ?_ ?_
    | refine rd_pureT ?_ ?_
    | refine rd_back (by assumption) ?_
    | fail)
  | fail)
/-! branch -/
local macro_rules | `(tactic| wtm_at "i") => `(tactic| (with_reducible first
  | refine rd_ite (fun _ => ?_) (fun _ => ?_)
  | refine rd_iteN (fun _ => ?_) (fun _ => ?_)
  | refine rd_iteb (fun _ => ?_) (fun _ => ?_)))
/-! the view of the heap (PreS): membership -/
local macro_rules | `(tactic| wtm_at "mem") => `(tactic| first
  | (with_reducible exact List.mem_cons_self)
  | ((with_reducible refine List.mem_cons_of_mem _ ?_); wtm_at "mem")
  | fail)
local macro_rules | `(tactic| wtm_at "vsub") => `(tactic| first
  | (with_reducible exact sub_nil)
  | ((with_reducible refine sub_cons ?h1 ?h2); (case h1 => wtm_at "mem"); (case h2 => wtm_at "vsub"))
  | fail)
/-! where something stands in the heap; two places differ -/
local macro_rules | `(tactic| wtm_at "ne") => `(tactic| with_reducible first
  | assumption
  | exact Ne.symm (by assumption)
  | exact ne_of_none (by assumption) (by assumption)
  | exact Ne.symm (ne_of_none (by assumption) (by assumption))
  | fail)
local macro_rules | `(tactic| wtm_at "h") => `(tactic| first
  | with_reducible assumption
  | with_reducible exact upd_same
  | ((with_reducible rw [upd_upd]); wtm_at "h")
  | ((with_reducible refine upd_at ?h1 ?h2); (case h1 => wtm_at "h"); (case h2 => intro hh; first | with_reducible exact ne_of_none hh (by assumption) | wtm_at "ne" | fail))
  | (with_reducible exact Hv.mAt (by assumption) (by wtm_at "mem"))
  | (with_reducible exact Hv.lAt (by assumption) (by wtm_at "mem"))
  | (with_reducible exact Hv.oAt (by assumption) (by assumption))
  | (with_reducible exact Hv.oAtX (by assumption) (by assumption) (by wtm_at "ne"))
  | fail)
/-! what was tracked stands -/
local macro_rules | `(tactic| wtm_at "sm") => `(tactic| first
  | with_reducible assumption
  | (with_reducible exact Same.refl _)
  | ((with_reducible refine same_upd3 ?_ (by with_reducible assumption)); wtm_at "sm")
  | ((with_reducible refine same_upd2 ?_ (by with_reducible assumption)); wtm_at "sm")
  | (refine same_upd2 ?_ (by first | with_reducible assumption | (refine Same.free ?_ (by with_reducible assumption); wtm_at "sm") | fail); wtm_at "sm")
  | (refine Same.trans ?_ (by with_reducible assumption); wtm_at "sm")
  | (refine Same.trans (by with_reducible assumption) ?_; wtm_at "sm")
  | (with_reducible exact Hv.same (by assumption))
  | fail)
local macro_rules | `(tactic| wtm_at "q") => `(tactic| first
  | with_reducible assumption
  | ((with_reducible refine SqL.of ?h1); (case h1 => wtm_at "h"))
  | ((with_reducible refine SqT.of ?h1); (case h1 => wtm_at "h"))
  | ((with_reducible refine Same.seq ?_ (by assumption)); wtm_at "sm")
  | ((with_reducible refine Same.seqT ?_ (by assumption)); wtm_at "sm")
  | ((with_reducible refine Same.lst ?_ (by assumption)); wtm_at "sm")
  | assumption
  | fail)
/-! data, read off the heap -/
local macro_rules | `(tactic| wtm_at "dp") => `(tactic| first
  | with_reducible assumption
  | exact Dp.int _
  | exact Dp.bl _
  | exact Dp.str _
  | exact Dp.non
  | exact DpAll.nil
  | (with_reducible exact dpAll_ints _)
  | (with_reducible exact dpAll_bls _)
  | ((with_reducible refine DpAll.cons (d := ?d) (ds := ?ds) ?h1 ?h2); (case h1 => wtm_at "dp"); (case h2 => wtm_at "dp"))
  | ((with_reducible refine Dp.lst (xs := ?xs) (ds := ?ds) ?h1 ?h2); (case h1 => wtm_at "q"); (case h2 => wtm_at "dp"))
  | ((with_reducible refine Dp.tup (xs := ?xs) (ds := ?ds) ?h1 ?h2); (case h1 => wtm_at "q"); (case h2 => wtm_at "dp"))
  | ((with_reducible refine Dp.same ?_ (by assumption)); wtm_at "sm")
  | fail)
/-! no dict with tuple keys -/
local macro_rules | `(tactic| wtm_at "nt") => `(tactic| first
  | with_reducible assumption
  | ((with_reducible refine NoT.upd ?_ rfl); wtm_at "nt")
  | (with_reducible exact Hv.nt (by assumption))
  | fail)
/-! what is asked on the side -/
local macro_rules | `(tactic| wtm_at "s") => `(tactic| first
  | ((with_reducible show NoT _); wtm_at "nt")
  | ((with_reducible show (_ : Int) < _); omega)
  | ((with_reducible show CMulB _ _); assumption)
  | ((with_reducible show CMulB _ _); exact Or.inl (Or.inl ⟨by omega, by omega⟩))
  | ((with_reducible show CMulB _ _); exact Or.inl (Or.inr ⟨by omega, by omega⟩))
  | ((with_reducible show CMulB _ _); exact CMulB.wide ⟨by omega, by omega⟩ ⟨by omega, by omega⟩)
  | ((with_reducible show CDivB _ _); first | exact .inl ⟨by omega, by omega⟩ | exact .inr ⟨by omega, (show Bd 9000 _ by wtm_at "bd").h⟩)
  | ((with_reducible refine rd_powN ?h1 ?h2 ?h3 ?_); (case h1 => rfl); (case h2 => decide); (case h3 => first | decide | omega))
  | ((with_reducible refine rd_setL (xs := ?xs) (j := ?j) ?h1 ?h2 ?_); (case h1 => wtm_at "h"); (case h2 => rfl))
  | ((with_reducible refine rd_ixL (xs := ?xs) (v := ?v) ?h1 ?h2 ?_); (case h1 => wtm_at "q"); (case h2 => rfl))
  | ((with_reducible refine rd_ixT (xs := ?xs) (v := ?v) ?h1 ?h2 ?_); (case h1 => wtm_at "q"); (case h2 => rfl))
  | ((with_reducible show -2 ^ 62 ≤ (_ : Int)); omega)
  | ((with_reducible show (_ : Int) ≤ _); omega)
  | ((with_reducible show (_ : Int) ≤ _ ∧ _); exact ⟨by omega, by omega, by omega, by omega⟩)
  | ((with_reducible refine rd_iL1 (xs := ?xs) ?h1 ?_); (case h1 => wtm_at "q"))
  | ((with_reducible refine rd_iT1 (xs := ?xs) ?h1 ?_); (case h1 => wtm_at "q"))
  | ((with_reducible refine rd_eqD (d := ?d) (e := ?e) ?h1 ?h2 ?h3 ?h4 ?_); (case h1 => wtm_at "dp"); (case h2 => wtm_at "dp"); (case h3 => rfl); (case h4 => rfl))
  | ((with_reducible refine rd_neD (d := ?d) (e := ?e) ?h1 ?h2 ?h3 ?h4 ?_); (case h1 => wtm_at "dp"); (case h2 => wtm_at "dp"); (case h3 => rfl); (case h4 => rfl))
  | ((with_reducible refine rd_xfb (fs := ?fs) (v := ?v) ?h1 ?h2 ?_); (case h1 => wtm_at "h"); (case h2 => rfl))
  | ((with_reducible refine rd_append (xs := ?xs) ?h1 ?h2 ?_); (case h1 => wtm_at "h"); (case h2 => first | assumption | exact Nat.le_of_ble_eq_true rfl | (refine Nat.lt_of_le_of_lt (m := 1000000) ?_ (by decide); omega)))
  | ((with_reducible refine rd_lenL (ys := ?ys) ?h1 ?_); (case h1 => wtm_at "q"))
  | ((with_reducible refine rd_lenT (ys := ?ys) ?h1 ?_); (case h1 => wtm_at "q"))
  | ((with_reducible refine rd_new ?h1 ?_); (case h1 => exact Nat.le_of_ble_eq_true rfl); intro p hp)
  | ((with_reducible refine rd_tyL (xs := ?xs) ?h1 ?_); (case h1 => wtm_at "h"))
  | ((with_reducible refine rd_gtup (xs := ?xs) ?h1 ?h2 ?_); (case h1 => wtm_at "q"); (case h2 => rfl))
  | ((with_reducible refine rd_unl (xs := ?xs) ?h1 ?h2 ?_); (case h1 => wtm_at "q"); (case h2 => rfl))
  | ((with_reducible refine rd_slL (xs := ?xs) ?h1 ?_); (case h1 => wtm_at "q"); intro p hp)
  | ((with_reducible refine rd_cat (xs := ?xs) (zs := ?zs) ?h1 ?h2 ?h3 ?_); (case h1 => wtm_at "h"); (case h2 => wtm_at "h"); (case h3 => first | assumption | exact Nat.le_of_ble_eq_true rfl); intro p hp)
  | ((with_reducible refine rd_isiL (xs := ?xs) ?h1 ?_); (case h1 => wtm_at "h"))
  | ((with_reducible refine rd_isiT (xs := ?xs) ?h1 ?_); (case h1 => wtm_at "h"))
  | ((with_reducible refine rd_mk1 ?h1 ?h2 ?_); (case h1 => rfl); (case h2 => decide)))
local macro_rules | `(tactic| wtm_at "s") => `(tactic| first
  | ((with_reducible refine rd_neF ?h1 ?_); (case h1 => first | with_reducible rfl | assumption | fail))
  | ((with_reducible refine rd_eqT ?h1 ?_); (case h1 => first | with_reducible rfl | assumption | fail))
  | ((with_reducible refine rd_neT ?h1 ?_); (case h1 => first | assumption | exact non_int | exact non_ref | exact Bool.false_ne_true | exact Bool.false_ne_true.symm | fail))
  | ((with_reducible refine rd_eqF ?h1 ?_); (case h1 => first | assumption | exact non_int | exact non_ref | exact Bool.false_ne_true | exact Bool.false_ne_true.symm | fail))
  | fail)
local macro_rules | `(tactic| wtm_at "bd") => `(tactic| first
  | with_reducible assumption
  | exact Bd.mono (by with_reducible assumption) (by decide)
  | exact Bd.lit (by decide) (by decide)
  | ((with_reducible refine Bd.mulN ?_ ?_) <;> wtm_at "bd")
  | ((with_reducible refine Bd.addN ?h1 ?h2 ?h3); (case h1 => wtm_at "bd"); (case h2 => wtm_at "bd"); (case h3 => decide))
  | ((with_reducible refine Bd.subN ?h1 ?h2 ?h3); (case h1 => wtm_at "bd"); (case h2 => wtm_at "bd"); (case h3 => decide))
  | ((with_reducible refine Bd.neg ?h1); (case h1 => wtm_at "bd"))
  | fail)
local macro_rules | `(tactic| wtm_at "s") => `(tactic| first
  | ((with_reducible refine rd_fld1 (dx := ?dx) (fs := ?fs) (v := ?v) ?h1 ?h2 ?_); (case h1 => wtm_at "h"); (case h2 => rfl))
  | ((with_reducible refine rd_meth1 (dx := ?dx) (fs := ?fs) ?h1 ?h2 ?_); (case h1 => wtm_at "h"); (case h2 => rfl))
  | ((with_reducible refine rd_sfld1 (dx := ?dx) (fs := ?fs) ?h1 ?h2 ?_); (case h1 => wtm_at "h"); (case h2 => exact Nat.le_of_ble_eq_true rfl))
  | ((with_reducible refine rd_fmtI ?h1 ?_); (case h1 => exact Nat.lt_trans (txI_len (n := 1000) (by wtm_at "bd") (Nat.le_refl _)).2 (by decide)))
  | ((with_reducible refine rd_strI ?h1 ?_); (case h1 => exact Nat.lt_trans (txI_len (n := 1000) (by wtm_at "bd") (Nat.le_refl _)).2 (by decide)))
  | ((with_reducible refine rd_eqInts (ns := ?ns) (ms := ?ms) ?h1 ?h2 ?_); (case h1 => wtm_at "q"); (case h2 => wtm_at "q"))
  | ((with_reducible refine rd_neInts (ns := ?ns) (ms := ?ms) ?h1 ?h2 ?_); (case h1 => wtm_at "q"); (case h2 => wtm_at "q"))
  | ((with_reducible refine rd_listOfL (ys := ?ys) ?h1 ?_); (case h1 => wtm_at "q"); intro l hl)
  | ((with_reducible refine rd_revV (xs := ?xs) ?h1 ?_); (case h1 => wtm_at "q"); intro p hp)
  | ((with_reducible refine rd_iRev1 (xs := ?xs) ?h1 ?_); (case h1 => wtm_at "q"))
  | ((with_reducible refine rd_callO2 (dx := ?dx) (fs := ?fs) ?h1 ?_); (case h1 => wtm_at "h"))
  | ((with_reducible show CMulB _ _); refine CMulB.bd ?_ ?_ <;> wtm_at "bd")
  | fail)
local macro_rules | `(tactic| wtm_at "s") => `(tactic| first
  | ((with_reducible refine rd_dinF (ks := ?ks) ?h1 ?_); (case h1 => wtm_at "h"))
  | ((with_reducible refine rd_dnotinF (ks := ?ks) ?h1 ?_); (case h1 => wtm_at "h"))
  | ((with_reducible refine rd_listF (ks := ?ks) ?h1 ?_); (case h1 => wtm_at "h"); intro l hl)
  | ((with_reducible refine rd_sortedI (ns := ?ns) ?h1 ?_); (case h1 => wtm_at "q"))
  | fail)
local macro_rules | `(tactic| wtm_at "tp") => `(tactic| first
  | ((with_reducible refine rd_tupL (ys := ?ys) ?h1 ?_); (case h1 => wtm_at "q"); intro l hl)
  | ((with_reducible refine rd_tupT (ys := ?ys) ?h1 ?_); (case h1 => wtm_at "q"))
  | fail)
/-! a test that omega answers -/
local macro_rules | `(tactic| wtm_at "o") => `(tactic| first
  | ((with_reducible refine rd_neF ?h1 ?_); (case h1 => omega))
  | ((with_reducible refine rd_eqT ?h1 ?_); (case h1 => omega))
  | ((with_reducible refine rd_neT ?h1 ?_); (case h1 => omega))
  | ((with_reducible refine rd_eqF ?h1 ?_); (case h1 => omega))
  | fail)
/-! steps while there is one way -/
local macro_rules | `(tactic| wtm_at "rs") => `(tactic| repeat' (first | wtm_at "r" | wtm_at "s" | fail))
/-! all ways -/
local macro_rules | `(tactic| wtm_at "ra") => `(tactic| repeat' (first | wtm_at "r" | wtm_at "s" | wtm_at "i" | fail))
local macro_rules | `(tactic| wtm_at "ro") => `(tactic| repeat' (first | wtm_at "r" | wtm_at "s" | wtm_at "o" | fail))
local macro_rules | `(tactic| wtm_at "rao") => `(tactic| repeat' (first | wtm_at "r" | wtm_at "s" | wtm_at "o" | wtm_at "i" | fail))
/-! ## mathematics -/
/-! part m_rows -/
/-- the list that a list of tuples holds -/
def RowsAt (H : Hp) : List Addr → List (List V) → Prop
  | [], [] => True
  | t :: ts, l :: ls => H t = some (.tup l) ∧ RowsAt H ts ls
  | _, _ => False
theorem RowsAt.mono {H H' : Hp} (s : Same H H') : ∀ {ts : List Addr} {ls : List (List V)}, RowsAt H ts ls → RowsAt H' ts ls
  | [], [], _ => trivial
  | _ :: _, _ :: _, h => ⟨s _ _ h.1, RowsAt.mono s h.2⟩
  | [], _ :: _, h => h.elim
  | _ :: _, [], h => h.elim
theorem RowsAt.len {H : Hp} : ∀ {ts : List Addr} {ls : List (List V)}, RowsAt H ts ls → ts.length = ls.length
  | [], [], _ => rfl
  | _ :: _, _ :: _, h => by rw [List.length_cons, List.length_cons, RowsAt.len h.2]
  | [], _ :: _, h => h.elim
  | _ :: _, [], h => h.elim
theorem RowsAt.snoc {H : Hp} {t : Addr} {l : List V} (ht : H t = some (.tup l)) : ∀ {ts : List Addr} {ls : List (List V)}, RowsAt H ts ls → RowsAt H (ts ++ [t]) (ls ++ [l])
  | [], [], _ => ⟨ht, trivial⟩
  | _ :: _, _ :: _, h => ⟨h.1, RowsAt.snoc ht h.2⟩
  | [], _ :: _, h => h.elim
  | _ :: _, [], h => h.elim
theorem RowsAt.other {H : Hp} {p : Addr} {xs : List V} {o : HO} (hp : H p = some (.lst xs)) : ∀ {ts : List Addr} {ls : List (List V)}, RowsAt H ts ls → RowsAt (upd H p o) ts ls
  | [], [], _ => trivial
  | t :: _, _ :: _, h => ⟨by
      rw [upd_ne (ne_of h.1 hp (by intro z; cases z))]
      exact h.1, RowsAt.other hp h.2⟩
  | [], _ :: _, h => h.elim
  | _ :: _, [], h => h.elim
theorem RowsAt.at {H : Hp} : ∀ {ts : List Addr} {ls : List (List V)} {i : Nat} {v : V}, RowsAt H ts ls → (ts.map V.ref)[i]? = some v → ∃ (t : Addr) (l : List V), v = .ref t ∧ H t = some (.tup l) ∧ ls[i]? = some l
  | t :: ts, l :: ls, 0, v, h, e => ⟨t, l, (Option.some.inj e).symm, h.1, rfl⟩
  | t :: ts, l :: ls, i + 1, v, h, e => RowsAt.at h.2 (i := i) e
  | [], _, _, _, _, e => by cases e
  | _ :: _, [], _, _, h, _ => h.elim
theorem RowsAt.rig {H : Hp} {ts : List Addr} {ls : List (List V)} (h : RowsAt H ts ls) : Rig (fun G => RowsAt G ts ls) H := fun G k => by
  induction ts generalizing ls with
  | nil => cases ls with
    | nil => trivial
    | cons l ls => exact h.elim
  | cons t ts ih => cases ls with
    | nil => exact h.elim
    | cons l ls => exact ⟨k _ _ rfl h.1, ih h.2⟩
/-! part m_but -/
/-- a loop over a list or tuple that a name holds -/
theorem rd_forS {K : PySem.W.Frag} {σ : L2.St} {H : Hp} {i : Nat} {a : Addr} {xs : List V} {g : TG} {t : TS} {nx : L2.St → Hp → Prop} {rt : VK} (hv : σ[i]? = some (some (.ref a))) (hS : SqL K H a xs ∨ SqT K H a xs) (Pv : Nat → L2.St → Prop) (h0 : Pv 0 σ)
    (hs : ∀ i x σ, xs[i]? = some x → Pv i σ → g x σ H fun σ2 H2 => t ⟨fun σ' H' => H = H' ∧ Pv (i + 1) σ', rt, nx, fun σ' H' => H = H' ∧ Pv (i + 1) σ'⟩ σ2 H2) (hd : ∀ σ, Pv xs.length σ → nx σ H) :
    iAlt (iList K (tVar i)) (iTup K (tVar i)) σ H fun J H1 => fBody J g t nx rt σ H1 :=
  hS.elim (fun h => .inl (rd_var hv ⟨a, rfl, ⟨_, h⟩, rd_forLs Pv h h0 hs hd⟩)) fun h => .inr (rd_var hv ⟨a, rfl, ⟨_, h⟩, rd_forTs Pv h h0 hs hd⟩)
/-- {x: True for x in xs}, xs a list or tuple of ints that a name holds -/
theorem rd_dcS {K : PySem.W.Frag} {σ : L2.St} {H : Hp} {Q : VK} {tk tv : TE} {i : Nat} {a : Addr} {ns : List Int} {g : TG} {vs : List Nat} (hv : σ[i]? = some (some (.ref a))) (hS : SqL K H a (ns.map V.int) ∨ SqT K H a (ns.map V.int))
    (hs : ∀ D l x r, H D = none → ns = l ++ x :: r → g (.int x) (wipe σ vs) (upd H D (DFl (ofL l))) fun σ2 H2 => wipe σ2 vs = wipe σ vs ∧ tk σ2 H2 fun y H4 => tv σ2 H4 fun z H5 => DcPut H D (l ++ [x]) y z H5)
    (q : ∀ D, H D = none → Q (.ref D) (upd H D (DFl (ofL ns)))) : iAlt (iList K (tVar i)) (iTup K (tVar i)) σ H fun J H1 => dcB J g tYes tk tv vs σ Q H1 :=
  hS.elim (fun h => .inl (rd_var hv ⟨a, rfl, ⟨_, h⟩, rd_dcLF h hs q⟩)) fun h => .inr (rd_var hv ⟨a, rfl, ⟨_, h⟩, rd_dcTF h hs q⟩)
/-! part m_prime -/
namespace QR
def Pm (p : Int) : Prop := 2 ≤ p ∧ ∀ d : Int, 2 ≤ d → d < p → ¬ d ∣ p
theorem split_le {n d e : Int} (h2 : 2 ≤ d) (hdn : d < n) (he : n = d * e) : (d * d ≤ n ∨ e * e ≤ n) ∧ 2 ≤ e := by
  have e0 : 2 ≤ e := by
    rcases Int.lt_or_le e 2 with z | z
    · exfalso
      have : d * e ≤ d * 1 := Int.mul_le_mul_of_nonneg_left (by omega) (by omega)
      omega
    · exact z
  refine ⟨?_, e0⟩
  rcases Int.le_total d e with z | z
  · left
    have : d * d ≤ d * e := Int.mul_le_mul_of_nonneg_left z (by omega)
    omega
  · right
    have : e * e ≤ d * e := Int.mul_le_mul_of_nonneg_right z (by omega)
    omega
theorem pm_of_trial {n k : Int} (h2 : 2 ≤ n) (hk0 : 0 ≤ k) (hk : n < k * k) (h : ∀ d : Int, 2 ≤ d → d < k → ¬ d ∣ n) : Pm n := by
  refine ⟨h2, fun d hd hn hdv => ?_⟩
  obtain ⟨e, he⟩ := hdv
  have lt : ∀ x : Int, 0 ≤ x → x * x ≤ n → x < k := fun x hx hxx => by
    rcases Int.lt_or_le x k with z | z
    · exact z
    · exfalso
      have a : k * k ≤ x * k := Int.mul_le_mul_of_nonneg_right z hk0
      have b : x * k ≤ x * x := Int.mul_le_mul_of_nonneg_left z hx
      omega
  obtain ⟨a, b⟩ := split_le hd hn he
  rcases a with a | a
  · exact h d hd (lt d (by omega) a) ⟨e, he⟩
  · exact h e b (lt e (by omega) a) ⟨d, by rw [he, Int.mul_comm]⟩
theorem pm_of_odd_trial {n k : Int} (h3 : 3 ≤ n) (ho : n % 2 = 1) (hk0 : 0 ≤ k) (hk : n < k * k) (h : ∀ d : Int, 3 ≤ d → d % 2 = 1 → d < k → ¬ d ∣ n) : Pm n := by
  refine pm_of_trial (by omega) hk0 hk fun d hd hdk hdv => ?_
  have : d % 2 = 1 := by
    obtain ⟨e, he⟩ := hdv
    rcases Int.emod_two_eq d with z | z
    · exfalso
      rw [he, Int.mul_emod, z, Int.zero_mul] at ho
      simp at ho
    · exact z
  exact h d (by omega) this hdk hdv
theorem not_pm {n k : Int} (h2 : 2 ≤ k) (hk : k * k ≤ n) (hd : n % k = 0) : ¬ Pm n := fun hp => by
  have : k < k * k := by
    have : k * 2 ≤ k * k := Int.mul_le_mul_of_nonneg_left h2 (by omega)
    omega
  exact hp.2 k h2 (by omega) (Int.dvd_of_emod_eq_zero hd)
theorem no_dvd_step {n k : Int} (h : ∀ d : Int, 2 ≤ d → d < k → ¬ d ∣ n) (hd : n % k ≠ 0) : ∀ d : Int, 2 ≤ d → d < k + 1 → ¬ d ∣ n := fun d h2 hk z => by
  by_cases e : d = k
  · rw [e] at z
    exact hd (Int.emod_eq_zero_of_dvd z)
  · exact h d h2 (by omega) z
theorem no_dvd_step2 {n k : Int} (hk : k % 2 = 1) (h : ∀ d : Int, 3 ≤ d → d % 2 = 1 → d < k → ¬ d ∣ n) (hd : n % k ≠ 0) : ∀ d : Int, 3 ≤ d → d % 2 = 1 → d < k + 2 → ¬ d ∣ n := fun d h2 ho hk z => by
  by_cases e : d = k
  · rw [e] at z
    exact hd (Int.emod_eq_zero_of_dvd z)
  · exact h d h2 ho (by omega) z
theorem sq_bound {k n : Int} (h0 : 0 ≤ k) (hk : k * k ≤ n) (hn : n < 2 ^ 120) : k < 2 ^ 60 := by
  rcases Int.lt_or_le k (2 ^ 60) with z | z
  · exact z
  · exfalso
    have a : (2 : Int) ^ 60 * 2 ^ 60 ≤ k * 2 ^ 60 := Int.mul_le_mul_of_nonneg_right z (by decide)
    have b : k * 2 ^ 60 ≤ k * k := Int.mul_le_mul_of_nonneg_left z h0
    have c : (2 : Int) ^ 60 * 2 ^ 60 = 2 ^ 120 := by decide
    omega
theorem le_sq {k : Int} (h : 1 ≤ k) : k ≤ k * k := by
  have : k * 1 ≤ k * k := Int.mul_le_mul_of_nonneg_left h (by omega)
  omega
/-- an odd prime -/
def OP (n : Int) : Prop := Pm n ∧ n % 2 = 1
theorem OP.three {n : Int} (h : OP n) : 3 ≤ n := by
  have := h.1.1
  have := h.2
  omega
theorem pm_two : Pm 2 := ⟨by omega, fun d h1 h2 => by omega⟩
theorem pm_odd {n : Int} (h : Pm n) (h3 : 3 ≤ n) : n % 2 = 1 := by
  rcases Int.emod_two_eq n with z | z
  · exact absurd (Int.dvd_of_emod_eq_zero z) (h.2 2 (by omega) (by omega))
  · exact z
/-- a prime, by looking at all divisors up to a side -/
theorem op_by {n : Nat} (k : Nat) (h3 : 3 ≤ n) (ho : n % 2 = 1) (hk : n < k * k) (h : (List.range k).all (fun d => d < 2 || n % d != 0) = true) : OP n := by
  refine ⟨pm_of_trial (k := k) (by omega) (by omega) (by exact_mod_cast hk) fun d h2 hd hv => ?_, by omega⟩
  have := List.all_eq_true.mp h d.toNat (List.mem_range.mpr (by omega))
  have hz : n % d.toNat = 0 := by
    have e := Int.emod_eq_zero_of_dvd hv
    rw [show d = ((d.toNat : Nat) : Int) by omega, ← Int.natCast_emod] at e
    exact_mod_cast e
  have h2' : ¬ d.toNat < 2 := by omega
  simp [hz, h2'] at this
open Classical in
noncomputable instance decPm (n : Int) : Decidable (Pm n) := Classical.propDecidable _
noncomputable instance decOP (n : Int) : Decidable (OP n) := instDecidableAnd
end QR
/-! part m_signs -/
def factorOf (rule : Str) (n m : Int) : Int :=
  if rule = "two" ∧ (m % 8 = 3 ∨ m % 8 = 5) then -1
  else if rule = "minus" ∧ m % 4 = 3 then -1
  else if rule = "turn" ∧ n % 4 = 3 ∧ m % 4 = 3 then -1
  else 1
theorem factorOf_pm (rule : Str) (n m : Int) : factorOf rule n m = 1 ∨ factorOf rule n m = -1 := by
  unfold factorOf
  split
  · exact .inr rfl
  · split
    · exact .inr rfl
    · split
      · exact .inr rfl
      · exact .inl rfl
def facT (m : Nat) : Int := if m % 8 = 3 ∨ m % 8 = 5 then -1 else 1
def facR (n m : Nat) : Int := if n % 4 = 3 ∧ m % 4 = 3 then -1 else 1
theorem str_ne1 : ¬ (("turn" : Str) = "two") := by decide +kernel
theorem str_ne2 : ¬ (("turn" : Str) = "minus") := by decide +kernel
theorem str_ne3 : ¬ (("two" : Str) = "minus") := by decide +kernel
theorem str_ne4 : ¬ (("two" : Str) = "turn") := by decide +kernel
theorem factorOf_two (n m : Int) (hm : 0 < m) : factorOf "two" n m = facT m.toNat := by
  unfold factorOf facT
  have e : (m % 8 = 3 ∨ m % 8 = 5) ↔ (m.toNat % 8 = 3 ∨ m.toNat % 8 = 5) := by omega
  by_cases h : m % 8 = 3 ∨ m % 8 = 5
  · rw [if_pos ⟨rfl, h⟩, if_pos (e.mp h)]
  · rw [if_neg (fun z => h z.2), if_neg (fun z => str_ne3 z.1), if_neg (fun z => str_ne4 z.1), if_neg (fun z => h (e.mpr z))]
theorem factorOf_turn (n m : Int) (hn : 0 ≤ n) (hm : 0 < m) : factorOf "turn" n m = facR n.toNat m.toNat := by
  unfold factorOf facR
  have e : (n % 4 = 3 ∧ m % 4 = 3) ↔ (n.toNat % 4 = 3 ∧ m.toNat % 4 = 3) := by omega
  by_cases h : n % 4 = 3 ∧ m % 4 = 3
  · rw [if_neg (fun z => str_ne1 z.1), if_neg (fun z => str_ne2 z.1), if_pos ⟨rfl, h⟩, if_pos (e.mp h)]
  · rw [if_neg (fun z => str_ne1 z.1), if_neg (fun z => str_ne2 z.1), if_neg (fun z => h z.2), if_neg (fun z => h (e.mpr z))]
/-- the sign, by the program's own steps -/
def jac (n m : Nat) : Int :=
  if _h : n = 0 then (if m = 1 then 1 else 0)
  else if n % 2 = 0 then facT m * jac (n / 2) m
  else facR n m * jac (m % n) n
termination_by n
decreasing_by
  · omega
  · exact Nat.mod_lt _ (by omega)
theorem jac_zero (m : Nat) : jac 0 m = if m = 1 then 1 else 0 := by
  rw [jac]
  simp
theorem jac_two {n m : Nat} (h0 : n ≠ 0) (h : n % 2 = 0) : jac n m = facT m * jac (n / 2) m := by
  rw [jac, dif_neg h0, if_pos h]
theorem jac_turn {n m : Nat} (h : n % 2 = 1) : jac n m = facR n m * jac (m % n) n := by
  rw [jac, dif_neg (by omega), if_neg (by omega)]
def sgn (n m : Int) : Int := jac (n % m).toNat m.toNat
/-! part m_qr -/
namespace QR
def Pr : Nat → (Nat → Int) → Int
  | 0, _ => 1
  | n + 1, f => Pr n f * f n
theorem P_mul : ∀ (n : Nat) (f g : Nat → Int), Pr n (fun i => f i * g i) = Pr n f * Pr n g
  | 0, _, _ => rfl
  | n + 1, f, g => by
    simp only [Pr, P_mul n]
    grind
theorem P_congr : ∀ (n : Nat) {f g : Nat → Int}, (∀ i, i < n → f i = g i) → Pr n f = Pr n g
  | 0, _, _, _ => rfl
  | n + 1, f, g, h => by
    simp only [Pr]
    rw [P_congr n fun i hi => h i (by omega), h n (by omega)]
theorem P_one : ∀ n : Nat, Pr n (fun _ => 1) = 1
  | 0 => rfl
  | n + 1 => by
    simp only [Pr, P_one n]
    rfl
theorem P_neg : ∀ n : Nat, Pr n (fun _ => -1) = if n % 2 = 0 then 1 else -1
  | 0 => rfl
  | n + 1 => by
    simp only [Pr, P_neg n]
    split <;> split <;> omega
theorem P_swap (k : Nat) (f : Nat → Nat → Int) : ∀ h : Nat, Pr h (fun x => Pr k (fun y => f x y)) = Pr k (fun y => Pr h (fun x => f x y))
  | 0 => by simp only [Pr, P_one]
  | h + 1 => by
    simp only [Pr]
    rw [P_swap k f h, ← P_mul]
theorem P_zero : ∀ (n : Nat) (f : Nat → Int) (i : Nat), i < n → f i = 0 → Pr n f = 0
  | 0, _, _, h, _ => by omega
  | n + 1, f, i, h, e => by
    simp only [Pr]
    by_cases hi : i = n
    · rw [← hi, e, Int.mul_zero]
    · rw [P_zero n f i (by omega) e, Int.zero_mul]
theorem P_pm : ∀ (n : Nat) (f : Nat → Int), (∀ i, i < n → f i = 1 ∨ f i = -1) → Pr n f = 1 ∨ Pr n f = -1
  | 0, _, _ => .inl rfl
  | n + 1, f, h => by
    simp only [Pr]
    rcases P_pm n f (fun i hi => h i (by omega)) with a | a <;> rcases h n (by omega) with b | b <;> rw [a, b] <;> decide
def pl : List Int → Int
  | [] => 1
  | x :: l => x * pl l
theorem pl_append : ∀ l k : List Int, pl (l ++ k) = pl l * pl k
  | [], k => by simp [pl]
  | x :: l, k => by
    simp only [List.cons_append, pl, pl_append l k, Int.mul_assoc]
theorem pl_perm {l k : List Int} (h : l.Perm k) : pl l = pl k := by
  induction h with
  | nil => rfl
  | cons x _ ih => simp only [pl, ih]
  | swap x y l => simp only [pl]; grind
  | trans _ _ a b => exact a.trans b
theorem P_pl : ∀ (n : Nat) (f : Nat → Int), Pr n f = pl ((List.range n).map f)
  | 0, _ => rfl
  | n + 1, f => by
    rw [List.range_succ, List.map_append, pl_append, ← P_pl n f]
    simp [Pr, pl]
theorem perm_of : ∀ (l k : List Nat), l.Nodup → (∀ x, x ∈ l → x ∈ k) → k.length ≤ l.length → l.Perm k
  | [], k, _, _, h => by
    have : k = [] := List.eq_nil_of_length_eq_zero (by simpa using h)
    rw [this]
  | x :: l, k, hn, hs, hl => by
    have hx : x ∈ k := hs x (List.mem_cons_self ..)
    have hp := List.perm_cons_erase hx
    have hn' := List.nodup_cons.mp hn
    have hlen : (k.erase x).length + 1 = k.length := by
      rw [List.length_erase_of_mem hx]
      have := List.length_pos_of_mem hx
      omega
    refine List.Perm.trans (List.Perm.cons x (perm_of l (k.erase x) hn'.2 (fun y hy => ?_) ?_)) hp.symm
    · refine (List.mem_erase_of_ne ?_).mpr (hs y (List.mem_cons_of_mem _ hy))
      rintro rfl
      exact hn'.1 hy
    · simp only [List.length_cons] at hl
      omega
theorem nodup_map {f : Nat → Nat} : ∀ l : List Nat, l.Nodup → (∀ x, x ∈ l → ∀ y, y ∈ l → f x = f y → x = y) → (l.map f).Nodup
  | [], _, _ => List.nodup_nil
  | x :: l, hn, hi => by
    have hn' := List.nodup_cons.mp hn
    rw [List.map_cons, List.nodup_cons]
    refine ⟨fun hm => ?_, nodup_map l hn'.2 fun a ha b hb => hi a (List.mem_cons_of_mem _ ha) b (List.mem_cons_of_mem _ hb)⟩
    obtain ⟨y, hy, e⟩ := List.mem_map.mp hm
    have := hi y (List.mem_cons_of_mem _ hy) x (List.mem_cons_self ..) e
    rw [this] at hy
    exact hn'.1 hy
theorem perm_range {n : Nat} {π : Nat → Nat} (h1 : ∀ i, i < n → π i < n) (h2 : ∀ i, i < n → ∀ j, j < n → π i = π j → i = j) : ((List.range n).map π).Perm (List.range n) := by
  refine perm_of _ _ (nodup_map _ List.nodup_range fun x hx y hy => h2 x (List.mem_range.mp hx) y (List.mem_range.mp hy)) (fun x hx => ?_) (by simp)
  obtain ⟨i, hi, rfl⟩ := List.mem_map.mp hx
  exact List.mem_range.mpr (h1 i (List.mem_range.mp hi))
theorem P_perm {n : Nat} {π : Nat → Nat} (f : Nat → Int) (h1 : ∀ i, i < n → π i < n) (h2 : ∀ i, i < n → ∀ j, j < n → π i = π j → i = j) : Pr n (fun i => f (π i)) = Pr n f := by
  rw [P_pl, P_pl]
  have := pl_perm ((perm_range h1 h2).map f)
  rw [List.map_map] at this
  exact this
theorem P_flip (n : Nat) (f : Nat → Int) : Pr n (fun i => f (n - 1 - i)) = Pr n f :=
  P_perm (π := fun i => n - 1 - i) f (fun i hi => by show n - 1 - i < n; omega) (fun i hi j hj h => by
    have h : n - 1 - i = n - 1 - j := h
    omega)
/-- one mark in a row -/
theorem P_mark (c : Nat) (p : Prop) [Decidable p] : ∀ k : Nat, Pr k (fun y => if y = c ∧ p then -1 else 1) = if c < k ∧ p then -1 else 1
  | 0 => by simp [Pr]
  | k + 1 => by
    simp only [Pr]
    rw [P_mark c p k]
    by_cases hp : p
    · simp only [hp, and_true]
      by_cases h1 : c < k
      · rw [if_pos h1, if_neg (by omega), if_pos (by omega)]
        rfl
      · by_cases h2 : k = c
        · rw [if_neg h1, if_pos h2, if_pos (by omega)]
          rfl
        · rw [if_neg h1, if_neg h2, if_neg (by omega)]
          rfl
    · simp [hp]
/-- the sign of the absolutely least rest, to the modulus 2 h + 1 -/
def sg (h : Nat) (a : Int) : Int :=
  if a % (2 * h + 1) = 0 then 0 else if a % (2 * h + 1) ≤ h then 1 else -1
theorem rem_lo (h : Nat) (a : Int) : 0 ≤ a % (2 * h + 1) := Int.emod_nonneg a (by omega)
theorem rem_hi (h : Nat) (a : Int) : a % (2 * h + 1) ≤ 2 * h := by
  have := Int.emod_lt_of_pos a (show (0 : Int) < 2 * h + 1 by omega)
  omega
theorem dvd_rem (h : Nat) (a : Int) : (2 * (h : Int) + 1) ∣ a - a % (2 * h + 1) := ⟨a / (2 * h + 1), by
  have := Int.mul_ediv_add_emod a (2 * (h : Int) + 1)
  omega⟩
theorem sgv {h : Nat} {a r : Int} (hd : (2 * (h : Int) + 1) ∣ a - r) (h0 : 0 ≤ r) (h1 : r ≤ 2 * h) : sg h a = if r = 0 then 0 else if r ≤ h then 1 else -1 := by
  have e : a % (2 * h + 1) = r := by
    have := Int.emod_eq_emod_iff_emod_sub_eq_zero.mpr (Int.emod_eq_zero_of_dvd hd)
    rw [this, Int.emod_eq_of_lt h0 (by omega)]
  unfold sg
  rw [e]
theorem sg_congr {h : Nat} {a b : Int} (hd : (2 * (h : Int) + 1) ∣ a - b) : sg h a = sg h b := by
  unfold sg
  rw [Int.emod_eq_emod_iff_emod_sub_eq_zero.mpr (Int.emod_eq_zero_of_dvd hd)]
theorem sg_neg (h : Nat) (a : Int) : sg h (-a) = -sg h a := by
  have h0 := rem_lo h a
  have h1 := rem_hi h a
  obtain ⟨k, hk⟩ := dvd_rem h a
  rw [sgv (a := a) (dvd_rem h a) h0 h1]
  by_cases hz : a % (2 * h + 1) = 0
  · rw [sgv (r := 0) ⟨-k, by grind⟩ (by omega) (by omega), if_pos rfl, if_pos hz]
    rfl
  · rw [sgv (r := 2 * h + 1 - a % (2 * h + 1)) ⟨-k - 1, by grind⟩ (by omega) (by omega), if_neg (by omega), if_neg hz]
    split <;> split <;> omega
theorem sg_smul {h : Nat} {s : Int} (hs : s = 1 ∨ s = -1) (a : Int) : sg h (s * a) = s * sg h a := by
  rcases hs with rfl | rfl
  · rw [Int.one_mul, Int.one_mul]
  · rw [Int.neg_mul, Int.one_mul, sg_neg, Int.neg_mul, Int.one_mul]
theorem sg_pm {h : Nat} {a : Int} (ha : a % (2 * h + 1) ≠ 0) : sg h a = 1 ∨ sg h a = -1 := by
  unfold sg
  rw [if_neg ha]
  split
  · exact .inl rfl
  · exact .inr rfl
/-- the absolutely least rest, less one -/
def al (h : Nat) (a : Int) : Nat := if a % (2 * h + 1) ≤ h then (a % (2 * h + 1) - 1).toNat else (2 * h - a % (2 * h + 1)).toNat
theorem al_lt {h : Nat} {a : Int} (ha : a % (2 * h + 1) ≠ 0) : al h a < h := by
  have h0 := rem_lo h a
  have h1 := rem_hi h a
  unfold al
  split <;> omega
theorem al_dvd {h : Nat} {a : Int} (ha : a % (2 * h + 1) ≠ 0) : (2 * (h : Int) + 1) ∣ a - sg h a * (al h a + 1) := by
  have h0 := rem_lo h a
  have h1 := rem_hi h a
  obtain ⟨k, hk⟩ := dvd_rem h a
  unfold sg al
  rw [if_neg ha]
  by_cases hr : a % (2 * h + 1) ≤ h
  · rw [if_pos hr, if_pos hr, show (((a % (2 * h + 1) - 1).toNat : Int)) = a % (2 * h + 1) - 1 by omega]
    exact ⟨k, by omega⟩
  · rw [if_neg hr, if_neg hr, show (((2 * h - a % (2 * h + 1)).toNat : Int)) = 2 * h - a % (2 * h + 1) by omega]
    exact ⟨k + 1, by grind⟩
theorem small_dvd {m x : Int} (hd : m ∣ x) (h1 : -m < x) (h2 : x < m) : x = 0 := by
  rcases Int.lt_trichotomy x 0 with h | h | h
  · have := Int.le_of_dvd (show 0 < -x by omega) (Int.dvd_neg.mpr hd)
    omega
  · exact h
  · have := Int.le_of_dvd h hd
    omega
theorem cop_dvd {b m : Int} (hc : Int.gcd b m = 1) {x : Int} (hd : m ∣ b * x) : m ∣ x := by
  have h1 : m.natAbs ∣ b.natAbs * x.natAbs := by
    rw [← Int.natAbs_mul]
    exact Int.natAbs_dvd_natAbs.mpr hd
  have h2 : m.natAbs.Coprime b.natAbs := by
    unfold Nat.Coprime
    rw [Nat.gcd_comm]
    exact hc
  exact Int.natAbs_dvd_natAbs.mp (h2.dvd_of_dvd_mul_left h1)
def G (a : Int) (h : Nat) : Int := Pr h (fun i => sg h (a * ((i : Int) + 1)))
theorem cop_ne {b : Int} {h : Nat} (hc : Int.gcd b (2 * h + 1) = 1) {i : Nat} (hi : i < h) : (b * ((i : Int) + 1)) % (2 * h + 1) ≠ 0 := by
  intro z
  have := small_dvd (cop_dvd hc (Int.dvd_of_emod_eq_zero z)) (by omega) (by omega)
  omega
theorem G_congr {h : Nat} {a b : Int} (hd : (2 * (h : Int) + 1) ∣ a - b) : G a h = G b h := by
  refine P_congr h fun i hi => sg_congr ?_
  rw [← Int.sub_mul]
  exact Int.dvd_mul_of_dvd_left hd
theorem G_pm {h : Nat} {a : Int} (hc : Int.gcd a (2 * h + 1) = 1) : G a h = 1 ∨ G a h = -1 :=
  P_pm h _ fun i hi => sg_pm (cop_ne hc hi)
theorem G_zero {h : Nat} {a : Int} (hc : Int.gcd a (2 * h + 1) ≠ 1) : G a h = 0 := by
  obtain ⟨k, hk⟩ := Int.gcd_dvd_right a (2 * (h : Int) + 1)
  obtain ⟨l, hl⟩ := Int.gcd_dvd_left a (2 * (h : Int) + 1)
  generalize hg : Int.gcd a (2 * h + 1) = g at *
  have g0 : g ≠ 0 := by
    rintro rfl
    simp at hk
    omega
  have g2 : g ≠ 2 := by
    rintro rfl
    simp at hk
    omega
  have k0 : 0 < k := by
    rcases Int.lt_trichotomy k 0 with z | z | z
    · have := Int.mul_neg_of_pos_of_neg (show (0 : Int) < g by omega) z
      omega
    · rw [z] at hk
      omega
    · exact z
  have k1 : 3 * k ≤ g * k := Int.mul_le_mul_of_nonneg_right (by omega) (by omega)
  refine P_zero h _ (k - 1).toNat (by omega) ?_
  have e : (((k - 1).toNat : Int)) + 1 = k := by omega
  rw [e]
  unfold sg
  rw [if_pos]
  refine Int.emod_eq_zero_of_dvd ⟨l, ?_⟩
  rw [hk]
  conv => lhs; rw [hl]
  grind
theorem G_mul (a b : Int) (h : Nat) : G (a * b) h = G a h * G b h := by
  by_cases hc : Int.gcd b (2 * h + 1) = 1
  · have hp : Pr h (fun i => sg h (a * ((al h (b * ((i : Int) + 1)) : Int) + 1))) = Pr h (fun i => sg h (a * ((i : Int) + 1))) := by
      refine P_perm (π := fun i => al h (b * ((i : Int) + 1))) (fun i => sg h (a * ((i : Int) + 1))) (fun i hi => al_lt (cop_ne hc hi)) (fun i hi j hj e => ?_)
      have e : al h (b * ((i : Int) + 1)) = al h (b * ((j : Int) + 1)) := e
      obtain ⟨u, hu⟩ := al_dvd (cop_ne hc hi)
      obtain ⟨v, hv⟩ := al_dvd (cop_ne hc hj)
      rw [e] at hu
      rcases sg_pm (cop_ne hc hi) with s | s <;> rcases sg_pm (cop_ne hc hj) with t | t <;> rw [s] at hu <;> rw [t] at hv
      · have := small_dvd (cop_dvd (x := (i : Int) - j) hc ⟨u - v, by grind⟩) (by omega) (by omega)
        omega
      · have := small_dvd (cop_dvd (x := (i : Int) + j + 2) hc ⟨u + v, by grind⟩) (by omega) (by omega)
        omega
      · have := small_dvd (cop_dvd (x := (i : Int) + j + 2) hc ⟨u + v, by grind⟩) (by omega) (by omega)
        omega
      · have := small_dvd (cop_dvd (x := (i : Int) - j) hc ⟨u - v, by grind⟩) (by omega) (by omega)
        omega
    have e : G (a * b) h = Pr h (fun i => sg h (a * ((al h (b * ((i : Int) + 1)) : Int) + 1)) * sg h (b * ((i : Int) + 1))) := by
      refine P_congr h fun i hi => ?_
      rw [Int.mul_comm _ (sg h (b * ((i : Int) + 1))), ← sg_smul (sg_pm (cop_ne hc hi))]
      refine sg_congr ?_
      obtain ⟨u, hu⟩ := al_dvd (cop_ne hc hi)
      exact ⟨a * u, by grind⟩
    rw [e, P_mul, hp]
    rfl
  · rw [G_zero hc, Int.mul_zero, G_zero]
    intro z
    apply hc
    have h1 : Int.gcd b (2 * h + 1) ∣ Int.gcd (a * b) (2 * h + 1) := Int.dvd_gcd (Int.dvd_mul_of_dvd_right (Int.gcd_dvd_left ..)) (Int.gcd_dvd_right ..)
    rw [z] at h1
    exact Nat.dvd_one.mp h1
def tq (h k x y : Nat) : Int := (2 * k + 1) * ((x : Int) + 1) - (2 * h + 1) * ((y : Int) + 1)
def eqq (h k x y : Nat) : Int := if tq h k x y < 0 ∧ -(h : Int) ≤ tq h k x y then -1 else 1
theorem tq_comm (h k x y : Nat) : tq k h y x = -tq h k x y := by
  unfold tq
  omega
theorem q_in {h k x : Nat} (hx : x < h) (hr : (h : Int) < ((2 * k + 1) * ((x : Int) + 1)) % (2 * h + 1)) : ((2 * k + 1) * ((x : Int) + 1)) / (2 * h + 1) < k := by
  have e := Int.mul_ediv_add_emod ((2 * (k : Int) + 1) * ((x : Int) + 1)) (2 * (h : Int) + 1)
  generalize ((2 * (k : Int) + 1) * ((x : Int) + 1)) / (2 * (h : Int) + 1) = q at *
  have h1 : (2 * (k : Int) + 1) * ((x : Int) + 1) ≤ (2 * (k : Int) + 1) * h := Int.mul_le_mul_of_nonneg_left (by omega) (by omega)
  have h2 : (2 * (h : Int) + 1) * (q + 1) < (2 * (h : Int) + 1) * (k + 1) := by grind
  have := Int.lt_of_mul_lt_mul_left h2 (by omega)
  omega
theorem inner {h k x : Nat} (hc : Int.gcd (2 * k + 1) (2 * h + 1) = 1) (hx : x < h) : Pr k (fun y => eqq h k x y) = sg h ((2 * k + 1) * ((x : Int) + 1)) := by
  have hne := cop_ne hc hx
  have h0 := rem_lo h ((2 * k + 1) * ((x : Int) + 1))
  have h1 := rem_hi h ((2 * k + 1) * ((x : Int) + 1))
  have e := Int.mul_ediv_add_emod ((2 * (k : Int) + 1) * ((x : Int) + 1)) (2 * (h : Int) + 1)
  have q0 : 0 ≤ ((2 * (k : Int) + 1) * ((x : Int) + 1)) / (2 * (h : Int) + 1) := Int.ediv_nonneg (Int.mul_nonneg (by omega) (by omega)) (by omega)
  have qi := @q_in h k x hx
  unfold sg
  rw [if_neg hne]
  have hm : ∀ y, y < k → eqq h k x y = if y = (((2 * (k : Int) + 1) * ((x : Int) + 1)) / (2 * (h : Int) + 1)).toNat ∧ ¬ ((2 * (k : Int) + 1) * ((x : Int) + 1)) % (2 * h + 1) ≤ h then -1 else 1 := by
    intro y hy
    unfold eqq tq
    generalize ((2 * (k : Int) + 1) * ((x : Int) + 1)) / (2 * (h : Int) + 1) = q at *
    generalize ((2 * (k : Int) + 1) * ((x : Int) + 1)) % (2 * (h : Int) + 1) = r at *
    rw [← e]
    have hz : (2 * (h : Int) + 1) * q + r - (2 * (h : Int) + 1) * ((y : Int) + 1) = (2 * (h : Int) + 1) * (q - y - 1) + r := by grind
    rw [hz]
    congr 1
    refine propext ⟨fun ⟨a, b⟩ => ?_, fun ⟨a, b⟩ => ?_⟩
    · rcases Int.lt_trichotomy (q - y) 0 with z | z | z
      · have : (2 * (h : Int) + 1) * (q - y - 1) ≤ (2 * (h : Int) + 1) * (-2) := Int.mul_le_mul_of_nonneg_left (by omega) (by omega)
        omega
      · have z : q - y - 1 = -1 := by omega
        rw [z] at a b
        omega
      · have : 0 ≤ (2 * (h : Int) + 1) * (q - y - 1) := Int.mul_nonneg (by omega) (by omega)
        omega
    · have z : q - y - 1 = -1 := by omega
      rw [z]
      omega
  rw [P_congr k hm, P_mark]
  by_cases hr : ((2 * (k : Int) + 1) * ((x : Int) + 1)) % (2 * h + 1) ≤ h
  · rw [if_neg (fun z => z.2 hr), if_pos hr]
  · rw [if_pos ⟨by have := qi (by omega); omega, hr⟩, if_neg hr]
theorem tq_ne {h k x y : Nat} (hc : Int.gcd (2 * k + 1) (2 * h + 1) = 1) (hx : x < h) : tq h k x y ≠ 0 := by
  intro z
  apply cop_ne hc hx
  unfold tq at z
  exact Int.emod_eq_zero_of_dvd ⟨(y : Int) + 1, by omega⟩
theorem PP_pm (h k : Nat) (f : Nat → Nat → Int) (hf : ∀ x y, f x y = 1 ∨ f x y = -1) : Pr h (fun x => Pr k (fun y => f x y)) = 1 ∨ Pr h (fun x => Pr k (fun y => f x y)) = -1 :=
  P_pm h _ fun x _ => P_pm k _ fun y _ => hf x y
theorem PP_flip (h k : Nat) (f : Nat → Nat → Int) : Pr h (fun x => Pr k (fun y => f (h - 1 - x) (k - 1 - y))) = Pr h (fun x => Pr k (fun y => f x y)) := by
  rw [P_congr h fun x _ => P_flip k (fun y => f (h - 1 - x) y)]
  exact P_flip h (fun x => Pr k (fun y => f x y))
def bq (h k x y : Nat) : Int := if tq h k x y < -(h : Int) then -1 else 1
def cq (h k x y : Nat) : Int := if (k : Int) < tq h k x y then -1 else 1
theorem bc (h k : Nat) : Pr h (fun x => Pr k (fun y => bq h k x y)) = Pr h (fun x => Pr k (fun y => cq h k x y)) := by
  rw [← PP_flip h k (fun x y => cq h k x y)]
  refine P_congr h fun x hx => P_congr k fun y hy => ?_
  unfold bq cq
  have e : tq h k (h - 1 - x) (k - 1 - y) = k - h - tq h k x y := by
    unfold tq
    rw [show (((h - 1 - x : Nat) : Int)) = h - 1 - x by omega, show (((k - 1 - y : Nat) : Int)) = k - 1 - y by omega]
    grind
  rw [e]
  split <;> split <;> omega
theorem recip0 {h k : Nat} (hc : Int.gcd (2 * k + 1) (2 * h + 1) = 1) : G (2 * k + 1) h * G (2 * h + 1) k = if h % 2 = 1 ∧ k % 2 = 1 then -1 else 1 := by
  have e1 : G (2 * k + 1) h = Pr h (fun x => Pr k (fun y => eqq h k x y)) := P_congr h fun x hx => (inner hc hx).symm
  have e2 : G (2 * h + 1) k = Pr h (fun x => Pr k (fun y => eqq k h y x)) := by
    rw [P_swap]
    exact P_congr k fun y hy => (inner (by rw [Int.gcd_comm]; exact hc) hy).symm
  have e3 : Pr h (fun x => Pr k (fun y => eqq h k x y * eqq k h y x * (bq h k x y * cq h k x y))) = Pr h (fun _ => Pr k (fun _ => -1)) := by
    refine P_congr h fun x hx => P_congr k fun y hy => ?_
    have := tq_ne (y := y) hc hx
    unfold eqq bq cq
    rw [tq_comm h k x y]
    generalize tq h k x y = t at *
    split <;> split <;> split <;> split <;> omega
  have e4 : Pr h (fun x => Pr k (fun y => eqq h k x y * eqq k h y x * (bq h k x y * cq h k x y))) = Pr h (fun x => Pr k (fun y => eqq h k x y)) * Pr h (fun x => Pr k (fun y => eqq k h y x)) * (Pr h (fun x => Pr k (fun y => bq h k x y)) * Pr h (fun x => Pr k (fun y => cq h k x y))) := by
    simp only [P_mul]
  rw [bc, ← e1, ← e2, e3] at e4
  have hb : Pr h (fun x => Pr k (fun y => cq h k x y)) * Pr h (fun x => Pr k (fun y => cq h k x y)) = 1 := by
    rcases PP_pm h k (fun x y => cq h k x y) (fun x y => by unfold cq; split <;> omega) with z | z <;> rw [z] <;> rfl
  rw [hb, Int.mul_one] at e4
  rw [← e4]
  simp only [P_neg]
  split
  · rw [P_one, if_neg (by omega)]
  · rw [P_neg]
    split <;> split <;> omega
def RR (h k : Nat) : Int := if h % 2 = 1 ∧ k % 2 = 1 then -1 else 1
theorem recip (h k : Nat) : G (2 * k + 1) h = RR h k * G (2 * h + 1) k := by
  by_cases hc : Int.gcd (2 * k + 1) (2 * h + 1) = 1
  · have e := recip0 hc
    have h1 : Int.gcd (2 * h + 1) (2 * k + 1) = 1 := by rw [Int.gcd_comm]; exact hc
    unfold RR
    rw [← e, Int.mul_assoc]
    rcases G_pm h1 with z | z <;> rw [z] <;> simp
  · rw [G_zero hc, G_zero (a := 2 * h + 1) (h := k) (by rw [Int.gcd_comm]; exact hc), Int.mul_zero]
theorem P_cut (c : Nat) : ∀ n : Nat, Pr n (fun i => if i < c then 1 else -1) = if (n - c) % 2 = 0 then 1 else -1
  | 0 => by simp [Pr]
  | n + 1 => by
    simp only [Pr]
    rw [P_cut c n]
    split <;> split <;> split <;> omega
theorem G_neg1 (h : Nat) : G (-1) h = if h % 2 = 0 then 1 else -1 := by
  rw [← P_neg]
  refine P_congr h fun i hi => ?_
  rw [Int.neg_mul, Int.one_mul, sg_neg, sgv (r := (i : Int) + 1) ⟨0, by omega⟩ (by omega) (by omega), if_neg (by omega), if_pos (by omega)]
theorem G_two (h : Nat) : G 2 h = if (2 * h + 1) % 8 = 3 ∨ (2 * h + 1) % 8 = 5 then -1 else 1 := by
  have e : G 2 h = Pr h (fun i => if i < h / 2 then 1 else -1) := by
    refine P_congr h fun i hi => ?_
    rw [sgv (r := 2 * ((i : Int) + 1)) ⟨0, by omega⟩ (by omega) (by omega), if_neg (by omega)]
    split <;> split <;> omega
  rw [e, P_cut]
  split <;> split <;> omega
theorem G_at0 (h : Nat) : G 0 h = if h = 0 then 1 else 0 := by
  by_cases hh : h = 0
  · rw [if_pos hh, hh]
    rfl
  · rw [if_neg hh]
    refine P_zero h _ 0 (by omega) ?_
    rw [Int.zero_mul]
    rfl
theorem G_eq_zero {a : Int} {h : Nat} : G a h = 0 ↔ Int.gcd a (2 * h + 1) ≠ 1 := by
  constructor
  · intro z hc
    rcases G_pm hc with e | e <;> rw [e] at z <;> cases z
  · exact G_zero
end QR
section
open QR
theorem jac_G : ∀ (n h : Nat), jac n (2 * h + 1) = G n h := by
  intro n
  induction n using Nat.strongRecOn with
  | ind n ih =>
    intro h
    by_cases h0 : n = 0
    · subst h0
      rw [jac_zero, show ((0 : Nat) : Int) = 0 from rfl, G_at0]
      split <;> split <;> omega
    · by_cases h2 : n % 2 = 0
      · rw [jac_two h0 h2, ih (n / 2) (by omega) h, show (n : Int) = 2 * ((n / 2 : Nat) : Int) by omega, G_mul, G_two]
        rfl
      · obtain ⟨k, rfl⟩ : ∃ k, n = 2 * k + 1 := ⟨n / 2, by omega⟩
        rw [jac_turn (by omega), ih ((2 * h + 1) % (2 * k + 1)) (Nat.mod_lt _ (by omega)) k]
        have e : G (((2 * k + 1 : Nat) : Int)) h = RR h k * G (2 * h + 1) k := by
          rw [← recip]
          rfl
        rw [e]
        have e2 : G (((2 * h + 1) % (2 * k + 1) : Nat) : Int) k = G (2 * h + 1) k := by
          refine G_congr ⟨-((2 * (h : Int) + 1) / (2 * k + 1)), ?_⟩
          have := Int.mul_ediv_add_emod (2 * (h : Int) + 1) (2 * k + 1)
          rw [Int.natCast_emod, show ((2 * h + 1 : Nat) : Int) = 2 * (h : Int) + 1 by omega, show ((2 * k + 1 : Nat) : Int) = 2 * (k : Int) + 1 by omega, Int.mul_neg]
          omega
        rw [e2]
        congr 1
        unfold facR RR
        split <;> split <;> omega
theorem sgn_G (n : Int) (h : Nat) : sgn n (2 * h + 1) = G n h := by
  unfold sgn
  rw [show (2 * (h : Int) + 1).toNat = 2 * h + 1 by omega, jac_G]
  have h0 := rem_lo h n
  rw [Int.toNat_of_nonneg h0]
  obtain ⟨u, hu⟩ := dvd_rem h n
  exact G_congr ⟨-u, by rw [Int.mul_neg, ← hu]; omega⟩
theorem odd_half {m : Int} (h1 : 1 ≤ m) (h2 : m % 2 = 1) : ∃ h : Nat, m = 2 * h + 1 := ⟨(m / 2).toNat, by omega⟩
end
section
open QR
variable {m : Int} (h1 : 1 ≤ m) (h2 : m % 2 = 1)
include h1 h2
theorem sgn_mul (a b : Int) : sgn (a * b) m = sgn a m * sgn b m := by
  obtain ⟨h, rfl⟩ := odd_half h1 h2
  rw [sgn_G, sgn_G, sgn_G, G_mul]
theorem sgn_congr {a b : Int} (hd : m ∣ a - b) : sgn a m = sgn b m := by
  obtain ⟨h, rfl⟩ := odd_half h1 h2
  rw [sgn_G, sgn_G, G_congr hd]
theorem sgn_neg1 : sgn (-1) m = 2 - m % 4 := by
  obtain ⟨h, rfl⟩ := odd_half h1 h2
  rw [sgn_G, G_neg1]
  split <;> omega
theorem sgn_two : sgn 2 m = if m % 8 = 3 ∨ m % 8 = 5 then -1 else 1 := by
  obtain ⟨h, rfl⟩ := odd_half h1 h2
  rw [sgn_G, G_two]
  split <;> split <;> omega
theorem sgn_turn {t : Int} (h3 : 1 ≤ t) (h4 : t % 2 = 1) : sgn t m = (if m % 4 = 3 ∧ t % 4 = 3 then -1 else 1) * sgn m t := by
  obtain ⟨h, rfl⟩ := odd_half h1 h2
  obtain ⟨k, rfl⟩ := odd_half h3 h4
  rw [sgn_G, sgn_G, recip]
  congr 1
  unfold RR
  split <;> split <;> omega
theorem sgn_zero {a : Int} : sgn a m = 0 ↔ Int.gcd a m ≠ 1 := by
  obtain ⟨h, rfl⟩ := odd_half h1 h2
  rw [sgn_G, G_eq_zero]
theorem sgn_pm {a : Int} (hc : Int.gcd a m = 1) : sgn a m = 1 ∨ sgn a m = -1 := by
  obtain ⟨h, rfl⟩ := odd_half h1 h2
  rw [sgn_G]
  exact G_pm hc
theorem sgn_sq (a : Int) : sgn a m * sgn a m = if Int.gcd a m = 1 then 1 else 0 := by
  by_cases hc : Int.gcd a m = 1
  · rw [if_pos hc]
    rcases sgn_pm h1 h2 hc with e | e <;> rw [e] <;> rfl
  · rw [if_neg hc, (sgn_zero h1 h2).mpr hc]
    rfl
end
/-! part m_euler -/
namespace QR
theorem al_inj {b : Int} {h : Nat} (hc : Int.gcd b (2 * h + 1) = 1) : ∀ i, i < h → ∀ j, j < h → al h (b * ((i : Int) + 1)) = al h (b * ((j : Int) + 1)) → i = j := by
  intro i hi j hj e
  obtain ⟨u, hu⟩ := al_dvd (cop_ne hc hi)
  obtain ⟨v, hv⟩ := al_dvd (cop_ne hc hj)
  rw [e] at hu
  rcases sg_pm (cop_ne hc hi) with s | s <;> rcases sg_pm (cop_ne hc hj) with t | t <;> rw [s] at hu <;> rw [t] at hv
  · have := small_dvd (cop_dvd (x := (i : Int) - j) hc ⟨u - v, by grind⟩) (by omega) (by omega)
    omega
  · have := small_dvd (cop_dvd (x := (i : Int) + j + 2) hc ⟨u + v, by grind⟩) (by omega) (by omega)
    omega
  · have := small_dvd (cop_dvd (x := (i : Int) + j + 2) hc ⟨u + v, by grind⟩) (by omega) (by omega)
    omega
  · have := small_dvd (cop_dvd (x := (i : Int) - j) hc ⟨u - v, by grind⟩) (by omega) (by omega)
    omega
theorem Pm.cop {p : Int} (hp : Pm p) {x : Int} (hx : ¬ p ∣ x) : Int.gcd x p = 1 := by
  have hd := Int.gcd_dvd_right x p
  have hl := Int.gcd_dvd_left x p
  have h2 := hp.1
  have hle := Int.le_of_dvd (by omega) hd
  generalize hg : Int.gcd x p = g at *
  by_cases h1 : (g : Int) = p
  · rw [h1] at hl
    exact absurd hl hx
  · by_cases h0 : g = 0
    · rw [h0] at hd
      have := Int.zero_dvd.mp hd
      omega
    · have := hp.2 g
      by_cases hz : g = 1
      · exact hz
      · exact absurd hd (this (by omega) (by omega))
theorem Pm.dvd_mul {p : Int} (hp : Pm p) {x y : Int} (h : p ∣ x * y) : p ∣ x ∨ p ∣ y := by
  by_cases hx : p ∣ x
  · exact .inl hx
  · exact .inr (cop_dvd (hp.cop hx) h)
theorem Pr_dvd {m : Int} : ∀ (n : Nat) (f g : Nat → Int), (∀ i, i < n → m ∣ f i - g i) → m ∣ Pr n f - Pr n g
  | 0, _, _, _ => ⟨0, by simp [Pr]⟩
  | n + 1, f, g, h => by
    obtain ⟨u, hu⟩ := Pr_dvd n f g fun i hi => h i (by omega)
    obtain ⟨v, hv⟩ := h n (by omega)
    exact ⟨u * f n + Pr n g * v, by simp only [Pr]; grind⟩
theorem Pr_cancel {m : Int} : ∀ (n : Nat) (f : Nat → Int) (x : Int), (∀ i, i < n → Int.gcd (f i) m = 1) → m ∣ Pr n f * x → m ∣ x
  | 0, _, x, _, h => by simpa [Pr] using h
  | n + 1, f, x, hc, h => by
    simp only [Pr] at h
    rw [Int.mul_assoc] at h
    exact cop_dvd (hc n (by omega)) (Pr_cancel n f _ (fun i hi => hc i (by omega)) h)
theorem Pr_const (a : Int) (f : Nat → Int) : ∀ n : Nat, Pr n (fun i => a * f i) = a ^ n * Pr n f
  | 0 => by simp [Pr]
  | n + 1 => by
    simp only [Pr]
    rw [Pr_const a f n, Int.pow_succ]
    grind
theorem Pr_first (f : Nat → Int) : ∀ n : Nat, Pr (n + 1) f = f 0 * Pr n (fun i => f (i + 1))
  | 0 => by simp [Pr]
  | n + 1 => by
    have := Pr_first f n
    simp only [Pr] at *
    rw [this]
    grind
theorem gauss {h : Nat} (hp : Pm (2 * h + 1)) {a : Int} (ha : ¬ (2 * (h : Int) + 1) ∣ a) : (2 * (h : Int) + 1) ∣ a ^ h - G a h := by
  have hc := hp.cop ha
  have h1 : (2 * (h : Int) + 1) ∣ Pr h (fun i => a * ((i : Int) + 1)) - Pr h (fun i => sg h (a * ((i : Int) + 1)) * ((al h (a * ((i : Int) + 1)) : Int) + 1)) :=
    Pr_dvd h _ _ fun i hi => al_dvd (cop_ne hc hi)
  have h2 : Pr h (fun i => (al h (a * ((i : Int) + 1)) : Int) + 1) = Pr h (fun i => (i : Int) + 1) :=
    P_perm (π := fun i => al h (a * ((i : Int) + 1))) (fun i => (i : Int) + 1) (fun i hi => al_lt (cop_ne hc hi)) (al_inj hc)
  rw [Pr_const, P_mul, h2] at h1
  refine Pr_cancel h (fun i => (i : Int) + 1) _ (fun i hi => hp.cop fun z => ?_) ?_
  · have := Int.le_of_dvd (by omega) z
    omega
  · obtain ⟨u, hu⟩ := h1
    exact ⟨u, by unfold G; grind⟩
theorem solve {h : Nat} {x : Int} (hc : Int.gcd x (2 * h + 1) = 1) {a : Int} (ha : ¬ (2 * (h : Int) + 1) ∣ a) : ∃ j, j < 2 * h ∧ (2 * (h : Int) + 1) ∣ x * ((j : Int) + 1) - a := by
  have hne : ∀ j : Nat, j < 2 * h → (x * ((j : Int) + 1)) % (2 * h + 1) ≠ 0 := by
    intro j hj z
    have := Int.le_of_dvd (by omega) (cop_dvd hc (Int.dvd_of_emod_eq_zero z))
    omega
  have hp := perm_range (n := 2 * h) (π := fun j => ((x * ((j : Int) + 1)) % (2 * h + 1) - 1).toNat) (fun j hj => by
    have h0 := rem_lo h (x * ((j : Int) + 1))
    have h1 := rem_hi h (x * ((j : Int) + 1))
    have := hne j hj
    show ((x * ((j : Int) + 1)) % (2 * h + 1) - 1).toNat < 2 * h
    omega) (fun i hi j hj e => by
    have e : ((x * ((i : Int) + 1)) % (2 * h + 1) - 1).toNat = ((x * ((j : Int) + 1)) % (2 * h + 1) - 1).toNat := e
    have h0 := rem_lo h (x * ((j : Int) + 1))
    have h1 := rem_lo h (x * ((i : Int) + 1))
    have n0 := hne i hi
    have n1 := hne j hj
    obtain ⟨u, hu⟩ := dvd_rem h (x * ((i : Int) + 1))
    obtain ⟨v, hv⟩ := dvd_rem h (x * ((j : Int) + 1))
    have e2 : (x * ((i : Int) + 1)) % (2 * h + 1) = (x * ((j : Int) + 1)) % (2 * h + 1) := by omega
    have := small_dvd (cop_dvd (x := (i : Int) - j) hc ⟨u - v, by grind⟩) (by omega) (by omega)
    omega)
  have h0 := rem_lo h a
  have h1 := rem_hi h a
  have h2 : a % (2 * h + 1) ≠ 0 := fun z => ha (Int.dvd_of_emod_eq_zero z)
  have hm : (a % (2 * h + 1) - 1).toNat ∈ List.range (2 * h) := List.mem_range.mpr (by omega)
  obtain ⟨j, hj, e⟩ := List.mem_map.mp (hp.mem_iff.mpr hm)
  have hj := List.mem_range.mp hj
  have k0 := rem_lo h (x * ((j : Int) + 1))
  have k1 := hne j hj
  have e2 : (x * ((j : Int) + 1)) % (2 * h + 1) = a % (2 * h + 1) := by omega
  obtain ⟨u, hu⟩ := dvd_rem h (x * ((j : Int) + 1))
  obtain ⟨v, hv⟩ := dvd_rem h a
  exact ⟨j, hj, u - v, by grind⟩
theorem pairs {m a : Int} : ∀ (n : Nat) (L : List Int), L.length ≤ n → L.Nodup → (∀ x, x ∈ L → ∃ y, y ∈ L ∧ y ≠ x ∧ m ∣ x * y - a) → (∀ x, x ∈ L → ∀ y, y ∈ L → ∀ z, z ∈ L → m ∣ x * y - a → m ∣ x * z - a → y = z) → m ∣ pl L - a ^ (L.length / 2) := by
  intro n
  induction n with
  | zero =>
    intro L hl _ _ _
    have : L = [] := List.eq_nil_of_length_eq_zero (by omega)
    subst this
    exact ⟨0, by simp [pl]⟩
  | succ n ih =>
    intro L hl hn hx hu
    match L, hl, hn, hx, hu with
    | [], _, _, _, _ => exact ⟨0, by simp [pl]⟩
    | x :: T, hl, hn, hx, hu =>
      have hn' := List.nodup_cons.mp hn
      obtain ⟨y, hy, yx, hd⟩ := hx x (List.mem_cons_self ..)
      have hyT : y ∈ T := by
        rcases List.mem_cons.mp hy with z | z
        · exact absurd z yx
        · exact z
      have hp := List.perm_cons_erase hyT
      have hlen : (T.erase y).length + 1 = T.length := by
        rw [List.length_erase_of_mem hyT]
        have := List.length_pos_of_mem hyT
        omega
      have hnd : (y :: T.erase y).Nodup := hp.nodup hn'.2
      have hnd' := List.nodup_cons.mp hnd
      have sub : ∀ z, z ∈ T.erase y → z ∈ T := fun z hz => hp.mem_iff.mpr (List.mem_cons_of_mem _ hz)
      have hI := ih (T.erase y) (by simp only [List.length_cons] at hl; omega) hnd'.2 (fun z hz => by
        have hzT := sub z hz
        have hzL := List.mem_cons_of_mem x hzT
        obtain ⟨w, hw, wz, hd2⟩ := hx z hzL
        have wx : w ≠ x := by
          rintro rfl
          have : z = y := hu w (List.mem_cons_self ..) z hzL y hy (by rw [Int.mul_comm]; exact hd2) hd
          rw [this] at hz
          exact hnd'.1 hz
        have wy : w ≠ y := by
          rintro rfl
          have : z = x := hu w hy z hzL x (List.mem_cons_self ..) (by rw [Int.mul_comm]; exact hd2) (by rw [Int.mul_comm]; exact hd)
          rw [this] at hzT
          exact hn'.1 hzT
        refine ⟨w, ?_, wz, hd2⟩
        rcases List.mem_cons.mp hw with q | q
        · exact absurd q wx
        · rcases List.mem_cons.mp (hp.mem_iff.mp q) with q | q
          · exact absurd q wy
          · exact q) (fun z hz w hw v hv => hu z (List.mem_cons_of_mem _ (sub z hz)) w (List.mem_cons_of_mem _ (sub w hw)) v (List.mem_cons_of_mem _ (sub v hv)))
      obtain ⟨s, hs⟩ := hI
      obtain ⟨t, ht⟩ := hd
      have e : pl (x :: T) = x * (y * pl (T.erase y)) := by
        rw [pl, pl_perm hp]
        rfl
      have e2 : (x :: T).length / 2 = (T.erase y).length / 2 + 1 := by
        simp only [List.length_cons]
        omega
      rw [e, e2, Int.pow_succ]
      exact ⟨t * pl (T.erase y) + a * s, by grind⟩
theorem nodup_mapI {f : Nat → Int} : ∀ l : List Nat, l.Nodup → (∀ x y, f x = f y → x = y) → (l.map f).Nodup
  | [], _, _ => List.nodup_nil
  | x :: l, hn, hi => by
    have hn' := List.nodup_cons.mp hn
    rw [List.map_cons, List.nodup_cons]
    refine ⟨fun hm => ?_, nodup_mapI l hn'.2 hi⟩
    obtain ⟨y, hy, e⟩ := List.mem_map.mp hm
    rw [hi y x e] at hy
    exact hn'.1 hy
theorem mem_row {n : Nat} {c x : Int} : x ∈ (List.range n).map (fun i : Nat => (i : Int) + c) ↔ c ≤ x ∧ x < n + c := by
  constructor
  · intro hx
    obtain ⟨i, hi, rfl⟩ := List.mem_map.mp hx
    have := List.mem_range.mp hi
    omega
  · intro ⟨a, b⟩
    exact List.mem_map.mpr ⟨(x - c).toNat, List.mem_range.mpr (by omega), by omega⟩
section
variable {h : Nat} (hp : Pm (2 * h + 1))
include hp
theorem uniq {a x y z : Int} (hx : ¬ (2 * (h : Int) + 1) ∣ x) (h1 : (2 * (h : Int) + 1) ∣ x * y - a) (h2 : (2 * (h : Int) + 1) ∣ x * z - a) (hy : 0 < y ∧ y ≤ 2 * h) (hz : 0 < z ∧ z ≤ 2 * h) : y = z := by
  obtain ⟨u, hu⟩ := h1
  obtain ⟨v, hv⟩ := h2
  have := small_dvd (cop_dvd (x := y - z) (hp.cop hx) ⟨u - v, by grind⟩) (by omega) (by omega)
  omega
theorem not_dvd {x : Int} (h1 : 0 < x) (h2 : x ≤ 2 * h) : ¬ (2 * (h : Int) + 1) ∣ x := fun z => by
  have := Int.le_of_dvd h1 z
  omega
theorem all_prod {a : Int} (ha : ¬ (2 * (h : Int) + 1) ∣ a) (hn : ∀ x : Int, ¬ (2 * (h : Int) + 1) ∣ x * x - a) : (2 * (h : Int) + 1) ∣ Pr (2 * h) (fun i => (i : Int) + 1) - a ^ h := by
  have := pairs (m := 2 * h + 1) (a := a) _ ((List.range (2 * h)).map fun i : Nat => (i : Int) + 1) (Nat.le_refl _) (nodup_mapI _ List.nodup_range fun x y e => by omega) (fun x hx => by
    have hx := mem_row.mp hx
    have nx := not_dvd hp (x := x) (by omega) (by omega)
    obtain ⟨j, hj, hd⟩ := solve (hp.cop nx) ha
    refine ⟨(j : Int) + 1, mem_row.mpr (by omega), ?_, hd⟩
    intro e
    rw [e] at hd
    exact hn x hd) (fun x hx y hy z hz h1 h2 => by
    have hx := mem_row.mp hx
    have hy := mem_row.mp hy
    have hz := mem_row.mp hz
    exact uniq hp (not_dvd hp (by omega) (by omega)) h1 h2 (by omega) (by omega))
  rw [← P_pl] at this
  simpa using this
theorem wilson : (2 * (h : Int) + 1) ∣ Pr (2 * h) (fun i => (i : Int) + 1) + 1 := by
  have h3 := hp.1
  obtain ⟨g, rfl⟩ : ∃ g, h = g + 1 := ⟨h - 1, by omega⟩
  have n1 : ¬ (2 * ((g + 1 : Nat) : Int) + 1) ∣ 1 := not_dvd hp (by omega) (by omega)
  have := pairs (m := 2 * ((g + 1 : Nat) : Int) + 1) (a := 1) _ ((List.range (2 * g)).map fun i : Nat => (i : Int) + 2) (Nat.le_refl _) (nodup_mapI _ List.nodup_range fun x y e => by omega) (fun x hx => by
    have hx := mem_row.mp hx
    have nx := not_dvd hp (x := x) (by omega) (by omega)
    obtain ⟨j, hj, hd⟩ := solve (hp.cop nx) n1
    refine ⟨(j : Int) + 1, mem_row.mpr ?_, ?_, hd⟩
    · by_cases j0 : j = 0
      · subst j0
        have := small_dvd (x := x - 1) (by simpa using hd) (by omega) (by omega)
        omega
      · by_cases j1 : j = 2 * g + 1
        · subst j1
          obtain ⟨u, hu⟩ := hd
          have := small_dvd (m := 2 * ((g + 1 : Nat) : Int) + 1) (x := -x - 1 + (2 * ((g + 1 : Nat) : Int) + 1)) ⟨u - x + 1, by grind⟩ (by omega) (by omega)
          omega
        · omega
    · intro e
      rw [e] at hd
      have hd2 : (2 * ((g + 1 : Nat) : Int) + 1) ∣ (x - 1) * (x + 1) := by
        rw [show (x - 1) * (x + 1) = x * x - 1 by grind]
        exact hd
      rcases hp.dvd_mul hd2 with q | q
      · exact not_dvd hp (by omega) (by omega) q
      · exact not_dvd hp (by omega) (by omega) q) (fun x hx y hy z hz h1 h2 => by
    have hx := mem_row.mp hx
    have hy := mem_row.mp hy
    have hz := mem_row.mp hz
    exact uniq hp (not_dvd hp (by omega) (by omega)) h1 h2 (by omega) (by omega))
  rw [← P_pl, Int.one_pow] at this
  obtain ⟨u, hu⟩ := this
  rw [show 2 * (g + 1) = 2 * g + 1 + 1 by omega]
  have e : Pr (2 * g + 1 + 1) (fun i => (i : Int) + 1) = Pr (2 * g) (fun i => (i : Int) + 2) * (2 * g + 2) := by
    rw [Pr, Pr_first]
    have : Pr (2 * g) (fun i => ((i + 1 : Nat) : Int) + 1) = Pr (2 * g) (fun i => (i : Int) + 2) := P_congr _ fun i _ => by omega
    rw [this]
    simp
    grind
  rw [e]
  exact ⟨u * (2 * g + 2) + 1, by push_cast at *; grind⟩
/-- the sign to a prime modulus is by squares -/
theorem euler {a : Int} (ha : ¬ (2 * (h : Int) + 1) ∣ a) : G a h = 1 ↔ ∃ x : Int, (2 * (h : Int) + 1) ∣ x * x - a := by
  constructor
  · intro hg
    refine Classical.byContradiction fun hn => ?_
    obtain ⟨u, hu⟩ := all_prod hp ha fun x hx => hn ⟨x, hx⟩
    obtain ⟨v, hv⟩ := wilson hp
    obtain ⟨w, hw⟩ := gauss hp ha
    rw [hg] at hw
    have : (2 * (h : Int) + 1) ∣ 2 := ⟨v - u - w, by grind⟩
    have := Int.le_of_dvd (by omega) this
    have := hp.1
    omega
  · rintro ⟨x, hx⟩
    rw [← G_congr hx, G_mul]
    have hc : Int.gcd x (2 * h + 1) = 1 := hp.cop fun z => ha (by
      have := Int.dvd_sub (Int.dvd_mul_of_dvd_left z (c := x)) hx
      rw [show x * x - (x * x - a) = a by omega] at this
      exact this)
    rcases G_pm hc with e | e <;> rw [e] <;> rfl
end
end QR
/-! part m_cop -/
namespace QR
theorem exists_pm : ∀ (n : Nat), 2 ≤ n → ∃ p : Int, Pm p ∧ p ∣ (n : Int) := by
  intro n
  induction n using Nat.strongRecOn with
  | _ n ih =>
    intro h2
    by_cases hp : Pm (n : Int)
    · exact ⟨n, hp, Int.dvd_refl _⟩
    · have : ∃ d : Int, 2 ≤ d ∧ d < n ∧ d ∣ (n : Int) := Classical.byContradiction fun h => hp ⟨by omega, fun d a b c => h ⟨d, a, b, c⟩⟩
      obtain ⟨d, a, b, c⟩ := this
      obtain ⟨p, q1, q2⟩ := ih d.toNat (by omega) (by omega)
      rw [show ((d.toNat : Nat) : Int) = d by omega] at q2
      exact ⟨p, q1, Int.dvd_trans q2 c⟩
theorem dvd_gcd {d x m : Int} (h : d ∣ x) (k : d ∣ m) : d ∣ ((Int.gcd x m : Nat) : Int) := Int.dvd_coe_gcd h k
/-- coprime: no prime divides both -/
theorem cop_iff {x m : Int} : Int.gcd x m = 1 ↔ ∀ p : Int, Pm p → p ∣ x → ¬ p ∣ m := by
  constructor
  · intro h p hp a b
    have := dvd_gcd a b
    rw [h] at this
    have := Int.le_of_dvd (by decide) this
    have := hp.1
    omega
  · intro h
    rcases Nat.lt_or_ge (Int.gcd x m) 2 with z | z
    · rcases Nat.lt_or_ge 0 (Int.gcd x m) with y | y
      · omega
      · exfalso
        have e : Int.gcd x m = 0 := by omega
        obtain ⟨e1, e2⟩ := Int.gcd_eq_zero_iff.mp e
        subst e1 e2
        exact h 2 pm_two (Int.dvd_zero 2) (Int.dvd_zero 2)
    · obtain ⟨p, hp, hd⟩ := exists_pm _ z
      exact absurd (Int.dvd_trans hd (Int.gcd_dvd_right ..)) (h p hp (Int.dvd_trans hd (Int.gcd_dvd_left ..)))
theorem cop_dvd_right {x m n : Int} (h : Int.gcd x m = 1) (d : n ∣ m) : Int.gcd x n = 1 := cop_iff.mpr fun p hp a b => cop_iff.mp h p hp a (Int.dvd_trans b d)
theorem cop_congr {x y m : Int} (h : m ∣ x - y) : Int.gcd x m = 1 ↔ Int.gcd y m = 1 := by
  have key : ∀ x y : Int, m ∣ x - y → Int.gcd x m = 1 → Int.gcd y m = 1 := fun x y h hx => cop_iff.mpr fun p hp a b => cop_iff.mp hx p hp (by
    have := Int.dvd_add (Int.dvd_trans b h) a
    rwa [Int.sub_add_cancel] at this) b
  refine ⟨key x y h, key y x ?_⟩
  obtain ⟨k, hk⟩ := h
  exact ⟨-k, by rw [Int.mul_neg, ← hk]; omega⟩
theorem dvd_sub_emod (x m : Int) : m ∣ x - x % m := ⟨x / m, by have := Int.mul_ediv_add_emod x m; omega⟩
theorem cop_emod {x m : Int} : Int.gcd (x % m) m = 1 ↔ Int.gcd x m = 1 := (cop_congr (dvd_sub_emod x m)).symm
theorem cop_mul {x m n : Int} (h : Int.gcd x m = 1) (k : Int.gcd x n = 1) : Int.gcd x (m * n) = 1 := cop_iff.mpr fun p hp a b => (Pm.dvd_mul hp b).elim (cop_iff.mp h p hp a) (cop_iff.mp k p hp a)
theorem emod_eq_of_dvd {x y m : Int} (h : m ∣ x - y) : x % m = y % m := Int.emod_eq_emod_iff_emod_sub_eq_zero.mpr (Int.emod_eq_zero_of_dvd h)
theorem dvd_of_emod_eq {x y m : Int} (h : x % m = y % m) : m ∣ x - y := Int.dvd_of_emod_eq_zero (Int.emod_eq_emod_iff_emod_sub_eq_zero.mp h)
theorem pm_cop {p m : Int} (hp : Pm p) : Int.gcd p m = 1 ↔ ¬ p ∣ m := by
  constructor
  · intro h d
    exact cop_iff.mp h p hp (Int.dvd_refl p) d
  · intro h
    refine cop_iff.mpr fun q hq a b => ?_
    have q2 := hq.1
    have hle := Int.le_of_dvd (by have := hp.1; omega) a
    rcases Int.lt_or_eq_of_le hle with z | z
    · exact hp.2 q q2 z a
    · exact h (z ▸ b)
end QR
/-- the ints from 0 on below m coprime to it -/
def uL (m : Int) : List Int := ((List.range m.toNat).map (fun i : Nat => (i : Int))).filter (fun r => decide (Int.gcd r m = 1))
theorem mem_uL {m k : Int} : k ∈ uL m ↔ 0 ≤ k ∧ k < m ∧ Int.gcd k m = 1 := by
  unfold uL
  rw [List.mem_filter, decide_eq_true_iff, List.mem_map]
  constructor
  · rintro ⟨⟨i, hi, rfl⟩, h⟩
    rw [List.mem_range] at hi
    exact ⟨by omega, by omega, h⟩
  · rintro ⟨a, b, h⟩
    exact ⟨⟨k.toNat, List.mem_range.mpr (by omega), by omega⟩, h⟩
theorem uL_inc {m : Int} : (uL m).Pairwise (· < ·) := by
  unfold uL
  refine List.Pairwise.filter _ (List.pairwise_map.mpr ?_)
  exact List.pairwise_lt_range.imp fun h => by omega
theorem uL_len {m : Int} : (uL m).length ≤ m.toNat := by
  unfold uL
  refine Nat.le_trans (List.length_filter_le _ _) ?_
  rw [List.length_map, List.length_range]
  exact Nat.le_refl _
theorem uL_nodup {m : Int} : (uL m).Nodup := uL_inc.imp fun h e => by omega
/-! part m_count -/
/-- an integer for each odd prime: a polynomial for each rest, apart from some primes -/
structure Ct where
  m : Int
  ln : Int → Int × Int × Int
  sp : List Int
  sv : Int → Int
def trV (t : Int × Int × Int) : List V := [.int t.1, .int t.2.1, .int t.2.2]
def trAt (t : Int × Int × Int) (p : Int) : Int := (t.1 * p * p + t.2.1 * p + t.2.2) / 4
def ctF (m : Int) (dl ds : Addr) : List (Str × V) := [("modulus", .int m), ("lines", .ref dl), ("special", .ref ds)]
def Ct.val (c : Ct) (p : Int) : Int := if p ∈ c.sp then c.sv p else trAt (c.ln (p % c.m)) p
structure Ct.Ok (c : Ct) : Prop where
  m1 : 1 ≤ c.m
  m4 : c.m ≤ 4000
  bl : ∀ r ∈ uL c.m, Bd 60 (c.ln r).1 ∧ Bd 60 (c.ln r).2.1 ∧ Bd 60 (c.ln r).2.2
  nd : c.sp.Nodup
  away : ∀ p, QR.OP p → p ∉ c.sp → p % c.m ∈ uL c.m
/-- the lines stand as tuples -/
def LnAt (G : Hp) (ln : Int → Int × Int × Int) (es : List (Int × Addr)) : Prop := ∀ e ∈ es, G e.2 = some (.tup (trV (ln e.1)))
theorem LnAt.mono {G G' : Hp} {ln : Int → Int × Int × Int} {es : List (Int × Addr)} (h : LnAt G ln es) (s : Same G G') : LnAt G' ln es := fun e he => s _ _ (h e he)
theorem LnAt.rig {G : Hp} {ln : Int → Int × Int × Int} {es : List (Int × Addr)} (h : LnAt G ln es) : Rig (fun G => LnAt G ln es) G := fun G' k e he => k _ _ rfl (h e he)
theorem LnAt.snoc {G : Hp} {ln : Int → Int × Int × Int} {es : List (Int × Addr)} {r : Int} {t : Addr} (h : LnAt G ln es) (ht : G t = some (.tup (trV (ln r)))) : LnAt G ln (es ++ [(r, t)]) := fun e he => (List.mem_append.mp he).elim (h e) fun z => by
  rw [List.mem_singleton.mp z]
  exact ht
def IsCt (C : Addr) (G : Hp) (x : Addr) (c : Ct) : Prop := ∃ (dx dl ds : Addr) (es : List (Int × Addr)), G x = some (.ins C dx (ctF c.m dl ds)) ∧ G dl = some (.dK (lnK es)) ∧ es.map (·.1) = uL c.m ∧ LnAt G c.ln es ∧ G ds = some (.dK (dV (fun p => V.int (c.sv p)) c.sp))
theorem IsCt.mono {C x : Addr} {G G' : Hp} {c : Ct} (h : IsCt C G x c) (s : Same G G') : IsCt C G' x c :=
  let ⟨dx, dl, ds, es, h1, h2, h3, h4, h5⟩ := h; ⟨dx, dl, ds, es, s _ _ h1, s _ _ h2, h3, h4.mono s, s _ _ h5⟩
theorem IsCt.line {C x : Addr} {G : Hp} {c : Ct} (h : IsCt C G x c) {r : Int} (hr : r ∈ uL c.m) : ∃ (dx dl ds : Addr) (es : List (Int × Addr)) (t : Addr), G x = some (.ins C dx (ctF c.m dl ds)) ∧ G dl = some (.dK (lnK es)) ∧ valV (lnK es) (.inl r) = some (.ref t) ∧ G t = some (.tup (trV (c.ln r))) ∧ G ds = some (.dK (dV (fun p => V.int (c.sv p)) c.sp)) := by
  obtain ⟨dx, dl, ds, es, h1, h2, h3, h4, h5⟩ := h
  obtain ⟨t, ht, hv⟩ := lnK_some (by rw [h3]; exact hr)
  exact ⟨dx, dl, ds, es, t, h1, h2, hv, h4 _ ht, h5⟩
/-! part m_gcd -/
theorem gcd_turn {x y : Int} (hx : 0 ≤ x) (hy : 0 < y) : Int.gcd y (x % y) = Int.gcd x y := by
  obtain ⟨m, rfl⟩ : ∃ m : Nat, x = m := ⟨x.toNat, by omega⟩
  obtain ⟨n, rfl⟩ : ∃ n : Nat, y = n := ⟨y.toNat, by omega⟩
  rw [← Int.natCast_emod, Int.gcd_natCast_natCast, Int.gcd_natCast_natCast, Nat.gcd_comm m n, Nat.gcd_rec n m, Nat.gcd_comm]
theorem gcd_abs (a b : Int) : Int.gcd (if a < 0 then -a else a) (if b < 0 then -b else b) = Int.gcd a b := by
  split <;> split <;> simp [Int.gcd_neg, Int.neg_gcd]
/-! part m_sq -/
theorem sgn_away {p n : Int} (hp : QR.OP p) (hn : ¬ n % p = 0) : sgn n p = 1 ∨ sgn n p = -1 :=
  sgn_pm (by have := hp.three; omega) hp.2 (hp.1.cop fun z => hn (Int.emod_eq_zero_of_dvd z))
theorem sgn_at0 {p n : Int} (hp : QR.OP p) (hn : n % p = 0) : sgn n p = 0 :=
  (sgn_zero (by have := hp.three; omega) hp.2).mpr fun z => by
    have := hp.three
    have hd := Int.dvd_of_emod_eq_zero hn
    have h1 : p ∣ ((Int.gcd n p : Nat) : Int) := Int.dvd_coe_gcd hd (Int.dvd_refl p)
    rw [z] at h1
    have := Int.le_of_dvd (by decide) h1
    omega
theorem sgn_b {n p : Int} (hp : QR.OP p) : -1 ≤ sgn n p ∧ sgn n p ≤ 1 := by
  by_cases h : n % p = 0
  · rw [sgn_at0 hp h]
    decide
  · rcases sgn_away hp h with e | e <;> rw [e] <;> decide
/-! part m_period -/
/-- the sign depends on the clock modulo four times the number -/
theorem sgn_period : ∀ (k : Nat) {n m t : Int}, n.natAbs ≤ k → 1 ≤ n → 1 ≤ m → m % 2 = 1 → 1 ≤ t → t % 2 = 1 → 4 * n ∣ m - t → sgn n m = sgn n t := by
  intro k
  induction k with
  | zero => intro n m t hk h1; omega
  | succ k ih =>
    intro n m t hk h1 m1 m2 t1 t2 hd
    obtain ⟨c, hc⟩ := hd
    rcases Int.emod_two_eq n with e | e
    · have e2 : n = 2 * (n / 2) := by omega
      have hd2 : 4 * (n / 2) ∣ m - t := ⟨2 * c, by rw [hc]; grind⟩
      have h8 : (8 : Int) ∣ m - t := ⟨n / 2 * c, by rw [hc]; grind⟩
      rw [e2, sgn_mul m1 m2, sgn_mul t1 t2, ih (by omega) (by omega) m1 m2 t1 t2 hd2, sgn_two m1 m2, sgn_two t1 t2]
      have : m % 8 = t % 8 := Int.emod_eq_emod_iff_emod_sub_eq_zero.mpr (Int.emod_eq_zero_of_dvd h8)
      rw [this]
    · have h4 : (4 : Int) ∣ m - t := ⟨n * c, by rw [hc]; grind⟩
      have hn : n ∣ m - t := ⟨4 * c, by rw [hc]; grind⟩
      have : m % 4 = t % 4 := Int.emod_eq_emod_iff_emod_sub_eq_zero.mpr (Int.emod_eq_zero_of_dvd h4)
      rw [sgn_turn m1 m2 h1 e, sgn_turn t1 t2 h1 e, this, sgn_congr h1 e hn]
theorem sgn_per {n m t : Int} (h1 : 1 ≤ n) (m1 : 1 ≤ m) (m2 : m % 2 = 1) (t1 : 1 ≤ t) (t2 : t % 2 = 1) (h : 4 * n ∣ m - t) : sgn n m = sgn n t := sgn_period _ (Nat.le_refl _) h1 m1 m2 t1 t2 h
theorem sgn_perN {n m t : Int} (h1 : 1 ≤ n) (m1 : 1 ≤ m) (m2 : m % 2 = 1) (t1 : 1 ≤ t) (t2 : t % 2 = 1) (h : 4 * n ∣ m - t) : sgn (-n) m = sgn (-n) t := by
  have e : m % 4 = t % 4 := by
    obtain ⟨c, hc⟩ := h
    exact Int.emod_eq_emod_iff_emod_sub_eq_zero.mpr (Int.emod_eq_zero_of_dvd ⟨n * c, by rw [hc]; grind⟩)
  rw [show -n = -1 * n by omega, sgn_mul m1 m2, sgn_mul t1 t2, sgn_per h1 m1 m2 t1 t2 h, sgn_neg1 m1 m2, sgn_neg1 t1 t2, e]
/-! part m_factors -/
def prodF : List (Int × Nat) → Int
  | [] => 1
  | x :: l => x.1 ^ x.2 * prodF l
def rowF (x : Int × Nat) : List V := [.int x.1, .int x.2]
/-- the primes of a number with their exponents -/
structure FacOk (n : Int) (fs : List (Int × Nat)) : Prop where
  prod : prodF fs = n
  prime : ∀ x, x ∈ fs → QR.Pm x.1 ∧ 1 ≤ x.2
  asc : fs.Pairwise fun a b => a.1 < b.1
theorem prodF_snoc (x : Int × Nat) : ∀ fs : List (Int × Nat), prodF (fs ++ [x]) = prodF fs * x.1 ^ x.2
  | [] => by simp [prodF]
  | y :: l => by
    simp only [List.cons_append, prodF]
    rw [prodF_snoc x l, Int.mul_assoc]
theorem prodF_big : ∀ fs : List (Int × Nat), (∀ x, x ∈ fs → QR.Pm x.1 ∧ 1 ≤ x.2) → (2 : Int) ^ fs.length ≤ prodF fs
  | [], _ => by simp [prodF]
  | x :: l, h => by
    have hx := h x (List.mem_cons_self ..)
    have ih := prodF_big l fun y hy => h y (List.mem_cons_of_mem _ hy)
    have h2 := hx.1.1
    obtain ⟨e, he⟩ : ∃ e, x.2 = e + 1 := ⟨x.2 - 1, by omega⟩
    have p1 : (1 : Int) ≤ x.1 ^ e := Int.pow_pos (by omega)
    have p0 : (0 : Int) < 2 ^ l.length := Int.pow_pos (by decide)
    simp only [prodF, List.length_cons]
    rw [he, Int.pow_succ, Int.pow_succ, Int.mul_comm (2 ^ l.length) 2]
    have p2 : 2 ≤ x.1 ^ e * x.1 := by
      have : 1 * x.1 ≤ x.1 ^ e * x.1 := Int.mul_le_mul_of_nonneg_right p1 (by omega)
      omega
    have a1 : 2 * 2 ^ l.length ≤ (x.1 ^ e * x.1) * 2 ^ l.length := Int.mul_le_mul_of_nonneg_right p2 (by omega)
    have a2 : (x.1 ^ e * x.1) * 2 ^ l.length ≤ (x.1 ^ e * x.1) * prodF l := Int.mul_le_mul_of_nonneg_left ih (by omega)
    omega
/-- while the factors are found: fs so far, n left, d next -/
structure FacInv (n0 n d : Int) (fs : List (Int × Nat)) : Prop where
  pos : 1 ≤ n
  two : 2 ≤ d
  prod : prodF fs * n = n0
  prime : ∀ x, x ∈ fs → QR.Pm x.1 ∧ 1 ≤ x.2 ∧ x.1 < d
  asc : fs.Pairwise fun a b => a.1 < b.1
  none : ∀ e : Int, 2 ≤ e → e < d → ¬ e ∣ n
theorem FacInv.len {n0 n d : Int} {fs : List (Int × Nat)} (h : FacInv n0 n d fs) (hn : n0 < 2 ^ 100) : fs.length < 100 := by
  have a := prodF_big fs fun x hx => ⟨(h.prime x hx).1, (h.prime x hx).2.1⟩
  have p0 : (0 : Int) < 2 ^ fs.length := Int.pow_pos (by decide)
  have b : prodF fs * 1 ≤ prodF fs * n := Int.mul_le_mul_of_nonneg_left h.pos (by omega)
  rw [h.prod] at b
  rcases Nat.lt_or_ge fs.length 100 with z | z
  · exact z
  · exfalso
    have : (2 : Int) ^ 100 ≤ 2 ^ fs.length := by
      have := Nat.pow_le_pow_right (show 0 < 2 by decide) z
      exact_mod_cast this
    omega
theorem FacInv.start {n : Int} (h : 1 ≤ n) : FacInv n n 2 [] :=
  ⟨h, by omega, by simp [prodF], fun _ h => absurd h List.not_mem_nil, List.Pairwise.nil, fun e h1 h2 => by omega⟩
/-- one divisor: n = m * d ^ e with no d left in m -/
theorem FacInv.next0 {n0 n d : Int} {fs : List (Int × Nat)} (h : FacInv n0 n d fs) (hd : ¬ d ∣ n) : FacInv n0 n (d + 1) fs :=
  ⟨h.pos, by have := h.two; omega, h.prod, fun x hx => ⟨(h.prime x hx).1, (h.prime x hx).2.1, by have := (h.prime x hx).2.2; omega⟩, h.asc, fun e h1 h2 z => by
    by_cases he : e = d
    · rw [he] at z
      exact hd z
    · exact h.none e h1 (by omega) z⟩
theorem FacInv.next {n0 n d m : Int} {e : Nat} {fs : List (Int × Nat)} (h : FacInv n0 n d fs) (he : 0 < e) (hm : m * d ^ e = n) (hm0 : 1 ≤ m) (hd : ¬ d ∣ m) : FacInv n0 m (d + 1) (fs ++ [(d, e)]) := by
  have h2 := h.two
  have dn : d ∣ n := by
    obtain ⟨k, rfl⟩ : ∃ k, e = k + 1 := ⟨e - 1, by omega⟩
    exact ⟨m * d ^ k, by rw [← hm, Int.pow_succ]; grind⟩
  have mn : m ∣ n := ⟨d ^ e, hm.symm⟩
  refine ⟨hm0, by omega, ?_, ?_, ?_, ?_⟩
  · rw [prodF_snoc, ← h.prod, ← hm]
    grind
  · intro x hx
    rcases List.mem_append.mp hx with hx | hx
    · exact ⟨(h.prime x hx).1, (h.prime x hx).2.1, by have := (h.prime x hx).2.2; omega⟩
    · rw [List.mem_singleton.mp hx]
      refine ⟨⟨h2, fun c c1 c2 c3 => h.none c c1 c2 (Int.dvd_trans c3 dn)⟩, he, ?_⟩
      show d < d + 1
      omega
  · rw [List.pairwise_append]
    refine ⟨h.asc, List.pairwise_singleton .., fun a ha b hb => ?_⟩
    rw [List.mem_singleton.mp hb]
    exact (h.prime a ha).2.2
  · intro c c1 c2 c3
    by_cases hc : c = d
    · rw [hc] at c3
      exact hd c3
    · exact h.none c c1 (by omega) (Int.dvd_trans c3 mn)
theorem FacInv.done1 {n0 d : Int} {fs : List (Int × Nat)} (h : FacInv n0 1 d fs) : FacOk n0 fs :=
  ⟨by have := h.prod; omega, fun x hx => ⟨(h.prime x hx).1, (h.prime x hx).2.1⟩, h.asc⟩
theorem FacInv.done {n0 n d : Int} {fs : List (Int × Nat)} (h : FacInv n0 n d fs) (hn : 1 < n) (hd : n < d * d) : FacOk n0 (fs ++ [(n, 1)]) := by
  have hp : QR.Pm n := QR.pm_of_trial (by omega) (by have := h.two; omega) hd h.none
  refine ⟨by rw [prodF_snoc, Int.pow_one]; exact h.prod, ?_, ?_⟩
  · intro x hx
    rcases List.mem_append.mp hx with hx | hx
    · exact ⟨(h.prime x hx).1, (h.prime x hx).2.1⟩
    · rw [List.mem_singleton.mp hx]
      exact ⟨hp, Nat.le_refl 1⟩
  · rw [List.pairwise_append]
    refine ⟨h.asc, List.pairwise_singleton .., fun a ha b hb => ?_⟩
    rw [List.mem_singleton.mp hb]
    have := (h.prime a ha).2.2
    show a.1 < n
    rcases Int.lt_or_le n d with z | z
    · exact absurd (Int.dvd_refl n) (h.none n (by omega) z)
    · omega
/-! part m_core -/
def sfL : List (Int × Nat) → Int
  | [] => 1
  | x :: l => (if x.2 % 2 = 1 then x.1 else 1) * sfL l
def sdL : List (Int × Nat) → Int
  | [] => 1
  | x :: l => x.1 ^ (x.2 / 2) * sdL l
theorem sf_sd : ∀ fs : List (Int × Nat), sfL fs * (sdL fs * sdL fs) = prodF fs
  | [] => rfl
  | x :: l => by
    have ih := sf_sd l
    simp only [sfL, sdL, prodF]
    rw [← ih]
    by_cases h : x.2 % 2 = 1
    · rw [if_pos h]
      have e : x.1 ^ x.2 = x.1 * (x.1 ^ (x.2 / 2) * x.1 ^ (x.2 / 2)) := by
        conv => lhs; rw [show x.2 = x.2 / 2 + x.2 / 2 + 1 by omega]
        rw [Int.pow_succ, Int.pow_add, Int.mul_comm]
      rw [e]
      grind
    · rw [if_neg h]
      have e : x.1 ^ x.2 = x.1 ^ (x.2 / 2) * x.1 ^ (x.2 / 2) := by
        conv => lhs; rw [show x.2 = x.2 / 2 + x.2 / 2 by omega]
        rw [Int.pow_add]
      rw [e]
      grind
theorem sdL_pos : ∀ {fs : List (Int × Nat)}, (∀ x, x ∈ fs → QR.Pm x.1 ∧ 1 ≤ x.2) → 1 ≤ sdL fs
  | [], _ => Int.le_refl _
  | x :: l, h => by
    have ih := sdL_pos fun y hy => h y (List.mem_cons_of_mem _ hy)
    have := (h x (List.mem_cons_self ..)).1.1
    simp only [sdL]
    exact Int.mul_pos (Int.pow_pos (by omega)) (by omega)
theorem prime_eq {p q : Int} (hp : QR.Pm p) (hq : QR.Pm q) (h : q ∣ p) : q = p := by
  have := Int.le_of_dvd (by have := hp.1; omega) h
  rcases Int.lt_or_le q p with z | z
  · exact absurd h (hp.2 q hq.1 z)
  · omega
theorem mem_of_dvd {q : Int} (hq : QR.Pm q) : ∀ {fs : List (Int × Nat)}, (∀ x, x ∈ fs → QR.Pm x.1 ∧ 1 ≤ x.2) → q ∣ sfL fs → ∃ x, x ∈ fs ∧ x.1 = q
  | [], _, h => by
    have : q ≤ 1 := Int.le_of_dvd (by decide) h
    have := hq.1
    omega
  | x :: l, hp, h => by
    simp only [sfL] at h
    rcases hq.dvd_mul h with z | z
    · split at z
      · exact ⟨x, List.mem_cons_self .., (prime_eq (hp x (List.mem_cons_self ..)).1 hq z).symm⟩
      · have := Int.le_of_dvd (by decide) z
        have := hq.1
        omega
    · obtain ⟨y, hy, e⟩ := mem_of_dvd hq (fun y hy => hp y (List.mem_cons_of_mem _ hy)) z
      exact ⟨y, List.mem_cons_of_mem _ hy, e⟩
theorem no_sq {q : Int} (hq : QR.Pm q) : ∀ {fs : List (Int × Nat)}, (∀ x, x ∈ fs → QR.Pm x.1 ∧ 1 ≤ x.2) → (fs.Pairwise fun a b => a.1 < b.1) → ¬ q * q ∣ sfL fs
  | [], _, _, h => by
    have : q ≤ 1 := Int.le_of_dvd (by decide) (Int.dvd_trans (Int.dvd_mul_right q q) h)
    have := hq.1
    omega
  | x :: l, hp, ha, h => by
    have hx := (hp x (List.mem_cons_self ..)).1
    have hl := fun y hy => hp y (List.mem_cons_of_mem _ hy)
    have ha' := List.pairwise_cons.mp ha
    simp only [sfL] at h
    by_cases ho : x.2 % 2 = 1
    · rw [if_pos ho] at h
      by_cases hqx : q = x.1
      · obtain ⟨c, hc⟩ := h
        have : q ∣ sfL l := ⟨c, by
          rw [hqx, Int.mul_assoc] at hc
          rw [hqx]
          exact Int.eq_of_mul_eq_mul_left (by have := hx.1; omega) hc⟩
        obtain ⟨y, hy, e⟩ := mem_of_dvd hq hl this
        have := ha'.1 y hy
        omega
      · have nd : ¬ q ∣ x.1 := fun z => hqx (prime_eq hx hq z)
        obtain ⟨c, hc⟩ := h
        have h1 : q ∣ sfL l := by
          rcases hq.dvd_mul (y := sfL l) (x := x.1) ⟨q * c, by rw [hc, Int.mul_assoc]⟩ with z | z
          · exact absurd z nd
          · exact z
        obtain ⟨d, hd⟩ := h1
        have h2 : q ∣ x.1 * d := ⟨c, by
          rw [hd] at hc
          refine Int.eq_of_mul_eq_mul_left (a := q) (by have := hq.1; omega) ?_
          grind⟩
        rcases hq.dvd_mul h2 with z | z
        · exact nd z
        · obtain ⟨g, hg⟩ := z
          exact no_sq hq hl ha'.2 ⟨g, by rw [hd, hg, Int.mul_assoc]⟩
    · rw [if_neg ho, Int.one_mul] at h
      exact no_sq hq hl ha'.2 h
theorem prime_in : ∀ (n : Nat) (k : Int), 2 ≤ k → k ≤ n → ∃ q, QR.Pm q ∧ q ∣ k
  | 0, k, h1, h2 => by omega
  | n + 1, k, h1, h2 => by
    by_cases hp : QR.Pm k
    · exact ⟨k, hp, Int.dvd_refl k⟩
    · have : ∃ d : Int, 2 ≤ d ∧ d < k ∧ d ∣ k := Classical.byContradiction fun hn => hp ⟨h1, fun d a b c => hn ⟨d, a, b, c⟩⟩
      obtain ⟨d, a, b, c⟩ := this
      obtain ⟨q, hq, hd⟩ := prime_in n d a (by omega)
      exact ⟨q, hq, Int.dvd_trans hd c⟩
/-- a number without square divisors, times a square -/
structure CoreOk (n s r : Int) : Prop where
  prod : s * r * r = n
  pos : 1 ≤ r
  free : ∀ k : Int, 2 ≤ k → ¬ k * k ∣ s
theorem core_ok {n : Int} {fs : List (Int × Nat)} (h : FacOk (if n < 0 then -n else n) fs) : CoreOk n ((if n < 0 then -1 else 1) * sfL fs) (sdL fs) := by
  have hs := sf_sd fs
  rw [h.prod] at hs
  refine ⟨?_, sdL_pos h.prime, fun k hk hd => ?_⟩
  · split at hs <;> split <;> grind
  · obtain ⟨q, hq, hqk⟩ := prime_in k.toNat k hk (by omega)
    have h1 : q * q ∣ sfL fs := by
      have h2 : k * k ∣ sfL fs := by
        split at hd
        · rw [Int.neg_mul, Int.one_mul] at hd
          exact Int.dvd_neg.mp hd
        · rw [Int.one_mul] at hd
          exact hd
      exact Int.dvd_trans (Int.mul_dvd_mul hqk hqk) h2
    exact no_sq hq h.prime h.asc h1
theorem pow_le_prod : ∀ {fs : List (Int × Nat)}, (∀ x, x ∈ fs → QR.Pm x.1 ∧ 1 ≤ x.2) → ∀ x, x ∈ fs → x.1 ^ x.2 ≤ prodF fs
  | [], _, _, hx => absurd hx List.not_mem_nil
  | y :: l, h, x, hx => by
    have hy := (h y (List.mem_cons_self ..))
    have hl := fun z hz => h z (List.mem_cons_of_mem _ hz)
    have b := prodF_big l hl
    have p0 : (0 : Int) < 2 ^ l.length := Int.pow_pos (by decide)
    have p1 : (1 : Int) ≤ y.1 ^ y.2 := Int.pow_pos (by have := hy.1.1; omega)
    simp only [prodF]
    rcases List.mem_cons.mp hx with e | e
    · rw [e]
      have : y.1 ^ y.2 * 1 ≤ y.1 ^ y.2 * prodF l := Int.mul_le_mul_of_nonneg_left (by omega) (by omega)
      omega
    · have ih := pow_le_prod hl x e
      have : 1 * prodF l ≤ y.1 ^ y.2 * prodF l := Int.mul_le_mul_of_nonneg_right p1 (by omega)
      omega
theorem fac_small {n : Int} {fs : List (Int × Nat)} (h : FacOk n fs) (hn : n < 2 ^ 60) {x : Int × Nat} (hx : x ∈ fs) : 2 ≤ x.1 ∧ x.1 < 2 ^ 60 ∧ 1 ≤ x.2 ∧ x.2 < 60 := by
  have a := pow_le_prod h.prime x hx
  rw [h.prod] at a
  obtain ⟨p, e⟩ := h.prime x hx
  have p1 := p.1
  refine ⟨p1, ?_, e, ?_⟩
  · obtain ⟨k, hk⟩ : ∃ k, x.2 = k + 1 := ⟨x.2 - 1, by omega⟩
    rw [hk, Int.pow_succ] at a
    have q : (1 : Int) ≤ x.1 ^ k := Int.pow_pos (by omega)
    have : 1 * x.1 ≤ x.1 ^ k * x.1 := Int.mul_le_mul_of_nonneg_right q (by omega)
    omega
  · rcases Nat.lt_or_ge x.2 60 with z | z
    · exact z
    · exfalso
      have b1 : (2 : Int) ^ 60 ≤ 2 ^ x.2 := by
        have := Nat.pow_le_pow_right (show 0 < 2 by decide) z
        exact_mod_cast this
      have b2 : (2 : Int) ^ x.2 ≤ x.1 ^ x.2 := by
        have := Nat.pow_le_pow_left (show 2 ≤ x.1.toNat by omega) x.2
        have e : ((x.1.toNat : Nat) : Int) = x.1 := by omega
        rw [← e]
        exact_mod_cast this
      omega
theorem core_uniq {s r s2 r2 : Int} (hr : 1 ≤ r) (hr2 : 1 ≤ r2) (hf : ∀ k : Int, 2 ≤ k → ¬ k * k ∣ s) (hf2 : ∀ k : Int, 2 ≤ k → ¬ k * k ∣ s2) (e : s * r * r = s2 * r2 * r2) : s = s2 ∧ r = r2 := by
  obtain ⟨a, ha⟩ := Int.gcd_dvd_left r r2
  obtain ⟨b, hb⟩ := Int.gcd_dvd_right r r2
  have g0 : 0 < Int.gcd r r2 := Int.gcd_pos_of_ne_zero_left _ (by omega)
  have hc : Int.gcd a b = 1 := by
    have h1 : Int.gcd ((Int.gcd r r2 : Nat) * a) ((Int.gcd r r2 : Nat) * b) = Int.gcd r r2 := by rw [← ha, ← hb]
    rw [Int.gcd_mul_left] at h1
    have h2 : (((Int.gcd r r2 : Nat)) : Int).natAbs = Int.gcd r r2 := by omega
    rw [h2] at h1
    exact Nat.eq_of_mul_eq_mul_left g0 (by rw [h1, Nat.mul_one])
  generalize hg : (Int.gcd r r2 : Nat) = g at *
  have gp : (0 : Int) < g := by omega
  have a1 : 1 ≤ a := by
    rcases Int.lt_or_le 0 a with z | z
    · exact z
    · have : (g : Int) * a ≤ g * 0 := Int.mul_le_mul_of_nonneg_left z (by omega)
      omega
  have b1 : 1 ≤ b := by
    rcases Int.lt_or_le 0 b with z | z
    · exact z
    · have : (g : Int) * b ≤ g * 0 := Int.mul_le_mul_of_nonneg_left z (by omega)
      omega
  have e2 : s * (a * a) = s2 * (b * b) := by
    refine Int.eq_of_mul_eq_mul_left (a := (g : Int) * g) (by have := Int.mul_pos gp gp; omega) ?_
    rw [ha, hb] at e
    grind
  have hcb : Int.gcd b a = 1 := by rw [Int.gcd_comm]; exact hc
  have da : a * a ∣ s2 := by
    have h1 : a ∣ b * (b * s2) := ⟨s * a, by grind⟩
    obtain ⟨c, hc1⟩ := QR.cop_dvd hcb (QR.cop_dvd hcb h1)
    have h2 : a ∣ b * (b * c) := ⟨s, by
      refine Int.eq_of_mul_eq_mul_left (a := a) (by omega) ?_
      grind⟩
    obtain ⟨d, hd⟩ := QR.cop_dvd hcb (QR.cop_dvd hcb h2)
    exact ⟨d, by rw [hc1, hd, Int.mul_assoc]⟩
  have db : b * b ∣ s := by
    have h1 : b ∣ a * (a * s) := ⟨s2 * b, by grind⟩
    obtain ⟨c, hc1⟩ := QR.cop_dvd hc (QR.cop_dvd hc h1)
    have h2 : b ∣ a * (a * c) := ⟨s2, by
      refine Int.eq_of_mul_eq_mul_left (a := b) (by omega) ?_
      grind⟩
    obtain ⟨d, hd⟩ := QR.cop_dvd hc (QR.cop_dvd hc h2)
    exact ⟨d, by rw [hc1, hd, Int.mul_assoc]⟩
  have ea : a = 1 := by
    rcases Int.lt_or_le a 2 with z | z
    · omega
    · exact absurd da (hf2 a z)
  have eb : b = 1 := by
    rcases Int.lt_or_le b 2 with z | z
    · omega
    · exact absurd db (hf b z)
  subst ea eb
  refine ⟨by omega, by rw [ha, hb]⟩
theorem CoreOk.uniq {n s r s2 r2 : Int} (h : CoreOk n s r) (h2 : CoreOk n s2 r2) : s = s2 ∧ r = r2 := core_uniq h.pos h2.pos h.free h2.free (h.prod.trans h2.prod.symm)
theorem CoreOk.bound {n s r B : Int} (h : CoreOk n s r) (h0 : n ≠ 0) (h1 : -B ≤ n) (h2 : n ≤ B) : s ≠ 0 ∧ -B ≤ s ∧ s ≤ B ∧ r ≤ B := by
  have hp := h.prod
  have hr := h.pos
  have hr2 : 1 ≤ r * r := Int.mul_pos (by omega) (by omega)
  have hr3 : r ≤ r * r := by
    have : r * 1 ≤ r * r := Int.mul_le_mul_of_nonneg_left hr (by omega)
    omega
  rw [Int.mul_assoc] at hp
  rcases Int.lt_trichotomy s 0 with z | z | z
  · have a : 1 * (r * r) ≤ -s * (r * r) := Int.mul_le_mul_of_nonneg_right (by omega) (by omega)
    have b : -s * 1 ≤ -s * (r * r) := Int.mul_le_mul_of_nonneg_left hr2 (by omega)
    simp only [Int.neg_mul] at a b
    omega
  · rw [z, Int.zero_mul] at hp
    omega
  · have a : 1 * (r * r) ≤ s * (r * r) := Int.mul_le_mul_of_nonneg_right (by omega) (by omega)
    have b : s * 1 ≤ s * (r * r) := Int.mul_le_mul_of_nonneg_left hr2 (by omega)
    omega
theorem CoreOk.self {n s r : Int} (h : CoreOk n s r) : CoreOk s s 1 := ⟨by omega, by decide, h.free⟩
/-! part m_germ -/
/-- rests modulo m tell no less modulo s -/
def Lv (m : Int) (R : List Int) (s : Int) : Prop := ∀ x y : Int, Int.gcd x m = 1 → Int.gcd y m = 1 → s ∣ x - y → (x % m ∈ R ↔ y % m ∈ R)
/-- the same told by a smaller modulus -/
structure Sub (m : Int) (R : List Int) (m' : Int) (R' : List Int) : Prop where
  dvd : m' ∣ m
  same : ∀ x : Int, Int.gcd x m = 1 → (x % m' ∈ R' ↔ x % m ∈ R)
theorem Sub.refl (m : Int) (R : List Int) : Sub m R m R := ⟨Int.dvd_refl m, fun _ _ => Iff.rfl⟩
theorem Sub.trans {m m1 m2 : Int} {R R1 R2 : List Int} (a : Sub m R m1 R1) (b : Sub m1 R1 m2 R2) : Sub m R m2 R2 := ⟨Int.dvd_trans b.dvd a.dvd, fun x h => (b.same x (QR.cop_dvd_right h a.dvd)).trans (a.same x h)⟩
structure Desc (m : Int) (R S : List Int) : Prop where
  pos : 1 ≤ m
  rests : ∀ r ∈ R, 0 ≤ r ∧ r < m ∧ Int.gcd r m = 1
  singles : ∀ p ∈ S, QR.OP p
def toldP (m : Int) (R : List Int) (p : Int) : Prop := ¬ p ∣ m ∧ p % m ∈ R
instance (m : Int) (R : List Int) (p : Int) : Decidable (toldP m R p) := inferInstanceAs (Decidable (¬ p ∣ m ∧ p % m ∈ R))
def memP (m : Int) (R S : List Int) (p : Int) : Prop := ¬ (toldP m R p ↔ p ∈ S)
instance (m : Int) (R S : List Int) (p : Int) : Decidable (memP m R S p) := inferInstanceAs (Decidable (¬ (toldP m R p ↔ p ∈ S)))
/-- what shortening shows -/
structure Short (m : Int) (R : List Int) (s : Int) (L : List Int) : Prop where
  inc : L.Pairwise (· < ·)
  mem : ∀ k ∈ L, k ∈ uL s
  same : ∀ x : Int, Int.gcd x m = 1 → (x % s ∈ L ↔ x % m ∈ R)
def liftsL (r s q : Int) : List Int := (List.range q.toNat).map fun k : Nat => r + (0 + (k : Int)) * s
def lftL (m r s q : Int) : List Int := (liftsL r s q).filter fun l => decide (Int.gcd l m = 1)
section
variable {m s q r : Int} {R : List Int}
theorem mem_lifts {l : Int} : l ∈ liftsL r s q ↔ ∃ k : Int, 0 ≤ k ∧ k < q ∧ l = r + k * s := by
  unfold liftsL
  rw [List.mem_map]
  constructor
  · rintro ⟨k, hk, rfl⟩
    rw [List.mem_range] at hk
    exact ⟨k, by omega, by omega, by rw [Int.zero_add]⟩
  · rintro ⟨k, a, b, rfl⟩
    exact ⟨k.toNat, List.mem_range.mpr (by omega), by rw [Int.zero_add, show ((k.toNat : Nat) : Int) = k by omega]⟩
theorem lift_bound {k : Int} (hs : 0 < s) (hm : m = s * q) (r0 : 0 ≤ r) (r1 : r < s) (k0 : 0 ≤ k) (k1 : k < q) : 0 ≤ r + k * s ∧ r + k * s < m := by
  have a : 0 ≤ k * s := Int.mul_nonneg k0 (by omega)
  have b : k * s ≤ (q - 1) * s := Int.mul_le_mul_of_nonneg_right (by omega) (by omega)
  have c : (q - 1) * s = s * q - s := by grind
  omega
theorem lift_mod {k : Int} (r0 : 0 ≤ r) (r1 : r < s) : (r + k * s) % s = r := by
  rw [Int.add_mul_emod_self_right, Int.emod_eq_of_lt r0 r1]
/-- a coprime lift there is -/
theorem lft_ne (hq : QR.Pm q) (hs : 0 < s) (hm : m = s * q) (hr : r ∈ uL s) : lftL m r s q ≠ [] := by
  obtain ⟨r0, r1, rc⟩ := mem_uL.mp hr
  have q2 := hq.1
  have c0 : ∀ k : Int, Int.gcd (r + k * s) s = 1 := fun k => (QR.cop_congr (y := r) ⟨k, by rw [Int.mul_comm]; omega⟩).mpr rc
  have : ∃ k : Int, 0 ≤ k ∧ k < q ∧ Int.gcd (r + k * s) m = 1 := by
    by_cases a : q ∣ r
    · refine ⟨1, by omega, by omega, ?_⟩
      rw [hm]
      refine QR.cop_mul (c0 1) (QR.cop_iff.mpr fun p hp b c => ?_)
      have pq : p = q := by
        rcases Int.lt_or_eq_of_le (Int.le_of_dvd (by omega) c) with z | z
        · exact absurd c (hq.2 p hp.1 z)
        · exact z
      subst pq
      have d : p ∣ s := by
        have := Int.dvd_sub b a
        rwa [Int.one_mul, Int.add_comm, Int.add_sub_cancel] at this
      exact QR.cop_iff.mp rc p hp a d
    · refine ⟨0, by omega, by omega, ?_⟩
      rw [hm, Int.zero_mul, Int.add_zero]
      refine QR.cop_mul rc (QR.cop_iff.mpr fun p hp b c => ?_)
      have pq : p = q := by
        rcases Int.lt_or_eq_of_le (Int.le_of_dvd (by omega) c) with z | z
        · exact absurd c (hq.2 p hp.1 z)
        · exact z
      exact a (pq ▸ b)
  obtain ⟨k, k0, k1, kc⟩ := this
  intro e
  have : r + k * s ∈ lftL m r s q := List.mem_filter.mpr ⟨mem_lifts.mpr ⟨k, k0, k1, rfl⟩, decide_eq_true kc⟩
  rw [e] at this
  cases this
theorem lft_prop (hs : 0 < s) (hm : m = s * q) (hr : r ∈ uL s) {l : Int} (hl : l ∈ lftL m r s q) : Int.gcd l m = 1 ∧ l % m = l ∧ l % s = r := by
  obtain ⟨r0, r1, rc⟩ := mem_uL.mp hr
  obtain ⟨a, b⟩ := List.mem_filter.mp hl
  obtain ⟨k, k0, k1, rfl⟩ := mem_lifts.mp a
  obtain ⟨b0, b1⟩ := lift_bound hs hm r0 r1 k0 k1
  exact ⟨of_decide_eq_true b, Int.emod_eq_of_lt b0 b1, lift_mod r0 r1⟩
theorem lft_all (hs : 0 < s) (hq : 0 < q) (hm : m = s * q) {x : Int} (hx : Int.gcd x m = 1) (hr : x % s = r) : x % m ∈ lftL m r s q := by
  have m0 : 0 < m := by rw [hm]; exact Int.mul_pos hs hq
  have e0 := Int.emod_nonneg x (show m ≠ 0 by omega)
  have e1 := Int.emod_lt_of_pos x m0
  refine List.mem_filter.mpr ⟨mem_lifts.mpr ⟨x % m / s, ?_, ?_, ?_⟩, decide_eq_true (QR.cop_emod.mpr hx)⟩
  · exact Int.ediv_nonneg e0 (by omega)
  · exact Int.ediv_lt_of_lt_mul hs (by rw [Int.mul_comm]; omega)
  · have e2 : x % m % s = r := by rw [← hr]; exact Int.emod_emod_of_dvd x ⟨q, hm⟩
    have := Int.mul_ediv_add_emod (x % m) s
    rw [e2] at this
    rw [Int.mul_comm (x % m / s)]
    omega
theorem unit_of (h : s ∣ m) {x : Int} (hs : 0 < s) (hx : Int.gcd x m = 1) : x % s ∈ uL s := mem_uL.mpr ⟨Int.emod_nonneg x (by omega), Int.emod_lt_of_pos x hs, QR.cop_emod.mpr (QR.cop_dvd_right hx h)⟩
/-- kept so far: of the units in us -/
structure Kept (m : Int) (R : List Int) (s : Int) (us L : List Int) : Prop where
  inc : L.Pairwise (· < ·)
  mem : ∀ k ∈ L, k ∈ us
  same : ∀ x : Int, Int.gcd x m = 1 → x % s ∈ us → (x % s ∈ L ↔ x % m ∈ R)
theorem Kept.nil : Kept m R s [] [] := ⟨List.Pairwise.nil, fun _ h => absurd h List.not_mem_nil, fun _ _ h => absurd h List.not_mem_nil⟩
theorem Kept.put {us L : List Int} (h : Kept m R s us L) (hlt : ∀ k ∈ us, k < r) (hall : ∀ x : Int, Int.gcd x m = 1 → x % s = r → x % m ∈ R) : Kept m R s (us ++ [r]) (L ++ [r]) := by
  refine ⟨List.pairwise_append.mpr ⟨h.inc, List.pairwise_singleton .., fun a ha b hb => by rw [List.mem_singleton.mp hb]; exact hlt a (h.mem a ha)⟩, fun k hk => ?_, fun x hx hu => ?_⟩
  · rcases List.mem_append.mp hk with hk | hk
    · exact List.mem_append_left _ (h.mem k hk)
    · exact List.mem_append_right _ hk
  · rcases List.mem_append.mp hu with hu | hu
    · rw [List.mem_append, ← h.same x hx hu, List.mem_singleton]
      refine ⟨fun z => z.elim id fun e => ?_, .inl⟩
      have := hlt _ hu
      omega
    · have e := List.mem_singleton.mp hu
      exact ⟨fun _ => hall x hx e, fun _ => List.mem_append_right _ hu⟩
theorem Kept.skip {us L : List Int} (h : Kept m R s us L) (hlt : ∀ k ∈ us, k < r) (hall : ∀ x : Int, Int.gcd x m = 1 → x % s = r → x % m ∉ R) : Kept m R s (us ++ [r]) L := by
  refine ⟨h.inc, fun k hk => List.mem_append_left _ (h.mem k hk), fun x hx hu => ?_⟩
  rcases List.mem_append.mp hu with hu | hu
  · exact h.same x hx hu
  · have e := List.mem_singleton.mp hu
    refine ⟨fun z => ?_, fun z => absurd z (hall x hx e)⟩
    have := hlt _ (h.mem _ z)
    omega
theorem Kept.done {L : List Int} (h : Kept m R s (uL s) L) (hd : s ∣ m) (hs : 0 < s) : Short m R s L := ⟨h.inc, h.mem, fun x hx => h.same x hx (unit_of hd hs hx)⟩
theorem Short.lv {L : List Int} (h : Short m R s L) : Lv m R s := fun x y hx hy d => by
  rw [← h.same x hx, ← h.same y hy, QR.emod_eq_of_dvd d]
theorem Short.sub {L : List Int} (h : Short m R s L) (hd : s ∣ m) : Sub m R s L := ⟨hd, h.same⟩
/-- what stays told no less by a divisor stays so ahead of a shortening -/
theorem Lv.up {m' s' : Int} {R' : List Int} (h : Sub m R m' R') (l : Lv m' R' s') (hd : s' ∣ s) : Lv m R s := fun x y hx hy d => by
  rw [← h.same x hx, ← h.same y hy]
  exact l x y (QR.cop_dvd_right hx h.dvd) (QR.cop_dvd_right hy h.dvd) (Int.dvd_trans hd d)
end
/-- a single prime changes sides -/
def togL (S : List Int) (p : Int) : List Int := if p ∈ S then S.filter (fun o => !decide (o = p)) else S ++ [p]
theorem mem_tog {S : List Int} {p k : Int} : k ∈ togL S p ↔ if k = p then p ∉ S else k ∈ S := by
  unfold togL
  by_cases h : p ∈ S
  · rw [if_pos h]
    by_cases e : k = p
    · subst e
      simp [h]
    · simp [e]
  · rw [if_neg h]
    by_cases e : k = p
    · subst e
      simp [h]
    · simp [e]
theorem tog_nodup {S : List Int} {p : Int} (h : S.Nodup) : (togL S p).Nodup := by
  unfold togL
  split
  · exact h.filter _
  · rename_i hp
    refine List.nodup_append.mpr ⟨h, by simp, fun a ha b hb e => hp ?_⟩
    rw [List.mem_singleton] at hb
    rw [← hb, ← e]
    exact ha
theorem tog_len {S : List Int} {p : Int} : (togL S p).length ≤ S.length + 1 := by
  unfold togL
  split
  · exact Nat.le_succ_of_le (List.length_filter_le _ _)
  · simp
/-- the singles behind a shortening by q -/
def nextS (m : Int) (L S : List Int) (q : Int) : List Int := if q ≠ 2 ∧ toldP m L q then togL S q else S
/-- an odd prime, or coprime to the modulus -/
def PrOk (m p : Int) : Prop := QR.OP p ∨ (2 ≤ p ∧ Int.gcd p m = 1)
theorem PrOk.two {m p : Int} (h : PrOk m p) : 2 ≤ p := h.elim (fun h => h.1.1) (·.1)
theorem PrOk.cop {m p : Int} (h : PrOk m p) (d : ¬ p ∣ m) : Int.gcd p m = 1 := h.elim (fun h => (QR.pm_cop h.1).mpr d) (·.2)
theorem PrOk.dvd {m m' p : Int} (h : PrOk m p) (d : m' ∣ m) : PrOk m' p := h.imp_right fun h => ⟨h.1, QR.cop_dvd_right h.2 d⟩
theorem PrOk.ndvd {m p : Int} (h2 : 2 ≤ p) (h : Int.gcd p m = 1) : ¬ p ∣ m := fun d => by
  have e := QR.dvd_gcd (Int.dvd_refl p) d
  rw [h] at e
  have := Int.le_of_dvd (by decide) e
  omega
theorem memP_next {m q : Int} {R L S : List Int} (hq : QR.Pm q) (hs : 1 ≤ m / q) (hd : q ∣ m) (h : Short m R (m / q) L) {p : Int} (hp : PrOk m p) : memP (m / q) L (nextS (m / q) L S q) p ↔ memP m R S p := by
  have hm : m = m / q * q := (Int.ediv_mul_cancel hd).symm
  unfold memP nextS
  by_cases e : p = q
  · subst e
    have op : QR.OP p := hp.elim id fun z => absurd hd (PrOk.ndvd z.1 z.2)
    have p2 : p ≠ 2 := fun z => by have := op.2; omega
    have t0 : ¬ toldP m R p := fun z => z.1 hd
    by_cases t : toldP (m / p) L p
    · rw [if_pos ⟨p2, t⟩, mem_tog, if_pos rfl]
      simp [t, t0]
    · rw [if_neg fun z => t z.2]
      simp [t, t0]
  · have td : p ∣ m ↔ p ∣ m / q := by
      constructor
      · intro z
        rcases hp with hp | hp
        · rw [hm] at z
          rcases QR.Pm.dvd_mul hp.1 z with z | z
          · exact z
          · exfalso
            have p2 := hp.1.1
            rcases Int.lt_or_eq_of_le (Int.le_of_dvd (by have := hq.1; omega) z) with y | y
            · exact hq.2 p p2 y z
            · exact e y
        · exact absurd z (PrOk.ndvd hp.1 hp.2)
      · intro z
        rw [hm]
        exact Int.dvd_mul_of_dvd_left z
    have t : toldP (m / q) L p ↔ toldP m R p := by
      unfold toldP
      rw [td]
      by_cases z : p ∣ m / q
      · simp [z]
      · have := h.same p (hp.cop fun y => z (td.mp y))
        simp [z, this]
    rw [t]
    have s : p ∈ (if q ≠ 2 ∧ toldP (m / q) L q then togL S q else S) ↔ p ∈ S := by
      split
      · rw [mem_tog, if_neg e]
      · exact Iff.rfl
    rw [s]
/-! part m_facs -/
theorem pow_dvd {p q : Int} (hp : QR.Pm p) (hq : QR.Pm q) : ∀ e : Nat, p ∣ q ^ e → p = q
  | 0, h => by
    rw [Int.pow_zero] at h
    have := Int.le_of_dvd (by decide) h
    have := hp.1
    omega
  | e + 1, h => by
    rw [Int.pow_succ] at h
    rcases QR.Pm.dvd_mul hp h with h | h
    · exact pow_dvd hp hq e h
    · rcases Int.lt_or_eq_of_le (Int.le_of_dvd (by have := hq.1; omega) h) with z | z
      · exact absurd h (hq.2 p hp.1 z)
      · exact z
theorem prodF_dvd {p : Int} (hp : QR.Pm p) : ∀ {fs : List (Int × Nat)}, (∀ x, x ∈ fs → QR.Pm x.1 ∧ 1 ≤ x.2) → (p ∣ prodF fs ↔ ∃ x ∈ fs, x.1 = p)
  | [], _ => by
    constructor
    · intro h
      have := Int.le_of_dvd (by simp [prodF]) h
      have := hp.1
      simp [prodF] at *
      omega
    · rintro ⟨x, h, _⟩
      cases h
  | y :: fs, h => by
    have ih := prodF_dvd hp (fs := fs) fun x hx => h x (List.mem_cons_of_mem _ hx)
    obtain ⟨y1, y2⟩ := h y List.mem_cons_self
    constructor
    · intro d
      rcases QR.Pm.dvd_mul hp (show p ∣ y.1 ^ y.2 * prodF fs from d) with d | d
      · exact ⟨y, List.mem_cons_self, (pow_dvd hp y1 _ d).symm⟩
      · obtain ⟨x, hx, e⟩ := ih.mp d
        exact ⟨x, List.mem_cons_of_mem _ hx, e⟩
    · rintro ⟨x, hx, e⟩
      show p ∣ y.1 ^ y.2 * prodF fs
      rcases List.mem_cons.mp hx with rfl | hx
      · refine Int.dvd_mul_of_dvd_left ?_
        rw [e]
        obtain ⟨k, hk⟩ : ∃ k, x.2 = k + 1 := ⟨x.2 - 1, by omega⟩
        rw [hk, Int.pow_succ]
        exact Int.dvd_mul_left _ _
      · exact Int.dvd_mul_of_dvd_right (ih.mpr ⟨x, hx, e⟩)
theorem FacOk.mem {n p : Int} {fs : List (Int × Nat)} (h : FacOk n fs) : (∃ x ∈ fs, x.1 = p) ↔ QR.Pm p ∧ p ∣ n := by
  constructor
  · rintro ⟨x, hx, rfl⟩
    have hp := (h.prime x hx).1
    exact ⟨hp, by rw [← h.prod]; exact (prodF_dvd hp h.prime).mpr ⟨x, hx, rfl⟩⟩
  · rintro ⟨hp, d⟩
    rw [← h.prod] at d
    exact (prodF_dvd hp h.prime).mp d
theorem FacOk.len {n : Int} {fs : List (Int × Nat)} (h : FacOk n fs) (hn : n < 2 ^ 99) : fs.length < 100 := by
  have := prodF_big fs h.prime
  rw [h.prod] at this
  rcases Nat.lt_or_ge fs.length 100 with z | z
  · exact z
  · exfalso
    have a : (2 : Nat) ^ 100 ≤ 2 ^ fs.length := Nat.pow_le_pow_right (by decide) z
    have b : ((2 ^ fs.length : Nat) : Int) = 2 ^ fs.length := by rw [Int.natCast_pow]; rfl
    have c : (2 : Int) ^ 99 < ((2 ^ 100 : Nat) : Int) := by decide
    omega
/-! part m_least -/
structure LeastOk (m : Int) (R S : List Int) (m' : Int) (R' S' : List Int) : Prop where
  desc : Desc m' R' S'
  sub : Sub m R m' R'
  rn : R'.Nodup
  sn : S'.Nodup
  mem : ∀ p, PrOk m p → (memP m' R' S' p ↔ memP m R S p)
  len : m' * 2 ^ S'.length ≤ m * 2 ^ S.length
  src : ∀ p ∈ S', p ∈ S ∨ p ∣ m
/-- no divisor of the modulus by one of its primes tells as much -/
def LowAt (m : Int) (R : List Int) (q : Int) : Prop := q ∣ m → ¬ Lv m R (m / q)
theorem LeastOk.refl {m : Int} {R S : List Int} (h : Desc m R S) (rn : R.Nodup) (sn : S.Nodup) : LeastOk m R S m R S := ⟨h, Sub.refl m R, rn, sn, fun _ _ => Iff.rfl, Int.le_refl _, fun _ h => .inl h⟩
section
variable {m m' q : Int} {R S R' S' L : List Int}
theorem div_pos_of {m q : Int} (hm : 1 ≤ m) (hq : 2 ≤ q) (hd : q ∣ m) : 1 ≤ m / q ∧ m / q + 1 ≤ m := by
  have e := Int.ediv_mul_cancel hd
  have a : 1 ≤ m / q := by
    rcases Int.lt_or_le 0 (m / q) with z | z
    · exact z
    · have := Int.mul_le_mul_of_nonneg_right z (show 0 ≤ q by omega)
      omega
  refine ⟨a, ?_⟩
  have := Int.mul_le_mul_of_nonneg_left hq (show 0 ≤ m / q by omega)
  omega
theorem pow2_mono {a b : Nat} (h : a ≤ b) : (2 : Int) ^ a ≤ 2 ^ b := by
  have := Nat.pow_le_pow_right (show 0 < 2 by decide) h
  exact_mod_cast this
theorem LeastOk.next (h : LeastOk m R S m' R' S') (hq : QR.Pm q) (hd : q ∣ m') (k : Short m' R' (m' / q) L) : LeastOk m R S (m' / q) L (nextS (m' / q) L S' q) := by
  have q2 := hq.1
  obtain ⟨s1, s2⟩ := div_pos_of h.desc.pos q2 hd
  refine ⟨⟨s1, fun r hr => ?_, fun p hp => ?_⟩, h.sub.trans (k.sub ⟨q, (Int.ediv_mul_cancel hd).symm⟩), k.inc.imp fun h => by omega, ?_, fun p hp => (memP_next hq s1 hd k (hp.dvd h.sub.dvd)).trans (h.mem p hp), ?_, fun p hp => ?_⟩
  · exact mem_uL.mp (k.mem r hr)
  · unfold nextS at hp
    split at hp
    · rename_i z
      rw [mem_tog] at hp
      by_cases e : p = q
      · exact ⟨e ▸ hq, QR.pm_odd (e ▸ hq) (by omega)⟩
      · rw [if_neg e] at hp
        exact h.desc.singles p hp
    · exact h.desc.singles p hp
  · unfold nextS
    split
    · exact tog_nodup h.sn
    · exact h.sn
  · refine Int.le_trans ?_ h.len
    have a : (2 : Int) ^ (nextS (m' / q) L S' q).length ≤ 2 ^ S'.length * 2 := by
      rw [← Int.pow_succ]
      refine pow2_mono ?_
      unfold nextS
      split
      · exact tog_len
      · omega
    refine Int.le_trans (Int.mul_le_mul_of_nonneg_left a (by omega)) ?_
    rw [Int.mul_comm (2 ^ S'.length), ← Int.mul_assoc]
    refine Int.mul_le_mul_of_nonneg_right ?_ (Int.pow_nonneg (by decide))
    have := Int.mul_le_mul_of_nonneg_left q2 (show 0 ≤ m' / q by omega)
    rw [Int.ediv_mul_cancel hd] at this
    exact this
  · unfold nextS at hp
    split at hp
    · rw [mem_tog] at hp
      by_cases e : p = q
      · exact .inr (e ▸ Int.dvd_trans hd h.sub.dvd)
      · rw [if_neg e] at hp
        exact h.src p hp
    · exact h.src p hp
theorem LeastOk.few (h : LeastOk m R S m' R' S') (hm : m ≤ 4000) : S'.length ≤ S.length + 11 := by
  rcases Nat.lt_or_ge (S.length + 11) S'.length with z | z
  · exfalso
    have a := h.len
    have b : (2 : Int) ^ S.length * 2 ^ 12 ≤ 2 ^ S'.length := by
      rw [← Int.pow_add]
      exact pow2_mono (by omega)
    have c : m * 2 ^ S.length ≤ 4000 * 2 ^ S.length := Int.mul_le_mul_of_nonneg_right hm (Int.pow_nonneg (by decide))
    have d := Int.mul_le_mul_of_nonneg_right h.desc.pos (show (0 : Int) ≤ 2 ^ S'.length from Int.pow_nonneg (by decide))
    have p0 : (0 : Int) < 2 ^ S.length := Int.pow_pos (by decide)
    omega
  · exact z
theorem LowAt.next {q0 : Int} (l : LowAt m' R' q0) (hq : QR.Pm q) (hq0 : QR.Pm q0) (p1 : 1 ≤ m') (hd : q ∣ m') (k : Short m' R' (m' / q) L) : LowAt (m' / q) L q0 := by
  intro d z
  have e := (Int.ediv_mul_cancel hd)
  have d' : q0 ∣ m' := by rw [← e]; exact Int.dvd_mul_of_dvd_left d
  have q2 := hq0.1
  have e2 := Int.ediv_mul_cancel d
  have e3 : m' = m' / q / q0 * q * q0 := by rw [Int.mul_assoc, Int.mul_comm q q0, ← Int.mul_assoc, e2, e]
  exact l d' (Lv.up (k.sub ⟨q, e.symm⟩) z ⟨q, Int.ediv_eq_of_eq_mul_left (by omega) e3⟩)
theorem lowAt_of_not (h : ¬ Lv m R (m / q)) : LowAt m R q := fun _ => h
theorem lowAt_nd (h : ¬ q ∣ m) : LowAt m R q := fun z => absurd z h
theorem dvd_next {x : Int} (hx : QR.Pm x) (hq : QR.Pm q) (hd : q ∣ m) (h : x ∣ m) (ne : x ≠ q) : x ∣ m / q := by
  rw [← Int.ediv_mul_cancel hd] at h
  rcases QR.Pm.dvd_mul hx h with z | z
  · exact z
  · exfalso
    rcases Int.lt_or_eq_of_le (Int.le_of_dvd (by have := hq.1; omega) z) with y | y
    · exact hq.2 x hx.1 y z
    · exact ne y
end
/-- a least description, in order -/
structure IsLeast (m : Int) (R S : List Int) : Prop where
  desc : Desc m R S
  ri : R.Pairwise (· < ·)
  si : S.Pairwise (· < ·)
  low : ∀ q, QR.Pm q → LowAt m R q
/-- what making a set gives -/
structure Made (m : Int) (R S : List Int) (m' : Int) (R' S' : List Int) : Prop where
  least : IsLeast m' R' S'
  sub : Sub m R m' R'
  mem : ∀ p, PrOk m p → (memP m' R' S' p ↔ memP m R S p)
  few : S'.length ≤ S.length + 11
  src : ∀ p ∈ S', p ∈ S ∨ p ∣ m
def SameL (a b : List Int) : Prop := ∀ k, k ∈ a ↔ k ∈ b
theorem Lv.congr {m : Int} {R R' : List Int} {s : Int} (h : SameL R R') : Lv m R s ↔ Lv m R' s := by
  unfold Lv
  exact ⟨fun l x y a b c => by rw [← h, ← h]; exact l x y a b c, fun l x y a b c => by rw [h, h]; exact l x y a b c⟩
theorem toldP_congr {m p : Int} {R R' : List Int} (h : SameL R R') : toldP m R p ↔ toldP m R' p := by
  unfold toldP
  rw [h]
theorem memP_congr {m p : Int} {R R' S S' : List Int} (h : SameL R R') (k : SameL S S') : memP m R S p ↔ memP m R' S' p := by
  unfold memP
  rw [toldP_congr h, k]
theorem LeastOk.made {m : Int} {R S R0 S0 : List Int} {m' : Int} {R1 S1 R' S' : List Int} (h : LeastOk m R0 S0 m' R1 S1) (low : ∀ q, QR.Pm q → LowAt m' R1 q) (hm : m ≤ 4000) (e1 : SameL R0 R) (e2 : SameL S0 S) (l0 : S0.length ≤ S.length) (e3 : SameL R' R1) (e4 : SameL S' S1) (l1 : S'.length ≤ S1.length) (r : R'.Pairwise (· < ·)) (s : S'.Pairwise (· < ·)) : Made m R S m' R' S' := by
  refine ⟨⟨⟨h.desc.pos, fun x hx => h.desc.rests x ((e3 x).mp hx), fun x hx => h.desc.singles x ((e4 x).mp hx)⟩, r, s, fun q hq d z => low q hq d ((Lv.congr e3).mp z)⟩, ⟨h.sub.dvd, fun x hx => ?_⟩, fun p hp => ?_, ?_, fun p hp => ?_⟩
  · rw [e3, h.sub.same x hx, e1]
  · rw [memP_congr e3 e4, h.mem p hp, memP_congr e1 e2]
  · have := h.few hm
    omega
  · exact (h.src p ((e4 p).mp hp)).imp_left (e2 p).mp
theorem nodup_sub_len : ∀ {l s : List Int}, l.Nodup → (∀ k ∈ l, k ∈ s) → l.length ≤ s.length
  | [], _, _, _ => Nat.zero_le _
  | k :: l, s, h, hs => by
    have hk := hs k List.mem_cons_self
    obtain ⟨h1, h2⟩ := List.nodup_cons.mp h
    have := nodup_sub_len (l := l) (s := s.erase k) h2 fun j hj => (List.mem_erase_of_ne fun (e : j = k) => h1 (e ▸ hj)).mpr (hs j (List.mem_cons_of_mem _ hj))
    rw [List.length_erase_of_mem hk] at this
    have := List.length_pos_of_mem hk
    rw [List.length_cons]
    omega
/-- a unit of a divisor comes from a unit -/
theorem unit_lift : ∀ (n : Nat) {m s r : Int}, 0 < s → m = s * n → 0 < n → r ∈ uL s → ∃ x, Int.gcd x m = 1 ∧ x % s = r := by
  intro n
  induction n using Nat.strongRecOn with
  | _ n ih =>
    intro m s r hs hm hn hr
    rcases Nat.lt_or_ge n 2 with h | h
    · obtain ⟨r0, r1, rc⟩ := mem_uL.mp hr
      have : n = 1 := by omega
      subst this
      refine ⟨r, ?_, Int.emod_eq_of_lt r0 r1⟩
      rw [hm, show s * ((1 : Nat) : Int) = s by simp]
      exact rc
    · obtain ⟨q, hq, hd⟩ := QR.exists_pm n h
      have q2 := hq.1
      obtain ⟨l, hl⟩ := List.exists_mem_of_ne_nil _ (lft_ne (m := s * q) hq hs rfl hr)
      obtain ⟨c, e1, e2⟩ := lft_prop hs rfl hr hl
      obtain ⟨k, hk⟩ := hd
      have sq : 0 < s * q := Int.mul_pos hs (by omega)
      have k0 : 0 < k := by
        rcases Int.lt_or_le 0 k with z | z
        · exact z
        · have := Int.mul_le_mul_of_nonneg_left z (show 0 ≤ q by omega)
          omega
      have hu : l ∈ uL (s * q) := mem_uL.mpr ⟨by rw [← e1]; exact Int.emod_nonneg _ (by omega), by rw [← e1]; exact Int.emod_lt_of_pos _ sq, c⟩
      have kn : k.toNat < n := by
        have := Int.mul_le_mul_of_nonneg_right q2 (show 0 ≤ k by omega)
        omega
      obtain ⟨x, x1, x2⟩ := ih k.toNat kn sq (show m = s * q * ((k.toNat : Nat) : Int) by rw [hm, hk, show ((k.toNat : Nat) : Int) = k by omega, Int.mul_assoc, Int.mul_comm q k]) (by omega) hu
      refine ⟨x, x1, ?_⟩
      have : x % (s * q) % s = x % s := Int.emod_emod_of_dvd x ⟨q, rfl⟩
      rw [← this, x2, e2]
theorem Sub.lift {m m' : Int} {R R' : List Int} (h : Sub m R m' R') (m1 : 1 ≤ m) (m2 : 1 ≤ m') {r : Int} (hr : r ∈ uL m') : ∃ x, Int.gcd x m = 1 ∧ x % m' = r := by
  obtain ⟨k, hk⟩ := h.dvd
  have k0 : 0 < k := by
    rcases Int.lt_or_le 0 k with z | z
    · exact z
    · have := Int.mul_le_mul_of_nonneg_left z (show 0 ≤ m' by omega)
      omega
  exact unit_lift k.toNat (by omega) (by rw [hk, show ((k.toNat : Nat) : Int) = k by omega]) (by omega) hr
/-! part m_can -/
theorem bez : ∀ (b a : Nat), ∃ u v : Int, (a : Int) * u + b * v = (Nat.gcd a b : Nat) := by
  intro b
  induction b using Nat.strongRecOn with
  | _ b ih =>
    intro a
    rcases Nat.eq_zero_or_pos b with h | h
    · subst h
      exact ⟨1, 0, by simp⟩
    · obtain ⟨u, v, e⟩ := ih (a % b) (Nat.mod_lt _ h) b
      refine ⟨v, u - (a / b : Nat) * v, ?_⟩
      have g : Nat.gcd a b = Nat.gcd b (a % b) := by rw [Nat.gcd_comm a b, Nat.gcd_rec b a, Nat.gcd_comm]
      rw [g, ← e]
      have d : (a : Int) = b * (a / b : Nat) + (a % b : Nat) := by
        have := Nat.div_add_mod a b
        omega
      generalize ((a / b : Nat) : Int) = q at *
      generalize ((a % b : Nat) : Int) = r at *
      rw [d]
      grind
theorem crt {s t x y : Int} (hs : 0 ≤ s) (ht : 0 ≤ t) (h : ((Int.gcd s t : Nat) : Int) ∣ x - y) : ∃ z, s ∣ z - x ∧ t ∣ z - y := by
  obtain ⟨u, v, e⟩ := bez t.toNat s.toNat
  obtain ⟨k, hk⟩ := h
  have g : Nat.gcd s.toNat t.toNat = Int.gcd s t := by
    rw [Int.gcd]
    congr 1 <;> omega
  rw [g, show ((s.toNat : Nat) : Int) = s by omega, show ((t.toNat : Nat) : Int) = t by omega] at e
  rw [← e] at hk
  exact ⟨x - s * u * k, ⟨-(u * k), by grind⟩, ⟨v * k, by grind⟩⟩
theorem lift_of_dvd {m L z : Int} (m1 : 1 ≤ m) (L0 : 0 ≤ L) (d : L ∣ m) (h : Int.gcd z L = 1) : ∃ w, Int.gcd w m = 1 ∧ L ∣ w - z := by
  obtain ⟨k, hk⟩ := d
  have L1 : 0 < L := by
    rcases Int.lt_or_eq_of_le L0 with c | c
    · exact c
    · rw [← c, Int.zero_mul] at hk
      omega
  have k0 : 0 < k := by
    rcases Int.lt_or_le 0 k with c | c
    · exact c
    · have := Int.mul_le_mul_of_nonneg_left c (show 0 ≤ L by omega)
      omega
  obtain ⟨w, w1, w2⟩ := unit_lift k.toNat (m := m) (r := z % L) L1 (by rw [hk, show ((k.toNat : Nat) : Int) = k by omega]) (by omega) (mem_uL.mpr ⟨Int.emod_nonneg _ (by omega), Int.emod_lt_of_pos _ L1, QR.cop_emod.mpr h⟩)
  exact ⟨w, w1, QR.dvd_of_emod_eq w2⟩
section
variable {m s t : Int} {R : List Int}
/-- a unit of the whole with given rests, where they agree -/
theorem meet {x y : Int} (m1 : 1 ≤ m) (s1 : 1 ≤ s) (t1 : 1 ≤ t) (hs : s ∣ m) (ht : t ∣ m) (hx : Int.gcd x m = 1) (hy : Int.gcd y m = 1) (d : ((Int.gcd s t : Nat) : Int) ∣ x - y) : ∃ z, Int.gcd z m = 1 ∧ s ∣ z - x ∧ t ∣ z - y := by
  obtain ⟨z, zx, zy⟩ := crt (by omega) (by omega) d
  have hL : ((Int.lcm s t : Nat) : Int) ∣ m := Int.coe_lcm_dvd hs ht
  have sL : s ∣ ((Int.lcm s t : Nat) : Int) := Int.dvd_lcm_left ..
  have tL : t ∣ ((Int.lcm s t : Nat) : Int) := Int.dvd_lcm_right ..
  have Lst : ((Int.lcm s t : Nat) : Int) ∣ s * t := Int.coe_lcm_dvd (Int.dvd_mul_right ..) (Int.dvd_mul_left ..)
  have lcm0 : (0 : Int) ≤ ((Int.lcm s t : Nat) : Int) := by omega
  generalize ((Int.lcm s t : Nat) : Int) = L at *
  have cz : Int.gcd z L = 1 := QR.cop_iff.mpr fun p hp a b => by
    rcases QR.Pm.dvd_mul hp (Int.dvd_trans b Lst) with c | c
    · refine QR.cop_iff.mp hx p hp ?_ (Int.dvd_trans c hs)
      have := Int.dvd_sub a (Int.dvd_trans c zx)
      rwa [show z - (z - x) = x by omega] at this
    · refine QR.cop_iff.mp hy p hp ?_ (Int.dvd_trans c ht)
      have := Int.dvd_sub a (Int.dvd_trans c zy)
      rwa [show z - (z - y) = y by omega] at this
  obtain ⟨w, w1, w2⟩ := lift_of_dvd m1 lcm0 hL cz
  refine ⟨w, w1, ?_, ?_⟩
  · have := Int.dvd_add (Int.dvd_trans sL w2) zx
    rwa [show w - z + (z - x) = w - x by omega] at this
  · have := Int.dvd_add (Int.dvd_trans tL w2) zy
    rwa [show w - z + (z - y) = w - y by omega] at this
/-- what two divisors tell, their common divisor tells -/
theorem Lv.gcd (m1 : 1 ≤ m) (s1 : 1 ≤ s) (t1 : 1 ≤ t) (hs : s ∣ m) (ht : t ∣ m) (a : Lv m R s) (b : Lv m R t) : Lv m R ((Int.gcd s t : Nat) : Int) := by
  intro x y hx hy d
  obtain ⟨w, w1, w2, w3⟩ := meet m1 s1 t1 hs ht hx hy d
  exact (a w x w1 hx w2).symm.trans (b w y w1 hy w3)
theorem Lv.mono (h : Lv m R s) (d : s ∣ t) : Lv m R t := fun x y hx hy e => h x y hx hy (Int.dvd_trans d e)
/-- told ahead of a shortening, told behind it -/
theorem Lv.down {m' : Int} {R' : List Int} (h : Sub m R m' R') (m1 : 1 ≤ m) (p1 : 1 ≤ m') (l : Lv m R s) (d : s ∣ m') : Lv m' R' s := fun x y hx hy e => by
  obtain ⟨u, u1, u2⟩ := lift_of_dvd m1 (by omega) h.dvd hx
  obtain ⟨v, v1, v2⟩ := lift_of_dvd m1 (by omega) h.dvd hy
  have := l u v u1 v1 (by
    have a := Int.dvd_sub (Int.dvd_add (Int.dvd_trans d u2) e) (Int.dvd_trans d v2)
    rwa [show u - x + (x - y) - (v - y) = u - v by omega] at a)
  rw [← h.same u u1, ← h.same v v1, QR.emod_eq_of_dvd u2, QR.emod_eq_of_dvd v2] at this
  exact this
/-- a least modulus divides each that tells as much -/
theorem low_dvd {m' : Int} {R' : List Int} (h : Sub m R m' R') (m1 : 1 ≤ m) (p1 : 1 ≤ m') (low : ∀ q, QR.Pm q → LowAt m' R' q) (t1 : 1 ≤ t) (ht : t ∣ m) (l : Lv m R t) : m' ∣ t := by
  have lm : Lv m R m' := fun x y hx hy e => by rw [← h.same x hx, ← h.same y hy, QR.emod_eq_of_dvd e]
  have lg := Lv.gcd m1 p1 t1 h.dvd ht lm l
  have gd : ((Int.gcd m' t : Nat) : Int) ∣ m' := Int.gcd_dvd_left ..
  have gt : ((Int.gcd m' t : Nat) : Int) ∣ t := Int.gcd_dvd_right ..
  have g0 : 0 ≤ ((Int.gcd m' t : Nat) : Int) := by omega
  generalize ((Int.gcd m' t : Nat) : Int) = g at *
  obtain ⟨k, hk⟩ := gd
  have k1 : 1 ≤ k := by
    rcases Int.lt_or_le 0 k with c | c
    · omega
    · have := Int.mul_le_mul_of_nonneg_left c g0
      omega
  rcases Int.lt_or_le k 2 with c | c
  · have : k = 1 := by omega
    rw [this, Int.mul_one] at hk
    exact hk ▸ gt
  · exfalso
    obtain ⟨q, hq, qd⟩ := QR.exists_pm k.toNat (by omega)
    rw [show ((k.toNat : Nat) : Int) = k by omega] at qd
    obtain ⟨j, hj⟩ := qd
    have q2 := hq.1
    have e : m' = g * j * q := by rw [hk, hj, Int.mul_assoc, Int.mul_comm q j]
    have md : q ∣ m' := ⟨g * j, by rw [e, Int.mul_comm]⟩
    have mq : m' / q = g * j := Int.ediv_eq_of_eq_mul_left (by omega) e
    refine low q hq md (Lv.down h m1 p1 (Lv.mono lg ⟨j, mq⟩) ⟨q, ?_⟩)
    rw [mq]
    exact e
end
theorem inc_same : ∀ {a b : List Int}, a.Pairwise (· < ·) → b.Pairwise (· < ·) → (∀ k, k ∈ a ↔ k ∈ b) → a = b
  | [], [], _, _, _ => rfl
  | [], y :: b, _, _, h => absurd ((h y).mpr List.mem_cons_self) List.not_mem_nil
  | x :: a, [], _, _, h => absurd ((h x).mp List.mem_cons_self) List.not_mem_nil
  | x :: a, y :: b, ha, hb, h => by
    obtain ⟨a1, a2⟩ := List.pairwise_cons.mp ha
    obtain ⟨b1, b2⟩ := List.pairwise_cons.mp hb
    have e : x = y := by
      rcases List.mem_cons.mp ((h x).mp List.mem_cons_self) with e | m1
      · exact e
      · rcases List.mem_cons.mp ((h y).mpr List.mem_cons_self) with e | m2
        · exact e.symm
        · have := b1 x m1
          have := a1 y m2
          omega
    subst e
    rw [inc_same a2 b2 fun k => ?_]
    constructor
    · intro hk
      rcases List.mem_cons.mp ((h k).mp (List.mem_cons_of_mem _ hk)) with e | z
      · have := a1 k hk
        omega
      · exact z
    · intro hk
      rcases List.mem_cons.mp ((h k).mpr (List.mem_cons_of_mem _ hk)) with e | z
      · have := b1 k hk
        omega
      · exact z
/-- two least descriptions with the same germ and members are one -/
theorem least_unique {M m1 m2 : Int} {R1 R2 S1 S2 : List Int} (M1 : 1 ≤ M) (d1 : m1 ∣ M) (d2 : m2 ∣ M) (l1 : IsLeast m1 R1 S1) (l2 : IsLeast m2 R2 S2) (g : ∀ x, Int.gcd x M = 1 → (x % m1 ∈ R1 ↔ x % m2 ∈ R2)) (mem : ∀ p, QR.OP p → (memP m1 R1 S1 p ↔ memP m2 R2 S2 p)) : m1 = m2 ∧ R1 = R2 ∧ S1 = S2 := by
  have p1 := l1.desc.pos
  have p2 := l2.desc.pos
  have s1 : Sub M ((uL M).filter fun u => decide (u % m1 ∈ R1)) m1 R1 := ⟨d1, fun x hx => by
    rw [List.mem_filter, decide_eq_true_iff, Int.emod_emod_of_dvd x d1]
    exact ⟨fun h => ⟨unit_of (Int.dvd_refl M) (by omega) hx, h⟩, fun h => h.2⟩⟩
  have s2 : Sub M ((uL M).filter fun u => decide (u % m1 ∈ R1)) m2 R2 := ⟨d2, fun x hx => by
    rw [← g x hx, s1.same x hx]⟩
  have lv : ∀ {m' : Int} {R' : List Int}, Sub M ((uL M).filter fun u => decide (u % m1 ∈ R1)) m' R' → Lv M ((uL M).filter fun u => decide (u % m1 ∈ R1)) m' := fun h x y hx hy e => by rw [← h.same x hx, ← h.same y hy, QR.emod_eq_of_dvd e]
  have e : m1 = m2 := Int.le_antisymm (Int.le_of_dvd (by omega) (low_dvd s1 M1 p1 l1.low p2 d2 (lv s2))) (Int.le_of_dvd (by omega) (low_dvd s2 M1 p2 l2.low p1 d1 (lv s1)))
  subst e
  have eR : R1 = R2 := inc_same l1.ri l2.ri fun r => by
    constructor
    · intro hr
      obtain ⟨x, x1, x2⟩ := s1.lift M1 p1 (mem_uL.mpr (l1.desc.rests r hr))
      have := (g x x1).mp (by rw [x2]; exact hr)
      rwa [x2] at this
    · intro hr
      obtain ⟨x, x1, x2⟩ := s1.lift M1 p1 (mem_uL.mpr (l2.desc.rests r hr))
      have := (g x x1).mpr (by rw [x2]; exact hr)
      rwa [x2] at this
  subst eR
  refine ⟨rfl, rfl, inc_same l1.si l2.si fun p => ?_⟩
  by_cases hp : QR.OP p
  · have := mem p hp
    unfold memP at this
    by_cases t : toldP m1 R1 p <;> by_cases a : p ∈ S1 <;> by_cases b : p ∈ S2 <;> simp [t, a, b] at this ⊢
  · exact ⟨fun h => absurd (l1.desc.singles p h) hp, fun h => absurd (l2.desc.singles p h) hp⟩
/-! part m_pool -/
/-- a pool of draws, at most j of them made -/
def PoolAt (H : Hp) (p : Addr) (j : Int) : Prop := ∃ c k b, H p = some (.lst [.int c, .int k, .bl b]) ∧ 0 ≤ k ∧ k ≤ j
theorem PoolAt.new {H : Hp} {p : Addr} {n : Int} {b : Bool} : PoolAt (upd H p (.lst [.int n, .int 0, .bl b])) p 0 := ⟨_, _, _, upd_same, by omega, by omega⟩
/-! part m_k41 -/
theorem mem_every {p : Int} (h : 2 ≤ p) : memP 1 [0] [] p := by
  have : ¬ p ∣ 1 := fun d => by
    have := Int.le_of_dvd (by decide) d
    omega
  simp [memP, toldP, this, Int.emod_one]
theorem mem_none {p : Int} : ¬ memP 1 [] [] p := by simp [memP, toldP]
def RowsOk (ys : List V) (n : Nat) : Prop := ∃ ns : List Int, ys = ns.map V.int ∧ (∀ p ∈ ns, QR.OP p) ∧ ns.length ≤ n
theorem RowsOk.nil : RowsOk [] 0 := ⟨[], rfl, fun p h => absurd h List.not_mem_nil, Nat.le_refl _⟩
theorem RowsOk.put {ys : List V} {n : Nat} {p : Int} (h : RowsOk ys n) (hp : QR.OP p) : RowsOk (ys ++ [.int p]) (n + 1) := by
  obtain ⟨ns, rfl, h1, h2⟩ := h
  refine ⟨ns ++ [p], by rw [List.map_append]; rfl, fun q hq => ?_, by rw [List.length_append, List.length_singleton]; omega⟩
  rcases List.mem_append.mp hq with hq | hq
  · exact h1 q hq
  · rw [List.mem_singleton.mp hq]
    exact hp
theorem RowsOk.skip {ys : List V} {n : Nat} (h : RowsOk ys n) : RowsOk ys (n + 1) := by
  obtain ⟨ns, e, h1, h2⟩ := h
  exact ⟨ns, e, h1, by omega⟩
/-! part m_join -/
/-- a set by what it holds: its modulus divides M, its rests go by g, its primes by P -/
structure Fits (M : Int) (g P : Int → Bool) (m : Int) (R S : List Int) : Prop where
  least : IsLeast m R S
  dvd : m ∣ M
  germ : ∀ x, Int.gcd x M = 1 → decide (x % m ∈ R) = g x
  mem : ∀ p, QR.OP p → decide (memP m R S p) = P p
theorem dec_iff {a b : Prop} [Decidable a] [Decidable b] : decide a = decide b ↔ (a ↔ b) := decide_eq_decide
theorem Fits.eq {M : Int} {g P g' P' : Int → Bool} {m m' : Int} {R S R' S' : List Int} (M1 : 1 ≤ M) (a : Fits M g P m R S) (b : Fits M g' P' m' R' S') (hg : ∀ x, g x = g' x) (hP : ∀ p, P p = P' p) : m = m' ∧ R = R' ∧ S = S' :=
  least_unique M1 a.dvd b.dvd a.least b.least (fun x hx => dec_iff.mp ((a.germ x hx).trans ((hg x).trans (b.germ x hx).symm))) fun p hp => dec_iff.mp ((a.mem p hp).trans ((hP p).trans (b.mem p hp).symm))
/-- two sets joined by a rule -/
structure Comb (J : Bool → Bool → Bool) (m1 : Int) (R1 S1 : List Int) (m2 : Int) (R2 S2 : List Int) (m' : Int) (R' S' : List Int) : Prop where
  least : IsLeast m' R' S'
  dvd : m' ∣ ((Int.lcm m1 m2 : Nat) : Int)
  germ : ∀ x, Int.gcd x ((Int.lcm m1 m2 : Nat) : Int) = 1 → decide (x % m' ∈ R') = J (decide (x % m1 ∈ R1)) (decide (x % m2 ∈ R2))
  mem : ∀ p, QR.OP p → decide (memP m' R' S' p) = J (decide (memP m1 R1 S1 p)) (decide (memP m2 R2 S2 p))
  few : S'.length ≤ S1.length + S2.length + 111
  src : ∀ p ∈ S', p ∈ S1 ∨ p ∈ S2 ∨ p ∣ ((Int.lcm m1 m2 : Nat) : Int)
theorem Comb.fits {J : Bool → Bool → Bool} {M : Int} {g1 P1 g2 P2 : Int → Bool} {m1 m2 m' : Int} {R1 S1 R2 S2 R' S' : List Int} (c : Comb J m1 R1 S1 m2 R2 S2 m' R' S') (a : Fits M g1 P1 m1 R1 S1) (b : Fits M g2 P2 m2 R2 S2) : Fits M (fun x => J (g1 x) (g2 x)) (fun p => J (P1 p) (P2 p)) m' R' S' := by
  have d : ((Int.lcm m1 m2 : Nat) : Int) ∣ M := Int.coe_lcm_dvd a.dvd b.dvd
  exact ⟨c.least, Int.dvd_trans c.dvd d, fun x hx => by rw [c.germ x (QR.cop_dvd_right hx d), a.germ x hx, b.germ x hx], fun p hp => by rw [c.mem p hp, a.mem p hp, b.mem p hp]⟩
/-- the others -/
structure Inv (m : Int) (R S : List Int) (m' : Int) (R' S' : List Int) : Prop where
  least : IsLeast m' R' S'
  dvd : m' ∣ m
  germ : ∀ x, Int.gcd x m = 1 → decide (x % m' ∈ R') = !decide (x % m ∈ R)
  mem : ∀ p, QR.OP p → decide (memP m' R' S' p) = !decide (memP m R S p)
  few : S'.length ≤ S.length + 111
  src : ∀ p ∈ S', p ∈ S ∨ p ∣ m
theorem Inv.fits {M : Int} {g P : Int → Bool} {m m' : Int} {R S R' S' : List Int} (c : Inv m R S m' R' S') (a : Fits M g P m R S) : Fits M (fun x => !g x) (fun p => !P p) m' R' S' :=
  ⟨c.least, Int.dvd_trans c.dvd a.dvd, fun x hx => by rw [c.germ x (QR.cop_dvd_right hx a.dvd), a.germ x hx], fun p hp => by rw [c.mem p hp, a.mem p hp]⟩
theorem Made.fits {M m m' : Int} {R S R' S' : List Int} (h : Made m R S m' R' S') (d : m ∣ M) : Fits M (fun x => decide (x % m ∈ R)) (fun p => decide (memP m R S p)) m' R' S' :=
  ⟨h.least, Int.dvd_trans h.sub.dvd d, fun x hx => dec_iff.mpr (h.sub.same x (QR.cop_dvd_right hx d)), fun p hp => dec_iff.mpr (h.mem p (.inl hp))⟩
theorem IsLeast.fits {M m : Int} {R S : List Int} (h : IsLeast m R S) (d : m ∣ M) : Fits M (fun x => decide (x % m ∈ R)) (fun p => decide (memP m R S p)) m R S := ⟨h, d, fun _ _ => rfl, fun _ _ => rfl⟩
/-- the rests and singles that joining works out -/
def jR (J : Bool → Bool → Bool) (L m1 : Int) (R1 : List Int) (m2 : Int) (R2 : List Int) : List Int := (uL L).filter fun r => J (decide (r % m1 ∈ R1)) (decide (r % m2 ∈ R2))
/-- a prime whose side rests do not tell -/
def jT (J : Bool → Bool → Bool) (L m1 : Int) (R1 S1 : List Int) (m2 : Int) (R2 S2 : List Int) (p : Int) : Bool := J (decide (memP m1 R1 S1 p)) (decide (memP m2 R2 S2 p)) != decide (toldP L (jR J L m1 R1 m2 R2) p)
section
variable {J : Bool → Bool → Bool} {L m1 m2 m' : Int} {R1 S1 R2 S2 R' S' C : List Int}
theorem lcm_quot {a b : Int} (ha : 1 ≤ a) (hb : 1 ≤ b) : a * b / ((Int.gcd a b : Nat) : Int) = ((Int.lcm a b : Nat) : Int) := by
  have e : ((Int.gcd a b : Nat) : Int) * ((Int.lcm a b : Nat) : Int) = a * b := by
    have := Int.gcd_mul_lcm a b
    rw [← Int.natCast_mul, this, Int.natCast_mul]
    congr 1 <;> omega
  have g : (0 : Int) < ((Int.gcd a b : Nat) : Int) := by
    have : Int.gcd a b ≠ 0 := fun z => by
      have := (Int.gcd_eq_zero_iff.mp z).1
      omega
    omega
  rw [← e, Int.mul_ediv_cancel_left _ (by omega)]
theorem lcm_pos {a b : Int} (ha : 1 ≤ a) (hb : 1 ≤ b) : 1 ≤ ((Int.lcm a b : Nat) : Int) := by
  have : Int.lcm a b ≠ 0 := by
    intro z
    rw [Int.lcm_eq_zero_iff] at z
    omega
  omega
theorem mem_jR {r : Int} : r ∈ jR J L m1 R1 m2 R2 ↔ r ∈ uL L ∧ J (decide (r % m1 ∈ R1)) (decide (r % m2 ∈ R2)) = true := by
  unfold jR
  rw [List.mem_filter]
theorem emod_div {x a L : Int} (d : a ∣ L) : x % L % a = x % a := Int.emod_emod_of_dvd x d
theorem memP_off {m p : Int} {R S : List Int} (d : ¬ p ∣ m) (s : p ∉ S) : decide (memP m R S p) = decide (p % m ∈ R) := by
  refine dec_iff.mpr ?_
  unfold memP toldP
  simp [d, s]
/-- joining by a common multiple: C holds the primes that rests may not decide -/
theorem comb_of (hL : L = ((Int.lcm m1 m2 : Nat) : Int)) (p1 : 1 ≤ m1) (p2 : 1 ≤ m2) (hC : ∀ p, QR.OP p → (p ∈ C ↔ p ∣ L ∨ p ∈ S1 ∨ p ∈ S2))
    (md : Made L (jR J L m1 R1 m2 R2) (C.filter (jT J L m1 R1 S1 m2 R2 S2)) m' R' S')
    (hc : ∀ p ∈ C, QR.OP p) (few : C.length ≤ S1.length + S2.length + 100) : Comb J m1 R1 S1 m2 R2 S2 m' R' S' := by
  have L1 : 1 ≤ L := by rw [hL]; exact lcm_pos p1 p2
  have d1 : m1 ∣ L := by rw [hL]; exact Int.dvd_lcm_left ..
  have d2 : m2 ∣ L := by rw [hL]; exact Int.dvd_lcm_right ..
  have gj : ∀ x, Int.gcd x L = 1 → decide (x % L ∈ jR J L m1 R1 m2 R2) = J (decide (x % m1 ∈ R1)) (decide (x % m2 ∈ R2)) := fun x hx => by
    have u : x % L ∈ uL L := mem_uL.mpr ⟨Int.emod_nonneg _ (by omega), Int.emod_lt_of_pos _ (by omega), QR.cop_emod.mpr hx⟩
    have e : (x % L ∈ jR J L m1 R1 m2 R2) ↔ J (decide (x % m1 ∈ R1)) (decide (x % m2 ∈ R2)) = true := by
      rw [mem_jR, emod_div d1, emod_div d2]
      exact ⟨fun z => z.2, fun z => ⟨u, z⟩⟩
    cases h : J (decide (x % m1 ∈ R1)) (decide (x % m2 ∈ R2)) with
    | true => exact decide_eq_true (e.mpr h)
    | false => exact decide_eq_false fun z => by rw [e.mp z] at h; cases h
  refine ⟨md.least, by rw [← hL]; exact md.sub.dvd, fun x hx => ?_, fun p hp => ?_, ?_, fun p hp => ?_⟩
  · rw [← hL] at hx
    rw [dec_iff.mpr (md.sub.same x hx), gj x hx]
  · rw [dec_iff.mpr (md.mem p (.inl hp))]
    by_cases c : p ∈ C
    · have e : (p ∈ C.filter (jT J L m1 R1 S1 m2 R2 S2)) ↔ (J (decide (memP m1 R1 S1 p)) (decide (memP m2 R2 S2 p)) != decide (toldP L (jR J L m1 R1 m2 R2) p)) = true := by
        rw [List.mem_filter]
        exact ⟨fun z => z.2, fun z => ⟨c, z⟩⟩
      have e2 : decide (memP L (jR J L m1 R1 m2 R2) (C.filter (jT J L m1 R1 S1 m2 R2 S2)) p) = decide (¬ (toldP L (jR J L m1 R1 m2 R2) p ↔ (J (decide (memP m1 R1 S1 p)) (decide (memP m2 R2 S2 p)) != decide (toldP L (jR J L m1 R1 m2 R2) p)) = true)) := dec_iff.mpr (not_congr (iff_congr Iff.rfl e))
      rw [e2]
      clear e e2
      generalize J (decide (memP m1 R1 S1 p)) (decide (memP m2 R2 S2 p)) = j
      by_cases t : toldP L (jR J L m1 R1 m2 R2) p <;> cases j <;> simp [t]
    · have n := fun z => c ((hC p hp).mpr z)
      have dL : ¬ p ∣ L := fun z => n (.inl z)
      rw [memP_off dL fun z => c (List.mem_filter.mp z).1, memP_off (fun z => dL (Int.dvd_trans z d1)) fun z => n (.inr (.inl z)), memP_off (fun z => dL (Int.dvd_trans z d2)) fun z => n (.inr (.inr z)), gj p ((QR.pm_cop hp.1).mpr dL)]
  · have a := md.few
    have b := List.length_filter_le (jT J L m1 R1 S1 m2 R2 S2) C
    omega
  · rw [← hL]
    rcases md.src p hp with z | z
    · have c := (List.mem_filter.mp z).1
      rcases (hC p (hc p c)).mp c with y | y | y
      · exact .inr (.inr y)
      · exact .inl y
      · exact .inr (.inl y)
    · exact .inr (.inr z)
end
/-- a set as a least description of fair size -/
structure SetOk (m : Int) (R S : List Int) : Prop where
  least : IsLeast m R S
  le : m ≤ 4000
  few : S.length ≤ 1000
  small : ∀ p ∈ S, p < 2 ^ 120
theorem least_len {m : Int} {R S : List Int} (h : IsLeast m R S) (le : m ≤ 4000) : R.length ≤ 4000 := by
  refine nodup_le (M := 4000) (h.ri.imp fun h => by omega) fun k hk => ?_
  have := h.desc.rests k hk
  omega
theorem filt_snoc_t {α : Type} {p : α → Bool} {l : List α} {x : α} (h : p x = true) : (l ++ [x]).filter p = l.filter p ++ [x] := by simp [h]
theorem filt_snoc_f {α : Type} {p : α → Bool} {l : List α} {x : α} (h : p x = false) : (l ++ [x]).filter p = l.filter p := by simp [h]
/-- Fits, of a fair size -/
structure Pf (M : Int) (n : Nat) (g P : Int → Bool) (m : Int) (R S : List Int) : Prop where
  fits : Fits M g P m R S
  few : S.length ≤ n
  small : ∀ p ∈ S, p < 2 ^ 120
section
variable {M m1 m2 m' m : Int} {n n1 n2 : Nat} {g P g1 P1 g2 P2 : Int → Bool} {R S R1 S1 R2 S2 R' S' : List Int}
theorem Pf.ok (h : Pf M n g P m R S) (M1 : 1 ≤ M) (M4 : M ≤ 4000) (hn : n ≤ 1000) : SetOk m R S :=
  ⟨h.fits.least, Int.le_trans (Int.le_of_dvd (by omega) h.fits.dvd) M4, Nat.le_trans h.few hn, h.small⟩
theorem lcm_le (M1 : 1 ≤ M) (a : m1 ∣ M) (b : m2 ∣ M) : ((Int.lcm m1 m2 : Nat) : Int) ≤ M := Int.le_of_dvd (by omega) (Int.coe_lcm_dvd a b)
theorem Comb.pf {J : Bool → Bool → Bool} (c : Comb J m1 R1 S1 m2 R2 S2 m' R' S') (a : Pf M n1 g1 P1 m1 R1 S1) (b : Pf M n2 g2 P2 m2 R2 S2) (M1 : 1 ≤ M) (M4 : M ≤ 4000) : Pf M (n1 + n2 + 111) (fun x => J (g1 x) (g2 x)) (fun p => J (P1 p) (P2 p)) m' R' S' := by
  refine ⟨c.fits a.fits b.fits, ?_, fun p hp => ?_⟩
  · have := c.few
    have := a.few
    have := b.few
    omega
  · have l := lcm_le M1 a.fits.dvd b.fits.dvd
    have p1 := lcm_pos a.fits.least.desc.pos b.fits.least.desc.pos
    rcases c.src p hp with z | z | z
    · exact a.small p z
    · exact b.small p z
    · have := Int.le_of_dvd (by omega) z
      omega
theorem Inv.pf (c : Inv m R S m' R' S') (a : Pf M n g P m R S) (M1 : 1 ≤ M) (M4 : M ≤ 4000) : Pf M (n + 111) (fun x => !g x) (fun p => !P p) m' R' S' := by
  refine ⟨c.fits a.fits, ?_, fun p hp => ?_⟩
  · have := c.few
    have := a.few
    omega
  · have l := Int.le_of_dvd (by omega) a.fits.dvd
    have p1 := a.fits.least.desc.pos
    rcases c.src p hp with z | z
    · exact a.small p z
    · have := Int.le_of_dvd (by omega) z
      omega
theorem Made.pf (h : Made m R S m' R' S') (d : m ∣ M) (m1 : 1 ≤ m) (m4 : m ≤ 4000) (few : S.length ≤ n) (small : ∀ p ∈ S, p < 2 ^ 120) : Pf M (n + 11) (fun x => decide (x % m ∈ R)) (fun p => decide (memP m R S p)) m' R' S' := by
  refine ⟨h.fits d, ?_, fun p hp => ?_⟩
  · have := h.few
    omega
  · rcases h.src p hp with z | z
    · exact small p z
    · have := Int.le_of_dvd (by omega) z
      omega
theorem Pf.imp {g' P' : Int → Bool} (h : Pf M n g P m R S) (hg : ∀ x, Int.gcd x M = 1 → g x = g' x) (hP : ∀ p, QR.OP p → P p = P' p) : Pf M n g' P' m R S := ⟨⟨h.fits.least, h.fits.dvd, fun x hx => (h.fits.germ x hx).trans (hg x hx), fun p hp => (h.fits.mem p hp).trans (hP p hp)⟩, h.few, h.small⟩
theorem Pf.eq (M1 : 1 ≤ M) (a : Pf M n1 g1 P1 m1 R1 S1) (b : Pf M n2 g2 P2 m2 R2 S2) (hg : ∀ x, g1 x = g2 x) (hP : ∀ p, P1 p = P2 p) : decide (m1 = m2 ∧ R1 = R2 ∧ S1 = S2) = true := decide_eq_true (a.fits.eq M1 b.fits hg hP)
theorem least_nil : IsLeast 1 [] [] := ⟨⟨by decide, fun r h => absurd h List.not_mem_nil, fun p h => absurd h List.not_mem_nil⟩, List.Pairwise.nil, List.Pairwise.nil, fun q hq d => by
  have := Int.le_of_dvd (by decide) d
  have := hq.1
  omega⟩
/-- nothing is in it: no rests, no singles -/
theorem Pf.nil (M1 : 1 ≤ M) (a : Pf M n g P m R S) (hg : ∀ x, g x = false) (hP : ∀ p, P p = false) : R = [] ∧ S = [] := by
  have b : Fits M (fun _ => false) (fun _ => false) 1 [] [] := ⟨least_nil, Int.one_dvd _, fun x _ => by simp, fun p _ => decide_eq_false mem_none⟩
  exact (a.fits.eq M1 b hg hP).2
end
/-! part m_k42 -/
def pLst : List Int := [3, 5, 7, 11, 13, 17, 19, 23, 29, 31, 37, 41, 43, 47, 53, 59]
/-- the least description, as this law finds it -/
structure LowRow (m : Int) (R S : List Int) (d : Int) (L T : List Int) : Prop where
  dvd : d ∣ m
  pos : 1 ≤ d
  first : ∀ e, 1 ≤ e → e < d → e ∣ m → ¬ Lv m R e
  short : Short m R d L
  odd : ∀ p, p ∈ T ↔ p ∈ pLst ∧ ¬ (memP m R S p ↔ toldP d L p)
  inc : T.Pairwise (· < ·)
/-- the same set by a multiple of the modulus -/
structure WideRow (m : Int) (R S : List Int) (f : Int) (L T : List Int) : Prop where
  rests : L = (uL (m * f)).filter fun u => decide (u % m ∈ R)
  odd : ∀ p, p ∈ T ↔ p ∈ pLst ∧ ¬ (memP m R S p ↔ toldP (m * f) L p)
  inc : T.Pairwise (· < ·)
  len : T.length ≤ 16
theorem op3 {p : Int} (hp : QR.OP p) : 3 ≤ p := by
  have := hp.1.1
  have := hp.2
  omega
theorem pLst_all {p : Int} (hp : QR.OP p) (h : p ≤ 60) : p ∈ pLst := by
  have h3 := op3 hp
  have key : ∀ n : Nat, n < 61 → 3 ≤ n → (n : Int) ∈ pLst ∨ n % 2 = 0 ∨ ∃ q, q < n ∧ 2 ≤ q ∧ n % q = 0 := by decide
  obtain ⟨n, rfl⟩ : ∃ n : Nat, p = n := ⟨p.toNat, by omega⟩
  rcases key n (by omega) (by omega) with z | z | ⟨q, q1, q2, q3⟩
  · exact z
  · have := hp.2
    omega
  · exact absurd (Int.ofNat_dvd.mpr (Nat.dvd_of_mod_eq_zero q3)) (hp.1.2 (q : Int) (by omega) (by omega))
theorem pLst_op : ∀ p ∈ pLst, QR.OP p := by
  have q : ∀ p ∈ pLst, p = ((p.toNat : Nat) : Int) ∧ 3 ≤ p.toNat ∧ p.toNat % 2 = 1 ∧ ((List.range 9).any fun k => p.toNat < k * k && (List.range k).all fun d => d < 2 || p.toNat % d != 0) = true := by decide +kernel
  intro p hp
  obtain ⟨e, a, b, c⟩ := q p hp
  obtain ⟨k, _, hk⟩ := List.any_eq_true.mp c
  rw [Bool.and_eq_true] at hk
  rw [e]
  exact QR.op_by k a b (of_decide_eq_true hk.1) hk.2
section
variable {m m' d f r : Int} {R S R' S' L T R2 S2 : List Int}
theorem Sub.rests (a : Sub m R m' R') (b : Sub m R m' L) (m1 : 1 ≤ m) (p1 : 1 ≤ m') (ha : R'.Pairwise (· < ·)) (hb : L.Pairwise (· < ·)) (u : ∀ r ∈ R', r ∈ uL m') (v : ∀ r ∈ L, r ∈ uL m') : R' = L := inc_same ha hb fun r => by
  constructor
  · intro hr
    obtain ⟨x, x1, x2⟩ := a.lift m1 p1 (u r hr)
    have := (b.same x x1).mpr ((a.same x x1).mp (by rw [x2]; exact hr))
    rwa [x2] at this
  · intro hr
    obtain ⟨x, x1, x2⟩ := a.lift m1 p1 (v r hr)
    have := (a.same x x1).mpr ((b.same x x1).mp (by rw [x2]; exact hr))
    rwa [x2] at this
theorem Sub.lv (h : Sub m R m' R') : Lv m R m' := fun x y hx hy e => by rw [← h.same x hx, ← h.same y hy, QR.emod_eq_of_dvd e]
theorem Made.low (h : Made m R S m' R' S') (l : LowRow m R S d L T) (m1 : 1 ≤ m) (m6 : m ≤ 60) (hS : ∀ p ∈ S, p ∈ pLst) : m' = d ∧ R' = L ∧ S' = T := by
  have p1 := h.least.desc.pos
  have e : m' = d := by
    have a := Int.le_of_dvd (by have := l.pos; omega) (low_dvd h.sub m1 p1 h.least.low l.pos l.dvd l.short.lv)
    rcases Int.lt_or_eq_of_le a with z | z
    · exact absurd h.sub.lv (l.first m' p1 z h.sub.dvd)
    · exact z
  subst e
  have eR : R' = L := Sub.rests h.sub (l.short.sub l.dvd) m1 p1 h.least.ri l.short.inc (fun r hr => mem_uL.mpr (h.least.desc.rests r hr)) l.short.mem
  subst eR
  refine ⟨rfl, rfl, inc_same h.least.si l.inc fun p => ?_⟩
  rw [l.odd]
  constructor
  · intro hp
    have op := h.least.desc.singles p hp
    refine ⟨(h.src p hp).elim (hS p) fun z => pLst_all op (by have := Int.le_of_dvd (by omega) z; omega), ?_⟩
    rw [← h.mem p (.inl op)]
    simp [memP, hp]
  · rintro ⟨hp, z⟩
    rw [← h.mem p (.inl (pLst_op p hp))] at z
    unfold memP at z
    by_cases t : toldP m' R' p <;> by_cases s : p ∈ S' <;> simp [t, s] at z ⊢
theorem memP_wide (w : WideRow m R S f L T) (m1 : 1 ≤ m) (f1 : 1 ≤ f) (m6 : m ≤ 60) (f6 : f ≤ 12) (hS : ∀ p ∈ S, p ∈ pLst) {p : Int} (hp : QR.OP p) : memP (m * f) L T p ↔ memP m R S p := by
  by_cases c : p ∈ pLst
  · have := w.odd p
    unfold memP at this ⊢
    by_cases t : toldP (m * f) L p <;> by_cases s : p ∈ T <;> by_cases u : toldP m R p <;> by_cases v : p ∈ S <;> simp [t, s, u, v, c] at this ⊢
  · have h60 : 60 < p := by
      rcases Int.lt_or_le 60 p with z | z
      · exact z
      · exact absurd (pLst_all hp z) c
    have nT : p ∉ T := fun z => c ((w.odd p).mp z).1
    have nS : p ∉ S := fun z => c (hS p z)
    have nm : ¬ p ∣ m := fun z => by have := Int.le_of_dvd (by omega) z; omega
    have nf : ¬ p ∣ f := fun z => by have := Int.le_of_dvd (by omega) z; omega
    have nmf : ¬ p ∣ m * f := fun z => (QR.Pm.dvd_mul hp.1 z).elim nm nf
    have mf : 1 ≤ m * f := Int.mul_pos (show 0 < m by omega) (show 0 < f by omega)
    have cu : p % (m * f) ∈ uL (m * f) := unit_of (Int.dvd_refl _) (by omega) ((QR.pm_cop hp.1).mpr nmf)
    have eT : toldP (m * f) L p ↔ toldP m R p := by
      unfold toldP
      rw [w.rests, List.mem_filter, decide_eq_true_iff, Int.emod_emod_of_dvd p ⟨f, rfl⟩]
      simp [nm, nmf, cu]
    unfold memP
    rw [eT]
    simp [nT, nS]
theorem WideRow.made {m2 : Int} (w : WideRow m R S f L T) (h : Made m R S m' R' S') (k : Made (m * f) L T m2 R2 S2) (m1 : 1 ≤ m) (f1 : 1 ≤ f) (m6 : m ≤ 60) (f6 : f ≤ 12) (hS : ∀ p ∈ S, p ∈ pLst) : m' = m2 ∧ R' = R2 ∧ S' = S2 := by
  have mf : 1 ≤ m * f := Int.mul_pos (show 0 < m by omega) (show 0 < f by omega)
  refine least_unique mf (Int.dvd_trans h.sub.dvd ⟨f, rfl⟩) k.sub.dvd h.least k.least (fun x hx => ?_) fun p hp => ?_
  · rw [h.sub.same x (QR.cop_dvd_right hx ⟨f, rfl⟩), k.sub.same x hx, w.rests, List.mem_filter, decide_eq_true_iff, Int.emod_emod_of_dvd x ⟨f, rfl⟩]
    exact ⟨fun z => ⟨unit_of (Int.dvd_refl _) (by omega) hx, z⟩, fun z => z.2⟩
  · rw [h.mem p (.inl hp), k.mem p (.inl hp), memP_wide w m1 f1 m6 f6 hS hp]
theorem WideRow.op (w : WideRow m R S f L T) : ∀ p ∈ T, QR.OP p ∧ p < 2 ^ 120 := fun p hp => by
  have h := ((w.odd p).mp hp).1
  refine ⟨pLst_op p h, ?_⟩
  have : ∀ p ∈ pLst, p < (2 : Int) ^ 120 := by decide +kernel
  exact this p h
/-- the same rests and singles, the same set -/
theorem Made.same {m2 : Int} {R0 S0 : List Int} (h : Made m R S m' R' S') (k : Made m R2 S2 m2 R0 S0) (m1 : 1 ≤ m) (e1 : SameL R R2) (e2 : SameL S S2) : m' = m2 ∧ R' = R0 ∧ S' = S0 :=
  least_unique m1 h.sub.dvd k.sub.dvd h.least k.least (fun x hx => by rw [h.sub.same x hx, k.sub.same x hx, e1]) fun p hp => by
    rw [h.mem p (.inl hp), k.mem p (.inl hp), memP_congr e1 e2]
end
/-! part m_chi -/
/-- the modulus on which the sign of a number without square divisors depends -/
def cond (s : Int) : Int := if s % 4 = 1 then (s.natAbs : Int) else 4 * (s.natAbs : Int)
def oddOf (D r : Int) : Int := if r % 2 = 0 then r + D else r
def chi (s D r : Int) : Int := sgn s (oddOf D r)
section
variable {s a b D x : Int}
theorem cond_pos (h : s ≠ 0) : 1 ≤ cond s := by
  unfold cond
  split <;> omega
theorem sgn_flip {t m : Int} (t1 : 1 ≤ t) (t2 : t % 4 = 3) (m1 : 1 ≤ m) (m2 : m % 2 = 1) : sgn (-t) m = sgn m t := by
  rw [show -t = -1 * t by omega, sgn_mul m1 m2, sgn_neg1 m1 m2, sgn_turn m1 m2 t1 (by omega)]
  have : m % 4 = 1 ∨ m % 4 = 3 := by omega
  rcases this with h | h
  · rw [h, if_neg (by omega)]
    omega
  · rw [h, if_pos ⟨rfl, t2⟩]
    omega
theorem sgn_keep {t m : Int} (t1 : 1 ≤ t) (t2 : t % 4 = 1) (m1 : 1 ≤ m) (m2 : m % 2 = 1) : sgn t m = sgn m t := by
  rw [sgn_turn m1 m2 t1 (by omega), if_neg (by omega)]
  omega
/-- the sign depends on the clock modulo the conductor -/
theorem sgn_cond (h : s ≠ 0) (a1 : 1 ≤ a) (a2 : a % 2 = 1) (b1 : 1 ≤ b) (b2 : b % 2 = 1) (d : cond s ∣ a - b) : sgn s a = sgn s b := by
  unfold cond at d
  rcases Int.lt_or_le 0 s with p | p
  · rw [show (s.natAbs : Int) = s by omega] at d
    split at d
    · rename_i e
      rw [sgn_keep (by omega) e a1 a2, sgn_keep (by omega) e b1 b2]
      exact sgn_congr (by omega) (by omega) d
    · exact sgn_per (by omega) a1 a2 b1 b2 d
  · rw [show (s.natAbs : Int) = -s by omega] at d
    have e0 : s = -(-s) := by omega
    split at d
    · rename_i e
      rw [e0, sgn_flip (by omega) (by omega) a1 a2, sgn_flip (by omega) (by omega) b1 b2]
      exact sgn_congr (by omega) (by omega) d
    · rw [e0]
      exact sgn_perN (by omega) a1 a2 b1 b2 d
theorem oddOf_odd (x : Int) (o : x % 2 = 1 ∨ cond s % 2 = 1) : oddOf (cond s) (x % cond s) % 2 = 1 := by
  unfold oddOf
  by_cases e : cond s % 2 = 0
  · have : x % cond s % 2 = 1 := by
      have d : (2 : Int) ∣ cond s := Int.dvd_of_emod_eq_zero e
      rw [Int.emod_emod_of_dvd x d]
      omega
    rw [if_neg (by omega)]
    exact this
  · split <;> omega
theorem oddOf_pos (h : s ≠ 0) (o : x % 2 = 1 ∨ cond s % 2 = 1) : 1 ≤ oddOf (cond s) (x % cond s) := by
  have c := cond_pos h
  have a := oddOf_odd (s := s) x o
  have b := Int.emod_nonneg x (show cond s ≠ 0 by omega)
  unfold oddOf at *
  split at a <;> split <;> omega
theorem oddOf_dvd (x : Int) : cond s ∣ x - oddOf (cond s) (x % cond s) := by
  have e := QR.dvd_sub_emod x (cond s)
  unfold oddOf
  split
  · rw [show x - (x % cond s + cond s) = x - x % cond s - cond s by omega]
    exact Int.dvd_sub e (Int.dvd_refl _)
  · exact e
theorem chi_eq (h : s ≠ 0) (x1 : 1 ≤ x) (x2 : x % 2 = 1) : chi s (cond s) (x % cond s) = sgn s x :=
  (sgn_cond h x1 x2 (oddOf_pos h (.inl x2)) (oddOf_odd x (.inl x2)) (oddOf_dvd x)).symm
theorem cond_dvd (s : Int) : s ∣ cond s := by
  have : s ∣ (s.natAbs : Int) := Int.dvd_natAbs.mpr (Int.dvd_refl s)
  unfold cond
  split
  · exact this
  · exact Int.dvd_mul_of_dvd_right this
theorem cop_odd (c : Int.gcd x (cond s) = 1) : x % 2 = 1 ∨ cond s % 2 = 1 := by
  rcases Int.emod_two_eq x with e | e
  · right
    rcases Int.emod_two_eq (cond s) with e2 | e2
    · exfalso
      exact QR.cop_iff.mp c 2 QR.pm_two (Int.dvd_of_emod_eq_zero e) (Int.dvd_of_emod_eq_zero e2)
    · exact e2
  · exact .inl e
/-- a unit has a sign -/
theorem chi_pm (h : s ≠ 0) (c : Int.gcd x (cond s) = 1) : chi s (cond s) (x % cond s) = 1 ∨ chi s (cond s) (x % cond s) = -1 := by
  have o := cop_odd c
  refine sgn_pm (oddOf_pos h o) (oddOf_odd x o) ?_
  have c2 : Int.gcd (oddOf (cond s) (x % cond s)) (cond s) = 1 := (QR.cop_congr (oddOf_dvd x)).mp c
  rw [Int.gcd_comm]
  exact QR.cop_dvd_right c2 (cond_dvd s)
end
/-! part m_chi2 -/
/-! part m_chi3 -/
/-! part m_k76 -/
theorem exists_core0 : ∀ (k : Nat) (n : Int), n.natAbs ≤ k → n ≠ 0 → ∃ s r, CoreOk n s r := by
  intro k
  induction k with
  | zero => intro n h h0; omega
  | succ k ih =>
    intro n h h0
    by_cases c : ∃ j : Int, 2 ≤ j ∧ j * j ∣ n
    · obtain ⟨j, j2, m, rfl⟩ := c
      have m0 : m ≠ 0 := fun z => h0 (by rw [z, Int.mul_zero])
      have : 2 * 2 ≤ j * j := Int.mul_le_mul j2 j2 (by decide) (by omega)
      have e : ((j * j * m).natAbs : Int) = j * j * (m.natAbs : Int) := by
        rw [Int.natAbs_mul, Int.natCast_mul, show (((j * j).natAbs : Nat) : Int) = j * j by omega]
      have : 4 * (m.natAbs : Int) ≤ j * j * (m.natAbs : Int) := Int.mul_le_mul_of_nonneg_right (by omega) (by omega)
      obtain ⟨s, r, c⟩ := ih m (by omega) m0
      exact ⟨s, r * j, by rw [← c.prod]; grind, Int.mul_pos (by have := c.pos; omega) (by omega), c.free⟩
    · exact ⟨n, 1, by omega, by decide, fun j j2 z => c ⟨j, j2, z⟩⟩
theorem exists_core {n : Int} (h : n ≠ 0) : ∃ s r, CoreOk n s r := exists_core0 _ n (Nat.le_refl _) h
/-! part m_count2 -/
theorem cond_cop {s p : Int} (op : QR.OP p) (h : ¬ p ∣ s) : Int.gcd p (cond s) = 1 := (QR.pm_cop op.1).mpr fun z => by
  have h3 := op.three
  unfold cond at z
  split at z
  · exact h (Int.dvd_natAbs.mp z)
  · rcases op.1.dvd_mul z with z | z
    · rcases op.1.dvd_mul (show p ∣ 2 * 2 from z) with z | z <;> have := Int.le_of_dvd (by decide) z <;> omega
    · exact h (Int.dvd_natAbs.mp z)
theorem sgn_cor {n s r p : Int} (c : CoreOk n s r) (hp : QR.OP p) (h : ¬ p ∣ n) : sgn n p = sgn s p := by
  have p3 := hp.three
  have hr : ¬ p ∣ r := fun z => h (by rw [← c.prod]; exact Int.dvd_mul_of_dvd_right z)
  rw [← c.prod, Int.mul_assoc, sgn_mul (by omega) hp.2, sgn_mul (by omega) hp.2 r r, sgn_sq (by omega) hp.2, if_pos, Int.mul_one]
  rw [Int.gcd_comm]
  exact (QR.pm_cop hp.1).mpr hr
theorem take_uL {m r : Int} {i : Nat} (h : (uL m)[i]? = some r) : (uL m).take (i + 1) = (uL m).take i ++ [r] ∧ r ∉ (uL m).take i ∧ r ∈ uL m := by
  have e : (uL m).take (i + 1) = (uL m).take i ++ [r] := by rw [List.take_add_one, h]; rfl
  refine ⟨e, fun z => ?_, List.mem_of_getElem? h⟩
  have g := uL_nodup (m := m)
  rw [← List.take_append_drop (i + 1) (uL m), e, List.append_assoc] at g
  exact (List.nodup_append.mp g).2.2 r z r List.mem_cons_self rfl
/-! part m_cmb -/
/-- the keys of a dict that a loop fills -/
def keysOf (l : List Int) : List Int := l.foldl keyAdd []
theorem keysOf_snoc {l : List Int} {p : Int} : keysOf (l ++ [p]) = keyAdd (keysOf l) p := by
  unfold keysOf
  rw [List.foldl_append]
  rfl
theorem mem_keyAdd {l : List Int} {p q : Int} : q ∈ keyAdd l p ↔ q ∈ l ∨ q = p := by
  unfold keyAdd
  split
  · rename_i h
    exact ⟨.inl, fun z => z.elim id fun e => by rw [e]; exact h⟩
  · rw [List.mem_append, List.mem_singleton]
theorem keyAdd_len {l : List Int} {p : Int} : (keyAdd l p).length ≤ l.length + 1 := by
  unfold keyAdd
  split
  · omega
  · simp
theorem keyAdd_nodup {l : List Int} {p : Int} (h : l.Nodup) : (keyAdd l p).Nodup := by
  unfold keyAdd
  split
  · exact h
  · rename_i n
    exact List.nodup_append.mpr ⟨h, List.nodup_cons.mpr ⟨List.not_mem_nil, List.nodup_nil⟩, fun a ha b hb e => n (by rw [List.mem_singleton.mp hb] at e; rwa [← e])⟩
theorem keysOf_take {l : List Int} {i : Nat} {p : Int} (h : l[i]? = some p) : keysOf (l.take (i + 1)) = keyAdd (keysOf (l.take i)) p := by
  rw [List.take_add_one, h]
  exact keysOf_snoc
theorem keysOf_all : ∀ {n : Nat} {l : List Int}, l.length = n → (∀ q, q ∈ keysOf l ↔ q ∈ l) ∧ (keysOf l).Nodup ∧ (keysOf l).length ≤ l.length := fun {n} => by
  induction n with
  | zero =>
    intro l h
    rw [List.length_eq_zero_iff.mp h]
    exact ⟨fun q => Iff.rfl, List.nodup_nil, Nat.le_refl _⟩
  | succ n ih =>
    intro l h
    obtain ⟨m, p, rfl⟩ : ∃ m p, l = m ++ [p] := ⟨l.dropLast, l.getLast (fun z => by rw [z] at h; cases h), (List.dropLast_concat_getLast _).symm⟩
    obtain ⟨a, b, c⟩ := ih (l := m) (by rw [List.length_append] at h; simpa using h)
    rw [keysOf_snoc]
    refine ⟨fun q => ?_, keyAdd_nodup b, ?_⟩
    · rw [mem_keyAdd, a, List.mem_append, List.mem_singleton]
    · have := keyAdd_len (l := keysOf m) (p := p)
      rw [List.length_append]
      simp
      omega
theorem mem_keysOf {l : List Int} {q : Int} : q ∈ keysOf l ↔ q ∈ l := (keysOf_all rfl).1 q
theorem keysOf_nodup {l : List Int} : (keysOf l).Nodup := (keysOf_all rfl).2.1
theorem keysOf_len {l : List Int} : (keysOf l).length ≤ l.length := (keysOf_all rfl).2.2
/-- three sums -/
def trC (f : Int) (s t : Int × Int × Int) : Int × Int × Int := (s.1 + f * t.1, s.2.1 + f * t.2.1, s.2.2 + f * t.2.2)
/-- a count and a multiple of another one -/
def cmbC (f : Int) (c d : Ct) : Ct := ⟨((Int.lcm c.m d.m : Nat) : Int), fun r => trC f (c.ln (r % c.m)) (d.ln (r % d.m)), keysOf (c.sp ++ d.sp), fun p => c.val p + f * d.val p⟩
theorem uL_down {r L m : Int} (m1 : 1 ≤ m) (h : r ∈ uL L) (d : m ∣ L) : r % m ∈ uL m := by
  obtain ⟨_, _, h3⟩ := mem_uL.mp h
  exact mem_uL.mpr ⟨Int.emod_nonneg _ (by omega), Int.emod_lt_of_pos _ (by omega), QR.cop_emod.mpr (QR.cop_dvd_right h3 d)⟩
theorem lcm_l {a b : Int} : a ∣ ((Int.lcm a b : Nat) : Int) := Int.dvd_lcm_left ..
theorem lcm_r {a b : Int} : b ∣ ((Int.lcm a b : Nat) : Int) := Int.dvd_lcm_right ..
theorem cmbC_val {f p : Int} {c d : Ct} (q : p ∉ c.sp → p ∉ d.sp → trAt (trC f (c.ln (p % c.m)) (d.ln (p % d.m))) p = c.val p + f * d.val p) : (cmbC f c d).val p = c.val p + f * d.val p := by
  by_cases h : p ∈ c.sp ++ d.sp
  · exact if_pos (mem_keysOf.mpr h)
  · rw [Ct.val, if_neg (show ¬ p ∈ (cmbC f c d).sp from fun z => h (mem_keysOf.mp z))]
    have h1 : p ∉ c.sp := fun z => h (List.mem_append_left _ z)
    have h2 : p ∉ d.sp := fun z => h (List.mem_append_right _ z)
    show trAt (trC f (c.ln (p % ((Int.lcm c.m d.m : Nat) : Int) % c.m)) (d.ln (p % ((Int.lcm c.m d.m : Nat) : Int) % d.m))) p = _
    rw [Int.emod_emod_of_dvd _ lcm_l, Int.emod_emod_of_dvd _ lcm_r]
    exact q h1 h2
/-! part m_k74 -/
/-- lines below 2^n -/
def Ct.Bl (c : Ct) (n : Nat) : Prop := ∀ r ∈ uL c.m, Bd n (c.ln r).1 ∧ Bd n (c.ln r).2.1 ∧ Bd n (c.ln r).2.2
/-- away from the special primes the line gives 4 times the value -/
def Ct.Ex (c : Ct) : Prop := ∀ p, QR.OP p → p ∉ c.sp → 4 ∣ (c.ln (p % c.m)).1 * p * p + (c.ln (p % c.m)).2.1 * p + (c.ln (p % c.m)).2.2
theorem cmb_ok {f : Int} {c d : Ct} (hf : f = 1 ∨ f = -1) (hc : c.Ok) (hd : d.Ok) (bc : c.Bl 50) (bd : d.Bl 50) (le : ((Int.lcm c.m d.m : Nat) : Int) ≤ 4000) : (cmbC f c d).Ok := by
  have l1 := lcm_pos hc.m1 hd.m1
  have bf : Bd 2 f := by rcases hf with rfl | rfl <;> exact Bd.of (by decide) (by decide)
  refine ⟨l1, le, fun r hr => ?_, keysOf_nodup, fun p op hp => ?_⟩
  · obtain ⟨a1, a2, a3⟩ := bc _ (uL_down hc.m1 hr lcm_l)
    obtain ⟨b1, b2, b3⟩ := bd _ (uL_down hd.m1 hr lcm_r)
    have go : ∀ {x y : Int}, Bd 50 x → Bd 50 y → Bd 60 (x + f * y) := fun hx hy => ((hx.mono (show 50 ≤ 52 by decide)).add (bf.mul hy)).mono (by decide)
    exact ⟨go a1 b1, go a2 b2, go a3 b3⟩
  · have h1 := hc.away p op fun z => hp (mem_keysOf.mpr (List.mem_append_left _ z))
    have h2 := hd.away p op fun z => hp (mem_keysOf.mpr (List.mem_append_right _ z))
    have c1 := (mem_uL.mp h1).2.2
    have c2 := (mem_uL.mp h2).2.2
    have k1 : Int.gcd p c.m = 1 := QR.cop_emod.mp c1
    have k2 : Int.gcd p d.m = 1 := QR.cop_emod.mp c2
    show p % ((Int.lcm c.m d.m : Nat) : Int) ∈ uL ((Int.lcm c.m d.m : Nat) : Int)
    refine mem_uL.mpr ⟨Int.emod_nonneg _ (by omega), Int.emod_lt_of_pos _ (by omega), QR.cop_emod.mpr ?_⟩
    have k3 := QR.cop_mul k1 k2
    exact QR.cop_dvd_right k3 (Int.coe_lcm_dvd (Int.dvd_mul_right ..) (Int.dvd_mul_left ..))
theorem cmb_val {f p : Int} {c d : Ct} (ec : c.Ex) (ed : d.Ex) (op : QR.OP p) : (cmbC f c d).val p = c.val p + f * d.val p := cmbC_val fun h1 h2 => by
  obtain ⟨x, hx⟩ := ec p op h1
  obtain ⟨y, hy⟩ := ed p op h2
  have v1 : c.val p = x := by
    rw [Ct.val, if_neg h1, trAt, hx]
    exact Int.mul_ediv_cancel_left _ (by decide)
  have v2 : d.val p = y := by
    rw [Ct.val, if_neg h2, trAt, hy]
    exact Int.mul_ediv_cancel_left _ (by decide)
  rw [v1, v2]
  generalize c.ln (p % c.m) = s at *
  generalize d.ln (p % d.m) = t at *
  obtain ⟨s1, s2, s3⟩ := s
  obtain ⟨t1, t2, t3⟩ := t
  have e : (s1 + f * t1) * p * p + (s2 + f * t2) * p + (s3 + f * t3) = 4 * (x + f * y) := by
    have hx2 : s1 * p * p + s2 * p + s3 = 4 * x := hx
    have hy2 : t1 * p * p + t2 * p + t3 = 4 * y := hy
    rw [show 4 * (x + f * y) = 4 * x + f * (4 * y) by grind, ← hx2, ← hy2]
    grind
  show ((s1 + f * t1) * p * p + (s2 + f * t2) * p + (s3 + f * t3)) / 4 = _
  rw [e]
  exact Int.mul_ediv_cancel_left _ (by decide)
theorem cmb_bl {f : Int} {c d : Ct} {n : Nat} (hf : f = 1 ∨ f = -1) (hc : c.Ok) (hd : d.Ok) (bc : c.Bl n) (bd : d.Bl n) : (cmbC f c d).Bl (n + 4) := fun r hr => by
  have bf : Bd 2 f := by rcases hf with rfl | rfl <;> exact Bd.of (by decide) (by decide)
  obtain ⟨a1, a2, a3⟩ := bc _ (uL_down hc.m1 hr lcm_l)
  obtain ⟨b1, b2, b3⟩ := bd _ (uL_down hd.m1 hr lcm_r)
  have go : ∀ {x y : Int}, Bd n x → Bd n y → Bd (n + 4) (x + f * y) := fun hx hy => ((hx.mono (show n ≤ 2 + n by omega)).add (bf.mul hy)).mono (by omega)
  exact ⟨go a1 b1, go a2 b2, go a3 b3⟩
/-! part m_van -/
/-! the primes for which a count is 0 -/
theorem sub_intT {K : PySem.W.Frag} {C : Addr} : PySem.W.subIn K (.type "int") (.ref C) = some false := rfl
/-- an int is no instance of an own class -/
theorem kit_intT {K : PySem.W.Frag} {C : Addr} (h1 : PySem.W.isClsIn K C = true) (h2 : PySem.W.typeIn K (.ref C) = some (.type "type")) : PySem.W.kitOne K (.type "int") (.ref C) = some false := by
  have e : ((PySem.W.clsIn K C).isSome && PySem.W.typeIn K (.ref C) == some (.type "type")) = true := by
    rw [show (PySem.W.clsIn K C).isSome = true from h1, h2]
    rfl
  show (if (Value.type "int" == Value.ref C) = true then some true else if ((PySem.W.clsIn K C).isSome && PySem.W.typeIn K (.ref C) == some (.type "type")) = true then PySem.W.subIn K (.type "int") (.ref C) else none) = some false
  rw [if_neg (by intro z; cases z), if_pos e]
  exact sub_intT
theorem notFirst_intT {K : PySem.W.Frag} {C : Addr} : PySem.W.notFirst K C (.type "int") = true := by
  unfold PySem.W.notFirst
  rw [sub_intT]
  rfl
/-- the set of all odd primes -/
theorem least_every : IsLeast 1 [0] [] := by
  refine ⟨⟨by decide, fun r h => by rw [List.mem_singleton.mp h]; decide, fun p h => absurd h List.not_mem_nil⟩, List.pairwise_singleton .., List.Pairwise.nil, fun q hq d => ?_⟩
  have := Int.le_of_dvd (by decide) d
  have := hq.1
  omega
theorem made_every {m : Int} {R S : List Int} (h : Made 1 [0] [] m R S) : m = 1 ∧ R = [0] ∧ S = [] :=
  least_unique (by decide) h.sub.dvd (Int.dvd_refl 1) h.least least_every (fun x hx => by rw [h.sub.same x hx]) fun p op => by rw [h.mem p (.inl op)]
/-- 4 times the value that a line gives -/
def lnv (t : Int × Int × Int) (p : Int) : Int := t.1 * p * p + t.2.1 * p + t.2.2
def zeroL (c : Ct) (l : List Int) : List Int := l.filter fun r => decide (c.ln r = (0, 0, 0))
theorem mem_zeroL {c : Ct} {l : List Int} {r : Int} : r ∈ zeroL c l ↔ r ∈ l ∧ c.ln r = (0, 0, 0) := by
  unfold zeroL
  rw [List.mem_filter, decide_eq_true_iff]
/-- the primes that are looked at -/
structure Susp (c : Ct) (l su : List Int) : Prop where
  op : ∀ p ∈ su, QR.OP p ∧ p < 2 ^ 60
  sp : ∀ p ∈ c.sp, p ∈ su
  all : ∀ r ∈ l, c.ln r ≠ (0, 0, 0) → ∀ p, QR.OP p → lnv (c.ln r) p = 0 → p ∈ su
def singL (c : Ct) (R us : List Int) : List Int := us.filter fun p => decide (c.val p = 0) != decide (p % c.m ∈ R)
/-- the set of the primes for which a count is 0 -/
structure Van (c : Ct) (m : Int) (R S : List Int) : Prop where
  least : IsLeast m R S
  dvd : m ∣ c.m
  germ : ∀ x, Int.gcd x c.m = 1 → (x % m ∈ R ↔ c.ln (x % c.m) = (0, 0, 0))
  mem : ∀ p, QR.OP p → (memP m R S p ↔ c.val p = 0)
theorem van_made {c : Ct} {us m R S} (ok : c.Ok) (ex : c.Ex) (su : Susp c (uL c.m) us) (h : Made c.m (zeroL c (uL c.m)) (singL c (zeroL c (uL c.m)) us) m R S) : Van c m R S := by
  have m1 := ok.m1
  refine ⟨h.least, h.sub.dvd, fun x hx => ?_, fun p op => ?_⟩
  · rw [h.sub.same x hx, mem_zeroL]
    exact ⟨fun z => z.2, fun z => ⟨unit_of (Int.dvd_refl _) (by omega) hx, z⟩⟩
  · rw [h.mem p (.inl op)]
    have told : toldP c.m (zeroL c (uL c.m)) p ↔ p % c.m ∈ zeroL c (uL c.m) := by
      refine ⟨fun z => z.2, fun z => ⟨fun d => ?_, z⟩⟩
      have g := (mem_uL.mp (mem_zeroL.mp z).1).2.2
      have g := QR.cop_emod.mp g
      have p3 := op.three
      have e : p ∣ ((Int.gcd p c.m : Nat) : Int) := Int.dvd_coe_gcd (Int.dvd_refl p) d
      rw [g] at e
      have := Int.le_of_dvd (by decide) e
      omega
    unfold memP
    rw [told]
    have sg : p ∈ singL c (zeroL c (uL c.m)) us ↔ p ∈ us ∧ ¬ (c.val p = 0 ↔ p % c.m ∈ zeroL c (uL c.m)) := by
      unfold singL
      rw [List.mem_filter]
      refine and_congr_right fun _ => ?_
      by_cases a : c.val p = 0 <;> by_cases b : p % c.m ∈ zeroL c (uL c.m) <;> simp [a, b]
    rw [sg]
    by_cases hu : p ∈ us
    · by_cases a : c.val p = 0 <;> by_cases b : p % c.m ∈ zeroL c (uL c.m) <;> simp [a, b, hu]
    · have ns : p ∉ c.sp := fun z => hu (su.sp p z)
      have un := ok.away p op ns
      have v : c.val p = trAt (c.ln (p % c.m)) p := if_neg ns
      obtain ⟨x, hx⟩ := ex p op ns
      have v2 : c.val p = x := by
        rw [v, trAt, hx]
        exact Int.mul_ediv_cancel_left _ (by decide)
      have key : c.val p = 0 ↔ p % c.m ∈ zeroL c (uL c.m) := by
        rw [mem_zeroL]
        refine ⟨fun z => ⟨un, Classical.byContradiction fun n => hu (su.all _ un n p op ?_)⟩, fun z => ?_⟩
        · show (c.ln (p % c.m)).1 * p * p + (c.ln (p % c.m)).2.1 * p + (c.ln (p % c.m)).2.2 = 0
          rw [hx, ← v2, z]
          rfl
        · rw [v, z.2]
          simp [trAt]
      rw [key]
      simp [hu]
/-- two counts that are 0 for the same rests and primes have one set -/
theorem Van.uniq {c d : Ct} {m n : Int} {R S R' S' : List Int} (c1 : 1 ≤ c.m) (d1 : 1 ≤ d.m) (a : Van c m R S) (b : Van d n R' S') (g : ∀ x, Int.gcd x c.m = 1 → Int.gcd x d.m = 1 → (c.ln (x % c.m) = (0, 0, 0) ↔ d.ln (x % d.m) = (0, 0, 0))) (v : ∀ p, QR.OP p → (c.val p = 0 ↔ d.val p = 0)) : m = n ∧ R = R' ∧ S = S' := by
  have l1 := lcm_pos c1 d1
  refine least_unique (M := ((Int.lcm c.m d.m : Nat) : Int)) (by omega) (Int.dvd_trans a.dvd lcm_l) (Int.dvd_trans b.dvd lcm_r) a.least b.least (fun x hx => ?_) fun p op => ?_
  · have g1 := QR.cop_dvd_right hx (@lcm_l c.m d.m)
    have g2 := QR.cop_dvd_right hx (@lcm_r c.m d.m)
    rw [a.germ x g1, b.germ x g2, g x g1 g2]
  · rw [a.mem p op, b.mem p op, v p op]
/-- and the set is that of a description with the same rests and primes -/
theorem Van.is {c : Ct} {m n : Int} {R S R' S' : List Int} (c1 : 1 ≤ c.m) (a : Van c m R S) (l : IsLeast n R' S') (d : n ∣ c.m) (g : ∀ x, Int.gcd x c.m = 1 → (c.ln (x % c.m) = (0, 0, 0) ↔ x % n ∈ R')) (v : ∀ p, QR.OP p → (c.val p = 0 ↔ memP n R' S' p)) : m = n ∧ R = R' ∧ S = S' :=
  least_unique c1 a.dvd d a.least l (fun x hx => by rw [a.germ x hx, g x hx]) fun p op => by rw [a.mem p op, v p op]
/-! part m_form -/
/-- a form's three numbers -/
structure Fm where
  a : Int
  b : Int
  c : Int
deriving DecidableEq
def Fm.D (f : Fm) : Int := f.b * f.b - 4 * f.a * f.c
def Fm.ok (f : Fm) : Prop := 1 ≤ f.a ∧ f.D < 0
def Fm.at (f : Fm) (x y : Int) : Int := f.a * x * x + f.b * x * y + f.c * y * y
def Fm.nx (f : Fm) : Option Int := if ¬ (-f.a < f.b ∧ f.b ≤ f.a) then some ((f.a - f.b) / (2 * f.a)) else if f.c < f.a ∨ f.a = f.c ∧ f.b < 0 then some 0 else none
def Fm.bd (n : Nat) (f : Fm) : Prop := Bd n f.a ∧ Bd n f.b ∧ Bd n f.c
theorem Fm.bd.mono {n m : Nat} {f : Fm} (h : Fm.bd n f) (hm : n ≤ m) : Fm.bd m f := ⟨h.1.mono hm, h.2.1.mono hm, h.2.2.mono hm⟩
/-! part m_row -/
def Fm.ns (f : Fm) : List Int := [f.a, f.b, f.c]
abbrev Fm.row (f : Fm) : List V := f.ns.map V.int
/-! part m_back -/
/-! part m_turn -/
/-! part m_rests -/
/-! part m_bl -/
theorem inV_bl {b : Bool} : ∀ {bs : List Bool}, inV (.bl b) (bs.map V.bl) = decide (b ∈ bs)
  | [] => by simp [inV]
  | c :: bs => by
    have ih := inV_bl (b := b) (bs := bs)
    unfold inV at ih ⊢
    rw [List.map_cons, List.any_cons, ih]
    cases b <;> cases c <;> simp [eqV]
theorem flat_bl : ∀ {bs : List Bool}, (bs.map V.bl).all flatV = true
  | [] => rfl
  | _ :: bs => by
    rw [List.map_cons, List.all_cons, flat_bl]
    rfl
theorem lft_bl {R : List Int} {b : Bool} {ls : List Int} : b ∈ ls.map (fun l => decide (l ∈ R)) ↔ ∃ l ∈ ls, decide (l ∈ R) = b := List.mem_map
/-! part m_insl -/
theorem insL_new {l : List Int} {k : Int} (h : k ∉ l) : insL l k = l ++ [k] := by
  unfold insL
  rw [if_neg h]
/-! part m_pow -/
/-! powers on a clock -/
theorem cg_pow {p a b : Int} (h : p ∣ a - b) : ∀ e : Nat, p ∣ a ^ e - b ^ e
  | 0 => ⟨0, by simp⟩
  | e + 1 => by
    obtain ⟨c, hc⟩ := cg_pow h e
    obtain ⟨d, hd⟩ := h
    exact ⟨c * a + b ^ e * d, by rw [Int.pow_succ, Int.pow_succ, Int.mul_add, ← Int.mul_assoc, ← hc, Int.mul_left_comm, ← hd]; grind⟩
theorem sq_pow (b : Int) : ∀ e : Nat, (b * b) ^ e = b ^ (2 * e)
  | 0 => by simp
  | e + 1 => by rw [Int.pow_succ, sq_pow b e, show 2 * (e + 1) = 2 * e + 1 + 1 by omega, Int.pow_succ, Int.pow_succ, Int.mul_assoc]
theorem pw_even {p r b X : Int} {e : Nat} (h : p ∣ r * b ^ e - X) (he : e % 2 = 0) : p ∣ r * (b * b % p) ^ (e / 2) - X := by
  have e1 := Int.mul_ediv_add_emod (b * b) p
  obtain ⟨c, hc⟩ := cg_pow (p := p) (a := b * b % p) (b := b * b) ⟨-(b * b / p), by rw [Int.mul_neg]; omega⟩ (e / 2)
  obtain ⟨d, hd⟩ := h
  rw [sq_pow, show 2 * (e / 2) = e by omega] at hc
  exact ⟨r * c + d, by rw [Int.mul_add, ← hd, Int.mul_left_comm, ← hc]; grind⟩
theorem pw_odd {p r b X : Int} {e : Nat} (h : p ∣ r * b ^ e - X) (he : e % 2 = 1) : p ∣ r * b % p * (b * b % p) ^ (e / 2) - X := by
  refine pw_even (e := e - 1) ?_ (by omega) |> fun z => by rw [show (e - 1) / 2 = e / 2 by omega] at z; exact z
  have e1 := Int.mul_ediv_add_emod (r * b) p
  obtain ⟨d, hd⟩ := h
  rw [show e = (e - 1) + 1 by omega, Int.pow_succ] at hd
  generalize r * b / p = q at *
  generalize r * b % p = s at *
  have es : s = r * b - p * q := by omega
  refine ⟨d - q * b ^ (e - 1), ?_⟩
  rw [Int.mul_sub, ← hd, es]
  clear hd e1 es he
  grind
theorem pw_fin {p r X : Int} (h : p ∣ r * X ^ 0 - Y) (h0 : 0 ≤ r) (h1 : r < p) : r = Y % p := by
  obtain ⟨c, hc⟩ := h
  rw [Int.pow_zero, Int.mul_one] at hc
  rw [show Y = r + p * -c by rw [Int.mul_neg]; omega, Int.add_mul_emod_self_left, Int.emod_eq_of_lt h0 h1]
/-! part m_cip -/
namespace QR
/-! binomial numbers, and that a prime divides the inner ones -/
def ch : Nat → Nat → Int
  | _, 0 => 1
  | 0, _ + 1 => 0
  | n + 1, k + 1 => ch n k + ch n (k + 1)
theorem ch_zero (n : Nat) : ch n 0 = 1 := by cases n <;> rfl
theorem ch_succ (n k : Nat) : ch (n + 1) (k + 1) = ch n k + ch n (k + 1) := rfl
theorem ch_out : ∀ (n k : Nat), n < k → ch n k = 0
  | 0, k + 1, _ => rfl
  | n + 1, k + 1, h => by rw [ch_succ, ch_out n k (by omega), ch_out n (k + 1) (by omega)]; rfl
  | _, 0, h => by omega
theorem ch_self : ∀ n : Nat, ch n n = 1
  | 0 => rfl
  | n + 1 => by rw [ch_succ, ch_self n, ch_out n (n + 1) (by omega)]; rfl
theorem ch_mul : ∀ (n k : Nat), ((k : Int) + 1) * ch (n + 1) (k + 1) = ((n : Int) + 1) * ch n k
  | 0, 0 => rfl
  | 0, k + 1 => by rw [ch_out 1 (k + 2) (by omega), ch_out 0 (k + 1) (by omega)]; simp
  | n + 1, 0 => by
    have h := ch_mul n 0
    have e : ch (n + 1 + 1) (0 + 1) = ch (n + 1) 0 + ch (n + 1) (0 + 1) := rfl
    rw [e, ch_zero, Int.mul_add, h, ch_zero]
    push_cast
    omega
  | n + 1, k + 1 => by
    have h1 := ch_mul n k
    have h2 := ch_mul n (k + 1)
    rw [ch_succ (n + 1) (k + 1)]
    rw [ch_succ n k] at *
    have e1 : (((k + 1 : Nat) : Int)) = (k : Int) + 1 := by omega
    have e2 : (((n + 1 : Nat) : Int)) = (n : Int) + 1 := by omega
    rw [e1] at *
    rw [e2]
    grind
theorem ch_dvd {p : Nat} (hp : Pm p) {k : Nat} (h : k + 1 < p) : (p : Int) ∣ ch p (k + 1) := by
  obtain ⟨n, rfl⟩ : ∃ n, p = n + 1 := ⟨p - 1, by omega⟩
  have e := ch_mul n k
  have hd : (((n + 1 : Nat) : Int)) ∣ ((k : Int) + 1) * ch (n + 1) (k + 1) := ⟨ch n k, by rw [e]; push_cast; rfl⟩
  rcases hp.dvd_mul hd with z | z
  · have := Int.le_of_dvd (by omega) z
    omega
  · exact z
def Sm : Nat → (Nat → Int) → Int
  | 0, _ => 0
  | n + 1, f => Sm n f + f n
theorem Sm_congr : ∀ (n : Nat) {f g : Nat → Int}, (∀ i, i < n → f i = g i) → Sm n f = Sm n g
  | 0, _, _, _ => rfl
  | n + 1, f, g, h => by rw [Sm, Sm, Sm_congr n fun i hi => h i (by omega), h n (by omega)]
theorem Sm_add (f g : Nat → Int) : ∀ n : Nat, Sm n (fun i => f i + g i) = Sm n f + Sm n g
  | 0 => rfl
  | n + 1 => by
    rw [Sm, Sm, Sm, Sm_add f g n]
    omega
theorem Sm_mul (c : Int) (f : Nat → Int) : ∀ n : Nat, Sm n (fun i => c * f i) = c * Sm n f
  | 0 => by simp [Sm]
  | n + 1 => by rw [Sm, Sm, Sm_mul c f n, Int.mul_add]
theorem Sm_first (f : Nat → Int) : ∀ n : Nat, Sm (n + 1) f = f 0 + Sm n (fun i => f (i + 1))
  | 0 => by simp [Sm]
  | n + 1 => by
    rw [Sm, Sm_first f n, Sm]
    omega
theorem Sm_dvd {m : Int} : ∀ (n : Nat) (f : Nat → Int), (∀ i, i < n → m ∣ f i) → m ∣ Sm n f
  | 0, _, _ => ⟨0, by simp [Sm]⟩
  | n + 1, f, h => Int.dvd_add (Sm_dvd n f fun i hi => h i (by omega)) (h n (by omega))
/-- the n-th power of t and a step -/
def Fb (t : Int) : Nat → (Nat → Int) → Int
  | 0, s => s 0
  | n + 1, s => t * Fb t n s + Fb t n (fun k => s (k + 1))
theorem Fb_sum (t : Int) : ∀ (n : Nat) (s : Nat → Int), Fb t n s = Sm (n + 1) (fun k => ch n k * t ^ (n - k) * s k)
  | 0, s => by simp [Fb, Sm, ch]
  | n + 1, s => by
    rw [Fb, Fb_sum t n s, Fb_sum t n, Sm_first _ (n + 1), ← Sm_mul]
    have e1 : Sm (n + 1) (fun k => t * (ch n k * t ^ (n - k) * s k)) = t ^ (n + 1) * s 0 + Sm (n + 1) (fun k => ch n (k + 1) * t ^ (n - k) * s (k + 1)) := by
      rw [Sm_first _ n]
      conv => rhs; rw [Sm]
      rw [ch_out n (n + 1) (by omega), ch_zero]
      have e2 : Sm n (fun i => t * (ch n (i + 1) * t ^ (n - (i + 1)) * s (i + 1))) = Sm n (fun k => ch n (k + 1) * t ^ (n - k) * s (k + 1)) := by
        refine Sm_congr n fun i hi => ?_
        have : n - i = (n - (i + 1)) + 1 := by omega
        rw [this, Int.pow_succ]
        grind
      rw [e2, Nat.sub_zero, Int.pow_succ]
      grind
    rw [e1, ch_zero, Nat.sub_zero]
    have e3 : Sm (n + 1) (fun i => ch (n + 1) (i + 1) * t ^ (n + 1 - (i + 1)) * s (i + 1)) = Sm (n + 1) (fun k => ch n (k + 1) * t ^ (n - k) * s (k + 1)) + Sm (n + 1) (fun k => ch n k * t ^ (n - k) * s (k + 1)) := by
      rw [← Sm_add]
      refine Sm_congr _ fun i hi => ?_
      rw [ch_succ, show n + 1 - (i + 1) = n - i by omega]
      grind
    rw [e3]
    grind
theorem Fb_frob {p : Nat} (hp : Pm p) (t : Int) (s : Nat → Int) : (p : Int) ∣ Fb t p s - (t ^ p * s 0 + s p) := by
  have h2 := hp.1
  obtain ⟨n, rfl⟩ : ∃ n, p = n + 1 := ⟨p - 1, by omega⟩
  rw [Fb_sum, Sm_first, Sm]
  rw [ch_zero, ch_self, Nat.sub_zero, Nat.sub_self, Int.pow_zero]
  have : (((n + 1 : Nat)) : Int) ∣ Sm n (fun i => ch (n + 1) (i + 1) * t ^ (n + 1 - (i + 1)) * s (i + 1)) := Sm_dvd n _ fun i hi => by
    obtain ⟨c, hc⟩ := ch_dvd hp (k := i) (by omega)
    exact ⟨c * t ^ (n + 1 - (i + 1)) * s (i + 1), by rw [hc]; grind⟩
  obtain ⟨c, hc⟩ := this
  exact ⟨c, by rw [hc]; grind⟩
/-! sums of an integer and a multiple of a root of w -/
def mulQ (w : Int) (x y : Int × Int) : Int × Int := (x.1 * y.1 + x.2 * y.2 * w, x.1 * y.2 + x.2 * y.1)
def powQ (w : Int) (x : Int × Int) : Nat → Int × Int
  | 0 => (1, 0)
  | n + 1 => mulQ w (powQ w x n) x
theorem mulQ_assoc (w : Int) (x y z : Int × Int) : mulQ w (mulQ w x y) z = mulQ w x (mulQ w y z) := by
  simp only [mulQ, Prod.mk.injEq]
  constructor <;> grind
theorem mulQ_comm (w : Int) (x y : Int × Int) : mulQ w x y = mulQ w y x := by
  simp only [mulQ, Prod.mk.injEq]
  constructor <;> grind
theorem mulQ_one (w : Int) (x : Int × Int) : mulQ w x (1, 0) = x := by
  simp [mulQ]
theorem powQ_add (w : Int) (x : Int × Int) (m : Nat) : ∀ n : Nat, powQ w x (m + n) = mulQ w (powQ w x m) (powQ w x n)
  | 0 => (mulQ_one w _).symm
  | n + 1 => by
    rw [← Nat.add_assoc, powQ, powQ_add w x m n, powQ, mulQ_assoc]
theorem powQ_sq (w : Int) (x : Int × Int) (n : Nat) : powQ w (mulQ w x x) n = powQ w x (2 * n) := by
  induction n with
  | zero => rfl
  | succ n ih =>
    rw [powQ, ih, show 2 * (n + 1) = 2 * n + 1 + 1 by omega, powQ, powQ, mulQ_assoc]
def sE (w : Int) (k : Nat) : Int := if k % 2 = 0 then w ^ (k / 2) else 0
def sO (w : Int) (k : Nat) : Int := if k % 2 = 0 then 0 else w ^ (k / 2)
theorem Fb_mul (t c : Int) : ∀ (n : Nat) (s : Nat → Int), Fb t n (fun k => c * s k) = c * Fb t n s
  | 0, s => rfl
  | n + 1, s => by
    rw [Fb, Fb, Fb_mul t c n s, Fb_mul t c n fun k => s (k + 1)]
    grind
theorem powQ_Fb (w t : Int) : ∀ n : Nat, powQ w (t, 1) n = (Fb t n (sE w), Fb t n (sO w))
  | 0 => by simp [powQ, Fb, sE, sO]
  | n + 1 => by
    have h1 : (fun k => sE w (k + 1)) = fun k => w * sO w k := by
      funext k
      unfold sE sO
      rcases Nat.mod_two_eq_zero_or_one k with h | h
      · rw [if_neg (by omega), if_pos h, Int.mul_zero]
      · rw [if_pos (by omega), if_neg (by omega), show (k + 1) / 2 = k / 2 + 1 by omega, Int.pow_succ, Int.mul_comm]
    have h2 : (fun k => sO w (k + 1)) = fun k => sE w k := by
      funext k
      unfold sE sO
      rcases Nat.mod_two_eq_zero_or_one k with h | h
      · rw [if_neg (by omega), if_pos h, show (k + 1) / 2 = k / 2 by omega]
      · rw [if_pos (by omega), if_neg (by omega)]
    rw [powQ, powQ_Fb w t n, Fb, Fb, h1, h2, Fb_mul]
    simp only [mulQ, Prod.mk.injEq]
    constructor <;> grind
section
variable {h : Nat}
theorem fermat (hp : Pm (2 * (h : Int) + 1)) (t : Int) : (2 * (h : Int) + 1) ∣ t ^ (2 * h + 1) - t := by
  by_cases ht : (2 * (h : Int) + 1) ∣ t
  · obtain ⟨c, hc⟩ := ht
    refine ⟨t ^ (2 * h) * c - c, ?_⟩
    rw [Int.pow_succ]
    generalize t ^ (2 * h) = X
    rw [hc]
    grind
  · obtain ⟨c, hc⟩ := gauss hp ht
    have hg := G_pm (hp.cop ht)
    have hgg : G t h * G t h = 1 := by rcases hg with e | e <;> rw [e] <;> rfl
    have e : t ^ h = (2 * (h : Int) + 1) * c + G t h := by omega
    have e2 : t ^ (2 * h + 1) = t ^ h * t ^ h * t := by
      rw [Int.pow_succ, show 2 * h = h + h by omega, Int.pow_add]
    exact ⟨((2 * (h : Int) + 1) * c * c + 2 * c * G t h) * t, by rw [e2, e]; grind⟩
/-- the power with the exponent p + 1 is the norm -/
theorem frob (hp : Pm (2 * (h : Int) + 1)) {w t : Int} (hw : G w h = -1) : (2 * (h : Int) + 1) ∣ (powQ w (t, 1) (2 * h + 2)).1 - (t * t - w) ∧ (2 * (h : Int) + 1) ∣ (powQ w (t, 1) (2 * h + 2)).2 := by
  have hp' : Pm (((2 * h + 1 : Nat)) : Int) := by
    have : (((2 * h + 1 : Nat)) : Int) = 2 * (h : Int) + 1 := by omega
    rw [this]
    exact hp
  have wd : ¬ (2 * (h : Int) + 1) ∣ w := fun z => by
    have : G w h = 0 := by
      have h2 := hp.1
      obtain ⟨c, hc⟩ := z
      rw [G_congr (b := 0) ⟨c, by rw [hc]; omega⟩]
      rw [G_at0, if_neg (by omega)]
    rw [this] at hw
    exact absurd hw (by decide)
  obtain ⟨c1, e1⟩ := Fb_frob hp' t (sE w)
  obtain ⟨c2, e2⟩ := Fb_frob hp' t (sO w)
  obtain ⟨c3, e3⟩ := fermat hp t
  obtain ⟨c4, e4⟩ := gauss hp wd
  have cst : (((2 * h + 1 : Nat)) : Int) = 2 * (h : Int) + 1 := by omega
  rw [cst] at e1 e2
  have s1 : sE w 0 = 1 := by simp [sE]
  have s2 : sE w (2 * h + 1) = 0 := if_neg (by omega)
  have s3 : sO w 0 = 0 := by simp [sO]
  have s4 : sO w (2 * h + 1) = w ^ h := by
    unfold sO
    rw [if_neg (by omega), show (2 * h + 1) / 2 = h by omega]
  rw [s1, s2] at e1
  rw [s3, s4] at e2
  rw [hw] at e4
  rw [show 2 * h + 2 = 2 * h + 1 + 1 from rfl, powQ, powQ_Fb]
  simp only [mulQ]
  generalize Fb t (2 * h + 1) (sE w) = A at *
  generalize Fb t (2 * h + 1) (sO w) = B at *
  generalize t ^ (2 * h + 1) = T at *
  generalize w ^ h = W at *
  generalize 2 * (h : Int) + 1 = p at *
  have eA : A = t + p * (c1 + c3) := by rw [Int.mul_add]; omega
  have eB : B = -1 + p * (c2 + c4) := by rw [Int.mul_add]; omega
  exact ⟨⟨(c1 + c3) * t + (c2 + c4) * w, by rw [eA, eB]; grind⟩, ⟨c1 + c3 + (c2 + c4) * t, by rw [eA, eB]; grind⟩⟩
/-- the half power is a root -/
theorem cipolla (hp : Pm (2 * (h : Int) + 1)) {n w t : Int} (hw : G w h = -1) (hn : G n h = 1) (hwn : (2 * (h : Int) + 1) ∣ t * t - n - w) {r : Int × Int} (hr1 : (2 * (h : Int) + 1) ∣ r.1 - (powQ w (t, 1) (h + 1)).1) (hr2 : (2 * (h : Int) + 1) ∣ r.2 - (powQ w (t, 1) (h + 1)).2) : (2 * (h : Int) + 1) ∣ r.1 * r.1 - n := by
  obtain ⟨⟨d1, f1⟩, ⟨d2, f2⟩⟩ := frob hp (t := t) hw
  rw [show 2 * h + 2 = (h + 1) + (h + 1) by omega, powQ_add] at f1 f2
  simp only [mulQ] at f1 f2
  generalize (powQ w (t, 1) (h + 1)).1 = a at *
  generalize (powQ w (t, 1) (h + 1)).2 = b at *
  have h2 := hp.1
  have h3 : Pm (2 * (h : Int) + 1) := hp
  have hd2 : (2 * (h : Int) + 1) ∣ 2 * (a * b) := ⟨d2, by rw [← f2]; grind⟩
  have n2 : ¬ (2 * (h : Int) + 1) ∣ 2 := fun z => by
    have := Int.le_of_dvd (by decide) z
    omega
  have hab : (2 * (h : Int) + 1) ∣ a * b := (hp.dvd_mul hd2).resolve_left n2
  obtain ⟨g, hg⟩ := hwn
  obtain ⟨k1, hk1⟩ := hr1
  generalize hpp : 2 * (h : Int) + 1 = p at *
  have era : r.1 = a + p * k1 := by omega
  have etn : t * t - w = n + p * g := by omega
  have ef : a * a + b * b * w = n + p * (g + d1) := by rw [Int.mul_add]; omega
  rcases h3.dvd_mul hab with z | z
  · exfalso
    obtain ⟨u, hu⟩ := z
    have hc : p ∣ b * b * w - n := ⟨g + d1 - a * u, by rw [hu] at ef ⊢; grind⟩
    rw [← hpp] at hc
    have e1 := G_congr hc
    rw [G_mul, hw, hn, G_mul] at e1
    have e2 : 0 ≤ G b h * G b h := by
      rcases Int.le_total 0 (G b h) with y | y
      · exact Int.mul_nonneg y y
      · have := Int.mul_nonneg (show 0 ≤ -G b h by omega) (show 0 ≤ -G b h by omega)
        rw [Int.neg_mul_neg] at this
        exact this
    omega
  · obtain ⟨u, hu⟩ := z
    refine ⟨g + d1 - b * u * w + 2 * a * k1 + p * k1 * k1, ?_⟩
    rw [era]
    have : b * b * w = p * (b * u * w) := by rw [hu]; grind
    grind
end
end QR
/-! part m_rt -/
/-! roots on a clock -/
def cg (p a b : Int) : Prop := p ∣ a - b
theorem cg.mulQ1 {p w a b c d a' b' c' d' : Int} (h1 : p ∣ a - a') (h2 : p ∣ b - b') (h3 : p ∣ c - c') (h4 : p ∣ d - d') : p ∣ (a * c + b * d * w) % p - (a' * c' + b' * d' * w) := by
  obtain ⟨x, hx⟩ := h1
  obtain ⟨y, hy⟩ := h2
  obtain ⟨z, hz⟩ := h3
  obtain ⟨u, hu⟩ := h4
  have e := Int.mul_ediv_add_emod (a * c + b * d * w) p
  generalize (a * c + b * d * w) / p = q at *
  generalize (a * c + b * d * w) % p = r at *
  have ea : a = a' + p * x := by omega
  have eb : b = b' + p * y := by omega
  have ec : c = c' + p * z := by omega
  have ed : d = d' + p * u := by omega
  refine ⟨a' * z + x * c' + p * x * z + (b' * u + y * d' + p * y * u) * w - q, ?_⟩
  have : r = a * c + b * d * w - p * q := by omega
  rw [this, ea, eb, ec, ed]
  grind
theorem cg.mulQ2 {p a b c d a' b' c' d' : Int} (h1 : p ∣ a - a') (h2 : p ∣ b - b') (h3 : p ∣ c - c') (h4 : p ∣ d - d') : p ∣ (a * d + b * c) % p - (a' * d' + b' * c') := by
  obtain ⟨x, hx⟩ := h1
  obtain ⟨y, hy⟩ := h2
  obtain ⟨z, hz⟩ := h3
  obtain ⟨u, hu⟩ := h4
  have e := Int.mul_ediv_add_emod (a * d + b * c) p
  generalize (a * d + b * c) / p = q at *
  generalize (a * d + b * c) % p = r at *
  have ea : a = a' + p * x := by omega
  have eb : b = b' + p * y := by omega
  have ec : c = c' + p * z := by omega
  have ed : d = d' + p * u := by omega
  refine ⟨a' * u + x * d' + p * x * u + (b' * z + y * c' + p * y * z) - q, ?_⟩
  have : r = a * d + b * c - p * q := by omega
  rw [this, ea, eb, ec, ed]
  grind
namespace QR
/-- what the loop keeps: the pairs stand for sums, and result times power to the exponent is one and the same -/
def Keep (p w t : Int) (h : Nat) (a b c d : Int) (e : Nat) : Prop := ∃ R S : Int × Int, p ∣ a - R.1 ∧ p ∣ b - R.2 ∧ p ∣ c - S.1 ∧ p ∣ d - S.2 ∧ mulQ w R (powQ w S e) = powQ w (t, 1) h
theorem Keep.start {p w t : Int} {h : Nat} : Keep p w t h 1 0 (t % p) 1 h :=
  ⟨(1, 0), (t, 1), ⟨0, by simp⟩, ⟨0, by simp⟩, ⟨-(t / p), by have := Int.mul_ediv_add_emod t p; rw [Int.mul_neg]; dsimp only; omega⟩, ⟨0, by simp⟩, by rw [mulQ_comm, mulQ_one]⟩
theorem Keep.odd {p w t a b c d : Int} {h e : Nat} (k : Keep p w t h a b c d e) (ho : e % 2 = 1) : Keep p w t h ((a * c + b * d * w) % p) ((a * d + b * c) % p) ((c * c + d * d * w) % p) ((c * d + d * c) % p) (e / 2) := by
  obtain ⟨R, S, h1, h2, h3, h4, he⟩ := k
  refine ⟨mulQ w R S, mulQ w S S, cg.mulQ1 h1 h2 h3 h4, cg.mulQ2 h1 h2 h3 h4, cg.mulQ1 h3 h4 h3 h4, cg.mulQ2 h3 h4 h3 h4, ?_⟩
  rw [powQ_sq, mulQ_assoc, mulQ_comm w S, ← he]
  rw [show e = 2 * (e / 2) + 1 by omega, powQ, show (2 * (e / 2) + 1) / 2 = e / 2 by omega]
theorem Keep.even {p w t a b c d : Int} {h e : Nat} (k : Keep p w t h a b c d e) (ho : e % 2 = 0) : Keep p w t h a b ((c * c + d * d * w) % p) ((c * d + d * c) % p) (e / 2) := by
  obtain ⟨R, S, h1, h2, h3, h4, he⟩ := k
  refine ⟨R, mulQ w S S, h1, h2, cg.mulQ1 h3 h4 h3 h4, cg.mulQ2 h3 h4 h3 h4, ?_⟩
  rw [powQ_sq, ← he, show 2 * (e / 2) = e by omega]
theorem Keep.fin {p n t a b c d : Int} (hp : OP p) (hn : sgn n p = 1) (hw : sgn (t * t - n) p = -1) (k : Keep p ((t * t - n) % p) t ((p + 1) / 2).toNat a b c d 0) : p ∣ a * a - n := by
  obtain ⟨h, rfl⟩ := odd_half (by have := hp.three; omega) hp.2
  rw [sgn_G] at hn hw
  obtain ⟨R, S, h1, h2, h3, h4, he⟩ := k
  rw [powQ, mulQ_one] at he
  subst he
  have e := Int.mul_ediv_add_emod (t * t - n) (2 * (h : Int) + 1)
  have hwn : (2 * (h : Int) + 1) ∣ t * t - n - (t * t - n) % (2 * (h : Int) + 1) := ⟨(t * t - n) / (2 * (h : Int) + 1), by omega⟩
  rw [show ((2 * (h : Int) + 1 + 1) / 2).toNat = h + 1 by omega] at h1 h2
  refine cipolla (r := (a, b)) hp.1 (w := (t * t - n) % (2 * (h : Int) + 1)) (t := t) ?_ hn hwn h1 h2
  rw [← hw]
  exact G_congr ⟨-((t * t - n) / (2 * (h : Int) + 1)), by rw [Int.mul_neg]; omega⟩
theorem has_root {p n : Int} (hp : OP p) (hn : sgn n p ≠ -1) : ∃ r : Int, 0 ≤ r ∧ r < p ∧ p ∣ r * r - n := by
  have h3 := hp.three
  have : ∃ r : Int, p ∣ r * r - n := by
    by_cases h0 : n % p = 0
    · obtain ⟨c, hc⟩ := Int.dvd_of_emod_eq_zero h0
      exact ⟨0, -c, by rw [hc, Int.mul_neg]; omega⟩
    · obtain ⟨h, rfl⟩ := odd_half (by omega) hp.2
      have hd : ¬ (2 * (h : Int) + 1) ∣ n := fun z => h0 (Int.emod_eq_zero_of_dvd z)
      have e := (sgn_away hp h0).resolve_right hn
      rw [sgn_G] at e
      exact (euler hp.1 hd).mp e
  obtain ⟨r, c, hc⟩ := this
  refine ⟨r % p, Int.emod_nonneg _ (by omega), Int.emod_lt_of_pos _ (by omega), ?_⟩
  have e := Int.mul_ediv_add_emod r p
  generalize r / p = q at *
  generalize r % p = s at *
  exact ⟨c - 2 * q * s - p * q * q, by rw [← e] at hc; grind⟩
theorem root_mod {p n x : Int} (h : p ∣ x * x - n % p) : p ∣ x * x - n := by
  obtain ⟨c, hc⟩ := h
  have e := Int.mul_ediv_add_emod n p
  exact ⟨c - n / p, by rw [Int.mul_sub]; omega⟩
theorem root_neg {p n x : Int} (h : p ∣ x * x - n) : p ∣ (p - x) * (p - x) - n := by
  obtain ⟨c, hc⟩ := h
  exact ⟨p - 2 * x + c, by rw [Int.mul_add, ← hc]; grind⟩
end QR
/-! part m_poly -/
/-! the hours at which a polynomial is 0 -/
namespace QR
def rootsL (a b c p : Int) : List Int := ((List.range p.toNat).map fun i : Nat => (i : Int)).filter fun x => decide ((a * x * x + b * x + c) % p = 0)
theorem asc_range (n : Nat) : ((List.range n).map fun i : Nat => (i : Int)).Pairwise (· < ·) := by
  rw [List.pairwise_map]
  refine (List.pairwise_lt_range (n := n)).imp fun h => by omega
theorem rootsL_asc (a b c p : Int) : (rootsL a b c p).Pairwise (· < ·) := (asc_range p.toNat).filter _
theorem rootsL_mem {a b c p x : Int} (hp : 0 < p) : x ∈ rootsL a b c p ↔ 0 ≤ x ∧ x < p ∧ p ∣ a * x * x + b * x + c := by
  unfold rootsL
  rw [List.mem_filter, List.mem_map, decide_eq_true_iff]
  constructor
  · rintro ⟨⟨i, hi, rfl⟩, h⟩
    have := List.mem_range.mp hi
    exact ⟨by omega, by omega, Int.dvd_of_emod_eq_zero h⟩
  · rintro ⟨h0, h1, h⟩
    exact ⟨⟨x.toNat, List.mem_range.mpr (by omega), by omega⟩, Int.emod_eq_zero_of_dvd h⟩
theorem asc_ext : ∀ {xs ys : List Int}, xs.Pairwise (· < ·) → ys.Pairwise (· < ·) → (∀ k, k ∈ xs ↔ k ∈ ys) → xs = ys
  | [], [], _, _, _ => rfl
  | [], y :: ys, _, _, h => absurd ((h y).mpr List.mem_cons_self) List.not_mem_nil
  | x :: xs, [], _, _, h => absurd ((h x).mp List.mem_cons_self) List.not_mem_nil
  | x :: xs, y :: ys, hx, hy, h => by
    obtain ⟨x1, x2⟩ := List.pairwise_cons.mp hx
    obtain ⟨y1, y2⟩ := List.pairwise_cons.mp hy
    have e : x = y := by
      rcases List.mem_cons.mp ((h x).mp List.mem_cons_self) with z | z
      · exact z
      · rcases List.mem_cons.mp ((h y).mpr List.mem_cons_self) with u | u
        · exact u.symm
        · have := y1 x z
          have := x1 y u
          omega
    subst e
    rw [asc_ext x2 y2 fun k => ?_]
    constructor
    · intro hk
      rcases List.mem_cons.mp ((h k).mp (List.mem_cons_of_mem _ hk)) with z | z
      · have := x1 k hk
        omega
      · exact z
    · intro hk
      rcases List.mem_cons.mp ((h k).mpr (List.mem_cons_of_mem _ hk)) with z | z
      · have := y1 k hk
        omega
      · exact z
theorem roots_none {a b c p : Int} (hp : 0 < p) (h : ∀ x, ¬ p ∣ a * x * x + b * x + c) : rootsL a b c p = [] :=
  asc_ext (rootsL_asc ..) .nil fun k => by rw [rootsL_mem hp]; exact ⟨fun z => absurd z.2.2 (h k), fun z => absurd z List.not_mem_nil⟩
theorem roots_flat {a b c p : Int} (hp : 0 < p) (ha : p ∣ a) (hb : p ∣ b) (hc : ¬ p ∣ c) : rootsL a b c p = [] := roots_none hp fun x h => by
  obtain ⟨u, hu⟩ := ha
  obtain ⟨v, hv⟩ := hb
  obtain ⟨w, hw⟩ := h
  exact hc ⟨w - u * x * x - v * x, by rw [Int.mul_sub, Int.mul_sub, ← hw, hu, hv]; grind⟩
/-- what is congruent within the clock is equal -/
theorem same_hour {p x y : Int} (h : p ∣ x - y) (hx : 0 ≤ x) (hx2 : x < p) (hy : 0 ≤ y) (hy2 : y < p) : x = y := by
  obtain ⟨c, hc⟩ := h
  have : x = y + p * c := by omega
  have e1 := Int.emod_eq_of_lt hx hx2
  rw [this, Int.add_mul_emod_self_left, Int.emod_eq_of_lt hy hy2] at e1
  omega
theorem roots_line {a b c p z : Int} (hp : OP p) (ha : p ∣ a) (hz : p ∣ b * z - 1) : rootsL a b c p = [-c * z % p] := by
  have h3 := hp.three
  have m0 := Int.emod_nonneg (-c * z) (show p ≠ 0 by omega)
  have m1 := Int.emod_lt_of_pos (-c * z) (show 0 < p by omega)
  have e := Int.mul_ediv_add_emod (-c * z) p
  generalize -c * z % p = r at *
  generalize -c * z / p = q at *
  obtain ⟨u, hu⟩ := ha
  obtain ⟨v, hv⟩ := hz
  refine asc_ext (rootsL_asc ..) (List.pairwise_singleton _ _) fun k => ?_
  rw [rootsL_mem (by omega), List.mem_singleton]
  constructor
  · rintro ⟨k0, k1, w, hw⟩
    refine same_hour ⟨w * z - u * k * k * z - v * k + q, ?_⟩ k0 k1 m0 m1
    have e1 : r = -c * z - p * q := by omega
    have e2 : c = p * w - a * k * k - b * k := by omega
    rw [e1, e2, hu]
    have e3 : b * z = p * v + 1 := by omega
    clear e e1 e2 hw hu hv
    grind
  · rintro rfl
    refine ⟨m0, m1, u * k * k + -c * v - b * q, ?_⟩
    have e1 : k = -c * z - p * q := by omega
    have e3 : b * z = p * v + 1 := by omega
    have e4 : b * k = -c * (p * v + 1) - p * (b * q) := by rw [← e3, e1]; grind
    rw [e4, hu]
    grind
theorem disc_id (a b c x : Int) : 4 * a * (a * x * x + b * x + c) = (2 * a * x + b) * (2 * a * x + b) - (b * b - 4 * a * c) := by grind
theorem not_two {p : Int} (hp : OP p) : ¬ p ∣ 2 := fun z => by
  have := hp.three
  have := Int.le_of_dvd (by decide) z
  omega
theorem not_2a {p a : Int} (hp : OP p) (ha : ¬ p ∣ a) : ¬ p ∣ 2 * a := fun z => (hp.1.dvd_mul z).elim (not_two hp) ha
theorem roots_no {a b c p : Int} (hp : OP p) (h : sgn (b * b - 4 * a * c) p = -1) : rootsL a b c p = [] := by
  have h3 := hp.three
  refine roots_none (by omega) fun x hx => ?_
  have hd : p ∣ (2 * a * x + b) * (2 * a * x + b) - (b * b - 4 * a * c) := by
    rw [← disc_id]
    exact Int.dvd_mul_of_dvd_right hx
  obtain ⟨k, rfl⟩ := odd_half (by omega) hp.2
  have hn : ¬ (2 * (k : Int) + 1) ∣ b * b - 4 * a * c := fun z => by
    rw [sgn_at0 hp (Int.emod_eq_zero_of_dvd z)] at h
    cases h
  have := (euler hp.1 hn).mpr ⟨_, hd⟩
  rw [sgn_G] at h
  rw [h] at this
  cases this
theorem roots_two {a b c p s z : Int} (hp : OP p) (ha : ¬ p ∣ a) (hs : p ∣ s * s - (b * b - 4 * a * c)) (hz : p ∣ 2 * a * z - 1) (k : Int) : k ∈ rootsL a b c p ↔ k = (-b - s) * z % p ∨ k = (-b + s) * z % p := by
  have h3 := hp.three
  have key : ∀ k : Int, p ∣ a * k * k + b * k + c ↔ p ∣ 2 * a * k + b + s ∨ p ∣ 2 * a * k + b - s := fun k => by
    have e := disc_id a b c k
    obtain ⟨u, hu⟩ := hs
    constructor
    · rintro ⟨v, hv⟩
      have : p ∣ (2 * a * k + b + s) * (2 * a * k + b - s) := ⟨4 * a * v - u, by rw [show p * (4 * a * v - u) = 4 * a * (p * v) - p * u by grind, ← hu, ← hv]; grind⟩
      exact hp.1.dvd_mul this
    · intro h
      have h2 : p ∣ (2 * a * k + b + s) * (2 * a * k + b - s) := h.elim (fun z => Int.dvd_mul_of_dvd_left z) fun z => Int.dvd_mul_of_dvd_right z
      obtain ⟨v, hv⟩ := h2
      have h4 : p ∣ 2 * a * (2 * (a * k * k + b * k + c)) := ⟨v + u, by rw [show p * (v + u) = p * v + p * u from Int.mul_add _ _ _, ← hu, ← hv]; grind⟩
      have h5 := (hp.1.dvd_mul h4).resolve_left (not_2a hp ha)
      exact (hp.1.dvd_mul h5).resolve_left (not_two hp)
  have sol : ∀ t k : Int, 0 ≤ k → k < p → (p ∣ 2 * a * k + b - t ↔ k = (-b + t) * z % p) := fun t k k0 k1 => by
    have m0 := Int.emod_nonneg ((-b + t) * z) (show p ≠ 0 by omega)
    have m1 := Int.emod_lt_of_pos ((-b + t) * z) (show 0 < p by omega)
    have e := Int.mul_ediv_add_emod ((-b + t) * z) p
    generalize (-b + t) * z % p = r at *
    generalize (-b + t) * z / p = q at *
    obtain ⟨u, hu⟩ := hz
    constructor
    · rintro ⟨v, hv⟩
      refine same_hour ⟨v * z - u * k + q, ?_⟩ k0 k1 m0 m1
      have e1 : r = (-b + t) * z - p * q := by omega
      have e2 : -b + t = 2 * a * k - p * v := by omega
      rw [e1, e2]
      have e3 : 2 * a * z = p * u + 1 := by omega
      clear e e1 e2 hv hu
      grind
    · rintro rfl
      refine ⟨(-b + t) * u - 2 * a * q, ?_⟩
      have e1 : k = (-b + t) * z - p * q := by omega
      have e3 : 2 * a * z = p * u + 1 := by omega
      have e4 : 2 * a * k = (-b + t) * (p * u + 1) - p * (2 * a * q) := by rw [← e3, e1]; grind
      rw [e4]
      grind
  rw [rootsL_mem (by omega)]
  have m0 := fun y => Int.emod_nonneg y (show p ≠ 0 by omega)
  have m1 := fun y => Int.emod_lt_of_pos y (show 0 < p by omega)
  constructor
  · rintro ⟨k0, k1, h⟩
    rcases (key k).mp h with y | y
    · exact .inl ((sol (-s) k k0 k1).mp (by rw [Int.sub_neg]; exact y))
    · exact .inr ((sol s k k0 k1).mp y)
  · intro h
    have k0 : 0 ≤ k := by rcases h with e | e <;> rw [e] <;> exact m0 _
    have k1 : k < p := by rcases h with e | e <;> rw [e] <;> exact m1 _
    refine ⟨k0, k1, (key k).mpr (h.elim (fun e => .inl ?_) fun e => .inr ((sol s k k0 k1).mpr e))⟩
    have := (sol (-s) k k0 k1).mpr e
    rw [Int.sub_neg] at this
    exact this
theorem roots_pair {a b c p s z : Int} (hp : OP p) (ha : ¬ p ∣ a) (hs : p ∣ s * s - (b * b - 4 * a * c)) (hz : p ∣ 2 * a * z - 1) :
    (if (-b - s) * z % p < (-b + s) * z % p then [(-b - s) * z % p, (-b + s) * z % p] else if (-b + s) * z % p < (-b - s) * z % p then [(-b + s) * z % p, (-b - s) * z % p] else [(-b - s) * z % p]) = rootsL a b c p := by
  have key := fun k => roots_two hp ha hs hz k
  generalize (-b - s) * z % p = x at *
  generalize (-b + s) * z % p = y at *
  refine asc_ext ?_ (rootsL_asc ..) fun k => ?_
  · split
    · exact List.pairwise_cons.mpr ⟨fun u hu => by rw [List.mem_singleton.mp hu]; assumption, List.pairwise_singleton _ _⟩
    · split
      · exact List.pairwise_cons.mpr ⟨fun u hu => by rw [List.mem_singleton.mp hu]; assumption, List.pairwise_singleton _ _⟩
      · exact List.pairwise_singleton _ _
  · rw [key k]
    split
    · simp
    · split
      · simp [or_comm]
      · have : x = y := by omega
        subst this
        simp
theorem roots_all {a b c p : Int} (hp : 0 < p) (ha : a % p = 0) (hb : b % p = 0) (hc : c % p = 0) : ((rootsL a b c p).length : Int) = p := by
  obtain ⟨u, hu⟩ := Int.dvd_of_emod_eq_zero ha
  obtain ⟨v, hv⟩ := Int.dvd_of_emod_eq_zero hb
  obtain ⟨w, hw⟩ := Int.dvd_of_emod_eq_zero hc
  have e : rootsL a b c p = (List.range p.toNat).map fun i : Nat => (i : Int) := by
    unfold rootsL
    refine List.filter_eq_self.mpr fun x _ => decide_eq_true (Int.emod_eq_zero_of_dvd ⟨u * x * x + v * x + w, ?_⟩)
    rw [hu, hv, hw]
    grind
  rw [e, List.length_map, List.length_range]
  omega
end QR
/-! part m_hm -/
/-- how many hours are zeros of a polynomial -/
def howMany (a b c p : Int) : Int := if a % p = 0 ∧ b % p = 0 ∧ c % p = 0 then p else ((QR.rootsL a b c p).length : Int)
theorem howMany_len {a b c p : Int} (hp : 0 < p) : howMany a b c p = ((QR.rootsL a b c p).length : Int) := by
  unfold howMany
  split
  · rename_i h
    rw [QR.roots_all hp h.1 h.2.1 h.2.2]
  · rfl
/-! part m_clk -/
/-! odd primes up to 10000019, and Euler's power -/
/-! part m_rtc -/
/-! roots and coefficients -/
namespace QR
theorem root_zero {p n x : Int} (hp : OP p) (h0 : 0 ≤ x) (h1 : 2 * x < p) (hx : p ∣ x * x - n) : x = 0 ↔ sgn n p = 0 := by
  have h3 := hp.three
  obtain ⟨c, hc⟩ := hx
  constructor
  · rintro rfl
    exact sgn_at0 hp (Int.emod_eq_zero_of_dvd ⟨-c, by rw [Int.mul_neg]; omega⟩)
  · intro h
    have hn : n % p = 0 := Classical.byContradiction fun z => by
      rcases sgn_away hp z with e | e <;> rw [e] at h <;> cases h
    obtain ⟨d, hd⟩ := Int.dvd_of_emod_eq_zero hn
    have hxx : p ∣ x * x := ⟨c + d, by rw [Int.mul_add]; omega⟩
    have hx : p ∣ x := (hp.1.dvd_mul hxx).elim id id
    obtain ⟨e, he⟩ := hx
    exact same_hour (p := p) (y := 0) ⟨e, by omega⟩ h0 (by omega) (by omega) (by omega)
/-- how many, by the sign -/
theorem how_sgn {a b c p z : Int} (hp : OP p) (ha : ¬ p ∣ a) (hz : p ∣ 2 * a * z - 1) : ((rootsL a b c p).length : Int) = 1 + sgn (b * b - 4 * a * c) p := by
  have h3 := hp.three
  by_cases hm : sgn (b * b - 4 * a * c) p = -1
  · rw [roots_no hp hm, hm]
    rfl
  · obtain ⟨r, r0, r1, hr⟩ := has_root hp hm
    obtain ⟨s, s0, s1, hs⟩ : ∃ s, 0 ≤ s ∧ 2 * s < p ∧ p ∣ s * s - (b * b - 4 * a * c) := by
      have hodd := hp.2
      by_cases h : 2 * r < p
      · exact ⟨r, r0, h, hr⟩
      · exact ⟨p - r, by omega, by omega, root_neg hr⟩
    have rz := root_zero hp s0 s1 hs
    rw [← roots_pair hp ha hs hz]
    by_cases hs0 : s = 0
    · rw [rz.mp hs0, hs0, Int.sub_zero, Int.add_zero, if_neg (by omega), if_neg (by omega)]
      rfl
    · have hsg : sgn (b * b - 4 * a * c) p = 1 := by
        by_cases hd : (b * b - 4 * a * c) % p = 0
        · exact absurd (rz.mpr (sgn_at0 hp hd)) hs0
        · exact (sgn_away hp hd).resolve_right hm
      have hne : (-b - s) * z % p ≠ (-b + s) * z % p := fun e => by
        have e1 := Int.mul_ediv_add_emod ((-b - s) * z) p
        have e2 := Int.mul_ediv_add_emod ((-b + s) * z) p
        rw [e] at e1
        generalize (-b - s) * z / p = q at *
        generalize (-b + s) * z / p = t at *
        generalize (-b + s) * z % p = y at *
        have hd : p ∣ 2 * (s * z) := ⟨t - q, by rw [Int.mul_sub]; grind⟩
        rcases hp.1.dvd_mul ((hp.1.dvd_mul hd).resolve_left (not_two hp)) with w | w
        · have := Int.le_of_dvd (by omega) w
          omega
        · obtain ⟨v, hv⟩ := hz
          obtain ⟨w, hw⟩ := w
          have h1 : p ∣ 1 := ⟨2 * a * w - v, by rw [Int.mul_sub, ← hv, hw]; grind⟩
          have := Int.le_of_dvd (by decide) h1
          omega
      rw [hsg]
      split
      · rfl
      · rw [if_pos (by omega)]
        rfl
end QR
/-! part m_sums -/
/-! sums over all hours of a clock -/
namespace QR
def suL : List Int → Int
  | [] => 0
  | x :: l => x + suL l
theorem suL_append : ∀ l k : List Int, suL (l ++ k) = suL l + suL k
  | [], k => by simp [suL]
  | x :: l, k => by simp only [List.cons_append, suL, suL_append l k]; omega
theorem suL_perm {l k : List Int} (h : l.Perm k) : suL l = suL k := by
  induction h with
  | nil => rfl
  | cons x _ ih => simp only [suL, ih]
  | swap x y l => simp only [suL]; omega
  | trans _ _ h1 h2 => rw [h1, h2]
theorem Sm_suL : ∀ (n : Nat) (f : Nat → Int), Sm n f = suL ((List.range n).map f)
  | 0, _ => rfl
  | n + 1, f => by
    rw [Sm, Sm_suL n f, List.range_succ, List.map_append, suL_append]
    simp [suL]
theorem Sm_perm {n : Nat} {π : Nat → Nat} (f : Nat → Int) (h1 : ∀ i, i < n → π i < n) (h2 : ∀ i, i < n → ∀ j, j < n → π i = π j → i = j) : Sm n (fun i => f (π i)) = Sm n f := by
  rw [Sm_suL, Sm_suL, show (fun i => f (π i)) = f ∘ π from rfl, ← List.map_map]
  exact suL_perm ((perm_range h1 h2).map f)
theorem Sm_cst (c : Int) : ∀ n : Nat, Sm n (fun _ => c) = n * c
  | 0 => by simp [Sm]
  | n + 1 => by rw [Sm, Sm_cst c n]; push_cast; rw [Int.add_mul, Int.one_mul]
theorem Sm_swp (k : Nat) (f : Nat → Nat → Int) : ∀ h : Nat, Sm h (fun x => Sm k (fun y => f x y)) = Sm k (fun y => Sm h (fun x => f x y))
  | 0 => by
    simp only [Sm]
    rw [Sm_cst]
    simp
  | h + 1 => by
    simp only [Sm]
    rw [Sm_swp k f h, ← Sm_add]
theorem Sm_count (P : Nat → Bool) : ∀ n : Nat, Sm n (fun i => if P i = true then 1 else 0) = (((List.range n).filter P).length : Int)
  | 0 => rfl
  | n + 1 => by
    rw [Sm, Sm_count P n, List.range_succ, List.filter_append, List.length_append]
    by_cases h : P n = true
    · simp [h]
    · simp [h]
theorem Sm_one {n j : Nat} (f : Nat → Int) (hj : j < n) (h : ∀ i, i < n → i ≠ j → f i = 0) : Sm n f = f j := by
  induction n with
  | zero => omega
  | succ n ih =>
    rw [Sm]
    by_cases e : j = n
    · subst e
      have : Sm j f = Sm j (fun _ => 0) := Sm_congr j fun i hi => h i (by omega) (by omega)
      rw [this, Sm_cst]
      omega
    · rw [ih (by omega) fun i hi => h i (by omega), h n (by omega) (by omega)]
      omega
end QR
/-- the sum over the hours of a clock -/
def SP (p : Int) (f : Int → Int) : Int := QR.Sm p.toNat fun i => f (i : Int)
section
variable {p a b c k A C n : Int} {f g : Int → Int}
theorem SP.congr (h : ∀ x, 0 ≤ x → x < p → f x = g x) : SP p f = SP p g := QR.Sm_congr _ fun i hi => h i (by omega) (by omega)
theorem SP.same (h : ∀ x, f x = g x) : SP p f = SP p g := SP.congr fun x _ _ => h x
theorem SP.add : SP p (fun x => f x + g x) = SP p f + SP p g := QR.Sm_add ..
theorem SP.mul : SP p (fun x => c * f x) = c * SP p f := QR.Sm_mul ..
theorem SP.const (h : 0 ≤ p) : SP p (fun _ => c) = p * c := by
  unfold SP
  rw [QR.Sm_cst, Int.toNat_of_nonneg h]
theorem SP.swap {F : Int → Int → Int} : SP p (fun x => SP p (fun y => F x y)) = SP p (fun y => SP p (fun x => F x y)) := QR.Sm_swp ..
def Per (p : Int) (f : Int → Int) : Prop := ∀ x, f (x % p) = f x
theorem Per.of (h : ∀ x y, p ∣ x - y → f x = f y) : Per p f := fun x => h _ _ ⟨-(x / p), by have := Int.mul_ediv_add_emod x p; rw [Int.mul_neg]; omega⟩
theorem SP.reix (op : QR.OP p) (ha : ¬ p ∣ a) (hf : Per p f) : SP p (fun x => f (a * x + c)) = SP p f := by
  have h3 := op.three
  have m1 := fun z => Int.emod_nonneg z (show p ≠ 0 by omega)
  have m2 := fun z => Int.emod_lt_of_pos z (show 0 < p by omega)
  have e : SP p (fun x => f (a * x + c)) = QR.Sm p.toNat (fun i => (fun j : Nat => f (j : Int)) (((a * (i : Int) + c) % p).toNat)) := QR.Sm_congr _ fun i hi => by
    show f (a * (i : Int) + c) = f ((((a * (i : Int) + c) % p).toNat : Nat) : Int)
    rw [Int.toNat_of_nonneg (m1 _), hf]
  rw [e]
  refine QR.Sm_perm (fun j : Nat => f (j : Int)) (fun i hi => by have := m2 (a * (i : Int) + c); have := m1 (a * (i : Int) + c); omega) fun i hi j hj z => ?_
  have z1 : (a * (i : Int) + c) % p = (a * (j : Int) + c) % p := by
    have := m1 (a * (i : Int) + c)
    have := m1 (a * (j : Int) + c)
    omega
  have d : p ∣ a * ((i : Int) - j) := by
    have := Int.dvd_of_emod_eq_zero (Int.emod_eq_emod_iff_emod_sub_eq_zero.mp z1)
    rwa [show a * (i : Int) + c - (a * (j : Int) + c) = a * ((i : Int) - j) by rw [Int.mul_sub]; omega] at this
  have := QR.small_dvd ((op.1.dvd_mul d).resolve_left ha) (by omega) (by omega)
  omega
theorem SP.shift (op : QR.OP p) (hf : Per p f) : SP p (fun x => f (x + c)) = SP p f := by
  have := SP.reix (a := 1) (c := c) op (fun z => by have := Int.le_of_dvd (by decide) z; have := op.three; omega) hf
  simpa using this
theorem SP.scale (op : QR.OP p) (ha : ¬ p ∣ a) (hf : Per p f) : SP p (fun x => f (a * x)) = SP p f := by
  have := SP.reix (c := 0) op ha hf
  simpa using this
/-- one if so, none if not -/
def ind (P : Prop) [Decidable P] : Int := if P then 1 else 0
theorem ind_iff {P Q : Prop} [Decidable P] [Decidable Q] (h : P ↔ Q) : ind P = ind Q := by
  unfold ind
  by_cases p : P
  · rw [if_pos p, if_pos (h.mp p)]
  · rw [if_neg p, if_neg fun q => p (h.mpr q)]
theorem ind_y {P : Prop} [Decidable P] (h : P) : ind P = 1 := if_pos h
theorem ind_n {P : Prop} [Decidable P] (h : ¬ P) : ind P = 0 := if_neg h
theorem dvd_congr {x y : Int} (h : p ∣ x - y) : p ∣ x ↔ p ∣ y := by
  constructor
  · intro d
    have := Int.dvd_sub d h
    rwa [show x - (x - y) = y by omega] at this
  · intro d
    have := Int.dvd_add h d
    rwa [show x - y + y = x by omega] at this
theorem SP.zero_one (op : QR.OP p) : SP p (fun x => ind (p ∣ x)) = 1 := by
  have h3 := op.three
  unfold SP
  rw [QR.Sm_one (j := 0) _ (by omega) fun i hi hn => ind_n fun z => by
    have := Int.le_of_dvd (by omega) z
    omega]
  exact ind_y (Int.dvd_zero p)
theorem SP.lin (op : QR.OP p) (ha : ¬ p ∣ a) : SP p (fun x => ind (p ∣ a * x + c)) = 1 := by
  rw [SP.reix (f := fun x => ind (p ∣ x)) op ha (Per.of fun x y h => ind_iff (dvd_congr h)), SP.zero_one op]
theorem inv_hour (op : QR.OP p) (ha : ¬ p ∣ a) : ∃ z, p ∣ a * z - 1 := by
  have h3 := op.three
  obtain ⟨h, rfl⟩ := odd_half (by omega) op.2
  obtain ⟨j, _, hj⟩ := QR.solve (op.1.cop ha) (a := 1) fun z => by
    have := Int.le_of_dvd (by decide) z
    omega
  exact ⟨(j : Int) + 1, hj⟩
theorem n2_of (op : QR.OP p) : ¬ p ∣ 2 := fun z => by
  have := Int.le_of_dvd (by decide) z
  have := op.three
  omega
theorem SP.ofRoots (h : 0 < p) : SP p (fun x => ind ((a * x * x + b * x + c) % p = 0)) = ((QR.rootsL a b c p).length : Int) := by
  unfold SP QR.rootsL ind
  rw [List.filter_map, List.length_map, ← QR.Sm_count]
  refine QR.Sm_congr _ fun i hi => ?_
  by_cases e : (a * (i : Int) * (i : Int) + b * (i : Int) + c) % p = 0 <;> simp [e]
/-- how many roots a number has -/
theorem SP.root (op : QR.OP p) : SP p (fun x => ind (p ∣ x * x - n)) = 1 + sgn n p := by
  have h3 := op.three
  obtain ⟨z, hz⟩ := inv_hour op (a := 2 * 1) (by rw [Int.mul_one]; exact n2_of op)
  have h1 : ¬ p ∣ 1 := fun z => by have := Int.le_of_dvd (by decide) z; omega
  have e := QR.how_sgn (a := 1) (b := 0) (c := -n) op h1 hz
  rw [← SP.ofRoots (by omega)] at e
  have s4 : sgn (0 * 0 - 4 * 1 * -n) p = sgn n p := by
    rw [show (0 * 0 - 4 * 1 * -n : Int) = 2 * 2 * n by omega, sgn_mul (by omega) op.2, sgn_mul (by omega) op.2, sgn_sq (by omega) op.2, if_pos (op.1.cop (n2_of op)), Int.one_mul]
  rw [s4] at e
  rw [← e]
  refine SP.same fun x => ind_iff ?_
  rw [show 1 * x * x + 0 * x + -n = x * x - n by rw [Int.one_mul]; omega]
  exact ⟨Int.emod_eq_zero_of_dvd, Int.dvd_of_emod_eq_zero⟩
/-- the sum of the signs of the squares and a number -/
theorem SP.sq (op : QR.OP p) (hk : ¬ p ∣ k) : SP p (fun x => sgn (x * x + k) p) = -1 := by
  have h3 := op.three
  have e1 : SP p (fun x => SP p (fun y => ind (p ∣ y * y - (x * x + k)))) = p + SP p (fun x => sgn (x * x + k) p) := by
    rw [SP.same (g := fun x => 1 + sgn (x * x + k) p) fun x => SP.root op, SP.add, SP.const (by omega), Int.mul_one]
  have e2 : SP p (fun x => SP p (fun y => ind (p ∣ y * y - (x * x + k)))) = SP p (fun x => SP p (fun u => ind (p ∣ 2 * u * x + (u * u - k)))) := SP.same fun x => by
    rw [← SP.shift (c := x) (f := fun y => ind (p ∣ y * y - (x * x + k))) op (Per.of fun y z h => ind_iff (dvd_congr (by
      obtain ⟨d, hd⟩ := h
      exact ⟨d * (y + z), by rw [← Int.mul_assoc, ← hd]; grind⟩)))]
    exact SP.same fun u => ind_iff (by rw [show (u + x) * (u + x) - (x * x + k) = 2 * u * x + (u * u - k) by grind])
  rw [e2, SP.swap] at e1
  have e3 : SP p (fun u => SP p (fun x => ind (p ∣ 2 * u * x + (u * u - k)))) = SP p (fun u => 1 + -1 * ind (p ∣ u)) := SP.same fun u => by
    by_cases hu : p ∣ u
    · rw [ind_y hu, SP.same (g := fun _ => 0) fun x => ind_n fun z => hk ?_, SP.const (by omega)]
      · omega
      · obtain ⟨d, rfl⟩ := hu
        obtain ⟨e, he⟩ := z
        exact ⟨2 * d * x + d * (p * d) - e, by rw [Int.mul_sub, ← he]; grind⟩
    · rw [ind_n hu, SP.lin op fun z => (op.1.dvd_mul z).elim (n2_of op) hu]
      rfl
  rw [e3, SP.add, SP.const (by omega), SP.mul, SP.zero_one op] at e1
  omega
theorem sgn_self (op : QR.OP p) (h : ¬ p ∣ a) : sgn a p * sgn a p = 1 := by
  rw [sgn_sq (by have := op.three; omega) op.2, if_pos (op.1.cop h)]
theorem SP.quad (op : QR.OP p) (hA : ¬ p ∣ A) : SP p (fun x => sgn (A * x * x + C) p) = sgn A p * (if p ∣ C then p - 1 else -1) := by
  have h3 := op.three
  have sA := sgn_self op hA
  by_cases hC : p ∣ C
  · rw [if_pos hC]
    rw [SP.same (g := fun x => sgn A p * (1 + -1 * ind (p ∣ x))) fun x => ?_, SP.mul, SP.add, SP.const (by omega), SP.mul, SP.zero_one op]
    · congr 1
      omega
    · rw [show sgn (A * x * x + C) p = sgn (A * (x * x)) p from sgn_congr (by omega) op.2 (by rwa [show A * x * x + C - A * (x * x) = C by rw [Int.mul_assoc]; omega]), sgn_mul (by omega) op.2, sgn_mul (by omega) op.2]
      by_cases hx : p ∣ x
      · rw [ind_y hx, sgn_at0 op (Int.emod_eq_zero_of_dvd hx)]
        rfl
      · rw [ind_n hx, sgn_self op hx]
        rfl
  · rw [if_neg hC]
    have e : SP p (fun x => sgn A p * sgn (A * x * x + C) p) = -1 := by
      rw [SP.same (g := fun x => (fun z => sgn (z * z + A * C) p) (A * x)) fun x => by
        rw [← sgn_mul (by omega) op.2]
        exact congrArg (fun z => sgn z p) (by grind)]
      rw [SP.scale (f := fun z => sgn (z * z + A * C) p) op hA (Per.of fun x y h => sgn_congr (by omega) op.2 (by
        obtain ⟨d, hd⟩ := h
        exact ⟨d * (x + y), by rw [← Int.mul_assoc, ← hd]; grind⟩))]
      exact SP.sq op fun z => (op.1.dvd_mul z).elim hA hC
    rw [SP.mul] at e
    have : sgn A p * (sgn A p * SP p (fun x => sgn (A * x * x + C) p)) = sgn A p * -1 := by rw [e]
    rwa [← Int.mul_assoc, sA, Int.one_mul] at this
/-- the points of a conic -/
def conN (a b c p : Int) : Int := SP p fun x => SP p fun y => ind ((a * x * x + b * y * y - c) % p = 0)
theorem emod_dvd {z : Int} : z % p = 0 ↔ p ∣ z := ⟨Int.dvd_of_emod_eq_zero, Int.emod_eq_zero_of_dvd⟩
/-- how often b y y is a number -/
theorem SP.root2 (op : QR.OP p) (hb : ¬ p ∣ b) : SP p (fun y => ind (p ∣ b * y * y - n)) = 1 + sgn (b * n) p := by
  rw [← SP.root (n := b * n) op, ← SP.scale (f := fun z => ind (p ∣ z * z - b * n)) op hb (Per.of fun y z h => ind_iff (dvd_congr (by
    obtain ⟨d, hd⟩ := h
    exact ⟨d * (y + z), by rw [← Int.mul_assoc, ← hd]; grind⟩)))]
  refine SP.same fun y => ind_iff ?_
  rw [show b * y * (b * y) - b * n = b * (b * y * y - n) by grind]
  exact ⟨fun z => Int.dvd_mul_of_dvd_right z, fun z => (op.1.dvd_mul z).resolve_left hb⟩
theorem conN_swap : conN a b c p = conN b a c p := by
  unfold conN
  rw [SP.swap]
  exact SP.same fun x => SP.same fun y => ind_iff (by rw [show a * y * y + b * x * x - c = b * x * x + a * y * y - c by omega])
theorem conN_00 (op : QR.OP p) (ha : p ∣ a) (hb : p ∣ b) : conN a b c p = if p ∣ c then p * p else 0 := by
  have h3 := op.three
  unfold conN
  have e : ∀ x y : Int, (a * x * x + b * y * y - c) % p = 0 ↔ p ∣ c := fun x y => by
    rw [emod_dvd]
    obtain ⟨d, rfl⟩ := ha
    obtain ⟨e, rfl⟩ := hb
    rw [show p * d * x * x + p * e * y * y - c = p * (d * x * x + e * y * y) + -c by grind]
    constructor
    · rintro ⟨k, hk⟩
      exact ⟨d * x * x + e * y * y - k, by rw [Int.mul_sub, ← hk]; omega⟩
    · rintro ⟨k, hk⟩
      exact ⟨d * x * x + e * y * y - k, by rw [Int.mul_sub, ← hk]; omega⟩
  rw [SP.same (g := fun _ => p * ind (p ∣ c)) fun x => by rw [SP.same (g := fun _ => ind (p ∣ c)) fun y => ind_iff (e x y), SP.const (by omega)], SP.const (by omega)]
  unfold ind
  split
  · rw [Int.mul_one]
  · rw [Int.mul_zero, Int.mul_zero]
theorem conN_0 (op : QR.OP p) (ha : p ∣ a) : conN a b c p = p * ((QR.rootsL b 0 (-c) p).length : Int) := by
  have h3 := op.three
  unfold conN
  rw [← SP.ofRoots (by omega), SP.same (g := fun _ => SP p fun y => ind ((b * y * y + 0 * y + -c) % p = 0)) fun x => SP.same fun y => ind_iff ?_, SP.const (by omega)]
  rw [emod_dvd, emod_dvd]
  obtain ⟨d, rfl⟩ := ha
  exact dvd_congr ⟨d * x * x, by grind⟩
theorem conN_pp (op : QR.OP p) (ha : ¬ p ∣ a) (hb : ¬ p ∣ b) : conN a b c p = if p ∣ c then p + (p - 1) * sgn (-(a * b)) p else p - sgn (-(a * b)) p := by
  have h3 := op.three
  unfold conN
  rw [SP.same (g := fun x => 1 + sgn (-(a * b) * x * x + b * c) p) fun x => ?_, SP.add, SP.const (by omega), SP.quad op (fun z => (op.1.dvd_mul (Int.dvd_neg.mp z)).elim ha hb)]
  · have : p ∣ b * c ↔ p ∣ c := ⟨fun z => (op.1.dvd_mul z).resolve_left hb, fun z => Int.dvd_mul_of_dvd_right z⟩
    by_cases hc : p ∣ c
    · rw [if_pos (this.mpr hc), if_pos hc, Int.mul_one, Int.mul_comm]
    · rw [if_neg fun z => hc (this.mp z), if_neg hc]
      omega
  · rw [SP.same (g := fun y => ind (p ∣ b * y * y - (c - a * x * x))) fun y => ind_iff (by rw [emod_dvd, show a * x * x + b * y * y - c = b * y * y - (c - a * x * x) by omega]), SP.root2 op hb]
    congr 2
    grind
end
/-! part m_agr -/
/-! where two counts agree -/
theorem cmb_ln {f x : Int} {c d : Ct} : (cmbC f c d).ln (x % ((Int.lcm c.m d.m : Nat) : Int)) = trC f (c.ln (x % c.m)) (d.ln (x % d.m)) := by
  show trC f (c.ln (x % ((Int.lcm c.m d.m : Nat) : Int) % c.m)) (d.ln (x % ((Int.lcm c.m d.m : Nat) : Int) % d.m)) = _
  rw [Int.emod_emod_of_dvd _ lcm_l, Int.emod_emod_of_dvd _ lcm_r]
theorem trC_zero {s t : Int × Int × Int} : trC (-1) s t = (0, 0, 0) ↔ s = t := by
  obtain ⟨a, b, c⟩ := s
  obtain ⟨d, e, f⟩ := t
  simp only [trC, Prod.mk.injEq]
  omega
structure Agr (c d : Ct) (m : Int) (R S : List Int) : Prop where
  least : IsLeast m R S
  dvd : m ∣ ((Int.lcm c.m d.m : Nat) : Int)
  germ : ∀ x, Int.gcd x ((Int.lcm c.m d.m : Nat) : Int) = 1 → (x % m ∈ R ↔ c.ln (x % c.m) = d.ln (x % d.m))
  mem : ∀ p, QR.OP p → (memP m R S p ↔ c.val p = d.val p)
theorem van_agr {c d : Ct} {m : Int} {R S : List Int} (ec : c.Ex) (ed : d.Ex) (h : Van (cmbC (-1) c d) m R S) : Agr c d m R S := by
  refine ⟨h.least, h.dvd, fun x hx => ?_, fun p op => ?_⟩
  · rw [h.germ x hx]
    show (cmbC (-1) c d).ln (x % ((Int.lcm c.m d.m : Nat) : Int)) = _ ↔ _
    rw [cmb_ln, trC_zero]
  · rw [h.mem p op, cmb_val ec ed op]
    omega
/-- one pair, one set -/
theorem Agr.uniq {c d : Ct} {m m' : Int} {R S R' S' : List Int} (c1 : 1 ≤ c.m) (d1 : 1 ≤ d.m) (a : Agr c d m R S) (b : Agr c d m' R' S') : m = m' ∧ R = R' ∧ S = S' :=
  least_unique (M := ((Int.lcm c.m d.m : Nat) : Int)) (by have := lcm_pos c1 d1; omega) a.dvd b.dvd a.least b.least (fun x hx => by rw [a.germ x hx, b.germ x hx]) fun p op => by rw [a.mem p op, b.mem p op]
theorem Agr.is {c d : Ct} {m n : Int} {R S R' S' : List Int} (c1 : 1 ≤ c.m) (d1 : 1 ≤ d.m) (a : Agr c d m R S) (l : IsLeast n R' S') (dv : n ∣ ((Int.lcm c.m d.m : Nat) : Int)) (g : ∀ x, Int.gcd x ((Int.lcm c.m d.m : Nat) : Int) = 1 → (c.ln (x % c.m) = d.ln (x % d.m) ↔ x % n ∈ R')) (v : ∀ p, QR.OP p → (c.val p = d.val p ↔ memP n R' S' p)) : m = n ∧ R = R' ∧ S = S' :=
  least_unique (M := ((Int.lcm c.m d.m : Nat) : Int)) (by have := lcm_pos c1 d1; omega) a.dvd dv a.least l (fun x hx => by rw [a.germ x hx, g x hx]) fun p op => by rw [a.mem p op, v p op]
theorem Agr.symm {c d : Ct} {m m' : Int} {R S R' S' : List Int} (c1 : 1 ≤ c.m) (d1 : 1 ≤ d.m) (a : Agr c d m R S) (b : Agr d c m' R' S') : m' = m ∧ R' = R ∧ S' = S := by
  have e : Int.lcm d.m c.m = Int.lcm c.m d.m := Int.lcm_comm ..
  refine b.is d1 c1 a.least (by rw [e]; exact a.dvd) (fun x hx => ?_) fun p op => ?_
  · rw [e] at hx
    rw [a.germ x hx]
    exact ⟨Eq.symm, Eq.symm⟩
  · rw [a.mem p op]
    exact ⟨Eq.symm, Eq.symm⟩
/-- counts that are equal agree for all primes -/
theorem Agr.every {c d : Ct} {m : Int} {R S : List Int} (c1 : 1 ≤ c.m) (d1 : 1 ≤ d.m) (a : Agr c d m R S) (g : ∀ x, Int.gcd x ((Int.lcm c.m d.m : Nat) : Int) = 1 → c.ln (x % c.m) = d.ln (x % d.m)) (v : ∀ p, QR.OP p → c.val p = d.val p) : m = 1 ∧ R = [0] ∧ S = [] := by
  refine a.is c1 d1 least_every ⟨_, (Int.one_mul _).symm⟩ (fun x hx => ⟨fun _ => ?_, fun _ => g x hx⟩) fun p op => ⟨fun _ => ?_, fun _ => v p op⟩
  · rw [Int.emod_one]
    exact List.mem_cons_self
  · exact mem_every op.1.1
theorem Agr.self {c : Ct} {m : Int} {R S : List Int} (c1 : 1 ≤ c.m) (a : Agr c c m R S) : m = 1 ∧ R = [0] ∧ S = [] := a.every c1 c1 (fun _ _ => rfl) fun _ _ => rfl
/-- agreeing nowhere but at some primes -/
theorem Agr.only {c d : Ct} {m m' : Int} {R S R' S' T : List Int} (c1 : 1 ≤ c.m) (d1 : 1 ≤ d.m) (a : Agr c d m R S) (md : Made 1 [] T m' R' S') (g : ∀ x, Int.gcd x ((Int.lcm c.m d.m : Nat) : Int) = 1 → c.ln (x % c.m) ≠ d.ln (x % d.m)) (v : ∀ p, QR.OP p → (c.val p = d.val p ↔ p ∈ T)) : m = m' ∧ R = R' ∧ S = S' := by
  refine a.is c1 d1 md.least (Int.dvd_trans md.sub.dvd ⟨_, (Int.one_mul _).symm⟩) (fun x hx => ⟨fun z => absurd z (g x hx), fun z => ?_⟩) fun p op => ?_
  · exact absurd ((md.sub.same x (by simp)).mp z) List.not_mem_nil
  · rw [v p op, md.mem p (.inl op)]
    unfold memP toldP
    simp
/-- the same lines and the same special primes: one count -/
theorem IsCt.congr {C x : Addr} {G : Hp} {c d : Ct} (h : IsCt C G x c) (m : c.m = d.m) (l : ∀ r ∈ uL c.m, c.ln r = d.ln r) (s : c.sp = d.sp) (v : ∀ p ∈ c.sp, c.sv p = d.sv p) : IsCt C G x d := by
  obtain ⟨dx, dl, ds, es, h1, h2, h3, h4, h5⟩ := h
  refine ⟨dx, dl, ds, es, by rw [← m]; exact h1, h2, by rw [← m]; exact h3, fun e he => ?_, ?_⟩
  · rw [← l e.1 (by rw [← h3]; exact List.mem_map_of_mem he)]
    exact h4 e he
  · rw [← s, h5]
    have e : dV (fun p => V.int (c.sv p)) c.sp = dV (fun p => V.int (d.sv p)) c.sp := by
      unfold dV
      exact List.map_congr_left fun p hp => by show (_, V.int (c.sv p)) = (_, V.int (d.sv p)); rw [v p hp]
    rw [e]
/-- a polynomial, told for each rest -/
def polM (m a b c : Int) : Ct := ⟨m, fun _ => (4 * a, 4 * b, 4 * c), [], fun _ => 0⟩
theorem polM_val {m a b c p : Int} : (polM m a b c).val p = a * p * p + b * p + c := by
  rw [Ct.val, if_neg (show ¬ p ∈ (polM m a b c).sp from List.not_mem_nil)]
  show (4 * a * p * p + 4 * b * p + 4 * c) / 4 = _
  rw [show 4 * a * p * p + 4 * b * p + 4 * c = 4 * (a * p * p + b * p + c) by grind]
  exact Int.mul_ediv_cancel_left _ (by decide)
theorem polM_ex {m a b c : Int} : (polM m a b c).Ex := fun p _ _ => ⟨a * p * p + b * p + c, by
  show 4 * a * p * p + 4 * b * p + 4 * c = _
  grind⟩
theorem polM_ok {m a b c : Int} (hm : m = 1 ∨ m = 4) (ba : Bd 50 a) (bb : Bd 50 b) (bc : Bd 50 c) : (polM m a b c).Ok := by
  have b4 : Bd 3 (4 : Int) := Bd.of (by decide) (by decide)
  refine ⟨show 1 ≤ m by omega, show m ≤ 4000 by omega, fun r _ => ⟨(b4.mul ba).mono (by decide), (b4.mul bb).mono (by decide), (b4.mul bc).mono (by decide)⟩, List.nodup_nil, fun p op _ => ?_⟩
  show p % m ∈ uL m
  refine unit_of (Int.dvd_refl _) (by omega) ((QR.pm_cop op.1).mpr fun d => ?_)
  have := op.three
  have := op.2
  rcases hm with rfl | rfl
  · have := Int.le_of_dvd (by decide) d
    omega
  · have := Int.le_of_dvd (by decide) d
    have : p = 3 := by omega
    subst this
    omega
/-! part m_draw -/
/-- what was drawn below each size -/
def DrawOk : List Int → List Int → Prop
  | [], [] => True
  | d :: ds, s :: ss => (0 ≤ d ∧ d < s) ∧ DrawOk ds ss
  | _, _ => False
theorem DrawOk.len : ∀ {ds ss : List Int}, DrawOk ds ss → ds.length = ss.length
  | [], [], _ => rfl
  | _ :: _, _ :: _, h => by rw [List.length_cons, List.length_cons, DrawOk.len h.2]
  | [], _ :: _, h => h.elim
  | _ :: _, [], h => h.elim
theorem DrawOk.snoc : ∀ {ds ss : List Int} {d s : Int}, DrawOk ds ss → 0 ≤ d ∧ d < s → DrawOk (ds ++ [d]) (ss ++ [s])
  | [], [], _, _, _, h => ⟨h, trivial⟩
  | _ :: _, _ :: _, _, _, h, k => ⟨h.1, DrawOk.snoc h.2 k⟩
  | [], _ :: _, _, _, h, _ => h.elim
  | _ :: _, [], _, _, h, _ => h.elim
theorem DrawOk.cons_inv {ds ss : List Int} {s : Int} (h : DrawOk ds (s :: ss)) : ∃ d ds', ds = d :: ds' ∧ 0 ≤ d ∧ d < s ∧ DrawOk ds' ss := by
  cases ds with
  | nil => exact h.elim
  | cons d ds' => exact ⟨d, ds', rfl, h.1.1, h.1.2, h.2⟩
theorem DrawOk.nil_inv {ds : List Int} (h : DrawOk ds []) : ds = [] := by
  cases ds with
  | nil => rfl
  | cons d ds' => exact h.elim
/-! part m_cut -/
/-! ## the text by places -/
def topS (i : Nat) : Stmt := PySem.Challenge.pw_everyprime_k75_whole_counts_that_agree.main.body.getD i (.Pass ⟨0, 0, 0, 0⟩)
abbrev s_Count_init : Stmt := inClass (topS 53) 0
theorem sc_Count_init : FnScope ["self", "modulus", "lines", "special"] ["self", "modulus", "lines", "special"] (defScope s_Count_init) := ⟨rfl, rfl, rfl, by decide +kernel, rfl, by decide +kernel, by decide +kernel⟩
abbrev s_Count_value_at : Stmt := inClass (topS 53) 2
theorem sc_Count_value_at : FnScope ["self", "p", "a", "b", "c"] ["self", "p"] (defScope s_Count_value_at) := ⟨rfl, rfl, rfl, by decide +kernel, rfl, by decide +kernel, by decide +kernel⟩
abbrev s_common : Stmt := topS 14
theorem sc_common : FnScope ["a", "b", "first", "second"] ["a", "b"] (defScope s_common) := ⟨rfl, rfl, rfl, by decide +kernel, rfl, by decide +kernel, by decide +kernel⟩
abbrev s_units : Stmt := topS 49
abbrev s_units_counts : Stmt := topS 49
theorem sc_units_counts : FnScope ["modulus", "rest"] ["modulus"] (defScope s_units_counts) := ⟨rfl, rfl, rfl, by decide +kernel, rfl, by decide +kernel, by decide +kernel⟩
abbrev s_combined : Stmt := topS 54
abbrev s_factors : Stmt := topS 15
theorem sc_factors : FnScope ["n", "found", "divisor", "exponent"] ["n"] (defScope s_factors) := ⟨rfl, rfl, rfl, by decide +kernel, rfl, by decide +kernel, by decide +kernel⟩
abbrev s_odd_primes_of : Stmt := topS 52
theorem sc_odd_primes_of : FnScope ["n", "prime", "exponent"] ["n"] (defScope s_odd_primes_of) := ⟨rfl, rfl, rfl, by decide +kernel, rfl, by decide +kernel, by decide +kernel⟩
abbrev s_is_prime : Stmt := topS 16
theorem sc_is_prime : FnScope ["n", "divisor"] ["n"] (defScope s_is_prime) := ⟨rfl, rfl, rfl, by decide +kernel, rfl, by decide +kernel, by decide +kernel⟩
abbrev s_candidates : Stmt := topS 56
theorem sc_candidates : FnScope ["line", "a", "b", "c"] ["line"] (defScope s_candidates) := ⟨rfl, rfl, rfl, by decide +kernel, rfl, by decide +kernel, by decide +kernel⟩
abbrev s_checked_modulus : Stmt := topS 33
abbrev s_checked_singles : Stmt := topS 35
theorem sc_checked_singles : FnScope ["singles", "p"] ["singles"] (defScope s_checked_singles) := ⟨rfl, rfl, rfl, by decide +kernel, rfl, by decide +kernel, by decide +kernel⟩
abbrev s_units_values : Stmt := topS 30
theorem sc_units_values : FnScope ["modulus", "rest"] ["modulus"] (defScope s_units_values) := ⟨rfl, rfl, rfl, by decide +kernel, rfl, by decide +kernel, by decide +kernel⟩
abbrev s_shortened : Stmt := topS 36
theorem sc_shortened : FnScope ["modulus", "rests", "prime", "smaller", "kept", "rest", "lifts", "found", "k", "lift"] ["modulus", "rests", "prime"] (defScope s_shortened) := ⟨rfl, rfl, rfl, by decide +kernel, rfl, by decide +kernel, by decide +kernel⟩
abbrev s_toggled : Stmt := topS 38
theorem sc_toggled : FnScope ["singles", "p", "other"] ["singles", "p"] (defScope s_toggled) := ⟨rfl, rfl, rfl, by decide +kernel, rfl, by decide +kernel, by decide +kernel⟩
abbrev s_told_by : Stmt := topS 37
theorem sc_told_by : FnScope ["modulus", "rests", "p"] ["modulus", "rests", "p"] (defScope s_told_by) := ⟨rfl, rfl, rfl, by decide +kernel, rfl, by decide +kernel, by decide +kernel⟩
abbrev s_least_description : Stmt := topS 39
theorem sc_least_description : FnScope ["modulus", "rests", "singles", "prime", "exponent", "kept"] ["modulus", "rests", "singles"] (defScope s_least_description) := ⟨rfl, rfl, rfl, by decide +kernel, rfl, by decide +kernel, by decide +kernel⟩
abbrev s_checked_modulus_values : Stmt := topS 33
theorem sc_checked_modulus_values : FnScope ["modulus"] ["modulus"] (defScope s_checked_modulus_values) := ⟨rfl, rfl, rfl, by decide +kernel, rfl, by decide +kernel, by decide +kernel⟩
abbrev s_Primes_init : Stmt := inClass (topS 46) 0
theorem sc_Primes_init : FnScope ["self", "modulus", "rests", "singles", "rest", "found"] ["self", "modulus", "rests", "singles"] (defScope s_Primes_init) := ⟨rfl, rfl, rfl, by decide +kernel, rfl, by decide +kernel, by decide +kernel⟩
abbrev s_vanishing : Stmt := topS 57
theorem sc_vanishing : FnScope ["count", "rests", "suspects", "rest", "line", "singles", "p"] ["count"] (defScope s_vanishing) := ⟨rfl, rfl, rfl, by decide +kernel, rfl, by decide +kernel, by decide +kernel⟩
abbrev s_combined_counts : Stmt := topS 54
theorem sc_combined_counts : FnScope ["first", "second", "factor", "modulus", "lines", "rest", "one", "two", "special", "p", "i", "j"] ["first", "second", "factor"] (defScope s_combined_counts) := ⟨rfl, rfl, rfl, by decide +kernel, rfl, by decide +kernel, by decide +kernel⟩
abbrev s_Count_equal : Stmt := inClass (topS 53) 6
theorem sc_Count_equal : FnScope ["self", "other"] ["self", "other"] (defScope s_Count_equal) := ⟨rfl, rfl, rfl, by decide +kernel, rfl, by decide +kernel, by decide +kernel⟩
abbrev s_polynomial : Stmt := topS 58
theorem sc_polynomial : FnScope ["a", "b", "c"] ["a", "b", "c"] (defScope s_polynomial) := ⟨rfl, rfl, rfl, by decide +kernel, rfl, by decide +kernel, by decide +kernel⟩
abbrev s_core : Stmt := topS 17
theorem sc_core : FnScope ["n", "squarefree", "side", "prime", "exponent", "count"] ["n"] (defScope s_core) := ⟨rfl, rfl, rfl, by decide +kernel, rfl, by decide +kernel, by decide +kernel⟩
abbrev s_conductor : Stmt := topS 48
theorem sc_conductor : FnScope ["n", "squarefree"] ["n"] (defScope s_conductor) := ⟨rfl, rfl, rfl, by decide +kernel, rfl, by decide +kernel, by decide +kernel⟩
abbrev s_checked_modulus_signs : Stmt := topS 9
theorem sc_checked_modulus_signs : FnScope ["m"] ["m"] (defScope s_checked_modulus_signs) := ⟨rfl, rfl, rfl, by decide +kernel, rfl, by decide +kernel, by decide +kernel⟩
abbrev s_factor_of : Stmt := topS 11
theorem sc_factor_of : FnScope ["rule", "n", "m"] ["rule", "n", "m"] (defScope s_factor_of) := ⟨rfl, rfl, rfl, by decide +kernel, rfl, by decide +kernel, by decide +kernel⟩
abbrev s_sign : Stmt := topS 12
theorem sc_sign : FnScope ["n", "m", "result"] ["n", "m"] (defScope s_sign) := ⟨rfl, rfl, rfl, by decide +kernel, rfl, by decide +kernel, by decide +kernel⟩
abbrev s_sign_by_rest : Stmt := topS 51
theorem sc_sign_by_rest : FnScope ["n", "rest", "modulus", "odd"] ["n", "rest", "modulus"] (defScope s_sign_by_rest) := ⟨rfl, rfl, rfl, by decide +kernel, rfl, by decide +kernel, by decide +kernel⟩
abbrev s_checked_clock : Stmt := topS 20
theorem sc_checked_clock : FnScope ["p"] ["p"] (defScope s_checked_clock) := ⟨rfl, rfl, rfl, by decide +kernel, rfl, by decide +kernel, by decide +kernel⟩
abbrev s_inverse : Stmt := topS 24
theorem sc_inverse : FnScope ["n", "p", "result", "power", "exponent"] ["n", "p"] (defScope s_inverse) := ⟨rfl, rfl, rfl, by decide +kernel, rfl, by decide +kernel, by decide +kernel⟩
abbrev s_times_pair : Stmt := topS 21
theorem sc_times_pair : FnScope ["first", "second", "w", "p", "a", "b", "c", "d"] ["first", "second", "w", "p"] (defScope s_times_pair) := ⟨rfl, rfl, rfl, by decide +kernel, rfl, by decide +kernel, by decide +kernel⟩
abbrev s_some_root : Stmt := topS 22
theorem sc_some_root : FnScope ["n", "p", "shift", "w", "result", "power", "exponent"] ["n", "p"] (defScope s_some_root) := ⟨rfl, rfl, rfl, by decide +kernel, rfl, by decide +kernel, by decide +kernel⟩
abbrev s_root : Stmt := topS 23
theorem sc_root : FnScope ["n", "p", "found"] ["n", "p"] (defScope s_root) := ⟨rfl, rfl, rfl, by decide +kernel, rfl, by decide +kernel, by decide +kernel⟩
abbrev s_roots : Stmt := topS 25
theorem sc_roots : FnScope ["a", "b", "c", "p", "side", "half"] ["a", "b", "c", "p"] (defScope s_roots) := ⟨rfl, rfl, rfl, by decide +kernel, rfl, by decide +kernel, by decide +kernel⟩
abbrev s_how_many : Stmt := topS 26
theorem sc_how_many : FnScope ["a", "b", "c", "p", "found"] ["a", "b", "c", "p"] (defScope s_how_many) := ⟨rfl, rfl, rfl, by decide +kernel, rfl, by decide +kernel, by decide +kernel⟩
abbrev s_conic_at : Stmt := topS 60
theorem sc_conic_at : FnScope ["a", "b", "c", "p"] ["a", "b", "c", "p"] (defScope s_conic_at) := ⟨rfl, rfl, rfl, by decide +kernel, rfl, by decide +kernel, by decide +kernel⟩
abbrev s_conic : Stmt := topS 61
theorem sc_conic : FnScope ["a", "b", "c", "modulus", "lines", "rest", "s", "product", "p"] ["a", "b", "c"] (defScope s_conic) := ⟨rfl, rfl, rfl, by decide +kernel, rfl, by decide +kernel, by decide +kernel⟩
abbrev s_three : Stmt := topS 62
theorem sc_three : FnScope ["c", "modulus", "lines", "rest", "p"] ["c"] (defScope s_three) := ⟨rfl, rfl, rfl, by decide +kernel, rfl, by decide +kernel, by decide +kernel⟩
abbrev s_solutions : Stmt := topS 63
theorem sc_solutions : FnScope ["a", "b", "c", "d", "modulus", "lines", "rest", "product", "p"] ["a", "b", "c"] (defScope s_solutions) := ⟨rfl, rfl, rfl, by decide +kernel, rfl, by decide +kernel, by decide +kernel⟩
abbrev s_neighbours : Stmt := topS 64
theorem sc_neighbours : FnScope ["s", "t"] ["s", "t"] (defScope s_neighbours) := ⟨rfl, rfl, rfl, by decide +kernel, rfl, by decide +kernel, by decide +kernel⟩
abbrev s_Primes_contains : Stmt := inClass (topS 46) 6
theorem sc_Primes_contains : FnScope ["self", "p"] ["self", "p"] (defScope s_Primes_contains) := ⟨rfl, rfl, rfl, by decide +kernel, rfl, by decide +kernel, by decide +kernel⟩
abbrev s_indicator : Stmt := topS 59
theorem sc_indicator : FnScope ["found", "rest", "lines", "p", "special"] ["found"] (defScope s_indicator) := ⟨rfl, rfl, rfl, by decide +kernel, rfl, by decide +kernel, by decide +kernel⟩
abbrev s_law_count : Stmt := topS 71
theorem sc_law_count : FnScope ["_law_drawn", "_law_which", "_law_first", "_law_second", "_law_third"] ["_law_drawn"] (defScope s_law_count) := ⟨rfl, rfl, rfl, by decide +kernel, rfl, by decide +kernel, by decide +kernel⟩
abbrev s_law_equal : Stmt := topS 72
theorem sc_law_equal : FnScope ["_law_first", "_law_second"] ["_law_first", "_law_second"] (defScope s_law_equal) := ⟨rfl, rfl, rfl, by decide +kernel, rfl, by decide +kernel, by decide +kernel⟩
abbrev s_law_wide : Stmt := topS 73
theorem sc_law_wide : FnScope ["_law_first", "_law_second", "e"] ["_law_first", "_law_second"] (defScope s_law_wide) := ⟨rfl, rfl, rfl, by decide +kernel, rfl, by decide +kernel, by decide +kernel⟩
abbrev s_Count_add : Stmt := inClass (topS 53) 4
theorem sc_Count_add : FnScope ["self", "other"] ["self", "other"] (defScope s_Count_add) := ⟨rfl, rfl, rfl, by decide +kernel, rfl, by decide +kernel, by decide +kernel⟩
abbrev s_Count_sub : Stmt := inClass (topS 53) 5
theorem sc_Count_sub : FnScope ["self", "other"] ["self", "other"] (defScope s_Count_sub) := ⟨rfl, rfl, rfl, by decide +kernel, rfl, by decide +kernel, by decide +kernel⟩
abbrev s_Primes_every : Stmt := inClass (topS 46) 1
theorem sc_Primes_every : FnScope ["cls"] ["cls"] (defScope s_Primes_every) := ⟨rfl, rfl, rfl, by decide +kernel, rfl, by decide +kernel, by decide +kernel⟩
abbrev s_Primes_eq : Stmt := inClass (topS 46) 11
theorem sc_Primes_eq : FnScope ["self", "other"] ["self", "other"] (defScope s_Primes_eq) := ⟨rfl, rfl, rfl, by decide +kernel, rfl, by decide +kernel, by decide +kernel⟩
abbrev s_Count_eq : Stmt := inClass (topS 53) 7
theorem sc_Count_eq : FnScope ["self", "other"] ["self", "other"] (defScope s_Count_eq) := ⟨rfl, rfl, rfl, by decide +kernel, rfl, by decide +kernel, by decide +kernel⟩
abbrev s_law_minus : Stmt := topS 74
theorem sc_law_minus : FnScope ["_law_first", "_law_second", "_law_told", "e"] ["_law_first", "_law_second"] (defScope s_law_minus) := ⟨rfl, rfl, rfl, by decide +kernel, rfl, by decide +kernel, by decide +kernel⟩
abbrev s_law_same : Stmt := topS 75
theorem sc_law_same : FnScope ["_law_first", "_law_second", "e"] ["_law_first", "_law_second"] (defScope s_law_same) := ⟨rfl, rfl, rfl, by decide +kernel, rfl, by decide +kernel, by decide +kernel⟩
abbrev s_Primes_only : Stmt := inClass (topS 46) 3
theorem sc_Primes_only : FnScope ["cls", "ps"] ["cls", "ps"] (defScope s_Primes_only) := ⟨rfl, rfl, rfl, by decide +kernel, rfl, by decide +kernel, by decide +kernel⟩
abbrev s_law_great_prime : Stmt := topS 76
theorem sc_law_great_prime : FnScope ["_law_q", "_law_total", "_law_count_here"] ["_law_q"] (defScope s_law_great_prime) := ⟨rfl, rfl, rfl, by decide +kernel, rfl, by decide +kernel, by decide +kernel⟩
abbrev s_odd_divisors : Stmt := topS 32
theorem sc_odd_divisors : FnScope ["modulus", "prime", "exponent"] ["modulus"] (defScope s_odd_divisors) := ⟨rfl, rfl, rfl, by decide +kernel, rfl, by decide +kernel, by decide +kernel⟩
abbrev s_Primes_by_rest : Stmt := inClass (topS 46) 4
theorem sc_Primes_by_rest : FnScope ["cls", "modulus", "rests", "rest", "coprime", "p"] ["cls", "modulus", "rests"] (defScope s_Primes_by_rest) := ⟨rfl, rfl, rfl, by decide +kernel, rfl, by decide +kernel, by decide +kernel⟩
abbrev s_joined_answer : Stmt := topS 40
theorem sc_joined_answer : FnScope ["rule", "first", "second"] ["rule", "first", "second"] (defScope s_joined_answer) := ⟨rfl, rfl, rfl, by decide +kernel, rfl, by decide +kernel, by decide +kernel⟩
abbrev s_combined_values : Stmt := topS 41
theorem sc_combined_values : FnScope ["first", "second", "rule", "modulus", "rest", "first_rests", "second_rests", "rests", "one", "singles", "p"] ["first", "second", "rule"] (defScope s_combined_values) := ⟨rfl, rfl, rfl, by decide +kernel, rfl, by decide +kernel, by decide +kernel⟩
abbrev s_Primes_and : Stmt := inClass (topS 46) 7
theorem sc_Primes_and : FnScope ["self", "other"] ["self", "other"] (defScope s_Primes_and) := ⟨rfl, rfl, rfl, by decide +kernel, rfl, by decide +kernel, by decide +kernel⟩
abbrev s_Primes_invert : Stmt := inClass (topS 46) 10
theorem sc_Primes_invert : FnScope ["self", "rests", "singles", "p", "rest"] ["self"] (defScope s_Primes_invert) := ⟨rfl, rfl, rfl, by decide +kernel, rfl, by decide +kernel, by decide +kernel⟩
abbrev s_law_is_prime : Stmt := topS 69
theorem sc_law_is_prime : FnScope ["_law_n", "_law_k"] ["_law_n"] (defScope s_law_is_prime) := ⟨rfl, rfl, rfl, by decide +kernel, rfl, by decide +kernel, by decide +kernel⟩
abbrev s_law_prime_from : Stmt := topS 70
theorem sc_law_prime_from : FnScope ["_law_n"] ["_law_n"] (defScope s_law_prime_from) := ⟨rfl, rfl, rfl, by decide +kernel, rfl, by decide +kernel, by decide +kernel⟩
abbrev s_law_far_primes : Stmt := topS 77
theorem sc_law_far_primes : FnScope ["_law_drawn", "_law_q", "_law_zero", "_law_found", "_law_far", "_law_one_prime", "_law_other", "_law_both"] ["_law_drawn"] (defScope s_law_far_primes) := ⟨rfl, rfl, rfl, by decide +kernel, rfl, by decide +kernel, by decide +kernel⟩
abbrev s_Count_call : Stmt := inClass (topS 53) 1
theorem sc_Count_call : FnScope ["self", "p"] ["self", "p"] (defScope s_Count_call) := ⟨rfl, rfl, rfl, by decide +kernel, rfl, by decide +kernel, by decide +kernel⟩
abbrev s_law_is_integer : Stmt := topS 68
theorem sc_law_is_integer : FnScope ["_law_actual"] ["_law_actual"] (defScope s_law_is_integer) := ⟨rfl, rfl, rfl, by decide +kernel, rfl, by decide +kernel, by decide +kernel⟩
abbrev s_law_draws : Stmt := topS 67
theorem sc_law_draws : FnScope ["_law_cell_here", "_law_sizes", "_law_drawn", "_law_left", "_law_at", "_law_mixed"] ["_law_cell_here", "_law_sizes"] (defScope s_law_draws) := ⟨rfl, rfl, rfl, by decide +kernel, rfl, by decide +kernel, by decide +kernel⟩
abbrev s_law_cell : Stmt := topS 66
theorem sc_law_cell : FnScope ["_law_script", "_law_k"] ["_law_script", "_law_k"] (defScope s_law_cell) := ⟨rfl, rfl, rfl, by decide +kernel, rfl, by decide +kernel, by decide +kernel⟩
abbrev s_law : Stmt := topS 78
theorem sc_law : FnScope ["_law_script", "_law_drawn", "_law_first", "_law_other", "_law_second", "_law_found", "_law_told", "_law_wanted", "_law_p", "_law_clocks", "_law_zero", "_law_four", "_law_third", "_law_agreed"] ["_law_script"] (defScope s_law) := ⟨rfl, rfl, rfl, by decide +kernel, rfl, by decide +kernel, by decide +kernel⟩
abbrev s_BadModulus_init : Stmt := inClass (topS 3) 0
abbrev s_BadPrime_init : Stmt := inClass (topS 5) 0
abbrev s_BadRest_init : Stmt := inClass (topS 4) 0
abbrev s_TooWide_init : Stmt := inClass (topS 6) 0
/-- the addresses of the classes -/
structure Adr where
  c_BadModulus : Addr
  c_BadPrime : Addr
  c_BadRest : Addr
  c_TooWide : Addr
  c_Primes : Addr
  c_Count : Addr
  c_base : Addr
  t_MOST_MODULUS : Tok
structure Txt (K : PySem.W.Frag) (mg : Str → Option Value) (Ad : Adr) : Prop where
  b_abs : mg "abs" = none
  b_bool : mg "bool" = none
  b_int : mg "int" = none
  b_isinstance : mg "isinstance" = none
  b_len : mg "len" = none
  b_list : mg "list" = none
  b_max : mg "max" = none
  b_min : mg "min" = none
  b_range : mg "range" = none
  b_set : mg "set" = none
  b_sorted : mg "sorted" = none
  b_tuple : mg "tuple" = none
  b_zip : mg "zip" = none
  d_Count_init : MkAt K mg "Count" Ad.c_Count "Count.__init__" s_Count_init ["self", "modulus", "lines", "special"]
  d_Count_value_at : MethAt K Ad.c_Count "value_at" "Count.value_at" s_Count_value_at ["self", "p"]
  d_common : DefAt K mg "common" s_common ["a", "b"]
  d_units : DefAt K mg "units" s_units ["modulus"]
  d_units_counts : DefAtA K mg "units_counts" "units" s_units_counts ["modulus"]
  d_combined : DefAt K mg "combined" s_combined ["first", "second", "factor"]
  d_factors : DefAt K mg "factors" s_factors ["n"]
  d_odd_primes_of : DefAt K mg "odd_primes_of" s_odd_primes_of ["n"]
  d_is_prime : DefAt K mg "is_prime" s_is_prime ["n"]
  d_candidates : DefAt K mg "candidates" s_candidates ["line"]
  d_checked_modulus : DefAt K mg "checked_modulus" s_checked_modulus ["modulus"]
  d_checked_singles : DefAt K mg "checked_singles" s_checked_singles ["singles"]
  d_units_values : DefAtA K mg "units_values" "units" s_units_values ["modulus"]
  d_shortened : DefAt K mg "shortened" s_shortened ["modulus", "rests", "prime"]
  d_toggled : DefAt K mg "toggled" s_toggled ["singles", "p"]
  d_told_by : DefAt K mg "told_by" s_told_by ["modulus", "rests", "p"]
  d_least_description : DefAt K mg "least_description" s_least_description ["modulus", "rests", "singles"]
  d_checked_modulus_values : DefAtA K mg "checked_modulus_values" "checked_modulus" s_checked_modulus_values ["modulus"]
  d_Primes_init : MkAt K mg "Primes" Ad.c_Primes "Primes.__init__" s_Primes_init ["self", "modulus", "rests", "singles"]
  d_vanishing : DefAt K mg "vanishing" s_vanishing ["count"]
  d_combined_counts : DefAtA K mg "combined_counts" "combined" s_combined_counts ["first", "second", "factor"]
  d_Count_equal : MethAt K Ad.c_Count "equal" "Count.equal" s_Count_equal ["self", "other"]
  d_polynomial : DefAt K mg "polynomial" s_polynomial ["a", "b", "c"]
  d_core : DefAt K mg "core" s_core ["n"]
  d_conductor : DefAt K mg "conductor" s_conductor ["n"]
  d_checked_modulus_signs : DefAtA K mg "checked_modulus_signs" "checked_modulus" s_checked_modulus_signs ["m"]
  d_factor_of : DefAt K mg "factor_of" s_factor_of ["rule", "n", "m"]
  d_sign : DefAt K mg "sign" s_sign ["n", "m"]
  d_sign_by_rest : DefAt K mg "sign_by_rest" s_sign_by_rest ["n", "rest", "modulus"]
  d_checked_clock : DefAt K mg "checked_clock" s_checked_clock ["p"]
  d_inverse : DefAt K mg "inverse" s_inverse ["n", "p"]
  d_times_pair : DefAt K mg "times_pair" s_times_pair ["first", "second", "w", "p"]
  d_some_root : DefAt K mg "some_root" s_some_root ["n", "p"]
  d_root : DefAt K mg "root" s_root ["n", "p"]
  d_roots : DefAt K mg "roots" s_roots ["a", "b", "c", "p"]
  d_how_many : DefAt K mg "how_many" s_how_many ["a", "b", "c", "p"]
  d_conic_at : DefAt K mg "conic_at" s_conic_at ["a", "b", "c", "p"]
  d_conic : DefAt K mg "conic" s_conic ["a", "b", "c"]
  d_three : DefAt K mg "three" s_three ["c"]
  d_solutions : DefAt K mg "solutions" s_solutions ["a", "b", "c"]
  d_neighbours : DefAt K mg "neighbours" s_neighbours ["s", "t"]
  d_Primes_contains : MethAt K Ad.c_Primes "__contains__" "Primes.__contains__" s_Primes_contains ["self", "p"]
  d_indicator : DefAt K mg "indicator" s_indicator ["found"]
  d_law_count : DefAt K mg "_law_count" s_law_count ["_law_drawn"]
  d_law_equal : DefAt K mg "_law_equal" s_law_equal ["_law_first", "_law_second"]
  d_law_wide : DefAt K mg "_law_wide" s_law_wide ["_law_first", "_law_second"]
  d_Count_add : MethAt K Ad.c_Count "__add__" "Count.__add__" s_Count_add ["self", "other"]
  d_Count_sub : MethAt K Ad.c_Count "__sub__" "Count.__sub__" s_Count_sub ["self", "other"]
  d_Primes_every : CMAt K Ad.c_Primes "every" "Primes.every" s_Primes_every
  d_Primes_eq : MethAt K Ad.c_Primes "__eq__" "Primes.__eq__" s_Primes_eq ["self", "other"]
  d_Count_eq : MethAt K Ad.c_Count "__eq__" "Count.__eq__" s_Count_eq ["self", "other"]
  d_law_minus : DefAt K mg "_law_minus" s_law_minus ["_law_first", "_law_second"]
  d_law_same : DefAt K mg "_law_same" s_law_same ["_law_first", "_law_second"]
  d_Primes_only : CMAt K Ad.c_Primes "only" "Primes.only" s_Primes_only
  d_law_great_prime : DefAt K mg "_law_great_prime" s_law_great_prime ["_law_q"]
  d_odd_divisors : DefAt K mg "odd_divisors" s_odd_divisors ["modulus"]
  d_Primes_by_rest : CMAt K Ad.c_Primes "by_rest" "Primes.by_rest" s_Primes_by_rest
  d_joined_answer : DefAt K mg "joined_answer" s_joined_answer ["rule", "first", "second"]
  d_combined_values : DefAtA K mg "combined_values" "combined" s_combined_values ["first", "second", "rule"]
  d_Primes_and : MethAt K Ad.c_Primes "__and__" "Primes.__and__" s_Primes_and ["self", "other"]
  d_Primes_invert : MethAt K Ad.c_Primes "__invert__" "Primes.__invert__" s_Primes_invert ["self"]
  d_law_is_prime : DefAt K mg "_law_is_prime" s_law_is_prime ["_law_n"]
  d_law_prime_from : DefAt K mg "_law_prime_from" s_law_prime_from ["_law_n"]
  d_law_far_primes : DefAt K mg "_law_far_primes" s_law_far_primes ["_law_drawn"]
  d_Count_call : MethAt K Ad.c_Count "__call__" "Count.__call__" s_Count_call ["self", "p"]
  d_law_is_integer : DefAt K mg "_law_is_integer" s_law_is_integer ["_law_actual"]
  d_law_draws : DefAt K mg "_law_draws" s_law_draws ["_law_cell_here", "_law_sizes"]
  d_law_cell : DefAt K mg "_law_cell" s_law_cell ["_law_script", "_law_k"]
  g_Primes : mg "Primes" = some (.ref Ad.c_Primes)
  cl_Primes : Cls K Ad.c_Primes
  sf_Primes : PySem.W.selfFirst K Ad.c_Primes = true
  ty_Primes : ∀ (H : Hp) (a dx : Addr) (fs : List (Str × V)), H a = some (.ins Ad.c_Primes dx fs) → TyX K H (.ref a) (.ref Ad.c_Primes)
  ki_Primes : PySem.W.kitOne K (.ref Ad.c_Primes) (.ref Ad.c_Primes) = some true
  kl_Primes : PySem.W.kitOne K (.type "list") (.ref Ad.c_Primes) = some false
  nl_Primes : PySem.W.notFirst K Ad.c_Primes (.type "list") = true
  nf_Primes_modulus : NoAttr K Ad.c_Primes "modulus"
  nf_Primes_rests : NoAttr K Ad.c_Primes "rests"
  nf_Primes_singles : NoAttr K Ad.c_Primes "singles"
  g_Count : mg "Count" = some (.ref Ad.c_Count)
  cl_Count : Cls K Ad.c_Count
  sf_Count : PySem.W.selfFirst K Ad.c_Count = true
  ty_Count : ∀ (H : Hp) (a dx : Addr) (fs : List (Str × V)), H a = some (.ins Ad.c_Count dx fs) → TyX K H (.ref a) (.ref Ad.c_Count)
  ki_Count : PySem.W.kitOne K (.ref Ad.c_Count) (.ref Ad.c_Count) = some true
  kl_Count : PySem.W.kitOne K (.type "list") (.ref Ad.c_Count) = some false
  nl_Count : PySem.W.notFirst K Ad.c_Count (.type "list") = true
  kz_Count : PySem.W.kitOne K (.type "int") (.ref Ad.c_Count) = some false
  fi_Count : ∀ g, PySem.W.findIn K (.ref Ad.c_Count) "__call__" = some (some (.ref g)) → PySem.W.fnIn K g = true
  nf_Count_lines : NoAttr K Ad.c_Count "lines"
  nf_Count_modulus : NoAttr K Ad.c_Count "modulus"
  nf_Count_special : NoAttr K Ad.c_Count "special"
  k_MOST_MODULUS : mg "MOST_MODULUS" = some (.int 4000 Ad.t_MOST_MODULUS)
  base : BaseC K mg Ad.c_base
  r_BadModulus : ErrRaw K mg "BadModulus" Ad.c_BadModulus s_BadModulus_init "BadModulus.__init__" ["self", "modulus"]
  no_BadModulus_modulus : PySem.W.findIn K (.ref Ad.c_BadModulus) "modulus" = some none
  r_BadPrime : ErrRaw K mg "BadPrime" Ad.c_BadPrime s_BadPrime_init "BadPrime.__init__" ["self", "p"]
  no_BadPrime_p : PySem.W.findIn K (.ref Ad.c_BadPrime) "p" = some none
  r_BadRest : ErrRaw K mg "BadRest" Ad.c_BadRest s_BadRest_init "BadRest.__init__" ["self", "rest"]
  no_BadRest_rest : PySem.W.findIn K (.ref Ad.c_BadRest) "rest" = some none
  r_TooWide : ErrRaw K mg "TooWide" Ad.c_TooWide s_TooWide_init "TooWide.__init__" ["self", "modulus"]
  no_TooWide_modulus : PySem.W.findIn K (.ref Ad.c_TooWide) "modulus" = some none
  triv : True
section
variable {P : Program} {w : World} {K : PySem.W.Frag} {mg : Str → Option Value} {base : Heap} {Ad : Adr}
def fl_BadModulus (ws : List V) : List (Str × V) := match ws with | [v0] => [("modulus", v0)] | _ => []
theorem sc_BadModulus_init : FnScope ["self", "modulus"] ["self", "modulus"] (defScope s_BadModulus_init) := ⟨rfl, rfl, rfl, by decide +kernel, rfl, by decide +kernel, by decide +kernel⟩
theorem Txt.err_BadModulus (T : Txt K mg Ad) : ErrC P w K mg base "BadModulus" 1 fl_BadModulus Ad.c_BadModulus := by
  refine ErrC.of T.r_BadModulus fun fI fd F => ?_
  refine F.okX sc_BadModulus_init (fun vs H Q E h => ?_) (fun cdv A outer s H vs Q E hr h => ?_)
  · obtain ⟨a, ws, rfl, hl, _⟩ := h
    simp [hl]
  · obtain ⟨a, ws, rfl, hl, ha, q⟩ := h
    obtain ⟨v0, rfl⟩ := len_1 hl
    refine ⟨_, pss_cons (ps_expr (pe_ceinit T.base (pa_cons (pv 0) (pa_cons pe_str pa_nil)))) (pss_one (ps_ost (pv 0) (pv 1))), ?_⟩
    refine ⟨.ref a, rfl, a, Ad.c_BadModulus, [.str _], rfl, by show 1 ≤ 1000; decide, T.r_BadModulus.T, ha, ?_⟩
    refine ⟨v0, rfl, .ref a, rfl, a, Ad.c_BadModulus, rfl, T.r_BadModulus.T, T.no_BadModulus_modulus, .inl ⟨ha, fun dx nd ne => ?_⟩⟩
    exact q dx nd ne
def fl_BadPrime (ws : List V) : List (Str × V) := match ws with | [v0] => [("p", v0)] | _ => []
theorem sc_BadPrime_init : FnScope ["self", "p"] ["self", "p"] (defScope s_BadPrime_init) := ⟨rfl, rfl, rfl, by decide +kernel, rfl, by decide +kernel, by decide +kernel⟩
theorem Txt.err_BadPrime (T : Txt K mg Ad) : ErrC P w K mg base "BadPrime" 1 fl_BadPrime Ad.c_BadPrime := by
  refine ErrC.of T.r_BadPrime fun fI fd F => ?_
  refine F.okX sc_BadPrime_init (fun vs H Q E h => ?_) (fun cdv A outer s H vs Q E hr h => ?_)
  · obtain ⟨a, ws, rfl, hl, _⟩ := h
    simp [hl]
  · obtain ⟨a, ws, rfl, hl, ha, q⟩ := h
    obtain ⟨v0, rfl⟩ := len_1 hl
    refine ⟨_, pss_cons (ps_expr (pe_ceinit T.base (pa_cons (pv 0) (pa_cons pe_str pa_nil)))) (pss_one (ps_ost (pv 0) (pv 1))), ?_⟩
    refine ⟨.ref a, rfl, a, Ad.c_BadPrime, [.str _], rfl, by show 1 ≤ 1000; decide, T.r_BadPrime.T, ha, ?_⟩
    refine ⟨v0, rfl, .ref a, rfl, a, Ad.c_BadPrime, rfl, T.r_BadPrime.T, T.no_BadPrime_p, .inl ⟨ha, fun dx nd ne => ?_⟩⟩
    exact q dx nd ne
def fl_BadRest (ws : List V) : List (Str × V) := match ws with | [v0] => [("rest", v0)] | _ => []
theorem sc_BadRest_init : FnScope ["self", "rest"] ["self", "rest"] (defScope s_BadRest_init) := ⟨rfl, rfl, rfl, by decide +kernel, rfl, by decide +kernel, by decide +kernel⟩
theorem Txt.err_BadRest (T : Txt K mg Ad) : ErrC P w K mg base "BadRest" 1 fl_BadRest Ad.c_BadRest := by
  refine ErrC.of T.r_BadRest fun fI fd F => ?_
  refine F.okX sc_BadRest_init (fun vs H Q E h => ?_) (fun cdv A outer s H vs Q E hr h => ?_)
  · obtain ⟨a, ws, rfl, hl, _⟩ := h
    simp [hl]
  · obtain ⟨a, ws, rfl, hl, ha, q⟩ := h
    obtain ⟨v0, rfl⟩ := len_1 hl
    refine ⟨_, pss_cons (ps_expr (pe_ceinit T.base (pa_cons (pv 0) (pa_cons pe_str pa_nil)))) (pss_one (ps_ost (pv 0) (pv 1))), ?_⟩
    refine ⟨.ref a, rfl, a, Ad.c_BadRest, [.str _], rfl, by show 1 ≤ 1000; decide, T.r_BadRest.T, ha, ?_⟩
    refine ⟨v0, rfl, .ref a, rfl, a, Ad.c_BadRest, rfl, T.r_BadRest.T, T.no_BadRest_rest, .inl ⟨ha, fun dx nd ne => ?_⟩⟩
    exact q dx nd ne
def fl_TooWide (ws : List V) : List (Str × V) := match ws with | [v0] => [("modulus", v0)] | _ => []
theorem sc_TooWide_init : FnScope ["self", "modulus"] ["self", "modulus"] (defScope s_TooWide_init) := ⟨rfl, rfl, rfl, by decide +kernel, rfl, by decide +kernel, by decide +kernel⟩
theorem Txt.err_TooWide (T : Txt K mg Ad) : ErrC P w K mg base "TooWide" 1 fl_TooWide Ad.c_TooWide := by
  refine ErrC.of T.r_TooWide fun fI fd F => ?_
  refine F.okX sc_TooWide_init (fun vs H Q E h => ?_) (fun cdv A outer s H vs Q E hr h => ?_)
  · obtain ⟨a, ws, rfl, hl, _⟩ := h
    simp [hl]
  · obtain ⟨a, ws, rfl, hl, ha, q⟩ := h
    obtain ⟨v0, rfl⟩ := len_1 hl
    refine ⟨_, pss_cons (ps_expr (pe_ceinit T.base (pa_cons (pv 0) (pa_cons pe_str pa_nil)))) (pss_one (ps_ost (pv 0) (pv 1))), ?_⟩
    refine ⟨.ref a, rfl, a, Ad.c_TooWide, [.str _], rfl, by show 1 ≤ 1000; decide, T.r_TooWide.T, ha, ?_⟩
    refine ⟨v0, rfl, .ref a, rfl, a, Ad.c_TooWide, rfl, T.r_TooWide.T, T.no_TooWide_modulus, .inl ⟨ha, fun dx nd ne => ?_⟩⟩
    exact q dx nd ne
/-! ### Count.__init__ -/
theorem nml : ¬ (("modulus" : Str) = "lines") := by decide +kernel
theorem nmp : ¬ (("modulus" : Str) = "special") := by decide +kernel
theorem nlp : ¬ (("lines" : Str) = "special") := by decide +kernel
theorem ctF_put (a b c : V) : putF "special" c (putF "lines" b (putF "modulus" a [])) = ([("modulus", a), ("lines", b), ("special", c)] : List (Str × V)) := by
  simp only [putF, if_neg nml, if_neg nmp, if_neg nlp]
def spCtI (C : Addr) : Sp := fun vs H Q _ => ∃ (x dx dl ds : Addr) (m : Int), vs = [.ref x, .int m, .ref dl, .ref ds] ∧ H x = some (.ins C dx []) ∧ Q .non (upd H x (.ins C dx (ctF m dl ds)))
theorem ok_Count_init (T : Txt K mg Ad) : MkDef P w K mg base 1 "Count" Ad.c_Count ["self", "modulus", "lines", "special"] (spCtI Ad.c_Count) := by
  refine T.d_Count_init.ok sc_Count_init (fun vs H Q E h => ?_) (fun f cdv A outer s H vs Q E hr h => ?_)
  · obtain ⟨x, dx, dl, ds, m, rfl, _⟩ := h
    rfl
  · obtain ⟨x, dx, dl, ds, m, rfl, hx, q⟩ := h
    refine ⟨_, (pss_cons (ps_fldC (pv 0) (pv 1) T.cl_Count T.nf_Count_modulus)
      (pss_cons (ps_fldC (pv 0) (pv 2) T.cl_Count T.nf_Count_lines)
      (pss_one (ps_fldC (pv 0) (pv 3) T.cl_Count T.nf_Count_special)))), ?_⟩
    try dsimp only [cxOf]
    wtm_at "rs"
    rw [upd_upd, upd_upd, ctF_put]
    exact q
theorem mk_Ct {C : Addr} {H1 : Hp} {R : Addr → Hp → Prop} {E : XK} {c : Ct} {m : Int} {dl ds : Addr} {es : List (Int × Addr)} (nt : NoT H1) (hm : m = c.m) (hl : H1 dl = some (.dK (lnK es))) (he : es.map (·.1) = uL c.m) (ha : LnAt H1 c.ln es) (hs : H1 ds = some (.dK (dV (fun p => V.int (c.sv p)) c.sp))) (q : ∀ x H', Same H1 H' → NoT H' → H1 x = none → IsCt C H' x c → R x H') :
    ∀ x dx, H1 x = none → H1 dx = none → dx ≠ x → spCtI C [.ref x, .int m, .ref dl, .ref ds] (upd (upd H1 dx (.own x)) x (.ins C dx [])) (fun v H2 => v = .non ∧ R x H2) E := by
  subst hm
  intro x dx nx nd ne
  have sm : Same H1 (upd (upd H1 dx (.own x)) x (.ins C dx (ctF c.m dl ds))) := same_upd2 (same_new nd) nx
  refine ⟨x, dx, dl, ds, c.m, rfl, upd_same, rfl, ?_⟩
  rw [upd_upd]
  exact q x _ sm (NoT.upd (NoT.upd nt rfl) rfl) nx ⟨dx, dl, ds, es, upd_same, sm _ _ hl, he, ha.mono sm, sm _ _ hs⟩
/-! ### Count.value_at -/
def spVal (C : Addr) : Sp := fun vs H Q _ => ∃ (x : Addr) (c : Ct) (p : Int), vs = [.ref x, .int p] ∧ IsCt C H x c ∧ c.Ok ∧ QR.OP p ∧ p < 2 ^ 60 ∧ Q (.int (c.val p)) H
theorem use_val {C x : Addr} {c : Ct} {p : Int} {H : Hp} {Q : VK} {E : XK} (h : IsCt C H x c) (o : c.Ok) (op : QR.OP p) (pb : p < 2 ^ 60) (q : Q (.int (c.val p)) H) : spVal C [.ref x, .int p] H Q E := ⟨x, c, p, rfl, h, o, op, pb, q⟩
theorem ok_Count_value_at (T : Txt K mg Ad) : MDef P w K mg base 1 Ad.c_Count "value_at" ["self", "p"] (spVal Ad.c_Count) := by
  refine T.d_Count_value_at.ok sc_Count_value_at (fun vs H Q E h => ?_) (fun f cdv A outer s H vs Q E hr h => ?_)
  · obtain ⟨x, c, p, rfl, _⟩ := h
    rfl
  · obtain ⟨x, c, p, rfl, ic, o, op, pb, q⟩ := h
    refine ⟨_, (pss_cons (ps_if (pt_cmp (pc_din (hu_of hr) (pv 1) (pe_fldC (pv 0) T.cl_Count T.nf_Count_special))) (pss_one (ps_ret (pe_dget (hu_of hr) (pe_fldC (pv 0) T.cl_Count T.nf_Count_special) (pv 1) (fun _ _ => rfl)))) pss_nil)
      (pss_cons (ps_asg (pe_dget (hu_of hr) (pe_fldC (pv 0) T.cl_Count T.nf_Count_lines) (pe_op op_mod (pv 1) (pe_fldC (pv 0) T.cl_Count T.nf_Count_modulus)) (fun _ _ => rfl)) (pg_tup rfl (pgs_cons (pg_name (i := 2) sc_Count_value_at.nd rfl (Or.inl rfl)) (pgs_cons (pg_name (i := 3) sc_Count_value_at.nd rfl (Or.inl rfl)) (pgs_cons (pg_name (i := 4) sc_Count_value_at.nd rfl (Or.inl rfl)) pgs_nil)))))
      (pss_one (ps_ret (pe_op op_fdivB (pe_op op_add (pe_op op_add (pe_op op_mulB (pe_op op_mulB (pv 2) (pv 1)) (pv 1)) (pe_op op_mulB (pv 3) (pv 1))) (pv 4)) pe_int))))), ?_⟩
    try dsimp only [cxOf]
    have p3 := op.three
    have m1 := o.m1
    have m4 := o.m4
    have bp : Bd 60 p := Bd.of (by omega) (by omega)
    by_cases hp : p ∈ c.sp
    · obtain ⟨dx, dl, ds, es, h1, h2, h3, h4, h5⟩ := id ic
      have ev : c.val p = c.sv p := if_pos hp
      rw [ev] at q
      wtm_at "rs"
      refine rd_dinV h5 ?_
      rw [decide_eq_true hp]
      wtm_at "rs"
      refine rd_dgetV h5 hp ?_
      wtm_at "rs"
      exact q
    · obtain ⟨dx, dl, ds, es, t, h1, h2, hv, ht, h5⟩ := ic.line (o.away p op hp)
      obtain ⟨b1, b2, b3⟩ := o.bl (p % c.m) (o.away p op hp)
      have ev : c.val p = trAt (c.ln (p % c.m)) p := if_neg hp
      rw [ev] at q
      generalize c.ln (p % c.m) = tr at *
      obtain ⟨u, v, z⟩ := tr
      dsimp only [trAt, trV] at b1 b2 b3 ht q
      wtm_at "rs"
      refine rd_dinV h5 ?_
      rw [decide_eq_false hp]
      wtm_at "rs"
      refine rd_dgetN h2 hv ?_
      wtm_at "rs"
      exact q
/-! ### common -/
def spCommon : Sp := fun vs H Q _ => ∃ a b : Int, vs = [.int a, .int b] ∧ Q (.int ((Int.gcd a b : Nat) : Int)) H
theorem ok_common (T : Txt K mg Ad) : Def P w K mg base 1 "common" ["a", "b"] spCommon := by
  refine T.d_common.ok sc_common (fun vs H Q E h => ?_) (fun f cdv A outer s H vs Q E hr h => ?_)
  · obtain ⟨a, b, rfl, _⟩ := h
    rfl
  · obtain ⟨a, b, rfl, q⟩ := h
    refine ⟨_, (pss_cons (ps_par (i := 2) (j := 3) rfl sc_common.nd rfl rfl (by decide) rfl rfl (pa_cons (pe_callB c_abs (by rfl) T.b_abs (by decide +kernel) (pa_cons (pv 0) pa_nil)) (pa_cons (pe_callB c_abs (by rfl) T.b_abs (by decide +kernel) (pa_cons (pv 1) pa_nil)) pa_nil)) (by rfl))
      (pss_cons (ps_while (passes_of rfl) (pt_cmpR op_gt (pv 3) pe_int (nomark _)) (pss_one (ps_par (i := 2) (j := 3) rfl sc_common.nd rfl rfl (by decide) rfl rfl (pa_cons (pv 3) (pa_cons (pe_op op_mod (pv 2) (pv 3)) pa_nil)) (by rfl))))
      (pss_one (ps_ret (pv 2))))), ?_⟩
    try dsimp only [cxOf]
    wtm_at "rs"
    refine rd_while (fun μ σ H' => ∃ x y : Int, μ = y.toNat ∧ σ = [some (.int a), some (.int b), some (.int x), some (.int y)] ∧ H = H' ∧ 0 ≤ x ∧ 0 ≤ y ∧ Int.gcd x y = Int.gcd a b) (if b < 0 then -b else b).toNat
      ⟨_, _, rfl, rfl, rfl, by split <;> omega, by split <;> omega, gcd_abs a b⟩ ?_
    rintro μ σ H' ⟨x, y, rfl, rfl, rfl, hx, hy, hg⟩
    wtm_at "ra"
    · rename_i h0
      have m0 := Int.emod_nonneg x (show y ≠ 0 by omega)
      have m1 := Int.emod_lt_of_pos x h0
      exact ⟨_, by omega, y, x % y, rfl, rfl, rfl, hy, m0, by rw [gcd_turn hx h0, hg]⟩
    · rename_i h0
      have e : y = 0 := by omega
      subst e
      rw [← hg] at q
      rw [Int.gcd_zero_right] at q
      rw [show x = (x.natAbs : Int) by omega]
      exact q
theorem use_common {a b : Int} {H : Hp} {Q : VK} {E : XK} (q : Q (.int ((Int.gcd a b : Nat) : Int)) H) : spCommon [.int a, .int b] H Q E := ⟨a, b, rfl, q⟩
local macro_rules | `(tactic| wtm_at "s") => `(tactic| (with_reducible refine use_common ?_))
/-! ### units -/
def spUnits : Sp := fun vs H Q E => ∃ m : Int, vs = [.int m] ∧ 1 ≤ m ∧ m ≤ 100000 ∧ ∀ D, H D = none → Q (.ref D) (upd H D (.lst ((uL m).map V.int)))
theorem units_res {m : Int} : ((List.range m.toNat).filter (fun i : Nat => decide (Int.gcd (0 + (i : Int)) m = 1))).map (fun i : Nat => V.int (0 + (i : Int))) = (uL m).map V.int := by
  unfold uL
  rw [List.filter_map, List.map_map]
  refine congr (congrArg List.map (funext fun i => by simp)) (List.filter_congr fun i _ => by simp)
theorem use_units {m : Int} {H : Hp} {Q : VK} {E : XK} (h1 : 1 ≤ m) (h2 : m ≤ 100000) (q : ∀ D, H D = none → Q (.ref D) (upd H D (.lst ((uL m).map V.int)))) : spUnits [.int m] H Q E := ⟨m, rfl, h1, h2, q⟩
/-! ### units_counts -/
theorem ok_units_counts (T : Txt K mg Ad) : Def P w K mg base 2 "units_counts" ["modulus"] spUnits := by
  refine T.d_units_counts.ok sc_units_counts (fun vs H Q E h => ?_) (fun f cdv A outer s H vs Q E hr h => ?_)
  · obtain ⟨m, rfl, _⟩ := h
    rfl
  · obtain ⟨m, rfl, m1, m2, q⟩ := h
    refine ⟨_, (pss_one (ps_ret (pe_lc (own := [("rest", 1)])  (te := (tVar 1)) (tt := (tTest (tOp rEq (tCall (spCommon) [] E0 (tCons (tVar 1) (tCons (tVar 0) tNil))) (tC (.int 1))))) rfl sc_units_counts.nd  (pi_range1 (by rfl) T.b_range (pa_cons (pv 0) pa_nil)) (blkOk_by (own := [("rest", 1)]) (N := ["modulus", "rest"]) (sc := defScope s_units_counts) (by decide +kernel)) (fun _ _ _ _ _ => (pg_name (i := 1) sc_units_counts.nd rfl (Or.inl rfl))) (fun _ _ _ _ _ => (pts_one (pt_cmpR op_eq (pe_d (E := E0) (ok_common T) (hr.mono (by decide)) passL (pa_cons (pv 1) (pa_cons (pv 0) pa_nil))) pe_int (nomark _)))) (fun _ _ _ _ _ => (pv 1))))), ?_⟩
    try dsimp only [cxOf]
    wtm_at "rs"
    refine rd_lcR (fun i : Nat => decide (Int.gcd (0 + (i : Int)) m = 1)) (fun i : Nat => V.int (0 + (i : Int))) (fun D i hD hi => ?_) fun D hD => ?_
    · wtm_at "r"
      refine ⟨rfl, ?_⟩
      wtm_at "rs"
      wtm_at "i"
      · rename_i h
        wtm_at "rs"
        exact put_R (by omega) (decide_eq_true (by omega)) rfl
      · rename_i h
        wtm_at "rs"
        exact skip_R (decide_eq_false (by omega))
    · rw [units_res]
      wtm_at "rs"
      exact q D hD
/-! ### combined -/
def spCmb (C CW : Addr) : Sp := fun vs H Q E => ∃ (x y : Addr) (c d : Ct) (f : Int), vs = [.ref x, .ref y, .int f] ∧ NoT H ∧ IsCt C H x c ∧ IsCt C H y d ∧ c.Ok ∧ d.Ok ∧ (f = 1 ∨ f = -1) ∧
  (∀ p ∈ c.sp ++ d.sp, QR.OP p ∧ p < 2 ^ 60 ∧ Bd 200 (d.val p)) ∧ (c.sp ++ d.sp).length < 1000 ∧
  (4000 < ((Int.lcm c.m d.m : Nat) : Int) → ∀ e, H e = none → E (.ref CW) (some e) (upd H e (.xd [("modulus", .int ((Int.lcm c.m d.m : Nat) : Int))]))) ∧
  (((Int.lcm c.m d.m : Nat) : Int) ≤ 4000 → ∀ z H', Same H H' → NoT H' → H z = none → IsCt C H' z (cmbC f c d) → Q (.ref z) H')
/-! ### factors -/
def spFactors : Sp := fun vs H Q E => ∃ n : Int, vs = [.int n] ∧ NoT H ∧ 1 ≤ n ∧ n < 2 ^ 100 ∧ ∀ p H' ts fs, Same H H' → NoT H' → H p = none → H' p = some (.lst (ts.map V.ref)) → RowsAt H' ts (fs.map rowF) → FacOk n fs → Q (.ref p) H'
theorem ok_factors (T : Txt K mg Ad) : Def P w K mg base 1 "factors" ["n"] spFactors := by
  refine T.d_factors.ok sc_factors (fun vs H Q E h => ?_) (fun f cdv A outer s H vs Q E hr h => ?_)
  · obtain ⟨n, rfl, _⟩ := h
    rfl
  · obtain ⟨n0, rfl, nt, hn1, hn2, qo⟩ := h
    refine ⟨_, (pss_cons (ps_set (i := 1) sc_factors.nd rfl (Or.inl rfl) (pe_lst pa_nil))
      (pss_cons (ps_set (i := 2) sc_factors.nd rfl (Or.inl rfl) pe_int)
      (pss_cons (ps_while (passes_of rfl) (pt_cmpR op_le (pe_op op_mulB (pv 2) (pv 2)) (pv 0) (nomark _)) (pss_cons (ps_set (i := 3) sc_factors.nd rfl (Or.inl rfl) pe_int)
      (pss_cons (ps_while (passes_of rfl) (pt_cmpR op_eq (pe_op op_mod (pv 0) (pv 2)) pe_int (nomark _)) (pss_cons (ps_set (i := 0) sc_factors.nd rfl (Or.inl rfl) (pe_op op_fdivB (pv 0) (pv 2)))
      (pss_one (ps_aug (i := 3) sc_factors.nd rfl (Or.inl rfl) pe_int ip_add))))
      (pss_cons (ps_if (pt_cmpR op_gt (pv 3) pe_int (nomark _)) (pss_one (ps_expr (pe_bm PySem.F.plainAttrs_list PySem.F.slot_list_append PySem.F.type_list_append mt_append (pv 1) (pa_cons (pe_tup (pa_cons (pv 2) (pa_cons (pv 3) pa_nil))) pa_nil)))) pss_nil)
      (pss_one (ps_aug (i := 2) sc_factors.nd rfl (Or.inl rfl) pe_int ip_add))))))
      (pss_cons (ps_if (pt_cmpR op_gt (pv 0) pe_int (nomark _)) (pss_one (ps_expr (pe_bm PySem.F.plainAttrs_list PySem.F.slot_list_append PySem.F.type_list_append mt_append (pv 1) (pa_cons (pe_tup (pa_cons (pv 0) (pa_cons pe_int pa_nil))) pa_nil)))) pss_nil)
      (pss_one (ps_ret (pv 1))))))), ?_⟩
    try dsimp only [cxOf]
    wtm_at "rs"
    rename_i p hp
    refine rd_while (fun μ σ H' => ∃ (n d : Int) (ts : List Addr) (fs : List (Int × Nat)) (v3 : Option V), μ = (n0 + 2 - d).toNat ∧ σ = [some (.int n), some (.ref p), some (.int d), v3] ∧ Same H H' ∧ NoT H' ∧ H' p = some (.lst (ts.map V.ref)) ∧ RowsAt H' ts (fs.map rowF) ∧ FacInv n0 n d fs ∧ n ≤ n0 ∧ d < 2 ^ 61) n0.toNat
      ⟨n0, 2, [], [], none, by omega, rfl, same_new hp, NoT.upd nt rfl, upd_same, trivial, FacInv.start hn1, by omega, by decide⟩ ?_
    rintro μ σ H' ⟨n, d, ts, fs, v3, rfl, rfl, sm, nt', hp', hl, inv, hle, hd61⟩
    have d2 := inv.two
    have n1 := inv.pos
    wtm_at "rs"
    wtm_at "i"
    · rename_i hdd
      have db := QR.le_sq (show 1 ≤ d by omega)
      have dsq := QR.sq_bound (by omega) hdd (show n < 2 ^ 120 by omega)
      wtm_at "rs"
      refine rd_while (fun μ σ H2 => ∃ (m : Int) (e : Nat), μ = m.toNat ∧ σ = [some (.int m), some (.ref p), some (.int d), some (.int e)] ∧ H' = H2 ∧ m * d ^ e = n ∧ 1 ≤ m ∧ m ≤ n) n.toNat
        ⟨n, 0, rfl, rfl, rfl, by simp, n1, Int.le_refl _⟩ ?_
      rintro μ σ H2 ⟨m, e, rfl, rfl, rfl, hm, hm1, hmn⟩
      wtm_at "rs"
      wtm_at "i"
      · rename_i hz
        have hdv := Int.mul_ediv_add_emod m d
        have hq1 : 1 ≤ m / d := by
          rcases Int.lt_or_le (m / d) 1 with z | z
          · exfalso
            have : d * (m / d) ≤ d * 0 := Int.mul_le_mul_of_nonneg_left (by omega) (by omega)
            omega
          · exact z
        have hq2 : m / d < m := by
          have : 2 * (m / d) ≤ d * (m / d) := Int.mul_le_mul_of_nonneg_right d2 (by omega)
          omega
        wtm_at "rs"
        refine ⟨_, ?_, m / d, e + 1, rfl, rfl, rfl, ?_, hq1, by omega⟩
        · omega
        · rw [Int.pow_succ, ← hm]
          have : m = d * (m / d) := by omega
          conv => rhs; rw [this]
          grind
      · rename_i hz
        have hnd : ¬ d ∣ m := fun z => hz (Int.emod_eq_zero_of_dvd z)
        wtm_at "rs"
        wtm_at "i"
        · rename_i he
          have inv2 := inv.next (by omega) hm hm1 hnd
          have flen := inv.len hn2
          have hroom : (ts.map V.ref).length < sizeLine := by
            rw [List.length_map, hl.len, List.length_map]
            exact Nat.lt_of_le_of_lt (m := 1000000) (by omega) (by decide)
          wtm_at "rs"
          rename_i t ht
          refine ⟨_, ?_, m, d + 1, ts ++ [t], fs ++ [(d, e)], _, rfl, rfl, by wtm_at "sm", by wtm_at "nt", by rw [upd_same, List.map_append]; rfl, ?_, inv2, by omega, by omega⟩
          · omega
          · rw [List.map_append]
            refine RowsAt.other ((same_new ht) _ _ hp') (RowsAt.snoc upd_same (hl.mono (same_new ht)))
        · rename_i he
          have e0 : e = 0 := by omega
          subst e0
          have em : m = n := by simpa using hm
          subst em
          wtm_at "rs"
          exact ⟨_, by omega, m, d + 1, ts, fs, _, rfl, rfl, sm, nt', hp', hl, inv.next0 hnd, by omega, by omega⟩
    · rename_i hdd
      wtm_at "rs"
      wtm_at "i"
      · rename_i h1
        have flen := inv.len hn2
        have hroom : (ts.map V.ref).length < sizeLine := by
          rw [List.length_map, hl.len, List.length_map]
          exact Nat.lt_of_le_of_lt (m := 1000000) (by omega) (by decide)
        wtm_at "rs"
        rename_i t ht
        refine qo p _ (ts ++ [t]) (fs ++ [(n, 1)]) (by wtm_at "sm") (by wtm_at "nt") hp (by rw [upd_same, List.map_append]; rfl) ?_ (inv.done h1 (by omega))
        rw [List.map_append]
        exact RowsAt.other ((same_new ht) _ _ hp') (RowsAt.snoc upd_same (hl.mono (same_new ht)))
      · rename_i h1
        have en : n = 1 := by omega
        subst en
        wtm_at "rs"
        exact qo p H' ts fs sm nt' hp hp' hl inv.done1
/-! ### odd_primes_of -/
def oddQ (fs : List (Int × Nat)) : List Int := (fs.filter fun x => decide (x.1 ≠ 2)).map (·.1)
def OddQ (n : Int) (l : List Int) : Prop := l.Pairwise (· < ·) ∧ (∀ p, p ∈ l ↔ QR.OP p ∧ p ∣ n) ∧ l.length < 100
theorem oddQ_of {n : Int} {fs : List (Int × Nat)} (h : FacOk (if n < 0 then -n else n) fs) (hn : (if n < 0 then -n else n) < 2 ^ 99) : OddQ n (oddQ fs) := by
  have dv : ∀ p : Int, p ∣ (if n < 0 then -n else n) ↔ p ∣ n := fun p => by
    split
    · exact Int.dvd_neg
    · exact Iff.rfl
  refine ⟨?_, fun p => ?_, ?_⟩
  · unfold oddQ
    exact List.pairwise_map.mpr ((h.asc.filter _).imp fun z => z)
  · unfold oddQ
    rw [List.mem_map]
    constructor
    · rintro ⟨x, hx, rfl⟩
      obtain ⟨hx, ne⟩ := List.mem_filter.mp hx
      have ne := of_decide_eq_true ne
      obtain ⟨hp, d⟩ := h.mem.mp ⟨x, hx, rfl⟩
      refine ⟨⟨hp, QR.pm_odd hp ?_⟩, (dv _).mp d⟩
      have := hp.1
      omega
    · rintro ⟨hp, d⟩
      obtain ⟨x, hx, e⟩ := h.mem.mpr ⟨hp.1, (dv _).mpr d⟩
      refine ⟨x, List.mem_filter.mpr ⟨hx, decide_eq_true fun z => ?_⟩, e⟩
      have := hp.2
      omega
  · unfold oddQ
    rw [List.length_map]
    exact Nat.lt_of_le_of_lt (List.length_filter_le _ _) (h.len hn)
def spOddQ : Sp := fun vs H Q E => ∃ n : Int, vs = [.int n] ∧ NoT H ∧ n ≠ 0 ∧ -(2 ^ 60) < n ∧ n < 2 ^ 60 ∧ ∀ D H' l, Same H H' → NoT H' → H D = none → H' D = some (.lst (l.map V.int)) → OddQ n l → Q (.ref D) H'
theorem use_oddQ {n : Int} {H : Hp} {Q : VK} {E : XK} (nt : NoT H) (h0 : n ≠ 0) (h1 : -(2 ^ 60) < n) (h2 : n < 2 ^ 60) (q : ∀ D H' l, Same H H' → NoT H' → H D = none → H' D = some (.lst (l.map V.int)) → OddQ n l → Q (.ref D) H') : spOddQ [.int n] H Q E := ⟨n, rfl, nt, h0, h1, h2, q⟩
local macro_rules | `(tactic| wtm_at "of") => `(tactic| ((with_reducible show spFactors [.int _] _ _ _); refine ⟨_, rfl, by wtm_at "nt", by first | omega | (split <;> omega), by first | omega | (split <;> omega), ?_⟩; intro p H' ts fs sm nt hp hp' hl hf))
theorem ok_odd_primes_of (T : Txt K mg Ad) : Def P w K mg base 2 "odd_primes_of" ["n"] spOddQ := by
  refine T.d_odd_primes_of.ok sc_odd_primes_of (fun vs H Q E h => ?_) (fun f cdv A outer s H vs Q E hr h => ?_)
  · obtain ⟨n, rfl, _⟩ := h
    rfl
  · obtain ⟨n, rfl, nt, n0, n1, n2, q⟩ := h
    refine ⟨_, (pss_one (ps_ret (pe_lc (own := [("prime", 1), ("exponent", 2)])  (g := (gTup K 2 (gCons (gName 1) (gCons (gName 2) gNil)))) (te := (tVar 1)) (tt := (tTest (tOp rNe (tVar 1) (tC (.int 2))))) rfl sc_odd_primes_of.nd  (pi_list (pe_d (ok_factors T) (hr.mono (by decide)) (passes_call (takes_of rfl rfl rfl rfl) (fun _ _ _ _ h => h)) (pa_cons (pe_callB c_abs (by rfl) T.b_abs (by decide +kernel) (pa_cons (pv 0) pa_nil)) pa_nil))) (blkOk_by (own := [("prime", 1), ("exponent", 2)]) (N := ["n", "prime", "exponent"]) (sc := defScope s_odd_primes_of) (by decide +kernel)) (fun _ _ _ _ _ => (pg_tup rfl (pgs_cons (pg_name (i := 1) sc_odd_primes_of.nd rfl (Or.inl rfl)) (pgs_cons (pg_name (i := 2) sc_odd_primes_of.nd rfl (Or.inl rfl)) pgs_nil)))) (fun _ _ _ _ _ => (pts_one (pt_cmpR op_ne (pv 1) pe_int (nomark _)))) (fun _ _ _ _ _ => (pv 1))))), ?_⟩
    try dsimp only [cxOf]
    have ab : 1 ≤ (if n < 0 then -n else n) ∧ (if n < 0 then -n else n) < 2 ^ 60 := by split <;> omega
    repeat' (first | wtm_at "r" | wtm_at "s" | wtm_at "of" | fail)
    rename_i J H1 ts fs sm nt1 hp hp' hl hf
    refine rd_lcP (fun i ys => ys = (oddQ (fs.take i)).map V.int) (SqL.of hp') nt1 (by simp [oddQ]) ?_ ?_
    · rintro D i ys x H2 hx sm2 nt2 hD h2 rfl
      obtain ⟨t, l, rfl, ht, hlx⟩ := hl.at hx
      rw [List.getElem?_map] at hlx
      obtain ⟨⟨q, e⟩, hy, rfl⟩ := Option.map_eq_some_iff.mp hlx
      have er : fs.take (i + 1) = fs.take i ++ [(q, e)] := by rw [List.take_add_one, hy]; rfl
      have hT : SqT K H2 t [.int q, .int (e : Int)] := SqT.of (sm2 _ _ ht)
      have few : ((oddQ (fs.take i)).map V.int).length < sizeLine := by
        refine Nat.lt_of_le_of_lt ?_ (show 100 < sizeLine by decide)
        unfold oddQ
        rw [List.length_map, List.length_map]
        refine Nat.le_trans (List.length_filter_le _ _) ?_
        rw [List.length_take]
        have := hf.len (by omega)
        omega
      refine rd_gtup hT rfl ?_
      wtm_at "rs"
      refine ⟨rfl, ?_⟩
      wtm_at "rs"
      wtm_at "i"
      · rename_i h
        wtm_at "rs"
        refine put_P (P := fun ys => ys = (oddQ (fs.take (i + 1))).map V.int) h2 few sm2 hD nt2 ?_
        rw [er]
        unfold oddQ
        simp [h]
      · rename_i h
        wtm_at "rs"
        refine ⟨_, h2, sm2, nt2, ?_⟩
        rw [er]
        unfold oddQ
        have h : q = 2 := by omega
        simp [h]
    · rintro D ys H2 hD h2 sm2 nt2 rfl
      rw [List.length_map, hl.len, List.length_map, List.take_length] at h2
      exact q D H2 _ (sm.trans sm2) nt2 (Same.free sm hD) h2 (oddQ_of hf (by omega))
/-! ### is_prime -/
def spPm : Sp := fun vs H Q _ => ∃ n : Int, vs = [.int n] ∧ n < 2 ^ 120 ∧ Q (.bl (decide (QR.Pm n))) H
theorem ok_is_prime (T : Txt K mg Ad) : Def P w K mg base 1 "is_prime" ["n"] spPm := by
  refine T.d_is_prime.ok sc_is_prime (fun vs H Q E h => ?_) (fun f cdv A outer s H vs Q E hr h => ?_)
  · obtain ⟨n, rfl, _⟩ := h
    rfl
  · obtain ⟨n, rfl, hn, q⟩ := h
    refine ⟨_, (pss_cons (ps_if (pt_cmpR op_lt (pv 0) pe_int (nomark _)) (pss_one (ps_ret pe_bl)) pss_nil)
      (pss_cons (ps_set (i := 1) sc_is_prime.nd rfl (Or.inl rfl) pe_int)
      (pss_cons (ps_while (passes_of rfl) (pt_cmpR op_le (pe_op op_mulB (pv 1) (pv 1)) (pv 0) (nomark _)) (pss_cons (ps_if (pt_cmpR op_eq (pe_op op_mod (pv 0) (pv 1)) pe_int (nomark _)) (pss_one (ps_ret pe_bl)) pss_nil)
      (pss_one (ps_aug (i := 1) sc_is_prime.nd rfl (Or.inl rfl) pe_int ip_add))))
      (pss_one (ps_ret pe_bl))))), ?_⟩
    try dsimp only [cxOf]
    wtm_at "ra"
    · rw [decide_eq_false (fun z : QR.Pm n => by have := z.1; omega)] at q
      exact q
    · refine rd_while (fun μ σ H' => ∃ k : Int, μ = (n + 1 - k).toNat ∧ σ = [some (.int n), some (.int k)] ∧ H = H' ∧ 2 ≤ k ∧ k < 2 ^ 61 ∧ ∀ d : Int, 2 ≤ d → d < k → ¬ d ∣ n) (n - 1).toNat
        ⟨2, by omega, rfl, rfl, by omega, by omega, fun d _ _ => by omega⟩ ?_
      rintro μ σ H' ⟨k, rfl, rfl, rfl, hk, hk3, inv⟩
      wtm_at "ra"
      · rename_i hle hz
        rw [decide_eq_false (fun z : QR.Pm n => QR.not_pm (by omega) hle hz z)] at q
        exact q
      · rename_i hle hz
        have b := QR.sq_bound (by omega) hle hn
        have c := QR.le_sq (show 1 ≤ k by omega)
        exact ⟨_, by omega, k + 1, rfl, rfl, rfl, by omega, by omega, QR.no_dvd_step inv hz⟩
      · rename_i hgt
        rw [decide_eq_true (show QR.Pm n from QR.pm_of_trial (by omega) (by omega) (by omega) inv)] at q
        exact q
theorem use_Pm {n : Int} {H : Hp} {Q : VK} {E : XK} (h : n < 2 ^ 120) (q : Q (.bl (decide (QR.Pm n))) H) : spPm [.int n] H Q E := ⟨n, rfl, h, q⟩
local macro_rules | `(tactic| wtm_at "s") => `(tactic| ((with_reducible refine use_Pm ?h1 ?_); (case h1 => omega)))
/-! ### candidates -/
/-- primes at which a line can be 0 -/
structure CandOk (t : Int × Int × Int) (cs : List Int) : Prop where
  op : ∀ p ∈ cs, QR.OP p ∧ p < 2 ^ 60
  all : t ≠ (0, 0, 0) → ∀ p, QR.OP p → lnv t p = 0 → p ∈ cs
  dv : t.2.2 ≠ 0 → OddQ t.2.2 cs
  one : t.2.2 = 0 → cs.length ≤ 1
  lin : t.2.2 = 0 → ∀ p ∈ cs, p ≤ (t.2.1.natAbs : Int)
theorem cand_c {a b c : Int} {l : List Int} (c0 : c ≠ 0) (bc : Bd 59 c) (oq : OddQ c l) : CandOk (a, b, c) l := by
  refine ⟨fun p hp => ?_, fun _ p op z => (oq.2.1 p).mpr ⟨op, ?_⟩, fun _ => oq, fun z => absurd z c0, fun z => absurd z c0⟩
  · obtain ⟨o, d⟩ := (oq.2.1 p).mp hp
    have := Int.le_of_dvd (show 0 < (c.natAbs : Int) by omega) (Int.dvd_natAbs.mpr d)
    have h := bc.lt
    exact ⟨o, by omega⟩
  · have z : a * p * p + b * p + c = 0 := z
    exact ⟨-(a * p + b), by grind⟩
theorem cand_root {a b p : Int} (op : QR.OP p) (n : ¬ (a = 0 ∧ b = 0)) (z : a * p * p + b * p + 0 = 0) : a ≠ 0 ∧ b % a = 0 ∧ -b / a = p := by
  have p3 := op.three
  have e : p * (a * p + b) = 0 := by grind
  have e2 : a * p + b = 0 := (Int.mul_eq_zero.mp e).resolve_left (by omega)
  have a0 : a ≠ 0 := fun h => n ⟨h, by rw [h] at e2; omega⟩
  have eb : -b = a * p := by omega
  refine ⟨a0, Int.emod_eq_zero_of_dvd ⟨-p, by rw [Int.mul_neg]; omega⟩, ?_⟩
  rw [eb]
  exact Int.mul_ediv_cancel_left _ a0
theorem cand_le {a b : Int} (h : a ≠ 0) (d : b % a = 0) : -b / a ≤ (b.natAbs : Int) := by
  have e := Int.mul_ediv_cancel' (Int.dvd_neg.mpr (Int.dvd_of_emod_eq_zero d))
  have : ((-b).natAbs : Int) = (a.natAbs : Int) * ((-b / a).natAbs : Int) := by
    rw [← Int.natCast_mul, ← Int.natAbs_mul, e]
  have : (1 : Int) * ((-b / a).natAbs : Int) ≤ (a.natAbs : Int) * ((-b / a).natAbs : Int) := Int.mul_le_mul_of_nonneg_right (by omega) (by omega)
  omega
theorem cand_lt {a b : Int} (bb : Bd 59 b) (h : a ≠ 0) (d : b % a = 0) : -b / a < 2 ^ 60 := by
  have hb := bb.lt
  have := cand_le h d
  omega
theorem cand_one {a b : Int} (bb : Bd 59 b) (h : a ≠ 0) (d : b % a = 0) (q : QR.Pm (-b / a)) (h2 : 2 < -b / a) : CandOk (a, b, 0) [-b / a] := by
  have op : QR.OP (-b / a) := ⟨q, Classical.byContradiction fun e => q.2 2 (by decide) h2 (Int.dvd_of_emod_eq_zero (by omega))⟩
  refine ⟨fun p hp => ?_, fun n p op z => ?_, fun z => absurd rfl z, fun _ => Nat.le_refl _, fun _ p hp => ?_⟩
  · rw [List.mem_singleton.mp hp]
    refine ⟨op, ?_⟩
    exact cand_lt bb h d
  · obtain ⟨_, _, e⟩ := cand_root op (fun y => n (by rw [show a = 0 from y.1, show b = 0 from y.2])) z
    rw [e]
    exact List.mem_cons_self
  · rw [List.mem_singleton.mp hp]
    exact cand_le h d
theorem cand_nil {a b : Int} (no : ∀ p, QR.OP p → a ≠ 0 → b % a = 0 → -b / a = p → False) : CandOk (a, b, 0) [] := by
  refine ⟨fun p hp => absurd hp List.not_mem_nil, fun n p op z => ?_, fun z => absurd rfl z, fun _ => Nat.zero_le _, fun _ p hp => absurd hp List.not_mem_nil⟩
  obtain ⟨e1, e2, e3⟩ := cand_root op (fun y => n (by rw [show a = 0 from y.1, show b = 0 from y.2])) z
  exact (no p op e1 e2 e3).elim
theorem fm0 {a b : Int} (h : a ≠ 0) : b.fmod a = 0 ↔ b % a = 0 := by
  rw [Int.fmod_eq_emod]
  have l := Int.emod_lt b h
  have n := Int.emod_nonneg b h
  by_cases d : a ∣ b
  · rw [if_pos (.inr d)]
    omega
  · by_cases s : 0 ≤ a
    · rw [if_pos (.inl s)]
      omega
    · rw [if_neg (by intro z; exact z.elim s d)]
      have : b % a ≠ 0 := fun z => d (Int.dvd_of_emod_eq_zero z)
      have e : (a.natAbs : Int) = -a := by omega
      omega
theorem fd0 {a b : Int} (d : b % a = 0) : (-b).fdiv a = -b / a := Int.fdiv_eq_ediv_of_dvd (Int.dvd_neg.mpr (Int.dvd_of_emod_eq_zero d))
def spCand : Sp := fun vs H Q _ => ∃ (t : Addr) (l : Int × Int × Int), vs = [.ref t] ∧ NoT H ∧ H t = some (.tup (trV l)) ∧ Bd 29 l.1 ∧ Bd 59 l.2.1 ∧ Bd 59 l.2.2 ∧ ∀ D H' cs, Same H H' → NoT H' → H D = none → H' D = some (.lst (cs.map V.int)) → CandOk l cs → Q (.ref D) H'
theorem ok_candidates (T : Txt K mg Ad) : Def P w K mg base 3 "candidates" ["line"] spCand := by
  refine T.d_candidates.ok sc_candidates (fun vs H Q E h => ?_) (fun f cdv A outer s H vs Q E hr h => ?_)
  · obtain ⟨t, l, rfl, _⟩ := h
    rfl
  · obtain ⟨t, ⟨a, b, c⟩, rfl, nt, ht, ba, bb, bc, q⟩ := h
    refine ⟨_, (pss_cons (ps_asg (pv 0) (pg_tup rfl (pgs_cons (pg_name (i := 1) sc_candidates.nd rfl (Or.inl rfl)) (pgs_cons (pg_name (i := 2) sc_candidates.nd rfl (Or.inl rfl)) (pgs_cons (pg_name (i := 3) sc_candidates.nd rfl (Or.inl rfl)) pgs_nil)))))
      (pss_cons (ps_if (pt_cmpR op_ne (pv 3) pe_int (nomark _)) (pss_one (ps_ret (pe_d (ok_odd_primes_of T) (hr.mono (by decide)) (passes_call (takes_of rfl rfl rfl rfl) (fun _ _ _ _ h => h)) (pa_cons (pv 3) pa_nil)))) pss_nil)
      (pss_cons (ps_if (PW.pt (pw_and (pt_cmpR op_ne (pv 1) pe_int (nomark _)) (pw_and (pt_cmpR op_eq (pe_op op_modN (pv 2) (pv 1)) pe_int (nomark _)) (pw_and (pt_cmpR op_gt (pe_op op_fdivN (pe_un un_neg (pv 2)) (pv 1)) pe_int (nomark _)) (pw_and1 (pt_val (pe_d (ok_is_prime T) (hr.mono (by decide)) (passes_call (takes_of rfl rfl rfl rfl) (fun _ _ _ _ h => h)) (pa_cons (pe_op op_fdivN (pe_un un_neg (pv 2)) (pv 1)) pa_nil)))))))) (pss_one (ps_ret (pe_lst (pa_cons (pe_op op_fdivN (pe_un un_neg (pv 2)) (pv 1)) pa_nil)))) pss_nil)
      (pss_one (ps_ret (pe_lst pa_nil)))))), ?_⟩
    try dsimp only [cxOf]
    dsimp only [trV] at *
    wtm_at "rs"
    by_cases c0 : c = 0
    · subst c0
      rw [if_neg (by simp)]
      have al := ba.lt
      have bl := bb.lt
      have non : (∀ p, QR.OP p → a ≠ 0 → b % a = 0 → -b / a = p → False) → ∀ p, H p = none → Q (.ref p) (upd H p (.lst [])) := fun h p hp => q p _ [] (same_new hp) (NoT.upd nt rfl) hp upd_same (cand_nil h)
      wtm_at "rs"
      by_cases a0 : a = 0
      · rw [if_neg (by simp [a0])]
        wtm_at "rs"
        exact non (fun p _ h => absurd a0 h) _ ‹_›
      rw [if_pos (by simp [a0])]
      have cd : CDivN (-b) a := ⟨a0, by omega⟩
      wtm_at "rs"
      · exact a0
      by_cases d : b % a = 0
      · rw [if_pos (decide_eq_true ((fm0 a0).mpr d))]
        have z := cand_lt bb a0 d
        wtm_at "rs"
        · exact cd
        rw [fd0 d]
        by_cases g : 2 < -b / a
        · rw [if_pos (decide_eq_true g)]
          wtm_at "rs"
          · exact cd
          rw [fd0 d]
          refine ⟨_, rfl, by omega, _, rfl, ?_⟩
          by_cases pm : QR.Pm (-b / a)
          · rw [if_pos (decide_eq_true pm)]
            wtm_at "rs"
            · exact cd
            rw [fd0 d]
            rename_i D hD
            exact q D _ [-b / a] (same_new hD) (NoT.upd nt rfl) hD upd_same (cand_one bb a0 d pm g)
          · rw [if_neg (by rw [decide_eq_true_iff]; exact pm)]
            wtm_at "rs"
            exact non (fun p op _ _ e => pm (by rw [e]; exact op.1)) _ ‹_›
        · rw [if_neg (by rw [decide_eq_true_iff]; exact g)]
          wtm_at "rs"
          exact non (fun p op _ _ e => by have := op.three; omega) _ ‹_›
      · rw [if_neg (by rw [decide_eq_true_iff]; exact fun z => d ((fm0 a0).mp z))]
        wtm_at "rs"
        exact non (fun p _ _ h => absurd h d) _ ‹_›
    · rw [if_pos (by simp [c0])]
      have cl := bc.lt
      wtm_at "rs"
      exact use_oddQ nt c0 (by omega) (by omega) fun D H' l s n hD h oq => q D H' l s n hD h (cand_c c0 bc oq)
/-! ### checked_modulus -/
def spChkM (CM CW : Addr) : Sp := fun vs H Q E => ∃ m : Int, vs = [.int m] ∧ (m < 1 → ∀ d, H d = none → E (.ref CM) (some d) (upd H d (.xd [("modulus", .int m)]))) ∧ (4000 < m → ∀ d, H d = none → E (.ref CW) (some d) (upd H d (.xd [("modulus", .int m)]))) ∧ (1 ≤ m → m ≤ 4000 → Q .non H)
/-! ### checked_singles -/
def spChkS (K : PySem.W.Frag) (CP : Addr) : Sp := fun vs H Q E => ∃ (a : Addr) (S : List Int), vs = [.ref a] ∧ (SqL K H a (S.map V.int) ∨ SqT K H a (S.map V.int)) ∧ (∀ p ∈ S, p < 2 ^ 120) ∧
  (∀ l p r, S = l ++ p :: r → (∀ o ∈ l, QR.OP o) → ¬ QR.OP p → ∀ d, H d = none → E (.ref CP) (some d) (upd H d (.xd [("p", .int p)]))) ∧ ((∀ p ∈ S, QR.OP p) → Q .non H)
theorem ok_checked_singles (T : Txt K mg Ad) : Def P w K mg base 3 "checked_singles" ["singles"] (spChkS K Ad.c_BadPrime) := by
  refine T.d_checked_singles.ok sc_checked_singles (fun vs H Q E h => ?_) (fun f cdv A outer s H vs Q E hr h => ?_)
  · obtain ⟨a, S, rfl, _⟩ := h
    rfl
  · obtain ⟨a, S, rfl, hS, hb, qe, q⟩ := h
    refine ⟨_, (pss_one (ps_for (passes_of rfl) rfl (pi_alt (pi_list (pv 0)) (pi_tup (pv 0))) (pg_name (i := 1) sc_checked_singles.nd rfl (Or.inl rfl)) (pss_one (ps_if (PW.pt (pw_or (pt_cmpR op_eq (pv 1) pe_int (nomark _)) (pw_or1 (pt_not (pt_val (pe_d (ok_is_prime T) (hr.mono (by decide)) (passes_call (takes_of rfl rfl rfl rfl) (fun _ _ _ _ h => h)) (pa_cons (pv 1) pa_nil))))))) (pss_one (ps_raise rfl (takes_of rfl rfl rfl rfl) (pmk_err (T.err_BadPrime) (hr.mono (by decide)) (pa_cons (pv 1) pa_nil)))) pss_nil)))), ?_⟩
    try dsimp only [cxOf]
    have lp : ∀ (p : Int), p < 2 ^ 120 → ∀ (R : Bool → Hp → Prop), (¬ QR.OP p → R true H) → (QR.OP p → R false H) → tOr (tTest (tOp rEq (tVar 1) (tC (.int 2)))) (tNot (tB (tCall spPm [] E (tCons (tVar 1) tNil)))) [some (.ref a), some (.int p)] H R := fun p hp R r1 r2 => by
      wtm_at "rs"
      wtm_at "i"
      · rename_i h
        exact r1 fun z : QR.OP p => by have := z.2; omega
      · rename_i h
        wtm_at "rs"
        by_cases z : QR.Pm p
        · rw [decide_eq_true z]
          exact r2 ⟨z, QR.pm_odd z (by have := z.1; omega)⟩
        · rw [decide_eq_false z]
          exact r1 fun o => z o.1
    have turn : ∀ (i : Nat) (x : V), (S.map V.int)[i]? = some x → (∀ o ∈ S.take i, QR.OP o) → ∀ (σ : L2.St) (v1 : Option V), σ = [some (.ref a), v1] → ∀ (nx : L2.St → Hp → Prop), (∀ p, (∀ o ∈ S.take (i + 1), QR.OP o) → nx [some (.ref a), some (.int p)] H) → gName 1 x σ H fun σ2 H2 =>
        (tIfS (tOr (tTest (tOp rEq (tVar 1) (tC (.int 2)))) (tNot (tB (tCall spPm [] E (tCons (tVar 1) tNil))))) (fun D σ H => tMkO Ad.c_BadPrime (spErr Ad.c_BadPrime 1 fl_BadPrime) [] (tCons (tVar 1) tNil) σ H fun cls d H' => E cls d H') tNext) ⟨nx, Q, fun σ' H' => Q .non H', nx⟩ σ2 H2 := fun i x hx hl σ v1 hσ nx hn => by
      subst hσ
      rw [List.getElem?_map] at hx
      obtain ⟨p, hp, rfl⟩ := Option.map_eq_some_iff.mp hx
      have hi := (List.getElem?_eq_some_iff.mp hp).1
      have hm : p ∈ S := List.mem_of_getElem? hp
      have er : S.take (i + 1) = S.take i ++ [p] := by rw [List.take_add_one, hp]; rfl
      wtm_at "r"
      show tIfS _ _ _ _ [some (.ref a), some (.int p)] H
      refine Stp.mp ?_
      refine lp p (hb p hm) _ (fun ho => ?_) (fun ho => ?_)
      · wtm_at "rs"
        exact qe (S.take i) p (S.drop (i + 1)) (by
          have := (List.take_append_drop i S).symm
          rw [List.drop_eq_getElem_cons hi, (List.getElem?_eq_some_iff.mp hp).2] at this
          exact this) hl ho
      · wtm_at "rs"
        refine hn p fun o h => ?_
        rw [er] at h
        rcases List.mem_append.mp h with h | h
        · exact hl o h
        · rw [List.mem_singleton.mp h]
          exact ho
    wtm_at "r"
    rcases hS with hS | hS
    · refine .inl ?_
      wtm_at "rs"
      refine rd_forLs (fun i σ => ∃ v1, σ = [some (.ref a), v1] ∧ ∀ o ∈ S.take i, QR.OP o) hS ⟨_, rfl, by simp⟩ (fun i x σ hx ⟨v1, hσ, hl⟩ => turn i x hx hl σ v1 hσ _ fun p h => ⟨rfl, _, rfl, h⟩) fun σ ⟨v1, _, hl⟩ => q ?_
      rwa [List.length_map, List.take_length] at hl
    · refine .inr ?_
      wtm_at "rs"
      refine rd_forTs (fun i σ => ∃ v1, σ = [some (.ref a), v1] ∧ ∀ o ∈ S.take i, QR.OP o) hS ⟨_, rfl, by simp⟩ (fun i x σ hx ⟨v1, hσ, hl⟩ => turn i x hx hl σ v1 hσ _ fun p h => ⟨rfl, _, rfl, h⟩) fun σ ⟨v1, _, hl⟩ => q ?_
      rwa [List.length_map, List.take_length] at hl
/-! ### units_values -/
theorem ok_units_values (T : Txt K mg Ad) : Def P w K mg base 2 "units_values" ["modulus"] spUnits := by
  refine T.d_units_values.ok sc_units_values (fun vs H Q E h => ?_) (fun f cdv A outer s H vs Q E hr h => ?_)
  · obtain ⟨m, rfl, _⟩ := h
    rfl
  · obtain ⟨m, rfl, m1, m2, q⟩ := h
    refine ⟨_, (pss_one (ps_ret (pe_lc (own := [("rest", 1)])  (te := (tVar 1)) (tt := (tTest (tOp rEq (tCall (spCommon) [] E0 (tCons (tVar 1) (tCons (tVar 0) tNil))) (tC (.int 1))))) rfl sc_units_values.nd  (pi_range1 (by rfl) T.b_range (pa_cons (pv 0) pa_nil)) (blkOk_by (own := [("rest", 1)]) (N := ["modulus", "rest"]) (sc := defScope s_units_values) (by decide +kernel)) (fun _ _ _ _ _ => (pg_name (i := 1) sc_units_values.nd rfl (Or.inl rfl))) (fun _ _ _ _ _ => (pts_one (pt_cmpR op_eq (pe_d (E := E0) (ok_common T) (hr.mono (by decide)) passL (pa_cons (pv 1) (pa_cons (pv 0) pa_nil))) pe_int (nomark _)))) (fun _ _ _ _ _ => (pv 1))))), ?_⟩
    try dsimp only [cxOf]
    wtm_at "rs"
    refine rd_lcR (fun i : Nat => decide (Int.gcd (0 + (i : Int)) m = 1)) (fun i : Nat => V.int (0 + (i : Int))) (fun D i hD hi => ?_) fun D hD => ?_
    · wtm_at "r"
      refine ⟨rfl, ?_⟩
      wtm_at "rs"
      wtm_at "i"
      · rename_i h
        wtm_at "rs"
        exact put_R (by omega) (decide_eq_true (by omega)) rfl
      · rename_i h
        wtm_at "rs"
        exact skip_R (decide_eq_false (by omega))
    · rw [units_res]
      wtm_at "rs"
      exact q D hD
/-! ### shortened -/
def spShort : Sp := fun vs H Q E => ∃ (a : Addr) (m q : Int) (R : List Int), vs = [.int m, .ref a, .int q] ∧ NoT H ∧ H a = some (DFl R) ∧ 1 ≤ m ∧ m ≤ 4000 ∧ QR.Pm q ∧ q ∣ m ∧
  (∀ H', Same H H' → NoT H' → ¬ Lv m R (m / q) → Q .non H') ∧ (∀ D L H', Same H H' → NoT H' → H D = none → H' D = some (DFl L) → Short m R (m / q) L → Q (.ref D) H')
theorem use_short {a : Addr} {m q : Int} {R : List Int} {H : Hp} {Q : VK} {E : XK} (nt : NoT H) (ha : H a = some (DFl R)) (h1 : 1 ≤ m) (h2 : m ≤ 4000) (hq : QR.Pm q) (hd : q ∣ m)
    (k1 : ∀ H', Same H H' → NoT H' → ¬ Lv m R (m / q) → Q .non H') (k2 : ∀ D L H', Same H H' → NoT H' → H D = none → H' D = some (DFl L) → Short m R (m / q) L → Q (.ref D) H') : spShort [.int m, .ref a, .int q] H Q E := ⟨a, m, q, R, rfl, nt, ha, h1, h2, hq, hd, k1, k2⟩
theorem lifts_res {r s q : Int} : (((List.range q.toNat).filter fun _ => true).map fun k : Nat => V.int (r + (0 + (k : Int)) * s)) = (liftsL r s q).map V.int := by
  unfold liftsL
  rw [List.map_map, List.filter_eq_self.mpr fun _ _ => rfl]
  rfl
theorem liftsL_len {r s q : Int} : (liftsL r s q).length = q.toNat := by
  unfold liftsL
  rw [List.length_map, List.length_range]
theorem same_updN {H H' : Hp} {p : Addr} {o : HO} (h : Same H H') (hp : H p = none) : Same H (upd H' p o) := same_upd2 h hp
theorem ok_shortened (T : Txt K mg Ad) : Def P w K mg base 3 "shortened" ["modulus", "rests", "prime"] spShort := by
  refine T.d_shortened.ok sc_shortened (fun vs H Q E h => ?_) (fun f cdv A outer s H vs Q E hr h => ?_)
  · obtain ⟨a, m, q, R, rfl, _⟩ := h
    rfl
  · obtain ⟨a, m, q, R, rfl, nt, ha, m1, m2, hq, hd, kn, kd⟩ := h
    refine ⟨_, (pss_cons (ps_set (i := 3) sc_shortened.nd rfl (Or.inr rfl) (pe_op op_fdivB (pv 0) (pv 2)))
      (pss_cons (ps_set (i := 4) sc_shortened.nd rfl (Or.inl rfl) pe_dnewK)
      (pss_cons (ps_for (passes_of rfl) rfl (pi_list (pe_d (ok_units_values T) (hr.mono (by decide)) (passes_call (takes_of rfl rfl rfl rfl) (fun _ _ _ _ h => h)) (pa_cons (pv 3) pa_nil))) (pg_name (i := 5) sc_shortened.nd rfl (Or.inr rfl)) (pss_cons (ps_setLc (i := 6) (own := [("k", 8)])  (te := (tOp (rI0 fun i j => .int (i + j)) (tVar 5) (tOp (rI CMulB fun i j => .int (i * j)) (tVar 8) (tVar 3)))) rfl sc_shortened.nd rfl rfl (sw_true rfl rfl rfl (by decide +kernel)) (pi_range1 (by rfl) T.b_range (pa_cons (pv 2) pa_nil)) (blkOk_by (own := [("k", 8)]) (N := ["modulus", "rests", "prime", "smaller", "kept", "rest", "lifts", "found", "k", "lift"]) (sc := defScope s_shortened) (by decide +kernel)) (fun _ _ _ _ _ => (pg_name (i := 8) sc_shortened.nd rfl (Or.inl rfl))) (fun _ _ _ _ _ => pts_nil) (fun _ _ _ _ _ => (pe_op op_add (pv 5) (pe_op op_mulB (pv 8) (pv 3)))))
      (pss_cons (ps_setLc (i := 7) (own := [("lift", 9)])  (te := (tDIn (tVar 9) (tVar 1))) (tt := (tTest (tOp rEq (tCall (spCommon) [] E0 (tCons (tVar 9) (tCons (tVar 0) tNil))) (tC (.int 1))))) rfl sc_shortened.nd rfl rfl (sw_true rfl rfl rfl (by decide +kernel)) (pi_list (pv 6)) (blkOk_by (own := [("lift", 9)]) (N := ["modulus", "rests", "prime", "smaller", "kept", "rest", "lifts", "found", "k", "lift"]) (sc := defScope s_shortened) (by decide +kernel)) (fun _ _ _ _ _ => (pg_name (i := 9) sc_shortened.nd rfl (Or.inl rfl))) (fun _ _ _ _ _ => (pts_one (pt_cmpR op_eq (pe_d (E := E0) (ok_common T) (hr.mono (by decide)) passL (pa_cons (pv 9) (pa_cons (pv 0) pa_nil))) pe_int (nomark _)))) (fun _ _ _ _ _ => (pe_cmp (pc_din (hu_of hr) (pv 9) (pv 1)) rfl)))
      (pss_cons (ps_if (PW.pt (pw_and (pt_cmpR op_in_seq pe_bl (pv 7) (by rfl)) (pw_and1 (pt_cmpR op_in_seq pe_bl (pv 7) (by rfl))))) (pss_one (ps_ret pe_non)) pss_nil)
      (pss_one (ps_if (pt_val (pe_ix ix_list (pv 7) pe_int (fun _ _ => rfl))) (pss_one (ps_dput (hu_of hr) (pv 4) (pv 5) pe_bl rfl)) pss_nil))))))
      (pss_one (ps_ret (pv 4)))))), ?_⟩
    try dsimp only [cxOf]
    have q2 := hq.1
    have qm := Int.le_of_dvd (by omega) hd
    have hm : m = m / q * q := (Int.ediv_mul_cancel hd).symm
    have s1 : 1 ≤ m / q := by
      rcases Int.lt_or_le 0 (m / q) with z | z
      · exact z
      · have := Int.mul_le_mul_of_nonneg_right z (show 0 ≤ q by omega)
        omega
    have s2 : m / q ≤ 4000 := by
      have := Int.mul_le_mul_of_nonneg_left (show 1 ≤ q by omega) (show 0 ≤ m / q by omega)
      omega
    have sd : m / q ∣ m := ⟨q, hm⟩
    wtm_at "rs"
    intro Dk hDk
    wtm_at "rs"
    refine use_units s1 (by omega) fun U hU => ?_
    have hDk' : upd H Dk (DFl []) Dk = some (DFl []) := upd_same
    have hUU : upd (upd H Dk (DFl [])) U (.lst ((uL (m / q)).map V.int)) U = some (.lst ((uL (m / q)).map V.int)) := upd_same
    have hDU : upd (upd H Dk (DFl [])) U (.lst ((uL (m / q)).map V.int)) Dk = some (DFl []) := upd_keep hDk' hU
    have hne : Dk ≠ U := by
      rintro rfl
      cases hDk'.symm.trans hU
    generalize m / q = s at *
    wtm_at "rs"
    refine rd_forL (xs := (uL s).map V.int) (fun i σ H' => ∃ (L : List Int) (v5 v6 v7 : Option V), σ = [some (.int m), some (.ref a), some (.int q), some (.int s), some (.ref Dk), v5, v6, v7, none, none] ∧ Same H H' ∧ NoT H' ∧ H' Dk = some (DFl L) ∧ H' U = some (.lst ((uL s).map V.int)) ∧ Kept m R s ((uL s).take i) L)
      ⟨[], none, none, none, rfl, by wtm_at "sm", by wtm_at "nt", hDU, hUU, Kept.nil⟩ (fun i σ H' _ ⟨_, _, _, _, _, _, _, _, h, _⟩ => SqL.of h) ?_ ?_
    · rintro i x σ H' hi ⟨L, v5, v6, v7, rfl, sm, nt', hD, hU', inv⟩
      rw [List.getElem?_map] at hi
      obtain ⟨r, hr, rfl⟩ := Option.map_eq_some_iff.mp hi
      have hil := (List.getElem?_eq_some_iff.mp hr).1
      have er : (uL s).take (i + 1) = (uL s).take i ++ [r] := by rw [List.take_add_one, hr]; rfl
      have hru := List.mem_of_getElem? hr
      obtain ⟨r0, r1, rc⟩ := mem_uL.mp hru
      have hlt : ∀ k ∈ (uL s).take i, k < r := by
        have h := @uL_inc s
        rw [← List.take_append_drop (i + 1) (uL s), er, List.append_assoc] at h
        exact fun k hk => (List.pairwise_append.mp h).2.2 k hk r List.mem_cons_self
      have ha' := sm _ _ ha
      wtm_at "rs"
      refine rd_lcR (fun _ => true) (fun k => V.int (r + (0 + (k : Int)) * s)) (fun D i hD hi => ?_) fun D1 hD1 => ?_
      · wtm_at "r"
        refine ⟨rfl, ?_⟩
        wtm_at "rs"
        exact put_R (by omega) rfl rfl
      · rw [lifts_res]
        wtm_at "rs"
        refine rd_lcI (fun l => decide (Int.gcd l m = 1)) (fun l => V.bl (decide (l ∈ R))) (SqL.of upd_same) (fun D l x rr hD hx => ?_) fun D2 hD2 => ?_
        · have few : l.length < 1000000 := by
            have := congrArg List.length hx
            rw [List.length_append, liftsL_len] at this
            omega
          wtm_at "r"
          refine ⟨rfl, ?_⟩
          wtm_at "rs"
          wtm_at "i"
          · rename_i h
            wtm_at "rs"
            exact put_I few (decide_eq_true (by omega)) rfl
          · rename_i h
            exact skip_I (decide_eq_false fun z => h (by omega))
        · rw [show ((liftsL r s q).filter fun l => decide (Int.gcd l m = 1)).map (fun l => V.bl (decide (l ∈ R))) = ((lftL m r s q).map fun l => decide (l ∈ R)).map V.bl by rw [List.map_map]; rfl]
          have smn : Same H' (upd (upd H' D1 (.lst ((liftsL r s q).map V.int))) D2 (.lst (((lftL m r s q).map fun l => decide (l ∈ R)).map V.bl))) := (same_new hD1).trans (same_new hD2)
          have hF : SqL K (upd (upd H' D1 (.lst ((liftsL r s q).map V.int))) D2 (.lst (((lftL m r s q).map fun l => decide (l ∈ R)).map V.bl))) D2 (((lftL m r s q).map fun l => decide (l ∈ R)).map V.bl) := SqL.of upd_same
          have ntn : NoT (upd (upd H' D1 (.lst ((liftsL r s q).map V.int))) D2 (.lst (((lftL m r s q).map fun l => decide (l ∈ R)).map V.bl))) := NoT.upd (NoT.upd nt' rfl) rfl
          generalize upd (upd H' D1 (.lst ((liftsL r s q).map V.int))) D2 (.lst (((lftL m r s q).map fun l => decide (l ∈ R)).map V.bl)) = Hn at *
          have hne0 := lft_ne (r := r) hq (by omega) hm hru
          have lp := fun l hl => lft_prop (q := q) (by omega) hm hru (l := l) hl
          have mix : ∀ l1 ∈ lftL m r s q, ∀ l2 ∈ lftL m r s q, l1 ∈ R → l2 ∉ R → ¬ Lv m R s := fun l1 h1 l2 h2 a1 a2 z => by
            obtain ⟨c1, e1, f1⟩ := lp l1 h1
            obtain ⟨c2, e2, f2⟩ := lp l2 h2
            have := z l1 l2 c1 c2 (QR.dvd_of_emod_eq (by rw [f1, f2]))
            rw [e1, e2] at this
            exact a2 (this.mp a1)
          have all : ∀ x : Int, Int.gcd x m = 1 → x % s = r → x % m ∈ lftL m r s q := fun x hx hr => lft_all (by omega) (by omega) hm hx hr
          have step : ∀ (σ : L2.St) (nx : L2.St → Hp → Prop) (bk ct : L2.St → Hp → Prop), σ = [some (.int m), some (.ref a), some (.int q), some (.int s), some (.ref Dk), some (.int r), some (.ref D1), some (.ref D2), none, none] →
              ((∃ l ∈ lftL m r s q, l ∈ R) → (∃ l ∈ lftL m r s q, l ∉ R) → False) →
              (∀ H2 L', Same H H2 → NoT H2 → H2 Dk = some (DFl L') → H2 U = some (.lst ((uL s).map V.int)) → Kept m R s ((uL s).take (i + 1)) L' → nx σ H2) →
              tIfS (tB (tOp (rIxL K) (tVar 7) (tC (.int 0)))) (sDPut (tVar 4) (tVar 5) (tC (.bl true))) tNext ⟨nx, Q, bk, ct⟩ σ Hn := fun σ nx bk ct hσ one hn => by
            subst hσ
            obtain ⟨l0, ls, el⟩ := List.exists_cons_of_ne_nil hne0
            have h0 : l0 ∈ lftL m r s q := by rw [el]; exact List.mem_cons_self
            rw [el, List.map_cons, List.map_cons] at hF
            wtm_at "rs"
            refine rd_ixL (v := .bl (decide (l0 ∈ R))) hF (by simp [atI, ixN]) ?_
            refine ⟨_, rfl, ?_⟩
            have hlL : L.length < 1000000 := by
              have := nodup_le (M := 4000) (l := L) (inv.inc.imp fun h => by omega) fun k hk => by
                have := mem_uL.mp (List.mem_of_mem_take (inv.mem k hk))
                exact ⟨this.1, by omega⟩
              omega
            by_cases z : l0 ∈ R
            · rw [if_pos (decide_eq_true z)]
              wtm_at "rs"
              refine rd_dputF (smn _ _ hD) hlL ?_
              rw [insL_new fun hk => by have := hlt r (inv.mem r hk); omega]
              refine hn _ (L ++ [r]) (same_updN (sm.trans smn) hDk) (NoT.upd ntn rfl) upd_same (by rw [upd_ne (fun z => hne z.symm)]; exact smn _ _ hU') ?_
              rw [er]
              refine inv.put hlt fun x hx hr => ?_
              refine Classical.byContradiction fun y => one ⟨l0, h0, z⟩ ⟨_, all x hx hr, y⟩
            · rw [if_neg (by rw [decide_eq_true_iff]; exact z)]
              wtm_at "rs"
              refine hn _ L (sm.trans smn) ntn (smn _ _ hD) (smn _ _ hU') ?_
              rw [er]
              refine inv.skip hlt fun x hx hr y => ?_
              exact one ⟨_, all x hx hr, y⟩ ⟨l0, h0, z⟩
          wtm_at "rs"
          refine rd_inL hF rfl flat_bl ?_
          rw [inV_bl]
          refine ⟨_, rfl, ?_⟩
          by_cases z1 : true ∈ (lftL m r s q).map fun l => decide (l ∈ R)
          · rw [if_pos (decide_eq_true z1)]
            wtm_at "rs"
            refine rd_inL hF rfl flat_bl ?_
            rw [inV_bl]
            refine ⟨_, rfl, ?_⟩
            obtain ⟨l1, a1, b1⟩ := lft_bl.mp z1
            by_cases z2 : false ∈ (lftL m r s q).map fun l => decide (l ∈ R)
            · rw [if_pos (decide_eq_true z2)]
              obtain ⟨l2, a2, b2⟩ := lft_bl.mp z2
              wtm_at "rs"
              exact kn Hn (sm.trans smn) ntn (mix l1 a1 l2 a2 (of_decide_eq_true b1) (of_decide_eq_false b2))
            · rw [if_neg (by rw [decide_eq_true_iff]; exact z2)]
              refine step _ _ _ _ rfl (fun _ ⟨l2, a2, b2⟩ => z2 (lft_bl.mpr ⟨l2, a2, decide_eq_false b2⟩)) fun H2 L' c1 c2 c3 c4 c5 => ?_
              exact ⟨L', _, _, _, rfl, c1, c2, c3, c4, c5⟩
          · rw [if_neg (by rw [decide_eq_true_iff]; exact z1)]
            refine step _ _ _ _ rfl (fun ⟨l2, a2, b2⟩ _ => z1 (lft_bl.mpr ⟨l2, a2, decide_eq_true b2⟩)) fun H2 L' c1 c2 c3 c4 c5 => ?_
            exact ⟨L', _, _, _, rfl, c1, c2, c3, c4, c5⟩
    · rintro σ H' ⟨L, v5, v6, v7, rfl, sm, nt', hD, hU', inv⟩
      rw [List.length_map, List.take_length] at inv
      wtm_at "rs"
      exact kd Dk L H' sm nt' hDk hD (inv.done sd (by omega))
/-! ### toggled -/
def spTog : Sp := fun vs H Q E => ∃ (a : Addr) (p : Int) (S : List Int), vs = [.ref a, .int p] ∧ NoT H ∧ H a = some (.lst (S.map V.int)) ∧ S.length < 1000000 ∧ ∀ D H', Same H H' → NoT H' → H D = none → H' D = some (.lst ((togL S p).map V.int)) → Q (.ref D) H'
theorem use_tog {a : Addr} {p : Int} {S : List Int} {H : Hp} {Q : VK} {E : XK} (nt : NoT H) (ha : H a = some (.lst (S.map V.int))) (h1 : S.length < 1000000) (q : ∀ D H', Same H H' → NoT H' → H D = none → H' D = some (.lst ((togL S p).map V.int)) → Q (.ref D) H') : spTog [.ref a, .int p] H Q E := ⟨a, p, S, rfl, nt, ha, h1, q⟩
theorem ok_toggled (T : Txt K mg Ad) : Def P w K mg base 1 "toggled" ["singles", "p"] spTog := by
  refine T.d_toggled.ok sc_toggled (fun vs H Q E h => ?_) (fun f cdv A outer s H vs Q E hr h => ?_)
  · obtain ⟨a, p, S, rfl, _⟩ := h
    rfl
  · obtain ⟨a, p, S, rfl, nt, ha, few, q⟩ := h
    refine ⟨_, (pss_cons (ps_if (pt_cmpR op_in_seq (pv 1) (pv 0) (by rfl)) (pss_one (ps_ret (pe_lc (own := [("other", 2)])  (te := (tVar 2)) (tt := (tTest (tOp rNe (tVar 2) (tVar 1)))) rfl sc_toggled.nd  (pi_list (pv 0)) (blkOk_by (own := [("other", 2)]) (N := ["singles", "p", "other"]) (sc := defScope s_toggled) (by decide +kernel)) (fun _ _ _ _ _ => (pg_name (i := 2) sc_toggled.nd rfl (Or.inl rfl))) (fun _ _ _ _ _ => (pts_one (pt_cmpR op_ne (pv 2) (pv 1) (nomark _)))) (fun _ _ _ _ _ => (pv 2))))) pss_nil)
      (pss_one (ps_ret (pe_op op_cat (pv 0) (pe_lst (pa_cons (pv 1) pa_nil)))))), ?_⟩
    try dsimp only [cxOf]
    wtm_at "rs"
    refine rd_inL (SqL.of ha) rfl flat_ints ?_
    rw [inV_ints]
    refine ⟨_, rfl, ?_⟩
    by_cases z : p ∈ S
    · rw [if_pos (decide_eq_true z)]
      have e : togL S p = S.filter fun o => !decide (o = p) := if_pos z
      wtm_at "rs"
      refine rd_lcI (fun o => !decide (o = p)) V.int (SqL.of ha) (fun D l x r hD hx => ?_) fun D hD => ?_
      · have fl : l.length < 1000000 := by
          have := congrArg List.length hx
          rw [List.length_append] at this
          omega
        wtm_at "r"
        refine ⟨rfl, ?_⟩
        wtm_at "rs"
        by_cases y : x = p
        · rw [if_neg (by simp [y])]
          exact skip_I (by simp [y])
        · rw [if_pos (by simp [y])]
          wtm_at "rs"
          exact put_I fl (by simp [y]) rfl
      · rw [← e]
        exact q D _ (same_new hD) (NoT.upd nt rfl) hD upd_same
    · rw [if_neg (by rw [decide_eq_true_iff]; exact z)]
      have e : togL S p = S ++ [p] := if_neg z
      wtm_at "rs"
      rename_i p0 hp0
      refine rd_cat (upd_keep ha hp0) upd_same (room2 (n := 999999) (m := 1) (by rw [List.length_map]; omega) len_one (by decide)) fun D hD => ?_
      rw [show S.map V.int ++ [V.int p] = (togL S p).map V.int by rw [e, List.map_append]; rfl]
      exact q D _ ((same_new hp0).trans (same_new hD)) (NoT.upd (NoT.upd nt rfl) rfl) ((same_new hp0).free hD) upd_same
/-! ### told_by -/
def Rests (K : PySem.W.Frag) (H : Hp) (a : Addr) (R : List Int) : Prop := H a = some (DFl R) ∨ SqL K H a (R.map V.int) ∨ SqT K H a (R.map V.int)
theorem Rests.mono {K : PySem.W.Frag} {H H' : Hp} {a : Addr} {R : List Int} (sm : Same H H') (h : Rests K H a R) : Rests K H' a R := h.elim (fun z => .inl (sm _ _ z)) fun z => .inr (z.elim (fun z => .inl (sm.seq z)) fun z => .inr (sm.seqT z))
def spTold (K : PySem.W.Frag) : Sp := fun vs H Q E => ∃ (a : Addr) (m p : Int) (R : List Int), vs = [.int m, .ref a, .int p] ∧ Rests K H a R ∧ 1 ≤ m ∧ 1 ≤ p ∧ Q (.bl (decide (toldP m R p))) H
theorem use_told {K : PySem.W.Frag} {a : Addr} {m p : Int} {R : List Int} {H : Hp} {Q : VK} {E : XK} (ha : Rests K H a R) (h1 : 1 ≤ m) (h2 : 1 ≤ p) (q : Q (.bl (decide (toldP m R p))) H) : spTold K [.int m, .ref a, .int p] H Q E := ⟨a, m, p, R, rfl, ha, h1, h2, q⟩
theorem ok_told_by (T : Txt K mg Ad) : Def P w K mg base 1 "told_by" ["modulus", "rests", "p"] (spTold K) := by
  refine T.d_told_by.ok sc_told_by (fun vs H Q E h => ?_) (fun f cdv A outer s H vs Q E hr h => ?_)
  · obtain ⟨a, m, p, R, rfl, _⟩ := h
    rfl
  · obtain ⟨a, m, p, R, rfl, ha, m1, p1, q⟩ := h
    refine ⟨_, (pss_one (ps_ret (pe_and (pe_cmpR op_ne (pe_op op_mod (pv 0) (pv 2)) pe_int (nomark _)) (pe_one (pe_alt (pe_cmpR op_in_seq (pe_op op_mod (pv 2) (pv 0)) (pv 1) (by rfl)) (pe_cmp (pc_din (hu_of hr) (pe_op op_mod (pv 2) (pv 0)) (pv 1)) rfl)))))), ?_⟩
    try dsimp only [cxOf]
    wtm_at "rs"
    have e1 : (m % p = 0) ↔ p ∣ m := ⟨Int.dvd_of_emod_eq_zero, Int.emod_eq_zero_of_dvd⟩
    by_cases z : p ∣ m
    · rw [if_neg (by rw [decide_eq_true (e1.mpr z)]; decide)]
      rw [show decide (toldP m R p) = false from decide_eq_false fun y => y.1 z] at q
      exact q
    · rw [if_pos (by rw [decide_eq_false (fun y => z (e1.mp y))]; rfl)]
      have e2 : decide (toldP m R p) = decide (p % m ∈ R) := decide_eq_decide.mpr ⟨fun y => y.2, fun y => ⟨z, y⟩⟩
      rw [e2] at q
      rcases ha with ha | ha | ha
      · refine .inr ?_
        wtm_at "rs"
        first | exact q | exact rd_dinF ha q
      · refine .inl ?_
        wtm_at "rs"
        first | exact q | exact rd_inL ha rfl flat_ints (by rw [inV_ints]; exact q)
      · refine .inl ?_
        wtm_at "rs"
        first | exact q | exact rd_inT ha rfl flat_ints (by rw [inV_ints]; exact q)
/-! ### least_description -/
def spLeast : Sp := fun vs H Q E => ∃ (a b : Addr) (m : Int) (R S : List Int), vs = [.int m, .ref a, .ref b] ∧ NoT H ∧ H a = some (DFl R) ∧ H b = some (.lst (S.map V.int)) ∧ m ≤ 4000 ∧ Desc m R S ∧ R.Nodup ∧ S.Nodup ∧ S.length ≤ 900000 ∧
  ∀ (H' : Hp) (t a' b' : Addr) (m' : Int) (R' S' : List Int), Same H H' → NoT H' → H t = none → H' t = some (.tup [.int m', .ref a', .ref b']) → H' a' = some (DFl R') → H' b' = some (.lst (S'.map V.int)) → LeastOk m R S m' R' S' → (∀ q, QR.Pm q → LowAt m' R' q) → Q (.ref t) H'
/-- what shortening has told -/
def ShW (H' : Hp) (v : V) (m : Int) (R : List Int) (q : Int) : Prop := (v = .non ∧ LowAt m R q) ∨ ∃ D L, v = .ref D ∧ H' D = some (DFl L) ∧ q ∣ m ∧ Short m R (m / q) L
theorem use_shortW {a : Addr} {m q : Int} {R : List Int} {H : Hp} {Q : VK} {E : XK} (nt : NoT H) (ha : H a = some (DFl R)) (h1 : 1 ≤ m) (h2 : m ≤ 4000) (hq : QR.Pm q) (hd : q ∣ m)
    (k : ∀ v H', Same H H' → NoT H' → ShW H' v m R q → Q v H') : spShort [.int m, .ref a, .int q] H Q E :=
  use_short nt ha h1 h2 hq hd (fun H' a b c => k _ H' a b (.inl ⟨rfl, lowAt_of_not c⟩)) fun D L H' a b _ c d => k _ H' a b (.inr ⟨D, L, rfl, c, hd, d⟩)
theorem ok_least_description (T : Txt K mg Ad) : Def P w K mg base 4 "least_description" ["modulus", "rests", "singles"] spLeast := by
  refine T.d_least_description.ok sc_least_description (fun vs H Q E h => ?_) (fun f cdv A outer s H vs Q E hr h => ?_)
  · obtain ⟨a, b, m, R, S, rfl, _⟩ := h
    rfl
  · obtain ⟨a, b, m, R, S, rfl, nt, ha, hb, m2, de, rn, sn, few, q⟩ := h
    have m1 := de.pos
    refine ⟨_, (pss_cons (ps_for (passes_of rfl) rfl (pi_list (pe_d (ok_factors T) (hr.mono (by decide)) (passes_call (takes_of rfl rfl rfl rfl) (fun _ _ _ _ h => h)) (pa_cons (pv 0) pa_nil))) (pg_tup rfl (pgs_cons (pg_name (i := 3) sc_least_description.nd rfl (Or.inl rfl)) (pgs_cons (pg_name (i := 4) sc_least_description.nd rfl (Or.inl rfl)) pgs_nil))) (pss_cons (ps_set (i := 5) sc_least_description.nd rfl (Or.inl rfl) (pe_d (ok_shortened T) (hr.mono (by decide)) (passes_call (takes_of rfl rfl rfl rfl) (fun _ _ _ _ h => h)) (pa_cons (pv 0) (pa_cons (pv 1) (pa_cons (pv 3) pa_nil)))))
      (pss_one (ps_while (passes_of rfl) (pt_cmpR op_notN (pv 5) pe_non (nomark _)) (pss_cons (ps_set (i := 0) sc_least_description.nd rfl (Or.inl rfl) (pe_op op_fdivB (pv 0) (pv 3)))
      (pss_cons (ps_set (i := 1) sc_least_description.nd rfl (Or.inl rfl) (pv 5))
      (pss_cons (ps_if (PW.pt (pw_and (pt_cmpR op_ne (pv 3) pe_int (nomark _)) (pw_and (pt_cmpR op_ne (pe_op op_mod (pv 0) (pv 3)) pe_int (nomark _)) (pw_and1 (pt_val (pe_d (ok_told_by T) (hr.mono (by decide)) (passes_call (takes_of rfl rfl rfl rfl) (fun _ _ _ _ h => h)) (pa_cons (pv 0) (pa_cons (pv 1) (pa_cons (pv 3) pa_nil))))))))) (pss_one (ps_set (i := 2) sc_least_description.nd rfl (Or.inl rfl) (pe_d (ok_toggled T) (hr.mono (by decide)) (passes_call (takes_of rfl rfl rfl rfl) (fun _ _ _ _ h => h)) (pa_cons (pv 2) (pa_cons (pv 3) pa_nil))))) pss_nil)
      (pss_cons (ps_set (i := 5) sc_least_description.nd rfl (Or.inl rfl) pe_non)
      (pss_one (ps_if (pt_cmpR op_eq (pe_op op_mod (pv 0) (pv 3)) pe_int (nomark _)) (pss_one (ps_set (i := 5) sc_least_description.nd rfl (Or.inl rfl) (pe_d (ok_shortened T) (hr.mono (by decide)) (passes_call (takes_of rfl rfl rfl rfl) (fun _ _ _ _ h => h)) (pa_cons (pv 0) (pa_cons (pv 1) (pa_cons (pv 3) pa_nil)))))) pss_nil))))))))))
      (pss_one (ps_ret (pe_tup (pa_cons (pv 0) (pa_cons (pv 1) (pa_cons (pv 2) pa_nil))))))), ?_⟩
    try dsimp only [cxOf]
    wtm_at "rs"
    refine ⟨_, rfl, nt, m1, by omega, ?_⟩
    intro J H1 ts fs sm nt1 hJ hJ' hl hf
    wtm_at "rs"
    refine rd_forL (xs := ts.map V.ref) (fun i σ H2 => ∃ (a' b' : Addr) (m' : Int) (R' S' : List Int) (v3 v4 v5 : Option V), σ = [some (.int m'), some (.ref a'), some (.ref b'), v3, v4, v5] ∧ Same H1 H2 ∧ NoT H2 ∧ H2 a' = some (DFl R') ∧ H2 b' = some (.lst (S'.map V.int)) ∧ LeastOk m R S m' R' S' ∧ (∀ x ∈ fs.take i, LowAt m' R' x.1) ∧ ∀ x ∈ fs.drop i, x.1 ∣ m')
      ⟨a, b, m, R, S, none, none, none, rfl, Same.refl _, nt1, sm _ _ ha, sm _ _ hb, LeastOk.refl de rn sn, fun x h => absurd h (by simp), fun x hx => (hf.mem.mp ⟨x, List.mem_of_mem_drop hx, rfl⟩).2⟩ (fun i σ H2 _ ⟨_, _, _, _, _, _, _, _, _, s, _⟩ => s.seq (SqL.of hJ')) ?_ ?_
    · rintro i x σ H2 hi ⟨a', b', m', R', S', v3, v4, v5, rfl, sm2, nt2, ha2, hb2, ok, low, div⟩
      obtain ⟨t, l, rfl, ht, hlx⟩ := hl.at hi
      rw [List.getElem?_map] at hlx
      obtain ⟨⟨p, e⟩, hy, rfl⟩ := Option.map_eq_some_iff.mp hlx
      have hil := (List.getElem?_eq_some_iff.mp hy).1
      have hdr : fs.drop i = (p, e) :: fs.drop (i + 1) := by rw [List.drop_eq_getElem_cons hil, (List.getElem?_eq_some_iff.mp hy).2]
      have er : fs.take (i + 1) = fs.take i ++ [(p, e)] := by rw [List.take_add_one, hy]; rfl
      have hp : QR.Pm p := (hf.prime _ (List.mem_of_getElem? hy)).1
      have hpd : p ∣ m' := div (p, e) (by rw [hdr]; exact List.mem_cons_self)
      have hT : SqT K H2 t [.int p, .int (e : Int)] := SqT.of (sm2 _ _ ht)
      have asc : ∀ x ∈ fs.drop (i + 1), QR.Pm x.1 ∧ x.1 ≠ p := fun x hx => by
        refine ⟨(hf.prime _ (List.mem_of_mem_drop hx)).1, ?_⟩
        have h := hf.asc
        rw [← List.take_append_drop i fs, hdr] at h
        have := (List.pairwise_cons.mp (List.pairwise_append.mp h).2.1).1 x hx
        dsimp only at this
        omega
      have tk : ∀ x ∈ fs.take i, QR.Pm x.1 := fun x hx => (hf.prime _ (List.mem_of_mem_take hx)).1
      have small : ∀ {m' : Int} {R' S' : List Int}, LeastOk m R S m' R' S' → 1 ≤ m' ∧ m' ≤ 4000 := fun ok => by
        have h1 := ok.desc.pos
        have h2 := Int.le_of_dvd (by omega) ok.sub.dvd
        omega
      wtm_at "rs"
      refine use_shortW nt2 ha2 (small ok).1 (small ok).2 hp hpd fun v H3 sm3 nt3 hv => ?_
      wtm_at "rs"
      refine rd_while (fun μ σ H' => ∃ (a' b' : Addr) (m' : Int) (R' S' : List Int) (v : V), μ = m'.toNat ∧ σ = [some (.int m'), some (.ref a'), some (.ref b'), some (.int p), some (.int (e : Int)), some v] ∧ Same H1 H' ∧ NoT H' ∧ H' a' = some (DFl R') ∧ H' b' = some (.lst (S'.map V.int)) ∧ LeastOk m R S m' R' S' ∧ (∀ x ∈ fs.take i, LowAt m' R' x.1) ∧ (∀ x ∈ fs.drop (i + 1), x.1 ∣ m') ∧ ShW H' v m' R' p) _
        ⟨a', b', m', R', S', v, rfl, rfl, sm2.trans sm3, nt3, sm3 _ _ ha2, sm3 _ _ hb2, ok, low, fun x hx => div x (by rw [hdr]; exact List.mem_cons_of_mem _ hx), hv⟩ ?_
      clear v H3 sm3 nt3 hv ha2 hb2 ok low div hpd a' b' m' R' S' v3 v4 v5
      rintro μ σ H3 ⟨a', b', m', R', S', v, rfl, rfl, sm3, nt3, ha2, hb2, ok, low, div, hv⟩
      rcases hv with ⟨rfl, hlow⟩ | ⟨D, L, rfl, hD, hpd, hsh⟩
      · wtm_at "rs"
        refine ⟨a', b', m', R', S', _, _, _, rfl, sm3, nt3, ha2, hb2, ok, fun x hx => ?_, div⟩
        rw [er] at hx
        rcases List.mem_append.mp hx with hx | hx
        · exact low x hx
        · rw [List.mem_singleton.mp hx]
          exact hlow
      · have ok2 := ok.next hp hpd hsh
        have sm0 := small ok
        have sm1 := small ok2
        have p2 := hp.1
        obtain ⟨d1, d2⟩ := div_pos_of sm0.1 p2 hpd
        have md : ∀ {s : Int}, s % p = 0 ↔ p ∣ s := ⟨Int.dvd_of_emod_eq_zero, Int.emod_eq_zero_of_dvd⟩
        have tail : ∀ (s : Int) (b4 : Addr) (S4 : List Int) (H4 : Hp) (σ : L2.St) (nx : L2.St → Hp → Prop) (bk ct : L2.St → Hp → Prop), σ = [some (.int s), some (.ref D), some (.ref b4), some (.int p), some (.int (e : Int)), some .non] → 1 ≤ s ∧ s ≤ 4000 → Same H1 H4 → NoT H4 → H4 D = some (DFl L) → H4 b4 = some (.lst (S4.map V.int)) →
            (∀ v H5, Same H1 H5 → NoT H5 → H5 D = some (DFl L) → H5 b4 = some (.lst (S4.map V.int)) → ShW H5 v s L p → nx [some (.int s), some (.ref D), some (.ref b4), some (.int p), some (.int (e : Int)), some v] H5) →
            if decide (s % p = 0) = true then tAsg (tCall spShort [] E (tCons (tVar 0) (tCons (tVar 1) (tCons (tVar 3) tNil)))) (gName 5) ⟨nx, Q, bk, ct⟩ σ H4 else tNext ⟨nx, Q, bk, ct⟩ σ H4 := fun s b4 S4 H4 σ nx bk ct hσ hs sm4 nt4 hD4 hb4 hn => by
          subst hσ
          wtm_at "i"
          · rename_i h
            wtm_at "rs"
            refine use_shortW nt4 hD4 hs.1 hs.2 hp (md.mp (by omega)) fun v H5 sm5 nt5 hv => ?_
            wtm_at "rs"
            exact hn v H5 (sm4.trans sm5) nt5 (sm5 _ _ hD4) (sm5 _ _ hb4) hv
          · rename_i h
            wtm_at "rs"
            exact hn .non H4 sm4 nt4 hD4 hb4 (.inl ⟨rfl, lowAt_nd fun z => h (md.mpr z)⟩)
        have low2 : ∀ x ∈ fs.take i, LowAt (m' / p) L x.1 := fun x hx => (low x hx).next hp (tk x hx) sm0.1 hpd hsh
        have div2 : ∀ x ∈ fs.drop (i + 1), x.1 ∣ m' / p := fun x hx => dvd_next (asc x hx).1 hp hpd (div x hx) (asc x hx).2
        have fewS : S'.length < 1000000 := by
          have := ok.few m2
          omega
        have pm := Int.le_of_dvd (by omega) hpd
        wtm_at "rs"
        clear hpd hsh
        generalize hs : m' / p = s at *
        have skip : nextS s L S' p = S' → ∀ (nx bk ct : L2.St → Hp → Prop), (∀ v H5, Same H1 H5 → NoT H5 → H5 D = some (DFl L) → H5 b' = some (.lst (S'.map V.int)) → ShW H5 v s L p → LeastOk m R S s L S' → nx [some (.int s), some (.ref D), some (.ref b'), some (.int p), some (.int (e : Int)), some v] H5) → ∀ σ, σ = [some (.int s), some (.ref D), some (.ref b'), some (.int p), some (.int (e : Int)), some .non] →
            if decide (s % p = 0) = true then tAsg (tCall spShort [] E (tCons (tVar 0) (tCons (tVar 1) (tCons (tVar 3) tNil)))) (gName 5) ⟨nx, Q, bk, ct⟩ σ H3 else tNext ⟨nx, Q, bk, ct⟩ σ H3 := fun en nx bk ct hn σ hσ => by
          rw [en] at ok2
          exact tail s b' S' H3 σ nx bk ct hσ sm1 sm3 nt3 hD hb2 fun v H5 c1 c2 c3 c4 c5 => hn v H5 c1 c2 c3 c4 c5 ok2
        by_cases c1 : p = 2
        · rw [if_neg (by rw [decide_eq_true c1]; decide)]
          wtm_at "rs"
          refine skip (if_neg fun z => z.1 c1) _ _ _ (fun v H5 c1 c2 c3 c4 c5 ok2 => ?_) _ rfl
          exact ⟨_, by omega, D, b', s, L, S', v, rfl, rfl, c1, c2, c3, c4, ok2, low2, div2, c5⟩
        · rw [if_pos (by rw [decide_eq_false c1]; rfl)]
          wtm_at "rs"
          by_cases c2 : p ∣ s
          · rw [if_neg (by rw [decide_eq_true (md.mpr c2)]; decide)]
            wtm_at "rs"
            refine skip (if_neg fun z => z.2.1 c2) _ _ _ (fun v H5 c1 c2 c3 c4 c5 ok2 => ?_) _ rfl
            exact ⟨_, by omega, D, b', s, L, S', v, rfl, rfl, c1, c2, c3, c4, ok2, low2, div2, c5⟩
          · rw [if_pos (by rw [decide_eq_false fun z => c2 (md.mp z)]; rfl)]
            wtm_at "rs"
            refine use_told (.inl hD) sm1.1 (by omega) ?_
            refine ⟨_, rfl, ?_⟩
            by_cases c3 : toldP s L p
            · rw [if_pos (decide_eq_true c3)]
              wtm_at "rs"
              refine use_tog nt3 hb2 fewS fun D5 H5 sm5 nt5 _ hD5 => ?_
              rw [show nextS s L S' p = togL S' p from if_pos ⟨c1, c3⟩] at ok2
              wtm_at "rs"
              refine tail s D5 _ H5 _ _ _ _ rfl sm1 (sm3.trans sm5) nt5 (sm5 _ _ hD) hD5 fun v H6 c1 c2 c3 c4 c5 => ?_
              exact ⟨_, by omega, D, D5, s, L, _, v, rfl, rfl, c1, c2, c3, c4, ok2, low2, div2, c5⟩
            · rw [if_neg (by rw [decide_eq_true_iff]; exact c3)]
              wtm_at "rs"
              refine skip (if_neg fun z => c3 z.2) _ _ _ (fun v H5 c1 c2 c3 c4 c5 ok2 => ?_) _ rfl
              exact ⟨_, by omega, D, b', s, L, S', v, rfl, rfl, c1, c2, c3, c4, ok2, low2, div2, c5⟩
    · rintro σ H2 ⟨a', b', m', R', S', v3, v4, v5, rfl, sm2, nt2, ha2, hb2, ok, low, div⟩
      rw [List.length_map, hl.len, List.length_map, List.take_length] at low
      wtm_at "rs"
      rename_i t ht
      refine q _ t a' b' m' R' S' ((sm.trans sm2).trans (same_new ht)) (NoT.upd nt2 rfl) ((sm.trans sm2).free ht) upd_same (upd_keep ha2 ht) (upd_keep hb2 ht) ok fun p hp d => ?_
      obtain ⟨x, hx, e⟩ := hf.mem.mpr ⟨hp, Int.dvd_trans d ok.sub.dvd⟩
      exact e ▸ low x hx (e ▸ d)
/-! ### checked_modulus_values -/
theorem ok_checked_modulus_values (T : Txt K mg Ad) : Def P w K mg base 3 "checked_modulus_values" ["modulus"] (spChkM Ad.c_BadModulus Ad.c_TooWide) := by
  refine T.d_checked_modulus_values.ok sc_checked_modulus_values (fun vs H Q E h => ?_) (fun f cdv A outer s H vs Q E hr h => ?_)
  · obtain ⟨m, rfl, _⟩ := h
    rfl
  · obtain ⟨m, rfl, q1, q2, q3⟩ := h
    refine ⟨_, (pss_cons (ps_if (pt_cmpR op_lt (pv 0) pe_int (nomark _)) (pss_one (ps_raise rfl (takes_of rfl rfl rfl rfl) (pmk_err (T.err_BadModulus) (hr.mono (by decide)) (pa_cons (pv 0) pa_nil)))) pss_nil)
      (pss_one (ps_if (pt_cmpR op_gt (pv 0) (pe_glob (v := .int 4000) rfl T.k_MOST_MODULUS ⟨_, rfl⟩) (nomark _)) (pss_one (ps_raise rfl (takes_of rfl rfl rfl rfl) (pmk_err (T.err_TooWide) (hr.mono (by decide)) (pa_cons (pv 0) pa_nil)))) pss_nil))), ?_⟩
    try dsimp only [cxOf]
    wtm_at "ra"
    · exact q1 (by omega)
    · exact q2 (by omega)
    · exact q3 (by omega) (by omega)
/-! ### Primes.__init__ -/
def pfl (m : Int) (tR tS : Addr) : List (Str × V) := [("modulus", .int m), ("rests", .ref tR), ("singles", .ref tS)]
theorem nmr : ¬ (("modulus" : Str) = "rests") := by decide +kernel
theorem nms : ¬ (("modulus" : Str) = "singles") := by decide +kernel
theorem nrs : ¬ (("rests" : Str) = "singles") := by decide +kernel
theorem pfl_put (a b c : V) : putF "singles" c (putF "rests" b (putF "modulus" a [])) = ([("modulus", a), ("rests", b), ("singles", c)] : List (Str × V)) := by
  simp only [putF, if_neg nmr, if_neg nms, if_neg nrs]
def RestOk (m r : Int) : Prop := 0 ≤ r ∧ r < m ∧ Int.gcd r m = 1
theorem sort_lt {ms l : List Int} (h : ms.Pairwise (· ≤ ·)) (p : ms.Perm l) (n : l.Nodup) : ms.Pairwise (· < ·) := (h.and (p.nodup_iff.mpr n)).imp fun h => by omega
theorem upd_off {G : Hp} {x b : Addr} {o o1 o2 : HO} (hx : G x = some o) (hb : G b = some o1) (h : o1 ≠ o) : upd G x o2 b = some o1 := by
  rw [upd_ne (ne_of hb hx h)]
  exact hb
def spPI (K : PySem.W.Frag) (C CM CW CR CP : Addr) : Sp := fun vs H Q E => ∃ (x dx a b : Addr) (m : Int) (R S : List Int), vs = [.ref x, .int m, .ref a, .ref b] ∧ H x = some (.ins C dx []) ∧ NoT H ∧ (SqL K H a (R.map V.int) ∨ SqT K H a (R.map V.int)) ∧ (SqL K H b (S.map V.int) ∨ SqT K H b (S.map V.int)) ∧ R.length ≤ 90000 ∧ S.length ≤ 4000 ∧ (∀ p ∈ S, p < 2 ^ 120) ∧
  (m < 1 → ∀ d, H d = none → E (.ref CM) (some d) (upd H d (.xd [("modulus", .int m)]))) ∧ (4000 < m → ∀ d, H d = none → E (.ref CW) (some d) (upd H d (.xd [("modulus", .int m)]))) ∧
  (1 ≤ m → m ≤ 4000 → (∀ l r rs, R = l ++ r :: rs → (∀ o ∈ l, RestOk m o) → ¬ RestOk m r → ∀ d, H d = none → E (.ref CR) (some d) (upd H d (.xd [("rest", .int r)]))) ∧
    ((∀ r ∈ R, RestOk m r) → (∀ l p r, S = l ++ p :: r → (∀ o ∈ l, QR.OP o) → ¬ QR.OP p → ∀ d, H d = none → E (.ref CP) (some d) (upd H d (.xd [("p", .int p)]))) ∧
      ((∀ p ∈ S, QR.OP p) → ∀ (H' : Hp) (tR tS : Addr) (m' : Int) (R' S' : List Int), But x H H' → NoT H' → H' x = some (.ins C dx (pfl m' tR tS)) → H' tR = some (.tup (R'.map V.int)) → H' tS = some (.tup (S'.map V.int)) → Made m R S m' R' S' → Q .non H')))
/-- the object p is the set with this description -/
def IsP (C : Addr) (H : Hp) (p : Addr) (m : Int) (R S : List Int) : Prop := ∃ dx tR tS, H p = some (.ins C dx (pfl m tR tS)) ∧ H tR = some (.tup (R.map V.int)) ∧ H tS = some (.tup (S.map V.int))
theorem IsP.mono {C : Addr} {H H' : Hp} {p : Addr} {m : Int} {R S : List Int} (h : IsP C H p m R S) (s : Same H H') : IsP C H' p m R S := let ⟨dx, tR, tS, a, b, c⟩ := h; ⟨dx, tR, tS, s _ _ a, s _ _ b, s _ _ c⟩
theorem IsP.rig {C : Addr} {H : Hp} {p : Addr} {m : Int} {R S : List Int} (h : IsP C H p m R S) : Rig (fun G => IsP C G p m R S) H := fun G k => let ⟨dx, tR, tS, a, b, c⟩ := h; ⟨dx, tR, tS, k _ _ rfl a, k _ _ rfl b, k _ _ rfl c⟩
local macro_rules | `(tactic| wtm_at "ip") => `(tactic| first
  | with_reducible assumption
  | (with_reducible exact Hv.zAt (P := fun G => IsP _ G _ _ _ _) (by assumption) (by wtm_at "mem"))
  | (with_reducible refine IsP.mono ?_ (by with_reducible assumption); wtm_at "ip")
  | fail)
theorem mk_P {K : PySem.W.Frag} {C CM CW CR CP : Addr} {H1 : Hp} {Rk : Addr → Hp → Prop} {E : XK} {a b : Addr} {m : Int} {R S : List Int} (nt : NoT H1) (ha : SqL K H1 a (R.map V.int) ∨ SqT K H1 a (R.map V.int)) (hb : SqL K H1 b (S.map V.int) ∨ SqT K H1 b (S.map V.int)) (lR : R.length ≤ 90000) (lS : S.length ≤ 4000) (bS : ∀ p ∈ S, p < 2 ^ 120)
    (m1 : 1 ≤ m) (m2 : m ≤ 4000) (hR : ∀ r ∈ R, RestOk m r) (hS : ∀ p ∈ S, QR.OP p) (q : ∀ (x : Addr) (H' : Hp) (m' : Int) (R' S' : List Int), Same H1 H' → NoT H' → H1 x = none → IsP C H' x m' R' S' → Made m R S m' R' S' → Rk x H') :
    ∀ x dx, H1 x = none → H1 dx = none → dx ≠ x → spPI K C CM CW CR CP [.ref x, .int m, .ref a, .ref b] (upd (upd H1 dx (.own x)) x (.ins C dx [])) (fun v H2 => v = .non ∧ Rk x H2) E := by
  intro x dx nx nd ne
  have sm : Same H1 (upd (upd H1 dx (.own x)) x (.ins C dx [])) := same_upd2 (same_new nd) nx
  refine ⟨x, dx, a, b, m, R, S, rfl, upd_same, NoT.upd (NoT.upd nt rfl) rfl, ha.imp sm.seq sm.seqT, hb.imp sm.seq sm.seqT, lR, lS, bS, fun z => by omega, fun z => by omega, fun _ _ => ⟨fun l r rs e _ n => absurd (hR r (by rw [e]; simp)) n, fun _ => ⟨fun l p r e _ n => absurd (hS p (by rw [e]; simp)) n, fun _ H' tR tS m' R' S' bu n' hx h1 h2 md => ⟨rfl, ?_⟩⟩⟩⟩
  refine q x H' m' R' S' (fun b o e => bu b o (fun z => ?_) (sm b o e)) n' nx ⟨dx, tR, tS, hx, h1, h2⟩ md
  rw [z, nx] at e
  cases e
theorem ok_Primes_init (T : Txt K mg Ad) : MkDef P w K mg base 5 "Primes" Ad.c_Primes ["self", "modulus", "rests", "singles"] (spPI K Ad.c_Primes Ad.c_BadModulus Ad.c_TooWide Ad.c_BadRest Ad.c_BadPrime) := by
  refine T.d_Primes_init.ok sc_Primes_init (fun vs H Q E h => ?_) (fun f cdv A outer s H vs Q E hr h => ?_)
  · obtain ⟨x, dx, a, b, m, R, S, rfl, _⟩ := h
    rfl
  · obtain ⟨x, dx, a, b, m, R, S, rfl, hx, nt, ha, hb, lR, lS, bS, qm, qw, h⟩ := h
    refine ⟨_, (pss_cons (ps_expr (pe_d (ok_checked_modulus_values T) (hr.mono (by decide)) (passes_call (takes_of rfl rfl rfl rfl) (fun _ _ _ _ h => h)) (pa_cons (pv 1) pa_nil)))
      (pss_cons (ps_for (passes_of rfl) rfl (pi_alt (pi_list (pv 2)) (pi_tup (pv 2))) (pg_name (i := 4) sc_Primes_init.nd rfl (Or.inl rfl)) (pss_one (ps_if (PW.pt (pw_or (pt_cmpR op_lt (pv 4) pe_int (nomark _)) (pw_or (pt_cmpR op_ge (pv 4) (pv 1) (nomark _)) (pw_or1 (pt_cmpR op_ne (pe_d (ok_common T) (hr.mono (by decide)) (passes_call (takes_of rfl rfl rfl rfl) (fun _ _ _ _ h => h)) (pa_cons (pv 4) (pa_cons (pv 1) pa_nil))) pe_int (nomark _)))))) (pss_one (ps_raise rfl (takes_of rfl rfl rfl rfl) (pmk_err (T.err_BadRest) (hr.mono (by decide)) (pa_cons (pv 4) pa_nil)))) pss_nil)))
      (pss_cons (ps_expr (pe_d (ok_checked_singles T) (hr.mono (by decide)) (passes_call (takes_of rfl rfl rfl rfl) (fun _ _ _ _ h => h)) (pa_cons (pv 3) pa_nil)))
      (pss_cons (ps_set (i := 5) sc_Primes_init.nd rfl (Or.inl rfl) (pe_d (ok_least_description T) (hr.mono (by decide)) (passes_call (takes_of rfl rfl rfl rfl) (fun _ _ _ _ h => h)) (pa_cons (pv 1) (pa_cons (pe_dc (own := [("rest", 4)]) (tk := (tVar 4)) (tv := (tC (.bl true))) rfl sc_Primes_init.nd  (pi_alt (pi_list (pv 2)) (pi_tup (pv 2))) (blkOk_by (own := [("rest", 4)]) (N := ["self", "modulus", "rests", "singles", "rest", "found"]) (sc := defScope s_Primes_init) (by decide +kernel)) (fun _ _ _ _ _ => (pg_name (i := 4) sc_Primes_init.nd rfl (Or.inl rfl))) (fun _ _ _ _ _ => pts_nil) (fun _ _ _ _ _ => (pv 4)) (fun _ _ _ _ _ => pe_bl)) (pa_cons (pe_callB (cr_sortSetN rfl) (by rfl) T.b_sorted (by decide +kernel) (pa_cons (pe_callTy (cr_setOf rfl) (by rfl) T.b_set (by decide +kernel) (pa_cons (pv 3) pa_nil)) pa_nil)) pa_nil)))))
      (pss_cons (ps_fldC (pv 0) (pe_ix ix_tup (pv 5) pe_int (fun _ _ => rfl)) T.cl_Primes T.nf_Primes_modulus)
      (pss_cons (ps_fldC (pv 0) (pe_callTy call_tupN (by rfl) T.b_tuple (by decide +kernel) (pa_cons (pe_callB cr_sortedI (by rfl) T.b_sorted (by decide +kernel) (pa_cons (pe_callTy (c_listD rfl) (by rfl) T.b_list (by decide +kernel) (pa_cons (pe_ix ix_tup (pv 5) pe_int (fun _ _ => rfl)) pa_nil)) pa_nil)) pa_nil)) T.cl_Primes T.nf_Primes_rests)
      (pss_one (ps_fldC (pv 0) (pe_callTy call_tupN (by rfl) T.b_tuple (by decide +kernel) (pa_cons (pe_callB cr_sortedI (by rfl) T.b_sorted (by decide +kernel) (pa_cons (pe_ix ix_tup (pv 5) pe_int (fun _ _ => rfl)) pa_nil)) pa_nil)) T.cl_Primes T.nf_Primes_singles)))))))), ?_⟩
    try dsimp only [cxOf]
    wtm_at "rs"
    refine ⟨m, rfl, qm, qw, fun m1 m2 => ?_⟩
    obtain ⟨qr, h⟩ := h m1 m2
    wtm_at "rs"
    refine rd_forS rfl ha (fun i σ => ∃ v4, σ = [some (.ref x), some (.int m), some (.ref a), some (.ref b), v4, none] ∧ ∀ o ∈ R.take i, RestOk m o) ⟨none, rfl, by simp⟩ ?_ ?_
    · rintro i v σ hi ⟨v4, rfl, low⟩
      rw [List.getElem?_map] at hi
      obtain ⟨r, hr, rfl⟩ := Option.map_eq_some_iff.mp hi
      have hil := (List.getElem?_eq_some_iff.mp hr).1
      have er : R.take (i + 1) = R.take i ++ [r] := by rw [List.take_add_one, hr]; rfl
      have bad : ¬ RestOk m r → ∀ d, H d = none → E (.ref Ad.c_BadRest) (some d) (upd H d (.xd [("rest", .int r)])) := qr (R.take i) r (R.drop (i + 1)) (by
        have := (List.take_append_drop i R).symm
        rw [List.drop_eq_getElem_cons hil, (List.getElem?_eq_some_iff.mp hr).2] at this
        exact this) low
      have fin : RestOk m r → ∀ (σ' : L2.St), σ' = [some (.ref x), some (.int m), some (.ref a), some (.ref b), some (.int r), none] → H = H ∧ ∃ v4, σ' = [some (.ref x), some (.int m), some (.ref a), some (.ref b), v4, none] ∧ ∀ o ∈ R.take (i + 1), RestOk m o := fun ok σ' e => ⟨rfl, _, e, fun o ho => by
        rw [er] at ho
        rcases List.mem_append.mp ho with ho | ho
        · exact low o ho
        · rw [List.mem_singleton.mp ho]
          exact ok⟩
      wtm_at "rs"
      by_cases h1 : r < 0
      · rw [if_pos (decide_eq_true h1), if_pos rfl]
        wtm_at "rs"
        exact bad fun z => by have := z.1; omega
      · rw [if_neg (by rw [decide_eq_true_iff]; exact h1)]
        wtm_at "rs"
        by_cases h2 : m ≤ r
        · rw [if_pos (decide_eq_true h2), if_pos rfl]
          wtm_at "rs"
          exact bad fun z => by have := z.2.1; omega
        · rw [if_neg (by rw [decide_eq_true_iff]; exact h2)]
          wtm_at "rs"
          by_cases h3 : Int.gcd r m = 1
          · rw [if_neg (by simp [h3])]
            wtm_at "rs"
            exact fin ⟨by omega, by omega, h3⟩ _ rfl
          · rw [if_pos (by rw [Bool.not_eq_true', decide_eq_false_iff_not]; omega)]
            wtm_at "rs"
            exact bad fun z => h3 z.2.2
    · rintro σ ⟨v4, rfl, low⟩
      rw [List.length_map, List.take_length] at low
      obtain ⟨qp, q⟩ := h low
      wtm_at "rs"
      refine ⟨b, S, rfl, hb, bS, qp, fun hS => ?_⟩
      replace q := q hS
      wtm_at "rs"
      refine rd_dcS rfl ha (fun D l r rs hD hx => ?_) fun D1 hD1 => ?_
      · wtm_at "r"
        refine ⟨rfl, ?_⟩
        wtm_at "rs"
        exact put_F (by
          have := congrArg List.length hx
          rw [List.length_append] at this
          omega) rfl
      · have s1 : Same H (upd H D1 (DFl (ofL R))) := same_new hD1
        have n1 : NoT (upd H D1 (DFl (ofL R))) := NoT.upd nt rfl
        have d1 : upd H D1 (DFl (ofL R)) D1 = some (DFl (ofL R)) := upd_same
        generalize upd H D1 (DFl (ofL R)) = G1 at *
        wtm_at "rs"
        refine ⟨b, S, rfl, hb.imp s1.seq s1.seqT, by omega, fun D2 n hD2 => ?_⟩
        have s2 : Same G1 (upd G1 D2 (SetO w D2 (inS S) n)) := same_new hD2
        have n2 : NoT (upd G1 D2 (SetO w D2 (inS S) n)) := NoT.upd n1 rfl
        have d2 : upd G1 D2 (SetO w D2 (inS S) n) D2 = some (SetO w D2 (inS S) n) := upd_same
        generalize upd G1 D2 (SetO w D2 (inS S) n) = G2 at *
        wtm_at "rs"
        refine rd_sortSetN d2 fun ns p3 i3 e3 h3 => ?_
        have s3 : Same G2 (upd G2 p3 (.lst (ns.map V.int))) := same_new h3
        have n3 : NoT (upd G2 p3 (.lst (ns.map V.int))) := NoT.upd n2 rfl
        have d3 : upd G2 p3 (.lst (ns.map V.int)) p3 = some (.lst (ns.map V.int)) := upd_same
        generalize upd G2 p3 (.lst (ns.map V.int)) = G3 at *
        have nsn : ns.Nodup := i3.imp fun h => by omega
        have nsl : ns.length ≤ S.length := nodup_sub_len nsn fun k hk => (e3 k).mp hk
        wtm_at "rs"
        refine ⟨D1, p3, m, ofL R, ns, rfl, n3, s3 _ _ (s2 _ _ d1), d3, m2, ⟨m1, fun r hr => low r (mem_ofL.mp hr), fun p hp => hS p ((e3 p).mp hp)⟩, nodup_ofL, nsn, by omega, fun G4 t a' b' m' R' S' s4 n4 _ ht ha4 hb4 ok lo => ?_⟩
        have few := ok.few m2
        have s04 : Same H G4 := ((s1.trans s2).trans s3).trans s4
        have x4 : G4 x = some (.ins Ad.c_Primes dx []) := s04 _ _ hx
        have hT : SqT K G4 t [.int m', .ref a', .ref b'] := SqT.of ht
        clear s1 s2 s3 s4 n1 n2 n3 d1 d2 d3 hD1 hD2 h3 hb ha
        have x5 : upd G4 x (.ins Ad.c_Primes dx (putF "modulus" (.int m') [])) x = some (.ins Ad.c_Primes dx (putF "modulus" (.int m') [])) := upd_same
        have t5 : upd G4 x (.ins Ad.c_Primes dx (putF "modulus" (.int m') [])) t = some (.tup [.int m', .ref a', .ref b']) := upd_off x4 ht (by intro z; cases z)
        have a5 : upd G4 x (.ins Ad.c_Primes dx (putF "modulus" (.int m') [])) a' = some (DFl R') := upd_off x4 ha4 (by intro z; cases z)
        have b5 : upd G4 x (.ins Ad.c_Primes dx (putF "modulus" (.int m') [])) b' = some (.lst (S'.map V.int)) := upd_off x4 hb4 (by intro z; cases z)
        have n5 : NoT (upd G4 x (.ins Ad.c_Primes dx (putF "modulus" (.int m') []))) := NoT.upd n4 rfl
        have B5 : But x H (upd G4 x (.ins Ad.c_Primes dx (putF "modulus" (.int m') []))) := (But.of s04).put
        have tT5 := SqT.of (K := K) t5
        wtm_at "rs"
        rename_i D6 h6
        generalize upd G4 x (.ins Ad.c_Primes dx (putF "modulus" (.int m') [])) = G5 at *
        intro ms D7 perm le7 h7
        have B7 := (B5.new (o := .lst (R'.map V.int)) h6).new (o := .lst (ms.map V.int)) h7
        have x7 := upd_keep (u := .lst (ms.map V.int)) (upd_keep (u := .lst (R'.map V.int)) x5 h6) h7
        have t7 := upd_keep (u := .lst (ms.map V.int)) (upd_keep (u := .lst (R'.map V.int)) t5 h6) h7
        have b7 := upd_keep (u := .lst (ms.map V.int)) (upd_keep (u := .lst (R'.map V.int)) b5 h6) h7
        have n7 : NoT (upd (upd G5 D6 (.lst (R'.map V.int))) D7 (.lst (ms.map V.int))) := NoT.upd (NoT.upd n5 rfl) rfl
        have d7 : upd (upd G5 D6 (.lst (R'.map V.int))) D7 (.lst (ms.map V.int)) D7 = some (.lst (ms.map V.int)) := upd_same
        generalize upd (upd G5 D6 (.lst (R'.map V.int))) D7 (.lst (ms.map V.int)) = G7 at *
        wtm_at "rs"
        refine ⟨D7, _, rfl, .inl ⟨SqL.of d7, fun t8 h8 => ?_⟩⟩
        have B8 := B7.new (o := .tup (ms.map V.int)) h8
        have x8 := upd_keep (u := .tup (ms.map V.int)) x7 h8
        have t8' := upd_keep (u := .tup (ms.map V.int)) t7 h8
        have b8 := upd_keep (u := .tup (ms.map V.int)) b7 h8
        have n8 : NoT (upd G7 t8 (.tup (ms.map V.int))) := NoT.upd n7 rfl
        have d8 : upd G7 t8 (.tup (ms.map V.int)) t8 = some (.tup (ms.map V.int)) := upd_same
        generalize upd G7 t8 (.tup (ms.map V.int)) = G8 at *
        wtm_at "rs"
        have O9 : But x H (upd G8 x (.ins Ad.c_Primes dx (putF "rests" (.ref t8) (putF "modulus" (.int m') [])))) := B8.put
        have x9 : upd G8 x (.ins Ad.c_Primes dx (putF "rests" (.ref t8) (putF "modulus" (.int m') []))) x = some (.ins Ad.c_Primes dx (putF "rests" (.ref t8) (putF "modulus" (.int m') []))) := upd_same
        have n9 : NoT (upd G8 x (.ins Ad.c_Primes dx (putF "rests" (.ref t8) (putF "modulus" (.int m') [])))) := NoT.upd n8 rfl
        have t9 := SqT.of (K := K) (upd_off (o2 := .ins Ad.c_Primes dx (putF "rests" (.ref t8) (putF "modulus" (.int m') []))) x8 t8' (by intro z; cases z))
        have b9 := upd_off (o2 := .ins Ad.c_Primes dx (putF "rests" (.ref t8) (putF "modulus" (.int m') []))) x8 b8 (by intro z; cases z)
        have r9 := upd_off (o2 := .ins Ad.c_Primes dx (putF "rests" (.ref t8) (putF "modulus" (.int m') []))) x8 d8 (by intro z; cases z)
        generalize upd G8 x (.ins Ad.c_Primes dx (putF "rests" (.ref t8) (putF "modulus" (.int m') []))) = G9 at *
        wtm_at "rs"
        intro ns2 D10 perm2 le10 h10
        have B10 := O9.new (o := .lst (ns2.map V.int)) h10
        have x10 := upd_keep (u := .lst (ns2.map V.int)) x9 h10
        have r10 := upd_keep (u := .lst (ns2.map V.int)) r9 h10
        have n10 : NoT (upd G9 D10 (.lst (ns2.map V.int))) := NoT.upd n9 rfl
        have d10 : upd G9 D10 (.lst (ns2.map V.int)) D10 = some (.lst (ns2.map V.int)) := upd_same
        generalize upd G9 D10 (.lst (ns2.map V.int)) = G10 at *
        wtm_at "rs"
        refine ⟨D10, _, rfl, .inl ⟨SqL.of d10, fun t11 h11 => ?_⟩⟩
        have B11 := B10.new (o := .tup (ns2.map V.int)) h11
        have x11 := upd_keep (u := .tup (ns2.map V.int)) x10 h11
        have r11 := upd_keep (u := .tup (ns2.map V.int)) r10 h11
        have n11 : NoT (upd G10 t11 (.tup (ns2.map V.int))) := NoT.upd n10 rfl
        have d11 : upd G10 t11 (.tup (ns2.map V.int)) t11 = some (.tup (ns2.map V.int)) := upd_same
        generalize upd G10 t11 (.tup (ns2.map V.int)) = G11 at *
        wtm_at "rs"
        refine q _ t8 t11 m' ms ns2 B11.put (NoT.upd n11 rfl) (by rw [upd_same, pfl_put]; rfl) (upd_off x11 r11 (by intro z; cases z)) (upd_off x11 d11 (by intro z; cases z)) ?_
        exact ok.made lo m2 (fun k => mem_ofL) e3 nsl (fun k => perm.mem_iff) (fun k => perm2.mem_iff) (Nat.le_of_eq perm2.length_eq) (sort_lt le7 perm ok.rn) (sort_lt le10 perm2 ok.sn)
/-! ### vanishing -/
theorem rd_forIt {σ : L2.St} {H : Hp} {nx : L2.St → Hp → Prop} {rt : VK} {t : TS} {g : TG} {d : Addr} {o : Obj} {kvs : List (Key × V)} (Pv : Nat → L2.St → Hp → Prop) (h0 : Pv 0 σ H) (hl : ∀ i σ H, i ≤ kvs.length → Pv i σ H → H d = some (.frz o (.dK kvs)))
    (hs : ∀ i k v T σ H, kvs[i]? = some (k, v) → Pv i σ H → H T = none → g (.ref T) σ (upd H T (.tup [kV k, v])) fun σ2 H2 => t ⟨Pv (i + 1), rt, nx, Pv (i + 1)⟩ σ2 H2) (hd : ∀ σ H, Pv kvs.length σ H → nx σ H) : fBody (Iti d o kvs) g t nx rt σ H := by
  refine ⟨fun i m σ H => m = kvs.length - i ∧ i ≤ kvs.length ∧ Pv i σ H, ⟨_, rfl, Nat.zero_le _, h0⟩, ?_⟩
  rintro i m σ H ⟨rfl, hi, hI⟩
  by_cases hlt : i < kvs.length
  · refine .inr ⟨⟨hl i σ H hi hI, hlt⟩, fun σ G => Pv (i + 1) σ G, fun σ G p => ⟨kvs.length - (i + 1), by omega, rfl, hlt, p⟩, fun x H' y => ?_⟩
    obtain ⟨T, k, v, hk, rfl, hT, rfl⟩ := y
    exact hs i k v T σ H hk hI hT
  · have e : i = kvs.length := by omega
    subst e
    exact .inl ⟨⟨hl _ σ H (Nat.le_refl _) hI, Nat.le_refl _⟩, hd σ H hI⟩
theorem hv_own {H : Hp} {p : Addr} {o : HO} (nt : NoT H) (h : H p = some o) (r : rigid o = false := by rfl) : Hv (· = p) H [(p, o)] [] [] H := ⟨fun _ _ _ h => h, nt, fun q hq => by
  rw [List.mem_singleton.mp hq]
  exact ⟨h, .inl rfl, r⟩, fun _ h => absurd h List.not_mem_nil, List.pairwise_singleton .., fun _ _ _ h => absurd h List.not_mem_nil, fun _ h => absurd h List.not_mem_nil⟩
def trD (t : Int × Int × Int) : PyData := .tuple [.int t.1, .int t.2.1, .int t.2.2]
theorem hv_back {H G : Hp} {p : Addr} {o : HO} {M L : List (Addr × HO)} {Z : List (Hp → Prop)} (B : Hv (· = p) H ((p, o) :: M) L Z G) (h : H p = some o) : Hv noX H M L Z G := by
  have g := (B.m _ List.mem_cons_self).1
  refine ⟨fun b u _ e => ?_, B.nt, fun q hq => ?_, B.l, (List.pairwise_cons.mp B.nd).2, fun q hq => B.ml q (List.mem_cons_of_mem _ hq), B.z⟩
  · by_cases n : b = p
    · subst n
      rw [h] at e
      cases e
      exact g
    · exact B.old b u n e
  · obtain ⟨a, b, c⟩ := B.m q (List.mem_cons_of_mem _ hq)
    exact ⟨a, .inr (b.elim (fun e => absurd e.symm ((List.pairwise_cons.mp B.nd).1 q hq)) id), c⟩
theorem trD_inj {s t : Int × Int × Int} : trD s = trD t ↔ s = t := by
  obtain ⟨a, b, c⟩ := s
  obtain ⟨d, e, f⟩ := t
  simp [trD]
theorem trD_ok {t : Int × Int × Int} : okD (trD t) 60 = true := by simp [trD, okD, okDs]
theorem trD_at {K : PySem.W.Frag} {H : Hp} {a : Addr} {t : Int × Int × Int} (h : H a = some (.tup (trV t))) : Dp K H (.ref a) (trD t) := .tup (SqT.of h) (.cons (.int _) (.cons (.int _) (.cons (.int _) .nil)))
theorem lnK_ne {es : List (Int × Addr)} {f : Int → V} {l : List Int} (h : es ≠ []) (hf : ∀ i a, f i ≠ .ref a) : lnK es ≠ dV f l := fun e => by
  cases es with
  | nil => exact h rfl
  | cons x es =>
    cases l with
    | nil => simp [lnK, dV] at e
    | cons y l =>
      simp [lnK, dV] at e
      exact hf _ _ e.1.2.symm
theorem uL_ne {m : Int} (h : 1 ≤ m) : uL m ≠ [] := List.ne_nil_of_mem (unit_of (m := m) (Int.dvd_refl _) (by omega) (x := 1) (by simp))
/-- candidates are at most K -/
def Small (c : Ct) (K : Int) : Prop := ∀ r ∈ uL c.m, c.ln r ≠ (0, 0, 0) → ∀ cs, CandOk (c.ln r) cs → ∀ p ∈ cs, p ≤ K
/-- the set of its zeros can be found -/
structure Vk (c : Ct) : Prop where
  ok : c.Ok
  ex : c.Ex
  bl : c.Bl 29
  sp : ∀ p ∈ c.sp, QR.OP p ∧ p < 2 ^ 60
  few : ∃ N : Nat, (∀ r ∈ uL c.m, c.ln r ≠ (0, 0, 0) → ∀ cs, CandOk (c.ln r) cs → cs.length ≤ N) ∧ c.sp.length + (uL c.m).length * N ≤ 4090 ∧ (c.sp.length + (uL c.m).length * N ≤ 4000 ∨ ∃ K : Nat, Small c K ∧ c.sp.length + K < 4000)
theorem few_small {us sp : List Int} {K : Nat} (nd : us.Nodup) (h : ∀ p ∈ us, p ∈ sp ∨ (0 ≤ p ∧ p ≤ (K : Int))) (lt : sp.length + K < 4000) : us.length ≤ 4000 := by
  have := List.Nodup.length_le_of_subset (l₂ := sp ++ (List.range (K + 1)).map fun i : Nat => (i : Int)) nd fun p hp => by
    rcases h p hp with h | h
    · exact List.mem_append_left _ h
    · exact List.mem_append_right _ (List.mem_map.mpr ⟨p.toNat, List.mem_range.mpr (by omega), by omega⟩)
  rw [List.length_append, List.length_map, List.length_range] at this
  omega
def spVan (C CP : Addr) : Sp := fun vs H Q _ => ∃ (x : Addr) (c : Ct), vs = [.ref x] ∧ NoT H ∧ IsCt C H x c ∧ Vk c ∧
  ∀ y H' m R S, Same H H' → NoT H' → IsP CP H' y m R S → Van c m R S → Q (.ref y) H'
theorem ok_vanishing (T : Txt K mg Ad) : Def P w K mg base 7 "vanishing" ["count"] (spVan Ad.c_Count Ad.c_Primes) := by
  refine T.d_vanishing.ok sc_vanishing (fun vs H Q E h => ?_) (fun f cdv A outer s H vs Q E hr h => ?_)
  · obtain ⟨x, c, rfl, _⟩ := h
    rfl
  · obtain ⟨x, c, rfl, nt, ic, ⟨ok, ex, bl, hs, N, hN, few, few2⟩, q⟩ := h
    refine ⟨_, (pss_cons (ps_set (i := 1) sc_vanishing.nd rfl (Or.inl rfl) (pe_lst pa_nil))
      (pss_cons (ps_set (i := 2) sc_vanishing.nd rfl (Or.inl rfl) (pe_callTy (c_listD rfl) (by rfl) T.b_list (by decide +kernel) (pa_cons (pe_fldC (pv 0) T.cl_Count T.nf_Count_special) pa_nil)))
      (pss_cons (ps_lock (ps_for (passes_of rfl) rfl (pi_items (pe_fldC (pv 0) T.cl_Count T.nf_Count_lines)) (pg_tup rfl (pgs_cons (pg_name (i := 3) sc_vanishing.nd rfl (Or.inl rfl)) (pgs_cons (pg_name (i := 4) sc_vanishing.nd rfl (Or.inl rfl)) pgs_nil))) (pss_one (ps_if (pt_cmpR (op_eqD hr.units) (pv 4) (pe_tup (pa_cons pe_int (pa_cons pe_int (pa_cons pe_int pa_nil)))) (nomark _)) (pss_one (ps_expr (pe_bm PySem.F.plainAttrs_list PySem.F.slot_list_append PySem.F.type_list_append mt_append (pv 1) (pa_cons (pv 3) pa_nil)))) (pss_one (ps_expr (pe_bm PySem.F.plainAttrs_list PySem.F.slot_list_extend PySem.F.type_list_extend mt_extend (pv 2) (pa_cons (pe_d (ok_candidates T) (hr.mono (by decide)) (passes_call (takes_of rfl rfl rfl rfl) (fun _ _ _ _ h => h)) (pa_cons (pv 4) pa_nil)) pa_nil))))))))
      (pss_cons (ps_set (i := 5) sc_vanishing.nd rfl (Or.inl rfl) (pe_lst pa_nil))
      (pss_cons (ps_for (passes_of rfl) rfl (pi_list (pe_callB (cr_sortSetN rfl) (by rfl) T.b_sorted (by decide +kernel) (pa_cons (pe_callTy (cr_setOf rfl) (by rfl) T.b_set (by decide +kernel) (pa_cons (pv 2) pa_nil)) pa_nil))) (pg_name (i := 6) sc_vanishing.nd rfl (Or.inl rfl)) (pss_one (ps_if (pt_cmpR op_ne (pe_cmpR op_eq (pe_md (ok_Count_value_at T) (pv 0) T.cl_Count (hr.mono (by decide)) (passes_call (takes_of rfl rfl rfl rfl) (fun _ _ _ _ h => h)) (pa_cons (pv 6) pa_nil)) pe_int (nomark _)) (pe_cmpR op_in_seq (pe_op op_mod (pv 6) (pe_fldC (pv 0) T.cl_Count T.nf_Count_modulus)) (pv 1) (by rfl)) (nomark _)) (pss_one (ps_expr (pe_bm PySem.F.plainAttrs_list PySem.F.slot_list_append PySem.F.type_list_append mt_append (pv 5) (pa_cons (pv 6) pa_nil)))) pss_nil)))
      (pss_one (ps_ret (pe_mkd (ok_Primes_init T) (hr.mono (by decide)) (passes_call (takes_of rfl rfl rfl rfl) (fun _ _ _ _ h => h)) (pa_cons (pe_fldC (pv 0) T.cl_Count T.nf_Count_modulus) (pa_cons (pv 1) (pa_cons (pv 5) pa_nil))))))))))), ?_⟩
    try dsimp only [cxOf]
    obtain ⟨dx, dl, ds, es, h1, h2, h3, h4, h5⟩ := id ic
    have es0 : es ≠ [] := fun z => uL_ne ok.m1 (by rw [← h3, z]; rfl)
    have sl : ds ≠ dl := fun z => by
      rw [z, h2] at h5
      injection h5 with e
      injection e with e
      exact lnK_ne es0 (fun _ _ y => by cases y) e
    have xl : x ≠ dl := fun z => by
      rw [z, h2] at h1
      cases h1
    have ul : (uL c.m).length ≤ 4000 := Nat.le_trans uL_len (by have := ok.m4; omega)
    have B := hv_own nt h2
    wtm_at "rs"
    rename_i r1 hr1
    have B := B.newX (o := .lst (([] : List Int).map V.int)) hr1
    clear hr1
    refine B.gen fun G B => ?_
    have g5 := B.old ds _ sl h5
    refine rd_listV g5 fun r2 hr2 => ?_
    clear g5
    have B := B.newX (o := .lst (c.sp.map V.int)) hr2
    clear hr2
    refine B.gen fun G B => ?_
    have g1 := B.old x _ xl h1
    wtm_at "rs"
    refine ⟨dl, .dK (lnK es), B.mAt (a := dl) (by wtm_at "mem"), trivial, fun od => ?_⟩
    clear g1
    have B := B.put (u := .frz od (.dK (lnK es)))
    refine B.gen fun G B => ?_
    have g1 := B.old x _ xl h1
    wtm_at "rs"
    refine rd_items (B.mAt (a := dl) (by wtm_at "mem")) ?_
    clear g1
    refine rd_forIt (fun i σ G => ∃ (su : List Int) (v3 v4 v5 v6 : Option V), σ = [some (.ref x), some (.ref r1), some (.ref r2), v3, v4, v5, v6] ∧ Hv (· = dl) H [(dl, .frz od (.dK (lnK es))), (r2, .lst (su.map V.int)), (r1, .lst ((zeroL c ((uL c.m).take i)).map V.int))] [] [] G ∧ Susp c ((uL c.m).take i) su ∧ su.length ≤ c.sp.length + i * N ∧ ∀ K, Small c K → ∀ p ∈ su, p ∈ c.sp ∨ p ≤ K) ⟨c.sp, _, _, _, _, rfl, B, ⟨hs, fun p h => h, fun r h => absurd h List.not_mem_nil⟩, by omega, fun _ _ p h => .inl h⟩ (fun i σ G _ ⟨_, _, _, _, _, _, B, _⟩ => B.mAt (a := dl) (by wtm_at "mem")) ?_ ?_
    · clear B
      rintro i k v T σ G hk ⟨su, v3, v4, v5, v6, rfl, B, ss, le, src⟩ hT
      unfold lnK at hk
      rw [List.getElem?_map] at hk
      obtain ⟨e, hk2, ek⟩ := Option.map_eq_some_iff.mp hk
      obtain ⟨r, t⟩ := e
      cases ek
      have hr2 : (uL c.m)[i]? = some r := by rw [← h3, List.getElem?_map, hk2]; rfl
      have ht0 := h4 _ (List.mem_of_getElem? hk2)
      have tl : t ≠ dl := fun z => by
        rw [z, h2] at ht0
        cases ht0
      have iN : (i + 1) * N ≤ (uL c.m).length * N := Nat.mul_le_mul_right _ (by
        have := (List.getElem?_eq_some_iff.mp hr2).1
        omega)
      have iN2 : (i + 1) * N = i * N + N := Nat.succ_mul i N
      have B := B.newL (o := .tup [kV (.inl r), .ref t]) hT
      clear hT
      refine B.gen fun G B => ?_
      have ht := B.old t _ tl ht0
      refine rd_gtup (SqT.of (B.lAt (a := T) (by wtm_at "mem"))) rfl ?_
      wtm_at "rs"
      rename_i z hz
      have B := B.newL (o := .tup (trV (0, 0, 0))) hz
      clear hz ht
      refine B.gen fun G B => ?_
      refine rd_eqP (trD_at (B.old t _ tl ht0)) (trD_at (t := (0, 0, 0)) (B.lAt (a := z) (by wtm_at "mem"))) trD_ok trD_ok trD_inj ?_
      refine ⟨_, rfl, ?_⟩
      have B := B.sub (L' := []) (Z' := []) (by wtm_at "vsub") (by wtm_at "vsub")
      have tk : (uL c.m).take (i + 1) = (uL c.m).take i ++ [r] := by rw [List.take_add_one, hr2]; rfl
      rw [tk]
      by_cases z0 : c.ln r = (0, 0, 0)
      · rw [if_pos (decide_eq_true z0)]
        wtm_at "rs"
        have B := B.rot
        refine rd_append (B.mAt (a := r1) (by wtm_at "mem")) (Nat.lt_of_le_of_lt (show _ ≤ 4000 by rw [List.length_map]; exact Nat.le_trans (List.length_filter_le _ _) (by rw [List.length_take]; omega)) (by decide)) ?_
        have B := ((B.put (u := .lst ((zeroL c ((uL c.m).take i)).map V.int ++ [kV (.inl r)]))).rot).rot
        have e : (zeroL c ((uL c.m).take i)).map V.int ++ [kV (.inl r)] = (zeroL c ((uL c.m).take i ++ [r])).map V.int := by
          unfold zeroL
          rw [List.filter_append, List.filter_cons_of_pos (by simpa using z0), List.filter_nil, List.map_append]
          rfl
        rw [e] at B ⊢
        exact ⟨su, _, _, _, _, rfl, B, ⟨ss.op, ss.sp, fun k hk nz => (List.mem_append.mp hk).elim (fun h => ss.all k h nz) fun h => absurd (by rw [List.mem_singleton.mp h]; exact z0) nz⟩, by omega, src⟩
      · rw [if_neg (by rw [decide_eq_true_iff]; exact z0)]
        wtm_at "rs"
        have hru := List.mem_of_getElem? hr2
        obtain ⟨b1, b2, b3⟩ := bl r hru
        refine ⟨t, c.ln r, rfl, B.nt, B.old t _ tl ht0, b1, b2.mono (by decide), b3.mono (by decide), fun D G2 cs s2 n2 hD hc co => ?_⟩
        have lc := hN r hru z0 cs co
        have B := (B.next s2 n2).swap
        wtm_at "rs"
        refine rd_extend (B.mAt (a := r2) (by wtm_at "mem")) hc (Nat.le_trans (show _ ≤ 4100 by rw [List.length_map, List.length_map]; omega) (by decide)) ?_
        have B := (B.put (u := .lst (su.map V.int ++ cs.map V.int))).swap
        rw [← List.map_append] at B ⊢
        have ez : zeroL c ((uL c.m).take i ++ [r]) = zeroL c ((uL c.m).take i) := by
          unfold zeroL
          rw [List.filter_append, List.filter_cons_of_neg (by simpa using z0), List.filter_nil, List.append_nil]
        rw [ez]
        refine ⟨su ++ cs, _, _, _, _, rfl, B, ⟨fun p hp => (List.mem_append.mp hp).elim (ss.op p) (co.op p), fun p hp => List.mem_append_left _ (ss.sp p hp), fun k hk nz p op z => ?_⟩, ?_, fun K sK p hp => (List.mem_append.mp hp).elim (src K sK p) fun h => .inr (sK r hru z0 cs co p h)⟩
        · rcases List.mem_append.mp hk with h | h
          · exact List.mem_append_left _ (ss.all k h nz p op z)
          · rw [List.mem_singleton.mp h] at nz z
            exact List.mem_append_right _ (co.all nz p op z)
        · rw [List.length_append]
          omega
    · clear B
      rintro σ G ⟨su, v3, v4, v5, v6, rfl, B, ss, le, src⟩
      refine ⟨B.mAt (a := dl) (by wtm_at "mem"), ?_⟩
      have B := B.put (u := .dK (lnK es))
      have lu : (lnK es).length = (uL c.m).length := by rw [← h3]; simp [lnK]
      rw [lu] at B ss le
      rw [List.take_length] at B ss
      refine B.gen fun G B => ?_
      show tSeq _ _ _ _ _
      wtm_at "rs"
      rename_i r3 hr3
      have B := B.newX (o := .lst (([] : List Int).map V.int)) hr3
      clear hr3
      refine B.gen fun G B => ?_
      refine rd_setOfL (SqL.of (B.mAt (a := r2) (by wtm_at "mem"))) (by omega) fun D n hD => ?_
      have B := B.newL (o := SetO w D (inS su) n) hD
      clear hD
      refine B.gen fun G B => ?_
      wtm_at "rs"
      refine rd_sortSetN (B.lAt (a := D) (by wtm_at "mem")) fun us p4 i4 e4 h4' => ?_
      have B := (B.newL (o := .lst (us.map V.int)) h4').sub (L' := [(p4, .lst (us.map V.int))]) (Z' := []) (by wtm_at "vsub") (by wtm_at "vsub")
      clear h4'
      refine B.gen fun G B => ?_
      have lus : us.length ≤ su.length := List.Nodup.length_le_of_subset (i4.imp fun h => by omega) fun k hk => (e4 k).mp hk
      have lus2 : us.length ≤ 4000 := by
        rcases few2 with h | ⟨K, sK, lt⟩
        · omega
        · exact few_small (i4.imp fun h => by omega) (fun p hp => (src _ sK p ((e4 p).mp hp)).imp id fun h => ⟨by have := (ss.op p ((e4 p).mp hp)).1.three; omega, h⟩) lt
      have us2 : Susp c (uL c.m) us := ⟨fun p hp => ss.op p ((e4 p).mp hp), fun p hp => (e4 p).mpr (ss.sp p hp), fun r hr nz p op z => (e4 p).mpr (ss.all r hr nz p op z)⟩
      replace B := hv_back B h2
      have m1 := ok.m1
      wtm_at "rs"
      refine rd_forL (xs := us.map V.int) (fun j σ G => ∃ (v3 v4 v6 : Option V), σ = [some (.ref x), some (.ref r1), some (.ref r2), v3, v4, some (.ref r3), v6] ∧ Hv noX H [(r3, .lst ((singL c (zeroL c (uL c.m)) (us.take j)).map V.int)), (r2, .lst (su.map V.int)), (r1, .lst ((zeroL c (uL c.m)).map V.int))] [(p4, .lst (us.map V.int))] [] G) ⟨_, _, _, rfl, B⟩ (fun j σ G _ ⟨_, _, _, _, B⟩ => SqL.of (B.lAt (a := p4) (by wtm_at "mem"))) ?_ ?_
      · clear B
        rintro j v σ G hj ⟨v3, v4, v6, rfl, B⟩
        obtain ⟨p, hp, rfl⟩ := List.getElem?_map .. ▸ hj |> Option.map_eq_some_iff.mp
        obtain ⟨op, pb⟩ := us2.op p (List.mem_of_getElem? hp)
        have icG := ic.mono B.same
        have g1 := B.oAt h1
        wtm_at "rs"
        refine use_val icG ok op (by omega) ?_
        wtm_at "rs"
        refine rd_inIs (SqL.of (B.mAt (a := r1) (by wtm_at "mem"))) ?_
        refine rd_neB ?_
        refine ⟨_, rfl, ?_⟩
        have tk : us.take (j + 1) = us.take j ++ [p] := by rw [List.take_add_one, hp]; rfl
        have lj : (singL c (zeroL c (uL c.m)) (us.take j)).length ≤ us.length := Nat.le_trans (List.length_filter_le _ _) (by rw [List.length_take]; omega)
        have key : (!decide (decide (c.val p = 0) = decide (p % c.m ∈ zeroL c (uL c.m)))) = (decide (c.val p = 0) != decide (p % c.m ∈ zeroL c (uL c.m))) := by
          cases decide (c.val p = 0) <;> cases decide (p % c.m ∈ zeroL c (uL c.m)) <;> rfl
        rw [key, tk]
        have e2 : singL c (zeroL c (uL c.m)) (us.take j ++ [p]) = singL c (zeroL c (uL c.m)) (us.take j) ++ singL c (zeroL c (uL c.m)) [p] := by
          unfold singL
          rw [List.filter_append]
        by_cases cc : (decide (c.val p = 0) != decide (p % c.m ∈ zeroL c (uL c.m))) = true
        · rw [if_pos cc]
          have e3 : singL c (zeroL c (uL c.m)) [p] = [p] := List.filter_cons_of_pos cc
          rw [e2, e3]
          wtm_at "rs"
          refine rd_append (B.mAt (a := r3) (by wtm_at "mem")) (Nat.lt_of_le_of_lt (show _ ≤ 4000 by rw [List.length_map]; omega) (by decide)) ?_
          have B := B.put (u := .lst ((singL c (zeroL c (uL c.m)) (us.take j)).map V.int ++ [.int p]))
          refine ⟨_, _, _, rfl, ?_⟩
          rw [List.map_append]
          exact B
        · rw [if_neg cc]
          have e3 : singL c (zeroL c (uL c.m)) [p] = [] := List.filter_cons_of_neg cc
          rw [e2, e3, List.append_nil]
          wtm_at "rs"
          exact ⟨_, _, _, rfl, B⟩
      · clear B
        rintro σ G ⟨v3, v4, v6, rfl, B⟩
        rw [List.length_map, List.take_length] at B
        have g1 := B.oAt h1
        have sm := B.same
        wtm_at "rs"
        have lz : (zeroL c (uL c.m)).length ≤ 4000 := Nat.le_trans (List.length_filter_le _ _) ul
        have lj : (singL c (zeroL c (uL c.m)) us).length ≤ us.length := List.length_filter_le _ _
        refine mk_P (R := zeroL c (uL c.m)) (S := singL c (zeroL c (uL c.m)) us) B.nt (.inl (SqL.of (B.mAt (a := r1) (by wtm_at "mem")))) (.inl (SqL.of (B.mAt (a := r3) (by wtm_at "mem")))) (by omega) (by omega) (fun p hp => Int.lt_trans (us2.op p (List.mem_filter.mp hp).1).2 (by decide)) m1 ok.m4 (fun r hr => mem_uL.mp (mem_zeroL.mp hr).1) (fun p hp => (us2.op p (List.mem_filter.mp hp).1).1) fun y H' m' R' S' s2 n2 hy ip md => ?_
        exact q y H' m' R' S' (sm.trans s2) n2 ip (van_made ok ex us2 md)
/-! ### combined_counts -/
theorem ok_combined_counts (T : Txt K mg Ad) : Def P w K mg base 3 "combined_counts" ["first", "second", "factor"] (spCmb Ad.c_Count Ad.c_TooWide) := by
  refine T.d_combined_counts.ok sc_combined_counts (fun vs H Q E h => ?_) (fun f cdv A outer s H vs Q E hr h => ?_)
  · obtain ⟨x, y, c, d, f, rfl, _⟩ := h
    rfl
  · obtain ⟨x, y, c, d, fa, rfl, nt, ic, jc, oc, od, hf, hs, few, qw, q⟩ := h
    refine ⟨_, (pss_cons (ps_set (i := 3) sc_combined_counts.nd rfl (Or.inl rfl) (pe_op op_fdivB (pe_op op_mulB (pe_fldC (pv 0) T.cl_Count T.nf_Count_modulus) (pe_fldC (pv 1) T.cl_Count T.nf_Count_modulus)) (pe_d (ok_common T) (hr.mono (by decide)) (passes_call (takes_of rfl rfl rfl rfl) (fun _ _ _ _ h => h)) (pa_cons (pe_fldC (pv 0) T.cl_Count T.nf_Count_modulus) (pa_cons (pe_fldC (pv 1) T.cl_Count T.nf_Count_modulus) pa_nil)))))
      (pss_cons (ps_if (pt_cmpR op_gt (pv 3) (pe_glob (v := .int 4000) rfl T.k_MOST_MODULUS ⟨_, rfl⟩) (nomark _)) (pss_one (ps_raise rfl (takes_of rfl rfl rfl rfl) (pmk_err (T.err_TooWide) (hr.mono (by decide)) (pa_cons (pv 3) pa_nil)))) pss_nil)
      (pss_cons (ps_set (i := 4) sc_combined_counts.nd rfl (Or.inl rfl) pe_dnewK)
      (pss_cons (ps_for (passes_of rfl) rfl (pi_list (pe_d (ok_units_counts T) (hr.mono (by decide)) (passes_call (takes_of rfl rfl rfl rfl) (fun _ _ _ _ h => h)) (pa_cons (pv 3) pa_nil))) (pg_name (i := 5) sc_combined_counts.nd rfl (Or.inl rfl)) (pss_cons (ps_set (i := 6) sc_combined_counts.nd rfl (Or.inl rfl) (pe_dget (hu_of hr) (pe_fldC (pv 0) T.cl_Count T.nf_Count_lines) (pe_op op_mod (pv 5) (pe_fldC (pv 0) T.cl_Count T.nf_Count_modulus)) (fun _ _ => rfl)))
      (pss_cons (ps_set (i := 7) sc_combined_counts.nd rfl (Or.inl rfl) (pe_dget (hu_of hr) (pe_fldC (pv 1) T.cl_Count T.nf_Count_lines) (pe_op op_mod (pv 5) (pe_fldC (pv 1) T.cl_Count T.nf_Count_modulus)) (fun _ _ => rfl)))
      (pss_one (ps_dput (hu_of hr) (pv 4) (pv 5) (pe_callTy call_tupN (by rfl) T.b_tuple (by decide +kernel) (pa_cons (pe_lc (own := [("i", 10), ("j", 11)])  (g := (gTup K 2 (gCons (gName 10) (gCons (gName 11) gNil)))) (te := (tOp (rI0 fun i j => .int (i + j)) (tVar 10) (tOp (rI CMulB fun i j => .int (i * j)) (tVar 2) (tVar 11)))) rfl sc_combined_counts.nd  (RZ.pi_zipA (by rfl) T.b_zip (pa_cons (pv 6) (pa_cons (pv 7) pa_nil))) (blkOk_by (own := [("i", 10), ("j", 11)]) (N := ["first", "second", "factor", "modulus", "lines", "rest", "one", "two", "special", "p", "i", "j"]) (sc := defScope s_combined_counts) (by decide +kernel)) (fun _ _ _ _ _ => (pg_tup rfl (pgs_cons (pg_name (i := 10) sc_combined_counts.nd rfl (Or.inl rfl)) (pgs_cons (pg_name (i := 11) sc_combined_counts.nd rfl (Or.inl rfl)) pgs_nil)))) (fun _ _ _ _ _ => pts_nil) (fun _ _ _ _ _ => (pe_op op_add (pv 10) (pe_op op_mulB (pv 2) (pv 11))))) pa_nil)) rfl)))))
      (pss_cons (ps_set (i := 8) sc_combined_counts.nd rfl (Or.inl rfl) pe_dnewK)
      (pss_cons (ps_for (passes_of rfl) rfl (pi_list (pe_op op_cat (pe_callTy (c_listD rfl) (by rfl) T.b_list (by decide +kernel) (pa_cons (pe_fldC (pv 0) T.cl_Count T.nf_Count_special) pa_nil)) (pe_callTy (c_listD rfl) (by rfl) T.b_list (by decide +kernel) (pa_cons (pe_fldC (pv 1) T.cl_Count T.nf_Count_special) pa_nil)))) (pg_name (i := 9) sc_combined_counts.nd rfl (Or.inl rfl)) (pss_one (ps_dput (hu_of hr) (pv 8) (pv 9) (pe_op op_add (pe_md (ok_Count_value_at T) (pv 0) T.cl_Count (hr.mono (by decide)) (passes_call (takes_of rfl rfl rfl rfl) (fun _ _ _ _ h => h)) (pa_cons (pv 9) pa_nil)) (pe_op op_mulB (pv 2) (pe_md (ok_Count_value_at T) (pv 1) T.cl_Count (hr.mono (by decide)) (passes_call (takes_of rfl rfl rfl rfl) (fun _ _ _ _ h => h)) (pa_cons (pv 9) pa_nil)))) rfl)))
      (pss_one (ps_ret (pe_mkd (ok_Count_init T) (hr.mono (by decide)) (passes_call (takes_of rfl rfl rfl rfl) (fun _ _ _ _ h => h)) (pa_cons (pv 3) (pa_cons (pv 4) (pa_cons (pv 8) pa_nil)))))))))))), ?_⟩
    try dsimp only [cxOf]
    have B := Hv.start nt
    obtain ⟨dx, dl, ds, es, h1, h2, h3, h4, h5⟩ := id ic
    obtain ⟨ex, el, ew, fs, g1, g2, g3, g4, g5⟩ := id jc
    have c1 := oc.m1
    have c4 := oc.m4
    have d1 := od.m1
    have d4 := od.m4
    have bc : Bd 20 c.m := Bd.of (by omega) (by omega)
    have bd : Bd 20 d.m := Bd.of (by omega) (by omega)
    have gp : 0 < ((Int.gcd c.m d.m : Nat) : Int) := by
      have : Int.gcd c.m d.m ≠ 0 := fun z => by
        have := (Int.gcd_eq_zero_iff.mp z).1
        omega
      omega
    have gl : ((Int.gcd c.m d.m : Nat) : Int) ≤ c.m := Int.le_of_dvd (by omega) (Int.gcd_dvd_left ..)
    have bg : Bd 20 ((Int.gcd c.m d.m : Nat) : Int) := Bd.of (by omega) (by omega)
    have bm : Bd 40 (c.m * d.m) := bc.mul bd
    wtm_at "rs"
    rw [lcm_quot c1 d1]
    have l1 := lcm_pos c1 d1
    have dl1 := @lcm_l c.m d.m
    have dl2 := @lcm_r c.m d.m
    generalize hL : ((Int.lcm c.m d.m : Nat) : Int) = L at *
    wtm_at "rs"
    by_cases hM : 4000 < L
    · rw [if_pos (decide_eq_true hM)]
      wtm_at "rs"
      exact fun x hx => qw hM x hx
    rw [if_neg (by rw [decide_eq_true_iff]; exact hM)]
    have m4 : L ≤ 4000 := by omega
    replace q := q m4
    clear qw
    wtm_at "rs"
    intro dn hdn
    have B := B.new (o := .dK (lnK [])) hdn
    clear hdn
    refine B.gen fun G B => ?_
    wtm_at "rs"
    refine use_units l1 (by omega) fun U hU => ?_
    have B := B.newL (o := .lst ((uL L).map V.int)) hU
    clear hU
    refine B.gen fun G B => ?_
    have ul := @uL_len L
    wtm_at "rs"
    refine rd_forL (xs := (uL L).map V.int) (fun i σ G => ∃ (ns : List (Int × Addr)) (v5 v6 v7 : Option V), σ = [some (.ref x), some (.ref y), some (.int fa), some (.int L), some (.ref dn), v5, v6, v7, none, none, none, none] ∧ ns.map (·.1) = (uL L).take i ∧ Hv noX H [(dn, .dK (lnK ns))] [(U, .lst ((uL L).map V.int))] [fun G => LnAt G (cmbC fa c d).ln ns] G)
      ⟨[], _, _, _, rfl, rfl, B.rig (P := fun G => LnAt G (cmbC fa c d).ln []) (fun G' _ e he => absurd he List.not_mem_nil)⟩ (fun i σ G _ ⟨_, _, _, _, _, _, B⟩ => SqL.of (B.lAt (a := U) (by wtm_at "mem"))) ?_ ?_
    · clear B
      rintro i v σ G hi ⟨ns, v5, v6, v7, rfl, he, B⟩
      rw [List.getElem?_map] at hi
      obtain ⟨k, hk, rfl⟩ := Option.map_eq_some_iff.mp hi
      obtain ⟨tk, kn, ku⟩ := take_uL hk
      rw [← he] at kn
      have les : ns.length < 100000 := by
        have := congrArg List.length he
        rw [List.length_map, List.length_take] at this
        omega
      have kc := uL_down c1 ku dl1
      have kd := uL_down d1 ku dl2
      obtain ⟨_, _, _, _, t1, a1, a2, a3, a4, _⟩ := (ic.mono B.same).line kc
      obtain ⟨_, _, _, _, t2, e1, e2, e3, e4, _⟩ := (jc.mono B.same).line kd
      obtain ⟨b1, b2, b3⟩ := oc.bl _ kc
      obtain ⟨b4, b5, b6⟩ := od.bl _ kd
      wtm_at "rs"
      refine rd_dgetN a2 a3 ?_
      wtm_at "rs"
      refine rd_dgetN e2 e3 ?_
      wtm_at "rs"
      have s4 : SqT K G t1 (([(c.ln (k % c.m)).1, (c.ln (k % c.m)).2.1, (c.ln (k % c.m)).2.2] : List Int).map V.int) := SqT.of a4
      have s5 : SqT K G t2 (([(d.ln (k % d.m)).1, (d.ln (k % d.m)).2.1, (d.ln (k % d.m)).2.2] : List Int).map V.int) := SqT.of e4
      have bS : ∀ v ∈ ([(d.ln (k % d.m)).1, (d.ln (k % d.m)).2.1, (d.ln (k % d.m)).2.2] : List Int), Bd 60 v := fun v hv => by
        simp only [List.mem_cons, List.not_mem_nil, or_false] at hv
        rcases hv with rfl | rfl | rfl
        · exact b4
        · exact b5
        · exact b6
      have eT : trV ((cmbC fa c d).ln k) = List.zipWith (fun u v => V.int (u + fa * v)) [(c.ln (k % c.m)).1, (c.ln (k % c.m)).2.1, (c.ln (k % c.m)).2.2] [(d.ln (k % d.m)).1, (d.ln (k % d.m)).2.1, (d.ln (k % d.m)).2.2] := rfl
      have l3 : ([(c.ln (k % c.m)).1, (c.ln (k % c.m)).2.1, (c.ln (k % c.m)).2.2] : List Int).length = ([(d.ln (k % d.m)).1, (d.ln (k % d.m)).2.1, (d.ln (k % d.m)).2.2] : List Int).length := rfl
      have l4 : ([(c.ln (k % c.m)).1, (c.ln (k % c.m)).2.1, (c.ln (k % c.m)).2.2] : List Int).length = 3 := rfl
      refine rd_zipT s4 s5 ?_
      generalize ([(c.ln (k % c.m)).1, (c.ln (k % c.m)).2.1, (c.ln (k % c.m)).2.2] : List Int) = S1 at *
      generalize ([(d.ln (k % d.m)).1, (d.ln (k % d.m)).2.1, (d.ln (k % d.m)).2.2] : List Int) = S2 at *
      have bf : Bd 5 fa := by rcases hf with rfl | rfl <;> exact Bd.of (by decide) (by decide)
      refine rd_lcZT (fun i zs => zs = (List.zipWith (fun u v => V.int (u + fa * v)) S1 S2).take i) s4 s5 (by rw [List.length_map, List.length_map]; exact l3) B.nt rfl (fun D i zs xx yy T H' hx hy sm nt2 hD hz hT hP => ?_) fun D zs G2 hD hz sm nt2 hP => ?_
      · rw [List.getElem?_map] at hx hy
        obtain ⟨u, hu, rfl⟩ := Option.map_eq_some_iff.mp hx
        obtain ⟨v, hv, rfl⟩ := Option.map_eq_some_iff.mp hy
        have bv := bS v (List.mem_of_getElem? hv)
        have hi3 : i < 3 := by
          obtain ⟨h, _⟩ := List.getElem?_eq_some_iff.mp hu
          omega
        have zl : zs.length < 1000 := by
          rw [hP, List.length_take]
          omega
        refine rd_gtup (SqT.of hT) rfl ?_
        wtm_at "rs"
        refine ⟨rfl, ?_⟩
        wtm_at "rs"
        refine put_P hz (Nat.lt_trans zl (by decide)) (by assumption) hD nt2 ?_
        rw [List.take_add_one, List.getElem?_zipWith, hu, hv, hP]
        rfl
      · rw [List.length_map, List.take_of_length_le (by rw [List.length_zipWith]; omega), ← eT] at hP
        subst hP
        have B := B.got sm nt2 hD hz
        clear sm nt2 hD hz
        refine B.gen fun G B => ?_
        wtm_at "rs"
        refine rd_tupL (SqL.of (B.lAt (a := D) (by wtm_at "mem"))) fun t3 ht3 => ?_
        have B := B.newL (o := .tup (trV ((cmbC fa c d).ln k))) ht3
        clear ht3
        refine B.gen fun G B => ?_
        wtm_at "rs"
        refine rd_dputN (B.mAt (a := dn) (by wtm_at "mem")) (by omega) kn ?_
        have B := B.put (u := .dK (lnK (ns ++ [(k, t3)])))
        refine B.gen fun G B => ?_
        have l2 := ((B.zAt (P := fun G => LnAt G (cmbC fa c d).ln ns) (by wtm_at "mem")).snoc (B.lAt (a := t3) (by wtm_at "mem"))).rig
        exact ⟨ns ++ [(k, t3)], _, _, _, rfl, by rw [List.map_append, he, tk]; rfl, (B.rig l2).sub (by wtm_at "vsub") (by wtm_at "vsub")⟩
    · clear B
      rintro σ G ⟨ns, v5, v6, v7, rfl, he, B⟩
      rw [List.length_map, List.take_length] at he
      have B := B.fix
      wtm_at "rs"
      intro dz hdz
      have B := B.new (o := .dK (dV (fun p => V.int (c.val p + fa * d.val p)) [])) hdz
      clear hdz
      refine B.gen fun G B => ?_
      have a1 := B.oAt h1
      have a5 := B.oAt h5
      have e1 := B.oAt g1
      have e5 := B.oAt g5
      wtm_at "rs"
      refine rd_listV a5 fun M1 hM1 => ?_
      have B := B.newL (o := .lst (c.sp.map V.int)) hM1
      clear hM1
      refine B.gen fun G B => ?_
      have e1 := B.oAt g1
      have e5 := B.oAt g5
      wtm_at "rs"
      refine rd_listV e5 fun M2 hM2 => ?_
      have B := B.newL (o := .lst (d.sp.map V.int)) hM2
      clear hM2
      refine B.gen fun G B => ?_
      wtm_at "rs"
      have lc : c.sp.length + d.sp.length < 1000 := by rw [← List.length_append]; exact few
      refine rd_cat (B.lAt (a := M1) (by wtm_at "mem")) (B.lAt (a := M2) (by wtm_at "mem")) (by rw [List.length_map, List.length_map]; exact Nat.le_of_lt (Nat.lt_trans lc (by decide))) fun M3 hM3 => ?_
      rw [← List.map_append]
      have B := (B.newL (o := .lst ((c.sp ++ d.sp).map V.int)) hM3).sub (L' := [(M3, .lst ((c.sp ++ d.sp).map V.int)), (dn, .dK (lnK ns))]) (by wtm_at "vsub") (fun _ h => h)
      clear hM3
      refine B.gen fun G B => ?_
      have bf : Bd 5 fa := by rcases hf with rfl | rfl <;> exact Bd.of (by decide) (by decide)
      wtm_at "rs"
      refine rd_forL (xs := (c.sp ++ d.sp).map V.int) (fun i σ G => ∃ v9 : Option V, σ = [some (.ref x), some (.ref y), some (.int fa), some (.int L), some (.ref dn), v5, v6, v7, some (.ref dz), v9, none, none] ∧ Hv noX H [(dz, .dK (dV (fun p => V.int (c.val p + fa * d.val p)) (keysOf ((c.sp ++ d.sp).take i))))] [(M3, .lst ((c.sp ++ d.sp).map V.int)), (dn, .dK (lnK ns))] [fun G => LnAt G (cmbC fa c d).ln ns] G)
        ⟨_, rfl, B⟩ (fun i σ G _ ⟨_, _, B⟩ => SqL.of (B.lAt (a := M3) (by wtm_at "mem"))) ?_ ?_
      · clear B
        rintro i v σ G hi ⟨v9, rfl, B⟩
        rw [List.getElem?_map] at hi
        obtain ⟨p, hp, rfl⟩ := Option.map_eq_some_iff.mp hi
        obtain ⟨op, pb, bv⟩ := hs p (List.mem_of_getElem? hp)
        have kl : (keysOf ((c.sp ++ d.sp).take i)).length < 1000 := Nat.lt_of_le_of_lt (Nat.le_trans keysOf_len (by rw [List.length_take]; omega)) few
        wtm_at "rs"
        refine use_val (ic.mono B.same) oc op pb ?_
        wtm_at "rs"
        refine use_val (jc.mono B.same) od op pb ?_
        wtm_at "rs"
        refine rd_dputV (B.mAt (a := dz) (by wtm_at "mem")) (by omega) rfl ?_
        rw [← keysOf_take hp]
        have B := B.put (u := .dK (dV (fun p => V.int (c.val p + fa * d.val p)) (keysOf ((c.sp ++ d.sp).take (i + 1)))))
        exact ⟨_, rfl, B⟩
      · clear B
        rintro σ G ⟨v9, rfl, B⟩
        rw [List.length_map, List.take_length] at B
        have B := B.fix
        have lz := B.zAt (P := fun G => LnAt G (cmbC fa c d).ln ns) (by wtm_at "mem")
        wtm_at "rs"
        refine mk_Ct (c := cmbC fa c d) (es := ns) B.nt hL.symm (B.lAt (a := dn) (by wtm_at "mem")) (by rw [he, ← hL]; rfl) lz (B.lAt (a := dz) (o := .dK (dV (fun p => V.int (c.val p + fa * d.val p)) (keysOf (c.sp ++ d.sp)))) (by wtm_at "mem")) fun z G2 sm n2 hz kc => ?_
        exact q z G2 (B.same.trans sm) n2 (B.free hz) kc
/-! ### Count.equal -/
/-- the difference of two counts can be looked at -/
structure EqI (c d : Ct) : Prop where
  oc : c.Ok
  od : d.Ok
  hs : ∀ p ∈ c.sp ++ d.sp, QR.OP p ∧ p < 2 ^ 60 ∧ Bd 200 (d.val p)
  few : (c.sp ++ d.sp).length < 1000
  vk : ((Int.lcm c.m d.m : Nat) : Int) ≤ 4000 → Vk (cmbC (-1) c d)
def spEqu (C CW CP : Addr) : Sp := fun vs H Q E => ∃ (x y : Addr) (c d : Ct), vs = [.ref x, .ref y] ∧ NoT H ∧ IsCt C H x c ∧ IsCt C H y d ∧ EqI c d ∧
  (4000 < ((Int.lcm c.m d.m : Nat) : Int) → ∀ e, H e = none → E (.ref CW) (some e) (upd H e (.xd [("modulus", .int ((Int.lcm c.m d.m : Nat) : Int))]))) ∧
  (((Int.lcm c.m d.m : Nat) : Int) ≤ 4000 → ∀ z H' m R S, Same H H' → NoT H' → IsP CP H' z m R S → Van (cmbC (-1) c d) m R S → Q (.ref z) H')
theorem ok_Count_equal (T : Txt K mg Ad) : MDef P w K mg base 8 Ad.c_Count "equal" ["self", "other"] (spEqu Ad.c_Count Ad.c_TooWide Ad.c_Primes) := by
  refine T.d_Count_equal.ok sc_Count_equal (fun vs H Q E h => ?_) (fun f cdv A outer s H vs Q E hr h => ?_)
  · obtain ⟨x, y, c, d, rfl, _⟩ := h
    rfl
  · obtain ⟨x, y, c, d, rfl, nt, ic, jc, ⟨oc, od, hs, few, vk⟩, qw, q⟩ := h
    refine ⟨_, (pss_one (ps_ret (pe_d (ok_vanishing T) (hr.mono (by decide)) (passes_call (takes_of rfl rfl rfl rfl) (fun _ _ _ _ h => h)) (pa_cons (pe_d (ok_combined_counts T) (hr.mono (by decide)) (passes_call (takes_of rfl rfl rfl rfl) (fun _ _ _ _ h => h)) (pa_cons (pv 0) (pa_cons (pv 1) (pa_cons (pe_un un_neg pe_int) pa_nil)))) pa_nil)))), ?_⟩
    try dsimp only [cxOf]
    wtm_at "rs"
    refine ⟨x, y, c, d, -1, rfl, nt, ic, jc, oc, od, .inr rfl, hs, few, qw, fun le z H1 s1 n1 hz iz => ?_⟩
    wtm_at "rs"
    exact ⟨z, _, rfl, n1, iz, vk le, fun y H2 m R S s2 n2 ip vn => q le y H2 m R S (s1.trans s2) n2 ip vn⟩
/-! ### polynomial -/
def polC (a b c : Int) : Ct := ⟨1, fun _ => (4 * a, 4 * b, 4 * c), [], fun _ => 0⟩
def spPol (C : Addr) : Sp := fun vs H Q E => ∃ a b c : Int, vs = [.int a, .int b, .int c] ∧ NoT H ∧ Bd 50 a ∧ Bd 50 b ∧ Bd 50 c ∧ ∀ x H', Same H H' → NoT H' → H x = none → IsCt C H' x (polC a b c) → Q (.ref x) H'
theorem polC_ok {a b c : Int} (ba : Bd 50 a) (bb : Bd 50 b) (bc : Bd 50 c) : (polC a b c).Ok := by
  have b4 : Bd 4 (4 : Int) := Bd.of (by decide) (by decide)
  refine ⟨by show (1 : Int) ≤ 1; decide, by show (1 : Int) ≤ 4000; decide, fun r _ => ⟨(b4.mul ba).mono (by decide), (b4.mul bb).mono (by decide), (b4.mul bc).mono (by decide)⟩, List.nodup_nil, fun p op _ => ?_⟩
  show p % 1 ∈ uL 1
  exact mem_uL.mpr ⟨Int.emod_nonneg _ (by decide), Int.emod_lt_of_pos _ (by decide), by simp⟩
theorem polC_val {a b c p : Int} : (polC a b c).val p = a * p * p + b * p + c := by
  unfold Ct.val
  rw [if_neg (show ¬ p ∈ (polC a b c).sp from List.not_mem_nil)]
  show (4 * a * p * p + 4 * b * p + 4 * c) / 4 = _
  rw [show 4 * a * p * p + 4 * b * p + 4 * c = 4 * (a * p * p + b * p + c) by grind, Int.mul_ediv_cancel_left _ (by decide)]
theorem use_pol {C : Addr} {a b c : Int} {H : Hp} {Q : VK} {E : XK} (nt : NoT H) (ba : Bd 50 a) (bb : Bd 50 b) (bc : Bd 50 c) (q : ∀ x H', Same H H' → NoT H' → H x = none → IsCt C H' x (polC a b c) → Q (.ref x) H') : spPol C [.int a, .int b, .int c] H Q E := ⟨a, b, c, rfl, nt, ba, bb, bc, q⟩
theorem ok_polynomial (T : Txt K mg Ad) : Def P w K mg base 3 "polynomial" ["a", "b", "c"] (spPol Ad.c_Count) := by
  refine T.d_polynomial.ok sc_polynomial (fun vs H Q E h => ?_) (fun f cdv A outer s H vs Q E hr h => ?_)
  · obtain ⟨a, b, c, rfl, _⟩ := h
    rfl
  · obtain ⟨a, b, c, rfl, nt, ba, bb, bc, q⟩ := h
    refine ⟨_, (pss_one (ps_ret (pe_mkd (ok_Count_init T) (hr.mono (by decide)) (passes_call (takes_of rfl rfl rfl rfl) (fun _ _ _ _ h => h)) (pa_cons pe_int (pa_cons (pe_disp (pps_cons pe_int (pe_tup (pa_cons (pe_op op_mulB pe_int (pv 0)) (pa_cons (pe_op op_mulB pe_int (pv 1)) (pa_cons (pe_op op_mulB pe_int (pv 2)) pa_nil)))) pps_nil) (by rfl) (by rfl) (fun z => by cases z) (by decide)) (pa_cons pe_dnewK pa_nil)))))), ?_⟩
    try dsimp only [cxOf]
    have B := Hv.start nt
    have b4 : Bd 4 (4 : Int) := Bd.of (by decide) (by decide)
    have b1 := ba.mono (show 50 ≤ 4500 by decide)
    have b2 := bb.mono (show 50 ≤ 4500 by decide)
    have b3 := bc.mono (show 50 ≤ 4500 by decide)
    wtm_at "rs"
    intro dl hdl
    have B := B.new (o := .dK []) hdl
    refine B.gen fun G B => ?_
    wtm_at "rs"
    rename_i t1 ht1
    have B := B.newL (o := .tup [.int (4 * a), .int (4 * b), .int (4 * c)]) ht1
    refine B.gen fun G B => ?_
    refine ⟨B.mAt (a := dl) (by wtm_at "mem"), [(.inl 0, .ref t1)], rfl, Nat.le_of_ble_eq_true rfl, ?_⟩
    rw [merge1]
    have B := (B.put (u := .dK (lnK [(0, t1)]))).fix
    refine B.gen fun G B => ?_
    wtm_at "rs"
    intro dp hdp
    have B := B.newL (o := .dK (dV (fun _ => V.int 0) [])) hdp
    refine B.gen fun G B => ?_
    wtm_at "rs"
    refine mk_Ct (c := polC a b c) (es := [(0, t1)]) B.nt rfl (B.lAt (a := dl) (by wtm_at "mem")) (show [(0 : Int)] = uL 1 by decide +kernel) (fun e he => by
      rw [List.mem_singleton.mp he]
      exact B.lAt (a := t1) (o := .tup [.int (4 * a), .int (4 * b), .int (4 * c)]) (by wtm_at "mem")) (B.lAt (a := dp) (o := .dK (dV (fun _ => V.int 0) [])) (by wtm_at "mem")) fun x G2 sm n2 hx ic => ?_
    exact q x G2 (B.same.trans sm) n2 (B.free hx) ic
/-! ### core -/
def spCore : Sp := fun vs H Q E => ∃ n : Int, vs = [.int n] ∧ NoT H ∧ n ≠ 0 ∧ -(2 ^ 60) < n ∧ n < 2 ^ 60 ∧ ∀ s r, CoreOk n s r → ∀ H' t, Same H H' → NoT H' → H t = none → H' t = some (.tup [.int s, .int r]) → Q (.ref t) H'
local macro_rules | `(tactic| wtm_at "cf") => `(tactic| ((with_reducible show spFactors [.int _] _ _ _); refine ⟨_, rfl, by wtm_at "nt", by first | omega | (split <;> omega), by first | omega | (split <;> omega), ?_⟩; intro p H' ts fs sm nt hp hp' hl hf))
theorem ok_core (T : Txt K mg Ad) : Def P w K mg base 2 "core" ["n"] spCore := by
  refine T.d_core.ok sc_core (fun vs H Q E h => ?_) (fun f cdv A outer s H vs Q E hr h => ?_)
  · obtain ⟨n, rfl, _⟩ := h
    rfl
  · obtain ⟨n, rfl, nt, hn0, hn1, hn2, qo⟩ := h
    refine ⟨_, (pss_cons (ps_set (i := 1) sc_core.nd rfl (Or.inl rfl) pe_int)
      (pss_cons (ps_if (pt_cmpR op_lt (pv 0) pe_int (nomark _)) (pss_one (ps_set (i := 1) sc_core.nd rfl (Or.inl rfl) (pe_un un_neg pe_int))) pss_nil)
      (pss_cons (ps_set (i := 2) sc_core.nd rfl (Or.inl rfl) pe_int)
      (pss_cons (ps_for (passes_of rfl) rfl (pi_list (pe_d (ok_factors T) (hr.mono (by decide)) (passes_call (takes_of rfl rfl rfl rfl) (fun _ _ _ _ h => h)) (pa_cons (pe_callB c_abs (by rfl) T.b_abs (by decide +kernel) (pa_cons (pv 0) pa_nil)) pa_nil))) (pg_tup rfl (pgs_cons (pg_name (i := 3) sc_core.nd rfl (Or.inl rfl)) (pgs_cons (pg_name (i := 4) sc_core.nd rfl (Or.inl rfl)) pgs_nil))) (pss_cons (ps_if (pt_cmpR op_eq (pe_op op_mod (pv 4) pe_int) pe_int (nomark _)) (pss_one (ps_set (i := 1) sc_core.nd rfl (Or.inl rfl) (pe_op op_mulB (pv 1) (pv 3)))) pss_nil)
      (pss_one (ps_for (passes_of rfl) rfl (pi_range1 (by rfl) T.b_range (pa_cons (pe_op op_fdivB (pv 4) pe_int) pa_nil)) (pg_name (i := 5) sc_core.nd rfl (Or.inl rfl)) (pss_one (ps_set (i := 2) sc_core.nd rfl (Or.inl rfl) (pe_op op_mulB (pv 2) (pv 3))))))))
      (pss_one (ps_ret (pe_tup (pa_cons (pv 1) (pa_cons (pv 2) pa_nil))))))))), ?_⟩
    try dsimp only [cxOf]
    repeat' (first | wtm_at "r" | wtm_at "s" | wtm_at "i" | wtm_at "cf" | fail)
    all_goals
      rename_i h0 p H' ts fs sm nt' hp hp' hl hf
      have hnab : (if n < 0 then -n else n) < 2 ^ 60 := by split <;> omega
      refine rd_forL (xs := ts.map V.ref) (fun i σ H2 => ∃ (sf sd : Int) (v3 v4 v5 : Option V), σ = [some (.int n), some (.int sf), some (.int sd), v3, v4, v5] ∧ H' = H2 ∧ sf * sfL (fs.drop i) = (if n < 0 then -1 else 1) * sfL fs ∧ sd * sdL (fs.drop i) = sdL fs)
        ⟨(if n < 0 then -1 else 1), 1, none, none, none, by first | (rw [if_pos h0]; rfl) | (rw [if_neg h0]; rfl), rfl, by simp, by simp⟩ (fun i σ H2 _ ⟨_, _, _, _, _, _, h, _⟩ => by rw [← h]; exact SqL.of hp') ?_ ?_
      · rintro i x σ H2 hi ⟨sf, sd, v3, v4, v5, rfl, rfl, e1, e2⟩
        obtain ⟨t, l, rfl, ht, hlx⟩ := hl.at hi
        rw [List.getElem?_map] at hlx
        obtain ⟨⟨q, e⟩, hy, rfl⟩ := Option.map_eq_some_iff.mp hlx
        have hd : fs.drop i = (q, e) :: fs.drop (i + 1) := by
          obtain ⟨hlt, hv⟩ := List.getElem?_eq_some_iff.mp hy
          rw [List.drop_eq_getElem_cons hlt, hv]
        obtain ⟨b1, b2, b3, b4⟩ := fac_small hf hnab (List.mem_of_getElem? hy)
        replace b1 : 2 ≤ q := b1
        replace b2 : q < 2 ^ 60 := b2
        replace b4 : e < 60 := b4
        have hT : SqT K H' t [.int q, .int (e : Int)] := SqT.of ht
        rw [hd] at e1 e2
        simp only [sfL, sdL] at e1 e2
        have ee : ((e : Int) / 2).toNat = e / 2 := by omega
        wtm_at "rs"
        wtm_at "i"
        · rename_i ho
          rw [if_pos (by omega)] at e1
          wtm_at "rs"
          rw [ee]
          refine rd_forR (fun j σ H2 => ∃ (v5 : Option V), σ = [some (.int n), some (.int (sf * q)), some (.int (sd * q ^ j)), some (.int q), some (.int e), v5] ∧ H' = H2) ⟨v5, by rw [Int.pow_zero, Int.mul_one]; rfl, rfl⟩ ?_ ?_
          · rintro j σ H2 hj ⟨v5, rfl, rfl⟩
            wtm_at "rs"
            exact ⟨_, by rw [Int.pow_succ, ← Int.mul_assoc]; rfl, rfl⟩
          · rintro σ H2 ⟨v5, rfl, rfl⟩
            exact ⟨_, _, _, _, _, rfl, rfl, by rw [← e1, Int.mul_assoc], by rw [← e2, Int.mul_assoc]⟩
        · rename_i ho
          rw [if_neg (by omega), Int.one_mul] at e1
          wtm_at "rs"
          rw [ee]
          refine rd_forR (fun j σ H2 => ∃ (v5 : Option V), σ = [some (.int n), some (.int sf), some (.int (sd * q ^ j)), some (.int q), some (.int e), v5] ∧ H' = H2) ⟨v5, by rw [Int.pow_zero, Int.mul_one]; rfl, rfl⟩ ?_ ?_
          · rintro j σ H2 hj ⟨v5, rfl, rfl⟩
            wtm_at "rs"
            exact ⟨_, by rw [Int.pow_succ, ← Int.mul_assoc]; rfl, rfl⟩
          · rintro σ H2 ⟨v5, rfl, rfl⟩
            exact ⟨_, _, _, _, _, rfl, rfl, e1, by rw [← e2, Int.mul_assoc]⟩
      · rintro σ H2 ⟨sf, sd, v3, v4, v5, rfl, rfl, e1, e2⟩
        rw [List.length_map, hl.len, List.length_map, List.drop_length] at e1 e2
        have e1' : sf = (if n < 0 then -1 else 1) * sfL fs := by rw [← e1]; simp [sfL]
        have e2' : sd = sdL fs := by rw [← e2]; simp [sdL]
        have hc := core_ok hf
        rw [← e1', ← e2'] at hc
        wtm_at "rs"
        rename_i t ht
        exact qo sf sd hc _ t (by wtm_at "sm") (by wtm_at "nt") (Same.free sm ht) upd_same
/-! ### conductor -/
def spCond0 : Sp := fun vs H Q _ => ∃ n : Int, vs = [.int n] ∧ NoT H ∧ n ≠ 0 ∧ -(2 ^ 60) < n ∧ n < 2 ^ 60 ∧ ∀ s r, CoreOk n s r → ∀ H', Same H H' → Q (.int (cond s)) H'
def spCond : Sp := fun vs H Q _ => ∃ n s r : Int, vs = [.int n] ∧ NoT H ∧ n ≠ 0 ∧ -(2 ^ 60) < n ∧ n < 2 ^ 60 ∧ CoreOk n s r ∧ Q (.int (cond s)) H
theorem use_cond {n s r : Int} {H : Hp} {Q : VK} {E : XK} (nt : NoT H) (h0 : n ≠ 0) (h1 : -(2 ^ 60) < n) (h2 : n < 2 ^ 60) (c : CoreOk n s r) (q : Q (.int (cond s)) H) : spCond [.int n] H Q E := ⟨n, s, r, rfl, nt, h0, h1, h2, c, q⟩
theorem abs_nat (s : Int) : (if s < 0 then -s else s) = (s.natAbs : Int) := by split <;> omega
theorem ok_conductor0 (T : Txt K mg Ad) : Def P w K mg base 3 "conductor" ["n"] spCond0 := by
  refine T.d_conductor.ok sc_conductor (fun vs H Q E h => ?_) (fun f cdv A outer s H vs Q E hr h => ?_)
  · obtain ⟨n, rfl, _⟩ := h
    rfl
  · obtain ⟨n, rfl, nt, h0, h1, h2, q⟩ := h
    refine ⟨_, (pss_cons (ps_set (i := 1) sc_conductor.nd rfl (Or.inl rfl) (pe_ix ix_tup (pe_d (ok_core T) (hr.mono (by decide)) (passes_call (takes_of rfl rfl rfl rfl) (fun _ _ _ _ h => h)) (pa_cons (pv 0) pa_nil)) pe_int (fun _ _ => rfl)))
      (pss_cons (ps_if (pt_cmpR op_eq (pe_op op_mod (pv 1) pe_int) pe_int (nomark _)) (pss_one (ps_ret (pe_callB c_abs (by rfl) T.b_abs (by decide +kernel) (pa_cons (pv 1) pa_nil)))) pss_nil)
      (pss_one (ps_ret (pe_op op_mulB pe_int (pe_callB c_abs (by rfl) T.b_abs (by decide +kernel) (pa_cons (pv 1) pa_nil))))))), ?_⟩
    try dsimp only [cxOf]
    wtm_at "rs"
    refine ⟨n, rfl, nt, h0, h1, h2, fun s r c H' t sm n' ft ht => ?_⟩
    have bd := c.bound h0 (B := 2 ^ 60) (by omega) (by omega)
    have q := q s r c
    unfold cond at q
    wtm_at "rs"
    by_cases e : s % 4 = 1
    · rw [if_pos (decide_eq_true e)]
      rw [if_pos e, ← abs_nat] at q
      wtm_at "rs"
      exact q _ sm
    · rw [if_neg (by rw [decide_eq_true_iff]; exact e)]
      rw [if_neg e, ← abs_nat] at q
      wtm_at "rs"
      exact q _ sm
theorem ok_conductor (T : Txt K mg Ad) : Def P w K mg base 3 "conductor" ["n"] spCond :=
  (ok_conductor0 T).forget.imp fun vs H Q E ⟨n, s, r, e, nt, h0, h1, h2, c, k⟩ => ⟨nt, n, e, nt, h0, h1, h2, fun s' r' c' H' sm => ⟨sm, by rw [(c'.uniq c).1]; exact k⟩⟩
/-! ### checked_modulus_signs -/
def spCheckedModulus (C : Addr) : Sp := fun vs H Q E => ∃ m : Int, vs = [.int m] ∧ (m < 1 ∨ m % 2 = 0 → ∀ d, H d = none → E (.ref C) (some d) (upd H d (.xd [("modulus", .int m)]))) ∧ (1 ≤ m → m % 2 = 1 → Q .non H)
theorem ok_checked_modulus_signs (T : Txt K mg Ad) : Def P w K mg base 3 "checked_modulus_signs" ["m"] (spCheckedModulus Ad.c_BadModulus) := by
  refine T.d_checked_modulus_signs.ok sc_checked_modulus_signs (fun vs H Q E h => ?_) (fun f cdv A outer s H vs Q E hr h => ?_)
  · obtain ⟨m, rfl, _⟩ := h
    rfl
  · obtain ⟨m, rfl, qe, qo⟩ := h
    refine ⟨_, (pss_one (ps_if (PW.pt (pw_or (pt_cmpR op_lt (pv 0) pe_int (nomark _)) (pw_or1 (pt_cmpR op_eq (pe_op op_mod (pv 0) pe_int) pe_int (nomark _))))) (pss_one (ps_raise rfl (takes_of rfl rfl rfl rfl) (pmk_err (T.err_BadModulus) (hr.mono (by decide)) (pa_cons (pv 0) pa_nil)))) pss_nil)), ?_⟩
    try dsimp only [cxOf]
    wtm_at "ra"
    · exact qe (by omega)
    · exact qe (by omega)
    · exact qo (by omega) (by omega)
/-! ### factor_of -/
def spFactorOf : Sp := fun vs H Q _ => ∃ (rule : Str) (n m : Int), vs = [.str rule, .int n, .int m] ∧ NoT H ∧ Q (.int (factorOf rule n m)) H
theorem ok_factor_of (T : Txt K mg Ad) : Def P w K mg base 1 "factor_of" ["rule", "n", "m"] spFactorOf := by
  refine T.d_factor_of.ok sc_factor_of (fun vs H Q E h => ?_) (fun f cdv A outer s H vs Q E hr h => ?_)
  · obtain ⟨rule, n, m, rfl, _⟩ := h
    rfl
  · obtain ⟨rule, n, m, rfl, nt, q⟩ := h
    refine ⟨_, (pss_cons (ps_if (PW.pt (pw_and (pt_cmpR op_eq (pv 0) pe_str (nomark _)) (pw_and1 (pt_pure (pt_cmpR op_in_seq (pe_op op_mod (pv 2) pe_int) (pe_tup (pa_cons pe_int (pa_cons pe_int pa_nil))) (by rfl)))))) (pss_one (ps_ret (pe_un un_neg pe_int))) pss_nil)
      (pss_cons (ps_if (PW.pt (pw_and (pt_cmpR op_eq (pv 0) pe_str (nomark _)) (pw_and1 (pt_cmpR op_eq (pe_op op_mod (pv 2) pe_int) pe_int (nomark _))))) (pss_one (ps_ret (pe_un un_neg pe_int))) pss_nil)
      (pss_cons (ps_if (PW.pt (pw_and (pt_cmpR op_eq (pv 0) pe_str (nomark _)) (pw_and (pt_cmpR op_eq (pe_op op_mod (pv 1) pe_int) pe_int (nomark _)) (pw_and1 (pt_cmpR op_eq (pe_op op_mod (pv 2) pe_int) pe_int (nomark _)))))) (pss_one (ps_ret (pe_un un_neg pe_int))) pss_nil)
      (pss_one (ps_ret pe_int))))), ?_⟩
    try dsimp only [cxOf]
    wtm_at "ra"
    all_goals (refine Eq.mp (congrArg (fun z => Q (V.int z) H) ?_) q; first | (simp [factorOf, *]; done) | (subst_vars; simp [factorOf, str_ne1, str_ne2, str_ne3, str_ne4, *]))
theorem use_factor_of {rule : Str} {n m : Int} {H : Hp} {Q : VK} {E : XK} (nt : NoT H) (q : ∀ z : Int, z = factorOf rule n m → z = 1 ∨ z = -1 → Q (.int z) H) : spFactorOf [.str rule, .int n, .int m] H Q E :=
  ⟨rule, n, m, rfl, nt, q _ rfl (factorOf_pm rule n m)⟩
local macro_rules | `(tactic| wtm_at "s") => `(tactic| ((with_reducible refine use_factor_of (by wtm_at "nt") ?_); intro z hz hpm))
/-! ### sign -/
def spSign (C : Addr) : Sp := fun vs H Q E => ∃ (n m : Int), vs = [.int n, .int m] ∧ NoT H ∧ (m < 1 ∨ m % 2 = 0 → ∀ d, H d = none → E (.ref C) (some d) (upd H d (.xd [("modulus", .int m)]))) ∧ (1 ≤ m → m % 2 = 1 → Q (.int (sgn n m)) H)
theorem ok_sign (T : Txt K mg Ad) : Def P w K mg base 4 "sign" ["n", "m"] (spSign Ad.c_BadModulus) := by
  refine T.d_sign.ok sc_sign (fun vs H Q E h => ?_) (fun f cdv A outer s H vs Q E hr h => ?_)
  · obtain ⟨n, m, rfl, _⟩ := h
    rfl
  · obtain ⟨n, m, rfl, nt, qe, qo⟩ := h
    refine ⟨_, (pss_cons (ps_expr (pe_d (ok_checked_modulus_signs T) (hr.mono (by decide)) (passes_call (takes_of rfl rfl rfl rfl) (fun _ _ _ _ h => h)) (pa_cons (pv 1) pa_nil)))
      (pss_cons (ps_set (i := 2) sc_sign.nd rfl (Or.inl rfl) pe_int)
      (pss_cons (ps_set (i := 0) sc_sign.nd rfl (Or.inl rfl) (pe_op op_mod (pv 0) (pv 1)))
      (pss_cons (ps_while (passes_of rfl) (pt_cmpR op_ne (pv 0) pe_int (nomark _)) (pss_cons (ps_while (passes_of rfl) (pt_cmpR op_eq (pe_op op_mod (pv 0) pe_int) pe_int (nomark _)) (pss_cons (ps_set (i := 0) sc_sign.nd rfl (Or.inl rfl) (pe_op op_fdivB (pv 0) pe_int))
      (pss_one (ps_set (i := 2) sc_sign.nd rfl (Or.inl rfl) (pe_op op_mulB (pv 2) (pe_d (ok_factor_of T) (hr.mono (by decide)) (passes_call (takes_of rfl rfl rfl rfl) (fun _ _ _ _ h => h)) (pa_cons pe_str (pa_cons (pv 0) (pa_cons (pv 1) pa_nil)))))))))
      (pss_cons (ps_set (i := 2) sc_sign.nd rfl (Or.inl rfl) (pe_op op_mulB (pv 2) (pe_d (ok_factor_of T) (hr.mono (by decide)) (passes_call (takes_of rfl rfl rfl rfl) (fun _ _ _ _ h => h)) (pa_cons pe_str (pa_cons (pv 0) (pa_cons (pv 1) pa_nil))))))
      (pss_one (ps_par (i := 0) (j := 1) rfl sc_sign.nd rfl rfl (by decide) rfl rfl (pa_cons (pe_op op_mod (pv 1) (pv 0)) (pa_cons (pv 0) pa_nil)) (by rfl))))))
      (pss_cons (ps_if (pt_cmpR op_eq (pv 1) pe_int (nomark _)) (pss_one (ps_ret (pv 2))) pss_nil)
      (pss_one (ps_ret pe_int))))))), ?_⟩
    try dsimp only [cxOf]
    wtm_at "rs"
    refine ⟨m, rfl, qe, fun h1 h2 => ?_⟩
    wtm_at "rs"
    refine rd_while (fun μ σ H' => ∃ (r a b : Int), μ = a.toNat ∧ σ = [some (.int a), some (.int b), some (.int r)] ∧ H = H' ∧ 0 ≤ a ∧ 0 < b ∧ b % 2 = 1 ∧ r * jac a.toNat b.toNat = sgn n m) (n % m).toNat
      ⟨1, n % m, m, rfl, rfl, rfl, Int.emod_nonneg _ (by omega), by omega, h2, by rw [Int.one_mul]; rfl⟩ ?_
    rintro μ σ H' ⟨r, a, b, rfl, rfl, rfl, ha, hb, hb2, inv⟩
    wtm_at "rs"
    wtm_at "i"
    · wtm_at "rs"
      refine rd_while (fun μ σ H' => ∃ (r a' : Int), μ = a'.toNat ∧ σ = [some (.int a'), some (.int b), some (.int r)] ∧ H = H' ∧ 0 < a' ∧ a' ≤ a ∧ r * jac a'.toNat b.toNat = sgn n m) a.toNat
        ⟨r, a, rfl, rfl, rfl, by omega, by omega, inv⟩ ?_
      rintro μ σ H' ⟨r, a', rfl, rfl, rfl, ha', hle, inv⟩
      wtm_at "rs"
      wtm_at "i"
      · wtm_at "rs"
        rename_i h0 _ he z hz hpm
        refine ⟨_, ?_, r * z, a' / 2, rfl, rfl, rfl, by omega, by omega, ?_⟩
        · omega
        · rw [hz, factorOf_two _ _ hb]
          rw [jac_two (by omega) (by omega)] at inv
          rw [show (a' / 2).toNat = a'.toNat / 2 by omega, Int.mul_assoc]
          exact inv
      · wtm_at "rs"
        rename_i h0 _ he z hz hpm
        refine ⟨_, ?_, r * z, b % a', a', rfl, rfl, rfl, Int.emod_nonneg _ (by omega), by omega, by omega, ?_⟩
        · have := Int.emod_lt_of_pos b ha'
          omega
        · rw [hz, factorOf_turn _ _ (by omega) hb]
          rw [jac_turn (by omega)] at inv
          rw [show (b % a').toNat = b.toNat % a'.toNat from Int.toNat_emod (by omega) (by omega), Int.mul_assoc]
          exact inv
    · rename_i h0
      have e0 : a = 0 := by simpa using h0
      subst e0
      have jz := jac_zero b.toNat
      rw [show (0 : Int).toNat = 0 from rfl, jz] at inv
      have q := qo h1 h2
      rw [← inv] at q
      wtm_at "ra"
      · rename_i hb1
        rw [if_pos (by omega), Int.mul_one] at q
        exact q
      · rename_i hb1
        rw [if_neg (by omega), Int.mul_zero] at q
        exact q
theorem use_sign {C : Addr} {n m : Int} {H : Hp} {Q : VK} {E : XK} (nt : NoT H) (h1 : 1 ≤ m) (h2 : m % 2 = 1) (q : Q (.int (sgn n m)) H) : spSign C [.int n, .int m] H Q E :=
  ⟨n, m, rfl, nt, fun h => by omega, fun _ _ => q⟩
/-! ### sign_by_rest -/
def spSbr0 : Sp := fun vs H Q _ => ∃ n k s r : Int, vs = [.int n, .int k, .int (cond s)] ∧ NoT H ∧ n ≠ 0 ∧ -(2 ^ 60) < n ∧ n < 2 ^ 60 ∧ CoreOk n s r ∧ k ∈ uL (cond s) ∧ ∀ H', Same H H' → Q (.int (chi s (cond s) k)) H'
def spSbr : Sp := fun vs H Q _ => ∃ n k s r : Int, vs = [.int n, .int k, .int (cond s)] ∧ NoT H ∧ n ≠ 0 ∧ -(2 ^ 60) < n ∧ n < 2 ^ 60 ∧ CoreOk n s r ∧ k ∈ uL (cond s) ∧ Q (.int (chi s (cond s) k)) H
theorem use_sbr {n k s r : Int} {H : Hp} {Q : VK} {E : XK} (nt : NoT H) (h0 : n ≠ 0) (h1 : -(2 ^ 60) < n) (h2 : n < 2 ^ 60) (c : CoreOk n s r) (u : k ∈ uL (cond s)) (q : Q (.int (chi s (cond s) k)) H) : spSbr [.int n, .int k, .int (cond s)] H Q E := ⟨n, k, s, r, rfl, nt, h0, h1, h2, c, u, q⟩
theorem ok_sign_by_rest0 (T : Txt K mg Ad) : Def P w K mg base 5 "sign_by_rest" ["n", "rest", "modulus"] spSbr0 := by
  refine T.d_sign_by_rest.ok sc_sign_by_rest (fun vs H Q E h => ?_) (fun f cdv A outer s H vs Q E hr h => ?_)
  · obtain ⟨n, k, s, r, rfl, _⟩ := h
    rfl
  · obtain ⟨n, k, s, r, rfl, nt, h0, h1, h2, c, u, q⟩ := h
    refine ⟨_, (pss_cons (ps_set (i := 3) sc_sign_by_rest.nd rfl (Or.inl rfl) (pv 1))
      (pss_cons (ps_if (pt_cmpR op_eq (pe_op op_mod (pv 3) pe_int) pe_int (nomark _)) (pss_one (ps_set (i := 3) sc_sign_by_rest.nd rfl (Or.inl rfl) (pe_op op_add (pv 1) (pv 2)))) pss_nil)
      (pss_one (ps_ret (pe_d (ok_sign T) (hr.mono (by decide)) (passes_call (takes_of rfl rfl rfl rfl) (fun _ _ _ _ h => h)) (pa_cons (pe_ix ix_tup (pe_d (ok_core T) (hr.mono (by decide)) (passes_call (takes_of rfl rfl rfl rfl) (fun _ _ _ _ h => h)) (pa_cons (pv 0) pa_nil)) pe_int (fun _ _ => rfl)) (pa_cons (pv 3) pa_nil))))))), ?_⟩
    try dsimp only [cxOf]
    have bd := c.bound h0 (B := 2 ^ 60) (by omega) (by omega)
    obtain ⟨k0, k1, kc⟩ := mem_uL.mp u
    have ek : k % cond s = k := Int.emod_eq_of_lt k0 k1
    have o1 := oddOf_odd (s := s) k (cop_odd kc)
    have o2 := oddOf_pos bd.1 (cop_odd kc)
    rw [ek] at o1 o2
    unfold chi at q
    have fin : ∀ (o : Int), o = oddOf (cond s) k → ∀ (σ : L2.St) (nx : L2.St → Hp → Prop) (bk ct : L2.St → Hp → Prop), σ = [some (.int n), some (.int k), some (.int (cond s)), some (.int o)] → tRet (tCall (spSign Ad.c_BadModulus) [] E (tCons (tOp (rIxT K) (tCall spCore [] E (tCons (tVar 0) tNil)) (tC (.int 0))) (tCons (tVar 3) tNil))) ⟨nx, Q, bk, ct⟩ σ H := fun o ho σ nx bk ct hσ => by
      subst hσ
      wtm_at "rs"
      refine ⟨n, rfl, nt, h0, h1, h2, fun s' r' c' H' t sm n' ft ht => ?_⟩
      rw [(c'.uniq c).1] at ht
      wtm_at "rs"
      refine ⟨s, o, rfl, n', fun z => absurd z (by rw [ho]; omega), fun _ _ => ?_⟩
      rw [ho]
      exact q _ sm
    wtm_at "rs"
    by_cases e : k % 2 = 0
    · rw [if_pos (decide_eq_true e)]
      wtm_at "r"
      wtm_at "r"
      wtm_at "r"
      wtm_at "r"
      wtm_at "r"
      wtm_at "r"
      exact fin _ (by unfold oddOf; rw [if_pos e]) _ _ _ _ rfl
    · rw [if_neg (by rw [decide_eq_true_iff]; exact e)]
      wtm_at "r"
      exact fin _ (by unfold oddOf; rw [if_neg e]) _ _ _ _ rfl
theorem ok_sign_by_rest (T : Txt K mg Ad) : Def P w K mg base 5 "sign_by_rest" ["n", "rest", "modulus"] spSbr :=
  (ok_sign_by_rest0 T).forget.imp fun vs H Q E ⟨n, k, s, r, e, nt, h0, h1, h2, c, u, z⟩ => ⟨nt, n, k, s, r, e, nt, h0, h1, h2, c, u, fun H' sm => ⟨sm, z⟩⟩
/-! ### checked_clock -/
theorem op_of_three {p : Int} (h : 3 ≤ p) (hp : QR.Pm p) : QR.OP p := ⟨hp, by
  rcases Int.emod_two_eq p with e | e
  · exact absurd (Int.dvd_of_emod_eq_zero e) (hp.2 2 (by omega) (by omega))
  · exact e⟩
def spClock (C : Addr) : Sp := fun vs H Q E => ∃ p : Int, vs = [.int p] ∧ p < 2 ^ 120 ∧ (¬ QR.OP p → ∀ d, H d = none → E (.ref C) (some d) (upd H d (.xd [("p", .int p)]))) ∧ (QR.OP p → Q .non H)
theorem ok_checked_clock (T : Txt K mg Ad) : Def P w K mg base 3 "checked_clock" ["p"] (spClock Ad.c_BadPrime) := by
  refine T.d_checked_clock.ok sc_checked_clock (fun vs H Q E h => ?_) (fun f cdv A outer s H vs Q E hr h => ?_)
  · obtain ⟨p, rfl, _⟩ := h
    rfl
  · obtain ⟨p, rfl, hb, qe, qo⟩ := h
    refine ⟨_, (pss_one (ps_if (PW.pt (pw_or (pt_cmpR op_lt (pv 0) pe_int (nomark _)) (pw_or1 (pt_not (pt_val (pe_d (ok_is_prime T) (hr.mono (by decide)) (passes_call (takes_of rfl rfl rfl rfl) (fun _ _ _ _ h => h)) (pa_cons (pv 0) pa_nil))))))) (pss_one (ps_raise rfl (takes_of rfl rfl rfl rfl) (pmk_err (T.err_BadPrime) (hr.mono (by decide)) (pa_cons (pv 0) pa_nil)))) pss_nil)), ?_⟩
    try dsimp only [cxOf]
    wtm_at "ra"
    · exact qe fun z => by have := z.three; omega
    · rename_i h1 h2
      exact qe fun z => by simp [z.1] at h2
    · rename_i h1 h2
      exact qo (op_of_three (by omega) (by simpa using h2))
/-! ### inverse -/
theorem inv_ok {n p : Int} (hp : QR.OP p) (hn : ¬ p ∣ n) : p ∣ n * (n ^ (p - 2).toNat % p) - 1 := by
  have h3 := hp.three
  obtain ⟨h, rfl⟩ := odd_half (by omega) hp.2
  obtain ⟨c, hc⟩ := QR.fermat hp.1 n
  obtain ⟨m, rfl⟩ : ∃ m, h = m + 1 := ⟨h - 1, by omega⟩
  have hpe : ((2 : Int) * ((m + 1 : Nat) : Int) + 1 - 2).toNat = 2 * m + 1 := by omega
  rw [hpe]
  have e1 := Int.mul_ediv_add_emod (n ^ (2 * m + 1)) (2 * ((m + 1 : Nat) : Int) + 1)
  have e2 : n ^ (2 * (m + 1) + 1) = n ^ (2 * m + 1) * n * n := by rw [show 2 * (m + 1) + 1 = 2 * m + 1 + 1 + 1 by omega, Int.pow_succ, Int.pow_succ]
  rw [e2] at hc
  generalize n ^ (2 * m + 1) = X at *
  generalize hP : (2 : Int) * ((m + 1 : Nat) : Int) + 1 = P at *
  have hd : P ∣ n * (n * X - 1) := ⟨c, by rw [← hc]; grind⟩
  rcases hp.1.dvd_mul hd with z | z
  · exact absurd z hn
  · obtain ⟨d, hd⟩ := z
    refine ⟨d - n * (X / P), ?_⟩
    have e3 : X % P = X - P * (X / P) := by omega
    rw [e3, Int.mul_sub, Int.mul_sub, ← hd]
    grind
def spInverse : Sp := fun vs H Q E => ∃ (n p : Int), vs = [.int n, .int p] ∧ QR.OP p ∧ p < 2 ^ 59 ∧ ∀ z, 0 ≤ z → z < p → (¬ p ∣ n → p ∣ n * z - 1) → Q (.int z) H
theorem ok_inverse (T : Txt K mg Ad) : Def P w K mg base 1 "inverse" ["n", "p"] spInverse := by
  refine T.d_inverse.ok sc_inverse (fun vs H Q E h => ?_) (fun f cdv A outer s H vs Q E hr h => ?_)
  · obtain ⟨n, p, rfl, _⟩ := h
    rfl
  · obtain ⟨n, p, rfl, hp, hb, q⟩ := h
    refine ⟨_, (pss_cons (ps_set (i := 2) sc_inverse.nd rfl (Or.inl rfl) pe_int)
      (pss_cons (ps_set (i := 3) sc_inverse.nd rfl (Or.inl rfl) (pe_op op_mod (pv 0) (pv 1)))
      (pss_cons (ps_set (i := 4) sc_inverse.nd rfl (Or.inl rfl) (pe_op op_sub (pv 1) pe_int))
      (pss_cons (ps_while (passes_of rfl) (pt_cmpR op_gt (pv 4) pe_int (nomark _)) (pss_cons (ps_if (pt_cmpR op_eq (pe_op op_mod (pv 4) pe_int) pe_int (nomark _)) (pss_one (ps_set (i := 2) sc_inverse.nd rfl (Or.inl rfl) (pe_op op_mod (pe_op op_mulB (pv 2) (pv 3)) (pv 1)))) pss_nil)
      (pss_cons (ps_set (i := 3) sc_inverse.nd rfl (Or.inl rfl) (pe_op op_mod (pe_op op_mulB (pv 3) (pv 3)) (pv 1)))
      (pss_one (ps_set (i := 4) sc_inverse.nd rfl (Or.inl rfl) (pe_op op_fdivB (pv 4) pe_int))))))
      (pss_one (ps_ret (pv 2))))))), ?_⟩
    try dsimp only [cxOf]
    have h3 := hp.three
    have m1 := fun z => Int.emod_nonneg z (show p ≠ 0 by omega)
    have m2 := fun z => Int.emod_lt_of_pos z (show 0 < p by omega)
    have m3 := m1 n
    have m4 := m2 n
    wtm_at "rs"
    refine rd_while (fun μ σ H' => ∃ (r b d : Int), μ = d.toNat ∧ σ = [some (.int n), some (.int p), some (.int r), some (.int b), some (.int d)] ∧ H = H' ∧ 0 ≤ d ∧ 0 ≤ r ∧ r < p ∧ 0 ≤ b ∧ b < p ∧ p ∣ r * b ^ d.toNat - n ^ (p - 2).toNat) _
      ⟨1, n % p, p - 2, rfl, rfl, rfl, by omega, by omega, by omega, m3, m4, by rw [Int.one_mul]; exact cg_pow ⟨-(n / p), by have := Int.mul_ediv_add_emod n p; rw [Int.mul_neg]; omega⟩ _⟩ ?_
    rintro μ σ H' ⟨r, b, d, rfl, rfl, rfl, d0, r0, r1, b0, b1, inv⟩
    have Br : Bd 59 r := Bd.of (by omega) (by omega)
    have Bb : Bd 59 b := Bd.of (by omega) (by omega)
    wtm_at "rs"
    wtm_at "i"
    · wtm_at "rs"
      wtm_at "i"
      · wtm_at "rs"
        exact ⟨_, by omega, _, _, d / 2, rfl, rfl, rfl, by omega, m1 _, m2 _, m1 _, m2 _, by rw [show (d / 2).toNat = d.toNat / 2 by omega]; exact pw_odd inv (by omega)⟩
      · wtm_at "rs"
        exact ⟨_, by omega, _, _, d / 2, rfl, rfl, rfl, by omega, r0, r1, m1 _, m2 _, by rw [show (d / 2).toNat = d.toNat / 2 by omega]; exact pw_even inv (by omega)⟩
    · rename_i h0
      have e0 : d = 0 := by omega
      subst e0
      wtm_at "rs"
      refine q r r0 r1 fun hn => ?_
      rw [pw_fin inv r0 r1]
      exact inv_ok hp hn
theorem use_inverse {n p : Int} {H : Hp} {Q : VK} {E : XK} (hp : QR.OP p) (hb : p < 2 ^ 59) (q : ∀ z, 0 ≤ z → z < p → (¬ p ∣ n → p ∣ n * z - 1) → Q (.int z) H) : spInverse [.int n, .int p] H Q E := ⟨n, p, rfl, hp, hb, q⟩
/-! ### times_pair -/
def spTimes : Sp := fun vs H Q E => ∃ (x y : Addr) (a b c d w p : Int), vs = [.ref x, .ref y, .int w, .int p] ∧ H x = some (.tup [.int a, .int b]) ∧ H y = some (.tup [.int c, .int d]) ∧ 0 < p ∧ p < 2 ^ 60 ∧ (0 ≤ a ∧ a ≤ p) ∧ (0 ≤ b ∧ b ≤ p) ∧ (0 ≤ c ∧ c ≤ p) ∧ (0 ≤ d ∧ d ≤ p) ∧ (0 ≤ w ∧ w ≤ p) ∧
  ∀ t, H t = none → Q (.ref t) (upd H t (.tup [.int ((a * c + b * d * w) % p), .int ((a * d + b * c) % p)]))
theorem ok_times_pair (T : Txt K mg Ad) : Def P w K mg base 1 "times_pair" ["first", "second", "w", "p"] spTimes := by
  refine T.d_times_pair.ok sc_times_pair (fun vs H Q E h => ?_) (fun f cdv A outer s H vs Q E hr h => ?_)
  · obtain ⟨x, y, a, b, c, d, w, p, rfl, _⟩ := h
    rfl
  · obtain ⟨x, y, a, b, c, d, w, p, rfl, hx, hy, hp, hp2, ha, hb, hc, hd, hw, q⟩ := h
    refine ⟨_, (pss_cons (ps_asg (pv 0) (pg_tup rfl (pgs_cons (pg_name (i := 4) sc_times_pair.nd rfl (Or.inl rfl)) (pgs_cons (pg_name (i := 5) sc_times_pair.nd rfl (Or.inl rfl)) pgs_nil))))
      (pss_cons (ps_asg (pv 1) (pg_tup rfl (pgs_cons (pg_name (i := 6) sc_times_pair.nd rfl (Or.inl rfl)) (pgs_cons (pg_name (i := 7) sc_times_pair.nd rfl (Or.inl rfl)) pgs_nil))))
      (pss_one (ps_ret (pe_tup (pa_cons (pe_op op_mod (pe_op op_add (pe_op op_mulB (pv 4) (pv 6)) (pe_op op_mulB (pe_op op_mulB (pv 5) (pv 7)) (pv 2))) (pv 3)) (pa_cons (pe_op op_mod (pe_op op_add (pe_op op_mulB (pv 4) (pv 7)) (pe_op op_mulB (pv 5) (pv 6))) (pv 3)) pa_nil))))))), ?_⟩
    try dsimp only [cxOf]
    have Ba : Bd 60 a := Bd.of (by omega) (by omega)
    have Bb : Bd 60 b := Bd.of (by omega) (by omega)
    have Bc : Bd 60 c := Bd.of (by omega) (by omega)
    have Bd' : Bd 60 d := Bd.of (by omega) (by omega)
    have Bw : Bd 60 w := Bd.of (by omega) (by omega)
    wtm_at "rs"
    exact q _ (by assumption)
theorem use_times {x y : Addr} {a b c d w p : Int} {H : Hp} {Q : VK} {E : XK} (hx : H x = some (.tup [.int a, .int b])) (hy : H y = some (.tup [.int c, .int d])) (hp : 0 < p) (hp2 : p < 2 ^ 60) (ha : 0 ≤ a ∧ a ≤ p) (hb : 0 ≤ b ∧ b ≤ p) (hc : 0 ≤ c ∧ c ≤ p) (hd : 0 ≤ d ∧ d ≤ p) (hw : 0 ≤ w ∧ w ≤ p)
    (q : ∀ t, H t = none → Q (.ref t) (upd H t (.tup [.int ((a * c + b * d * w) % p), .int ((a * d + b * c) % p)]))) : spTimes [.ref x, .ref y, .int w, .int p] H Q E :=
  ⟨x, y, a, b, c, d, w, p, rfl, hx, hy, hp, hp2, ha, hb, hc, hd, hw, q⟩
/-! ### some_root -/
def spSomeRoot : Sp := fun vs H Q E => ∃ (n p : Int), vs = [.int n, .int p] ∧ QR.OP p ∧ p < 2 ^ 59 ∧ 0 ≤ n ∧ n < p ∧ sgn n p ≠ -1 ∧ NoT H ∧ ∀ x H', Same H H' → 0 ≤ x → x < p → p ∣ x * x - n → Q (.int x) H'
theorem ok_some_root (T : Txt K mg Ad) : Def P w K mg base 5 "some_root" ["n", "p"] spSomeRoot := by
  refine T.d_some_root.ok sc_some_root (fun vs H Q E h => ?_) (fun f cdv A outer s H vs Q E hr h => ?_)
  · obtain ⟨n, p, rfl, _⟩ := h
    rfl
  · obtain ⟨n, p, rfl, hp, hb, n0, n1, hs, nt, q⟩ := h
    refine ⟨_, (pss_cons (ps_set (i := 2) sc_some_root.nd rfl (Or.inl rfl) pe_int)
      (pss_cons (ps_while (passes_of rfl) (pt_cmpR op_eq (pe_d (ok_sign T) (hr.mono (by decide)) (passes_call (takes_of rfl rfl rfl rfl) (fun _ _ _ _ h => h)) (pa_cons (pe_op op_sub (pe_op op_mulB (pv 2) (pv 2)) (pv 0)) (pa_cons (pv 1) pa_nil))) pe_int (nomark _)) (pss_one (ps_aug (i := 2) sc_some_root.nd rfl (Or.inl rfl) pe_int ip_add)))
      (pss_cons (ps_set (i := 3) sc_some_root.nd rfl (Or.inl rfl) (pe_op op_mod (pe_op op_sub (pe_op op_mulB (pv 2) (pv 2)) (pv 0)) (pv 1)))
      (pss_cons (ps_if (pt_cmpR op_eq (pv 3) pe_int (nomark _)) (pss_one (ps_ret (pv 2))) pss_nil)
      (pss_cons (ps_set (i := 4) sc_some_root.nd rfl (Or.inl rfl) (pe_tup (pa_cons pe_int (pa_cons pe_int pa_nil))))
      (pss_cons (ps_set (i := 5) sc_some_root.nd rfl (Or.inl rfl) (pe_tup (pa_cons (pe_op op_mod (pv 2) (pv 1)) (pa_cons pe_int pa_nil))))
      (pss_cons (ps_set (i := 6) sc_some_root.nd rfl (Or.inl rfl) (pe_op op_fdivB (pe_op op_add (pv 1) pe_int) pe_int))
      (pss_cons (ps_while (passes_of rfl) (pt_cmpR op_gt (pv 6) pe_int (nomark _)) (pss_cons (ps_if (pt_cmpR op_eq (pe_op op_mod (pv 6) pe_int) pe_int (nomark _)) (pss_one (ps_set (i := 4) sc_some_root.nd rfl (Or.inl rfl) (pe_d (ok_times_pair T) (hr.mono (by decide)) (passes_call (takes_of rfl rfl rfl rfl) (fun _ _ _ _ h => h)) (pa_cons (pv 4) (pa_cons (pv 5) (pa_cons (pv 3) (pa_cons (pv 1) pa_nil))))))) pss_nil)
      (pss_cons (ps_set (i := 5) sc_some_root.nd rfl (Or.inl rfl) (pe_d (ok_times_pair T) (hr.mono (by decide)) (passes_call (takes_of rfl rfl rfl rfl) (fun _ _ _ _ h => h)) (pa_cons (pv 5) (pa_cons (pv 5) (pa_cons (pv 3) (pa_cons (pv 1) pa_nil))))))
      (pss_one (ps_set (i := 6) sc_some_root.nd rfl (Or.inl rfl) (pe_op op_fdivB (pv 6) pe_int))))))
      (pss_one (ps_ret (pe_ix ix_tup (pv 4) pe_int (fun _ _ => rfl)))))))))))), ?_⟩
    try dsimp only [cxOf]
    have h3 := hp.three
    have h2 := hp.2
    obtain ⟨r, r0, r1, hr⟩ := QR.has_root hp hs
    wtm_at "rs"
    refine rd_while (fun μ σ H' => ∃ t : Int, μ = (r - t).toNat ∧ σ = [some (.int n), some (.int p), some (.int t), none, none, none, none] ∧ H = H' ∧ 0 ≤ t ∧ t ≤ r ∧ (n = 0 → t = 0)) _
      ⟨0, rfl, rfl, rfl, by omega, r0, fun _ => rfl⟩ ?_
    rintro μ σ H' ⟨t, rfl, rfl, rfl, t0, t1, tz⟩
    have Bt : Bd 59 t := Bd.of (by omega) (by omega)
    wtm_at "rs"
    refine use_sign nt (by omega) h2 ?_
    wtm_at "rs"
    wtm_at "i"
    · rename_i h1
      have htr : t ≠ r := by
        rintro rfl
        rw [sgn_at0 hp (Int.emod_eq_zero_of_dvd hr)] at h1
        cases h1
      have hn0 : n ≠ 0 := by
        rintro rfl
        have := tz rfl
        subst this
        rw [sgn_at0 hp (by simp)] at h1
        cases h1
      wtm_at "rs"
      exact ⟨_, by omega, t + 1, rfl, rfl, rfl, by omega, by omega, fun z => absurd z hn0⟩
    · rename_i h1
      wtm_at "rs"
      wtm_at "i"
      · rename_i hw
        wtm_at "rs"
        exact q t H (Same.refl _) t0 (by omega) (Int.dvd_of_emod_eq_zero hw)
      · rename_i hw
        have hneg : sgn (t * t - n) p = -1 := (sgn_away hp hw).resolve_left h1
        have hn0 : n ≠ 0 := by
          rintro rfl
          have := tz rfl
          subst this
          exact hw (by simp)
        have hn1 : sgn n p = 1 := (sgn_away hp (by rw [Int.emod_eq_of_lt n0 n1]; exact hn0)).resolve_right hs
        have fin := fun a b c d => QR.Keep.fin (a := a) (b := b) (c := c) (d := d) hp hn1 hneg
        have w0 := Int.emod_nonneg (t * t - n) (show p ≠ 0 by omega)
        have w1 := Int.emod_lt_of_pos (t * t - n) (show 0 < p by omega)
        generalize (t * t - n) % p = w at *
        wtm_at "rs"
        rename_i A0 hA0 B0 hB0
        have tp0 := Int.emod_nonneg t (show p ≠ 0 by omega)
        have tp1 := Int.emod_lt_of_pos t (show 0 < p by omega)
        refine rd_while (fun μ σ H' => ∃ (A B : Addr) (a b c d e : Int), μ = e.toNat ∧ σ = [some (.int n), some (.int p), some (.int t), some (.int w), some (.ref A), some (.ref B), some (.int e)] ∧ Same H H' ∧ H' A = some (.tup [.int a, .int b]) ∧ H' B = some (.tup [.int c, .int d]) ∧ 0 ≤ e ∧ (0 ≤ a ∧ a < p) ∧ (0 ≤ b ∧ b < p) ∧ (0 ≤ c ∧ c < p) ∧ (0 ≤ d ∧ d < p) ∧ QR.Keep p w t ((p + 1) / 2).toNat a b c d e.toNat) _
          ⟨A0, B0, 1, 0, t % p, 1, (p + 1) / 2, rfl, rfl, by wtm_at "sm", by wtm_at "h", upd_same, by omega, by omega, by omega, by omega, by omega, QR.Keep.start⟩ ?_
        rintro μ σ H' ⟨A, B, a, b, c, d, e, rfl, rfl, sm, hA, hB, e0, ha, hb', hc, hd, kp⟩
        wtm_at "rs"
        wtm_at "i"
        · wtm_at "rs"
          have m1 := fun z => Int.emod_nonneg z (show p ≠ 0 by omega)
          have m2 := fun z => Int.emod_lt_of_pos z (show 0 < p by omega)
          wtm_at "i"
          · rename_i ho
            wtm_at "rs"
            refine use_times hA hB (by omega) (by omega) (by omega) (by omega) (by omega) (by omega) (by omega) fun t1 ht1 => ?_
            wtm_at "rs"
            have hB1 := same_new (o := HO.tup [.int ((a * c + b * d * w) % p), .int ((a * d + b * c) % p)]) ht1 _ _ hB
            refine use_times hB1 hB1 (by omega) (by omega) (by omega) (by omega) (by omega) (by omega) (by omega) fun t2 ht2 => ?_
            wtm_at "rs"
            exact ⟨_, by omega, t1, t2, _, _, _, _, e / 2, rfl, rfl, by wtm_at "sm", by wtm_at "h", upd_same, by omega, ⟨m1 _, m2 _⟩, ⟨m1 _, m2 _⟩, ⟨m1 _, m2 _⟩, ⟨m1 _, m2 _⟩, by rw [show (e / 2).toNat = e.toNat / 2 by omega]; exact kp.odd (by omega)⟩
          · rename_i ho
            wtm_at "rs"
            refine use_times hB hB (by omega) (by omega) (by omega) (by omega) (by omega) (by omega) (by omega) fun t2 ht2 => ?_
            wtm_at "rs"
            exact ⟨_, by omega, A, t2, _, _, _, _, e / 2, rfl, rfl, by wtm_at "sm", by wtm_at "h", upd_same, by omega, ha, hb', ⟨m1 _, m2 _⟩, ⟨m1 _, m2 _⟩, by rw [show (e / 2).toNat = e.toNat / 2 by omega]; exact kp.even (by omega)⟩
        · rename_i he
          have ez : e = 0 := by omega
          subst ez
          wtm_at "rs"
          exact q a H' sm ha.1 ha.2 (fin a b c d kp)
theorem use_some_root {n p : Int} {H : Hp} {Q : VK} {E : XK} (hp : QR.OP p) (hb : p < 2 ^ 59) (n0 : 0 ≤ n) (n1 : n < p) (hs : sgn n p ≠ -1) (nt : NoT H) (q : ∀ x H', Same H H' → 0 ≤ x → x < p → p ∣ x * x - n → Q (.int x) H') : spSomeRoot [.int n, .int p] H Q E := ⟨n, p, rfl, hp, hb, n0, n1, hs, nt, q⟩
/-! ### root -/
def spRoot0 (C : Addr) : Sp := fun vs H Q E => ∃ (n p : Int), vs = [.int n, .int p] ∧ p < 2 ^ 59 ∧ NoT H ∧ (¬ QR.OP p → ∀ d, H d = none → E (.ref C) (some d) (upd H d (.xd [("p", .int p)]))) ∧ (QR.OP p → sgn n p = -1 → Q .non H) ∧
  (QR.OP p → sgn n p ≠ -1 → ∀ x H', Same H H' → 0 ≤ x → 2 * x < p → p ∣ x * x - n → Q (.int x) H')
theorem ok_root0 (T : Txt K mg Ad) : Def P w K mg base 6 "root" ["n", "p"] (spRoot0 Ad.c_BadPrime) := by
  refine T.d_root.ok sc_root (fun vs H Q E h => ?_) (fun f cdv A outer s H vs Q E hr h => ?_)
  · obtain ⟨n, p, rfl, _⟩ := h
    rfl
  · obtain ⟨n, p, rfl, hb, nt, qe, q1, q2⟩ := h
    refine ⟨_, (pss_cons (ps_expr (pe_d (ok_checked_clock T) (hr.mono (by decide)) (passes_call (takes_of rfl rfl rfl rfl) (fun _ _ _ _ h => h)) (pa_cons (pv 1) pa_nil)))
      (pss_cons (ps_if (pt_cmpR op_eq (pe_d (ok_sign T) (hr.mono (by decide)) (passes_call (takes_of rfl rfl rfl rfl) (fun _ _ _ _ h => h)) (pa_cons (pv 0) (pa_cons (pv 1) pa_nil))) (pe_un un_neg pe_int) (nomark _)) (pss_one (ps_ret pe_non)) pss_nil)
      (pss_cons (ps_set (i := 2) sc_root.nd rfl (Or.inl rfl) (pe_d (ok_some_root T) (hr.mono (by decide)) (passes_call (takes_of rfl rfl rfl rfl) (fun _ _ _ _ h => h)) (pa_cons (pe_op op_mod (pv 0) (pv 1)) (pa_cons (pv 1) pa_nil))))
      (pss_one (ps_ret (pe_callB (c_min2 rfl) (by rfl) T.b_min (by decide +kernel) (pa_cons (pv 2) (pa_cons (pe_op op_mod (pe_op op_sub (pv 1) (pv 2)) (pv 1)) pa_nil)))))))), ?_⟩
    try dsimp only [cxOf]
    wtm_at "rs"
    refine ⟨p, rfl, by omega, qe, fun hp => ?_⟩
    have h3 := hp.three
    have h2 := hp.2
    wtm_at "rs"
    refine use_sign nt (by omega) h2 ?_
    wtm_at "rs"
    wtm_at "i"
    · rename_i h1
      wtm_at "rs"
      exact q1 hp h1
    · rename_i h1
      wtm_at "rs"
      have e := Int.mul_ediv_add_emod n p
      have hs : sgn (n % p) p = sgn n p := sgn_congr (by omega) h2 ⟨-(n / p), by rw [Int.mul_neg]; omega⟩
      have m0 := Int.emod_nonneg n (show p ≠ 0 by omega)
      have m1 := Int.emod_lt_of_pos n (show 0 < p by omega)
      refine use_some_root hp hb m0 m1 (by rw [hs]; exact h1) nt fun x H' sm x0 x1 hx => ?_
      wtm_at "rs"
      have hx1 := QR.root_mod hx
      have hx2 := QR.root_neg hx1
      have g : ∀ y : Int, y = (if (p - x) % p < x then (p - x) % p else x) → 0 ≤ y ∧ 2 * y < p ∧ p ∣ y * y - n := by
        rintro y rfl
        by_cases hx0 : x = 0
        · subst hx0
          rw [if_neg (by have := Int.emod_nonneg (p - 0) (show p ≠ 0 by omega); omega)]
          exact ⟨by omega, by omega, hx1⟩
        · rw [Int.emod_eq_of_lt (show 0 ≤ p - x by omega) (by omega)]
          split
          · exact ⟨by omega, by omega, hx2⟩
          · exact ⟨by omega, by omega, hx1⟩
      obtain ⟨g0, g1, g2⟩ := g _ rfl
      exact q2 hp h1 _ H' sm g0 g1 g2
def spRoot (C : Addr) : Sp := fun vs H Q E => ∃ (n p : Int), vs = [.int n, .int p] ∧ p < 2 ^ 59 ∧ NoT H ∧ (¬ QR.OP p → ∀ d, H d = none → E (.ref C) (some d) (upd H d (.xd [("p", .int p)]))) ∧ (QR.OP p → sgn n p = -1 → Q .non H) ∧
  (QR.OP p → sgn n p ≠ -1 → ∀ x, 0 ≤ x → 2 * x < p → p ∣ x * x - n → Q (.int x) H)
theorem ok_root (T : Txt K mg Ad) : Def P w K mg base 6 "root" ["n", "p"] (spRoot Ad.c_BadPrime) :=
  (ok_root0 T).forget.imp fun vs H Q E ⟨n, p, e, hb, nt, qe, q1, q2⟩ => ⟨nt, n, p, e, hb, nt, qe, fun a b => ⟨Same.refl _, q1 a b⟩, fun a b x H' sm c d e => ⟨sm, q2 a b x c d e⟩⟩
theorem use_root {C : Addr} {n p : Int} {H : Hp} {Q : VK} {E : XK} (hp : QR.OP p) (hb : p < 2 ^ 59) (nt : NoT H) (q1 : sgn n p = -1 → Q .non H) (q2 : sgn n p ≠ -1 → ∀ x, 0 ≤ x → 2 * x < p → p ∣ x * x - n → Q (.int x) H) : spRoot C [.int n, .int p] H Q E :=
  ⟨n, p, rfl, hb, nt, fun z => absurd hp z, fun _ => q1, fun _ => q2⟩
/-! ### roots -/
def spRoots (C : Addr) : Sp := fun vs H Q E => ∃ (a b c p : Int), vs = [.int a, .int b, .int c, .int p] ∧ p < 2 ^ 59 ∧ Bd 100 a ∧ Bd 100 b ∧ Bd 100 c ∧ NoT H ∧ (¬ QR.OP p → ∀ d, H d = none → E (.ref C) (some d) (upd H d (.xd [("p", .int p)]))) ∧
  (QR.OP p → (a % p = 0 ∧ b % p = 0 ∧ c % p = 0) → Q .non H) ∧ (QR.OP p → ¬ (a % p = 0 ∧ b % p = 0 ∧ c % p = 0) → ∀ D H', Same H H' → NoT H' → H D = none → H' D = some (.lst ((QR.rootsL a b c p).map V.int)) → Q (.ref D) H')
theorem ok_roots (T : Txt K mg Ad) : Def P w K mg base 7 "roots" ["a", "b", "c", "p"] (spRoots Ad.c_BadPrime) := by
  refine T.d_roots.okC sc_roots (fun vs H Q E h => ?_) (fun f cdv hcd A outer s H vs Q E hr h => ?_)
  · obtain ⟨a, b, c, p, rfl, _⟩ := h
    rfl
  · obtain ⟨a, b, c, p, rfl, hb, Ba, Bb, Bc, nt, qe, q1, q2⟩ := h
    refine ⟨_, (pss_cons (ps_expr (pe_d (ok_checked_clock T) (hr.mono (by decide)) (passes_call (takes_of rfl rfl rfl rfl) (fun _ _ _ _ h => h)) (pa_cons (pv 3) pa_nil)))
      (pss_cons (ps_if (PW.pt (pw_and (pt_cmpR op_eq (pe_op op_mod (pv 0) (pv 3)) pe_int (nomark _)) (pw_and1 (pt_cmpR op_eq (pe_op op_mod (pv 1) (pv 3)) pe_int (nomark _))))) (pss_cons (ps_if (pt_cmpR op_eq (pe_op op_mod (pv 2) (pv 3)) pe_int (nomark _)) (pss_one (ps_ret pe_non)) pss_nil)
      (pss_one (ps_ret (pe_lst pa_nil)))) pss_nil)
      (pss_cons (ps_if (pt_cmpR op_eq (pe_op op_mod (pv 0) (pv 3)) pe_int (nomark _)) (pss_one (ps_ret (pe_lst (pa_cons (pe_op op_mod (pe_op op_mulB (pe_un un_neg (pv 2)) (pe_d (ok_inverse T) (hr.mono (by decide)) (passes_call (takes_of rfl rfl rfl rfl) (fun _ _ _ _ h => h)) (pa_cons (pv 1) (pa_cons (pv 3) pa_nil)))) (pv 3)) pa_nil)))) pss_nil)
      (pss_cons (ps_set (i := 4) sc_roots.nd rfl (Or.inl rfl) (pe_d (ok_root T) (hr.mono (by decide)) (passes_call (takes_of rfl rfl rfl rfl) (fun _ _ _ _ h => h)) (pa_cons (pe_op op_sub (pe_op op_mulB (pv 1) (pv 1)) (pe_op op_mulB (pe_op op_mulB pe_int (pv 0)) (pv 2))) (pa_cons (pv 3) pa_nil))))
      (pss_cons (ps_if (pt_cmpR op_isN (pv 4) pe_non (nomark _)) (pss_one (ps_ret (pe_lst pa_nil))) pss_nil)
      (pss_cons (ps_set (i := 5) sc_roots.nd rfl (Or.inl rfl) (pe_d (ok_inverse T) (hr.mono (by decide)) (passes_call (takes_of rfl rfl rfl rfl) (fun _ _ _ _ h => h)) (pa_cons (pe_op op_mulB pe_int (pv 0)) (pa_cons (pv 3) pa_nil))))
      (pss_one (ps_ret (pe_callB (cr_sortedSet rfl) (by rfl) T.b_sorted (by decide +kernel) (pa_cons (pe_set2 (pe_op op_mod (pe_op op_mulB (pe_op op_sub (pe_un un_neg (pv 1)) (pv 4)) (pv 5)) (pv 3)) (pe_op op_mod (pe_op op_mulB (pe_op op_add (pe_un un_neg (pv 1)) (pv 4)) (pv 5)) (pv 3)) hcd) pa_nil)))))))))), ?_⟩
    try dsimp only [cxOf]
    wtm_at "rs"
    refine ⟨p, rfl, by omega, qe, fun hp => ?_⟩
    have h3 := hp.three
    have q1 := q1 hp
    have q2 := q2 hp
    have m1 := fun z => Int.emod_nonneg z (show p ≠ 0 by omega)
    have m2 := fun z => Int.emod_lt_of_pos z (show 0 < p by omega)
    wtm_at "rs"
    have dv : ∀ x : Int, x % p = 0 → p ∣ x := fun x => Int.dvd_of_emod_eq_zero
    have nd : ∀ x : Int, ¬ x % p = 0 → ¬ p ∣ x := fun x h z => h (Int.emod_eq_zero_of_dvd z)
    wtm_at "i"
    · rename_i ha
      wtm_at "rs"
      wtm_at "i"
      · rename_i hb0
        wtm_at "rs"
        wtm_at "i"
        · rename_i hc0
          wtm_at "rs"
          exact q1 ⟨ha, hb0, hc0⟩
        · rename_i hc0
          wtm_at "rs"
          rename_i D hD
          exact q2 (fun z => hc0 z.2.2) D _ (same_new hD) (by wtm_at "nt") hD (by rw [upd_same, QR.roots_flat (by omega) (dv a ha) (dv b hb0) (nd c hc0)]; rfl)
      · rename_i hb0
        wtm_at "ro"
        refine use_inverse hp hb fun z z0 z1 hz => ?_
        have hz := hz (nd b hb0)
        have Bz : Bd 60 z := Bd.of (by omega) (by omega)
        wtm_at "rs"
        rename_i D hD
        exact q2 (fun z => hb0 z.2.1) D _ (same_new hD) (by wtm_at "nt") hD (by rw [upd_same, QR.roots_line hp (dv a ha) hz]; rfl)
    · rename_i ha
      wtm_at "ro"
      have hna := nd a ha
      refine use_root hp hb nt (fun hs => ?_) fun hs x x0 x1 hx => ?_
      · wtm_at "rs"
        rename_i D hD
        exact q2 (fun z => ha z.1) D _ (same_new hD) (by wtm_at "nt") hD (by rw [upd_same, QR.roots_no hp hs]; rfl)
      · wtm_at "rs"
        refine use_inverse hp hb fun z z0 z1 hz => ?_
        have hz := hz (QR.not_2a hp hna)
        have Bz : Bd 60 z := Bd.of (by omega) (by omega)
        have Bx : Bd 60 x := Bd.of (by omega) (by omega)
        wtm_at "rs"
        intro D hD
        wtm_at "rs"
        refine ⟨_, _, rfl, rfl, upd_same, ?_⟩
        wtm_at "rs"
        refine rd_sortSet2 upd_same (by split <;> decide) fun r hr => ?_
        have sm : Same H (upd (upd H D (SetO w D setNo 0)) D (SetO w D (fun k => decide (k = (-b - x) * z % p ∨ k = (-b + x) * z % p)) (if (-b - x) * z % p = (-b + x) * z % p then 1 else 2))) := by wtm_at "sm"
        exact q2 (fun z => ha z.1) r _ (sm.trans (same_new hr)) (by wtm_at "nt") (sm.free hr) (by rw [upd_same, QR.roots_pair hp hna hx hz])
/-! ### how_many -/
def spHowMany0 (C : Addr) : Sp := fun vs H Q E => ∃ (a b c p : Int), vs = [.int a, .int b, .int c, .int p] ∧ p < 2 ^ 59 ∧ Bd 100 a ∧ Bd 100 b ∧ Bd 100 c ∧ NoT H ∧ (¬ QR.OP p → ∀ d, H d = none → E (.ref C) (some d) (upd H d (.xd [("p", .int p)]))) ∧
  (QR.OP p → ∀ H', Same H H' → Q (.int (howMany a b c p)) H')
theorem ok_how_many0 (T : Txt K mg Ad) : Def P w K mg base 8 "how_many" ["a", "b", "c", "p"] (spHowMany0 Ad.c_BadPrime) := by
  refine T.d_how_many.ok sc_how_many (fun vs H Q E h => ?_) (fun f cdv A outer s H vs Q E hr h => ?_)
  · obtain ⟨a, b, c, p, rfl, _⟩ := h
    rfl
  · obtain ⟨a, b, c, p, rfl, hb, Ba, Bb, Bc, nt, qe, q⟩ := h
    refine ⟨_, (pss_cons (ps_set (i := 4) sc_how_many.nd rfl (Or.inl rfl) (pe_d (ok_roots T) (hr.mono (by decide)) (passes_call (takes_of rfl rfl rfl rfl) (fun _ _ _ _ h => h)) (pa_cons (pv 0) (pa_cons (pv 1) (pa_cons (pv 2) (pa_cons (pv 3) pa_nil))))))
      (pss_cons (ps_if (pt_cmpR op_isN (pv 4) pe_non (nomark _)) (pss_one (ps_ret (pv 3))) pss_nil)
      (pss_one (ps_ret (pe_callB c_len (by rfl) T.b_len PySem.boot_len (pa_cons (pv 4) pa_nil)))))), ?_⟩
    try dsimp only [cxOf]
    wtm_at "rs"
    refine ⟨a, b, c, p, rfl, hb, Ba, Bb, Bc, nt, qe, fun hp hz => ?_, fun hp hz D H' sm nt' hD hl => ?_⟩
    · have q := q hp H (Same.refl _)
      rw [show howMany a b c p = p from if_pos hz] at q
      wtm_at "rs"
      exact q
    · have q := q hp H' sm
      rw [show howMany a b c p = _ from if_neg hz] at q
      wtm_at "rs"
      rw [List.length_map]
      exact q
def spHowMany (C : Addr) : Sp := fun vs H Q E => ∃ (a b c p : Int), vs = [.int a, .int b, .int c, .int p] ∧ p < 2 ^ 59 ∧ Bd 100 a ∧ Bd 100 b ∧ Bd 100 c ∧ NoT H ∧ (¬ QR.OP p → ∀ d, H d = none → E (.ref C) (some d) (upd H d (.xd [("p", .int p)]))) ∧
  (QR.OP p → Q (.int (howMany a b c p)) H)
theorem ok_how_many (T : Txt K mg Ad) : Def P w K mg base 8 "how_many" ["a", "b", "c", "p"] (spHowMany Ad.c_BadPrime) :=
  (ok_how_many0 T).forget.imp fun vs H Q E ⟨a, b, c, p, e, hb, Ba, Bb, Bc, nt, qe, q⟩ => ⟨nt, a, b, c, p, e, hb, Ba, Bb, Bc, nt, qe, fun hp H' sm => ⟨sm, q hp⟩⟩
theorem use_how_many {C : Addr} {a b c p : Int} {H : Hp} {Q : VK} {E : XK} (hp : QR.OP p) (hb : p < 2 ^ 59) (Ba : Bd 100 a) (Bb : Bd 100 b) (Bc : Bd 100 c) (nt : NoT H) (q : Q (.int (howMany a b c p)) H) : spHowMany C [.int a, .int b, .int c, .int p] H Q E :=
  ⟨a, b, c, p, rfl, hb, Ba, Bb, Bc, nt, fun z => absurd hp z, fun _ => q⟩
/-! ### conic_at -/
def spCat : Sp := fun vs H Q _ => ∃ a b c p : Int, vs = [.int a, .int b, .int c, .int p] ∧ NoT H ∧ QR.OP p ∧ p < 2 ^ 55 ∧ Bd 20 a ∧ Bd 20 b ∧ Bd 20 c ∧ Q (.int (conN a b c p)) H
theorem use_cat {a b c p : Int} {H : Hp} {Q : VK} {E : XK} (nt : NoT H) (op : QR.OP p) (pb : p < 2 ^ 55) (ba : Bd 20 a) (bb : Bd 20 b) (bc : Bd 20 c) (q : Q (.int (conN a b c p)) H) : spCat [.int a, .int b, .int c, .int p] H Q E := ⟨a, b, c, p, rfl, nt, op, pb, ba, bb, bc, q⟩
theorem ok_conic_at (T : Txt K mg Ad) : Def P w K mg base 9 "conic_at" ["a", "b", "c", "p"] spCat := by
  refine T.d_conic_at.ok sc_conic_at (fun vs H Q E h => ?_) (fun f cdv A outer s H vs Q E hr h => ?_)
  · obtain ⟨a, b, c, p, rfl, _⟩ := h
    rfl
  · obtain ⟨a, b, c, p, rfl, nt, op, pb, ba, bb, bc, q⟩ := h
    refine ⟨_, (pss_cons (ps_if (PW.pt (pw_and (pt_cmpR op_eq (pe_op op_mod (pv 0) (pv 3)) pe_int (nomark _)) (pw_and1 (pt_cmpR op_eq (pe_op op_mod (pv 1) (pv 3)) pe_int (nomark _))))) (pss_one (ps_ret (pe_ifExp (pt_cmpR op_eq (pe_op op_mod (pv 2) (pv 3)) pe_int (nomark _)) (pe_op op_mulB (pv 3) (pv 3)) pe_int))) pss_nil)
      (pss_cons (ps_if (pt_cmpR op_eq (pe_op op_mod (pv 0) (pv 3)) pe_int (nomark _)) (pss_one (ps_ret (pe_op op_mulB (pv 3) (pe_d (ok_how_many T) (hr.mono (by decide)) (passes_call (takes_of rfl rfl rfl rfl) (fun _ _ _ _ h => h)) (pa_cons (pv 1) (pa_cons pe_int (pa_cons (pe_un un_neg (pv 2)) (pa_cons (pv 3) pa_nil)))))))) pss_nil)
      (pss_cons (ps_if (pt_cmpR op_eq (pe_op op_mod (pv 1) (pv 3)) pe_int (nomark _)) (pss_one (ps_ret (pe_op op_mulB (pv 3) (pe_d (ok_how_many T) (hr.mono (by decide)) (passes_call (takes_of rfl rfl rfl rfl) (fun _ _ _ _ h => h)) (pa_cons (pv 0) (pa_cons pe_int (pa_cons (pe_un un_neg (pv 2)) (pa_cons (pv 3) pa_nil)))))))) pss_nil)
      (pss_cons (ps_if (pt_cmpR op_eq (pe_op op_mod (pv 2) (pv 3)) pe_int (nomark _)) (pss_one (ps_ret (pe_op op_add (pv 3) (pe_op op_mulB (pe_op op_sub (pv 3) pe_int) (pe_d (ok_sign T) (hr.mono (by decide)) (passes_call (takes_of rfl rfl rfl rfl) (fun _ _ _ _ h => h)) (pa_cons (pe_op op_mulB (pe_un un_neg (pv 0)) (pv 1)) (pa_cons (pv 3) pa_nil))))))) pss_nil)
      (pss_one (ps_ret (pe_op op_sub (pv 3) (pe_d (ok_sign T) (hr.mono (by decide)) (passes_call (takes_of rfl rfl rfl rfl) (fun _ _ _ _ h => h)) (pa_cons (pe_op op_mulB (pe_un un_neg (pv 0)) (pv 1)) (pa_cons (pv 3) pa_nil)))))))))), ?_⟩
    try dsimp only [cxOf]
    have p3 := op.three
    have o2 := op.2
    have bp : Bd 60 p := Bd.of (by omega) (by omega)
    have bh : ∀ a b c : Int, Bd 60 (howMany a b c p) := fun a b c => by
      rw [howMany_len (by omega)]
      have h : ((QR.rootsL a b c p).length : Int) ≤ p := by
        unfold QR.rootsL
        have := List.length_filter_le (fun x => decide ((a * x * x + b * x + c) % p = 0)) ((List.range p.toNat).map fun i : Nat => (i : Int))
        rw [List.length_map, List.length_range] at this
        omega
      exact Bd.of (by omega) (by omega)
    have em : -a * b = -(a * b) := Int.neg_mul ..
    by_cases ha : a % p = 0
    · have ha' := Int.dvd_of_emod_eq_zero ha
      by_cases hb : b % p = 0
      · have hb' := Int.dvd_of_emod_eq_zero hb
        rw [conN_00 op ha' hb'] at q
        by_cases hc : c % p = 0
        · rw [if_pos (Int.dvd_of_emod_eq_zero hc)] at q
          wtm_at "rs"
          exact q
        · rw [if_neg fun z => hc (Int.emod_eq_zero_of_dvd z)] at q
          wtm_at "rs"
          exact q
      · have b1 := bh b 0 (-c)
        rw [conN_0 op ha', ← howMany_len (by omega)] at q
        wtm_at "rs"
        refine use_how_many op (by omega) (bb.mono (by decide)) (Bd.of (by decide) (by decide)) (bc.neg.mono (by decide)) nt ?_
        wtm_at "rs"
        exact q
    · by_cases hb : b % p = 0
      · have b1 := bh a 0 (-c)
        rw [conN_swap, conN_0 op (Int.dvd_of_emod_eq_zero hb), ← howMany_len (by omega)] at q
        wtm_at "rs"
        refine use_how_many op (by omega) (ba.mono (by decide)) (Bd.of (by decide) (by decide)) (bc.neg.mono (by decide)) nt ?_
        wtm_at "rs"
        exact q
      · rw [conN_pp op (fun z => ha (Int.emod_eq_zero_of_dvd z)) (fun z => hb (Int.emod_eq_zero_of_dvd z)), ← em] at q
        have sb := sgn_b (n := -a * b) op
        have bs : Bd 20 (sgn (-a * b) p) := Bd.of (by omega) (by omega)
        by_cases hc : c % p = 0
        · rw [if_pos (Int.dvd_of_emod_eq_zero hc)] at q
          wtm_at "rs"
          refine use_sign nt (by omega) o2 ?_
          wtm_at "rs"
          exact q
        · rw [if_neg fun z => hc (Int.emod_eq_zero_of_dvd z)] at q
          wtm_at "rs"
          refine use_sign nt (by omega) o2 ?_
          wtm_at "rs"
          exact q
/-! ### conic -/
/-- the count of the points of a conic -/
def conL (c s r : Int) : Int × Int × Int := if c = 0 then (0, 4 + 4 * chi s (cond s) r, -4 * chi s (cond s) r) else (0, 4, -4 * chi s (cond s) r)
def conC (a b c s : Int) (l : List Int) : Ct := ⟨cond s, conL c s, l, conN a b c⟩
def conP (a b c : Int) : Int := if c = 0 then a * b else a * b * c
theorem conC_ok {a b c s r : Int} {l : List Int} (a0 : a * b ≠ 0) (co : CoreOk (-(a * b)) s r) (c4 : cond s ≤ 4000) (oq : OddQ (conP a b c) l) : (conC a b c s l).Ok := by
  have nd : l.Nodup := oq.1.imp fun h e => by omega
  have s0 := (co.bound (by omega) (B := ((a * b).natAbs : Int)) (by omega) (by omega)).1
  have c1 := cond_pos s0
  refine ⟨c1, c4, fun r hr => ?_, nd, fun p op hp => ?_⟩
  · replace hr : r ∈ uL (cond s) := hr
    obtain ⟨r0, r1, rc⟩ := mem_uL.mp hr
    have pm := chi_pm s0 rc
    rw [Int.emod_eq_of_lt r0 r1] at pm
    show Bd 60 (conL c s r).1 ∧ Bd 60 (conL c s r).2.1 ∧ Bd 60 (conL c s r).2.2
    unfold conL
    split
    · exact ⟨Bd.of (by dsimp only; omega) (by dsimp only; omega), Bd.of (by dsimp only; omega) (by dsimp only; omega), Bd.of (by dsimp only; omega) (by dsimp only; omega)⟩
    · exact ⟨Bd.of (by dsimp only; omega) (by dsimp only; omega), Bd.of (by dsimp only; omega) (by dsimp only; omega), Bd.of (by dsimp only; omega) (by dsimp only; omega)⟩
  · show p % cond s ∈ uL (cond s)
    refine unit_of (Int.dvd_refl _) (by omega) (cond_cop op fun z => hp ((oq.2.1 p).mpr ⟨op, ?_⟩))
    have d : p ∣ a * b := Int.dvd_neg.mp (by rw [← co.prod]; exact Int.dvd_mul_of_dvd_left (Int.dvd_mul_of_dvd_left z))
    unfold conP
    split
    · exact d
    · exact Int.dvd_mul_of_dvd_left d
theorem conC_val {a b c s r p : Int} {l : List Int} (a0 : a * b ≠ 0) (co : CoreOk (-(a * b)) s r) (oq : OddQ (conP a b c) l) (op : QR.OP p) : (conC a b c s l).val p = conN a b c p := by
  have h3 := op.three
  unfold Ct.val
  by_cases hp : p ∈ l
  · exact if_pos hp
  rw [if_neg (show ¬ p ∈ (conC a b c s l).sp from hp)]
  have nab : ¬ p ∣ a * b := fun z => hp ((oq.2.1 p).mpr ⟨op, by
    unfold conP
    split
    · exact z
    · exact Int.dvd_mul_of_dvd_left z⟩)
  have s0 := (co.bound (by omega) (B := ((a * b).natAbs : Int)) (by omega) (by omega)).1
  rw [conN_pp op (fun z => nab (Int.dvd_mul_of_dvd_left z)) (fun z => nab (Int.dvd_mul_of_dvd_right z))]
  rw [sgn_cor co op fun z => nab (Int.dvd_neg.mp z), ← chi_eq s0 (by omega) op.2]
  show trAt (conL c s (p % cond s)) p = _
  have pm : chi s (cond s) (p % cond s) = 1 ∨ chi s (cond s) (p % cond s) = -1 := chi_pm s0 (cond_cop op fun z => nab (Int.dvd_neg.mp (by rw [← co.prod]; exact Int.dvd_mul_of_dvd_left (Int.dvd_mul_of_dvd_left z))))
  unfold trAt conL
  generalize chi s (cond s) (p % cond s) = e at *
  by_cases c0 : c = 0
  · rw [if_pos c0, if_pos (by rw [c0]; exact Int.dvd_zero p)]
    show (0 * p * p + (4 + 4 * e) * p + -4 * e) / 4 = p + (p - 1) * e
    rw [show 0 * p * p + (4 + 4 * e) * p + -4 * e = 4 * (p + (p - 1) * e) by grind, Int.mul_ediv_cancel_left _ (by decide)]
  · rw [if_neg c0, if_neg fun z => hp ((oq.2.1 p).mpr ⟨op, by rw [conP, if_neg c0]; exact Int.dvd_mul_of_dvd_right z⟩)]
    show (0 * p * p + 4 * p + -4 * e) / 4 = p - e
    rw [show 0 * p * p + 4 * p + -4 * e = 4 * (p - e) by grind, Int.mul_ediv_cancel_left _ (by decide)]
def spCon (C : Addr) : Sp := fun vs H Q E => ∃ a b c s r : Int, vs = [.int a, .int b, .int c] ∧ NoT H ∧ a * b ≠ 0 ∧ -2000 ≤ a ∧ a ≤ 2000 ∧ -2000 ≤ b ∧ b ≤ 2000 ∧ -2000 ≤ c ∧ c ≤ 2000 ∧ CoreOk (-(a * b)) s r ∧ cond s ≤ 4000 ∧
  ∀ x H' l, Same H H' → NoT H' → H x = none → OddQ (conP a b c) l → IsCt C H' x (conC a b c s l) → Q (.ref x) H'
theorem use_con {C : Addr} {a b c s r : Int} {H : Hp} {Q : VK} {E : XK} (nt : NoT H) (a0 : a * b ≠ 0) (a1 : -2000 ≤ a) (a2 : a ≤ 2000) (b1 : -2000 ≤ b) (b2 : b ≤ 2000) (c1 : -2000 ≤ c) (c2 : c ≤ 2000) (co : CoreOk (-(a * b)) s r) (c4 : cond s ≤ 4000) (q : ∀ x H' l, Same H H' → NoT H' → H x = none → OddQ (conP a b c) l → IsCt C H' x (conC a b c s l) → Q (.ref x) H') : spCon C [.int a, .int b, .int c] H Q E := ⟨a, b, c, s, r, rfl, nt, a0, a1, a2, b1, b2, c1, c2, co, c4, q⟩
theorem ok_conic (T : Txt K mg Ad) : Def P w K mg base 10 "conic" ["a", "b", "c"] (spCon Ad.c_Count) := by
  refine T.d_conic.ok sc_conic (fun vs H Q E h => ?_) (fun f cdv A outer s H vs Q E hr h => ?_)
  · obtain ⟨a, b, c, s, r, rfl, _⟩ := h
    rfl
  · obtain ⟨a, b, c, sf, r, rfl, nt, a0, a1, a2, b1, b2, c1, c2, co, c4, q⟩ := h
    refine ⟨_, (pss_cons (ps_set (i := 3) sc_conic.nd rfl (Or.inl rfl) (pe_d (ok_conductor T) (hr.mono (by decide)) (passes_call (takes_of rfl rfl rfl rfl) (fun _ _ _ _ h => h)) (pa_cons (pe_op op_mulB (pe_un un_neg (pv 0)) (pv 1)) pa_nil)))
      (pss_cons (ps_set (i := 4) sc_conic.nd rfl (Or.inl rfl) pe_dnewK)
      (pss_cons (ps_for (passes_of rfl) rfl (pi_list (pe_d (ok_units_counts T) (hr.mono (by decide)) (passes_call (takes_of rfl rfl rfl rfl) (fun _ _ _ _ h => h)) (pa_cons (pv 3) pa_nil))) (pg_name (i := 5) sc_conic.nd rfl (Or.inl rfl)) (pss_cons (ps_set (i := 6) sc_conic.nd rfl (Or.inl rfl) (pe_d (ok_sign_by_rest T) (hr.mono (by decide)) (passes_call (takes_of rfl rfl rfl rfl) (fun _ _ _ _ h => h)) (pa_cons (pe_op op_mulB (pe_un un_neg (pv 0)) (pv 1)) (pa_cons (pv 5) (pa_cons (pv 3) pa_nil)))))
      (pss_cons (ps_dput (hu_of hr) (pv 4) (pv 5) (pe_tup (pa_cons pe_int (pa_cons pe_int (pa_cons (pe_op op_mulB (pe_un un_neg pe_int) (pv 6)) pa_nil)))) rfl)
      (pss_one (ps_if (pt_cmpR op_eq (pv 2) pe_int (nomark _)) (pss_one (ps_dput (hu_of hr) (pv 4) (pv 5) (pe_tup (pa_cons pe_int (pa_cons (pe_op op_add pe_int (pe_op op_mulB pe_int (pv 6))) (pa_cons (pe_op op_mulB (pe_un un_neg pe_int) (pv 6)) pa_nil)))) rfl)) pss_nil)))))
      (pss_cons (ps_set (i := 7) sc_conic.nd rfl (Or.inl rfl) (pe_ifExp (pt_cmpR op_eq (pv 2) pe_int (nomark _)) (pe_op op_mulB (pv 0) (pv 1)) (pe_op op_mulB (pe_op op_mulB (pv 0) (pv 1)) (pv 2))))
      (pss_one (ps_ret (pe_mkd (ok_Count_init T) (hr.mono (by decide)) (passes_call (takes_of rfl rfl rfl rfl) (fun _ _ _ _ h => h)) (pa_cons (pv 3) (pa_cons (pv 4) (pa_cons (pe_dc (own := [("p", 8)]) (tk := (tVar 8)) (tv := (tCall (spCat) [] E0 (tCons (tVar 0) (tCons (tVar 1) (tCons (tVar 2) (tCons (tVar 8) tNil)))))) rfl sc_conic.nd  (pi_list (pe_d (ok_odd_primes_of T) (hr.mono (by decide)) (passes_call (takes_of rfl rfl rfl rfl) (fun _ _ _ _ h => h)) (pa_cons (pv 7) pa_nil))) (blkOk_by (own := [("p", 8)]) (N := ["a", "b", "c", "modulus", "lines", "rest", "s", "product", "p"]) (sc := defScope s_conic) (by decide +kernel)) (fun _ _ _ _ _ => (pg_name (i := 8) sc_conic.nd rfl (Or.inl rfl))) (fun _ _ _ _ _ => pts_nil) (fun _ _ _ _ _ => (pv 8)) (fun _ _ _ _ _ => (pe_d (E := E0) (ok_conic_at T) (hr.mono (by decide)) passL (pa_cons (pv 0) (pa_cons (pv 1) (pa_cons (pv 2) (pa_cons (pv 8) pa_nil))))))) pa_nil)))))))))), ?_⟩
    try dsimp only [cxOf]
    have B := Hv.start nt
    have ab : -(2 ^ 23) < a * b ∧ a * b < 2 ^ 23 := by
      have e : ((a * b).natAbs : Int) = (a.natAbs * b.natAbs : Nat) := by rw [Int.natAbs_mul]
      have : a.natAbs * b.natAbs ≤ 2000 * 2000 := Nat.mul_le_mul (by omega) (by omega)
      omega
    have abc : -(2 ^ 40) < a * b * c ∧ a * b * c < 2 ^ 40 := by
      have e : ((a * b * c).natAbs : Int) = ((a * b).natAbs * c.natAbs : Nat) := by rw [Int.natAbs_mul]
      have : (a * b).natAbs * c.natAbs ≤ 8388608 * 2000 := Nat.mul_le_mul (by omega) (by omega)
      omega
    have em : -a * b = -(a * b) := Int.neg_mul ..
    have ba : Bd 20 a := Bd.of (by omega) (by omega)
    have bb : Bd 20 b := Bd.of (by omega) (by omega)
    have bc : Bd 20 c := Bd.of (by omega) (by omega)
    have s0 := (co.bound (by omega) (B := ((a * b).natAbs : Int)) (by omega) (by omega)).1
    have m1 := cond_pos s0
    wtm_at "rs"
    rw [em]
    refine use_cond nt (by omega) (by omega) (by omega) co ?_
    wtm_at "rs"
    intro dl hdl
    have B := B.new (o := .dK (lnK [])) hdl
    clear hdl
    refine B.gen fun G B => ?_
    wtm_at "rs"
    refine use_units m1 (by omega) fun U hU => ?_
    have B := B.newL (o := .lst ((uL (cond sf)).map V.int)) hU
    clear hU
    refine B.gen fun G B => ?_
    have ul := @uL_len (cond sf)
    wtm_at "rs"
    refine rd_forL (xs := (uL (cond sf)).map V.int) (fun i σ G => ∃ (es : List (Int × Addr)) (v5 v6 : Option V), σ = [some (.int a), some (.int b), some (.int c), some (.int (cond sf)), some (.ref dl), v5, v6, none, none] ∧ es.map (·.1) = (uL (cond sf)).take i ∧ Hv noX H [(dl, .dK (lnK es))] [(U, .lst ((uL (cond sf)).map V.int))] [fun G => LnAt G (conL c sf) es] G)
      ⟨[], _, _, rfl, rfl, B.rig (P := fun G => LnAt G (conL c sf) []) (fun G' _ e he => absurd he List.not_mem_nil)⟩ (fun i σ G _ ⟨_, _, _, _, _, B⟩ => SqL.of (B.lAt (a := U) (by wtm_at "mem"))) ?_ ?_
    · clear B
      rintro i v σ G hi ⟨es, v5, v6, rfl, he, B⟩
      rw [List.getElem?_map] at hi
      obtain ⟨k, hk, rfl⟩ := Option.map_eq_some_iff.mp hi
      obtain ⟨tk, kn, ku⟩ := take_uL hk
      rw [← he] at kn
      have les : es.length < 100000 := by
        have := congrArg List.length he
        rw [List.length_map, List.length_take] at this
        omega
      have bch : Bd 15 (chi sf (cond sf) k) := by
        obtain ⟨r0, r1, rc⟩ := mem_uL.mp ku
        have pm := chi_pm s0 rc
        rw [Int.emod_eq_of_lt r0 r1] at pm
        exact Bd.of (by omega) (by omega)
      wtm_at "rs"
      rw [em]
      refine use_sbr B.nt (by omega) (by omega) (by omega) co ku ?_
      wtm_at "rs"
      rename_i t1 ht1
      have B := (B.newL (o := .tup [.int 0, .int 4, .int (-4 * chi sf (cond sf) k)]) ht1)
      clear ht1
      refine B.gen fun G B => ?_
      refine rd_dputN (B.mAt (a := dl) (by wtm_at "mem")) (by omega) kn ?_
      have B := B.put (u := .dK (lnK (es ++ [(k, t1)])))
      refine B.gen fun G B => ?_
      wtm_at "rs"
      by_cases d0 : c = 0
      · rw [if_pos (decide_eq_true d0)]
        wtm_at "rs"
        rename_i t2 ht2
        have B := B.newL (o := .tup [.int 0, .int (4 + 4 * chi sf (cond sf) k), .int (-4 * chi sf (cond sf) k)]) ht2
        clear ht2
        refine B.gen fun G B => ?_
        refine rd_dputO (B.mAt (a := dl) (by wtm_at "mem")) (by omega) kn ?_
        have B := B.put (u := .dK (lnK (es ++ [(k, t2)])))
        refine B.gen fun G B => ?_
        have ht : G t2 = some (.tup (trV (conL c sf k))) := by
          rw [conL, if_pos d0]
          exact B.lAt (a := t2) (o := .tup [.int 0, .int (4 + 4 * chi sf (cond sf) k), .int (-4 * chi sf (cond sf) k)]) (by wtm_at "mem")
        have l2 := ((B.zAt (P := fun G => LnAt G (conL c sf) es) (by wtm_at "mem")).snoc ht).rig
        exact ⟨es ++ [(k, t2)], _, _, rfl, by rw [List.map_append, he, tk]; rfl, (B.rig l2).sub (by wtm_at "vsub") (by wtm_at "vsub")⟩
      · rw [if_neg (by rw [decide_eq_true_iff]; exact d0)]
        wtm_at "rs"
        have ht : G t1 = some (.tup (trV (conL c sf k))) := by
          rw [conL, if_neg d0]
          exact B.lAt (a := t1) (o := .tup [.int 0, .int 4, .int (-4 * chi sf (cond sf) k)]) (by wtm_at "mem")
        have l2 := ((B.zAt (P := fun G => LnAt G (conL c sf) es) (by wtm_at "mem")).snoc ht).rig
        exact ⟨es ++ [(k, t1)], _, _, rfl, by rw [List.map_append, he, tk]; rfl, (B.rig l2).sub (by wtm_at "vsub") (by wtm_at "vsub")⟩
    · clear B
      rintro σ G ⟨es, v5, v6, rfl, he, B⟩
      rw [List.length_map, List.take_length] at he
      have B := B.fix
      have bab : Bd 25 (a * b) := Bd.of (by omega) (by omega)
      wtm_at "rs"
      by_cases d2 : c = 0
      rw [if_pos (decide_eq_true d2)]
      rotate_left
      rw [if_neg (by rw [decide_eq_true_iff]; exact d2)]
      rotate_left
      wtm_at "rs"
      refine use_oddQ B.nt a0 (by omega) (by omega) fun O G2 l s2 n2 hO hO' oq => ?_
      replace oq : OddQ (conP a b c) l := by rwa [conP, if_pos d2]
      rotate_left
      refine use_oddQ B.nt (fun z => (Int.mul_eq_zero.mp z).elim a0 d2) (by omega) (by omega) fun O G2 l s2 n2 hO hO' oq => ?_
      replace oq : OddQ (conP a b c) l := by rwa [conP, if_neg d2]
      all_goals
        have B := B.got s2 n2 hO hO'
        clear s2 n2 hO hO'
        refine B.gen fun G B => ?_
        have pb : ∀ x ∈ l, QR.OP x ∧ x < 2 ^ 55 := fun x hx => by
          obtain ⟨op, dv⟩ := (oq.2.1 x).mp hx
          have h3 := op.three
          refine ⟨op, ?_⟩
          by_cases d3 : c = 0
          · rw [conP, if_pos d3] at dv
            have := Int.le_of_dvd (b := ((a * b).natAbs : Int)) (by omega) (Int.dvd_natAbs.mpr dv)
            omega
          · rw [conP, if_neg d3] at dv
            have n0 : a * b * c ≠ 0 := fun z => (Int.mul_eq_zero.mp z).elim a0 d3
            have := Int.le_of_dvd (b := ((a * b * c).natAbs : Int)) (by omega) (Int.dvd_natAbs.mpr dv)
            omega
        have nd : l.Nodup := oq.1.imp fun h e => by omega
        have lfew := oq.2.2
        wtm_at "rs"
        refine rd_dcLV (fun p => .int (conN a b c p)) (SqL.of (B.lAt (a := O) (by wtm_at "mem"))) (fun D l1 x r2 hD hl => ?_) fun D hD => ?_
        · have hx : x ∈ l := by rw [hl]; simp
          obtain ⟨opx, px⟩ := pb x hx
          have few : l1.length < 100000 := by
            have := congrArg List.length hl
            rw [List.length_append] at this
            omega
          have xn : x ∉ l1 := fun z => by
            rw [hl] at nd
            exact (List.nodup_append.mp nd).2.2 x z x List.mem_cons_self rfl
          have nt2 : NoT (upd G D (.dK (dV (fun p => V.int (conN a b c p)) l1))) := NoT.upd B.nt rfl
          wtm_at "r"
          refine ⟨rfl, ?_⟩
          wtm_at "rs"
          refine use_cat nt2 opx px ba bb bc ?_
          exact put_V few xn rfl
        · have B := B.newL (o := .dK (dV (fun p => V.int (conN a b c p)) l)) hD
          clear hD
          refine B.gen fun G B => ?_
          have lz := B.zAt (P := fun G => LnAt G (conL c sf) es) (by wtm_at "mem")
          wtm_at "rs"
          refine mk_Ct (c := conC a b c sf l) (es := es) B.nt rfl (B.lAt (a := dl) (by wtm_at "mem")) he lz (B.lAt (a := D) (o := .dK (dV (fun p => V.int (conN a b c p)) l)) (by wtm_at "mem")) fun x G2 sm n2 hx ic => ?_
          exact q x G2 l (B.same.trans sm) n2 (B.free hx) oq ic
/-! ### three -/
def thrL (s r : Int) : Int × Int × Int := (4, 4 * chi s (cond s) r, 0)
def thrC (s : Int) (l : List Int) : Ct := ⟨cond s, thrL s, l, fun p => p * p⟩
theorem thrC_ok {c s r : Int} {l : List Int} (c0 : c ≠ 0) (co : CoreOk (-c) s r) (c4 : cond s ≤ 4000) (oq : OddQ c l) : (thrC s l).Ok := by
  have nd : l.Nodup := oq.1.imp fun h e => by omega
  have s0 := (co.bound (by omega) (B := (c.natAbs : Int)) (by omega) (by omega)).1
  refine ⟨cond_pos s0, c4, fun r hr => ?_, nd, fun p op hp => ?_⟩
  · replace hr : r ∈ uL (cond s) := hr
    obtain ⟨r0, r1, rc⟩ := mem_uL.mp hr
    have pm := chi_pm s0 rc
    rw [Int.emod_eq_of_lt r0 r1] at pm
    exact ⟨Bd.of (by decide : -(2 ^ 60 : Int) < 4) (by decide : (4 : Int) < 2 ^ 60), Bd.of (show -(2 ^ 60 : Int) < 4 * chi s (cond s) r by omega) (show 4 * chi s (cond s) r < 2 ^ 60 by omega), Bd.of (by decide : -(2 ^ 60 : Int) < 0) (by decide : (0 : Int) < 2 ^ 60)⟩
  · show p % cond s ∈ uL (cond s)
    have := cond_pos s0
    refine unit_of (Int.dvd_refl _) (by omega) (cond_cop op fun z => hp ((oq.2.1 p).mpr ⟨op, ?_⟩))
    exact Int.dvd_neg.mp (by rw [← co.prod]; exact Int.dvd_mul_of_dvd_left (Int.dvd_mul_of_dvd_left z))
theorem thrC_val {c s r p : Int} {l : List Int} (c0 : c ≠ 0) (co : CoreOk (-c) s r) (oq : OddQ c l) (op : QR.OP p) : (thrC s l).val p = p * p + p * sgn (-c) p := by
  have h3 := op.three
  have s0 := (co.bound (by omega) (B := (c.natAbs : Int)) (by omega) (by omega)).1
  unfold Ct.val
  by_cases hp : p ∈ l
  · rw [if_pos (show p ∈ (thrC s l).sp from hp), sgn_at0 op (Int.emod_eq_zero_of_dvd (Int.dvd_neg.mpr ((oq.2.1 p).mp hp).2)), Int.mul_zero, Int.add_zero]
    rfl
  rw [if_neg (show ¬ p ∈ (thrC s l).sp from hp)]
  have nc : ¬ p ∣ -c := fun z => hp ((oq.2.1 p).mpr ⟨op, Int.dvd_neg.mp z⟩)
  rw [sgn_cor co op nc, ← chi_eq s0 (by omega) op.2]
  show (4 * p * p + 4 * chi s (cond s) (p % cond s) * p + 0) / 4 = _
  generalize chi s (cond s) (p % cond s) = e
  rw [show 4 * p * p + 4 * e * p + 0 = 4 * (p * p + p * e) by grind, Int.mul_ediv_cancel_left _ (by decide)]
def spThr (C : Addr) : Sp := fun vs H Q E => ∃ c s r : Int, vs = [.int c] ∧ NoT H ∧ -100000 ≤ c ∧ c ≤ 100000 ∧ (c ≠ 0 → CoreOk (-c) s r ∧ cond s ≤ 4000) ∧
  (c = 0 → ∀ x H', Same H H' → NoT H' → H x = none → IsCt C H' x (polC 1 0 0) → Q (.ref x) H') ∧
  (c ≠ 0 → ∀ x H' l, Same H H' → NoT H' → H x = none → OddQ c l → IsCt C H' x (thrC s l) → Q (.ref x) H')
theorem use_thr {C : Addr} {c s r : Int} {H : Hp} {Q : VK} {E : XK} (nt : NoT H) (c1 : -100000 ≤ c) (c2 : c ≤ 100000) (co : c ≠ 0 → CoreOk (-c) s r ∧ cond s ≤ 4000) (q0 : c = 0 → ∀ x H', Same H H' → NoT H' → H x = none → IsCt C H' x (polC 1 0 0) → Q (.ref x) H')
  (q1 : c ≠ 0 → ∀ x H' l, Same H H' → NoT H' → H x = none → OddQ c l → IsCt C H' x (thrC s l) → Q (.ref x) H') : spThr C [.int c] H Q E := ⟨c, s, r, rfl, nt, c1, c2, co, q0, q1⟩
theorem ok_three (T : Txt K mg Ad) : Def P w K mg base 6 "three" ["c"] (spThr Ad.c_Count) := by
  refine T.d_three.ok sc_three (fun vs H Q E h => ?_) (fun f cdv A outer s H vs Q E hr h => ?_)
  · obtain ⟨c, s, r, rfl, _⟩ := h
    rfl
  · obtain ⟨c, sf, r, rfl, nt, c1, c2, co, q0, q1⟩ := h
    refine ⟨_, (pss_cons (ps_if (pt_cmpR op_eq (pv 0) pe_int (nomark _)) (pss_one (ps_ret (pe_d (ok_polynomial T) (hr.mono (by decide)) (passes_call (takes_of rfl rfl rfl rfl) (fun _ _ _ _ h => h)) (pa_cons pe_int (pa_cons pe_int (pa_cons pe_int pa_nil)))))) pss_nil)
      (pss_cons (ps_set (i := 1) sc_three.nd rfl (Or.inr rfl) (pe_d (ok_conductor T) (hr.mono (by decide)) (passes_call (takes_of rfl rfl rfl rfl) (fun _ _ _ _ h => h)) (pa_cons (pe_un un_neg (pv 0)) pa_nil)))
      (pss_cons (ps_setDc (i := 2) (own := [("rest", 3)]) (tk := (tVar 3)) (tv := (tTup (tCons (tC (.int 4)) (tCons (tOp (rI CMulB fun i j => .int (i * j)) (tC (.int 4)) (tCall (spSbr) [] E0 (tCons (tUn (rU fun i => .int (-i)) (tVar 0)) (tCons (tVar 3) (tCons (tVar 1) tNil))))) (tCons (tC (.int 0)) tNil))))) rfl sc_three.nd rfl rfl (sw_dc rfl rfl rfl (by decide +kernel)) (pi_list (pe_d (ok_units_counts T) (hr.mono (by decide)) (passes_call (takes_of rfl rfl rfl rfl) (fun _ _ _ _ h => h)) (pa_cons (pv 1) pa_nil))) (blkOk_by (own := [("rest", 3)]) (N := ["c", "modulus", "lines", "rest", "p"]) (sc := defScope s_three) (by decide +kernel)) (fun _ _ _ _ _ => (pg_name (i := 3) sc_three.nd rfl (Or.inl rfl))) (fun _ _ _ _ _ => pts_nil) (fun _ _ _ _ _ => (pv 3)) (fun _ _ _ _ _ => (pe_tup (pa_cons pe_int (pa_cons (pe_op op_mulB pe_int (pe_d (E := E0) (ok_sign_by_rest T) (hr.mono (by decide)) passL (pa_cons (pe_un un_neg (pv 0)) (pa_cons (pv 3) (pa_cons (pv 1) pa_nil))))) (pa_cons pe_int pa_nil))))))
      (pss_one (ps_ret (pe_mkd (ok_Count_init T) (hr.mono (by decide)) (passes_call (takes_of rfl rfl rfl rfl) (fun _ _ _ _ h => h)) (pa_cons (pv 1) (pa_cons (pv 2) (pa_cons (pe_dc (own := [("p", 4)]) (tk := (tVar 4)) (tv := (tOp (rI CMulB fun i j => .int (i * j)) (tVar 4) (tVar 4))) rfl sc_three.nd  (pi_list (pe_d (ok_odd_primes_of T) (hr.mono (by decide)) (passes_call (takes_of rfl rfl rfl rfl) (fun _ _ _ _ h => h)) (pa_cons (pv 0) pa_nil))) (blkOk_by (own := [("p", 4)]) (N := ["c", "modulus", "lines", "rest", "p"]) (sc := defScope s_three) (by decide +kernel)) (fun _ _ _ _ _ => (pg_name (i := 4) sc_three.nd rfl (Or.inl rfl))) (fun _ _ _ _ _ => pts_nil) (fun _ _ _ _ _ => (pv 4)) (fun _ _ _ _ _ => (pe_op op_mulB (pv 4) (pv 4)))) pa_nil))))))))), ?_⟩
    try dsimp only [cxOf]
    have B := Hv.start nt
    by_cases c0 : c = 0
    · wtm_at "rs"
      refine use_pol nt (Bd.of (by decide) (by decide)) (Bd.of (by decide) (by decide)) (Bd.of (by decide) (by decide)) fun x H' sm n hx ic => ?_
      exact q0 c0 x H' sm n hx ic
    obtain ⟨co, c4⟩ := co c0
    replace q1 := q1 c0
    clear q0
    have s0 := (co.bound (by omega) (B := (c.natAbs : Int)) (by omega) (by omega)).1
    have m1 := cond_pos s0
    wtm_at "rs"
    refine use_cond nt (by omega) (by omega) (by omega) co ?_
    wtm_at "rs"
    refine use_units m1 (by omega) fun U hU => ?_
    have B := B.newL (o := .lst ((uL (cond sf)).map V.int)) hU
    clear hU
    refine B.gen fun G B => ?_
    have ul := @uL_len (cond sf)
    wtm_at "rs"
    refine rd_dcLN (fun es G => LnAt G (thrL sf) es) (SqL.of (B.lAt (a := U) (by wtm_at "mem"))) B.nt (fun D hD e he => absurd he List.not_mem_nil) (fun D i es k G2 hD hk he sm nt2 hG2 la => ?_) fun D es G2 hD he hG2 sm nt2 la => ?_
    · have ku := List.mem_of_getElem? hk
      have bch : Bd 15 (chi sf (cond sf) k) := by
        obtain ⟨r0, r1, rc⟩ := mem_uL.mp ku
        have pm := chi_pm s0 rc
        rw [Int.emod_eq_of_lt r0 r1] at pm
        exact Bd.of (by omega) (by omega)
      wtm_at "r"
      refine ⟨rfl, ?_⟩
      wtm_at "rs"
      refine use_sbr nt2 (by omega) (by omega) (by omega) co ku ?_
      wtm_at "rs"
      rename_i t ht
      refine put_N uL_nodup (by omega) hk he (same_new ht _ _ hG2) hD (sm.trans (same_new ht)) (NoT.upd nt2 rfl) ?_
      refine LnAt.snoc (fun e he2 => ?_) ?_
      · have h1 := same_new (o := .tup [.int 4, .int (4 * chi sf (cond sf) k), .int 0]) ht _ _ (la e he2)
        exact (upd_ne (ne_of h1 (same_new ht _ _ hG2) (by intro z; cases z))).trans h1
      · exact (upd_ne (ne_of (o := .tup [.int 4, .int (4 * chi sf (cond sf) k), .int 0]) upd_same (same_new ht _ _ hG2) (by intro z; cases z))).trans upd_same
    · have B := B.got sm nt2 hD hG2
      have B := B.rig la.rig
      clear sm nt2 hD hG2 la
      refine B.gen fun G B => ?_
      wtm_at "rs"
      refine use_oddQ B.nt c0 (by omega) (by omega) fun O G2 l s2 n2 hO hO' oq => ?_
      have B := B.got s2 n2 hO hO'
      clear s2 n2 hO hO'
      refine B.gen fun G B => ?_
      have nd : l.Nodup := oq.1.imp fun h e => by omega
      have lfew := oq.2.2
      wtm_at "rs"
      refine rd_dcLV (fun p => .int (p * p)) (SqL.of (B.lAt (a := O) (by wtm_at "mem"))) (fun D2 l1 x r2 hD2 hl => ?_) fun D2 hD2 => ?_
      · have hx : x ∈ l := by rw [hl]; simp
        have few : l1.length < 100000 := by
          have := congrArg List.length hl
          rw [List.length_append] at this
          omega
        have xn : x ∉ l1 := fun z => by
          rw [hl] at nd
          exact (List.nodup_append.mp nd).2.2 x z x List.mem_cons_self rfl
        obtain ⟨opx, dv⟩ := (oq.2.1 x).mp hx
        have x3 := opx.three
        have := Int.le_of_dvd (b := (c.natAbs : Int)) (by omega) (Int.dvd_natAbs.mpr dv)
        have bx : Bd 20 x := Bd.of (by omega) (by omega)
        wtm_at "r"
        refine ⟨rfl, ?_⟩
        wtm_at "rs"
        exact put_V few xn rfl
      · have B := B.newL (o := .dK (dV (fun p => V.int (p * p)) l)) hD2
        clear hD2
        refine B.gen fun G B => ?_
        wtm_at "rs"
        refine mk_Ct (c := thrC sf l) (es := es) B.nt rfl (B.lAt (a := D) (by wtm_at "mem")) he (B.zAt (P := fun G => LnAt G (thrL sf) es) (by wtm_at "mem")) (B.lAt (a := D2) (o := .dK (dV (fun p => V.int (p * p)) l)) (by wtm_at "mem")) fun x G2 sm n2 hx ic => ?_
        exact q1 x G2 l (B.same.trans sm) n2 (B.free hx) oq ic
/-! ### solutions -/
/-- the modulus and the lines of a count of roots -/
def solM (d s : Int) : Int := if d = 0 then 1 else cond s
def solL (d s r : Int) : Int × Int × Int := (0, 0, if d = 0 then 4 else 4 + 4 * chi s (cond s) r)
def solC (a b c s : Int) (l : List Int) : Ct := ⟨solM (b * b - 4 * a * c) s, solL (b * b - 4 * a * c) s, l, howMany a b c⟩
def solP (a d : Int) : Int := if d = 0 then a else a * d
theorem solC_ok {a b c s r : Int} {l : List Int} (a0 : a ≠ 0) (co : b * b - 4 * a * c ≠ 0 → CoreOk (b * b - 4 * a * c) s r) (c4 : b * b - 4 * a * c ≠ 0 → cond s ≤ 4000) (oq : OddQ (solP a (b * b - 4 * a * c)) l) : (solC a b c s l).Ok := by
  have nd : l.Nodup := oq.1.imp fun h e => by omega
  by_cases d0 : b * b - 4 * a * c = 0
  · refine ⟨?_, ?_, fun r _ => ?_, nd, fun p op hp => ?_⟩
    · show 1 ≤ solM _ s
      rw [solM, if_pos d0]
      decide
    · show solM _ s ≤ 4000
      rw [solM, if_pos d0]
      decide
    · show Bd 60 (0 : Int) ∧ Bd 60 (0 : Int) ∧ Bd 60 (if b * b - 4 * a * c = 0 then 4 else 4 + 4 * chi s (cond s) r)
      rw [if_pos d0]
      exact ⟨Bd.of (by decide) (by decide), Bd.of (by decide) (by decide), Bd.of (by decide) (by decide)⟩
    · show p % solM _ s ∈ uL (solM _ s)
      rw [solM, if_pos d0]
      exact mem_uL.mpr ⟨Int.emod_nonneg _ (by decide), Int.emod_lt_of_pos _ (by decide), by simp⟩
  · have c0 := co d0
    have s0 := (c0.bound d0 (B := ((b * b - 4 * a * c).natAbs : Int)) (by omega) (by omega)).1
    have c1 := cond_pos s0
    have em : solM (b * b - 4 * a * c) s = cond s := if_neg d0
    refine ⟨by show 1 ≤ solM _ s; rw [em]; exact c1, by show solM _ s ≤ 4000; rw [em]; exact c4 d0, fun r hr => ?_, nd, fun p op hp => ?_⟩
    · replace hr : r ∈ uL (cond s) := by rw [← em]; exact hr
      obtain ⟨r0, r1, rc⟩ := mem_uL.mp hr
      have pm := chi_pm s0 rc
      rw [Int.emod_eq_of_lt r0 r1] at pm
      show Bd 60 (0 : Int) ∧ Bd 60 (0 : Int) ∧ Bd 60 (if b * b - 4 * a * c = 0 then 4 else 4 + 4 * chi s (cond s) r)
      rw [if_neg d0]
      exact ⟨Bd.of (by decide) (by decide), Bd.of (by decide) (by decide), Bd.of (by omega) (by omega)⟩
    · show p % solM _ s ∈ uL (solM _ s)
      rw [em]
      refine unit_of (Int.dvd_refl _) (by omega) (cond_cop op fun z => hp ((oq.2.1 p).mpr ⟨op, ?_⟩))
      rw [solP, if_neg d0]
      refine Int.dvd_mul_of_dvd_right ?_
      rw [← c0.prod]
      exact Int.dvd_mul_of_dvd_left (Int.dvd_mul_of_dvd_left z)
/-- the count is the number of roots -/
theorem solC_val {a b c s r p : Int} {l : List Int} (a0 : a ≠ 0) (co : b * b - 4 * a * c ≠ 0 → CoreOk (b * b - 4 * a * c) s r) (oq : OddQ (solP a (b * b - 4 * a * c)) l) (op : QR.OP p) : (solC a b c s l).val p = ((QR.rootsL a b c p).length : Int) := by
  have h3 := op.three
  unfold Ct.val
  by_cases hp : p ∈ l
  · rw [if_pos (show p ∈ (solC a b c s l).sp from hp)]
    exact howMany_len (by omega)
  rw [if_neg (show ¬ p ∈ (solC a b c s l).sp from hp)]
  have na : ¬ p ∣ a := fun z => hp ((oq.2.1 p).mpr ⟨op, by
    unfold solP
    split
    · exact z
    · exact Int.dvd_mul_of_dvd_left z⟩)
  obtain ⟨z, hz⟩ : ∃ z, p ∣ 2 * a * z - 1 := by
    obtain ⟨h, rfl⟩ := odd_half (by omega) op.2
    obtain ⟨j, _, hj⟩ := QR.solve (op.1.cop (x := 2 * a) fun y => (op.1.dvd_mul y).elim (fun y => by have := Int.le_of_dvd (by decide) y; omega) na) (a := 1) fun z => by
      have := Int.le_of_dvd (by decide) z
      omega
    exact ⟨(j : Int) + 1, hj⟩
  rw [QR.how_sgn op na hz]
  show trAt (solL (b * b - 4 * a * c) s (p % solM (b * b - 4 * a * c) s)) p = _
  by_cases d0 : b * b - 4 * a * c = 0
  · rw [sgn_at0 op (by rw [d0]; exact Int.zero_emod p)]
    unfold trAt solL
    rw [if_pos d0]
    simp
  · have c0 := co d0
    have s0 := (c0.bound d0 (B := ((b * b - 4 * a * c).natAbs : Int)) (by omega) (by omega)).1
    have nd : ¬ p ∣ b * b - 4 * a * c := fun z => hp ((oq.2.1 p).mpr ⟨op, by
      rw [solP, if_neg d0]
      exact Int.dvd_mul_of_dvd_right z⟩)
    rw [sgn_cor c0 op nd, ← chi_eq s0 (by omega) op.2]
    unfold trAt solL solM
    rw [if_neg d0, if_neg d0]
    generalize chi s (cond s) (p % cond s) = e
    simp only
    omega
def spSol (C CW : Addr) : Sp := fun vs H Q E => ∃ a b c s r : Int, vs = [.int a, .int b, .int c] ∧ NoT H ∧ a ≠ 0 ∧ -5000 ≤ a ∧ a ≤ 5000 ∧ -5000 ≤ b ∧ b ≤ 5000 ∧ -5000 ≤ c ∧ c ≤ 5000 ∧ (b * b - 4 * a * c ≠ 0 → CoreOk (b * b - 4 * a * c) s r) ∧
  (b * b - 4 * a * c ≠ 0 → 4000 < cond s → ∀ d H', Same H H' → NoT H' → H' d = none → E (.ref CW) (some d) (upd H' d (.xd [("modulus", .int (cond s))]))) ∧
  ((b * b - 4 * a * c ≠ 0 → cond s ≤ 4000) → ∀ x H' l, Same H H' → NoT H' → H x = none → OddQ (solP a (b * b - 4 * a * c)) l → IsCt C H' x (solC a b c s l) → Q (.ref x) H')
theorem ok_solutions (T : Txt K mg Ad) : Def P w K mg base 9 "solutions" ["a", "b", "c"] (spSol Ad.c_Count Ad.c_TooWide) := by
  refine T.d_solutions.ok sc_solutions (fun vs H Q E h => ?_) (fun f cdv A outer s H vs Q E hr h => ?_)
  · obtain ⟨a, b, c, s, r, rfl, _⟩ := h
    rfl
  · obtain ⟨a, b, c, sf, r, rfl, nt, a0, a1, a2, b1, b2, c1, c2, co, qw, q⟩ := h
    refine ⟨_, (pss_cons (ps_set (i := 3) sc_solutions.nd rfl (Or.inl rfl) (pe_op op_sub (pe_op op_mulB (pv 1) (pv 1)) (pe_op op_mulB (pe_op op_mulB pe_int (pv 0)) (pv 2))))
      (pss_cons (ps_set (i := 4) sc_solutions.nd rfl (Or.inl rfl) (pe_ifExp (pt_cmpR op_eq (pv 3) pe_int (nomark _)) pe_int (pe_d (ok_conductor T) (hr.mono (by decide)) (passes_call (takes_of rfl rfl rfl rfl) (fun _ _ _ _ h => h)) (pa_cons (pv 3) pa_nil))))
      (pss_cons (ps_if (pt_cmpR op_gt (pv 4) (pe_glob (v := .int 4000) rfl T.k_MOST_MODULUS ⟨_, rfl⟩) (nomark _)) (pss_one (ps_raise rfl (takes_of rfl rfl rfl rfl) (pmk_err (T.err_TooWide) (hr.mono (by decide)) (pa_cons (pv 4) pa_nil)))) pss_nil)
      (pss_cons (ps_set (i := 5) sc_solutions.nd rfl (Or.inl rfl) pe_dnewK)
      (pss_cons (ps_for (passes_of rfl) rfl (pi_list (pe_d (ok_units_counts T) (hr.mono (by decide)) (passes_call (takes_of rfl rfl rfl rfl) (fun _ _ _ _ h => h)) (pa_cons (pv 4) pa_nil))) (pg_name (i := 6) sc_solutions.nd rfl (Or.inl rfl)) (pss_cons (ps_dput (hu_of hr) (pv 5) (pv 6) (pe_tup (pa_cons pe_int (pa_cons pe_int (pa_cons pe_int pa_nil)))) rfl)
      (pss_one (ps_if (pt_cmpR op_ne (pv 3) pe_int (nomark _)) (pss_one (ps_dput (hu_of hr) (pv 5) (pv 6) (pe_tup (pa_cons pe_int (pa_cons pe_int (pa_cons (pe_op op_add pe_int (pe_op op_mulB pe_int (pe_d (ok_sign_by_rest T) (hr.mono (by decide)) (passes_call (takes_of rfl rfl rfl rfl) (fun _ _ _ _ h => h)) (pa_cons (pv 3) (pa_cons (pv 6) (pa_cons (pv 4) pa_nil)))))) pa_nil)))) rfl)) pss_nil))))
      (pss_cons (ps_set (i := 7) sc_solutions.nd rfl (Or.inl rfl) (pe_ifExp (pt_cmpR op_eq (pv 3) pe_int (nomark _)) (pv 0) (pe_op op_mulB (pv 0) (pv 3))))
      (pss_one (ps_ret (pe_mkd (ok_Count_init T) (hr.mono (by decide)) (passes_call (takes_of rfl rfl rfl rfl) (fun _ _ _ _ h => h)) (pa_cons (pv 4) (pa_cons (pv 5) (pa_cons (pe_dc (own := [("p", 8)]) (tk := (tVar 8)) (tv := (tCall ((spHowMany Ad.c_BadPrime)) [] E0 (tCons (tVar 0) (tCons (tVar 1) (tCons (tVar 2) (tCons (tVar 8) tNil)))))) rfl sc_solutions.nd  (pi_list (pe_d (ok_odd_primes_of T) (hr.mono (by decide)) (passes_call (takes_of rfl rfl rfl rfl) (fun _ _ _ _ h => h)) (pa_cons (pv 7) pa_nil))) (blkOk_by (own := [("p", 8)]) (N := ["a", "b", "c", "d", "modulus", "lines", "rest", "product", "p"]) (sc := defScope s_solutions) (by decide +kernel)) (fun _ _ _ _ _ => (pg_name (i := 8) sc_solutions.nd rfl (Or.inl rfl))) (fun _ _ _ _ _ => pts_nil) (fun _ _ _ _ _ => (pv 8)) (fun _ _ _ _ _ => (pe_d (E := E0) (ok_how_many T) (hr.mono (by decide)) passL (pa_cons (pv 0) (pa_cons (pv 1) (pa_cons (pv 2) (pa_cons (pv 8) pa_nil))))))) pa_nil)))))))))))), ?_⟩
    try dsimp only [cxOf]
    have B := Hv.start nt
    have sq : 0 ≤ b * b ∧ b * b ≤ 25000000 := by
      have e : b * b = (b.natAbs * b.natAbs : Nat) := by rw [Int.natCast_mul, Int.natAbs_mul_self']
      have : b.natAbs * b.natAbs ≤ 5000 * 5000 := Nat.mul_le_mul (by omega) (by omega)
      omega
    have ac : -25000000 ≤ a * c ∧ a * c ≤ 25000000 := by
      have e : ((a * c).natAbs : Int) = (a.natAbs * c.natAbs : Nat) := by rw [Int.natAbs_mul]
      have : a.natAbs * c.natAbs ≤ 5000 * 5000 := Nat.mul_le_mul (by omega) (by omega)
      omega
    have e4 : 4 * a * c = 4 * (a * c) := Int.mul_assoc ..
    have ba : Bd 15 a := Bd.of (by omega) (by omega)
    have bb : Bd 15 b := Bd.of (by omega) (by omega)
    have bc : Bd 15 c := Bd.of (by omega) (by omega)
    have hd1 : -200000000 ≤ b * b - 4 * a * c := by omega
    have hd2 : b * b - 4 * a * c ≤ 200000000 := by omega
    wtm_at "rs"
    generalize hd : b * b - 4 * a * c = d at *
    have mM : 1 ≤ solM d sf := by
      unfold solM
      split
      · decide
      · rename_i d0
        exact cond_pos ((co d0).bound d0 (B := (d.natAbs : Int)) (by omega) (by omega)).1
    by_cases d1 : d = 0
    rw [if_pos (decide_eq_true d1)]
    wtm_at "r"
    have em : (1 : Int) = solM d sf := (if_pos d1).symm
    generalize hM : (1 : Int) = M at em ⊢
    subst em
    clear hM d1
    rotate_left
    rw [if_neg (by simp [d1])]
    wtm_at "rs"
    refine use_cond nt d1 (by omega) (by omega) (co d1) ?_
    have em : cond sf = solM d sf := (if_neg d1).symm
    rw [em]
    clear em d1
    all_goals
      wtm_at "rs"
      wtm_at "i"
      · rename_i hM
        have d0 : d ≠ 0 := fun z => by
          rw [solM, if_pos z] at hM
          exact absurd hM (by decide)
        have em : solM d sf = cond sf := if_neg d0
        rw [em] at hM ⊢
        wtm_at "rs"
        exact fun x hx => qw d0 hM x _ (Same.refl _) nt hx
      rename_i hM
      have c4 : solM d sf ≤ 4000 := by omega
      wtm_at "rs"
      intro dl hdl
      have B := B.new (o := .dK (lnK [])) hdl
      clear hdl
      refine B.gen fun G B => ?_
      wtm_at "rs"
      refine use_units mM (by omega) fun U hU => ?_
      have B := B.newL (o := .lst ((uL (solM d sf)).map V.int)) hU
      clear hU
      refine B.gen fun G B => ?_
      have ul := @uL_len (solM d sf)
      wtm_at "rs"
      refine rd_forL (xs := (uL (solM d sf)).map V.int) (fun i σ G => ∃ (es : List (Int × Addr)) (v6 : Option V), σ = [some (.int a), some (.int b), some (.int c), some (.int d), some (.int (solM d sf)), some (.ref dl), v6, none, none] ∧ es.map (·.1) = (uL (solM d sf)).take i ∧ Hv noX H [(dl, .dK (lnK es))] [(U, .lst ((uL (solM d sf)).map V.int))] [fun G => LnAt G (solL d sf) es] G)
        ⟨[], _, rfl, rfl, B.rig (P := fun G => LnAt G (solL d sf) []) (fun G' _ e he => absurd he List.not_mem_nil)⟩ (fun i σ G _ ⟨_, _, _, _, B⟩ => SqL.of (B.lAt (a := U) (by wtm_at "mem"))) ?_ ?_
      · clear B
        rintro i v σ G hi ⟨es, v6, rfl, he, B⟩
        rw [List.getElem?_map] at hi
        obtain ⟨k, hk, rfl⟩ := Option.map_eq_some_iff.mp hi
        obtain ⟨tk, kn, ku⟩ := take_uL hk
        rw [← he] at kn
        have lz : LnAt G (solL d sf) es := B.zAt (P := fun G => LnAt G (solL d sf) es) (by wtm_at "mem")
        have les : es.length < 100000 := by
          have := congrArg List.length he
          rw [List.length_map, List.length_take] at this
          omega
        wtm_at "rs"
        rename_i t1 ht1
        have B := (B.newL (o := .tup [.int 0, .int 0, .int 4]) ht1)
        clear ht1
        refine B.gen fun G B => ?_
        refine rd_dputN (B.mAt (a := dl) (by wtm_at "mem")) (by omega) kn ?_
        have B := B.put (u := .dK (lnK (es ++ [(k, t1)])))
        refine B.gen fun G B => ?_
        wtm_at "rs"
        by_cases d0 : d = 0
        · rw [if_neg (by simp [d0])]
          wtm_at "rs"
          have ht : G t1 = some (.tup (trV (solL d sf k))) := by
            rw [solL, if_pos d0]
            exact B.lAt (a := t1) (o := .tup [.int 0, .int 0, .int 4]) (by wtm_at "mem")
          have l2 := ((B.zAt (P := fun G => LnAt G (solL d sf) es) (by wtm_at "mem")).snoc ht).rig
          exact ⟨es ++ [(k, t1)], _, rfl, by rw [List.map_append, he, tk]; rfl, (B.rig l2).sub (by wtm_at "vsub") (by wtm_at "vsub")⟩
        · rw [if_pos (by simp [d0])]
          wtm_at "rs"
          have em : solM d sf = cond sf := if_neg d0
          refine ⟨d, k, sf, r, by rw [em], B.nt, d0, by omega, by omega, co d0, by rw [← em]; exact ku, ?_⟩
          have bch : Bd 15 (chi sf (cond sf) k) := by
            rw [em] at ku
            obtain ⟨r0, r1, rc⟩ := mem_uL.mp ku
            have s0 := ((co d0).bound d0 (B := (d.natAbs : Int)) (by omega) (by omega)).1
            have pm := chi_pm s0 rc
            rw [Int.emod_eq_of_lt r0 r1] at pm
            exact Bd.of (by omega) (by omega)
          wtm_at "rs"
          rename_i t2 ht2
          have B := B.newL (o := .tup [.int 0, .int 0, .int (4 + 4 * chi sf (cond sf) k)]) ht2
          clear ht2
          refine B.gen fun G B => ?_
          refine rd_dputO (B.mAt (a := dl) (by wtm_at "mem")) (by omega) kn ?_
          have B := B.put (u := .dK (lnK (es ++ [(k, t2)])))
          refine B.gen fun G B => ?_
          have ht : G t2 = some (.tup (trV (solL d sf k))) := by
            rw [solL, if_neg d0]
            exact B.lAt (a := t2) (o := .tup [.int 0, .int 0, .int (4 + 4 * chi sf (cond sf) k)]) (by wtm_at "mem")
          have l2 := ((B.zAt (P := fun G => LnAt G (solL d sf) es) (by wtm_at "mem")).snoc ht).rig
          exact ⟨es ++ [(k, t2)], _, rfl, by rw [List.map_append, he, tk]; rfl, (B.rig l2).sub (by wtm_at "vsub") (by wtm_at "vsub")⟩
      · clear B
        rintro σ G ⟨es, v6, rfl, he, B⟩
        rw [List.length_map, List.take_length] at he
        have B := B.fix
        wtm_at "rs"
        have ad : -(2 ^ 50) < a * d ∧ a * d < 2 ^ 50 := by
          have e : ((a * d).natAbs : Int) = (a.natAbs * d.natAbs : Nat) := by rw [Int.natAbs_mul]
          have : a.natAbs * d.natAbs ≤ 5000 * 200000000 := Nat.mul_le_mul (by omega) (by omega)
          omega
        have bd : Bd 40 d := Bd.of (by omega) (by omega)
        by_cases d2 : d = 0
        rw [if_pos (decide_eq_true d2)]
        wtm_at "rs"
        refine use_oddQ B.nt a0 (by omega) (by omega) fun O G2 l s2 n2 hO hO' oq => ?_
        replace oq : OddQ (solP a d) l := by rwa [solP, if_pos d2]
        rotate_left
        refine use_oddQ B.nt (fun z => (Int.mul_eq_zero.mp z).elim a0 d2) (by omega) (by omega) fun O G2 l s2 n2 hO hO' oq => ?_
        replace oq : OddQ (solP a d) l := by rwa [solP, if_neg d2]
        all_goals
          have B := B.got s2 n2 hO hO'
          clear s2 n2 hO hO'
          refine B.gen fun G B => ?_
          have pb : ∀ x ∈ l, QR.OP x ∧ x < 2 ^ 55 := fun x hx => by
            obtain ⟨op, dv⟩ := (oq.2.1 x).mp hx
            have h3 := op.three
            refine ⟨op, ?_⟩
            by_cases d3 : d = 0
            · rw [solP, if_pos d3] at dv
              have := Int.le_of_dvd (b := (a.natAbs : Int)) (by omega) (Int.dvd_natAbs.mpr dv)
              omega
            · rw [solP, if_neg d3] at dv
              have n0 : a * d ≠ 0 := fun z => (Int.mul_eq_zero.mp z).elim a0 d3
              have := Int.le_of_dvd (b := ((a * d).natAbs : Int)) (by omega) (Int.dvd_natAbs.mpr dv)
              omega
          have nd : l.Nodup := oq.1.imp fun h e => by omega
          have lfew := oq.2.2
          wtm_at "rs"
          refine rd_dcLV (fun p => .int (howMany a b c p)) (SqL.of (B.lAt (a := O) (by wtm_at "mem"))) (fun D l1 x r2 hD hl => ?_) fun D hD => ?_
          · have hx : x ∈ l := by rw [hl]; simp
            obtain ⟨opx, px⟩ := pb x hx
            have few : l1.length < 100000 := by
              have := congrArg List.length hl
              rw [List.length_append] at this
              omega
            have xn : x ∉ l1 := fun z => by
              rw [hl] at nd
              exact (List.nodup_append.mp nd).2.2 x z x List.mem_cons_self rfl
            have nt2 : NoT (upd G D (.dK (dV (fun p => V.int (howMany a b c p)) l1))) := NoT.upd B.nt rfl
            wtm_at "r"
            refine ⟨rfl, ?_⟩
            wtm_at "rs"
            refine use_how_many opx (by omega) (ba.mono (by decide)) (bb.mono (by decide)) (bc.mono (by decide)) nt2 ?_
            exact put_V few xn rfl
          · have B := B.newL (o := .dK (dV (fun p => V.int (howMany a b c p)) l)) hD
            clear hD
            refine B.gen fun G B => ?_
            have lz := B.zAt (P := fun G => LnAt G (solL d sf) es) (by wtm_at "mem")
            wtm_at "rs"
            refine mk_Ct (c := solC a b c sf l) (es := es) B.nt (by show _ = solM (b * b - 4 * a * c) sf; rw [hd]) (B.lAt (a := dl) (by wtm_at "mem")) (by show _ = uL (solM (b * b - 4 * a * c) sf); rw [hd]; exact he) (by show LnAt _ (solL (b * b - 4 * a * c) sf) es; rw [hd]; exact lz) (B.lAt (a := D) (o := .dK (dV (fun p => V.int (howMany a b c p)) l)) (by wtm_at "mem")) fun x G2 sm n2 hx ic => ?_
            exact q (fun z => by rw [solM, if_neg z] at c4; exact c4) x G2 l (B.same.trans sm) n2 (B.free hx) oq ic
/-! ### neighbours -/
def neiL (s t r : Int) : Int × Int × Int := if r = 1 then (0, 1, -2 - s - t - s * t) else (0, 1, -2 + s - t - s * t)
def neiC (s t : Int) : Ct := ⟨4, neiL s t, [], fun _ => 0⟩
theorem uL_4 : uL 4 = [1, 3] := by decide +kernel
theorem neiC_ok {s t : Int} (hs : s = 1 ∨ s = -1) (ht : t = 1 ∨ t = -1) : (neiC s t).Ok := by
  refine ⟨by show (1 : Int) ≤ 4; decide, by show (4 : Int) ≤ 4000; decide, fun r _ => ?_, List.nodup_nil, fun p op _ => ?_⟩
  · show Bd 60 (neiL s t r).1 ∧ Bd 60 (neiL s t r).2.1 ∧ Bd 60 (neiL s t r).2.2
    unfold neiL
    rcases hs with rfl | rfl <;> rcases ht with rfl | rfl <;> split <;> exact ⟨Bd.of (by decide) (by decide), Bd.of (by decide) (by decide), Bd.of (by decide) (by decide)⟩
  · show p % 4 ∈ uL 4
    rw [uL_4]
    have := op.2
    have : p % 4 = 1 ∨ p % 4 = 3 := by omega
    rcases this with e | e <;> rw [e] <;> decide
theorem neiC_val {s t p : Int} (op : QR.OP p) (hs : s = 1 ∨ s = -1) (ht : t = 1 ∨ t = -1) : (neiC s t).val p = (p - 2 - s * (2 - p % 4) - t - s * t) / 4 := by
  have o2 := op.2
  unfold Ct.val
  rw [if_neg (show ¬ p ∈ (neiC s t).sp from List.not_mem_nil)]
  show trAt (neiL s t (p % 4)) p = _
  unfold trAt neiL
  have : p % 4 = 1 ∨ p % 4 = 3 := by omega
  rcases this with e | e <;> rw [e] <;> rcases hs with rfl | rfl <;> rcases ht with rfl | rfl <;> simp <;> omega
def spNei (C : Addr) : Sp := fun vs H Q E => ∃ s t : Int, vs = [.int s, .int t] ∧ NoT H ∧ (s = 1 ∨ s = -1) ∧ (t = 1 ∨ t = -1) ∧ ∀ x H', Same H H' → NoT H' → H x = none → IsCt C H' x (neiC s t) → Q (.ref x) H'
theorem use_nei {C : Addr} {s t : Int} {H : Hp} {Q : VK} {E : XK} (nt : NoT H) (hs : s = 1 ∨ s = -1) (ht : t = 1 ∨ t = -1) (q : ∀ x H', Same H H' → NoT H' → H x = none → IsCt C H' x (neiC s t) → Q (.ref x) H') : spNei C [.int s, .int t] H Q E := ⟨s, t, rfl, nt, hs, ht, q⟩
theorem merge2 {v w : V} : mergeK [] [((Sum.inl 1 : Key), v), (.inl 3, w)] = [((Sum.inl 1 : Key), v), (.inl 3, w)] := rfl
theorem ok_neighbours (T : Txt K mg Ad) : Def P w K mg base 3 "neighbours" ["s", "t"] (spNei Ad.c_Count) := by
  refine T.d_neighbours.ok sc_neighbours (fun vs H Q E h => ?_) (fun f cdv A outer s H vs Q E hr h => ?_)
  · obtain ⟨a, b, rfl, _⟩ := h
    rfl
  · obtain ⟨sg, tg, rfl, nt, hs, ht, q⟩ := h
    refine ⟨_, (pss_one (ps_ret (pe_mkd (ok_Count_init T) (hr.mono (by decide)) (passes_call (takes_of rfl rfl rfl rfl) (fun _ _ _ _ h => h)) (pa_cons pe_int (pa_cons (pe_disp (pps_cons pe_int (pe_tup (pa_cons pe_int (pa_cons pe_int (pa_cons (pe_op op_sub (pe_op op_sub (pe_op op_sub (pe_un un_neg pe_int) (pv 0)) (pv 1)) (pe_op op_mulB (pv 0) (pv 1))) pa_nil)))) (pps_cons pe_int (pe_tup (pa_cons pe_int (pa_cons pe_int (pa_cons (pe_op op_sub (pe_op op_sub (pe_op op_add (pe_un un_neg pe_int) (pv 0)) (pv 1)) (pe_op op_mulB (pv 0) (pv 1))) pa_nil)))) pps_nil)) (by rfl) (by rfl) (fun z => by cases z) (by decide)) (pa_cons pe_dnewK pa_nil)))))), ?_⟩
    try dsimp only [cxOf]
    have B := Hv.start nt
    have b1 : Bd 10 sg := by rcases hs with rfl | rfl <;> exact Bd.of (by decide) (by decide)
    have b2 : Bd 10 tg := by rcases ht with rfl | rfl <;> exact Bd.of (by decide) (by decide)
    wtm_at "rs"
    intro dl hdl
    have B := B.new (o := .dK []) hdl
    refine B.gen fun G B => ?_
    wtm_at "rs"
    rename_i t1 ht1 t2 ht2
    have B := (B.newL (o := .tup [.int 0, .int 1, .int (-2 - sg - tg - sg * tg)]) ht1).newL (o := .tup [.int 0, .int 1, .int (-2 + sg - tg - sg * tg)]) ht2
    refine B.gen fun G B => ?_
    refine ⟨B.mAt (a := dl) (by wtm_at "mem"), [(.inl 1, .ref t1), (.inl 3, .ref t2)], rfl, Nat.le_of_ble_eq_true rfl, ?_⟩
    rw [merge2]
    have B := (B.put (u := .dK (lnK [(1, t1), (3, t2)]))).fix
    refine B.gen fun G B => ?_
    wtm_at "rs"
    intro dp hdp
    have B := B.newL (o := .dK (dV (fun _ => V.int 0) [])) hdp
    refine B.gen fun G B => ?_
    wtm_at "rs"
    refine mk_Ct (c := neiC sg tg) (es := [(1, t1), (3, t2)]) B.nt rfl (B.lAt (a := dl) (by wtm_at "mem")) uL_4.symm (fun e he => by
      rcases List.mem_cons.mp he with rfl | he
      · exact B.lAt (a := t1) (o := .tup [.int 0, .int 1, .int (-2 - sg - tg - sg * tg)]) (by wtm_at "mem")
      · rw [List.mem_singleton.mp he]
        exact B.lAt (a := t2) (o := .tup [.int 0, .int 1, .int (-2 + sg - tg - sg * tg)]) (by wtm_at "mem")) (B.lAt (a := dp) (o := .dK (dV (fun _ => V.int 0) [])) (by wtm_at "mem")) fun x G2 sm n2 hx ic => ?_
    exact q x G2 (B.same.trans sm) n2 (B.free hx) ic
/-! ### Primes.__contains__ -/
def spPIn (C : Addr) : Sp := fun vs H Q E => ∃ (q : Addr) (m p : Int) (R S : List Int), vs = [.ref q, .int p] ∧ IsP C H q m R S ∧ 1 ≤ m ∧ 1 ≤ p ∧ Q (.bl (decide (memP m R S p))) H
theorem memP_ne {m p : Int} {R S : List Int} : decide (memP m R S p) = !decide (V.bl (decide (toldP m R p)) = V.bl (decide (p ∈ S))) := by
  unfold memP
  by_cases a : toldP m R p <;> by_cases b : p ∈ S <;> simp [a, b]
theorem use_inP {C y : Addr} {m t : Int} {R S : List Int} {H : Hp} {Q : VK} {E : XK} (ip : IsP C H y m R S) (m1 : 1 ≤ m) (t1 : 1 ≤ t) (q : Q (.bl (decide (memP m R S t))) H) : rInO C (spPIn C) E (.int t) (.ref y) H Q := by
  obtain ⟨dx, tR, tS, a, b, c⟩ := ip
  exact rd_inO a ⟨y, m, t, R, S, rfl, ⟨dx, tR, tS, a, b, c⟩, m1, t1, _, rfl, q⟩
theorem ok_Primes_contains (T : Txt K mg Ad) : MDef P w K mg base 2 Ad.c_Primes "__contains__" ["self", "p"] (spPIn Ad.c_Primes) := by
  refine T.d_Primes_contains.ok sc_Primes_contains (fun vs H Q E h => ?_) (fun f cdv A outer s H vs Q E hr h => ?_)
  · obtain ⟨q, m, p, R, S, rfl, _⟩ := h
    rfl
  · obtain ⟨q, m, p, R, S, rfl, ⟨dx, tR, tS, hq, hR, hS⟩, m1, p1, qo⟩ := h
    refine ⟨_, (pss_one (ps_ret (pe_cmpR op_ne (pe_d (ok_told_by T) (hr.mono (by decide)) (passes_call (takes_of rfl rfl rfl rfl) (fun _ _ _ _ h => h)) (pa_cons (pe_fldC (pv 0) T.cl_Primes T.nf_Primes_modulus) (pa_cons (pe_fldC (pv 0) T.cl_Primes T.nf_Primes_rests) (pa_cons (pv 1) pa_nil)))) (pe_cmpR op_in_seq (pv 1) (pe_fldC (pv 0) T.cl_Primes T.nf_Primes_singles) (by rfl)) (nomark _)))), ?_⟩
    try dsimp only [cxOf]
    wtm_at "rs"
    refine use_told (.inr (.inr (SqT.of hR))) m1 p1 ?_
    wtm_at "rs"
    refine rd_inT (SqT.of hS) rfl flat_ints ?_
    rw [inV_ints]
    refine ⟨rfl, ?_⟩
    rw [← memP_ne]
    exact qo
/-! ### indicator -/
/-- 1 for the primes of a set, 0 for the others -/
def indL (R : List Int) (r : Int) : Int × Int × Int := if r ∈ R then (0, 0, 4) else (0, 0, 0)
def indC (m : Int) (R S l : List Int) : Ct := ⟨m, indL R, S.foldl keyAdd l, fun p => if memP m R S p then 1 else 0⟩
def spInd (C CP : Addr) : Sp := fun vs H Q _ => ∃ (q : Addr) (m : Int) (R S : List Int), vs = [.ref q] ∧ NoT H ∧ IsP CP H q m R S ∧ SetOk m R S ∧ ∀ z H' l, Same H H' → NoT H' → H z = none → OddQ m l → IsCt C H' z (indC m R S l) → Q (.ref z) H'
theorem ok_indicator (T : Txt K mg Ad) : Def P w K mg base 3 "indicator" ["found"] (spInd Ad.c_Count Ad.c_Primes) := by
  refine T.d_indicator.ok sc_indicator (fun vs H Q E h => ?_) (fun f cdv A outer s H vs Q E hr h => ?_)
  · obtain ⟨q, m, R, S, rfl, _⟩ := h
    rfl
  · obtain ⟨x, m, R, S, rfl, nt, ip, so, q⟩ := h
    refine ⟨_, (pss_cons (ps_setDc (i := 2) (own := [("rest", 1)]) (tk := (tVar 1)) (tv := (tTup (tCons (tC (.int 0)) (tCons (tC (.int 0)) (tCons (tC (.int 0)) tNil))))) rfl sc_indicator.nd rfl rfl (sw_dc rfl rfl rfl (by decide +kernel)) (pi_list (pe_d (ok_units_counts T) (hr.mono (by decide)) (passes_call (takes_of rfl rfl rfl rfl) (fun _ _ _ _ h => h)) (pa_cons (pe_fldC (pv 0) T.cl_Primes T.nf_Primes_modulus) pa_nil))) (blkOk_by (own := [("rest", 1)]) (N := ["found", "rest", "lines", "p", "special"]) (sc := defScope s_indicator) (by decide +kernel)) (fun _ _ _ _ _ => (pg_name (i := 1) sc_indicator.nd rfl (Or.inl rfl))) (fun _ _ _ _ _ => pts_nil) (fun _ _ _ _ _ => (pv 1)) (fun _ _ _ _ _ => (pe_tup (pa_cons pe_int (pa_cons pe_int (pa_cons pe_int pa_nil))))))
      (pss_cons (ps_for (passes_of rfl) rfl (pi_tup (pe_fldC (pv 0) T.cl_Primes T.nf_Primes_rests)) (pg_name (i := 1) sc_indicator.nd rfl (Or.inl rfl)) (pss_one (ps_dput (hu_of hr) (pv 2) (pv 1) (pe_tup (pa_cons pe_int (pa_cons pe_int (pa_cons pe_int pa_nil)))) rfl)))
      (pss_cons (ps_setDc (i := 4) (own := [("p", 3)]) (tk := (tVar 3)) (tv := (tCB rInt1 (tCons (tOp (rInO Ad.c_Primes ((spPIn Ad.c_Primes)) E0) (tVar 3) (tVar 0)) tNil))) rfl sc_indicator.nd rfl rfl (sw_dc rfl rfl rfl (by decide +kernel)) (pi_list (pe_d (ok_odd_primes_of T) (hr.mono (by decide)) (passes_call (takes_of rfl rfl rfl rfl) (fun _ _ _ _ h => h)) (pa_cons (pe_fldC (pv 0) T.cl_Primes T.nf_Primes_modulus) pa_nil))) (blkOk_by (own := [("p", 3)]) (N := ["found", "rest", "lines", "p", "special"]) (sc := defScope s_indicator) (by decide +kernel)) (fun _ _ _ _ _ => (pg_name (i := 3) sc_indicator.nd rfl (Or.inl rfl))) (fun _ _ _ _ _ => pts_nil) (fun _ _ _ _ _ => (pv 3)) (fun _ _ _ _ _ => (pe_callTy c_int1 (by rfl) T.b_int (by decide +kernel) (pa_cons (pe_cmpR (op_inO (E := E0) (ok_Primes_contains T) (hr.mono (by decide)) passL) (pv 3) (pv 0) (by rfl)) pa_nil))))
      (pss_cons (ps_for (passes_of rfl) rfl (pi_tup (pe_fldC (pv 0) T.cl_Primes T.nf_Primes_singles)) (pg_name (i := 3) sc_indicator.nd rfl (Or.inl rfl)) (pss_one (ps_dput (hu_of hr) (pv 4) (pv 3) (pe_callTy c_int1 (by rfl) T.b_int (by decide +kernel) (pa_cons (pe_cmpR (op_inO (ok_Primes_contains T) (hr.mono (by decide)) (passes_call (takes_of rfl rfl rfl rfl) (fun _ _ _ _ h => h))) (pv 3) (pv 0) (by rfl)) pa_nil)) rfl)))
      (pss_one (ps_ret (pe_mkd (ok_Count_init T) (hr.mono (by decide)) (passes_call (takes_of rfl rfl rfl rfl) (fun _ _ _ _ h => h)) (pa_cons (pe_fldC (pv 0) T.cl_Primes T.nf_Primes_modulus) (pa_cons (pv 2) (pa_cons (pv 4) pa_nil)))))))))), ?_⟩
    try dsimp only [cxOf]
    have B := Hv.start nt
    obtain ⟨dx, tR, tS, h1, h2, h3⟩ := id ip
    have m1 : 1 ≤ m := so.least.desc.pos
    have m4 := so.le
    have ul := @uL_len m
    wtm_at "rs"
    refine use_units m1 (by omega) fun U hU => ?_
    have B := B.newL (o := .lst ((uL m).map V.int)) hU
    clear hU
    refine B.gen fun G B => ?_
    wtm_at "rs"
    refine rd_dcLN (fun es G => LnAt G (fun _ => (0, 0, 0)) es) (SqL.of (B.lAt (a := U) (by wtm_at "mem"))) B.nt (fun D hD e he => absurd he List.not_mem_nil) (fun D i es k G2 hD hk he sm nt2 hG2 la => ?_) fun D es G2 hD he hG2 sm nt2 la => ?_
    · wtm_at "r"
      refine ⟨rfl, ?_⟩
      wtm_at "rs"
      rename_i t ht
      refine put_N uL_nodup (by omega) hk he (same_new ht _ _ hG2) hD (sm.trans (same_new ht)) (NoT.upd nt2 rfl) ?_
      refine LnAt.snoc (fun e he2 => ?_) ?_
      · have h1 := same_new (o := .tup [.int 0, .int 0, .int 0]) ht _ _ (la e he2)
        exact (upd_ne (ne_of h1 (same_new ht _ _ hG2) (by intro z; cases z))).trans h1
      · exact (upd_ne (ne_of (o := .tup [.int 0, .int 0, .int 0]) upd_same (same_new ht _ _ hG2) (by intro z; cases z))).trans upd_same
    have B := (B.gotM sm nt2 hD hG2).sub (L' := []) (fun _ h => absurd h List.not_mem_nil) (fun _ h => h)
    have B := B.rig la.rig
    clear sm nt2 hD hG2 la
    refine B.gen fun G B => ?_
    have x1 := B.oAt h1
    have x2 := B.oAt h2
    wtm_at "rs"
    have rU : ∀ k ∈ R, k ∈ uL m := fun k hk => mem_uL.mpr (so.least.desc.rests k hk)
    have e0 : (fun _ => ((0, 0, 0) : Int × Int × Int)) = indL (R.take 0) := by
      funext r
      simp [indL]
    rw [e0] at B
    clear x1 x2 e0
    have les : es.length ≤ 4000 := by
      have := congrArg List.length he
      rw [List.length_map] at this
      omega
    refine rd_forT (xs := R.map V.int) (fun i σ G => ∃ (es : List (Int × Addr)) (v1 : Option V), σ = [some (.ref x), v1, some (.ref D), none, none] ∧ es.map (·.1) = uL m ∧ Hv noX H [(D, .dK (lnK es))] [] [fun G => LnAt G (indL (R.take i)) es] G)
      ⟨es, _, rfl, he, B⟩ (fun i σ G _ ⟨_, _, _, _, B⟩ => SqT.of (B.oAt h2)) ?_ ?_
    · clear B he les
      rintro i v σ G hi ⟨es, v1, rfl, he, B⟩
      rw [List.getElem?_map] at hi
      obtain ⟨k, hk, rfl⟩ := Option.map_eq_some_iff.mp hi
      have kk : k ∈ es.map (·.1) := by rw [he]; exact rU k (List.mem_of_getElem? hk)
      have les : es.length ≤ 4000 := by
        have := congrArg List.length he
        rw [List.length_map] at this
        omega
      wtm_at "rs"
      rename_i t ht
      have B := B.newL (o := .tup [.int 0, .int 0, .int 4]) ht
      clear ht
      refine B.gen fun G B => ?_
      refine rd_dputS (B.mAt (a := D) (by wtm_at "mem")) (by omega) kk ?_
      have B := B.put (u := .dK (lnK (lnSet es k t)))
      refine B.gen fun G B => ?_
      have la := B.zAt (P := fun G => LnAt G (indL (R.take i)) es) (by wtm_at "mem")
      have lt := B.lAt (a := t) (o := .tup [.int 0, .int 0, .int 4]) (by wtm_at "mem")
      have er : R.take (i + 1) = R.take i ++ [k] := by rw [List.take_add_one, hk]; rfl
      have lb : LnAt G (indL (R.take (i + 1))) (lnSet es k t) := fun e he2 => by
        obtain ⟨e2, h2, rfl⟩ := List.mem_map.mp he2
        by_cases z : e2.1 = k
        · rw [if_pos z]
          show G t = some (.tup (trV (indL (R.take (i + 1)) e2.1)))
          rw [indL, if_pos (by rw [er, z]; simp)]
          exact lt
        · rw [if_neg z, la e2 h2]
          have : indL (R.take (i + 1)) e2.1 = indL (R.take i) e2.1 := by
            unfold indL
            rw [er]
            simp [z]
          rw [this]
      exact ⟨_, _, rfl, by rw [lnSet_keys]; exact he, (B.rig lb.rig).sub (by wtm_at "vsub") (by wtm_at "vsub")⟩
    clear B he les
    rintro σ G ⟨es, v1, rfl, he, B⟩
    rw [List.length_map, List.take_length] at B
    have B := B.fix
    have x1 := B.oAt h1
    wtm_at "rs"
    refine use_oddQ B.nt (by omega) (by omega) (by omega) fun O G2 l s2 n2 hO hO' oq => ?_
    have B := B.got s2 n2 hO hO'
    clear s2 n2 hO hO' x1
    refine B.gen fun G B => ?_
    have nd : l.Nodup := oq.1.imp fun h e => by omega
    have lfew := oq.2.2
    wtm_at "rs"
    refine rd_dcLV (fun p => .int (if memP m R S p then 1 else 0)) (SqL.of (B.lAt (a := O) (by wtm_at "mem"))) (fun D2 l1 y r2 hD2 hl => ?_) fun D2 hD2 => ?_
    · have hy : y ∈ l := by rw [hl]; simp
      have few : l1.length < 100000 := by
        have := congrArg List.length hl
        rw [List.length_append] at this
        omega
      have yn : y ∉ l1 := fun z => by
        rw [hl] at nd
        exact (List.nodup_append.mp nd).2.2 y z y List.mem_cons_self rfl
      have y3 := ((oq.2.1 y).mp hy).1.three
      wtm_at "r"
      refine ⟨rfl, ?_⟩
      wtm_at "rs"
      refine use_inP ((ip.mono B.same).mono (same_new hD2)) m1 (by omega) ?_
      wtm_at "rs"
      exact put_V few yn (by simp only [decide_eq_true_eq])
    have B := B.new (o := .dK (dV (fun p => V.int (if memP m R S p then 1 else 0)) l)) hD2
    clear hD2
    have B := B.sub (L' := [(D, .dK (lnK es))]) (by wtm_at "vsub") (fun _ h => h)
    refine B.gen fun G B => ?_
    have x1 := B.oAt h1
    have x3 := B.oAt h3
    wtm_at "rs"
    refine rd_forT (xs := S.map V.int) (fun i σ G => ∃ v3 : Option V, σ = [some (.ref x), v1, some (.ref D), v3, some (.ref D2)] ∧ Hv noX H [(D2, .dK (dV (fun p => V.int (if memP m R S p then 1 else 0)) ((S.take i).foldl keyAdd l)))] [(D, .dK (lnK es))] [fun G => LnAt G (indL R) es] G)
      ⟨_, rfl, B⟩ (fun i σ G _ ⟨_, _, B⟩ => SqT.of (B.oAt h3)) ?_ ?_
    · clear B x1 x3
      rintro i v σ G hi ⟨v3, rfl, B⟩
      rw [List.getElem?_map] at hi
      obtain ⟨y, hk, rfl⟩ := Option.map_eq_some_iff.mp hi
      have y3 := (so.least.desc.singles y (List.mem_of_getElem? hk)).three
      have er : (S.take (i + 1)).foldl keyAdd l = keyAdd ((S.take i).foldl keyAdd l) y := by
        rw [List.take_add_one, hk]
        exact List.foldl_append
      have fl : ∀ (s : List Int) (k : List Int), (s.foldl keyAdd k).length ≤ s.length + k.length := fun s => by
        induction s with
        | nil => intro k; simp
        | cons a s ih =>
          intro k
          have := ih (keyAdd k a)
          have := keyAdd_len (l := k) (p := a)
          rw [List.foldl_cons, List.length_cons]
          omega
      have few : ((S.take i).foldl keyAdd l).length < 1000000 := by
        have := fl (S.take i) l
        have := so.few
        rw [List.length_take] at *
        omega
      wtm_at "rs"
      refine use_inP (ip.mono B.same) m1 (by omega) ?_
      wtm_at "rs"
      refine rd_dputV (B.mAt (a := D2) (by wtm_at "mem")) few (by simp only [decide_eq_true_eq]) ?_
      rw [← er]
      exact ⟨_, rfl, B.put⟩
    clear B x1 x3
    rintro σ G ⟨v3, rfl, B⟩
    rw [List.length_map, List.take_length] at B
    have B := B.fix
    have x1 := B.oAt h1
    wtm_at "rs"
    refine mk_Ct (c := indC m R S l) (es := es) B.nt rfl (B.lAt (a := D) (by wtm_at "mem")) he (B.zAt (P := fun G => LnAt G (indL R) es) (by wtm_at "mem")) (B.lAt (a := D2) (o := .dK (dV (fun p => V.int (if memP m R S p then 1 else 0)) (S.foldl keyAdd l))) (by wtm_at "mem")) fun z G2 sm n2 hz kc => ?_
    exact q z G2 l (B.same.trans sm) n2 (B.free hz) oq kc
/-! ### _law_count -/
/-- a count of fair size -/
structure Gd (c : Ct) (n : Nat) : Prop where
  ok : c.Ok
  bl : c.Bl n
  ex : c.Ex
  sp : ∀ p ∈ c.sp, QR.OP p ∧ p < 2 ^ 30
  few : c.sp.length ≤ 20 * n
  bv : ∀ p, QR.OP p → p < 2 ^ 30 → Bd (100 + n) (c.val p)
theorem Ct.Bl.mono {c : Ct} {n m : Nat} (h : c.Bl n) (le : n ≤ m) : c.Bl m := fun r hr => ⟨(h r hr).1.mono le, (h r hr).2.1.mono le, (h r hr).2.2.mono le⟩
theorem Gd.mono {c : Ct} {n m : Nat} (h : Gd c n) (le : n ≤ m) : Gd c m := ⟨h.ok, h.bl.mono le, h.ex, h.sp, Nat.le_trans h.few (Nat.mul_le_mul_left _ le), fun p op pb => (h.bv p op pb).mono (by omega)⟩
theorem cmb_ex {f : Int} {c d : Ct} (ec : c.Ex) (ed : d.Ex) : (cmbC f c d).Ex := fun p op hp => by
  obtain ⟨x, hx⟩ := ec p op fun z => hp (mem_keysOf.mpr (List.mem_append_left _ z))
  obtain ⟨y, hy⟩ := ed p op fun z => hp (mem_keysOf.mpr (List.mem_append_right _ z))
  have e : (cmbC f c d).ln (p % (cmbC f c d).m) = trC f (c.ln (p % c.m)) (d.ln (p % d.m)) := by
    show trC f (c.ln (p % ((Int.lcm c.m d.m : Nat) : Int) % c.m)) (d.ln (p % ((Int.lcm c.m d.m : Nat) : Int) % d.m)) = _
    rw [Int.emod_emod_of_dvd _ lcm_l, Int.emod_emod_of_dvd _ lcm_r]
  rw [e]
  refine ⟨x + f * y, ?_⟩
  rw [show 4 * (x + f * y) = 4 * x + f * (4 * y) by grind, ← hx, ← hy]
  unfold trC
  grind
theorem Gd.cmb {f : Int} {c d : Ct} {n : Nat} (hf : f = 1 ∨ f = -1) (hc : Gd c n) (hd : Gd d n) (n4 : 4 ≤ n) (n5 : n ≤ 40) (le : ((Int.lcm c.m d.m : Nat) : Int) ≤ 4000) : Gd (cmbC f c d) (2 * n) := by
  have bf : Bd 2 f := by rcases hf with rfl | rfl <;> exact Bd.of (by decide) (by decide)
  refine ⟨cmb_ok hf hc.ok hd.ok (hc.bl.mono (by omega)) (hd.bl.mono (by omega)) le, (cmb_bl hf hc.ok hd.ok hc.bl hd.bl).mono (by omega), cmb_ex hc.ex hd.ex, fun p hp => ?_, ?_, fun p op pb => ?_⟩
  · rcases List.mem_append.mp (mem_keysOf.mp hp) with z | z
    · exact hc.sp p z
    · exact hd.sp p z
  · have := keysOf_len (l := c.sp ++ d.sp)
    rw [List.length_append] at this
    have h1 := hc.few
    have h2 := hd.few
    show (keysOf (c.sp ++ d.sp)).length ≤ _
    omega
  · rw [cmb_val hc.ex hd.ex op]
    exact (((hc.bv p op pb).mono (show 100 + n ≤ 2 + (100 + n) by omega)).add (bf.mul (hd.bv p op pb))).mono (by omega)
theorem bd_op {p : Int} (op : QR.OP p) (pb : p < 2 ^ 30) : Bd 30 p := by
  have := op.three
  exact Bd.of (by omega) (by omega)
theorem b_lt {n : Nat} {x : Int} (b : Int) (h1 : -b ≤ x) (h2 : x ≤ b) (hb : b < 2 ^ n) : Bd n x := Bd.of (by omega) (by omega)
theorem gd_pol {a b c : Int} (ha : Bd 7 a) (hb : Bd 7 b) (hc : Bd 7 c) : Gd (polC a b c) 10 := by
  have b4 : Bd 3 (4 : Int) := Bd.of (by decide) (by decide)
  refine ⟨polC_ok (ha.mono (by decide)) (hb.mono (by decide)) (hc.mono (by decide)), fun r _ => ⟨b4.mul ha, b4.mul hb, b4.mul hc⟩, fun p _ _ => ⟨a * p * p + b * p + c, ?_⟩, fun p hp => absurd hp List.not_mem_nil, Nat.zero_le _, fun p op pb => ?_⟩
  · show 4 * a * p * p + 4 * b * p + 4 * c = _
    grind
  · have bp := bd_op op pb
    rw [polC_val]
    exact (((ha.mul bp).mul bp).add (hb.mul bp) |>.add hc).mono (by decide)
theorem conN_b {a b c p : Int} (h : 0 ≤ p) : 0 ≤ conN a b c p ∧ conN a b c p ≤ p * p := by
  have i01 : ∀ (P : Prop) [Decidable P], 0 ≤ ind P ∧ ind P ≤ 1 := fun P _ => by
    unfold ind
    split <;> omega
  have go : ∀ (f : Nat → Int) (B : Int) (n : Nat), (∀ i, 0 ≤ f i ∧ f i ≤ B) → 0 ≤ QR.Sm n f ∧ QR.Sm n f ≤ n * B := fun f B n hf => by
    induction n with
    | zero => exact ⟨Int.le_refl _, by rw [QR.Sm]; simp⟩
    | succ n ih =>
      have := hf n
      rw [QR.Sm]
      rw [show (((n + 1 : Nat)) : Int) * B = n * B + B by push_cast; grind]
      omega
  have h2 : ∀ x : Int, 0 ≤ SP p (fun y => ind ((a * x * x + b * y * y - c) % p = 0)) ∧ SP p (fun y => ind ((a * x * x + b * y * y - c) % p = 0)) ≤ p := fun x => by
    have := go (fun i => ind ((a * x * x + b * (i : Int) * (i : Int) - c) % p = 0)) 1 p.toNat fun i => i01 _
    show 0 ≤ QR.Sm p.toNat (fun i => ind ((a * x * x + b * (i : Int) * (i : Int) - c) % p = 0)) ∧ QR.Sm p.toNat (fun i => ind ((a * x * x + b * (i : Int) * (i : Int) - c) % p = 0)) ≤ p
    omega
  have := go (fun i => SP p (fun y => ind ((a * (i : Int) * (i : Int) + b * y * y - c) % p = 0))) p p.toNat fun i => h2 _
  rw [show ((p.toNat : Nat) : Int) = p by omega] at this
  exact this
theorem gd_con {a b c s r : Int} {l : List Int} (a0 : a * b ≠ 0) (ab : -36 ≤ a * b ∧ a * b ≤ 36) (cb : -6 ≤ c ∧ c ≤ 6) (co : CoreOk (-(a * b)) s r) (c4 : cond s ≤ 4000) (oq : OddQ (conP a b c) l) : Gd (conC a b c s l) 10 := by
  have s0 := (co.bound (by omega) (B := ((a * b).natAbs : Int)) (by omega) (by omega)).1
  have pm : ∀ r ∈ uL (cond s), chi s (cond s) r = 1 ∨ chi s (cond s) r = -1 := fun r hr => by
    obtain ⟨r0, r1, rc⟩ := mem_uL.mp hr
    have := chi_pm s0 rc
    rwa [Int.emod_eq_of_lt r0 r1] at this
  refine ⟨conC_ok a0 co c4 oq, fun r hr => ?_, fun p op hp => ?_, fun p hp => ?_, ?_, fun p op pb => ?_⟩
  · have := pm r hr
    show Bd 10 (conL c s r).1 ∧ Bd 10 (conL c s r).2.1 ∧ Bd 10 (conL c s r).2.2
    unfold conL
    split
    · exact ⟨b_lt 100 (by dsimp only; omega) (by dsimp only; omega) (by decide), b_lt 100 (by dsimp only; omega) (by dsimp only; omega) (by decide), b_lt 100 (by dsimp only; omega) (by dsimp only; omega) (by decide)⟩
    · exact ⟨b_lt 100 (by dsimp only; omega) (by dsimp only; omega) (by decide), b_lt 100 (by dsimp only; omega) (by dsimp only; omega) (by decide), b_lt 100 (by dsimp only; omega) (by dsimp only; omega) (by decide)⟩
  · show 4 ∣ (conL c s (p % cond s)).1 * p * p + (conL c s (p % cond s)).2.1 * p + (conL c s (p % cond s)).2.2
    unfold conL
    generalize chi s (cond s) (p % cond s) = e
    split
    · exact ⟨p + e * p - e, by dsimp only; grind⟩
    · exact ⟨p - e, by dsimp only; grind⟩
  · obtain ⟨op, d⟩ := (oq.2.1 p).mp hp
    refine ⟨op, ?_⟩
    have go : ∀ x : Int, -1000 ≤ x → x ≤ 1000 → x ≠ 0 → p ∣ x → p < 2 ^ 30 := fun x h1 h2 h0 d => by
      have := Int.le_of_dvd (show 0 < (x.natAbs : Int) by omega) (Int.dvd_natAbs.mpr d)
      omega
    unfold conP at d
    split at d
    · exact go _ (by omega) (by omega) a0 d
    · rcases op.1.dvd_mul d with d | d
      · exact go _ (by omega) (by omega) a0 d
      · exact go _ (by omega) (by omega) (by assumption) d
  · have := oq.2.2
    show l.length ≤ _
    omega
  · have bp := bd_op op pb
    rw [conC_val a0 co oq op]
    have := op.three
    obtain ⟨h1, h2⟩ := conN_b (a := a) (b := b) (c := c) (p := p) (by omega)
    exact (bp.mul bp).mono (show 30 + 30 ≤ 110 by decide) |>.le (by omega)
theorem gd_thr {c s r : Int} {l : List Int} (c0 : c ≠ 0) (cb : -6 ≤ c ∧ c ≤ 6) (co : CoreOk (-c) s r) (c4 : cond s ≤ 4000) (oq : OddQ c l) : Gd (thrC s l) 10 := by
  have s0 := (co.bound (by omega) (B := (c.natAbs : Int)) (by omega) (by omega)).1
  refine ⟨thrC_ok c0 co c4 oq, fun r hr => ?_, fun p op hp => ?_, fun p hp => ?_, ?_, fun p op pb => ?_⟩
  · obtain ⟨r0, r1, rc⟩ := mem_uL.mp (show r ∈ uL (cond s) from hr)
    have pm := chi_pm s0 rc
    rw [Int.emod_eq_of_lt r0 r1] at pm
    exact ⟨b_lt 100 (show -100 ≤ (4 : Int) by decide) (show (4 : Int) ≤ 100 by decide) (by decide), b_lt 100 (show -100 ≤ 4 * chi s (cond s) r by omega) (show 4 * chi s (cond s) r ≤ 100 by omega) (by decide), b_lt 100 (show -100 ≤ (0 : Int) by decide) (show (0 : Int) ≤ 100 by decide) (by decide)⟩
  · show 4 ∣ 4 * p * p + 4 * chi s (cond s) (p % cond s) * p + 0
    generalize chi s (cond s) (p % cond s) = e
    exact ⟨p * p + e * p, by grind⟩
  · obtain ⟨op, d⟩ := (oq.2.1 p).mp hp
    have := Int.le_of_dvd (show 0 < (c.natAbs : Int) by omega) (Int.dvd_natAbs.mpr d)
    exact ⟨op, by omega⟩
  · have := oq.2.2
    show l.length ≤ _
    omega
  · have bp := bd_op op pb
    have sb := sgn_b (n := -c) op
    have bs : Bd 2 (sgn (-c) p) := Bd.of (by omega) (by omega)
    rw [thrC_val c0 co oq op]
    exact ((bp.mul bp).add (bp.mul bs)).mono (by decide)
theorem rootsL_le {a b c p : Int} (h : 0 ≤ p) : ((QR.rootsL a b c p).length : Int) ≤ p := by
  unfold QR.rootsL
  have := List.length_filter_le (fun x => decide ((a * x * x + b * x + c) % p = 0)) ((List.range p.toNat).map fun i : Nat => (i : Int))
  rw [List.length_map, List.length_range] at this
  omega
theorem gd_sol {a b c s r : Int} {l : List Int} (a0 : a ≠ 0) (ab : -6 ≤ a ∧ a ≤ 6) (db : -1000 ≤ b * b - 4 * a * c ∧ b * b - 4 * a * c ≤ 1000) (co : b * b - 4 * a * c ≠ 0 → CoreOk (b * b - 4 * a * c) s r) (c4 : b * b - 4 * a * c ≠ 0 → cond s ≤ 4000) (oq : OddQ (solP a (b * b - 4 * a * c)) l) : Gd (solC a b c s l) 10 := by
  refine ⟨solC_ok a0 co c4 oq, fun r hr => ?_, fun p op hp => ?_, fun p hp => ?_, ?_, fun p op pb => ?_⟩
  · show Bd 10 (0 : Int) ∧ Bd 10 (0 : Int) ∧ Bd 10 (if b * b - 4 * a * c = 0 then 4 else 4 + 4 * chi s (cond s) r)
    refine ⟨b_lt 100 (by decide) (by decide) (by decide), b_lt 100 (by decide) (by decide) (by decide), ?_⟩
    split
    · exact b_lt 100 (by decide) (by decide) (by decide)
    · rename_i d0
      have c0 := co d0
      have s0 := (c0.bound d0 (B := ((b * b - 4 * a * c).natAbs : Int)) (by omega) (by omega)).1
      replace hr : r ∈ uL (solM (b * b - 4 * a * c) s) := hr
      rw [solM, if_neg d0] at hr
      obtain ⟨r0, r1, rc⟩ := mem_uL.mp hr
      have pm := chi_pm s0 rc
      rw [Int.emod_eq_of_lt r0 r1] at pm
      exact b_lt 100 (by omega) (by omega) (by decide)
  · show 4 ∣ 0 * p * p + 0 * p + (if b * b - 4 * a * c = 0 then 4 else 4 + 4 * chi s (cond s) (p % solM (b * b - 4 * a * c) s))
    generalize chi s (cond s) (p % solM (b * b - 4 * a * c) s) = e
    split
    · exact ⟨1, by grind⟩
    · exact ⟨1 + e, by grind⟩
  · obtain ⟨op, d⟩ := (oq.2.1 p).mp hp
    refine ⟨op, ?_⟩
    have go : ∀ x : Int, -1000 ≤ x → x ≤ 1000 → x ≠ 0 → p ∣ x → p < 2 ^ 30 := fun x h1 h2 h0 d => by
      have := Int.le_of_dvd (show 0 < (x.natAbs : Int) by omega) (Int.dvd_natAbs.mpr d)
      omega
    unfold solP at d
    split at d
    · exact go _ (by omega) (by omega) a0 d
    · rcases op.1.dvd_mul d with d | d
      · exact go _ (by omega) (by omega) a0 d
      · exact go _ db.1 db.2 (by assumption) d
  · have := oq.2.2
    show l.length ≤ _
    omega
  · rw [solC_val a0 co oq op]
    have := op.three
    have := rootsL_le (a := a) (b := b) (c := c) (p := p) (by omega)
    exact Bd.of (by omega) (by omega)
theorem gd_nei {s t : Int} (hs : s = 1 ∨ s = -1) (ht : t = 1 ∨ t = -1) : Gd (neiC s t) 10 := by
  refine ⟨neiC_ok hs ht, fun r hr => ?_, fun p op _ => ?_, fun p hp => absurd hp List.not_mem_nil, Nat.zero_le _, fun p op pb => ?_⟩
  · show Bd 10 (neiL s t r).1 ∧ Bd 10 (neiL s t r).2.1 ∧ Bd 10 (neiL s t r).2.2
    unfold neiL
    rcases hs with rfl | rfl <;> rcases ht with rfl | rfl <;> split <;> exact ⟨Bd.of (by decide) (by decide), Bd.of (by decide) (by decide), Bd.of (by decide) (by decide)⟩
  · have o2 := op.2
    show 4 ∣ (neiL s t (p % 4)).1 * p * p + (neiL s t (p % 4)).2.1 * p + (neiL s t (p % 4)).2.2
    unfold neiL
    have : p % 4 = 1 ∨ p % 4 = 3 := by omega
    rcases this with e | e <;> rw [e] <;> rcases hs with rfl | rfl <;> rcases ht with rfl | rfl <;> simp <;> omega
  · rw [neiC_val op hs ht]
    have := op.three
    rcases hs with rfl | rfl <;> rcases ht with rfl | rfl <;> exact Bd.of (by omega) (by omega)
theorem mem_foldK : ∀ {S l : List Int} {q : Int}, q ∈ S.foldl keyAdd l ↔ q ∈ l ∨ q ∈ S := fun {S} => by
  induction S with
  | nil =>
    intro l q
    exact ⟨.inl, fun h => h.elim id fun z => absurd z List.not_mem_nil⟩
  | cons a S ih =>
    intro l q
    rw [List.foldl_cons, ih, mem_keyAdd, List.mem_cons]
    exact ⟨fun h => h.elim (fun h => h.elim .inl fun e => .inr (.inl e)) fun h => .inr (.inr h), fun h => h.elim (fun h => .inl (.inl h)) fun h => h.elim (fun e => .inl (.inr e)) .inr⟩
theorem foldK_nodup : ∀ {S l : List Int}, l.Nodup → (S.foldl keyAdd l).Nodup := fun {S} => by
  induction S with
  | nil => exact id
  | cons a S ih => exact fun h => ih (keyAdd_nodup h)
theorem foldK_len : ∀ {S l : List Int}, (S.foldl keyAdd l).length ≤ l.length + S.length := fun {S} => by
  induction S with
  | nil => exact Nat.le_refl _
  | cons a S ih =>
    intro l
    rw [List.foldl_cons]
    have := ih (l := keyAdd l a)
    have := keyAdd_len (l := l) (p := a)
    rw [List.length_cons]
    omega
theorem indL_b {R : List Int} {r : Int} : indL R r = (0, 0, 4) ∨ indL R r = (0, 0, 0) := by
  unfold indL
  split
  · exact .inl rfl
  · exact .inr rfl
theorem gd_ind {m : Int} {R S l : List Int} (so : SetOk m R S) (oq : OddQ m l) (sb : ∀ p ∈ S, p < 2 ^ 30) (few : S.length ≤ 380) : Gd (indC m R S l) 25 := by
  have m1 : 1 ≤ m := so.least.desc.pos
  have m4 := so.le
  refine ⟨⟨m1, m4, fun r hr => ?_, foldK_nodup (oq.1.imp fun h e => by omega), fun p op hp => ?_⟩, fun r hr => ?_, fun p op hp => ?_, fun p hp => ?_, ?_, fun p op pb => ?_⟩
  · show Bd 60 (indL R r).1 ∧ Bd 60 (indL R r).2.1 ∧ Bd 60 (indL R r).2.2
    rcases indL_b (R := R) (r := r) with e | e <;> rw [e] <;> exact ⟨b_lt 100 (by decide) (by decide) (by decide), b_lt 100 (by decide) (by decide) (by decide), b_lt 100 (by decide) (by decide) (by decide)⟩
  · show p % m ∈ uL m
    refine unit_of (Int.dvd_refl _) (by omega) ((QR.pm_cop op.1).mpr fun z => hp (mem_foldK.mpr (.inl ((oq.2.1 p).mpr ⟨op, z⟩))))
  · show Bd 25 (indL R r).1 ∧ Bd 25 (indL R r).2.1 ∧ Bd 25 (indL R r).2.2
    rcases indL_b (R := R) (r := r) with e | e <;> rw [e] <;> exact ⟨b_lt 100 (by decide) (by decide) (by decide), b_lt 100 (by decide) (by decide) (by decide), b_lt 100 (by decide) (by decide) (by decide)⟩
  · show 4 ∣ (indL R (p % m)).1 * p * p + (indL R (p % m)).2.1 * p + (indL R (p % m)).2.2
    rcases indL_b (R := R) (r := p % m) with e | e <;> rw [e]
    · exact ⟨1, by simp⟩
    · exact ⟨0, by simp⟩
  · rcases mem_foldK.mp hp with z | z
    · obtain ⟨op, d⟩ := (oq.2.1 p).mp z
      have := Int.le_of_dvd (by omega) d
      exact ⟨op, by omega⟩
    · exact ⟨so.least.desc.singles p z, sb p z⟩
  · have := foldK_len (S := S) (l := l)
    have := oq.2.2
    show (S.foldl keyAdd l).length ≤ _
    omega
  · unfold Ct.val
    split
    · show Bd _ (if memP m R S p then (1 : Int) else 0)
      split <;> exact b_lt 100 (by decide) (by decide) (by decide)
    · show Bd _ (trAt (indL R (p % m)) p)
      rcases indL_b (R := R) (r := p % m) with e | e <;> rw [e] <;> unfold trAt <;> simp <;> exact b_lt 100 (by decide) (by decide) (by decide)
theorem odd_pow : ∀ (l : List Int) (n : Int), l.Pairwise (· < ·) → (∀ p ∈ l, QR.OP p ∧ p ∣ n) → n ≠ 0 → 3 ^ l.length ≤ n.natAbs
  | [], n, _, _, h => by
    show 3 ^ 0 ≤ _
    omega
  | p :: l, n, as, h, n0 => by
    obtain ⟨op, k, rfl⟩ := h p List.mem_cons_self
    obtain ⟨a1, a2⟩ := List.pairwise_cons.mp as
    have k0 : k ≠ 0 := fun z => n0 (by rw [z, Int.mul_zero])
    have ih := odd_pow l k a2 (fun q hq => by
      obtain ⟨oq, d⟩ := h q (List.mem_cons_of_mem _ hq)
      refine ⟨oq, (oq.1.dvd_mul d).resolve_left fun e => ?_⟩
      have := Int.le_of_dvd (by have := op.three; omega) e
      have := a1 q hq
      omega) k0
    have p3 := op.three
    rw [List.length_cons, Nat.pow_succ, Int.natAbs_mul, Nat.mul_comm]
    exact Nat.mul_le_mul (by omega) ih
theorem odd_len {n : Int} {l : List Int} {k : Nat} (oq : OddQ n l) (n0 : n ≠ 0) (lt : n.natAbs < 3 ^ (k + 1)) : l.length ≤ k := by
  have h := odd_pow l n oq.1 (fun p hp => (oq.2.1 p).mp hp) n0
  rcases Nat.lt_or_ge k l.length with g | g
  · have := Nat.pow_le_pow_right (show 0 < 3 by decide) (show k + 1 ≤ l.length from g)
    omega
  · exact g
/-- three numbers of at most B -/
def tb (t : Int × Int × Int) (B : Int) : Prop := -B ≤ t.1 ∧ t.1 ≤ B ∧ -B ≤ t.2.1 ∧ t.2.1 ≤ B ∧ -B ≤ t.2.2 ∧ t.2.2 ≤ B
/-- what the law makes -/
structure Kd (c : Ct) : Prop where
  gd : Gd c 10
  m : c.m ≤ 180 ∨ 4 ∣ c.m ∧ c.m ≤ 720
  ln : ∀ r ∈ uL c.m, tb (c.ln r) 24
  kind : c.m = 1 ∨ c.m = 4 ∨ ∀ r ∈ uL c.m, -8 ≤ (c.ln r).2.2 ∧ (c.ln r).2.2 ≤ 8 ∧ 4 ∣ (c.ln r).2.2
  sp : c.sp.length ≤ 6
theorem cond_m {s : Int} (h : s.natAbs ≤ 180) : cond s ≤ 180 ∨ 4 ∣ cond s ∧ cond s ≤ 720 := by
  unfold cond
  split
  · omega
  · exact .inr ⟨⟨_, rfl⟩, by omega⟩
theorem kd_pol {a b c : Int} (ha : -6 ≤ a ∧ a ≤ 6) (hb : -6 ≤ b ∧ b ≤ 6) (hc : -6 ≤ c ∧ c ≤ 6) : Kd (polC a b c) :=
  ⟨gd_pol (Bd.of (by omega) (by omega)) (Bd.of (by omega) (by omega)) (Bd.of (by omega) (by omega)), .inl (show (1 : Int) ≤ 180 by decide), fun r _ => by
    show -24 ≤ 4 * a ∧ 4 * a ≤ 24 ∧ -24 ≤ 4 * b ∧ 4 * b ≤ 24 ∧ -24 ≤ 4 * c ∧ 4 * c ≤ 24
    omega, .inl rfl, Nat.zero_le _⟩
theorem chi_at {s r : Int} (s0 : s ≠ 0) (hr : r ∈ uL (cond s)) : chi s (cond s) r = 1 ∨ chi s (cond s) r = -1 := by
  obtain ⟨r0, r1, rc⟩ := mem_uL.mp hr
  have := chi_pm s0 rc
  rwa [Int.emod_eq_of_lt r0 r1] at this
theorem abs_mul_le {x y : Int} {A B : Nat} (hx : x.natAbs ≤ A) (hy : y.natAbs ≤ B) : (x * y).natAbs ≤ A * B := by
  rw [Int.natAbs_mul]
  exact Nat.mul_le_mul hx hy
theorem kd_con {a b c s r : Int} {l : List Int} (a0 : a * b ≠ 0) (ab : (a * b).natAbs ≤ 36) (cb : -6 ≤ c ∧ c ≤ 6) (co : CoreOk (-(a * b)) s r) (oq : OddQ (conP a b c) l) : Kd (conC a b c s l) := by
  have sb := co.bound (by omega) (B := 36) (by omega) (by omega)
  have cm := cond_m (s := s) (by omega)
  refine ⟨gd_con a0 (by omega) cb co (by omega) oq, cm, fun r hr => ?_, .inr (.inr fun r hr => ?_), ?_⟩
  · have := chi_at sb.1 hr
    show tb (conL c s r) 24
    unfold conL
    generalize chi s (cond s) r = e at *
    split
    · show -24 ≤ (0 : Int) ∧ (0 : Int) ≤ 24 ∧ -24 ≤ 4 + 4 * e ∧ 4 + 4 * e ≤ 24 ∧ -24 ≤ -4 * e ∧ -4 * e ≤ 24
      omega
    · show -24 ≤ (0 : Int) ∧ (0 : Int) ≤ 24 ∧ -24 ≤ (4 : Int) ∧ (4 : Int) ≤ 24 ∧ -24 ≤ -4 * e ∧ -4 * e ≤ 24
      omega
  · have := chi_at sb.1 hr
    have e : (conL c s r).2.2 = -4 * chi s (cond s) r := by
      unfold conL
      split <;> rfl
    show -8 ≤ (conL c s r).2.2 ∧ (conL c s r).2.2 ≤ 8 ∧ 4 ∣ (conL c s r).2.2
    rw [e]
    exact ⟨by omega, by omega, ⟨-chi s (cond s) r, by omega⟩⟩
  · show l.length ≤ 6
    have n0 : conP a b c ≠ 0 := by
      unfold conP
      split
      · exact a0
      · exact Int.mul_ne_zero a0 (by assumption)
    refine odd_len oq n0 (Nat.lt_of_le_of_lt (show _ ≤ 216 from ?_) (by decide))
    unfold conP
    split
    · omega
    · exact abs_mul_le (B := 6) ab (by omega)
theorem kd_thr {c s r : Int} {l : List Int} (c0 : c ≠ 0) (cb : -6 ≤ c ∧ c ≤ 6) (co : CoreOk (-c) s r) (oq : OddQ c l) : Kd (thrC s l) := by
  have sb := co.bound (by omega) (B := 6) (by omega) (by omega)
  have cm := cond_m (s := s) (by omega)
  refine ⟨gd_thr c0 cb co (by omega) oq, cm, fun r hr => ?_, .inr (.inr fun r hr => ?_), odd_len oq c0 (Nat.lt_of_le_of_lt (show _ ≤ 6 by omega) (by decide))⟩
  · have := chi_at sb.1 hr
    show -24 ≤ (4 : Int) ∧ (4 : Int) ≤ 24 ∧ -24 ≤ 4 * chi s (cond s) r ∧ 4 * chi s (cond s) r ≤ 24 ∧ -24 ≤ (0 : Int) ∧ (0 : Int) ≤ 24
    omega
  · show -8 ≤ (0 : Int) ∧ (0 : Int) ≤ 8 ∧ (4 : Int) ∣ 0
    exact ⟨by decide, by decide, ⟨0, rfl⟩⟩
theorem kd_sol {a b c s r : Int} {l : List Int} (a0 : a ≠ 0) (ab : -6 ≤ a ∧ a ≤ 6) (db : (b * b - 4 * a * c).natAbs ≤ 180) (co : b * b - 4 * a * c ≠ 0 → CoreOk (b * b - 4 * a * c) s r) (oq : OddQ (solP a (b * b - 4 * a * c)) l) : Kd (solC a b c s l) := by
  have sb : b * b - 4 * a * c ≠ 0 → s ≠ 0 ∧ s.natAbs ≤ 180 := fun d0 => by
    have := (co d0).bound d0 (B := 180) (by omega) (by omega)
    omega
  have c4 : b * b - 4 * a * c ≠ 0 → cond s ≤ 4000 := fun d0 => by
    have := cond_m (sb d0).2
    omega
  have lb : ∀ r ∈ uL (solC a b c s l).m, -8 ≤ ((solC a b c s l).ln r).2.2 ∧ ((solC a b c s l).ln r).2.2 ≤ 8 ∧ 4 ∣ ((solC a b c s l).ln r).2.2 := fun r hr => by
    replace hr : r ∈ uL (solM (b * b - 4 * a * c) s) := hr
    show -8 ≤ (if b * b - 4 * a * c = 0 then 4 else 4 + 4 * chi s (cond s) r) ∧ (if b * b - 4 * a * c = 0 then 4 else 4 + 4 * chi s (cond s) r) ≤ 8 ∧ 4 ∣ (if b * b - 4 * a * c = 0 then 4 else 4 + 4 * chi s (cond s) r)
    split
    · exact ⟨by decide, by decide, ⟨1, rfl⟩⟩
    · rename_i d0
      rw [solM, if_neg d0] at hr
      have := chi_at (sb d0).1 hr
      exact ⟨by omega, by omega, ⟨1 + chi s (cond s) r, by omega⟩⟩
  refine ⟨gd_sol a0 ab (by omega) co c4 oq, ?_, fun r hr => ?_, .inr (.inr lb), ?_⟩
  · show solM (b * b - 4 * a * c) s ≤ 180 ∨ 4 ∣ solM (b * b - 4 * a * c) s ∧ solM (b * b - 4 * a * c) s ≤ 720
    unfold solM
    split
    · exact .inl (by decide)
    · rename_i d0
      exact cond_m (sb d0).2
  · obtain ⟨h1, h2, _⟩ := lb r hr
    exact ⟨show -24 ≤ (0 : Int) by decide, show (0 : Int) ≤ 24 by decide, show -24 ≤ (0 : Int) by decide, show (0 : Int) ≤ 24 by decide, by omega, by omega⟩
  · show l.length ≤ 6
    have n0 : solP a (b * b - 4 * a * c) ≠ 0 := by
      unfold solP
      split
      · exact a0
      · exact Int.mul_ne_zero a0 (by assumption)
    refine odd_len oq n0 (Nat.lt_of_le_of_lt (show _ ≤ 1080 from ?_) (by decide))
    unfold solP
    split
    · omega
    · exact abs_mul_le (A := 6) (by omega) db
theorem kd_nei {s t : Int} (hs : s = 1 ∨ s = -1) (ht : t = 1 ∨ t = -1) : Kd (neiC s t) := by
  refine ⟨gd_nei hs ht, .inl (show (4 : Int) ≤ 180 by decide), fun r hr => ?_, .inr (.inl rfl), Nat.zero_le _⟩
  show tb (neiL s t r) 24
  unfold neiL tb
  rcases hs with rfl | rfl <;> rcases ht with rfl | rfl <;> split <;> decide
def spCnt75 (C : Addr) : Sp := fun vs H Q _ => ∃ (a : Addr) (d0 d1 d2 d3 : Int) (t : List Int), vs = [.ref a] ∧ NoT H ∧ H a = some (.lst ((d0 :: d1 :: d2 :: d3 :: t).map V.int)) ∧ 0 ≤ d0 ∧ d0 < 5 ∧ (0 ≤ d1 ∧ d1 < 13) ∧ (0 ≤ d2 ∧ d2 < 13) ∧ (0 ≤ d3 ∧ d3 < 13) ∧ ∀ x H' c, Same H H' → NoT H' → H x = none → IsCt C H' x c → Kd c → Q (.ref x) H'
theorem use_cnt75 {C a : Addr} {d0 d1 d2 d3 : Int} {t : List Int} {H : Hp} {Q : VK} {E : XK} (nt : NoT H) (h : H a = some (.lst ((d0 :: d1 :: d2 :: d3 :: t).map V.int))) (h0 : 0 ≤ d0 ∧ d0 < 5) (h1 : 0 ≤ d1 ∧ d1 < 13) (h2 : 0 ≤ d2 ∧ d2 < 13) (h3 : 0 ≤ d3 ∧ d3 < 13) (q : ∀ x H' c, Same H H' → NoT H' → H x = none → IsCt C H' x c → Kd c → Q (.ref x) H') : spCnt75 C [.ref a] H Q E := ⟨a, d0, d1, d2, d3, t, rfl, nt, h, h0.1, h0.2, h1, h2, h3, q⟩
def nz75 (d : Int) : Int := d - 6 + (if d - 6 = 0 then 1 else 0)
theorem ok_law_count (T : Txt K mg Ad) : Def P w K mg base 11 "_law_count" ["_law_drawn"] (spCnt75 Ad.c_Count) := by
  refine T.d_law_count.ok sc_law_count (fun vs H Q E h => ?_) (fun f cdv A outer s H vs Q E hr h => ?_)
  · obtain ⟨a, d0, d1, d2, d3, t, rfl, _⟩ := h
    rfl
  · obtain ⟨a, d0, d1, d2, d3, t, rfl, nt, ha, p0, p1, ⟨p2, p3⟩, ⟨p4, p5⟩, ⟨p6, p7⟩, q⟩ := h
    refine ⟨_, (pss_cons (ps_set (i := 1) sc_law_count.nd rfl (Or.inl rfl) (pe_ix ix_list (pv 0) pe_int (fun _ _ => rfl)))
      (pss_cons (ps_set (i := 2) sc_law_count.nd rfl (Or.inl rfl) (pe_op op_sub (pe_ix ix_list (pv 0) pe_int (fun _ _ => rfl)) pe_int))
      (pss_cons (ps_set (i := 3) sc_law_count.nd rfl (Or.inl rfl) (pe_op op_sub (pe_ix ix_list (pv 0) pe_int (fun _ _ => rfl)) pe_int))
      (pss_cons (ps_set (i := 4) sc_law_count.nd rfl (Or.inl rfl) (pe_op op_sub (pe_ix ix_list (pv 0) pe_int (fun _ _ => rfl)) pe_int))
      (pss_cons (ps_if (pt_cmpR op_eq (pv 1) pe_int (nomark _)) (pss_one (ps_ret (pe_d (ok_polynomial T) (hr.mono (by decide)) (passes_call (takes_of rfl rfl rfl rfl) (fun _ _ _ _ h => h)) (pa_cons (pv 2) (pa_cons (pv 3) (pa_cons (pv 4) pa_nil)))))) pss_nil)
      (pss_cons (ps_if (pt_cmpR op_eq (pv 1) pe_int (nomark _)) (pss_one (ps_ret (pe_d (ok_conic T) (hr.mono (by decide)) (passes_call (takes_of rfl rfl rfl rfl) (fun _ _ _ _ h => h)) (pa_cons (pe_op op_add (pv 2) (pe_callTy c_int1 (by rfl) T.b_int (by decide +kernel) (pa_cons (pe_cmpR op_eq (pv 2) pe_int (nomark _)) pa_nil))) (pa_cons (pe_op op_add (pv 3) (pe_callTy c_int1 (by rfl) T.b_int (by decide +kernel) (pa_cons (pe_cmpR op_eq (pv 3) pe_int (nomark _)) pa_nil))) (pa_cons (pv 4) pa_nil)))))) pss_nil)
      (pss_cons (ps_if (pt_cmpR op_eq (pv 1) pe_int (nomark _)) (pss_one (ps_ret (pe_d (ok_three T) (hr.mono (by decide)) (passes_call (takes_of rfl rfl rfl rfl) (fun _ _ _ _ h => h)) (pa_cons (pv 4) pa_nil)))) pss_nil)
      (pss_cons (ps_if (pt_cmpR op_eq (pv 1) pe_int (nomark _)) (pss_one (ps_ret (pe_d (ok_solutions T) (hr.mono (by decide)) (passes_call (takes_of rfl rfl rfl rfl) (fun _ _ _ _ h => h)) (pa_cons (pe_op op_add (pv 2) (pe_callTy c_int1 (by rfl) T.b_int (by decide +kernel) (pa_cons (pe_cmpR op_eq (pv 2) pe_int (nomark _)) pa_nil))) (pa_cons (pv 3) (pa_cons (pv 4) pa_nil)))))) pss_nil)
      (pss_one (ps_ret (pe_d (ok_neighbours T) (hr.mono (by decide)) (passes_call (takes_of rfl rfl rfl rfl) (fun _ _ _ _ h => h)) (pa_cons (pe_ix ix_list (pe_lst (pa_cons pe_int (pa_cons (pe_un un_neg pe_int) pa_nil))) (pe_op op_mod (pe_ix ix_list (pv 0) pe_int (fun _ _ => rfl)) pe_int) (fun _ _ => rfl)) (pa_cons (pe_ix ix_list (pe_lst (pa_cons pe_int (pa_cons (pe_un un_neg pe_int) pa_nil))) (pe_op op_mod (pe_ix ix_list (pv 0) pe_int (fun _ _ => rfl)) pe_int) (fun _ _ => rfl)) pa_nil))))))))))))), ?_⟩
    try dsimp only [cxOf]
    have B := Hv.start nt
    have hz : ∀ d : Int, 0 ≤ d → d < 13 → nz75 d ≠ 0 ∧ -6 ≤ nz75 d ∧ nz75 d ≤ 6 := fun d h1 h2 => by
      unfold nz75
      split <;> omega
    obtain ⟨z1, z2, z3⟩ := hz d1 p2 p3
    obtain ⟨y1, y2, y3⟩ := hz d2 p4 p5
    have ez : ∀ d : Int, d - 6 + (if decide (d - 6 = 0) = true then 1 else 0) = nz75 d := fun d => by
      unfold nz75
      simp only [decide_eq_true_eq]
    wtm_at "rs"
    refine rd_ixL (SqL.of ha) (show atI ((d0 :: d1 :: d2 :: d3 :: t).map V.int) ((0 : Nat) : Int) = some (.int d0) from atI_nat rfl) ?_
    wtm_at "rs"
    refine rd_ixL (SqL.of ha) (show atI ((d0 :: d1 :: d2 :: d3 :: t).map V.int) ((1 : Nat) : Int) = some (.int d1) from atI_nat rfl) ?_
    wtm_at "rs"
    refine rd_ixL (SqL.of ha) (show atI ((d0 :: d1 :: d2 :: d3 :: t).map V.int) ((2 : Nat) : Int) = some (.int d2) from atI_nat rfl) ?_
    wtm_at "rs"
    refine rd_ixL (SqL.of ha) (show atI ((d0 :: d1 :: d2 :: d3 :: t).map V.int) ((3 : Nat) : Int) = some (.int d3) from atI_nat rfl) ?_
    wtm_at "rs"
    by_cases e0 : d0 = 0
    · rw [if_pos (by simp [e0])]
      wtm_at "rs"
      exact use_pol nt (Bd.of (by omega) (by omega)) (Bd.of (by omega) (by omega)) (Bd.of (by omega) (by omega)) fun x H' sm n' hx ic => q x H' _ sm n' hx ic (kd_pol (by omega) (by omega) (by omega))
    rw [if_neg (by simp [e0])]
    wtm_at "rs"
    by_cases e1 : d0 = 1
    · rw [if_pos (by simp [e1])]
      wtm_at "rs"
      rw [ez, ez]
      have n0 : nz75 d1 * nz75 d2 ≠ 0 := fun z => (Int.mul_eq_zero.mp z).elim z1 y1
      have ab : (nz75 d1 * nz75 d2).natAbs ≤ 36 := abs_mul_le (A := 6) (B := 6) (by omega) (by omega)
      obtain ⟨s, r, co⟩ := exists_core (n := -(nz75 d1 * nz75 d2)) (by omega)
      have sb := co.bound (by omega) (B := 36) (by omega) (by omega)
      have cm := cond_m (s := s) (by omega)
      exact use_con nt n0 (by omega) (by omega) (by omega) (by omega) (by omega) (by omega) co (by omega) fun x H' l sm n' hx oq ic => q x H' _ sm n' hx ic (kd_con n0 ab ⟨by omega, by omega⟩ co oq)
    rw [if_neg (by simp [e1])]
    wtm_at "rs"
    by_cases e2 : d0 = 2
    · rw [if_pos (by simp [e2])]
      wtm_at "rs"
      by_cases c0 : d3 - 6 = 0
      · exact use_thr (s := 1) (r := 1) nt (by omega) (by omega) (fun h => absurd c0 h) (fun h x H' sm n' hx ic => q x H' _ sm n' hx ic (kd_pol (by decide) (by decide) (by decide))) fun h => absurd c0 h
      · obtain ⟨s, r, co⟩ := exists_core (n := -(d3 - 6)) (by omega)
        have sb := co.bound (by omega) (B := 6) (by omega) (by omega)
        have cm := cond_m (s := s) (by omega)
        exact use_thr nt (by omega) (by omega) (fun _ => ⟨co, by omega⟩) (fun h => absurd h c0) fun h x H' l sm n' hx oq ic => q x H' _ sm n' hx ic (kd_thr c0 (by omega) co oq)
    rw [if_neg (by simp [e2])]
    wtm_at "rs"
    by_cases e3 : d0 = 3
    · rw [if_pos (by simp [e3])]
      wtm_at "rs"
      rw [ez]
      have sq : ((d2 - 6) * (d2 - 6)).natAbs ≤ 36 := abs_mul_le (A := 6) (B := 6) (by omega) (by omega)
      have ac : (nz75 d1 * (d3 - 6)).natAbs ≤ 36 := abs_mul_le (A := 6) (B := 6) (by omega) (by omega)
      have e4 : 4 * nz75 d1 * (d3 - 6) = 4 * (nz75 d1 * (d3 - 6)) := Int.mul_assoc ..
      have db : ((d2 - 6) * (d2 - 6) - 4 * nz75 d1 * (d3 - 6)).natAbs ≤ 180 := by omega
      obtain ⟨s, r, co⟩ : ∃ s r, (d2 - 6) * (d2 - 6) - 4 * nz75 d1 * (d3 - 6) ≠ 0 → CoreOk ((d2 - 6) * (d2 - 6) - 4 * nz75 d1 * (d3 - 6)) s r := by
        by_cases h : (d2 - 6) * (d2 - 6) - 4 * nz75 d1 * (d3 - 6) = 0
        · exact ⟨1, 1, fun n => absurd h n⟩
        · obtain ⟨s, r, co⟩ := exists_core h
          exact ⟨s, r, fun _ => co⟩
      have c4 : (d2 - 6) * (d2 - 6) - 4 * nz75 d1 * (d3 - 6) ≠ 0 → cond s ≤ 4000 := fun d0 => by
        have := (co d0).bound d0 (B := 180) (by omega) (by omega)
        have := cond_m (s := s) (by omega)
        omega
      exact ⟨nz75 d1, d2 - 6, d3 - 6, s, r, rfl, nt, z1, by omega, by omega, by omega, by omega, by omega, by omega, co, fun h h2 => absurd (c4 h) (by omega), fun _ x H' l sm n' hx oq ic => q x H' _ sm n' hx ic (kd_sol z1 ⟨z2, z3⟩ db co oq)⟩
    rw [if_neg (by simp [e3])]
    wtm_at "rs"
    have pmi : ∀ d : Int, 0 ≤ d → d < 13 → ∃ s : Int, (s = 1 ∨ s = -1) ∧ atI (([1, -1] : List Int).map V.int) (d % 2) = some (.int s) := fun d h1 h2 => by
      rcases (by omega : d % 2 = 0 ∨ d % 2 = 1) with e | e
      · exact ⟨1, .inl rfl, by rw [e]; rfl⟩
      · exact ⟨-1, .inr rfl, by rw [e]; rfl⟩
    obtain ⟨s, hs, es⟩ := pmi d1 p2 p3
    obtain ⟨u, ht, et⟩ := pmi d2 p4 p5
    rename_i l1 hl1
    refine rd_ixL (SqL.of (same_new hl1 _ _ ha)) (show atI ((d0 :: d1 :: d2 :: d3 :: t).map V.int) ((1 : Nat) : Int) = some (.int d1) from atI_nat rfl) ?_
    wtm_at "rs"
    refine rd_ixL (SqL.of upd_same) es ?_
    wtm_at "rs"
    rename_i l2 hl2
    refine rd_ixL (SqL.of (same_new hl2 _ _ (same_new hl1 _ _ ha))) (show atI ((d0 :: d1 :: d2 :: d3 :: t).map V.int) ((2 : Nat) : Int) = some (.int d2) from atI_nat rfl) ?_
    wtm_at "rs"
    refine rd_ixL (SqL.of upd_same) et ?_
    have nt2 : NoT (upd (upd H l1 (.lst (([1, -1] : List Int).map V.int))) l2 (.lst (([1, -1] : List Int).map V.int))) := NoT.upd (NoT.upd nt rfl) rfl
    have sm2 : Same H (upd (upd H l1 (.lst (([1, -1] : List Int).map V.int))) l2 (.lst (([1, -1] : List Int).map V.int))) := (same_new hl1).trans (same_new hl2)
    wtm_at "rs"
    exact use_nei nt2 hs ht fun x H' sm n' hx ic => q x H' _ (sm2.trans sm) n' (sm2.free hx) ic (kd_nei hs ht)
/-! ### _law_equal -/
theorem cand_len {t : Int × Int × Int} {cs : List Int} {N : Nat} (h : CandOk t cs) (n1 : 1 ≤ N) (lt : t.2.2.natAbs < 3 ^ (N + 1)) : cs.length ≤ N := by
  by_cases z : t.2.2 = 0
  · exact Nat.le_trans (h.one z) n1
  · exact odd_len (h.dv z) z lt
theorem keys_few {c d : Ct} (sc : c.sp.length ≤ 20) (sd : d.sp.length ≤ 20) : (cmbC (-1) c d).sp.length ≤ 40 := by
  have := keysOf_len (l := c.sp ++ d.sp)
  rw [List.length_append] at this
  show (keysOf (c.sp ++ d.sp)).length ≤ _
  omega
theorem eqi_of {c d : Ct} (gc : Gd c 20) (gd : Gd d 20) (sc : c.sp.length ≤ 20) (sd : d.sp.length ≤ 20) (h : ((Int.lcm c.m d.m : Nat) : Int) ≤ 4000 → ∃ N : Nat, (∀ r ∈ uL (cmbC (-1) c d).m, (cmbC (-1) c d).ln r ≠ (0, 0, 0) → ∀ cs, CandOk ((cmbC (-1) c d).ln r) cs → cs.length ≤ N) ∧ 40 + (uL (cmbC (-1) c d).m).length * N ≤ 4090 ∧ (40 + (uL (cmbC (-1) c d).m).length * N ≤ 4000 ∨ ∃ K : Nat, Small (cmbC (-1) c d) K ∧ 40 + K < 4000)) : EqI c d := by
  have hs : ∀ p ∈ c.sp ++ d.sp, QR.OP p ∧ p < 2 ^ 30 := fun p hp => (List.mem_append.mp hp).elim (gc.sp p) (gd.sp p)
  refine ⟨gc.ok, gd.ok, fun p hp => ?_, by rw [List.length_append]; omega, fun le => ?_⟩
  · obtain ⟨op, pb⟩ := hs p hp
    exact ⟨op, by omega, (gd.bv p op pb).mono (by decide)⟩
  · have k := keys_few sc sd
    obtain ⟨N, h1, h2, h3⟩ := h le
    refine ⟨cmb_ok (.inr rfl) gc.ok gd.ok (gc.bl.mono (by decide)) (gd.bl.mono (by decide)) le, cmb_ex gc.ex gd.ex, (cmb_bl (.inr rfl) gc.ok gd.ok gc.bl gd.bl).mono (by decide), fun p hp => ?_, N, h1, by omega, h3.imp (fun _ => by omega) fun ⟨K, a, b⟩ => ⟨K, a, by omega⟩⟩
    obtain ⟨op, pb⟩ := hs p (mem_keysOf.mp hp)
    exact ⟨op, by omega⟩
/-- a count whose lines end with numbers of at most B -/
structure Kx (c : Ct) (B : Int) : Prop where
  gd : Gd c 20
  sp : c.sp.length ≤ 20
  ln : ∀ r ∈ uL c.m, -B ≤ (c.ln r).2.2 ∧ (c.ln r).2.2 ≤ B
theorem Kd.x {c : Ct} (h : Kd c) : Kx c 24 := ⟨h.gd.mono (by decide), Nat.le_trans h.sp (by decide), fun r hr => (h.ln r hr).2.2.2.2⟩
theorem cmb_at {f : Int} {c d : Ct} {r : Int} (c1 : 1 ≤ c.m) (d1 : 1 ≤ d.m) (hr : r ∈ uL (cmbC f c d).m) : r % c.m ∈ uL c.m ∧ r % d.m ∈ uL d.m := ⟨uL_down c1 hr lcm_l, uL_down d1 hr lcm_r⟩
theorem uL_few {m : Int} (h : m ≤ 720) : (uL m).length ≤ 720 := Nat.le_trans uL_len (by omega)
theorem eqi_x {c d : Ct} {B B' : Int} (hc : Kx c B) (hd : Kx d B') (le : ((Int.lcm c.m d.m : Nat) : Int) ≤ 720) (b : B + B' ≤ 80) : EqI c d := by
  refine eqi_of hc.gd hd.gd hc.sp hd.sp fun _ => ⟨3, fun r hr _ cs co => cand_len co (by decide) ?_, ?_, .inl ?_⟩
  · obtain ⟨h1, h2⟩ := cmb_at hc.gd.ok.m1 hd.gd.ok.m1 hr
    have a := hc.ln _ h1
    have a2 := hd.ln _ h2
    show ((c.ln (r % c.m)).2.2 + -1 * (d.ln (r % d.m)).2.2).natAbs < 81
    omega
  · have := uL_few (m := (cmbC (-1) c d).m) le
    omega
  · have := uL_few (m := (cmbC (-1) c d).m) le
    omega
theorem lcm_le75 {a b M : Int} (M1 : 1 ≤ M) (ha : a ∣ M) (hb : b ∣ M) : ((Int.lcm a b : Nat) : Int) ≤ M := Int.le_of_dvd (by omega) (Int.coe_lcm_dvd ha hb)
theorem lcm_small {a b : Int} (ha : a = 1 ∨ a = 4) (b1 : 1 ≤ b) (hb : b ≤ 180 ∨ 4 ∣ b ∧ b ≤ 720) : ((Int.lcm a b : Nat) : Int) ≤ 720 := by
  have a4 : a ∣ 4 := by
    rcases ha with rfl | rfl
    · exact ⟨4, rfl⟩
    · exact ⟨1, rfl⟩
  rcases hb with h | ⟨⟨k, hk⟩, h⟩
  · have := lcm_le75 (M := 4 * b) (by omega) (Int.dvd_mul_of_dvd_left a4) ⟨4, Int.mul_comm ..⟩
    omega
  · have := lcm_le75 (M := b) b1 (Int.dvd_trans a4 ⟨k, hk⟩) (Int.dvd_refl b)
    omega
theorem eqi_kd {c d : Ct} (hc : Kd c) (hd : Kd d) : EqI c d := by
  have c1 := hc.gd.ok.m1
  have d1 := hd.gd.ok.m1
  have go : (c.m = 1 ∨ c.m = 4) ∨ (d.m = 1 ∨ d.m = 4) → EqI c d := fun h => by
    refine eqi_x hc.x hd.x ?_ (by decide)
    rcases h with h | h
    · exact lcm_small h d1 hd.m
    · rw [Int.lcm_comm]
      exact lcm_small h c1 hc.m
  rcases hc.kind with h | h | h
  · exact go (.inl (.inl h))
  · exact go (.inl (.inr h))
  rcases hd.kind with g | g | g
  · exact go (.inr (.inl g))
  · exact go (.inr (.inr g))
  refine eqi_of hc.x.gd hd.x.gd hc.x.sp hd.x.sp fun le => ?_
  have lb : ∀ r ∈ uL (cmbC (-1) c d).m, -16 ≤ ((cmbC (-1) c d).ln r).2.2 ∧ ((cmbC (-1) c d).ln r).2.2 ≤ 16 ∧ 4 ∣ ((cmbC (-1) c d).ln r).2.2 ∧ -48 ≤ ((cmbC (-1) c d).ln r).2.1 ∧ ((cmbC (-1) c d).ln r).2.1 ≤ 48 := fun r hr => by
    obtain ⟨h1, h2⟩ := cmb_at c1 d1 hr
    obtain ⟨a1, a2, a3⟩ := h _ h1
    obtain ⟨b1, b2, b3⟩ := g _ h2
    obtain ⟨_, _, u1, u2, _⟩ := hc.ln _ h1
    obtain ⟨_, _, v1, v2, _⟩ := hd.ln _ h2
    show -16 ≤ (c.ln (r % c.m)).2.2 + -1 * (d.ln (r % d.m)).2.2 ∧ (c.ln (r % c.m)).2.2 + -1 * (d.ln (r % d.m)).2.2 ≤ 16 ∧ 4 ∣ (c.ln (r % c.m)).2.2 + -1 * (d.ln (r % d.m)).2.2 ∧ -48 ≤ (c.ln (r % c.m)).2.1 + -1 * (d.ln (r % d.m)).2.1 ∧ (c.ln (r % c.m)).2.1 + -1 * (d.ln (r % d.m)).2.1 ≤ 48
    omega
  have ul : (uL (cmbC (-1) c d).m).length ≤ 4000 := Nat.le_trans uL_len (by
    show ((Int.lcm c.m d.m : Nat) : Int).toNat ≤ 4000
    omega)
  refine ⟨1, fun r hr nz cs co => ?_, by omega, .inr ⟨48, fun r hr nz cs co p hp => ?_, by decide⟩⟩
  · obtain ⟨l1, l2, ⟨k, hk⟩, _⟩ := lb r hr
    by_cases z : ((cmbC (-1) c d).ln r).2.2 = 0
    · exact co.one z
    · have oq := co.dv z
      have oq4 : OddQ k cs := ⟨oq.1, fun p => (oq.2.1 p).trans ⟨fun ⟨op, dv⟩ => ⟨op, by
        rw [hk] at dv
        refine (op.1.dvd_mul dv).resolve_left fun e => ?_
        have := Int.le_of_dvd (by decide) e
        have := op.three
        have := op.2
        have e3 : p = 3 := by omega
        subst e3
        omega⟩, fun ⟨op, dv⟩ => ⟨op, by rw [hk]; exact Int.dvd_mul_of_dvd_right dv⟩⟩, oq.2.2⟩
      exact odd_len oq4 (by omega) (Nat.lt_of_le_of_lt (show _ ≤ 4 by omega) (by decide))
  · obtain ⟨l1, l2, _, l3, l4⟩ := lb r hr
    by_cases z : ((cmbC (-1) c d).ln r).2.2 = 0
    · have := co.lin z p hp
      omega
    · have := ((co.dv z).2.1 p).mp hp
      have := Int.le_of_dvd (show 0 < (((cmbC (-1) c d).ln r).2.2.natAbs : Int) by omega) (Int.dvd_natAbs.mpr this.2)
      omega
/-- few rests: any lines -/
theorem eqi_y {c d : Ct} (gc : Gd c 20) (gd : Gd d 20) (sc : c.sp.length ≤ 20) (sd : d.sp.length ≤ 20) (le : ((Int.lcm c.m d.m : Nat) : Int) ≤ 4) : EqI c d := by
  have ul : (uL (cmbC (-1) c d).m).length ≤ 4 := Nat.le_trans uL_len (by
    show ((Int.lcm c.m d.m : Nat) : Int).toNat ≤ 4
    omega)
  refine eqi_of gc gd sc sd fun _ => ⟨100, fun r hr nz cs co => ?_, by omega, .inl (by omega)⟩
  by_cases z : ((cmbC (-1) c d).ln r).2.2 = 0
  · exact Nat.le_trans (co.one z) (by decide)
  · exact Nat.le_of_lt (co.dv z).2.2
def spLEqu (C CP : Addr) : Sp := fun vs H Q _ => ∃ (x y : Addr) (c d : Ct), vs = [.ref x, .ref y] ∧ NoT H ∧ IsCt C H x c ∧ IsCt C H y d ∧ c.Ex ∧ d.Ex ∧ EqI c d ∧
  (4000 < ((Int.lcm c.m d.m : Nat) : Int) → ∀ H', Same H H' → NoT H' → Q .non H') ∧
  (((Int.lcm c.m d.m : Nat) : Int) ≤ 4000 → ∀ z H' m R S, Same H H' → NoT H' → IsP CP H' z m R S → Agr c d m R S → Q (.ref z) H')
theorem use_LEqu {C CP : Addr} {x y : Addr} {c d : Ct} {H : Hp} {Q : VK} {E : XK} (nt : NoT H) (hx : IsCt C H x c) (hy : IsCt C H y d) (ec : c.Ex) (ed : d.Ex) (e : EqI c d) (qw : 4000 < ((Int.lcm c.m d.m : Nat) : Int) → ∀ H', Same H H' → NoT H' → Q .non H')
    (q : ((Int.lcm c.m d.m : Nat) : Int) ≤ 4000 → ∀ z H' m R S, Same H H' → NoT H' → IsP CP H' z m R S → Agr c d m R S → Q (.ref z) H') : spLEqu C CP [.ref x, .ref y] H Q E := ⟨x, y, c, d, rfl, nt, hx, hy, ec, ed, e, qw, q⟩
theorem ok_law_equal (T : Txt K mg Ad) : Def P w K mg base 9 "_law_equal" ["_law_first", "_law_second"] (spLEqu Ad.c_Count Ad.c_Primes) := by
  refine T.d_law_equal.ok sc_law_equal (fun vs H Q E h => ?_) (fun f cdv A outer s H vs Q E hr h => ?_)
  · obtain ⟨x, y, c, d, rfl, _⟩ := h
    rfl
  · obtain ⟨x, y, c, d, rfl, nt, ic, jc, ec, ed, ei, qw, q⟩ := h
    refine ⟨_, (pss_one (ps_try_only (tb := fun W => (tRet (tMethT Ad.c_Count "equal" ((spEqu Ad.c_Count Ad.c_TooWide Ad.c_Primes)) (WE W) (tVar 0) (tCons (tVar 1) tNil)))) (ts := fun a cls d => (tRet (tC .non))) (Wout := fun cls d _ H => E cls d H) rfl rfl ⟨rfl, by decide, .inl T.r_TooWide.g⟩ (takes_of rfl rfl rfl rfl) (fun W pn xe tk ow => (pss_one (ps_ret (by exact (pe_mdS (ok_Count_equal T) (pv 0) T.cl_Count (hr.mono (by decide)) tk (pa_cons (pv 1) pa_nil)))))) (fun a oe cls d pn hz hf => (pss_one (ps_ret pe_non))))), ?_⟩
    try dsimp only [cxOf]
    obtain ⟨dx, dl, ds, es, g1, _⟩ := id ic
    wtm_at "rs"
    refine ⟨x, y, c, d, rfl, nt, ic, jc, ei, fun lt e he => ?_, fun le z H' m R S s n ip vn => q le z H' m R S s n ip (van_agr ec ed vn)⟩
    show wOnly _ _ _ _ _ _ _ _ _
    refine rd_wonly T.r_TooWide.self fun x0 hx0 => ?_
    wtm_at "rs"
    exact qw lt _ (same_new he) (NoT.upd nt rfl)
/-! ### _law_wide -/
def spLWid (C : Addr) : Sp := fun vs H Q _ => ∃ (x y : Addr) (c d : Ct), vs = [.ref x, .ref y] ∧ NoT H ∧ IsCt C H x c ∧ IsCt C H y d ∧ EqI c d ∧ 4000 < ((Int.lcm c.m d.m : Nat) : Int) ∧ ∀ H', Same H H' → NoT H' → Q (.int ((Int.lcm c.m d.m : Nat) : Int)) H'
theorem use_LWid {C : Addr} {x y : Addr} {c d : Ct} {H : Hp} {Q : VK} {E : XK} (nt : NoT H) (hx : IsCt C H x c) (hy : IsCt C H y d) (e : EqI c d) (lt : 4000 < ((Int.lcm c.m d.m : Nat) : Int)) (q : ∀ H', Same H H' → NoT H' → Q (.int ((Int.lcm c.m d.m : Nat) : Int)) H') : spLWid C [.ref x, .ref y] H Q E := ⟨x, y, c, d, rfl, nt, hx, hy, e, lt, q⟩
theorem ok_law_wide (T : Txt K mg Ad) : Def P w K mg base 9 "_law_wide" ["_law_first", "_law_second"] (spLWid Ad.c_Count) := by
  refine T.d_law_wide.ok sc_law_wide (fun vs H Q E h => ?_) (fun f cdv A outer s H vs Q E hr h => ?_)
  · obtain ⟨x, y, c, d, rfl, _⟩ := h
    rfl
  · obtain ⟨x, y, c, d, rfl, nt, ic, jc, ei, lt, q⟩ := h
    refine ⟨_, (pss_cons (ps_try_as (i := 2) (tb := fun W => (tDrop (tMethT Ad.c_Count "equal" ((spEqu Ad.c_Count Ad.c_TooWide Ad.c_Primes)) (WE W) (tVar 0) (tCons (tVar 1) tNil)))) (ts := fun a cls d => (tRet (tXf a cls d Ad.c_TooWide "modulus" (tVar 2)))) (Wout := fun cls d _ H => E cls d H) rfl rfl sc_law_wide.nd rfl rfl ⟨rfl, by decide, .inl T.r_TooWide.g⟩ (takes_of rfl rfl rfl rfl) (fun W pn xe tk ow => (pss_one (ps_expr (by exact (pe_mdS (ok_Count_equal T) (pv 0) T.cl_Count (hr.mono (by decide)) tk (pa_cons (pv 1) pa_nil)))))) (fun a oe cls d pn hz hf => (pss_one (ps_ret (pe_xf T.r_TooWide.X T.no_TooWide_modulus hz hf (pv 2))))))
      (pss_one (ps_ret pe_int))), ?_⟩
    try dsimp only [cxOf]
    obtain ⟨dx, dl, ds, es, g1, _⟩ := id ic
    obtain ⟨dx2, dl2, ds2, es2, g2, _⟩ := id jc
    wtm_at "rs"
    refine ⟨x, y, c, d, rfl, nt, ic, jc, ei, fun _ e he => ?_, fun le => absurd le (by omega)⟩
    refine rd_was T.r_TooWide.self fun x0 hx0 => ?_
    wtm_at "rs"
    exact q _ (same_new he) (NoT.upd nt rfl)
/-! ### Count.__add__ -/
def spCad (fa : Int) (C CW : Addr) : Sp := fun vs H Q E => ∃ (x y : Addr) (c d : Ct), vs = [.ref x, .ref y] ∧ NoT H ∧ IsCt C H x c ∧ IsCt C H y d ∧ c.Ok ∧ d.Ok ∧
  (∀ p ∈ c.sp ++ d.sp, QR.OP p ∧ p < 2 ^ 60 ∧ Bd 200 (d.val p)) ∧ (c.sp ++ d.sp).length < 1000 ∧
  (4000 < ((Int.lcm c.m d.m : Nat) : Int) → ∀ e, H e = none → E (.ref CW) (some e) (upd H e (.xd [("modulus", .int ((Int.lcm c.m d.m : Nat) : Int))]))) ∧
  (((Int.lcm c.m d.m : Nat) : Int) ≤ 4000 → ∀ z H', Same H H' → NoT H' → H z = none → IsCt C H' z (cmbC fa c d) → Q (.ref z) H')
theorem ok_Count_add (T : Txt K mg Ad) : MDef P w K mg base 4 Ad.c_Count "__add__" ["self", "other"] (spCad 1 Ad.c_Count Ad.c_TooWide) := by
  refine T.d_Count_add.ok sc_Count_add (fun vs H Q E h => ?_) (fun f cdv A outer s H vs Q E hr h => ?_)
  · obtain ⟨x, y, c, d, rfl, _⟩ := h
    rfl
  · obtain ⟨x, y, c, d, rfl, nt, ic, jc, oc, od, hs, few, qw, q⟩ := h
    refine ⟨_, (pss_one (ps_ret (pe_d (ok_combined_counts T) (hr.mono (by decide)) (passes_call (takes_of rfl rfl rfl rfl) (fun _ _ _ _ h => h)) (pa_cons (pv 0) (pa_cons (pv 1) (pa_cons pe_int pa_nil)))))), ?_⟩
    try dsimp only [cxOf]
    wtm_at "rs"
    exact ⟨x, y, c, d, 1, rfl, nt, ic, jc, oc, od, .inl rfl, hs, few, qw, q⟩
/-! ### Count.__sub__ -/
--- each
theorem ok_Count_sub (T : Txt K mg Ad) : MDef P w K mg base 4 Ad.c_Count "__sub__" ["self", "other"] (spCad (-1) Ad.c_Count Ad.c_TooWide) := by
  refine T.d_Count_sub.ok sc_Count_sub (fun vs H Q E h => ?_) (fun f cdv A outer s H vs Q E hr h => ?_)
  · obtain ⟨x, y, c, d, rfl, _⟩ := h
    rfl
  · obtain ⟨x, y, c, d, rfl, nt, ic, jc, oc, od, hs, few, qw, q⟩ := h
    refine ⟨_, (pss_one (ps_ret (pe_d (ok_combined_counts T) (hr.mono (by decide)) (passes_call (takes_of rfl rfl rfl rfl) (fun _ _ _ _ h => h)) (pa_cons (pv 0) (pa_cons (pv 1) (pa_cons (pe_un un_neg pe_int) pa_nil)))))), ?_⟩
    try dsimp only [cxOf]
    wtm_at "rs"
    exact ⟨x, y, c, d, -1, rfl, nt, ic, jc, oc, od, .inr rfl, hs, few, qw, q⟩
/-! ### Primes.every -/
def spEvery (C : Addr) : Sp := fun vs H Q E => vs = [.ref C] ∧ NoT H ∧ ∀ (x : Addr) (H' : Hp) (m' : Int) (R' S' : List Int), Same H H' → NoT H' → H x = none → IsP C H' x m' R' S' → Made 1 [0] [] m' R' S' → Q (.ref x) H'
theorem ok_Primes_every (T : Txt K mg Ad) : CMDef P w K mg base 7 Ad.c_Primes "every" (spEvery Ad.c_Primes) := by
  refine T.d_Primes_every.ok sc_Primes_every (fun vs H Q E h => ?_) (fun f fd F => F.binds (ps := ["cls"]) fun _ _ _ _ _ _ us hl => match us, hl with | [_], _ => rfl) (fun f cdv A outer s H vs Q E hr h => ?_)
  · obtain ⟨rfl, _⟩ := h
    rfl
  · obtain ⟨rfl, nt, q⟩ := h
    refine ⟨_, (pss_one (ps_ret (pe_mkd (ok_Primes_init T) (hr.mono (by decide)) (passes_call (takes_of rfl rfl rfl rfl) (fun _ _ _ _ h => h)) (pa_cons pe_int (pa_cons (pe_lst (pa_cons pe_int pa_nil)) (pa_cons (pe_lst pa_nil) pa_nil)))))), ?_⟩
    try dsimp only [cxOf]
    wtm_at "rs"
    rename_i a ha b hb
    refine mk_P (R := [0]) (S := []) (by wtm_at "nt") (.inl (SqL.of (upd_keep upd_same hb))) (.inl (SqL.of upd_same)) (by decide) (by decide) (fun p h => absurd h List.not_mem_nil) (by decide) (by decide) (fun r h => by rw [List.mem_singleton.mp h]; exact ⟨by decide, by decide, by decide⟩) (fun p h => absurd h List.not_mem_nil) fun x H' m' R' S' sm n' hx ip md => ?_
    have s0 := (same_new (o := .lst [.int 0]) ha).trans (same_new (o := .lst []) hb)
    exact q x H' m' R' S' (s0.trans sm) n' (s0.free hx) ip md
/-! ### Primes.__eq__ -/
def spPEq (C : Addr) : Sp := fun vs H Q E => ∃ (p : Addr) (m : Int) (R S : List Int) (y : V), vs = [.ref p, y] ∧ IsP C H p m R S ∧ NoT H ∧ ((∃ q m' R' S', y = .ref q ∧ IsP C H q m' R' S' ∧ Q (.bl (decide (m = m' ∧ R = R' ∧ S = S'))) H) ∨ ∃ l xs, y = .ref l ∧ H l = some (.lst xs) ∧ Q (.bl false) H)
theorem intsD_inj : ∀ {a b : List Int}, a.map PyData.int = b.map PyData.int ↔ a = b
  | [], [] => by simp
  | [], _ :: _ => by simp
  | _ :: _, [] => by simp
  | x :: a, y :: b => by
    have := intsD_inj (a := a) (b := b)
    simp [this]
theorem dpI {K : PySem.W.Frag} {H : Hp} : ∀ (ns : List Int), DpAll K H (ns.map V.int) (ns.map PyData.int)
  | [] => .nil
  | n :: ns => .cons (.int n) (dpI ns)
def pD (m : Int) (R S : List Int) : PyData := .tuple [.int m, .tuple (R.map PyData.int), .tuple (S.map PyData.int)]
theorem pD_ok {m : Int} {R S : List Int} : okD (pD m R S) 60 = true := by
  have a : ∀ ns : List Int, okDs (ns.map PyData.int) 58 = true := fun ns => okDs_map fun x _ => by simp [okD]
  simp [pD, okD, okDs, a R, a S]
theorem pD_eq {m m' : Int} {R R' S S' : List Int} : pD m R S = pD m' R' S' ↔ m = m' ∧ R = R' ∧ S = S' := by
  simp [pD, intsD_inj]
theorem ok_Primes_eq0 (T : Txt K mg Ad) : MDef P w K mg base 1 Ad.c_Primes "__eq__" ["self", "other"] (fun vs H Q E => ∃ (p : Addr) (m : Int) (R S : List Int) (y : V), vs = [.ref p, y] ∧ IsP Ad.c_Primes H p m R S ∧ ((∃ q m' R' S', y = .ref q ∧ IsP Ad.c_Primes H q m' R' S' ∧ ∀ H', Same H H' → Q (.bl (decide (m = m' ∧ R = R' ∧ S = S'))) H') ∨ ∃ l xs, y = .ref l ∧ H l = some (.lst xs) ∧ Q (.bl false) H)) := by
  refine T.d_Primes_eq.ok sc_Primes_eq (fun vs H Q E h => ?_) (fun f cdv A outer s H vs Q E hr h => ?_)
  · obtain ⟨p, m, R, S, y, rfl, _⟩ := h
    rfl
  · obtain ⟨p, m, R, S, y, rfl, ⟨dx, tR, tS, hp, hR, hS⟩, h⟩ := h
    rcases h with ⟨q, m', R', S', rfl, ⟨dy, uR, uS, hq, gR, gS⟩, qo⟩ | ⟨l, xs, rfl, hl, qo⟩
    · refine ⟨_, (pss_cons (ps_if (pt_not (pt_val (pe_callB call_isi (by rfl) T.b_isinstance (by decide +kernel) (pa_cons (pv 1) (pa_cons (pe_glob (v := .ref Ad.c_Primes) rfl T.g_Primes rfl) pa_nil))))) (pss_one (ps_ret pe_bl)) pss_nil)
      (pss_one (ps_ret (pe_cmpR (op_eqD hr.units) (pe_tup (pa_cons (pe_fldC (pv 0) T.cl_Primes T.nf_Primes_modulus) (pa_cons (pe_fldC (pv 0) T.cl_Primes T.nf_Primes_rests) (pa_cons (pe_fldC (pv 0) T.cl_Primes T.nf_Primes_singles) pa_nil)))) (pe_tup (pa_cons (pe_fldC (pv 1) T.cl_Primes T.nf_Primes_modulus) (pa_cons (pe_fldC (pv 1) T.cl_Primes T.nf_Primes_rests) (pa_cons (pe_fldC (pv 1) T.cl_Primes T.nf_Primes_singles) pa_nil)))) (nomark _))))), ?_⟩
      try dsimp only [cxOf]
      wtm_at "rs"
      refine ⟨_, _, _, _, true, rfl, .own _, T.ty_Primes _ _ _ _ hq, T.ki_Primes, ?_⟩
      wtm_at "rs"
      rename_i t1 h1 t2 h2
      have sm := (same_new (o := .tup [.int m, .ref tR, .ref tS]) h1).trans (same_new (o := .tup [.int m', .ref uR, .ref uS]) h2)
      refine rd_eqD (d := pD m R S) (e := pD m' R' S') (.tup (SqT.of (upd_keep upd_same h2)) (.cons (.int _) (.cons (.tup (SqT.of (sm _ _ hR)) (dpI _)) (.cons (.tup (SqT.of (sm _ _ hS)) (dpI _)) .nil)))) (.tup (SqT.of upd_same) (.cons (.int _) (.cons (.tup (SqT.of (sm _ _ gR)) (dpI _)) (.cons (.tup (SqT.of (sm _ _ gS)) (dpI _)) .nil)))) (okD_shaped pD_ok) (okD_shaped pD_ok) ?_
      rw [okD_dec pD_ok pD_ok, decide_eq_decide.mpr pD_eq]
      exact qo _ sm
    · refine ⟨_, (pss_cons (ps_if (pt_not (pt_val (pe_callB call_isi (by rfl) T.b_isinstance (by decide +kernel) (pa_cons (pv 1) (pa_cons (pe_glob (v := .ref Ad.c_Primes) rfl T.g_Primes rfl) pa_nil))))) (pss_one (ps_ret pe_bl)) pss_nil)
      (pss_one (ps_ret (pe_cmpR (op_eqD hr.units) (pe_tup (pa_cons (pe_fldC (pv 0) T.cl_Primes T.nf_Primes_modulus) (pa_cons (pe_fldC (pv 0) T.cl_Primes T.nf_Primes_rests) (pa_cons (pe_fldC (pv 0) T.cl_Primes T.nf_Primes_singles) pa_nil)))) (pe_tup (pa_cons (pe_fldC (pv 1) T.cl_Primes T.nf_Primes_modulus) (pa_cons (pe_fldC (pv 1) T.cl_Primes T.nf_Primes_rests) (pa_cons (pe_fldC (pv 1) T.cl_Primes T.nf_Primes_singles) pa_nil)))) (nomark _))))), ?_⟩
      try dsimp only [cxOf]
      wtm_at "rs"
      refine ⟨_, _, _, _, false, rfl, .own _, .base (.lst hl), T.kl_Primes, ?_⟩
      wtm_at "rs"
      exact qo
theorem ok_Primes_eq (T : Txt K mg Ad) : MDef P w K mg base 1 Ad.c_Primes "__eq__" ["self", "other"] (spPEq Ad.c_Primes) :=
  (ok_Primes_eq0 T).forget.imp fun vs H Q E ⟨p, m, R, S, y, e, hp, nt, h⟩ => ⟨nt, p, m, R, S, y, e, hp, h.elim (fun ⟨q, m', R', S', e, hq, q'⟩ => .inl ⟨q, m', R', S', e, hq, fun H' s => ⟨s, q'⟩⟩) fun ⟨l, xs, e, hl, q'⟩ => .inr ⟨l, xs, e, hl, Same.refl _, q'⟩⟩
theorem use_PEq (T : Txt K mg Ad) {p q : Addr} {m m' : Int} {R S R' S' : List Int} {H : Hp} {Q : VK} {E : XK} (hp : IsP Ad.c_Primes H p m R S) (hq : IsP Ad.c_Primes H q m' R' S') (nt : NoT H) (k : Q (.bl (decide (m = m' ∧ R = R' ∧ S = S'))) H) : rEqO K Ad.c_Primes (spPEq Ad.c_Primes) E (.ref p) (.ref q) H Q := by
  obtain ⟨dx, tR, tS, h1, h2, h3⟩ := id hp
  obtain ⟨dy, uR, uS, g1, g2, g3⟩ := id hq
  exact ⟨p, dx, _, _, rfl, h1, T.ty_Primes _ _ _ _ g1, by unfold PySem.W.notFirst; simp, p, m, R, S, _, rfl, hp, nt, .inl ⟨q, m', R', S', rfl, hq, ⟨_, rfl⟩, k⟩⟩
/-! ### Count.__eq__ -/
def spCEq (C CW : Addr) : Sp := fun vs H Q E => ∃ (x : Addr) (c : Ct) (y : V), vs = [.ref x, y] ∧ NoT H ∧ IsCt C H x c ∧
  ((∃ a d, y = .ref a ∧ IsCt C H a d ∧ EqI c d ∧
    (4000 < ((Int.lcm c.m d.m : Nat) : Int) → ∀ e, H e = none → E (.ref CW) (some e) (upd H e (.xd [("modulus", .int ((Int.lcm c.m d.m : Nat) : Int))]))) ∧
    (((Int.lcm c.m d.m : Nat) : Int) ≤ 4000 → ∀ H' m R S, Same H H' → NoT H' → Van (cmbC (-1) c d) m R S → Q (.bl (decide (m = 1 ∧ R = [0] ∧ S = []))) H')) ∨ ∃ n, y = .int n ∧ Q (.bl false) H)
theorem ok_Count_eq (T : Txt K mg Ad) : MDef P w K mg base 8 Ad.c_Count "__eq__" ["self", "other"] (spCEq Ad.c_Count Ad.c_TooWide) := by
  refine T.d_Count_eq.ok sc_Count_eq (fun vs H Q E h => ?_) (fun f cdv A outer s H vs Q E hr h => ?_)
  · obtain ⟨x, c, y, rfl, _⟩ := h
    rfl
  · obtain ⟨x, c, y, rfl, nt, ic, h⟩ := h
    rcases h with ⟨a, d, rfl, jc, ⟨oc, od, hs, few, vk⟩, qw, q⟩ | ⟨n, rfl, q⟩
    · obtain ⟨dx, dl, ds, es, g1, _⟩ := id jc
      refine ⟨_, (pss_one (ps_ret (pe_and (pe_callB call_isi (by rfl) T.b_isinstance (by decide +kernel) (pa_cons (pv 1) (pa_cons (pe_glob (v := .ref Ad.c_Count) rfl T.g_Count rfl) pa_nil))) (pe_one (pe_cmpR (op_eqO (ok_Primes_eq T) (hr.mono (by decide)) (Nat.lt_of_succ_lt (hu_of hr)) (passes_call (takes_of rfl rfl rfl rfl) (fun _ _ _ _ h => h))) (pe_d (ok_vanishing T) (hr.mono (by decide)) (passes_call (takes_of rfl rfl rfl rfl) (fun _ _ _ _ h => h)) (pa_cons (pe_d (ok_combined_counts T) (hr.mono (by decide)) (passes_call (takes_of rfl rfl rfl rfl) (fun _ _ _ _ h => h)) (pa_cons (pv 0) (pa_cons (pv 1) (pa_cons (pe_un un_neg pe_int) pa_nil)))) pa_nil)) (pe_cm0 (ok_Primes_every T) (pe_glob (v := .ref Ad.c_Primes) rfl T.g_Primes rfl) (hr.mono (by decide)) (passes_call (takes_of rfl rfl rfl rfl) (fun _ _ _ _ h => h))) (nomark _)))))), ?_⟩
      try dsimp only [cxOf]
      wtm_at "rs"
      refine ⟨_, _, _, _, true, rfl, .own _, T.ty_Count _ _ _ _ g1, T.ki_Count, ?_⟩
      wtm_at "rs"
      refine ⟨x, a, c, d, -1, rfl, nt, ic, jc, oc, od, .inr rfl, hs, few, qw, fun le z H1 s1 n1 hz iz => ?_⟩
      wtm_at "rs"
      refine ⟨z, _, rfl, n1, iz, vk le, fun y H2 m R S s2 n2 ip vn => ?_⟩
      wtm_at "rs"
      refine ⟨rfl, n2, fun e H3 m' R' S' s3 n3 he jp md => ?_⟩
      refine use_PEq T (ip.mono s3) jp n3 ?_
      obtain ⟨rfl, rfl, rfl⟩ := made_every md
      exact q le H3 m R S ((s1.trans s2).trans s3) n3 vn
    · refine ⟨_, (pss_one (ps_ret (pe_and (pe_callB call_isi (by rfl) T.b_isinstance (by decide +kernel) (pa_cons (pv 1) (pa_cons (pe_glob (v := .ref Ad.c_Count) rfl T.g_Count rfl) pa_nil))) (pe_one (pe_cmpR (op_eqO (ok_Primes_eq T) (hr.mono (by decide)) (Nat.lt_of_succ_lt (hu_of hr)) (passes_call (takes_of rfl rfl rfl rfl) (fun _ _ _ _ h => h))) (pe_d (ok_vanishing T) (hr.mono (by decide)) (passes_call (takes_of rfl rfl rfl rfl) (fun _ _ _ _ h => h)) (pa_cons (pe_d (ok_combined_counts T) (hr.mono (by decide)) (passes_call (takes_of rfl rfl rfl rfl) (fun _ _ _ _ h => h)) (pa_cons (pv 0) (pa_cons (pv 1) (pa_cons (pe_un un_neg pe_int) pa_nil)))) pa_nil)) (pe_cm0 (ok_Primes_every T) (pe_glob (v := .ref Ad.c_Primes) rfl T.g_Primes rfl) (hr.mono (by decide)) (passes_call (takes_of rfl rfl rfl rfl) (fun _ _ _ _ h => h))) (nomark _)))))), ?_⟩
      try dsimp only [cxOf]
      wtm_at "rs"
      refine ⟨_, _, _, _, false, rfl, .own _, .base (.int n), T.kz_Count, ?_⟩
      wtm_at "rs"
      exact q
theorem use_CEq (T : Txt K mg Ad) {x y : Addr} {c d : Ct} {H : Hp} {Q : VK} {E : XK} (hx : IsCt Ad.c_Count H x c) (hy : IsCt Ad.c_Count H y d) (nt : NoT H) (e : EqI c d) (qw : 4000 < ((Int.lcm c.m d.m : Nat) : Int) → ∀ e, H e = none → E (.ref Ad.c_TooWide) (some e) (upd H e (.xd [("modulus", .int ((Int.lcm c.m d.m : Nat) : Int))])))
    (q : ((Int.lcm c.m d.m : Nat) : Int) ≤ 4000 → ∀ H' m R S, Same H H' → NoT H' → Van (cmbC (-1) c d) m R S → Q (.bl (decide (m = 1 ∧ R = [0] ∧ S = []))) H') : rEqO K Ad.c_Count (spCEq Ad.c_Count Ad.c_TooWide) E (.ref x) (.ref y) H Q := by
  obtain ⟨dx, dl, ds, es, h1, _⟩ := id hx
  obtain ⟨ex, el, ew, fs, g1, _⟩ := id hy
  exact ⟨x, dx, _, _, rfl, h1, T.ty_Count _ _ _ _ g1, by unfold PySem.W.notFirst; simp, x, c, _, rfl, nt, hx, .inl ⟨y, d, rfl, hy, e, qw, fun le H' m R S s n v => ⟨⟨_, rfl⟩, q le H' m R S s n v⟩⟩⟩
theorem use_CEqI (T : Txt K mg Ad) {x : Addr} {c : Ct} {n : Int} {H : Hp} {Q : VK} {E : XK} (hx : IsCt Ad.c_Count H x c) (nt : NoT H) (q : Q (.bl false) H) : rEqO K Ad.c_Count (spCEq Ad.c_Count Ad.c_TooWide) E (.ref x) (.int n) H Q := by
  obtain ⟨dx, dl, ds, es, h1, _⟩ := id hx
  exact ⟨x, dx, _, _, rfl, h1, .base (.int n), notFirst_intT, x, c, _, rfl, nt, hx, .inr ⟨n, rfl, ⟨_, rfl⟩, q⟩⟩
/-! ### _law_minus -/
theorem ok_law_minus (T : Txt K mg Ad) : Def P w K mg base 10 "_law_minus" ["_law_first", "_law_second"] (spLWid Ad.c_Count) := by
  refine T.d_law_minus.ok sc_law_minus (fun vs H Q E h => ?_) (fun f cdv A outer s H vs Q E hr h => ?_)
  · obtain ⟨x, y, c, d, rfl, _⟩ := h
    rfl
  · obtain ⟨x, y, c, d, rfl, nt, ic, jc, ei, lt, q⟩ := h
    refine ⟨_, (pss_cons (ps_try_as (i := 3) (tb := fun W => (tAsg (tOpT Ad.c_Count ((spCad (-1) Ad.c_Count Ad.c_TooWide)) (WE W) (tVar 0) (tVar 1)) (gName 2))) (ts := fun a cls d => (tRet (tXf a cls d Ad.c_TooWide "modulus" (tVar 3)))) (Wout := fun cls d _ H => E cls d H) rfl rfl sc_law_minus.nd rfl rfl ⟨rfl, by decide, .inl T.r_TooWide.g⟩ (takes_of rfl rfl rfl rfl) (fun W pn xe tk ow => (pss_one (ps_set (i := 2) sc_law_minus.nd rfl (Or.inl rfl) (by exact (pe_opS (m := "__sub__") (ok_Count_sub T) (by decide +kernel) T.sf_Count T.ty_Count (hr.mono (by decide)) tk (pv 0) (pv 1)))))) (fun a oe cls d pn hz hf => (pss_one (ps_ret (pe_xf T.r_TooWide.X T.no_TooWide_modulus hz hf (pv 3))))))
      (pss_one (ps_ret (pe_callTy c_int1 (by rfl) T.b_int (by decide +kernel) (pa_cons (pe_cmpR (op_eqO (ok_Count_eq T) (hr.mono (by decide)) (Nat.lt_of_succ_lt (hu_of hr)) (passes_call (takes_of rfl rfl rfl rfl) (fun _ _ _ _ h => h))) (pv 2) (pv 0) (nomark _)) pa_nil))))), ?_⟩
    try dsimp only [cxOf]
    obtain ⟨dx, dl, ds, es, g1, _⟩ := id ic
    obtain ⟨dx2, dl2, ds2, es2, g2, _⟩ := id jc
    wtm_at "rs"
    refine rd_binO g1 g2 ⟨x, y, c, d, rfl, nt, ic, jc, ei.oc, ei.od, ei.hs, ei.few, fun _ e he => ?_, fun le => absurd le (by omega)⟩
    refine rd_was T.r_TooWide.self fun x0 hx0 => ?_
    wtm_at "rs"
    exact q _ (same_new he) (NoT.upd nt rfl)
/-! ### _law_same -/
/-- x == y, x an own instance, within a try -/
def tEqT (K : PySem.W.Frag) (C : Addr) (sp : Sp) (E : L2.St → XK) (ta tb : TE) : TE := fun σ H Q => ta σ H fun x H1 => tb σ H1 fun y H2 => rEqO K C sp (E σ) x y H2 Q
theorem pe_eqS {X : Cx} {k : Nat} {C : Addr} {ps : List PySem.Str} {sp : Sp} {pos : Pos} {a b : Expr} {ta tb : TE} {W : WX} (D : MDef X.prog X.w X.K X.mg X.base k C "__eq__" ps sp) (hr : Room k X.A) (hu : X.A.units < cLine) (tk : Takes X W) (ea : PE X a ta) (eb : PE X b tb) (hm : behindInMarks .Eq b = false) : PE X (.Compare a [.Eq] [b] pos) (tEqT X.K C sp (WE W) ta tb) := by
  refine ⟨fun pins s σ H Q I h => ?_⟩
  refine wpAny_Compare1 (binT ea eb I h fun v u s x y H I rx ry h => ?_) hm
  obtain ⟨f, fd, F, g, b⟩ := D.ex
  obtain ⟨a, dx, fs, ty, rfl, ha, hty, hn, hsp⟩ := h
  cases (show v = Value.ref a from rx)
  obtain ⟨mA, J, _⟩ := ins_get I.hok ha
  obtain ⟨od, J, _⟩ := J.look
  obtain ⟨m, hF⟩ := I.fr
  obtain ⟨P, Z, hp, _⟩ := kit_of I ry hty
  show wpAny (model X.prog X.w) X.A (richCompare .Eq (.ref a) u) (EP X _ σ Q) X.xe s
  refine PySem.W.cmp_K (op := .Eq) (tb := ty) hu hF I.ok.mod.kin J (Z.ty _ s.heap I.kIn hp) hn g.at_ g.fn ?_
  refine wpAny_mono (run_fnS (E := WE W) (us := [.ref a, u]) (vs := [.ref a, y]) F hr b (passAt tk σ) I (.cons rfl (.cons ry .nil)) hsp) (fun r s' q => ?_) fun _ _ z => z
  obtain ⟨z, H', I', rz, ⟨bb, rfl⟩, q⟩ := q
  cases (show r = Value.bool bb from rz)
  exact ⟨.bl bb, H', I', rfl, q⟩
instance st_eqT {K : PySem.W.Frag} {C : Addr} {sp : Sp} {σ : L2.St} {H : Hp} {Q : VK} {E : L2.St → XK} {ta tb : TE} : Stp (tEqT K C sp E ta tb σ H Q) (ta σ H fun x H1 => tb σ H1 fun y H2 => rEqO K C sp (E σ) x y H2 Q) := ⟨fun h => h⟩
theorem ok_law_same (T : Txt K mg Ad) : Def P w K mg base 10 "_law_same" ["_law_first", "_law_second"] (spLWid Ad.c_Count) := by
  refine T.d_law_same.ok sc_law_same (fun vs H Q E h => ?_) (fun f cdv A outer s H vs Q E hr h => ?_)
  · obtain ⟨x, y, c, d, rfl, _⟩ := h
    rfl
  · obtain ⟨x, y, c, d, rfl, nt, ic, jc, ei, lt, q⟩ := h
    refine ⟨_, (pss_one (ps_try_as (i := 2) (tb := fun W => (tRet (tEqT K Ad.c_Count ((spCEq Ad.c_Count Ad.c_TooWide)) (WE W) (tVar 0) (tVar 1)))) (ts := fun a cls d => (tRet (tXf a cls d Ad.c_TooWide "modulus" (tVar 2)))) (Wout := fun cls d _ H => E cls d H) rfl rfl sc_law_same.nd rfl rfl ⟨rfl, by decide, .inl T.r_TooWide.g⟩ (takes_of rfl rfl rfl rfl) (fun W pn xe tk ow => (pss_one (ps_ret (pe_eqS (ok_Count_eq T) (hr.mono (by decide)) (Nat.lt_of_succ_lt (hu_of hr)) tk (pv 0) (pv 1) (nomark _))))) (fun a oe cls d pn hz hf => (pss_one (ps_ret (pe_xf T.r_TooWide.X T.no_TooWide_modulus hz hf (pv 2))))))), ?_⟩
    try dsimp only [cxOf]
    obtain ⟨dx, dl, ds, es, g1, _⟩ := id ic
    obtain ⟨dx2, dl2, ds2, es2, g2, _⟩ := id jc
    wtm_at "rs"
    refine use_CEq T ic jc nt ei (fun _ e he => ?_) fun le => absurd le (by omega)
    refine rd_was T.r_TooWide.self fun x0 hx0 => ?_
    wtm_at "rs"
    exact q _ (same_new he) (NoT.upd nt rfl)
/-! ### Primes.only -/
def spOnlyP (C : Addr) : Sp := fun vs H Q E => ∃ (t : Addr) (S : List Int), vs = [.ref C, .ref t] ∧ NoT H ∧ H t = some (.tup (S.map V.int)) ∧ S.length ≤ 4000 ∧ (∀ p ∈ S, QR.OP p ∧ p < 2 ^ 120) ∧ ∀ (x : Addr) (H' : Hp) (m' : Int) (R' S' : List Int), Same H H' → NoT H' → H x = none → IsP C H' x m' R' S' → Made 1 [] S m' R' S' → Q (.ref x) H'
theorem use_onlyP {C : Addr} {S : List Int} {H : Hp} {Q : VK} {E : XK} (nt : NoT H) (l : S.length ≤ 4000) (h : ∀ p ∈ S, QR.OP p ∧ p < 2 ^ 120) (q : ∀ (x : Addr) (H' : Hp) (m' : Int) (R' S' : List Int), Same H H' → NoT H' → IsP C H' x m' R' S' → Made 1 [] S m' R' S' → Q (.ref x) H') :
    (fun (vs : List V) (H : Hp) (Q : VK) (E : XK) => ∃ ws rest, vs = ws ++ rest ∧ ws.length = ["cls"].length ∧ rest.length ≤ sizeLine ∧ ∀ p, H p = none → spOnlyP C (ws ++ [V.ref p]) (upd H p (.tup rest)) Q E) (.ref C :: S.map V.int) H Q E :=
  ⟨[.ref C], S.map V.int, rfl, rfl, by rw [List.length_map]; exact Nat.le_trans l (by decide), fun p hp => ⟨p, S, rfl, NoT.upd nt rfl, upd_same, l, h, fun x H' m' R' S' sm n _ ip md => q x H' m' R' S' ((same_new hp).trans sm) n ip md⟩⟩
theorem ok_Primes_only (T : Txt K mg Ad) : CMDef P w K mg base 7 Ad.c_Primes "only" (fun vs H Q E => ∃ ws rest, vs = ws ++ rest ∧ ws.length = ["cls"].length ∧ rest.length ≤ sizeLine ∧ ∀ p, H p = none → spOnlyP Ad.c_Primes (ws ++ [V.ref p]) (upd H p (.tup rest)) Q E) := by
  refine T.d_Primes_only.okStar (ps := ["cls"]) (sp := spOnlyP Ad.c_Primes) sc_Primes_only (fun _ _ _ _ _ _ => StX.bind_star1 (B := fun l => bindArgs _ ⟨l, []⟩) (fun a => rfl) (fun a r rs => rfl)) (fun f cdv A outer s H vs Q E hr h => ?_)
  obtain ⟨t, S, rfl, nt, ht, lS, hS, q⟩ := h
  refine ⟨_, (pss_one (ps_ret (pe_mkL (ok_Primes_init T) (pv 0) (hr.mono (by decide)) (passes_call (takes_of rfl rfl rfl rfl) (fun _ _ _ _ h => h)) (pa_cons pe_int (pa_cons (pe_lst pa_nil) (pa_cons (pv 1) pa_nil)))))), ?_⟩
  try dsimp only [cxOf]
  wtm_at "rs"
  rename_i b hb
  refine mk_P (R := []) (S := S) (NoT.upd nt rfl) (.inl (SqL.of upd_same)) (.inr (SqT.of (upd_keep ht hb))) (by decide) lS (fun p h => (hS p h).2) (by decide) (by decide) (fun r h => absurd h List.not_mem_nil) (fun p h => (hS p h).1) fun x H' m' R' S' sm n' hx ip md => ?_
  have s0 := same_new (o := .lst []) hb
  exact q x H' m' R' S' (s0.trans sm) n' (s0.free hx) ip md
/-! ### _law_great_prime -/
theorem gd_polM {m a b c : Int} (hm : m = 1 ∨ m = 4) (ha : Bd 16 a) (hb : Bd 16 b) (hc : Bd 16 c) : Gd (polM m a b c) 20 := by
  have b4 : Bd 3 (4 : Int) := Bd.of (by decide) (by decide)
  refine ⟨polM_ok hm (ha.mono (by decide)) (hb.mono (by decide)) (hc.mono (by decide)), fun r _ => ⟨(b4.mul ha).mono (by decide), (b4.mul hb).mono (by decide), (b4.mul hc).mono (by decide)⟩, polM_ex, fun p hp => absurd hp List.not_mem_nil, Nat.zero_le _, fun p op pb => ?_⟩
  have bp := bd_op op pb
  rw [polM_val]
  exact (((ha.mul bp).mul bp).add (hb.mul bp) |>.add hc).mono (by decide)
theorem eqi_pol {m n a b c a2 b2 c2 : Int} (hm : m = 1 ∨ m = 4) (hn : n = 1 ∨ n = 4) (ha : Bd 16 a) (hb : Bd 16 b) (hc : Bd 16 c) (ha2 : Bd 16 a2) (hb2 : Bd 16 b2) (hc2 : Bd 16 c2) : EqI (polM m a b c) (polM n a2 b2 c2) :=
  eqi_y (gd_polM hm ha hb hc) (gd_polM hn ha2 hb2 hc2) (Nat.zero_le _) (Nat.zero_le _) (by
    show ((Int.lcm m n : Nat) : Int) ≤ 4
    rcases hm with rfl | rfl <;> rcases hn with rfl | rfl <;> decide)
theorem add_pol {C x : Addr} {G : Hp} {a b c a2 b2 c2 : Int} (h : IsCt C G x (cmbC 1 (polC a b c) (polC a2 b2 c2))) : IsCt C G x (polC (a + a2) (b + b2) (c + c2)) :=
  h.congr (show ((Int.lcm 1 1 : Nat) : Int) = 1 by decide) (fun r _ => by
    show (4 * a + 1 * (4 * a2), 4 * b + 1 * (4 * b2), 4 * c + 1 * (4 * c2)) = (4 * (a + a2), 4 * (b + b2), 4 * (c + c2))
    rw [Prod.mk.injEq, Prod.mk.injEq]
    omega) rfl fun p hp => absurd hp List.not_mem_nil
def spGrt : Sp := fun vs H Q _ => ∃ q : Int, vs = [.int q] ∧ QR.OP q ∧ q < 20000 ∧ NoT H ∧ ∀ H', Same H H' → NoT H' → Q (.bl true) H'
theorem use_Grt {q : Int} {H : Hp} {Q : VK} {E : XK} (op : QR.OP q) (lt : q < 20000) (nt : NoT H) (k : ∀ H', Same H H' → NoT H' → Q (.bl true) H') : spGrt [.int q] H Q E := ⟨q, rfl, op, lt, nt, k⟩
theorem ok_law_great_prime (T : Txt K mg Ad) : Def P w K mg base 9 "_law_great_prime" ["_law_q"] (spGrt) := by
  refine T.d_law_great_prime.ok sc_law_great_prime (fun vs H Q E h => ?_) (fun f cdv A outer s H vs Q E hr h => ?_)
  · obtain ⟨q, rfl, _⟩ := h
    rfl
  · obtain ⟨p, rfl, op, lt, nt, q⟩ := h
    refine ⟨_, (pss_cons (ps_set (i := 1) sc_law_great_prime.nd rfl (Or.inl rfl) (pe_d (ok_polynomial T) (hr.mono (by decide)) (passes_call (takes_of rfl rfl rfl rfl) (fun _ _ _ _ h => h)) (pa_cons pe_int (pa_cons pe_int (pa_cons (pe_op op_mod (pe_callTy c_int1 (by rfl) T.b_int (by decide +kernel) (pa_cons (pv 0) pa_nil)) pe_int) pa_nil)))))
      (pss_cons (ps_for (passes_of rfl) rfl (pi_range1 (by rfl) T.b_range (pa_cons (pe_op op_fdivB (pv 0) pe_int) pa_nil)) (pg_name (i := 2) sc_law_great_prime.nd rfl (Or.inl rfl)) (pss_one (ps_set (i := 1) sc_law_great_prime.nd rfl (Or.inl rfl) (pe_op (op_binO (m := "__add__") (ok_Count_add T) (by decide +kernel) T.sf_Count T.ty_Count (hr.mono (by decide)) (passes_call (takes_of rfl rfl rfl rfl) (fun _ _ _ _ h => h))) (pv 1) (pe_d (ok_polynomial T) (hr.mono (by decide)) (passes_call (takes_of rfl rfl rfl rfl) (fun _ _ _ _ h => h)) (pa_cons pe_int (pa_cons pe_int (pa_cons pe_int pa_nil))))))))
      (pss_one (ps_ret (pe_cmpR (op_eqO (ok_Primes_eq T) (hr.mono (by decide)) (Nat.lt_of_succ_lt (hu_of hr)) (passes_call (takes_of rfl rfl rfl rfl) (fun _ _ _ _ h => h))) (pe_md (ok_Count_equal T) (pv 1) T.cl_Count (hr.mono (by decide)) (passes_call (takes_of rfl rfl rfl rfl) (fun _ _ _ _ h => h)) (pa_cons (pe_d (ok_polynomial T) (hr.mono (by decide)) (passes_call (takes_of rfl rfl rfl rfl) (fun _ _ _ _ h => h)) (pa_cons pe_int (pa_cons pe_int (pa_cons pe_int pa_nil)))) pa_nil)) (pe_cm (ok_Primes_only T) (pe_glob (v := .ref Ad.c_Primes) rfl T.g_Primes rfl) (hr.mono (by decide)) (passes_call (takes_of rfl rfl rfl rfl) (fun _ _ _ _ h => h)) (pa_cons (pv 0) pa_nil)) (nomark _)))))), ?_⟩
    try dsimp only [cxOf]
    have p3 := op.three
    wtm_at "rs"
    refine use_pol nt (Bd.of (by omega) (by omega)) (Bd.of (by omega) (by omega)) (Bd.of (by omega) (by omega)) fun x H1 s1 n1 hx ix => ?_
    wtm_at "rs"
    refine rd_forR (fun i σ G => ∃ (y : Addr) (v2 : Option V), σ = [some (.int p), some (.ref y), v2] ∧ Same H G ∧ NoT G ∧ IsCt Ad.c_Count G y (polC 0 0 (p % 1000 + 1000 * (i : Int)))) ⟨x, _, rfl, s1, n1, by simpa using ix⟩ ?_ ?_
    · clear ix s1 n1
      rintro i σ G hi ⟨y, v2, rfl, sm, n1, iy⟩
      wtm_at "rs"
      refine use_pol n1 (Bd.of (by omega) (by omega)) (Bd.of (by omega) (by omega)) (Bd.of (by omega) (by omega)) fun z G2 s2 n2 hz iz => ?_
      replace iy := iy.mono s2
      obtain ⟨dx, dl, ds, es, g1, _⟩ := id iy
      obtain ⟨dx2, dl2, ds2, es2, g2, _⟩ := id iz
      wtm_at "rs"
      refine rd_binO g1 g2 ⟨y, z, _, _, rfl, n2, iy, iz, (polM_ok (.inl rfl) (Bd.of (by omega) (by omega)) (Bd.of (by omega) (by omega)) (Bd.of (by omega) (by omega)) : (polM 1 _ _ _).Ok), (polM_ok (.inl rfl) (Bd.of (by omega) (by omega)) (Bd.of (by omega) (by omega)) (Bd.of (by omega) (by omega)) : (polM 1 _ _ _).Ok), fun p hp => absurd hp List.not_mem_nil, show (([] : List Int) ++ []).length < 1000 by decide, fun lt => ?_, fun _ t G3 s3 n3 ht it => ⟨t, rfl, ?_⟩⟩
      · exact absurd lt (show ¬ 4000 < ((Int.lcm 1 1 : Nat) : Int) by decide)
      · wtm_at "rs"
        refine ⟨t, _, rfl, (sm.trans s2).trans s3, n3, ?_⟩
        have h := add_pol it
        have e : p % 1000 + 1000 * ((i + 1 : Nat) : Int) = p % 1000 + 1000 * (i : Int) + 1000 := by omega
        rw [e]
        exact h
    · rintro σ G ⟨y, v2, rfl, sm, n1, iy⟩
      rw [show p % 1000 + 1000 * (((p / 1000).toNat : Nat) : Int) = p by omega] at iy
      obtain ⟨dx, dl, ds, es, g0, _⟩ := id iy
      wtm_at "rs"
      refine use_pol n1 (Bd.of (by omega) (by omega)) (Bd.of (by omega) (by omega)) (Bd.of (by omega) (by omega)) fun z G2 s2 n2 hz iz => ?_
      replace iy := iy.mono s2
      obtain ⟨dx, dl, ds, es, g1, _⟩ := id iy
      wtm_at "rs"
      have ei : EqI (polC 0 0 p) (polC 0 1 0) := eqi_pol (.inl rfl) (.inl rfl) (Bd.of (by omega) (by omega)) (Bd.of (by omega) (by omega)) (Bd.of (by omega) (by omega)) (Bd.of (by omega) (by omega)) (Bd.of (by omega) (by omega)) (Bd.of (by omega) (by omega))
      refine ⟨y, z, _, _, rfl, n2, iy, iz, ei, fun lt => absurd lt (show ¬ 4000 < ((Int.lcm 1 1 : Nat) : Int) by decide), fun le w G3 m R S s3 n3 iw vn => ?_⟩
      have ag : Agr (polC 0 0 p) (polC 0 1 0) m R S := van_agr (polM_ex (m := 1)) (polM_ex (m := 1)) vn
      wtm_at "rs"
      refine use_onlyP (S := [p]) n3 (show 1 ≤ 4000 by decide) (fun q hq => by rw [List.mem_singleton.mp hq]; exact ⟨op, by omega⟩) fun u G4 m' R' S' s4 n4 iu md => ?_
      refine use_PEq T (iw.mono s4) iu n4 ?_
      rw [decide_eq_true (ag.only (show (1 : Int) ≤ 1 by decide) (show (1 : Int) ≤ 1 by decide) md (fun x _ e => ?_) fun r or => ?_)]
      · exact q _ (((sm.trans s2).trans s3).trans s4) n4
      · have e : ((4 * 0, 4 * 0, 4 * p) : Int × Int × Int) = (4 * 0, 4 * 1, 4 * 0) := e
        simp at e
      · rw [show (polC 0 0 p).val r = _ from polM_val (m := 1), show (polC 0 1 0).val r = _ from polM_val (m := 1), List.mem_singleton]
        omega
/-! ### odd_divisors -/
/-- the odd primes of a number, in order -/
def oddL (fs : List (Int × Nat)) : List Int := (fs.filter fun x => decide (x.1 ≠ 2)).map (·.1)
def OddOf (n : Int) (l : List Int) : Prop := l.Pairwise (· < ·) ∧ (∀ p, p ∈ l ↔ QR.OP p ∧ p ∣ n) ∧ l.length < 100
theorem oddL_of {n : Int} {fs : List (Int × Nat)} (h : FacOk n fs) (hn : n < 2 ^ 99) : OddOf n (oddL fs) := by
  refine ⟨?_, fun p => ?_, ?_⟩
  · unfold oddL
    exact List.pairwise_map.mpr ((h.asc.filter _).imp fun z => z)
  · unfold oddL
    rw [List.mem_map]
    constructor
    · rintro ⟨x, hx, rfl⟩
      obtain ⟨hx, ne⟩ := List.mem_filter.mp hx
      have ne := of_decide_eq_true ne
      obtain ⟨hp, d⟩ := h.mem.mp ⟨x, hx, rfl⟩
      refine ⟨⟨hp, QR.pm_odd hp ?_⟩, d⟩
      have := hp.1
      omega
    · rintro ⟨hp, d⟩
      obtain ⟨x, hx, e⟩ := h.mem.mpr ⟨hp.1, d⟩
      refine ⟨x, List.mem_filter.mpr ⟨hx, decide_eq_true fun z => ?_⟩, e⟩
      have := hp.2
      omega
  · unfold oddL
    rw [List.length_map]
    exact Nat.lt_of_le_of_lt (List.length_filter_le _ _) (h.len hn)
def spOddDiv0 : Sp := fun vs H Q E => ∃ n : Int, vs = [.int n] ∧ NoT H ∧ 1 ≤ n ∧ n < 2 ^ 99 ∧ ∀ D H' l, Same H H' → NoT H' → H D = none → H' D = some (.lst (l.map V.int)) → OddOf n l → Q (.ref D) H'
theorem use_oddDiv {n : Int} {H : Hp} {Q : VK} {E : XK} (nt : NoT H) (h1 : 1 ≤ n) (h2 : n < 2 ^ 99) (q : ∀ D H' l, Same H H' → NoT H' → H D = none → H' D = some (.lst (l.map V.int)) → OddOf n l → Q (.ref D) H') : spOddDiv0 [.int n] H Q E := ⟨n, rfl, nt, h1, h2, q⟩
theorem ok_odd_divisors (T : Txt K mg Ad) : Def P w K mg base 2 "odd_divisors" ["modulus"] spOddDiv0 := by
  refine T.d_odd_divisors.ok sc_odd_divisors (fun vs H Q E h => ?_) (fun f cdv A outer s H vs Q E hr h => ?_)
  · obtain ⟨n, rfl, _⟩ := h
    rfl
  · obtain ⟨n, rfl, nt, n1, n2, q⟩ := h
    refine ⟨_, (pss_one (ps_ret (pe_lc (own := [("prime", 1), ("exponent", 2)])  (g := (gTup K 2 (gCons (gName 1) (gCons (gName 2) gNil)))) (te := (tVar 1)) (tt := (tTest (tOp rNe (tVar 1) (tC (.int 2))))) rfl sc_odd_divisors.nd  (pi_list (pe_d (ok_factors T) (hr.mono (by decide)) (passes_call (takes_of rfl rfl rfl rfl) (fun _ _ _ _ h => h)) (pa_cons (pv 0) pa_nil))) (blkOk_by (own := [("prime", 1), ("exponent", 2)]) (N := ["modulus", "prime", "exponent"]) (sc := defScope s_odd_divisors) (by decide +kernel)) (fun _ _ _ _ _ => (pg_tup rfl (pgs_cons (pg_name (i := 1) sc_odd_divisors.nd rfl (Or.inl rfl)) (pgs_cons (pg_name (i := 2) sc_odd_divisors.nd rfl (Or.inl rfl)) pgs_nil)))) (fun _ _ _ _ _ => (pts_one (pt_cmpR op_ne (pv 1) pe_int (nomark _)))) (fun _ _ _ _ _ => (pv 1))))), ?_⟩
    try dsimp only [cxOf]
    wtm_at "rs"
    refine ⟨_, rfl, nt, n1, by omega, ?_⟩
    intro J H1 ts fs sm nt1 hp hp' hl hf
    wtm_at "rs"
    refine rd_lcP (fun i ys => ys = (oddL (fs.take i)).map V.int) (SqL.of hp') nt1 (by simp [oddL]) ?_ ?_
    · rintro D i ys x H2 hx sm2 nt2 hD h2 rfl
      obtain ⟨t, l, rfl, ht, hlx⟩ := hl.at hx
      rw [List.getElem?_map] at hlx
      obtain ⟨⟨q, e⟩, hy, rfl⟩ := Option.map_eq_some_iff.mp hlx
      have er : fs.take (i + 1) = fs.take i ++ [(q, e)] := by rw [List.take_add_one, hy]; rfl
      have hq := hf.prime _ (List.mem_of_getElem? hy)
      have hT : SqT K H2 t [.int q, .int (e : Int)] := SqT.of (sm2 _ _ ht)
      have few : ((oddL (fs.take i)).map V.int).length < sizeLine := by
        refine Nat.lt_of_le_of_lt ?_ (show 100 < sizeLine by decide)
        unfold oddL
        rw [List.length_map, List.length_map]
        refine Nat.le_trans (List.length_filter_le _ _) ?_
        rw [List.length_take]
        have := hf.len n2
        omega
      refine rd_gtup hT rfl ?_
      wtm_at "rs"
      refine ⟨rfl, ?_⟩
      wtm_at "rs"
      wtm_at "i"
      · rename_i h
        wtm_at "rs"
        refine put_P (P := fun ys => ys = (oddL (fs.take (i + 1))).map V.int) h2 few sm2 hD nt2 ?_
        rw [er]
        unfold oddL
        simp [h]
      · rename_i h
        wtm_at "rs"
        refine ⟨_, h2, sm2, nt2, ?_⟩
        rw [er]
        unfold oddL
        have h : q = 2 := by omega
        simp [h]
    · rintro D ys H2 hD h2 sm2 nt2 rfl
      rw [List.length_map, hl.len, List.length_map, List.take_length] at h2
      exact q D H2 _ (sm.trans sm2) nt2 (Same.free sm hD) h2 (oddL_of hf n2)
/-! ### Primes.by_rest -/
structure ByRest (m : Int) (T : List Int) (m' : Int) (R' S' : List Int) : Prop where
  least : IsLeast m' R' S'
  dvd : m' ∣ m
  germ : ∀ x, Int.gcd x m = 1 → decide (x % m' ∈ R') = decide (x % m ∈ T)
  mem : ∀ p, QR.OP p → decide (memP m' R' S' p) = decide (p % m ∈ T)
  few : S'.length ≤ 111
  src : ∀ p ∈ S', p ∣ m
theorem by_of {m m' : Int} {T R' S' ol : List Int} (p1 : 1 ≤ m) (oo : OddOf m ol) (md : Made m (T.filter fun r => decide (Int.gcd r m = 1)) (ol.filter fun p => decide (p % m ∈ T)) m' R' S') : ByRest m T m' R' S' := by
  have g : ∀ x, Int.gcd x m = 1 → (x % m ∈ T.filter (fun r => decide (Int.gcd r m = 1)) ↔ x % m ∈ T) := fun x hx => by
    rw [List.mem_filter, decide_eq_true_iff]
    exact ⟨fun z => z.1, fun z => ⟨z, QR.cop_emod.mpr hx⟩⟩
  refine ⟨md.least, md.sub.dvd, fun x hx => dec_iff.mpr ((md.sub.same x hx).trans (g x hx)), fun p hp => ?_, ?_, fun p hp => ?_⟩
  · rw [dec_iff.mpr (md.mem p (.inl hp))]
    refine dec_iff.mpr ?_
    unfold memP toldP
    have e : p ∈ ol.filter (fun p => decide (p % m ∈ T)) ↔ p ∣ m ∧ p % m ∈ T := by
      rw [List.mem_filter, oo.2.1 p, decide_eq_true_iff]
      simp [hp]
    rw [e]
    by_cases d : p ∣ m
    · simp [d]
    · rw [g p ((QR.pm_cop hp.1).mpr d)]
      simp [d]
  · have a := md.few
    have b := List.length_filter_le (fun p => decide (p % m ∈ T)) ol
    have := oo.2.2
    omega
  · rcases md.src p hp with z | z
    · exact ((oo.2.1 p).mp ((List.mem_filter.mp z).1)).2
    · exact z
theorem ByRest.pf {m m' : Int} {T R' S' : List Int} (h : ByRest m T m' R' S') (m1 : 1 ≤ m) (m4 : m ≤ 4000) : Pf m 111 (fun x => decide (x % m ∈ T)) (fun p => decide (p % m ∈ T)) m' R' S' := ⟨⟨h.least, h.dvd, h.germ, h.mem⟩, h.few, fun p hp => by
  have := Int.le_of_dvd (by omega) (h.src p hp)
  omega⟩
def spBy (C CM CW CR : Addr) : Sp := fun vs H Q E => ∃ (t : Addr) (m : Int) (T : List Int), vs = [.ref C, .int m, .ref t] ∧ NoT H ∧ H t = some (.tup (T.map V.int)) ∧ T.length ≤ 4000 ∧
  (m < 1 → ∀ d, H d = none → E (.ref CM) (some d) (upd H d (.xd [("modulus", .int m)]))) ∧ (4000 < m → ∀ d, H d = none → E (.ref CW) (some d) (upd H d (.xd [("modulus", .int m)]))) ∧
  (1 ≤ m → m ≤ 4000 → (∀ l r rs, T = l ++ r :: rs → (∀ o ∈ l, 0 ≤ o ∧ o < m) → ¬ (0 ≤ r ∧ r < m) → ∀ d, H d = none → E (.ref CR) (some d) (upd H d (.xd [("rest", .int r)]))) ∧
    ((∀ o ∈ T, 0 ≤ o ∧ o < m) → ∀ (x : Addr) (H' : Hp) (m' : Int) (R' S' : List Int), Same H H' → NoT H' → H x = none → IsP C H' x m' R' S' → ByRest m T m' R' S' → Q (.ref x) H'))
abbrev spByS (C CM CW CR : Addr) : Sp := fun vs H Q E => ∃ ws rest, vs = ws ++ rest ∧ ws.length = ["cls", "modulus"].length ∧ rest.length ≤ sizeLine ∧ ∀ p, H p = none → spBy C CM CW CR (ws ++ [V.ref p]) (upd H p (.tup rest)) Q E
theorem use_by {C CM CW CR : Addr} {m : Int} {T : List Int} {H : Hp} {Q : VK} {E : XK} {vs : List V} (e : vs = .int m :: T.map V.int) (nt : NoT H) (l : T.length ≤ 4000) (m1 : 1 ≤ m) (m2 : m ≤ 4000) (h : ∀ o ∈ T, 0 ≤ o ∧ o < m) (q : ∀ (x : Addr) (H' : Hp) (m' : Int) (R' S' : List Int), Same H H' → NoT H' → H x = none → IsP C H' x m' R' S' → ByRest m T m' R' S' → Q (.ref x) H') : spByS C CM CW CR (.ref C :: vs) H Q E :=
  ⟨[.ref C, .int m], T.map V.int, by rw [e]; rfl, rfl, by rw [List.length_map]; exact Nat.le_trans l (by decide), fun p hp => ⟨p, m, T, rfl, NoT.upd nt rfl, upd_same, l, fun z => by omega, fun z => by omega, fun _ _ => ⟨fun l r rs e _ n => absurd (h r (by rw [e]; simp)) n, fun _ x H' m' R' S' sm n f ip md => q x H' m' R' S' ((same_new hp).trans sm) n ((same_new hp).free f) ip md⟩⟩⟩
theorem ok_Primes_by_rest (T : Txt K mg Ad) : CMDef P w K mg base 7 Ad.c_Primes "by_rest" (spByS Ad.c_Primes Ad.c_BadModulus Ad.c_TooWide Ad.c_BadRest) := by
  refine T.d_Primes_by_rest.okStar (ps := ["cls", "modulus"]) (sp := spBy Ad.c_Primes Ad.c_BadModulus Ad.c_TooWide Ad.c_BadRest) sc_Primes_by_rest (fun _ _ _ _ _ _ => StX.bind_star2 (B := fun l => bindArgs _ ⟨l, []⟩) (fun a b => rfl) (fun a b r rs => rfl)) (fun f cdv A outer s H vs Q E hr h => ?_)
  obtain ⟨t, m, R, rfl, nt, ht, lR, qm, qw, h⟩ := h
  refine ⟨_, (pss_cons (ps_expr (pe_d (ok_checked_modulus_values T) (hr.mono (by decide)) (passes_call (takes_of rfl rfl rfl rfl) (fun _ _ _ _ h => h)) (pa_cons (pv 1) pa_nil)))
      (pss_cons (ps_for (passes_of rfl) rfl (pi_tup (pv 2)) (pg_name (i := 3) sc_Primes_by_rest.nd rfl (Or.inl rfl)) (pss_one (ps_if (PW.pt (pw_or (pt_cmpR op_lt (pv 3) pe_int (nomark _)) (pw_or1 (pt_cmpR op_ge (pv 3) (pv 1) (nomark _))))) (pss_one (ps_raise rfl (takes_of rfl rfl rfl rfl) (pmk_err (T.err_BadRest) (hr.mono (by decide)) (pa_cons (pv 3) pa_nil)))) pss_nil)))
      (pss_cons (ps_setLc (i := 4) (own := [("rest", 3)])  (te := (tVar 3)) (tt := (tTest (tOp rEq (tCall (spCommon) [] E0 (tCons (tVar 3) (tCons (tVar 1) tNil))) (tC (.int 1))))) rfl sc_Primes_by_rest.nd rfl rfl (sw_true rfl rfl rfl (by decide +kernel)) (pi_tup (pv 2)) (blkOk_by (own := [("rest", 3)]) (N := ["cls", "modulus", "rests", "rest", "coprime", "p"]) (sc := defScope s_Primes_by_rest) (by decide +kernel)) (fun _ _ _ _ _ => (pg_name (i := 3) sc_Primes_by_rest.nd rfl (Or.inl rfl))) (fun _ _ _ _ _ => (pts_one (pt_cmpR op_eq (pe_d (E := E0) (ok_common T) (hr.mono (by decide)) passL (pa_cons (pv 3) (pa_cons (pv 1) pa_nil))) pe_int (nomark _)))) (fun _ _ _ _ _ => (pv 3)))
      (pss_one (ps_ret (pe_mkL (ok_Primes_init T) (pv 0) (hr.mono (by decide)) (passes_call (takes_of rfl rfl rfl rfl) (fun _ _ _ _ h => h)) (pa_cons (pv 1) (pa_cons (pv 4) (pa_cons (pe_lc (own := [("p", 5)])  (te := (tVar 5)) (tt := (tTest (tOp (rIn K false) (tOp (rI (fun _ j => 0 < j) fun i j => .int (i % j)) (tVar 5) (tVar 1)) (tVar 2)))) rfl sc_Primes_by_rest.nd  (pi_list (pe_d (ok_odd_divisors T) (hr.mono (by decide)) (passes_call (takes_of rfl rfl rfl rfl) (fun _ _ _ _ h => h)) (pa_cons (pv 1) pa_nil))) (blkOk_by (own := [("p", 5)]) (N := ["cls", "modulus", "rests", "rest", "coprime", "p"]) (sc := defScope s_Primes_by_rest) (by decide +kernel)) (fun _ _ _ _ _ => (pg_name (i := 5) sc_Primes_by_rest.nd rfl (Or.inl rfl))) (fun _ _ _ _ _ => (pts_one (pt_cmpR op_in_seq (pe_op op_mod (pv 5) (pv 1)) (pv 2) (by rfl)))) (fun _ _ _ _ _ => (pv 5))) pa_nil))))))))), ?_⟩
  try dsimp only [cxOf]
  wtm_at "rs"
  refine ⟨m, rfl, qm, qw, fun m1 m2 => ?_⟩
  obtain ⟨qr, q⟩ := h m1 m2
  have hT := SqT.of (K := K) ht
  wtm_at "rs"
  refine rd_forTs (fun i σ => ∃ v3, σ = [some (.ref Ad.c_Primes), some (.int m), some (.ref t), v3, none, none] ∧ ∀ o ∈ R.take i, 0 ≤ o ∧ o < m) hT ⟨_, rfl, by simp⟩ ?_ ?_
  · rintro i v σ hi ⟨v3, rfl, low⟩
    rw [List.getElem?_map] at hi
    obtain ⟨r, hr', rfl⟩ := Option.map_eq_some_iff.mp hi
    have hil := (List.getElem?_eq_some_iff.mp hr').1
    have er : R.take (i + 1) = R.take i ++ [r] := by rw [List.take_add_one, hr']; rfl
    have bad : ¬ (0 ≤ r ∧ r < m) → ∀ d, H d = none → E (.ref Ad.c_BadRest) (some d) (upd H d (.xd [("rest", .int r)])) := qr (R.take i) r (R.drop (i + 1)) (by
      have := (List.take_append_drop i R).symm
      rw [List.drop_eq_getElem_cons hil, (List.getElem?_eq_some_iff.mp hr').2] at this
      exact this) low
    wtm_at "rs"
    by_cases h1 : r < 0
    · rw [if_pos (decide_eq_true h1), if_pos rfl]
      wtm_at "rs"
      exact bad fun z => by have := z.1; omega
    · rw [if_neg (by rw [decide_eq_true_iff]; exact h1)]
      wtm_at "rs"
      by_cases h2 : m ≤ r
      · rw [if_pos (decide_eq_true h2)]
        wtm_at "rs"
        exact bad fun z => by have := z.2; omega
      · rw [if_neg (by rw [decide_eq_true_iff]; exact h2)]
        wtm_at "rs"
        refine ⟨rfl, _, rfl, fun o ho => ?_⟩
        rw [er] at ho
        rcases List.mem_append.mp ho with ho | ho
        · exact low o ho
        · rw [List.mem_singleton.mp ho]
          exact ⟨by omega, by omega⟩
  · rintro σ ⟨v3, rfl, low⟩
    rw [List.length_map, List.take_length] at low
    replace q := q low
    have B := Hv.start nt
    wtm_at "rs"
    refine rd_lcIT (fun r => decide (Int.gcd r m = 1)) V.int hT (fun D l x r hD hx => ?_) fun D1 hD1 => ?_
    · wtm_at "r"
      refine ⟨rfl, ?_⟩
      wtm_at "rs"
      wtm_at "i"
      · rename_i c
        wtm_at "rs"
        exact put_I (by
          have := congrArg List.length hx
          rw [List.length_append] at this
          omega) (decide_eq_true (by omega)) rfl
      · rename_i c
        exact skip_I (decide_eq_false fun z => c (by omega))
    have B := B.newL (o := .lst ((R.filter fun r => decide (Int.gcd r m = 1)).map V.int)) hD1
    clear hD1
    refine B.gen fun G B => ?_
    wtm_at "rs"
    refine use_oddDiv B.nt m1 (by omega) fun O G2 ol s2 n2 hO hO' oo => ?_
    have B := B.got s2 n2 hO hO'
    clear s2 n2 hO hO'
    refine B.gen fun G B => ?_
    have f3 := oo.2.2
    wtm_at "rs"
    refine rd_lcI (fun p => decide (p % m ∈ R)) V.int (SqL.of (B.lAt (a := O) (by wtm_at "mem"))) (fun D l x r hD hx => ?_) fun D2 hD2 => ?_
    · have hT' := B.oAt ht
      wtm_at "r"
      refine ⟨rfl, ?_⟩
      wtm_at "rs"
      refine rd_inTs (SqT.of (upd_keep hT' hD)) ?_
      refine ⟨_, rfl, ?_⟩
      by_cases c : x % m ∈ R
      · rw [if_pos (decide_eq_true c)]
        wtm_at "rs"
        exact put_I (by
          have := congrArg List.length hx
          rw [List.length_append] at this
          omega) (decide_eq_true c) rfl
      · rw [if_neg (by rw [decide_eq_true_iff]; exact c)]
        exact skip_I (decide_eq_false c)
    have B := B.newL (o := .lst ((ol.filter fun p => decide (p % m ∈ R)).map V.int)) hD2
    clear hD2
    refine B.gen fun G B => ?_
    wtm_at "rs"
    have fl1 := List.length_filter_le (fun r => decide (Int.gcd r m = 1)) R
    have fl2 := List.length_filter_le (fun p => decide (p % m ∈ R)) ol
    refine mk_P B.nt (.inl (SqL.of (B.lAt (a := D1) (by wtm_at "mem")))) (.inl (SqL.of (B.lAt (a := D2) (by wtm_at "mem")))) (by omega) (by omega) (fun p hp => by
      have := Int.le_of_dvd (by omega) ((oo.2.1 p).mp ((List.mem_filter.mp hp).1)).2
      omega) m1 m2 (fun k hk => ?_) (fun p hp => ((oo.2.1 p).mp ((List.mem_filter.mp hp).1)).1) fun x G2 m' R' S' s2 n2' hx ip' md => ?_
    · obtain ⟨c, d⟩ := List.mem_filter.mp hk
      exact ⟨(low k c).1, (low k c).2, of_decide_eq_true d⟩
    · exact q x G2 m' R' S' (B.same.trans s2) n2' (B.free hx) ip' (by_of m1 oo md)
/-! ### joined_answer -/
def joinB (r : Str) (a b : Bool) : Bool := if r = "and" then a && b else if r = "or" then a || b else a && !b
def spJoined : Sp := fun vs H Q _ => ∃ (r : Str) (a b : Bool), vs = [.str r, .bl a, .bl b] ∧ Q (.bl (joinB r a b)) H
theorem use_joined {r : Str} {a b : Bool} {H : Hp} {Q : VK} {E : XK} (q : Q (.bl (joinB r a b)) H) : spJoined [.str r, .bl a, .bl b] H Q E := ⟨r, a, b, rfl, q⟩
local macro_rules | `(tactic| wtm_at "s") => `(tactic| (with_reducible refine use_joined ?_))
theorem join_and : joinB "and" = (· && ·) := by funext a b; unfold joinB; rw [if_pos rfl]
theorem ok_joined_answer (T : Txt K mg Ad) : Def P w K mg base 1 "joined_answer" ["rule", "first", "second"] spJoined := by
  refine T.d_joined_answer.ok sc_joined_answer (fun vs H Q E h => ?_) (fun f cdv A outer s H vs Q E hr h => ?_)
  · obtain ⟨r, a, b, rfl, _⟩ := h
    rfl
  · obtain ⟨r, a, b, rfl, q⟩ := h
    refine ⟨_, (pss_cons (ps_if (pt_cmpR op_eq (pv 0) pe_str (nomark _)) (pss_one (ps_ret (pe_and (pv 1) (pe_one (pv 2))))) pss_nil)
      (pss_cons (ps_if (pt_cmpR op_eq (pv 0) pe_str (nomark _)) (pss_one (ps_ret (pe_or (pv 1) (pe_one (pv 2))))) pss_nil)
      (pss_one (ps_ret (pe_and (pv 1) (pe_one (pe_not (pv 2)))))))), ?_⟩
    try dsimp only [cxOf]
    unfold joinB at q
    wtm_at "rs"
    by_cases h1 : r = "and"
    · rw [if_pos (decide_eq_true h1)]
      rw [if_pos h1] at q
      cases a <;> (wtm_at "rs"; exact q)
    · rw [if_neg (by rw [decide_eq_true_iff]; exact h1)]
      rw [if_neg h1] at q
      wtm_at "rs"
      by_cases h2 : r = "or"
      · rw [if_pos (decide_eq_true h2)]
        rw [if_pos h2] at q
        cases a <;> (wtm_at "rs"; exact q)
      · rw [if_neg (by rw [decide_eq_true_iff]; exact h2)]
        rw [if_neg h2] at q
        cases a <;> (wtm_at "rs"; exact q)
/-! ### combined_values -/
def spComb (C CW : Addr) : Sp := fun vs H Q E => ∃ (a b : Addr) (rule : Str) (m1 m2 : Int) (R1 S1 R2 S2 : List Int), vs = [.ref a, .ref b, .str rule] ∧ NoT H ∧ IsP C H a m1 R1 S1 ∧ IsP C H b m2 R2 S2 ∧ SetOk m1 R1 S1 ∧ SetOk m2 R2 S2 ∧
  (4000 < ((Int.lcm m1 m2 : Nat) : Int) → ∀ d, H d = none → E (.ref CW) (some d) (upd H d (.xd [("modulus", .int ((Int.lcm m1 m2 : Nat) : Int))]))) ∧
  (((Int.lcm m1 m2 : Nat) : Int) ≤ 4000 → ∀ (x : Addr) (H' : Hp) (m' : Int) (R' S' : List Int), Same H H' → NoT H' → H x = none → IsP C H' x m' R' S' → Comb (joinB rule) m1 R1 S1 m2 R2 S2 m' R' S' → Q (.ref x) H')
theorem ok_combined_values (T : Txt K mg Ad) : Def P w K mg base 7 "combined_values" ["first", "second", "rule"] (spComb Ad.c_Primes Ad.c_TooWide) := by
  refine T.d_combined_values.ok sc_combined_values (fun vs H Q E h => ?_) (fun f cdv A outer s H vs Q E hr h => ?_)
  · obtain ⟨a, b, r, m1, m2, R1, S1, R2, S2, rfl, _⟩ := h
    rfl
  · obtain ⟨a, b, r, m1, m2, R1, S1, R2, S2, rfl, nt, ip1, ip2, o1, o2, qw, q⟩ := h
    refine ⟨_, (pss_cons (ps_set (i := 3) sc_combined_values.nd rfl (Or.inl rfl) (pe_op op_fdivB (pe_op op_mulB (pe_fldC (pv 0) T.cl_Primes T.nf_Primes_modulus) (pe_fldC (pv 1) T.cl_Primes T.nf_Primes_modulus)) (pe_d (ok_common T) (hr.mono (by decide)) (passes_call (takes_of rfl rfl rfl rfl) (fun _ _ _ _ h => h)) (pa_cons (pe_fldC (pv 0) T.cl_Primes T.nf_Primes_modulus) (pa_cons (pe_fldC (pv 1) T.cl_Primes T.nf_Primes_modulus) pa_nil)))))
      (pss_cons (ps_if (pt_cmpR op_gt (pv 3) (pe_glob (v := .int 4000) rfl T.k_MOST_MODULUS ⟨_, rfl⟩) (nomark _)) (pss_one (ps_raise rfl (takes_of rfl rfl rfl rfl) (pmk_err (T.err_TooWide) (hr.mono (by decide)) (pa_cons (pv 3) pa_nil)))) pss_nil)
      (pss_cons (ps_setDc (i := 5) (own := [("rest", 4)]) (tk := (tVar 4)) (tv := (tC (.bl true))) rfl sc_combined_values.nd rfl rfl (sw_dc rfl rfl rfl (by decide +kernel)) (pi_tup (pe_fldC (pv 0) T.cl_Primes T.nf_Primes_rests)) (blkOk_by (own := [("rest", 4)]) (N := ["first", "second", "rule", "modulus", "rest", "first_rests", "second_rests", "rests", "one", "singles", "p"]) (sc := defScope s_combined_values) (by decide +kernel)) (fun _ _ _ _ _ => (pg_name (i := 4) sc_combined_values.nd rfl (Or.inl rfl))) (fun _ _ _ _ _ => pts_nil) (fun _ _ _ _ _ => (pv 4)) (fun _ _ _ _ _ => pe_bl))
      (pss_cons (ps_setDc (i := 6) (own := [("rest", 4)]) (tk := (tVar 4)) (tv := (tC (.bl true))) rfl sc_combined_values.nd rfl rfl (sw_dc rfl rfl rfl (by decide +kernel)) (pi_tup (pe_fldC (pv 1) T.cl_Primes T.nf_Primes_rests)) (blkOk_by (own := [("rest", 4)]) (N := ["first", "second", "rule", "modulus", "rest", "first_rests", "second_rests", "rests", "one", "singles", "p"]) (sc := defScope s_combined_values) (by decide +kernel)) (fun _ _ _ _ _ => (pg_name (i := 4) sc_combined_values.nd rfl (Or.inl rfl))) (fun _ _ _ _ _ => pts_nil) (fun _ _ _ _ _ => (pv 4)) (fun _ _ _ _ _ => pe_bl))
      (pss_cons (ps_set (i := 7) sc_combined_values.nd rfl (Or.inl rfl) pe_dnewK)
      (pss_cons (ps_for (passes_of rfl) rfl (pi_list (pe_d (ok_units_values T) (hr.mono (by decide)) (passes_call (takes_of rfl rfl rfl rfl) (fun _ _ _ _ h => h)) (pa_cons (pv 3) pa_nil))) (pg_name (i := 4) sc_combined_values.nd rfl (Or.inl rfl)) (pss_cons (ps_set (i := 8) sc_combined_values.nd rfl (Or.inl rfl) (pe_cmp (pc_din (hu_of hr) (pe_op op_mod (pv 4) (pe_fldC (pv 0) T.cl_Primes T.nf_Primes_modulus)) (pv 5)) rfl))
      (pss_one (ps_if (pt_val (pe_d (ok_joined_answer T) (hr.mono (by decide)) (passes_call (takes_of rfl rfl rfl rfl) (fun _ _ _ _ h => h)) (pa_cons (pv 2) (pa_cons (pv 8) (pa_cons (pe_cmp (pc_din (hu_of hr) (pe_op op_mod (pv 4) (pe_fldC (pv 1) T.cl_Primes T.nf_Primes_modulus)) (pv 6)) rfl) pa_nil))))) (pss_one (ps_dput (hu_of hr) (pv 7) (pv 4) pe_bl rfl)) pss_nil))))
      (pss_cons (ps_set (i := 9) sc_combined_values.nd rfl (Or.inl rfl) (pe_lst pa_nil))
      (pss_cons (ps_for (passes_of rfl) rfl (pi_list (pe_callB (cr_sortSetN rfl) (by rfl) T.b_sorted (by decide +kernel) (pa_cons (pe_callTy (cr_setOf rfl) (by rfl) T.b_set (by decide +kernel) (pa_cons (pe_op op_cat (pe_op op_cat (pe_d (ok_odd_divisors T) (hr.mono (by decide)) (passes_call (takes_of rfl rfl rfl rfl) (fun _ _ _ _ h => h)) (pa_cons (pv 3) pa_nil)) (pe_callTy c_listOf (by rfl) T.b_list (by decide +kernel) (pa_cons (pe_fldC (pv 0) T.cl_Primes T.nf_Primes_singles) pa_nil))) (pe_callTy c_listOf (by rfl) T.b_list (by decide +kernel) (pa_cons (pe_fldC (pv 1) T.cl_Primes T.nf_Primes_singles) pa_nil))) pa_nil)) pa_nil))) (pg_name (i := 10) sc_combined_values.nd rfl (Or.inl rfl)) (pss_one (ps_if (pt_cmpR op_ne (pe_d (ok_joined_answer T) (hr.mono (by decide)) (passes_call (takes_of rfl rfl rfl rfl) (fun _ _ _ _ h => h)) (pa_cons (pv 2) (pa_cons (pe_cmpR (op_inO (ok_Primes_contains T) (hr.mono (by decide)) (passes_call (takes_of rfl rfl rfl rfl) (fun _ _ _ _ h => h))) (pv 10) (pv 0) (by rfl)) (pa_cons (pe_cmpR (op_inO (ok_Primes_contains T) (hr.mono (by decide)) (passes_call (takes_of rfl rfl rfl rfl) (fun _ _ _ _ h => h))) (pv 10) (pv 1) (by rfl)) pa_nil)))) (pe_d (ok_told_by T) (hr.mono (by decide)) (passes_call (takes_of rfl rfl rfl rfl) (fun _ _ _ _ h => h)) (pa_cons (pv 3) (pa_cons (pv 7) (pa_cons (pv 10) pa_nil)))) (nomark _)) (pss_one (ps_expr (pe_bm PySem.F.plainAttrs_list PySem.F.slot_list_append PySem.F.type_list_append mt_append (pv 9) (pa_cons (pv 10) pa_nil)))) pss_nil)))
      (pss_one (ps_ret (pe_mkd (ok_Primes_init T) (hr.mono (by decide)) (passes_call (takes_of rfl rfl rfl rfl) (fun _ _ _ _ h => h)) (pa_cons (pv 3) (pa_cons (pe_callTy (c_listD rfl) (by rfl) T.b_list (by decide +kernel) (pa_cons (pv 7) pa_nil)) (pa_cons (pv 9) pa_nil)))))))))))))), ?_⟩
    try dsimp only [cxOf]
    have B := (Hv.start nt).rig ip1.rig |>.rig ip2.rig
    obtain ⟨dx, tR, tS, h1, h2, h3⟩ := id ip1
    obtain ⟨dy, uR, uS, g1, g2, g3⟩ := id ip2
    have p1 := o1.least.desc.pos
    have p2 := o2.least.desc.pos
    have l1 := o1.le
    have l2 := o2.le
    have gp : 1 ≤ ((Int.gcd m1 m2 : Nat) : Int) := by
      have : Int.gcd m1 m2 ≠ 0 := fun z => by
        have := (Int.gcd_eq_zero_iff.mp z).1
        omega
      omega
    have pp : 0 ≤ m1 * m2 := Int.mul_nonneg (by omega) (by omega)
    have pq : m1 * m2 ≤ 4000 * 4000 := Int.mul_le_mul l1 l2 (by omega) (by omega)
    have gm : ((Int.gcd m1 m2 : Nat) : Int) ≤ m1 := Int.le_of_dvd (by omega) (Int.gcd_dvd_left ..)
    wtm_at "rs"
    rw [lcm_quot p1 p2]
    have Lp := lcm_pos p1 p2
    have hLd : ∃ L, L = ((Int.lcm m1 m2 : Nat) : Int) := ⟨_, rfl⟩
    obtain ⟨L, hL⟩ := hLd
    rw [← hL] at qw q Lp ⊢
    by_cases wd : 4000 < L
    · rw [if_pos (decide_eq_true wd)]
      wtm_at "rs"
      exact qw wd
    rw [if_neg (by rw [decide_eq_true_iff]; exact wd)]
    have L4 : L ≤ 4000 := by omega
    replace q := q L4
    clear qw
    have lr1 := least_len o1.least l1
    have lr2 := least_len o2.least l2
    wtm_at "rs"
    refine rd_dcTF (SqT.of h2) (fun D l x r hD hx => ?_) fun D1 hD1 => ?_
    · wtm_at "r"
      refine ⟨rfl, ?_⟩
      wtm_at "rs"
      exact put_F (by
        have := congrArg List.length hx
        rw [List.length_append] at this
        omega) rfl
    have B := B.newL (o := DFl (ofL R1)) hD1
    clear hD1
    refine B.gen fun G B => ?_
    wtm_at "rs"
    refine rd_dcTF (SqT.of (B.oAt g2)) (fun D l x r hD hx => ?_) fun D2 hD2 => ?_
    · wtm_at "r"
      refine ⟨rfl, ?_⟩
      wtm_at "rs"
      exact put_F (by
        have := congrArg List.length hx
        rw [List.length_append] at this
        omega) rfl
    have B := B.newL (o := DFl (ofL R2)) hD2
    clear hD2
    refine B.gen fun G B => ?_
    wtm_at "rs"
    intro Dk hDk
    have B := B.new (o := DFl []) hDk
    clear hDk
    refine B.gen fun G B => ?_
    wtm_at "rs"
    refine use_units Lp (by omega) fun U hU => ?_
    have B := B.newL (o := .lst ((uL L).map V.int)) hU
    clear hU
    refine B.gen fun G B => ?_
    wtm_at "rs"
    refine rd_forL (xs := (uL L).map V.int) (fun i σ G => ∃ v4 v8, σ = [some (.ref a), some (.ref b), some (.str r), some (.int L), v4, some (.ref D1), some (.ref D2), some (.ref Dk), v8, none, none] ∧ Hv noX H [(Dk, DFl (((uL L).take i).filter fun r' => joinB r (decide (r' % m1 ∈ R1)) (decide (r' % m2 ∈ R2))))] [(U, .lst ((uL L).map V.int)), (D2, DFl (ofL R2)), (D1, DFl (ofL R1))] [fun G => IsP Ad.c_Primes G b m2 R2 S2, fun G => IsP Ad.c_Primes G a m1 R1 S1] G) ⟨_, _, rfl, B⟩ (fun i σ G _ ⟨_, _, _, B⟩ => SqL.of (B.lAt (a := U) (by wtm_at "mem"))) ?_ ?_
    · clear B
      rintro i v σ G hi ⟨v4, v8, rfl, B⟩
      rw [List.getElem?_map] at hi
      obtain ⟨x, hx, rfl⟩ := Option.map_eq_some_iff.mp hi
      have er : (uL L).take (i + 1) = (uL L).take i ++ [x] := by rw [List.take_add_one, hx]; rfl
      have hil := (List.getElem?_eq_some_iff.mp hx).1
      have few : (((uL L).take i).filter fun r' => joinB r (decide (r' % m1 ∈ R1)) (decide (r' % m2 ∈ R2))).length < 1000000 := by
        have := List.length_filter_le (fun r' => joinB r (decide (r' % m1 ∈ R1)) (decide (r' % m2 ∈ R2))) ((uL L).take i)
        rw [List.length_take] at this
        have := @uL_len L
        omega
      have nw : x ∉ ((uL L).take i).filter fun r' => joinB r (decide (r' % m1 ∈ R1)) (decide (r' % m2 ∈ R2)) := fun z => by
        have h := @uL_inc L
        rw [← List.take_append_drop (i + 1) (uL L), er, List.append_assoc] at h
        have := (List.pairwise_append.mp h).2.2 x ((List.mem_filter.mp z).1) x List.mem_cons_self
        omega
      wtm_at "rs"
      rw [show decide (x % m1 ∈ ofL R1) = decide (x % m1 ∈ R1) from dec_iff.mpr mem_ofL, show decide (x % m2 ∈ ofL R2) = decide (x % m2 ∈ R2) from dec_iff.mpr mem_ofL]
      cases hj : joinB r (decide (x % m1 ∈ R1)) (decide (x % m2 ∈ R2)) with
      | true =>
        rw [if_pos rfl]
        wtm_at "rs"
        refine rd_dputF (B.mAt (a := Dk) (by wtm_at "mem")) few ?_
        rw [insL_new nw]
        refine ⟨_, _, rfl, ?_⟩
        rw [er, filt_snoc_t (p := fun r' => joinB r (decide (r' % m1 ∈ R1)) (decide (r' % m2 ∈ R2))) hj]
        exact B.put
      | false =>
        rw [if_neg Bool.false_ne_true]
        wtm_at "rs"
        refine ⟨_, _, rfl, ?_⟩
        rw [er, filt_snoc_f (p := fun r' => joinB r (decide (r' % m1 ∈ R1)) (decide (r' % m2 ∈ R2))) hj]
        exact B
    clear B
    rintro σ G ⟨v4, v8, rfl, B⟩
    rw [List.length_map, List.take_length] at B
    have eJ : ((uL L).filter fun r' => joinB r (decide (r' % m1 ∈ R1)) (decide (r' % m2 ∈ R2))) = jR (joinB r) L m1 R1 m2 R2 := rfl
    rw [eJ] at B
    have B := B.fix
    have JRu : ∀ k ∈ jR (joinB r) L m1 R1 m2 R2, k ∈ uL L := fun k hk => (mem_jR.mp hk).1
    have JRn : (jR (joinB r) L m1 R1 m2 R2).length ≤ 4000 := Nat.le_trans (List.length_filter_le _ _) (by have := @uL_len L; omega)
    wtm_at "rs"
    rename_i Dg hDg
    have B := B.new (o := .lst []) hDg
    clear hDg
    refine B.gen fun G B => ?_
    refine use_oddDiv B.nt Lp (by omega) fun O G2 ol s2 n2 hO hO' oo => ?_
    have B := B.got s2 n2 hO hO'
    clear s2 n2 hO hO'
    refine B.gen fun G B => ?_
    wtm_at "rs"
    refine rd_listOfT (SqT.of (B.oAt h3)) fun K1 hK1 => ?_
    have B := B.newL (o := .lst (S1.map V.int)) hK1
    clear hK1
    refine B.gen fun G B => ?_
    have f1 := o1.few
    have f2 := o2.few
    have f3 := oo.2.2
    wtm_at "rs"
    refine rd_cat (B.lAt (a := O) (by wtm_at "mem")) (B.lAt (a := K1) (by wtm_at "mem")) (room2 (n := 100) (m := 1000) (by rw [List.length_map]; omega) (by rw [List.length_map]; omega) (by decide)) fun K2 hK2 => ?_
    have B := B.newL (o := .lst (ol.map V.int ++ S1.map V.int)) hK2
    clear hK2
    refine B.gen fun G B => ?_
    wtm_at "rs"
    refine rd_listOfT (SqT.of (B.oAt g3)) fun K3 hK3 => ?_
    have B := B.newL (o := .lst (S2.map V.int)) hK3
    clear hK3
    refine B.gen fun G B => ?_
    wtm_at "rs"
    refine rd_cat (B.lAt (a := K2) (by wtm_at "mem")) (B.lAt (a := K3) (by wtm_at "mem")) (room2 (n := 1100) (m := 1000) (by rw [List.length_append, List.length_map, List.length_map]; omega) (by rw [List.length_map]; omega) (by decide)) fun K4 hK4 => ?_
    rw [← List.map_append, ← List.map_append] at *
    have B := B.newL (o := .lst ((ol ++ S1 ++ S2).map V.int)) hK4
    clear hK4
    refine B.gen fun G B => ?_
    wtm_at "rs"
    refine rd_setOfL (SqL.of (B.lAt (a := K4) (by wtm_at "mem"))) (by rw [List.length_append, List.length_append]; omega) fun D5 n5 hD5 => ?_
    have B := B.newL (o := SetO w D5 (inS (ol ++ S1 ++ S2)) n5) hD5
    clear hD5
    refine B.gen fun G B => ?_
    wtm_at "rs"
    refine rd_sortSetN (B.lAt (a := D5) (by wtm_at "mem")) fun Cs K6 ci ce hK6 => ?_
    have B := (B.newL (o := .lst (Cs.map V.int)) hK6).sub (L' := [(K6, .lst (Cs.map V.int)), (Dk, DFl (jR (joinB r) L m1 R1 m2 R2))]) (by wtm_at "vsub") (fun _ h => h)
    clear hK6
    have hCs : ∀ p, p ∈ Cs ↔ p ∈ ol ∨ p ∈ S1 ∨ p ∈ S2 := fun p => by rw [ce p]; simp
    have cop : ∀ p ∈ Cs, QR.OP p := fun p hp => by
      rcases (hCs p).mp hp with z | z | z
      · exact ((oo.2.1 p).mp z).1
      · exact o1.least.desc.singles p z
      · exact o2.least.desc.singles p z
    have csm : ∀ p ∈ Cs, p < 2 ^ 120 := fun p hp => by
      rcases (hCs p).mp hp with z | z | z
      · have := Int.le_of_dvd (by omega) ((oo.2.1 p).mp z).2
        omega
      · exact o1.small p z
      · exact o2.small p z
    have cdv : ∀ p, QR.OP p → (p ∈ Cs ↔ p ∣ L ∨ p ∈ S1 ∨ p ∈ S2) := fun p hp => by
      rw [hCs, oo.2.1 p]
      simp [hp]
    have cfew : Cs.length ≤ S1.length + S2.length + 100 := by
      have := nodup_sub_len (l := Cs) (s := ol ++ S1 ++ S2) (ci.imp fun h => by omega) fun k hk => (ce k).mp hk
      rw [List.length_append, List.length_append] at this
      omega
    clear ce hCs oo f3
    refine B.gen fun G B => ?_
    wtm_at "rs"
    refine rd_forL (xs := Cs.map V.int) (fun i σ G => ∃ v4 v8 v10, σ = [some (.ref a), some (.ref b), some (.str r), some (.int L), v4, some (.ref D1), some (.ref D2), some (.ref Dk), v8, some (.ref Dg), v10] ∧ Hv noX H [(Dg, .lst (((Cs.take i).filter (jT (joinB r) L m1 R1 S1 m2 R2 S2)).map V.int))] [(K6, .lst (Cs.map V.int)), (Dk, DFl (jR (joinB r) L m1 R1 m2 R2))] [fun G => IsP Ad.c_Primes G b m2 R2 S2, fun G => IsP Ad.c_Primes G a m1 R1 S1] G) ⟨_, _, _, rfl, B⟩ (fun i σ G _ ⟨_, _, _, _, B⟩ => SqL.of (B.lAt (a := K6) (by wtm_at "mem"))) ?_ ?_
    · clear B
      rintro i v σ G hi ⟨v4, v8, v10, rfl, B⟩
      rw [List.getElem?_map] at hi
      obtain ⟨p, hp, rfl⟩ := Option.map_eq_some_iff.mp hi
      have er : Cs.take (i + 1) = Cs.take i ++ [p] := by rw [List.take_add_one, hp]; rfl
      have hpm := List.mem_of_getElem? hp
      have p3 := (cop p hpm).1.1
      have few : (((Cs.take i).filter (jT (joinB r) L m1 R1 S1 m2 R2 S2)).map V.int).length < 1000000 := by
        have := List.length_filter_le (jT (joinB r) L m1 R1 S1 m2 R2 S2) (Cs.take i)
        rw [List.length_take] at this
        rw [List.length_map]
        omega
      wtm_at "rs"
      refine use_inP (B.zAt (P := fun G => IsP Ad.c_Primes G a m1 R1 S1) (by wtm_at "mem")) p1 (by omega) ?_
      wtm_at "rs"
      refine use_inP (B.zAt (P := fun G => IsP Ad.c_Primes G b m2 R2 S2) (by wtm_at "mem")) p2 (by omega) ?_
      wtm_at "rs"
      refine use_told (.inl (B.lAt (a := Dk) (by wtm_at "mem"))) Lp (by omega) ?_
      wtm_at "rs"
      cases hj : jT (joinB r) L m1 R1 S1 m2 R2 S2 p with
      | true =>
        rw [if_pos (by rw [← hj]; unfold jT; cases joinB r _ _ <;> cases decide (toldP L (jR (joinB r) L m1 R1 m2 R2) p) <;> rfl)]
        wtm_at "rs"
        refine ⟨_, _, _, rfl, ?_⟩
        rw [er, filt_snoc_t hj, List.map_append]
        exact B.put
      | false =>
        rw [if_neg (by rw [Bool.not_eq_true, ← hj]; unfold jT; cases joinB r _ _ <;> cases decide (toldP L (jR (joinB r) L m1 R1 m2 R2) p) <;> rfl)]
        wtm_at "rs"
        refine ⟨_, _, _, rfl, ?_⟩
        rw [er, filt_snoc_f hj]
        exact B
    clear B
    rintro σ G ⟨v4, v8, v10, rfl, B⟩
    rw [List.length_map, List.take_length] at B
    have fl := List.length_filter_le (jT (joinB r) L m1 R1 S1 m2 R2 S2) Cs
    wtm_at "rs"
    rename_i K7 hK7
    have B := B.newL (o := .lst ((jR (joinB r) L m1 R1 m2 R2).map V.int)) hK7
    clear hK7
    refine B.gen fun G B => ?_
    wtm_at "rs"
    refine mk_P B.nt (.inl (SqL.of (B.lAt (a := K7) (by wtm_at "mem")))) (.inl (SqL.of (B.mAt (a := Dg) (by wtm_at "mem")))) (by omega) (by omega) (fun p hp => csm p ((List.mem_filter.mp hp).1)) Lp L4 (fun k hk => mem_uL.mp (JRu k hk)) (fun p hp => cop p ((List.mem_filter.mp hp).1)) fun x G2 m' R' S' s2 n2' hx ip md => ?_
    exact q x G2 m' R' S' (B.same.trans s2) n2' (B.free hx) ip (comb_of hL p1 p2 cdv md cop cfew)
/-! ### Primes.__and__ -/
def spPand (C CW : Addr) : Sp := fun vs H Q E => ∃ (a b : Addr) (m1 m2 : Int) (R1 S1 R2 S2 : List Int), vs = [.ref a, .ref b] ∧ NoT H ∧ IsP C H a m1 R1 S1 ∧ IsP C H b m2 R2 S2 ∧ SetOk m1 R1 S1 ∧ SetOk m2 R2 S2 ∧
  (4000 < ((Int.lcm m1 m2 : Nat) : Int) → ∀ d, H d = none → E (.ref CW) (some d) (upd H d (.xd [("modulus", .int ((Int.lcm m1 m2 : Nat) : Int))]))) ∧
  (((Int.lcm m1 m2 : Nat) : Int) ≤ 4000 → ∀ (x : Addr) (H' : Hp) (m' : Int) (R' S' : List Int), Same H H' → NoT H' → H x = none → IsP C H' x m' R' S' → Comb (joinB "and") m1 R1 S1 m2 R2 S2 m' R' S' → Q (.ref x) H')
theorem use_Pand {C CW : Addr} {a b : Addr} {m1 m2 : Int} {R1 S1 R2 S2 : List Int} {H : Hp} {Q : VK} {E : XK} (nt : NoT H) (ip1 : IsP C H a m1 R1 S1) (ip2 : IsP C H b m2 R2 S2) (o1 : SetOk m1 R1 S1) (o2 : SetOk m2 R2 S2) (le : ((Int.lcm m1 m2 : Nat) : Int) ≤ 4000)
    (q : ∀ (x : Addr) (H' : Hp) (m' : Int) (R' S' : List Int), Same H H' → NoT H' → H x = none → IsP C H' x m' R' S' → Comb (joinB "and") m1 R1 S1 m2 R2 S2 m' R' S' → Q (.ref x) H') : rBinO C (spPand C CW) E (.ref a) (.ref b) H Q := by
  obtain ⟨dx, tR, tS, h1, _, _⟩ := id ip1
  obtain ⟨dy, uR, uS, g1, _, _⟩ := id ip2
  exact rd_binO h1 g1 ⟨a, b, m1, m2, R1, S1, R2, S2, rfl, nt, ip1, ip2, o1, o2, fun z => by omega, fun _ x H' m' R' S' s n f i c => ⟨x, rfl, q x H' m' R' S' s n f i c⟩⟩
theorem ok_Primes_and (T : Txt K mg Ad) : MDef P w K mg base 8 Ad.c_Primes "__and__" ["self", "other"] (spPand Ad.c_Primes Ad.c_TooWide) := by
  refine T.d_Primes_and.ok sc_Primes_and (fun vs H Q E h => ?_) (fun f cdv A outer s H vs Q E hr h => ?_)
  · obtain ⟨a, b, m1, m2, R1, S1, R2, S2, rfl, _⟩ := h
    rfl
  · obtain ⟨a, b, m1, m2, R1, S1, R2, S2, rfl, nt, ip1, ip2, o1, o2, qw, q⟩ := h
    refine ⟨_, (pss_one (ps_ret (pe_d (ok_combined_values T) (hr.mono (by decide)) (passes_call (takes_of rfl rfl rfl rfl) (fun _ _ _ _ h => h)) (pa_cons (pv 0) (pa_cons (pv 1) (pa_cons pe_str pa_nil)))))), ?_⟩
    try dsimp only [cxOf]
    wtm_at "rs"
    exact ⟨a, b, "and", m1, m2, R1, S1, R2, S2, rfl, nt, ip1, ip2, o1, o2, qw, q⟩
/-! ### Primes.__invert__ -/
def spPinv (C : Addr) : Sp := fun vs H Q E => ∃ (a : Addr) (m : Int) (R S : List Int), vs = [.ref a] ∧ NoT H ∧ IsP C H a m R S ∧ SetOk m R S ∧ ∀ (x : Addr) (H' : Hp) (m' : Int) (R' S' : List Int), Same H H' → NoT H' → H x = none → IsP C H' x m' R' S' → Inv m R S m' R' S' → Q (.ref x) H'
theorem use_Pinv {C : Addr} {a : Addr} {m : Int} {R S : List Int} {H : Hp} {Q : VK} {E : XK} (nt : NoT H) (ip : IsP C H a m R S) (o : SetOk m R S) (q : ∀ (x : Addr) (H' : Hp) (m' : Int) (R' S' : List Int), Same H H' → NoT H' → H x = none → IsP C H' x m' R' S' → Inv m R S m' R' S' → Q (.ref x) H') : rUnO C (spPinv C) E (.ref a) H Q := by
  obtain ⟨dx, tR, tS, h1, _, _⟩ := id ip
  exact rd_unO h1 ⟨a, m, R, S, rfl, nt, ip, o, q⟩
def invR (m : Int) (R : List Int) : List Int := (uL m).filter fun r => !decide (r ∈ R)
def invT (m : Int) (R S : List Int) (p : Int) : Bool := decide (memP m R S p) == decide (toldP m (invR m R) p)
theorem inv_of {m m' : Int} {R S R' S' C : List Int} (p1 : 1 ≤ m) (hC : ∀ p, QR.OP p → (p ∈ C ↔ p ∣ m ∨ p ∈ S)) (md : Made m (invR m R) (C.filter (invT m R S)) m' R' S') (hc : ∀ p ∈ C, QR.OP p) (few : C.length ≤ S.length + 100) : Inv m R S m' R' S' := by
  have e : m = ((Int.lcm m 1 : Nat) : Int) := by
    rw [Int.lcm_one_right]
    omega
  have eR : invR m R = jR (fun a _ => !a) m m R 1 [] := by
    unfold invR jR
    refine List.filter_congr fun r hr => ?_
    obtain ⟨r0, r1, _⟩ := mem_uL.mp hr
    rw [Int.emod_eq_of_lt r0 r1]
  have eT : invT m R S = jT (fun a _ => !a) m m R S 1 [] [] := by
    funext p
    unfold invT jT
    rw [eR]
    cases decide (memP m R S p) <;> cases decide (toldP m (jR (fun a _ => !a) m m R 1 []) p) <;> rfl
  rw [eR, eT] at md
  have c := comb_of (J := fun a _ => !a) (L := m) (m1 := m) (m2 := 1) (R1 := R) (R2 := []) (S1 := S) (S2 := []) e p1 (by decide) (fun p hp => by rw [hC p hp]; simp) md hc (by simpa using few)
  exact ⟨c.least, by rw [e]; exact c.dvd, fun x hx => c.germ x (by rw [← e]; exact hx), c.mem, by simpa using c.few, fun p hp => by
    have := c.src p hp
    rw [← e] at this
    simpa using this⟩
theorem ok_Primes_invert (T : Txt K mg Ad) : MDef P w K mg base 7 Ad.c_Primes "__invert__" ["self"] (spPinv Ad.c_Primes) := by
  refine T.d_Primes_invert.ok sc_Primes_invert (fun vs H Q E h => ?_) (fun f cdv A outer s H vs Q E hr h => ?_)
  · obtain ⟨a, m, R, S, rfl, _⟩ := h
    rfl
  · obtain ⟨a, m, R, S, rfl, nt, ip, o, q⟩ := h
    refine ⟨_, (pss_cons (ps_setLc (i := 1) (own := [("rest", 4)])  (te := (tVar 4)) (tt := (tTest (tOp (rIn K true) (tVar 4) (tFldC Ad.c_Primes (tVar 0) "rests")))) rfl sc_Primes_invert.nd rfl rfl (sw_true rfl rfl rfl (by decide +kernel)) (pi_list (pe_d (ok_units_values T) (hr.mono (by decide)) (passes_call (takes_of rfl rfl rfl rfl) (fun _ _ _ _ h => h)) (pa_cons (pe_fldC (pv 0) T.cl_Primes T.nf_Primes_modulus) pa_nil))) (blkOk_by (own := [("rest", 4)]) (N := ["self", "rests", "singles", "p", "rest"]) (sc := defScope s_Primes_invert) (by decide +kernel)) (fun _ _ _ _ _ => (pg_name (i := 4) sc_Primes_invert.nd rfl (Or.inl rfl))) (fun _ _ _ _ _ => (pts_one (pt_cmpR op_notIn_seq (pv 4) (pe_fldC (pv 0) T.cl_Primes T.nf_Primes_rests) (by rfl)))) (fun _ _ _ _ _ => (pv 4)))
      (pss_cons (ps_set (i := 2) sc_Primes_invert.nd rfl (Or.inl rfl) (pe_lst pa_nil))
      (pss_cons (ps_for (passes_of rfl) rfl (pi_list (pe_callB (cr_sortSetN rfl) (by rfl) T.b_sorted (by decide +kernel) (pa_cons (pe_callTy (cr_setOf rfl) (by rfl) T.b_set (by decide +kernel) (pa_cons (pe_op op_cat (pe_d (ok_odd_divisors T) (hr.mono (by decide)) (passes_call (takes_of rfl rfl rfl rfl) (fun _ _ _ _ h => h)) (pa_cons (pe_fldC (pv 0) T.cl_Primes T.nf_Primes_modulus) pa_nil)) (pe_callTy c_listOf (by rfl) T.b_list (by decide +kernel) (pa_cons (pe_fldC (pv 0) T.cl_Primes T.nf_Primes_singles) pa_nil))) pa_nil)) pa_nil))) (pg_name (i := 3) sc_Primes_invert.nd rfl (Or.inl rfl)) (pss_one (ps_if (pt_cmpR op_eq (pe_cmpR (op_inO (ok_Primes_contains T) (hr.mono (by decide)) (passes_call (takes_of rfl rfl rfl rfl) (fun _ _ _ _ h => h))) (pv 3) (pv 0) (by rfl)) (pe_d (ok_told_by T) (hr.mono (by decide)) (passes_call (takes_of rfl rfl rfl rfl) (fun _ _ _ _ h => h)) (pa_cons (pe_fldC (pv 0) T.cl_Primes T.nf_Primes_modulus) (pa_cons (pv 1) (pa_cons (pv 3) pa_nil)))) (nomark _)) (pss_one (ps_expr (pe_bm PySem.F.plainAttrs_list PySem.F.slot_list_append PySem.F.type_list_append mt_append (pv 2) (pa_cons (pv 3) pa_nil)))) pss_nil)))
      (pss_one (ps_ret (pe_mkd (ok_Primes_init T) (hr.mono (by decide)) (passes_call (takes_of rfl rfl rfl rfl) (fun _ _ _ _ h => h)) (pa_cons (pe_fldC (pv 0) T.cl_Primes T.nf_Primes_modulus) (pa_cons (pv 1) (pa_cons (pv 2) pa_nil))))))))), ?_⟩
    try dsimp only [cxOf]
    have B := (Hv.start nt).rig ip.rig
    obtain ⟨dx, tR, tS, h1, h2, h3⟩ := id ip
    have p1 := o.least.desc.pos
    have l1 := o.le
    have f1 := o.few
    have ul := @uL_len m
    wtm_at "rs"
    refine use_units p1 (by omega) fun U hU => ?_
    have B := B.newL (o := .lst ((uL m).map V.int)) hU
    clear hU
    refine B.gen fun G B => ?_
    wtm_at "rs"
    refine rd_lcI (fun r => !decide (r ∈ R)) V.int (SqL.of (B.lAt (a := U) (by wtm_at "mem"))) (fun D l x r hD hx => ?_) fun D1 hD1 => ?_
    · have hR' := B.oAt h2
      have h1' := B.oAt h1
      wtm_at "r"
      refine ⟨rfl, ?_⟩
      wtm_at "rs"
      refine rd_ninTs (SqT.of (upd_keep hR' hD)) ?_
      refine ⟨_, rfl, ?_⟩
      by_cases c : x ∈ R
      · rw [if_neg (by simp [c])]
        exact skip_I (by simp [c])
      · rw [if_pos (by simp [c])]
        wtm_at "rs"
        exact put_I (by
          have := congrArg List.length hx
          rw [List.length_append] at this
          omega) (by simp [c]) rfl
    have B := (B.newL (o := .lst ((invR m R).map V.int)) hD1)
    have il : (invR m R).length ≤ 4000 := Nat.le_trans (List.length_filter_le _ _) (by omega)
    have iu : ∀ k ∈ invR m R, k ∈ uL m := fun k hk => (List.mem_filter.mp hk).1
    change Hv noX H [] _ _ (upd G D1 (.lst (((uL m).filter fun r => !decide (r ∈ R)).map V.int))) at B
    clear hD1
    revert B
    generalize upd G D1 (.lst (((uL m).filter fun r => !decide (r ∈ R)).map V.int)) = G
    intro B
    wtm_at "rs"
    rename_i Dg hDg
    have B := B.new (o := .lst []) hDg
    clear hDg
    refine B.gen fun G B => ?_
    refine use_oddDiv B.nt p1 (by omega) fun O G2 ol s2 n2 hO hO' oo => ?_
    have B := B.got s2 n2 hO hO'
    clear s2 n2 hO hO'
    refine B.gen fun G B => ?_
    have f3 := oo.2.2
    wtm_at "rs"
    refine rd_listOfT (SqT.of (B.oAt h3)) fun K1 hK1 => ?_
    have B := B.newL (o := .lst (S.map V.int)) hK1
    clear hK1
    refine B.gen fun G B => ?_
    wtm_at "rs"
    refine rd_cat (B.lAt (a := O) (by wtm_at "mem")) (B.lAt (a := K1) (by wtm_at "mem")) (room2 (n := 100) (m := 1000) (by rw [List.length_map]; omega) (by rw [List.length_map]; omega) (by decide)) fun K2 hK2 => ?_
    rw [← List.map_append] at *
    have B := B.newL (o := .lst ((ol ++ S).map V.int)) hK2
    clear hK2
    refine B.gen fun G B => ?_
    wtm_at "rs"
    refine rd_setOfL (SqL.of (B.lAt (a := K2) (by wtm_at "mem"))) (by rw [List.length_append]; omega) fun D5 n5 hD5 => ?_
    have B := B.newL (o := SetO w D5 (inS (ol ++ S)) n5) hD5
    clear hD5
    refine B.gen fun G B => ?_
    wtm_at "rs"
    refine rd_sortSetN (B.lAt (a := D5) (by wtm_at "mem")) fun Cs K6 ci ce hK6 => ?_
    have B := (B.newL (o := .lst (Cs.map V.int)) hK6).sub (L' := [(K6, .lst (Cs.map V.int)), (D1, .lst ((invR m R).map V.int))]) (by wtm_at "vsub") (fun _ h => h)
    clear hK6
    have hCs : ∀ p, p ∈ Cs ↔ p ∈ ol ∨ p ∈ S := fun p => by rw [ce p]; simp
    have cop : ∀ p ∈ Cs, QR.OP p := fun p hp => by
      rcases (hCs p).mp hp with z | z
      · exact ((oo.2.1 p).mp z).1
      · exact o.least.desc.singles p z
    have csm : ∀ p ∈ Cs, p < 2 ^ 120 := fun p hp => by
      rcases (hCs p).mp hp with z | z
      · have := Int.le_of_dvd (by omega) ((oo.2.1 p).mp z).2
        omega
      · exact o.small p z
    have cdv : ∀ p, QR.OP p → (p ∈ Cs ↔ p ∣ m ∨ p ∈ S) := fun p hp => by
      rw [hCs, oo.2.1 p]
      simp [hp]
    have cfew : Cs.length ≤ S.length + 100 := by
      have := nodup_sub_len (l := Cs) (s := ol ++ S) (ci.imp fun h => by omega) fun k hk => (ce k).mp hk
      rw [List.length_append] at this
      omega
    clear ce hCs oo f3
    refine B.gen fun G B => ?_
    wtm_at "rs"
    refine rd_forL (xs := Cs.map V.int) (fun i σ G => ∃ v3 v4, σ = [some (.ref a), some (.ref D1), some (.ref Dg), v3, v4] ∧ Hv noX H [(Dg, .lst (((Cs.take i).filter (invT m R S)).map V.int))] [(K6, .lst (Cs.map V.int)), (D1, .lst ((invR m R).map V.int))] [fun G => IsP Ad.c_Primes G a m R S] G) ⟨_, _, rfl, B⟩ (fun i σ G _ ⟨_, _, _, B⟩ => SqL.of (B.lAt (a := K6) (by wtm_at "mem"))) ?_ ?_
    · clear B
      rintro i v σ G hi ⟨v3, v4, rfl, B⟩
      rw [List.getElem?_map] at hi
      obtain ⟨p, hp, rfl⟩ := Option.map_eq_some_iff.mp hi
      have er : Cs.take (i + 1) = Cs.take i ++ [p] := by rw [List.take_add_one, hp]; rfl
      have hpm := List.mem_of_getElem? hp
      have p3 := (cop p hpm).1.1
      have few : (((Cs.take i).filter (invT m R S)).map V.int).length < 1000000 := by
        have := List.length_filter_le (invT m R S) (Cs.take i)
        rw [List.length_take] at this
        rw [List.length_map]
        omega
      wtm_at "rs"
      refine use_inP (B.zAt (P := fun G => IsP Ad.c_Primes G a m R S) (by wtm_at "mem")) p1 (by omega) ?_
      wtm_at "rs"
      refine use_told (.inr (.inl (SqL.of (B.lAt (a := D1) (by wtm_at "mem"))))) p1 (by omega) ?_
      wtm_at "rs"
      cases hj : invT m R S p with
      | true =>
        rw [if_pos (by rw [← hj]; unfold invT; cases decide (memP m R S p) <;> cases decide (toldP m (invR m R) p) <;> rfl)]
        wtm_at "rs"
        refine ⟨_, _, rfl, ?_⟩
        rw [er, filt_snoc_t hj, List.map_append]
        exact B.put
      | false =>
        rw [if_neg (by rw [Bool.not_eq_true, ← hj]; unfold invT; cases decide (memP m R S p) <;> cases decide (toldP m (invR m R) p) <;> rfl)]
        wtm_at "rs"
        refine ⟨_, _, rfl, ?_⟩
        rw [er, filt_snoc_f hj]
        exact B
    clear B
    rintro σ G ⟨v3, v4, rfl, B⟩
    rw [List.length_map, List.take_length] at B
    have fl := List.length_filter_le (invT m R S) Cs
    wtm_at "rs"
    refine mk_P B.nt (.inl (SqL.of (B.lAt (a := D1) (by wtm_at "mem")))) (.inl (SqL.of (B.mAt (a := Dg) (by wtm_at "mem")))) (by omega) (by omega) (fun p hp => csm p ((List.mem_filter.mp hp).1)) p1 l1 (fun k hk => mem_uL.mp (iu k hk)) (fun p hp => cop p ((List.mem_filter.mp hp).1)) fun x G2 m' R' S' s2 n2' hx ip' md => ?_
    exact q x G2 m' R' S' (B.same.trans s2) n2' (B.free hx) ip' (inv_of p1 cdv md cop cfew)
/-! ### _law_is_prime -/
def spOP : Sp := fun vs H Q _ => ∃ n : Int, vs = [.int n] ∧ n < 2 ^ 120 ∧ Q (.bl (decide (QR.OP n))) H
theorem ok_law_is_prime (T : Txt K mg Ad) : Def P w K mg base 1 "_law_is_prime" ["_law_n"] spOP := by
  refine T.d_law_is_prime.ok sc_law_is_prime (fun vs H Q E h => ?_) (fun f cdv A outer s H vs Q E hr h => ?_)
  · obtain ⟨n, rfl, _⟩ := h
    rfl
  · obtain ⟨n, rfl, hn, q⟩ := h
    refine ⟨_, (pss_cons (ps_if (PW.pt (pw_or (pt_cmpR op_lt (pv 0) pe_int (nomark _)) (pw_or1 (pt_cmpR op_eq (pe_op op_mod (pv 0) pe_int) pe_int (nomark _))))) (pss_one (ps_ret pe_bl)) pss_nil)
      (pss_cons (ps_set (i := 1) sc_law_is_prime.nd rfl (Or.inl rfl) pe_int)
      (pss_cons (ps_while (passes_of rfl) (pt_cmpR op_le (pe_op op_mulB (pv 1) (pv 1)) (pv 0) (nomark _)) (pss_cons (ps_if (pt_cmpR op_eq (pe_op op_mod (pv 0) (pv 1)) pe_int (nomark _)) (pss_one (ps_ret pe_bl)) pss_nil)
      (pss_one (ps_set (i := 1) sc_law_is_prime.nd rfl (Or.inl rfl) (pe_op op_add (pv 1) pe_int)))))
      (pss_one (ps_ret pe_bl))))), ?_⟩
    try dsimp only [cxOf]
    wtm_at "ra"
    · rw [decide_eq_false (fun z : QR.OP n => by have := z.three; omega)] at q
      exact q
    · rw [decide_eq_false (fun z : QR.OP n => by have := z.2; omega)] at q
      exact q
    · refine rd_while (fun μ σ H' => ∃ k : Int, μ = (n + 2 - k).toNat ∧ σ = [some (.int n), some (.int k)] ∧ H = H' ∧ 3 ≤ k ∧ k % 2 = 1 ∧ k < 2 ^ 61 ∧ ∀ d : Int, 3 ≤ d → d % 2 = 1 → d < k → ¬ d ∣ n) (n - 1).toNat
        ⟨3, by omega, rfl, rfl, by omega, by omega, by omega, fun d _ _ _ => by omega⟩ ?_
      rintro μ σ H' ⟨k, rfl, rfl, rfl, hk, hk2, hk3, inv⟩
      wtm_at "ra"
      · rename_i hle hz
        rw [decide_eq_false (fun z : QR.OP n => QR.not_pm (by omega) hle hz z.1)] at q
        exact q
      · rename_i hle hz
        have b := QR.sq_bound (by omega) hle hn
        have c := QR.le_sq (show 1 ≤ k by omega)
        exact ⟨_, by omega, k + 2, rfl, rfl, rfl, by omega, by omega, by omega, QR.no_dvd_step2 hk2 inv hz⟩
      · rename_i hgt
        rw [decide_eq_true (show QR.OP n from ⟨QR.pm_of_odd_trial (by omega) (by omega) (by omega) (by omega) inv, by omega⟩)] at q
        exact q
theorem use_OP {n : Int} {H : Hp} {Q : VK} {E : XK} (h : n < 2 ^ 120) (q : Q (.bl (decide (QR.OP n))) H) : spOP [.int n] H Q E := ⟨n, rfl, h, q⟩
local macro_rules | `(tactic| wtm_at "s") => `(tactic| ((with_reducible refine use_OP ?h1 ?_); (case h1 => omega)))
/-! ### _law_prime_from -/
def spFrom : Sp := fun vs H Q _ => ∃ n q : Int, vs = [.int n] ∧ QR.OP q ∧ n ≤ q ∧ q < 2 ^ 100 ∧ ∀ r : Int, QR.OP r → n ≤ r → r ≤ q → Q (.int r) H
theorem ok_law_prime_from (T : Txt K mg Ad) : Def P w K mg base 2 "_law_prime_from" ["_law_n"] spFrom := by
  refine T.d_law_prime_from.ok sc_law_prime_from (fun vs H Q E h => ?_) (fun f cdv A outer s H vs Q E hr h => ?_)
  · obtain ⟨n, _, rfl, _⟩ := h
    rfl
  · obtain ⟨n, q, rfl, hq, hn, hb, qo⟩ := h
    refine ⟨_, (pss_cons (ps_set (i := 0) sc_law_prime_from.nd rfl (Or.inl rfl) (pe_callB (c_max2 rfl) (by rfl) T.b_max (by decide +kernel) (pa_cons (pv 0) (pa_cons pe_int pa_nil))))
      (pss_cons (ps_set (i := 0) sc_law_prime_from.nd rfl (Or.inl rfl) (pe_op op_sub (pe_op op_add (pv 0) pe_int) (pe_op op_mod (pv 0) pe_int)))
      (pss_cons (ps_while (passes_of rfl) (pt_not (pt_val (pe_d (ok_law_is_prime T) (hr.mono (by decide)) (passes_call (takes_of rfl rfl rfl rfl) (fun _ _ _ _ h => h)) (pa_cons (pv 0) pa_nil)))) (pss_one (ps_set (i := 0) sc_law_prime_from.nd rfl (Or.inl rfl) (pe_op op_add (pv 0) pe_int))))
      (pss_one (ps_ret (pv 0)))))), ?_⟩
    try dsimp only [cxOf]
    have q3 := hq.three
    have q2 := hq.2
    wtm_at "rs"
    have g1 : n ≤ (if 3 > n then 3 else n) := by split <;> omega
    have g2 : 3 ≤ (if 3 > n then 3 else n) := by split <;> omega
    have g3 : (if 3 > n then 3 else n) ≤ q := by split <;> omega
    generalize (if 3 > n then 3 else n) = m at *
    refine rd_while (fun μ σ H' => ∃ r : Int, μ = (q - r).toNat ∧ σ = [some (.int r)] ∧ H = H' ∧ n ≤ r ∧ r ≤ q ∧ 3 ≤ r ∧ r % 2 = 1) _
      ⟨_, rfl, rfl, rfl, by omega, by omega, by omega, by omega⟩ ?_
    rintro μ σ H' ⟨r, rfl, rfl, rfl, h1, h2, h3, h4⟩
    wtm_at "ra"
    · rename_i hno
      have : r ≠ q := fun z => by
        rw [z] at hno
        exact absurd hq (by simpa using hno)
      exact ⟨_, by omega, r + 2, rfl, rfl, rfl, by omega, by omega, by omega, by omega⟩
    · rename_i hyes
      exact qo r (by simpa using hyes) h1 h2
theorem use_from {n q : Int} {H : Hp} {Q : VK} {E : XK} (hq : QR.OP q) (hn : n ≤ q) (hb : q < 2 ^ 100) (qo : ∀ r : Int, QR.OP r → n ≤ r → r ≤ q → Q (.int r) H) : spFrom [.int n] H Q E := ⟨n, q, rfl, hq, hn, hb, qo⟩
/-! ### _law_far_primes -/
def spFar : Sp := fun vs H Q _ => ∃ (a : Addr) (d0 d1 d2 d3 : Int), vs = [.ref a] ∧ NoT H ∧ H a = some (.lst ([d0, d1, d2, d3].map V.int)) ∧ (0 ≤ d0 ∧ d0 < 990) ∧ (0 ≤ d1 ∧ d1 < 31) ∧ (0 ≤ d2 ∧ d2 < 31) ∧ (0 ≤ d3 ∧ d3 < 2) ∧ ∀ H', Same H H' → NoT H' → Q (.bl true) H'
theorem use_Far {a : Addr} {d0 d1 d2 d3 : Int} {H : Hp} {Q : VK} {E : XK} (nt : NoT H) (h : H a = some (.lst ([d0, d1, d2, d3].map V.int))) (h0 : 0 ≤ d0 ∧ d0 < 990) (h1 : 0 ≤ d1 ∧ d1 < 31) (h2 : 0 ≤ d2 ∧ d2 < 31) (h3 : 0 ≤ d3 ∧ d3 < 2) (q : ∀ H', Same H H' → NoT H' → Q (.bl true) H') : spFar [.ref a] H Q E := ⟨a, d0, d1, d2, d3, rfl, nt, h, h0, h1, h2, h3, q⟩
theorem ind_val {m p : Int} {R S l : List Int} (oq : OddQ m l) (op : QR.OP p) : (indC m R S l).val p = if memP m R S p then 1 else 0 := by
  unfold Ct.val
  split
  · rfl
  · rename_i h
    have hS : p ∉ S := fun z => h (mem_foldK.mpr (.inr z))
    have hd : ¬ p ∣ m := fun z => h (mem_foldK.mpr (.inl ((oq.2.1 p).mpr ⟨op, z⟩)))
    have e : memP m R S p ↔ p % m ∈ R := by
      unfold memP toldP
      simp [hS, hd]
    show trAt (indL R (p % m)) p = _
    unfold indL
    by_cases c : p % m ∈ R
    · rw [if_pos c, if_pos (e.mpr c)]
      simp [trAt]
    · rw [if_neg c, if_neg fun z => c (e.mp z)]
      simp [trAt]
theorem eqi_ind {m : Int} {R S l : List Int} (g : Gd (indC m R S l) 25) : EqI (indC m R S l) (polC 0 0 0) := by
  have b0 : ∀ {n : Nat}, Bd n 0 := fun {n} => ⟨Nat.two_pow_pos n⟩
  have gz := gd_polM (m := 1) (.inl rfl) (b0 (n := 16)) (b0 (n := 16)) (b0 (n := 16))
  have fw := g.few
  have kl := keysOf_len (l := (indC m R S l).sp ++ [])
  rw [List.append_nil] at kl
  have ks : (cmbC (-1) (indC m R S l) (polC 0 0 0)).sp = keysOf (indC m R S l).sp := by
    show keysOf ((indC m R S l).sp ++ []) = _
    rw [List.append_nil]
  refine ⟨g.ok, gz.ok, fun p hp => ?_, ?_, fun le => ⟨cmb_ok (.inr rfl) g.ok gz.ok (g.bl.mono (by decide)) (gz.bl.mono (by decide)) le, cmb_ex g.ex polM_ex, (cmb_bl (.inr rfl) g.ok gz.ok g.bl (gz.bl.mono (by decide))).mono (by decide), fun p hp => ?_, 0, fun r hr nz cs co => ?_, ?_, .inl ?_⟩⟩
  · rw [show (polC 0 0 0).sp = [] from rfl, List.append_nil] at hp
    obtain ⟨op, pb⟩ := g.sp p hp
    refine ⟨op, by omega, ?_⟩
    rw [show (polC 0 0 0).val p = _ from polM_val (m := 1)]
    simpa using b0
  · rw [show (polC 0 0 0).sp = [] from rfl, List.append_nil]
    omega
  · rw [ks, mem_keysOf] at hp
    obtain ⟨op, pb⟩ := g.sp p hp
    exact ⟨op, by omega⟩
  · have e : (cmbC (-1) (indC m R S l) (polC 0 0 0)).ln r = trC (-1) (indL R (r % m)) (4 * 0, 4 * 0, 4 * 0) := rfl
    rw [e] at nz co
    rcases indL_b (R := R) (r := r % m) with h | h <;> rw [h] at nz co
    · have oq := co.dv (show (4 + -1 * (4 * 0) : Int) ≠ 0 by decide)
      refine Nat.le_of_eq (List.length_eq_zero_iff.mpr (List.eq_nil_iff_forall_not_mem.mpr fun p hp => ?_))
      obtain ⟨op, d⟩ := (oq.2.1 p).mp hp
      have d : p ∣ 4 := d
      have := Int.le_of_dvd (by decide) d
      have := op.three
      have := op.2
      have e3 : p = 3 := by omega
      subst e3
      omega
    · exact absurd rfl nz
  · rw [ks]
    omega
  · rw [ks]
    omega
theorem ind_ln {m x : Int} {R S l : List Int} : (indC m R S l).ln (x % (indC m R S l).m) = (polC 0 0 0).ln (x % (polC 0 0 0).m) ↔ ¬ x % m ∈ R := by
  show indL R (x % m) = (4 * 0, 4 * 0, 4 * 0) ↔ _
  unfold indL
  split
  · rename_i h
    simp [h]
  · rename_i h
    simp [h]
theorem lcm_one {m : Int} (m1 : 1 ≤ m) : ((Int.lcm m 1 : Nat) : Int) = m := by
  have h1 : ((Int.lcm m 1 : Nat) : Int) ∣ m := Int.coe_lcm_dvd (Int.dvd_refl m) ⟨m, (Int.one_mul m).symm⟩
  have h2 := @lcm_l m 1
  have p := lcm_pos m1 (show (1 : Int) ≤ 1 by decide)
  have a := Int.le_of_dvd (by omega) h1
  have b := Int.le_of_dvd p h2
  omega
theorem ind_not {m n : Int} {R S l R' S' : List Int} (m1 : 1 ≤ m) (a : Agr (indC m R S l) (polC 0 0 0) n R' S') (x : Int) (hx : Int.gcd x m = 1) (hm : x % m ∈ R) : ¬ (n = 1 ∧ R' = [0] ∧ S' = []) := by
  rintro ⟨rfl, rfl, rfl⟩
  have h := (a.germ x (by
    show Int.gcd x ((Int.lcm m 1 : Nat) : Int) = 1
    rw [lcm_one m1]
    exact hx)).mp (by rw [Int.emod_one]; exact List.mem_cons_self)
  exact ind_ln.mp h hm
theorem ind_inv {m n k : Int} {R S l R' S' R2 S2 : List Int} (m1 : 1 ≤ m) (oq : OddQ m l) (a : Agr (indC m R S l) (polC 0 0 0) n R' S') (iv : Inv m R S k R2 S2) : n = k ∧ R' = R2 ∧ S' = S2 := by
  have el : ((Int.lcm (indC m R S l).m (polC 0 0 0).m : Nat) : Int) = m := lcm_one m1
  refine a.is m1 (show (1 : Int) ≤ 1 by decide) iv.least (by rw [el]; exact iv.dvd) (fun x hx => ?_) fun p op => ?_
  · rw [el] at hx
    rw [ind_ln]
    have := iv.germ x hx
    by_cases c : x % m ∈ R
    · simp [c] at this ⊢
      exact this
    · simp [c] at this ⊢
      exact this
  · rw [ind_val oq op, show (polC 0 0 0).val p = _ from polM_val (m := 1)]
    have := iv.mem p op
    by_cases c : memP m R S p
    · simp [c] at this ⊢
      exact this
    · simp [c] at this ⊢
      exact this
/-- an x with both rests -/
theorem far_x {d1 d2 : Int} (h1 : 0 ≤ d1 ∧ d1 < 31) (h2 : 0 ≤ d2 ∧ d2 < 31) : ∃ x : Int, Int.gcd x 3953 = 1 ∧ x % 59 = 1 + d1 ∧ x % 67 = 1 + d2 := by
  have o59 : QR.OP 59 := QR.op_by (n := 59) 8 (by decide) (by decide) (by decide) (by decide +kernel)
  have o67 : QR.OP 67 := QR.op_by (n := 67) 9 (by decide) (by decide) (by decide) (by decide +kernel)
  have e1 : (2479 * (1 + d1) + 1475 * (1 + d2)) % 59 = 1 + d1 := by omega
  have e2 : (2479 * (1 + d1) + 1475 * (1 + d2)) % 67 = 1 + d2 := by omega
  refine ⟨2479 * (1 + d1) + 1475 * (1 + d2), ?_, e1, e2⟩
  show Int.gcd _ (59 * 67) = 1
  refine QR.cop_mul ?_ ?_
  · rw [Int.gcd_comm]
    exact (QR.pm_cop o59.1).mpr (by omega)
  · rw [Int.gcd_comm]
    exact (QR.pm_cop o67.1).mpr (by omega)
theorem con1_of {s r : Int} {l : List Int} (co : CoreOk (-(1 * 1)) s r) (oq : OddQ (conP 1 1 1) l) : s = -1 ∧ l = [] := by
  have b := co.bound (by decide) (B := 1) (by decide) (by decide)
  have r1 := co.pos
  have re : r = 1 := by omega
  have pr := co.prod
  rw [re] at pr
  refine ⟨by omega, List.eq_nil_iff_forall_not_mem.mpr fun p hp => ?_⟩
  obtain ⟨op, d⟩ := (oq.2.1 p).mp hp
  have d : p ∣ 1 := d
  have := Int.le_of_dvd (by decide) d
  have := op.three
  omega
theorem con1_add {C x : Addr} {G : Hp} {b c : Int} (h : IsCt C G x (cmbC (-1) (cmbC 1 (polC 1 b c) (conC 1 1 1 (-1) [])) (conC 1 1 1 (-1) []))) : IsCt C G x (polM 4 1 b c) := by
  have m1 : ((Int.lcm 1 (cond (-1)) : Nat) : Int) = 4 := by decide
  have m4 : (cmbC (-1) (cmbC 1 (polC 1 b c) (conC 1 1 1 (-1) [])) (conC 1 1 1 (-1) [])).m = 4 := by
    show ((Int.lcm ((Int.lcm 1 (cond (-1)) : Nat) : Int) (cond (-1)) : Nat) : Int) = 4
    decide
  refine h.congr m4 (fun r _ => ?_) rfl fun p hp => absurd hp List.not_mem_nil
  show trC (-1) (trC 1 (4 * 1, 4 * b, 4 * c) (conL 1 (-1) (r % ((Int.lcm 1 (cond (-1)) : Nat) : Int) % cond (-1)))) (conL 1 (-1) (r % cond (-1))) = _
  rw [m1, show cond (-1) = 4 by decide, Int.emod_emod_of_dvd r (show (4 : Int) ∣ 4 from ⟨1, rfl⟩)]
  generalize conL 1 (-1) (r % 4) = t
  obtain ⟨t1, t2, t3⟩ := t
  show (4 * 1 + 1 * t1 + -1 * t1, 4 * b + 1 * t2 + -1 * t2, 4 * c + 1 * t3 + -1 * t3) = (4 * 1, 4 * b, 4 * c)
  rw [Prod.mk.injEq, Prod.mk.injEq]
  omega
theorem use_EquA {C CW CP : Addr} {x y : Addr} {c d : Ct} {H : Hp} {Q : VK} {E : XK} (nt : NoT H) (hx : IsCt C H x c) (hy : IsCt C H y d) (ec : c.Ex) (ed : d.Ex) (e : EqI c d) (le : ((Int.lcm c.m d.m : Nat) : Int) ≤ 4000)
    (q : ∀ z H' m R S, Same H H' → NoT H' → IsP CP H' z m R S → Agr c d m R S → Q (.ref z) H') : spEqu C CW CP [.ref x, .ref y] H Q E := ⟨x, y, c, d, rfl, nt, hx, hy, e, fun lt => absurd lt (by omega), fun _ z H' m R S s n ip vn => q z H' m R S s n ip (van_agr ec ed vn)⟩
theorem ok_law_far_primes (T : Txt K mg Ad) : Def P w K mg base 11 "_law_far_primes" ["_law_drawn"] (spFar) := by
  refine T.d_law_far_primes.ok sc_law_far_primes (fun vs H Q E h => ?_) (fun f cdv A outer s H vs Q E hr h => ?_)
  · obtain ⟨a, d0, d1, d2, d3, rfl, _⟩ := h
    rfl
  · obtain ⟨a, d0, d1, d2, d3, rfl, nt, ha, h0, h1, h2, h3, q⟩ := h
    refine ⟨_, (pss_cons (ps_set (i := 1) sc_law_far_primes.nd rfl (Or.inl rfl) (pe_d (ok_law_prime_from T) (hr.mono (by decide)) (passes_call (takes_of rfl rfl rfl rfl) (fun _ _ _ _ h => h)) (pa_cons (pe_callB (c_min2 rfl) (by rfl) T.b_min (by decide +kernel) (pa_cons (pe_ix ix_list (pv 0) pe_int (fun _ _ => rfl)) (pa_cons pe_int pa_nil))) pa_nil)))
      (pss_cons (ps_set (i := 2) sc_law_far_primes.nd rfl (Or.inl rfl) (pe_d (ok_polynomial T) (hr.mono (by decide)) (passes_call (takes_of rfl rfl rfl rfl) (fun _ _ _ _ h => h)) (pa_cons pe_int (pa_cons pe_int (pa_cons pe_int pa_nil)))))
      (pss_cons (ps_if (pt_not (pt_cmpR (op_eqO (ok_Primes_eq T) (hr.mono (by decide)) (Nat.lt_of_succ_lt (hu_of hr)) (passes_call (takes_of rfl rfl rfl rfl) (fun _ _ _ _ h => h))) (pe_md (ok_Count_equal T) (pe_d (ok_polynomial T) (hr.mono (by decide)) (passes_call (takes_of rfl rfl rfl rfl) (fun _ _ _ _ h => h)) (pa_cons pe_int (pa_cons pe_int (pa_cons pe_int pa_nil)))) T.cl_Count (hr.mono (by decide)) (passes_call (takes_of rfl rfl rfl rfl) (fun _ _ _ _ h => h)) (pa_cons (pe_d (ok_polynomial T) (hr.mono (by decide)) (passes_call (takes_of rfl rfl rfl rfl) (fun _ _ _ _ h => h)) (pa_cons pe_int (pa_cons pe_int (pa_cons (pv 1) pa_nil)))) pa_nil)) (pe_cm (ok_Primes_only T) (pe_glob (v := .ref Ad.c_Primes) rfl T.g_Primes rfl) (hr.mono (by decide)) (passes_call (takes_of rfl rfl rfl rfl) (fun _ _ _ _ h => h)) (pa_cons (pv 1) pa_nil)) (nomark _))) (pss_one (ps_ret pe_bl)) pss_nil)
      (pss_cons (ps_if (pt_not (pt_cmpR (op_eqO (ok_Primes_eq T) (hr.mono (by decide)) (Nat.lt_of_succ_lt (hu_of hr)) (passes_call (takes_of rfl rfl rfl rfl) (fun _ _ _ _ h => h))) (pe_md (ok_Count_equal T) (pe_d (ok_polynomial T) (hr.mono (by decide)) (passes_call (takes_of rfl rfl rfl rfl) (fun _ _ _ _ h => h)) (pa_cons pe_int (pa_cons (pe_un un_neg (pv 1)) (pa_cons pe_int pa_nil)))) T.cl_Count (hr.mono (by decide)) (passes_call (takes_of rfl rfl rfl rfl) (fun _ _ _ _ h => h)) (pa_cons (pv 2) pa_nil)) (pe_cm (ok_Primes_only T) (pe_glob (v := .ref Ad.c_Primes) rfl T.g_Primes rfl) (hr.mono (by decide)) (passes_call (takes_of rfl rfl rfl rfl) (fun _ _ _ _ h => h)) (pa_cons (pv 1) pa_nil)) (nomark _))) (pss_one (ps_ret pe_bl)) pss_nil)
      (pss_cons (ps_set (i := 3) sc_law_far_primes.nd rfl (Or.inl rfl) (pe_op (op_binO (m := "__and__") (ok_Primes_and T) (by decide +kernel) T.sf_Primes T.ty_Primes (hr.mono (by decide)) (passes_call (takes_of rfl rfl rfl rfl) (fun _ _ _ _ h => h))) (pe_cm (ok_Primes_by_rest T) (pe_glob (v := .ref Ad.c_Primes) rfl T.g_Primes rfl) (hr.mono (by decide)) (passes_call (takes_of rfl rfl rfl rfl) (fun _ _ _ _ h => h)) (pa_cons pe_int (pa_cons (pe_op op_add pe_int (pe_ix ix_list (pv 0) pe_int (fun _ _ => rfl))) pa_nil))) (pe_cm (ok_Primes_by_rest T) (pe_glob (v := .ref Ad.c_Primes) rfl T.g_Primes rfl) (hr.mono (by decide)) (passes_call (takes_of rfl rfl rfl rfl) (fun _ _ _ _ h => h)) (pa_cons pe_int (pa_cons (pe_op op_add pe_int (pe_ix ix_list (pv 0) pe_int (fun _ _ => rfl))) pa_nil)))))
      (pss_cons (ps_set (i := 4) sc_law_far_primes.nd rfl (Or.inl rfl) (pe_d (ok_indicator T) (hr.mono (by decide)) (passes_call (takes_of rfl rfl rfl rfl) (fun _ _ _ _ h => h)) (pa_cons (pv 3) pa_nil)))
      (pss_cons (ps_if (PW.pt (pw_and (pt_cmpR op_eq (pe_ix ix_list (pv 0) pe_int (fun _ _ => rfl)) pe_int (nomark _)) (pw_and1 (PW.pt (pw_or (pt_cmpR (op_eqO (ok_Count_eq T) (hr.mono (by decide)) (Nat.lt_of_succ_lt (hu_of hr)) (passes_call (takes_of rfl rfl rfl rfl) (fun _ _ _ _ h => h))) (pv 4) (pv 2) (nomark _)) (pw_or1 (pt_not (pt_cmpR (op_eqO (ok_Primes_eq T) (hr.mono (by decide)) (Nat.lt_of_succ_lt (hu_of hr)) (passes_call (takes_of rfl rfl rfl rfl) (fun _ _ _ _ h => h))) (pe_md (ok_Count_equal T) (pv 4) T.cl_Count (hr.mono (by decide)) (passes_call (takes_of rfl rfl rfl rfl) (fun _ _ _ _ h => h)) (pa_cons (pv 2) pa_nil)) (pe_un (un_invO (ok_Primes_invert T) (hr.mono (by decide)) (passes_call (takes_of rfl rfl rfl rfl) (fun _ _ _ _ h => h))) (pv 3)) (nomark _))))))))) (pss_one (ps_ret pe_bl)) pss_nil)
      (pss_cons (ps_set (i := 5) sc_law_far_primes.nd rfl (Or.inl rfl) (pe_d (ok_law_prime_from T) (hr.mono (by decide)) (passes_call (takes_of rfl rfl rfl rfl) (fun _ _ _ _ h => h)) (pa_cons (pe_callB (c_min2 rfl) (by rfl) T.b_min (by decide +kernel) (pa_cons (pe_ix ix_list (pv 0) pe_int (fun _ _ => rfl)) (pa_cons pe_int pa_nil))) pa_nil)))
      (pss_cons (ps_set (i := 6) sc_law_far_primes.nd rfl (Or.inl rfl) (pe_d (ok_law_prime_from T) (hr.mono (by decide)) (passes_call (takes_of rfl rfl rfl rfl) (fun _ _ _ _ h => h)) (pa_cons (pe_callB (c_min2 rfl) (by rfl) T.b_min (by decide +kernel) (pa_cons (pe_ix ix_list (pv 0) pe_int (fun _ _ => rfl)) (pa_cons pe_int pa_nil))) pa_nil)))
      (pss_cons (ps_set (i := 7) sc_law_far_primes.nd rfl (Or.inl rfl) (pe_d (ok_polynomial T) (hr.mono (by decide)) (passes_call (takes_of rfl rfl rfl rfl) (fun _ _ _ _ h => h)) (pa_cons pe_int (pa_cons (pe_op op_sub (pe_un un_neg (pv 5)) (pv 6)) (pa_cons (pe_op op_mulB (pv 5) (pv 6)) pa_nil)))))
      (C8.pss_cut (ps_if (pt_cmpR op_eq (pe_ix ix_list (pv 0) pe_int (fun _ _ => rfl)) pe_int (nomark _)) (pss_one (ps_set (i := 7) sc_law_far_primes.nd rfl (Or.inl rfl) (pe_op (op_binO (m := "__sub__") (ok_Count_sub T) (by decide +kernel) T.sf_Count T.ty_Count (hr.mono (by decide)) (passes_call (takes_of rfl rfl rfl rfl) (fun _ _ _ _ h => h))) (pe_op (op_binO (m := "__add__") (ok_Count_add T) (by decide +kernel) T.sf_Count T.ty_Count (hr.mono (by decide)) (passes_call (takes_of rfl rfl rfl rfl) (fun _ _ _ _ h => h))) (pv 7) (pe_d (ok_conic T) (hr.mono (by decide)) (passes_call (takes_of rfl rfl rfl rfl) (fun _ _ _ _ h => h)) (pa_cons pe_int (pa_cons pe_int (pa_cons pe_int pa_nil))))) (pe_d (ok_conic T) (hr.mono (by decide)) (passes_call (takes_of rfl rfl rfl rfl) (fun _ _ _ _ h => h)) (pa_cons pe_int (pa_cons pe_int (pa_cons pe_int pa_nil))))))) pss_nil)
      (pss_one (ps_ret (pe_and (pe_cmpR (op_eqO (ok_Primes_eq T) (hr.mono (by decide)) (Nat.lt_of_succ_lt (hu_of hr)) (passes_call (takes_of rfl rfl rfl rfl) (fun _ _ _ _ h => h))) (pe_md (ok_Count_equal T) (pv 7) T.cl_Count (hr.mono (by decide)) (passes_call (takes_of rfl rfl rfl rfl) (fun _ _ _ _ h => h)) (pa_cons (pv 2) pa_nil)) (pe_cm (ok_Primes_only T) (pe_glob (v := .ref Ad.c_Primes) rfl T.g_Primes rfl) (hr.mono (by decide)) (passes_call (takes_of rfl rfl rfl rfl) (fun _ _ _ _ h => h)) (pa_cons (pv 5) (pa_cons (pv 6) pa_nil))) (nomark _)) (pe_one (pe_cmpR (op_eqO (ok_Primes_eq T) (hr.mono (by decide)) (Nat.lt_of_succ_lt (hu_of hr)) (passes_call (takes_of rfl rfl rfl rfl) (fun _ _ _ _ h => h))) (pe_md (ok_Count_equal T) (pv 2) T.cl_Count (hr.mono (by decide)) (passes_call (takes_of rfl rfl rfl rfl) (fun _ _ _ _ h => h)) (pa_cons (pv 7) pa_nil)) (pe_md (ok_Count_equal T) (pv 7) T.cl_Count (hr.mono (by decide)) (passes_call (takes_of rfl rfl rfl rfl) (fun _ _ _ _ h => h)) (pa_cons (pv 2) pa_nil)) (nomark _))))))))))))))))), ?_⟩
    try dsimp only [cxOf]
    have o983 : QR.OP 983 := QR.op_by (n := 983) 32 (by decide) (by decide) (by decide) (by decide +kernel)
    have o29 : QR.OP 29 := QR.op_by (n := 29) 6 (by decide) (by decide) (by decide) (by decide +kernel)
    wtm_at "rs"
    refine use_from o983 (by split <;> omega) (by decide) fun p op pn pq => ?_
    have p3 := op.three
    clear pn o983
    have b0 : ∀ {n : Nat}, Bd n 0 := fun {n} => ⟨Nat.two_pow_pos n⟩
    wtm_at "rs"
    refine use_pol nt b0 b0 b0 fun z G1 s1 n1 _ iz => ?_
    wtm_at "rs"
    refine use_pol n1 b0 (Bd.of (by decide) (by decide)) b0 fun x1 G2 s2 n2 _ i1 => ?_
    replace iz := iz.mono s2
    have sm := s1.trans s2
    clear s1 s2
    obtain ⟨_, _, _, _, g1, _⟩ := id i1
    wtm_at "rs"
    refine use_pol n2 b0 b0 (Bd.of (by omega) (by omega)) fun x2 G3 s3 n3 _ i2 => ?_
    replace i1 := i1.mono s3
    replace iz := iz.mono s3
    replace sm := sm.trans s3
    clear s3 g1 n1 n2
    wtm_at "rs"
    refine use_EquA n3 i1 i2 polM_ex polM_ex (eqi_pol (.inl rfl) (.inl rfl) b0 (Bd.of (by decide) (by decide)) b0 b0 b0 (Bd.of (by omega) (by omega))) (show ((Int.lcm 1 1 : Nat) : Int) ≤ 4000 by decide) fun v G4 m R S s4 n4 iw ag => ?_
    replace iz := iz.mono s4
    replace sm := sm.trans s4
    clear s4 i1 i2 n3
    wtm_at "rs"
    refine use_onlyP (S := [p]) n4 (show 1 ≤ 4000 by decide) (fun q hq => by rw [List.mem_singleton.mp hq]; exact ⟨op, by omega⟩) fun u G5 m' R' S' s5 n5 iu md => ?_
    replace iz := iz.mono s5
    replace sm := sm.trans s5
    refine use_PEq T (iw.mono s5) iu n5 ?_
    rw [decide_eq_true (ag.only (show (1 : Int) ≤ 1 by decide) (show (1 : Int) ≤ 1 by decide) md (fun x _ e => ?_) fun r or => ?_)]
    rotate_left
    · have e : ((4 * 0, 4 * 1, 4 * 0) : Int × Int × Int) = (4 * 0, 4 * 0, 4 * p) := e
      simp at e
    · rw [show (polC 0 0 p).val r = _ from polM_val (m := 1), show (polC 0 1 0).val r = _ from polM_val (m := 1), List.mem_singleton]
      omega
    clear s5 n4 iw iu ag md
    wtm_at "rs"
    refine use_pol n5 (Bd.of (by decide) (by decide)) (Bd.of (by omega) (by omega)) b0 fun x1 G6 s6 n6 _ i1 => ?_
    replace iz := iz.mono s6
    replace sm := sm.trans s6
    clear s6 n5
    obtain ⟨_, _, _, _, g1, _⟩ := id i1
    wtm_at "rs"
    refine use_EquA n6 i1 iz polM_ex polM_ex (eqi_pol (.inl rfl) (.inl rfl) (Bd.of (by decide) (by decide)) (Bd.of (by omega) (by omega)) b0 b0 b0 b0) (show ((Int.lcm 1 1 : Nat) : Int) ≤ 4000 by decide) fun v G4 m R S s4 n4 iw ag => ?_
    replace iz := iz.mono s4
    replace sm := sm.trans s4
    clear s4 i1 g1 n6
    wtm_at "rs"
    refine use_onlyP (S := [p]) n4 (show 1 ≤ 4000 by decide) (fun q hq => by rw [List.mem_singleton.mp hq]; exact ⟨op, by omega⟩) fun u G5 m' R' S' s5 n5 iu md => ?_
    replace iz := iz.mono s5
    replace sm := sm.trans s5
    refine use_PEq T (iw.mono s5) iu n5 ?_
    rw [decide_eq_true (ag.only (show (1 : Int) ≤ 1 by decide) (show (1 : Int) ≤ 1 by decide) md (fun x _ e => ?_) fun r or => ?_)]
    rotate_left
    · have e : ((4 * 1, 4 * -p, 4 * 0) : Int × Int × Int) = (4 * 0, 4 * 0, 4 * 0) := e
      simp at e
    · rw [show (polC 1 (-p) 0).val r = _ from polM_val (m := 1), show (polC 0 0 0).val r = _ from polM_val (m := 1), List.mem_singleton]
      have := or.three
      refine ⟨fun e => ?_, fun e => by rw [e]; grind⟩
      have e2 : r * (r - p) = 0 := by grind
      have := (Int.mul_eq_zero.mp e2).resolve_left (by omega)
      omega
    clear s5 n4 iw iu ag md
    have ad := sm _ _ ha
    wtm_at "rs"
    refine use_by (T := [1 + d1]) rfl n5 (by simp) (by decide) (by decide) (fun o h => by rw [List.mem_singleton.mp h]; omega) fun v1 G1 m1 R1 S1 s1 n1 _ ip1 b1 => ?_
    replace iz := iz.mono s1
    replace sm := sm.trans s1
    clear s1 n5 ad
    have ad := sm _ _ ha
    wtm_at "rs"
    refine use_by (T := [1 + d2]) rfl n1 (by simp) (by decide) (by decide) (fun o h => by rw [List.mem_singleton.mp h]; omega) fun v2 G2 m2 R2 S2 s2 n2 _ ip2 b2 => ?_
    replace iz := iz.mono s2
    replace sm := sm.trans s2
    replace ip1 := ip1.mono s2
    clear s2 n1 ad
    have ad := sm _ _ ha
    have f1 := b1.pf (by decide) (by decide)
    have f2 := b2.pf (by decide) (by decide)
    wtm_at "rs"
    refine use_Pand n2 ip1 ip2 (f1.ok (by decide) (by decide) (by decide)) (f2.ok (by decide) (by decide) (by decide)) (lcm_le75 (M := 3953) (by decide) (Int.dvd_trans b1.dvd ⟨67, rfl⟩) (Int.dvd_trans b2.dvd ⟨59, rfl⟩) |> fun h => Int.le_trans h (by decide)) fun w G3 mF RF SF s3 n3 _ iF cF => ?_
    replace iz := iz.mono s3
    replace sm := sm.trans s3
    clear s3 n2 ad ip1 ip2
    have ad := sm _ _ ha
    rw [join_and] at cF
    have pF := cF.pf (M := 3953) ⟨⟨f1.fits.least, Int.dvd_trans f1.fits.dvd ⟨67, rfl⟩, fun x hx => f1.fits.germ x (QR.cop_dvd_right hx ⟨67, rfl⟩), f1.fits.mem⟩, f1.few, f1.small⟩ ⟨⟨f2.fits.least, Int.dvd_trans f2.fits.dvd ⟨59, rfl⟩, fun x hx => f2.fits.germ x (QR.cop_dvd_right hx ⟨59, rfl⟩), f2.fits.mem⟩, f2.few, f2.small⟩ (by decide) (by decide)
    have okF := pF.ok (by decide) (by decide) (by decide)
    have mF1 : 1 ≤ mF := okF.least.desc.pos
    have mF4 := okF.le
    have sF : ∀ p ∈ SF, p < 2 ^ 30 := fun p hp => by
      rcases cF.src p hp with h | h | h
      · have := Int.le_of_dvd (by decide) (b1.src p h)
        omega
      · have := Int.le_of_dvd (by decide) (b2.src p h)
        omega
      · have l3 := lcm_le75 (M := 3953) (by decide) (Int.dvd_trans b1.dvd ⟨67, rfl⟩) (Int.dvd_trans b2.dvd ⟨59, rfl⟩)
        have := Int.le_of_dvd (lcm_pos b1.least.desc.pos b2.least.desc.pos) h
        omega
    obtain ⟨x0, x1, x2, x3⟩ := far_x h1 h2
    have xF : x0 % mF ∈ RF := by
      have := pF.fits.germ x0 x1
      rw [x2, x3] at this
      simpa using this
    have xg : Int.gcd x0 mF = 1 := QR.cop_dvd_right x1 pF.fits.dvd
    have fF := pF.few
    clear pF cF f1 f2 b1 b2 x1 x2 x3
    wtm_at "rs"
    refine ⟨w, mF, RF, SF, rfl, n3, iF, okF, fun f G4 l s4 n4 _ oq iC => ?_⟩
    have gI := gd_ind okF oq sF (by omega)
    replace iz := iz.mono s4
    replace sm := sm.trans s4
    replace iF := iF.mono s4
    clear s4 n3 ad
    have ad := sm _ _ ha
    wtm_at "rs"
    by_cases e3 : d3 = 1
    case' pos =>
      rw [if_pos (decide_eq_true e3)]
      wtm_at "rs"
      have le : ¬ 4000 < ((Int.lcm mF 1 : Nat) : Int) := by rw [lcm_one mF1]; omega
      refine use_CEq T iC iz n4 (eqi_ind gI) (fun lt => absurd lt le) fun _ G5 m R S s5 n5 vn => ?_
      rw [decide_eq_false (ind_not mF1 (van_agr gI.ex polM_ex vn) x0 xg xF)]
      replace iz := iz.mono s5
      replace iC := iC.mono s5
      replace iF := iF.mono s5
      replace sm := sm.trans s5
      clear s5 n4 ad vn
      have ad := sm _ _ ha
      obtain ⟨_, _, _, _, g1, _⟩ := id iC
      refine ⟨_, rfl, ?_⟩
      rw [if_neg (by decide)]
      wtm_at "rs"
      refine use_EquA n5 iC iz gI.ex polM_ex (eqi_ind gI) (by show ((Int.lcm mF 1 : Nat) : Int) ≤ 4000; rw [lcm_one mF1]; exact mF4) fun v G6 m2 R2 S2 s6 n6 iw ag => ?_
      replace iz := iz.mono s6
      replace iF := iF.mono s6
      replace sm := sm.trans s6
      clear s6 n5 ad g1
      have ad := sm _ _ ha
      wtm_at "rs"
      refine use_Pinv n6 iF okF fun y G7 m' R' S' s7 n7 _ iy iv => ?_
      refine use_PEq T (iw.mono s7) iy n7 ?_
      rw [decide_eq_true (ind_inv mF1 oq ag iv)]
      replace iz := iz.mono s7
      replace sm := sm.trans s7
      clear ad
      have ad := sm _ _ ha
      wtm_at "rs"
      have n8 := n7
    case' neg =>
      rw [if_neg (by rw [decide_eq_true_iff]; exact e3)]
      wtm_at "rs"
      have n8 := n4
    all_goals
      refine use_from o29 (by split <;> omega) (by decide) fun p1 op1 pn1 pq1 => ?_
      wtm_at "rs"
      refine use_from o29 (by split <;> omega) (by decide) fun p2 op2 pn2 pq2 => ?_
      have t1 := op1.three
      have t2 := op2.three
      clear pn1 pn2
      have pb : 0 < p1 * p2 ∧ p1 * p2 ≤ 841 := ⟨Int.mul_pos (by omega) (by omega), Int.le_trans (Int.mul_le_mul_of_nonneg_right pq1 (by omega)) (by omega)⟩
      wtm_at "rs"
      refine use_pol n8 (Bd.of (by decide) (by decide)) (Bd.of (by omega) (by omega)) (Bd.of (by omega) (by omega)) fun y G8 s8 n9 _ iy => ?_
      replace iz := iz.mono s8
      replace sm := sm.trans s8
      clear s8 ad
      have ad := sm _ _ ha
      wtm_at "rs"
      refine rd_cut (fun σ G => ∃ (y2 : Addr) (m : Int), σ = [some (.ref a), some (.int p), some (.ref z), some (.ref w), some (.ref f), some (.int p1), some (.int p2), some (.ref y2)] ∧ (m = 1 ∨ m = 4) ∧ Same H G ∧ NoT G ∧ IsCt Ad.c_Count G z (polC 0 0 0) ∧ IsCt Ad.c_Count G y2 (polM m 1 (-p1 - p2) (p1 * p2))) ?_ ?_
      · wtm_at "rs"
        by_cases e4 : d3 = 0
        · rw [if_pos (decide_eq_true e4)]
          obtain ⟨s, r, co⟩ := exists_core (n := -(1 * 1)) (by decide)
          have sb := co.bound (by decide) (B := 1) (by decide) (by decide)
          have cm := cond_m (s := s) (by omega)
          obtain ⟨_, _, _, _, g1, _⟩ := id iy
          wtm_at "rs"
          refine use_con n9 (by decide) (by decide) (by decide) (by decide) (by decide) (by decide) (by decide) co (by omega) fun x G9 l s9 n10 _ oq2 ix => ?_
          have ok2 := conC_ok (by decide) co (by omega) oq2
          obtain ⟨rfl, rfl⟩ := con1_of co oq2
          replace iz := iz.mono s9
          replace iy := iy.mono s9
          replace sm := sm.trans s9
          clear s9 n9 g1 ad
          obtain ⟨_, _, _, _, g1, _⟩ := id iy
          obtain ⟨_, _, _, _, g2, _⟩ := id ix
          have okp : (polC 1 (-p1 - p2) (p1 * p2)).Ok := polM_ok (m := 1) (.inl rfl) (Bd.of (by decide) (by decide)) (Bd.of (by omega) (by omega)) (Bd.of (by omega) (by omega))
          wtm_at "rs"
          refine rd_binO g1 g2 ⟨y, x, _, _, rfl, n10, iy, ix, okp, ok2, fun p hp => absurd hp List.not_mem_nil, show (([] : List Int) ++ []).length < 1000 by decide, fun lt => absurd lt (show ¬ 4000 < ((Int.lcm 1 (cond (-1)) : Nat) : Int) by decide), fun le t G10 s10 n11 _ it => ⟨t, rfl, ?_⟩⟩
          have okt : (cmbC 1 (polC 1 (-p1 - p2) (p1 * p2)) (conC 1 1 1 (-1) [])).Ok := (Gd.cmb (.inl rfl) (gd_polM (m := 1) (.inl rfl) (Bd.of (by decide) (by decide)) (Bd.of (by omega) (by omega)) (Bd.of (by omega) (by omega))) ((gd_con (by decide) (by decide) (by decide) co (by decide) oq2).mono (by decide)) (by decide) (by decide) le).ok
          replace iz := iz.mono s10
          replace sm := sm.trans s10
          clear s10 n10 g1 g2 ix iy
          obtain ⟨_, _, _, _, g1, _⟩ := id it
          have ad := sm _ _ ha
          wtm_at "rs"
          refine use_con n11 (by decide) (by decide) (by decide) (by decide) (by decide) (by decide) (by decide) co (by decide) fun x G11 l s11 n12 _ oq3 ix => ?_
          obtain ⟨_, rfl⟩ := con1_of co oq3
          replace iz := iz.mono s11
          replace it := it.mono s11
          replace sm := sm.trans s11
          clear s11 n11 g1 ad
          obtain ⟨_, _, _, _, g1, _⟩ := id it
          obtain ⟨_, _, _, _, g2, _⟩ := id ix
          wtm_at "rs"
          have l4 : ((Int.lcm (cmbC 1 (polC 1 (-p1 - p2) (p1 * p2)) (conC 1 1 1 (-1) [])).m (conC 1 1 1 (-1) []).m : Nat) : Int) = 4 := by
            show ((Int.lcm ((Int.lcm 1 (cond (-1)) : Nat) : Int) (cond (-1)) : Nat) : Int) = 4
            decide
          refine rd_binO g1 g2 ⟨t, x, _, _, rfl, n12, it, ix, okt, ok2, fun p hp => absurd hp List.not_mem_nil, show (([] : List Int) ++ []).length < 1000 by decide, fun lt => absurd lt (by rw [l4]; decide), fun _ t2 G12 s12 n13 _ it2 => ⟨t2, rfl, ?_⟩⟩
          wtm_at "rs"
          exact ⟨t2, 4, rfl, .inr rfl, sm.trans s12, n13, iz.mono s12, con1_add it2⟩
        · rw [if_neg (by rw [decide_eq_true_iff]; exact e4)]
          wtm_at "rs"
          exact ⟨y, 1, rfl, .inl rfl, sm, n9, iz, iy⟩
      · clear sm n9 iz iy ad
        rintro σ G ⟨y2, m, rfl, hm, sm, n9, iz, iy⟩
        obtain ⟨_, _, _, _, g1, _⟩ := id iy
        have ei : EqI (polM m 1 (-p1 - p2) (p1 * p2)) (polC 0 0 0) := eqi_pol hm (.inl rfl) (Bd.of (by decide) (by decide)) (Bd.of (by omega) (by omega)) (Bd.of (by omega) (by omega)) b0 b0 b0
        have ej : EqI (polC 0 0 0) (polM m 1 (-p1 - p2) (p1 * p2)) := eqi_pol (.inl rfl) hm b0 b0 b0 (Bd.of (by decide) (by decide)) (Bd.of (by omega) (by omega)) (Bd.of (by omega) (by omega))
        have le : ((Int.lcm m 1 : Nat) : Int) ≤ 4000 := by rcases hm with rfl | rfl <;> decide
        have le2 : ((Int.lcm 1 m : Nat) : Int) ≤ 4000 := by rcases hm with rfl | rfl <;> decide
        have m1 : 1 ≤ m := by omega
        wtm_at "rs"
        refine use_EquA n9 iy iz polM_ex polM_ex ei le fun v G4 mm R S s4 n4 iw ag => ?_
        replace iz := iz.mono s4
        replace iy := iy.mono s4
        replace sm := sm.trans s4
        clear s4 n9 g1
        wtm_at "rs"
        refine use_onlyP (S := [p1, p2]) n4 (show 2 ≤ 4000 by decide) (fun q hq => by
          rcases List.mem_cons.mp hq with h | h
          · rw [h]; exact ⟨op1, by omega⟩
          · rw [List.mem_singleton.mp h]; exact ⟨op2, by omega⟩) fun u G5 m' R' S' s5 n5 iu md => ?_
        replace iz := iz.mono s5
        replace iy := iy.mono s5
        replace sm := sm.trans s5
        refine use_PEq T (iw.mono s5) iu n5 ?_
        rw [decide_eq_true (ag.only m1 (show (1 : Int) ≤ 1 by decide) md (fun x _ e => ?_) fun r or => ?_)]
        rotate_left
        · have e : ((4 * 1, 4 * (-p1 - p2), 4 * (p1 * p2)) : Int × Int × Int) = (4 * 0, 4 * 0, 4 * 0) := e
          simp at e
        · rw [polM_val, show (polC 0 0 0).val r = _ from polM_val (m := 1), List.mem_cons, List.mem_singleton]
          have e2 : 1 * r * r + (-p1 - p2) * r + p1 * p2 = (r - p1) * (r - p2) := by grind
          rw [e2]
          refine ⟨fun e => (Int.mul_eq_zero.mp (show (r - p1) * (r - p2) = 0 by rw [e]; simp)).imp (fun _ => by omega) fun _ => by omega, fun e => ?_⟩
          rcases e with e | e
          · rw [e, Int.sub_self, Int.zero_mul]
            omega
          · rw [e, Int.sub_self, Int.mul_zero]
            omega
        clear s5 n4 iw iu ag md
        obtain ⟨_, _, _, _, g1, _⟩ := id iz
        wtm_at "rs"
        refine use_EquA n5 iz iy polM_ex polM_ex ej le2 fun v G6 mm R S s6 n6 iw ag => ?_
        replace iz := iz.mono s6
        replace iy := iy.mono s6
        replace sm := sm.trans s6
        clear s6 n5 g1
        obtain ⟨_, _, _, _, g1, _⟩ := id iy
        wtm_at "rs"
        refine use_EquA n6 iy iz polM_ex polM_ex ei le fun u G7 m2 R2 S2 s7 n7 iu ag2 => ?_
        refine use_PEq T (iw.mono s7) iu n7 ?_
        rw [decide_eq_true (ag2.symm m1 (show (1 : Int) ≤ 1 by decide) ag)]
        exact q _ (sm.trans s7) n7
/-! ### Count.__call__ -/
theorem op_from3 {p : Int} (h : 3 ≤ p) (hp : QR.Pm p) : QR.OP p := ⟨hp, by
  rcases Int.emod_two_eq p with e | e
  · exact absurd (Int.dvd_of_emod_eq_zero e) (hp.2 2 (by omega) (by omega))
  · exact e⟩
def spCtC (C CB : Addr) : Sp := fun vs H Q E => ∃ (x : Addr) (c : Ct) (p : Int), vs = [.ref x, .int p] ∧ IsCt C H x c ∧ c.Ok ∧ p < 2 ^ 60 ∧ (¬ QR.OP p → ∀ d, H d = none → E (.ref CB) (some d) (upd H d (.xd [("p", .int p)]))) ∧ (QR.OP p → Q (.int (c.val p)) H)
theorem use_ctc {C CB x : Addr} {c : Ct} {p : Int} {H : Hp} {Q : VK} {E : XK} (h : IsCt C H x c) (o : c.Ok) (op : QR.OP p) (pb : p < 2 ^ 60) (q : Q (.int (c.val p)) H) : spCtC C CB [.ref x, .int p] H Q E := ⟨x, c, p, rfl, h, o, pb, fun z => absurd op z, fun _ => q⟩
theorem ok_Count_call (T : Txt K mg Ad) : MDef P w K mg base 3 Ad.c_Count "__call__" ["self", "p"] (spCtC Ad.c_Count Ad.c_BadPrime) := by
  refine T.d_Count_call.ok sc_Count_call (fun vs H Q E h => ?_) (fun f cdv A outer s H vs Q E hr h => ?_)
  · obtain ⟨x, c, p, rfl, _⟩ := h
    rfl
  · obtain ⟨x, c, p, rfl, ic, o, pb, qe, q⟩ := h
    refine ⟨_, (pss_cons (ps_if (PW.pt (pw_or (pt_cmpR op_lt (pv 1) pe_int (nomark _)) (pw_or1 (pt_not (pt_val (pe_d (ok_is_prime T) (hr.mono (by decide)) (passes_call (takes_of rfl rfl rfl rfl) (fun _ _ _ _ h => h)) (pa_cons (pv 1) pa_nil))))))) (pss_one (ps_raise rfl (takes_of rfl rfl rfl rfl) (pmk_err (T.err_BadPrime) (hr.mono (by decide)) (pa_cons (pv 1) pa_nil)))) pss_nil)
      (pss_one (ps_ret (pe_md (ok_Count_value_at T) (pv 0) T.cl_Count (hr.mono (by decide)) (passes_call (takes_of rfl rfl rfl rfl) (fun _ _ _ _ h => h)) (pa_cons (pv 1) pa_nil))))), ?_⟩
    try dsimp only [cxOf]
    obtain ⟨dx, dl, ds, es, h1, _⟩ := id ic
    wtm_at "ra"
    · exact qe fun z => by have := z.three; omega
    · rename_i h2 h3
      exact qe fun z => by simp [z.1] at h3
    · rename_i h2 h3
      have op : QR.OP p := op_from3 (by omega) (by simpa using h3)
      exact use_val ic o op pb (q op)
/-! ### _law_is_integer -/
def spIsInt : Sp := fun vs H Q _ => ∃ x : V, vs = [x] ∧ ((∃ n, x = .int n ∧ Q (.bl true) H) ∨ (x = .non ∧ Q (.bl false) H))
theorem ok_law_is_integer (T : Txt K mg Ad) : Def P w K mg base 1 "_law_is_integer" ["_law_actual"] spIsInt := by
  refine T.d_law_is_integer.ok sc_law_is_integer (fun vs H Q E h => ?_) (fun f cdv A outer s H vs Q E hr h => ?_)
  · obtain ⟨n, rfl, _⟩ := h
    rfl
  · obtain ⟨n, rfl, h⟩ := h
    rcases h with ⟨z, rfl, q⟩ | ⟨rfl, q⟩
    · refine ⟨_, (pss_one (ps_ret (pe_and (pe_callB call_isi (by rfl) T.b_isinstance (by decide +kernel) (pa_cons (pv 0) (pa_cons (pe_bltn (v := .ty "int") (by rfl) T.b_int (by decide +kernel) rfl) pa_nil))) (pe_one (pe_not (pe_callB call_isi (by rfl) T.b_isinstance (by decide +kernel) (pa_cons (pv 0) (pa_cons (pe_bltn (v := .ty "bool") (by rfl) T.b_bool (by decide +kernel) rfl) pa_nil)))))))), ?_⟩
      try dsimp only [cxOf]
      wtm_at "rs"
      exact q
    · refine ⟨_, (pss_one (ps_ret (pe_and (pe_callB call_isi (by rfl) T.b_isinstance (by decide +kernel) (pa_cons (pv 0) (pa_cons (pe_bltn (v := .ty "int") (by rfl) T.b_int (by decide +kernel) rfl) pa_nil))) (pe_one (pe_not (pe_callB call_isi (by rfl) T.b_isinstance (by decide +kernel) (pa_cons (pv 0) (pa_cons (pe_bltn (v := .ty "bool") (by rfl) T.b_bool (by decide +kernel) rfl) pa_nil)))))))), ?_⟩
      try dsimp only [cxOf]
      wtm_at "rs"
      refine ⟨_, _, _, _, false, rfl, .ty _, .base .non, kit_ty (by decide +kernel), ?_⟩
      wtm_at "rs"
      exact q
theorem use_isInt {n : Int} {H : Hp} {Q : VK} {E : XK} (q : Q (.bl true) H) : spIsInt [.int n] H Q E := ⟨_, rfl, .inl ⟨n, rfl, q⟩⟩
local macro_rules | `(tactic| wtm_at "s") => `(tactic| with_reducible refine use_isInt ?_)
/-! ### _law_draws -/
def spDraws (K : PySem.W.Frag) : Sp := fun vs H Q E => ∃ (c : Int) (a : Addr) (ss : List Int), vs = [.int c, .ref a] ∧ SqL K H a (ss.map V.int) ∧ (∀ s ∈ ss, 0 < s ∧ s < 2 ^ 240) ∧ ss.length ≤ 1000 ∧ NoT H ∧ ∀ D ds H', Same H H' → NoT H' → H D = none → H' D = some (.lst (ds.map V.int)) → DrawOk ds ss → Q (.ref D) H'
theorem ok_law_draws (T : Txt K mg Ad) : Def P w K mg base 1 "_law_draws" ["_law_cell_here", "_law_sizes"] (spDraws K) := by
  refine T.d_law_draws.ok sc_law_draws (fun vs H Q E h => ?_) (fun f cdv A outer s H vs Q E hr h => ?_)
  · obtain ⟨c, a, ss, rfl, _⟩ := h
    rfl
  · obtain ⟨c, a, ss, rfl, hS, hs, hlen, nt, q⟩ := h
    have hml : (ss.map V.int).length = ss.length := List.length_map ..
    refine ⟨_, (pss_cons (ps_set (i := 2) sc_law_draws.nd rfl (Or.inl rfl) (pe_lst pa_nil))
      (pss_cons (ps_set (i := 3) sc_law_draws.nd rfl (Or.inl rfl) (pe_callB c_abs (by rfl) T.b_abs (by decide +kernel) (pa_cons (pv 0) pa_nil)))
      (pss_cons (ps_for (passes_of rfl) rfl (pi_range1 (by rfl) T.b_range (pa_cons (pe_callB c_len (by rfl) T.b_len PySem.boot_len (pa_cons (pv 1) pa_nil)) pa_nil)) (pg_name (i := 4) sc_law_draws.nd rfl (Or.inl rfl)) (pss_one (ps_if (pt_cmpR op_ge (pe_callB c_abs (by rfl) T.b_abs (by decide +kernel) (pa_cons (pv 0) pa_nil)) (pe_op (op_powN 18) pe_int pe_int) (nomark _)) (pss_cons (ps_expr (pe_bm PySem.F.plainAttrs_list PySem.F.slot_list_append PySem.F.type_list_append mt_append (pv 2) (pa_cons (pe_op op_mod (pe_callTy c_int1 (by rfl) T.b_int (by decide +kernel) (pa_cons (pv 3) pa_nil)) (pe_ix ix_list (pv 1) (pv 4) (fun _ _ => rfl))) pa_nil)))
      (pss_one (ps_set (i := 3) sc_law_draws.nd rfl (Or.inl rfl) (pe_op op_fdivB (pv 3) (pe_ix ix_list (pv 1) (pv 4) (fun _ _ => rfl)))))) (pss_cons (ps_set (i := 5) sc_law_draws.nd rfl (Or.inl rfl) (pe_op op_mod (pe_callTy c_int1 (by rfl) T.b_int (by decide +kernel) (pa_cons (pe_op op_mulB (pe_op op_add (pe_op op_add (pv 3) (pe_op op_mulB pe_int (pv 4))) pe_int) pe_int) pa_nil)) pe_int))
      (pss_cons (ps_set (i := 5) sc_law_draws.nd rfl (Or.inl rfl) (pe_op op_mod (pe_callTy c_int1 (by rfl) T.b_int (by decide +kernel) (pa_cons (pe_op op_add (pe_op op_add (pe_op op_mulB (pe_op op_mulB (pv 5) (pv 5)) pe_int) (pe_op op_mulB pe_int (pv 4))) (pv 5)) pa_nil)) pe_int))
      (pss_one (ps_expr (pe_bm PySem.F.plainAttrs_list PySem.F.slot_list_append PySem.F.type_list_append mt_append (pv 2) (pa_cons (pe_op op_mod (pe_op op_fdivB (pv 5) pe_int) (pe_ix ix_list (pv 1) (pv 4) (fun _ _ => rfl))) pa_nil)))))))))
      (pss_one (ps_ret (pv 2)))))), ?_⟩
    try dsimp only [cxOf]
    wtm_at "rs"
    rename_i D hD
    refine rd_forR (fun i σ H' => ∃ (L : Int) (ds : List Int) (v4 v5 : Option V), σ = [some (.int c), some (.ref a), some (.ref D), some (.int L), v4, v5] ∧ Same H H' ∧ NoT H' ∧ H' D = some (.lst (ds.map V.int)) ∧ DrawOk ds (ss.take i)) ⟨_, [], _, _, rfl, same_new hD, NoT.upd nt rfl, upd_same, trivial⟩ ?_ ?_
    · rintro i σ H' hi ⟨L, ds, v4, v5, rfl, sm, nt', hd, hok⟩
      have hil : i < ss.length := by simpa using hi
      have hS' := sm.seq hS
      have hix : atI (ss.map V.int) (0 + (i : Int)) = some (.int (ss.getD i 0)) := by
        rw [Int.zero_add]
        refine atI_nat ?_
        rw [List.getElem?_map, List.getElem?_eq_getElem hil, List.getD_eq_getElem?_getD, List.getElem?_eq_getElem hil]
        rfl
      obtain ⟨s0, s1⟩ := hs (ss.getD i 0) (by rw [List.getD_eq_getElem?_getD, List.getElem?_eq_getElem hil]; exact List.getElem_mem hil)
      have htk : ss.take (i + 1) = ss.take i ++ [ss.getD i 0] := by
        rw [List.take_add_one, List.getElem?_eq_getElem hil, List.getD_eq_getElem?_getD, List.getElem?_eq_getElem hil]
        rfl
      generalize ss.getD i 0 = z at *
      have hroom : (ds.map V.int).length < 10000 := by
        rw [List.length_map, hok.len, List.length_take]
        omega
      have hDa : D = D := rfl
      wtm_at "ra"
      · refine rd_ixL hS' hix ?_
        wtm_at "rs"
        refine rd_ixL ((show Same H _ by wtm_at "sm").seq hS) hix ?_
        wtm_at "rs"
        exact ⟨_, ds ++ [L % z], _, _, rfl, by wtm_at "sm", by wtm_at "nt", by rw [upd_same, List.map_append]; rfl, by rw [htk]; exact hok.snoc ⟨Int.emod_nonneg _ (by omega), Int.emod_lt_of_pos _ s0⟩⟩
      · refine rd_ixL hS' hix ?_
        wtm_at "rs"
        exact ⟨_, ds ++ [_ % z], _, _, rfl, by wtm_at "sm", by wtm_at "nt", by rw [upd_same, List.map_append]; rfl, by rw [htk]; exact hok.snoc ⟨Int.emod_nonneg _ (by omega), Int.emod_lt_of_pos _ s0⟩⟩
    · rintro σ H' ⟨L, ds, v4, v5, rfl, sm, nt', hd, hok⟩
      rw [show (Int.toNat ((ss.map V.int).length : Int)) = ss.length by simp, List.take_length] at hok
      wtm_at "rs"
      exact q D ds H' sm nt' hD hd hok
theorem use_draws {c : Int} {a : Addr} {ss : List Int} {H : Hp} {Q : VK} {E : XK} (hS : SqL K H a (ss.map V.int)) (hs : ∀ s ∈ ss, 0 < s ∧ s < 2 ^ 240) (hl : ss.length ≤ 1000) (nt : NoT H) (q : ∀ D ds H', Same H H' → NoT H' → H D = none → H' D = some (.lst (ds.map V.int)) → DrawOk ds ss → Q (.ref D) H') : spDraws K [.int c, .ref a] H Q E :=
  ⟨c, a, ss, rfl, hS, hs, hl, nt, q⟩
/-! ### _law_cell -/
theorem getD_at {ns : List Int} {i : Nat} (h : i < ns.length) : atI (ns.map V.int) (i : Int) = some (.int (ns.getD i 0)) := by
  refine atI_nat ?_
  rw [List.getElem?_map, List.getElem?_eq_getElem h, List.getD_eq_getElem?_getD, List.getElem?_eq_getElem h]
  rfl
theorem getD_out {ns : List Int} {i : Nat} (h : ¬ i < ns.length) : ns.getD i 0 = 0 := by
  rw [List.getD_eq_getElem?_getD, List.getElem?_eq_none (by omega)]
  rfl
def spCell (K : PySem.W.Frag) : Sp := fun vs H Q _ => ∃ (a : Addr) (ns : List Int) (i : Nat), vs = [.ref a, .int i] ∧ SqL K H a (ns.map V.int) ∧ Q (.int (ns.getD i 0)) H
theorem ok_law_cell (T : Txt K mg Ad) : Def P w K mg base 1 "_law_cell" ["_law_script", "_law_k"] (spCell K) := by
  refine T.d_law_cell.ok sc_law_cell (fun vs H Q E h => ?_) (fun f cdv A outer s H vs Q E hr h => ?_)
  · obtain ⟨a, ns, i, rfl, _⟩ := h
    rfl
  · obtain ⟨a, ns, i, rfl, hS, q⟩ := h
    refine ⟨_, (pss_cons (ps_if (pt_cmpR op_lt (pv 1) (pe_callB c_len (by rfl) T.b_len PySem.boot_len (pa_cons (pv 0) pa_nil)) (nomark _)) (pss_one (ps_ret (pe_ix ix_list (pv 0) (pv 1) (fun _ _ => rfl)))) pss_nil)
      (pss_one (ps_ret pe_int))), ?_⟩
    try dsimp only [cxOf]
    wtm_at "rs"
    wtm_at "i"
    · rename_i h
      rw [List.length_map] at h
      wtm_at "rs"
      exact rd_ixL hS (getD_at (by omega)) q
    · rename_i h
      rw [List.length_map] at h
      rw [getD_out (by omega)] at q
      wtm_at "rs"
      exact q
theorem use_cell {a : Addr} {ns : List Int} {i : Nat} {H : Hp} {Q : VK} {E : XK} {z : Int} (hS : SqL K H a (ns.map V.int)) (hz : z = (i : Int)) (q : Q (.int (ns.getD i 0)) H) : spCell K [.ref a, .int z] H Q E :=
  ⟨a, ns, i, by rw [hz], hS, q⟩
local macro_rules | `(tactic| wtm_at "s") => `(tactic| ((with_reducible refine use_cell (ns := ?ns) (i := ?i) ?h1 ?h2 ?_); (case h1 => wtm_at "q"); (case h2 => first | rfl | exact (Int.zero_add _) | exact (Int.natCast_succ _).symm)))
/-! ### law -/
/-- what the law knows of its second count -/
structure Snd (c d : Ct) : Prop where
  gd : Gd d 20
  e1 : EqI c d
  e2 : EqI d c
theorem Kd.snd {c d : Ct} (hc : Kd c) (hd : Kd d) : Snd c d := ⟨hd.gd.mono (by decide), eqi_kd hc hd, eqi_kd hd hc⟩
theorem kd_m {c : Ct} (h : Kd c) : c.m ≤ 720 := by
  have := h.m
  omega
theorem add_m {c e : Ct} (hc : Kd c) (em : e.m = 1) : (cmbC 1 c e).m = c.m := by
  show ((Int.lcm c.m e.m : Nat) : Int) = c.m
  rw [em]
  exact lcm_one hc.gd.ok.m1
theorem add_le {c e : Ct} (hc : Kd c) (em : e.m = 1) : ((Int.lcm c.m e.m : Nat) : Int) ≤ 4000 := by
  have := add_m hc em
  have := kd_m hc
  show (cmbC 1 c e).m ≤ 4000
  omega
theorem kx_add {c e : Ct} (hc : Kd c) (he : Kd e) (em : e.m = 1) : Kx (cmbC 1 c e) 48 := by
  have le := add_le hc em
  refine ⟨Gd.cmb (.inl rfl) hc.gd he.gd (by decide) (by decide) le, ?_, fun r hr => ?_⟩
  · have := keysOf_len (l := c.sp ++ e.sp)
    have h1 := hc.sp
    have h2 := he.sp
    rw [List.length_append] at this
    show (keysOf (c.sp ++ e.sp)).length ≤ 20
    omega
  · obtain ⟨h1, h2⟩ := cmb_at hc.gd.ok.m1 he.gd.ok.m1 hr
    have a := (hc.ln _ h1).2.2.2.2
    have b := (he.ln _ h2).2.2.2.2
    show -48 ≤ (c.ln (r % c.m)).2.2 + 1 * (e.ln (r % e.m)).2.2 ∧ (c.ln (r % c.m)).2.2 + 1 * (e.ln (r % e.m)).2.2 ≤ 48
    omega
theorem lcm_self {m : Int} (m1 : 1 ≤ m) : ((Int.lcm m m : Nat) : Int) ≤ m := lcm_le75 m1 (Int.dvd_refl m) (Int.dvd_refl m)
theorem snd_add {c e : Ct} (hc : Kd c) (he : Kd e) (em : e.m = 1) : Snd c (cmbC 1 c e) := by
  have k := kx_add hc he em
  have m := add_m hc em
  have l := lcm_self hc.gd.ok.m1
  have := kd_m hc
  exact ⟨k.gd, eqi_x hc.x k (by rw [m]; omega) (by decide), eqi_x k hc.x (by rw [m]; omega) (by decide)⟩
theorem Gd.cad75 {c d : Ct} (gd : Gd d 20) (gc : Gd c 20) (f : c.sp.length + d.sp.length < 1000) : (∀ p ∈ c.sp ++ d.sp, QR.OP p ∧ p < 2 ^ 60 ∧ Bd 200 (d.val p)) ∧ (c.sp ++ d.sp).length < 1000 := by
  refine ⟨fun p hp => ?_, by rw [List.length_append]; exact f⟩
  obtain ⟨op, pb⟩ := (List.mem_append.mp hp).elim (gc.sp p) (gd.sp p)
  exact ⟨op, by omega, (gd.bv p op pb).mono (by decide)⟩
/-- the four counts of neighbours together -/
theorem four_of {C x : Addr} {G : Hp} (h : IsCt C G x (cmbC 1 (cmbC 1 (cmbC 1 (neiC 1 1) (neiC 1 (-1))) (neiC (-1) 1)) (neiC (-1) (-1)))) : IsCt C G x (polM 4 0 1 (-2)) := by
  have m4 : (cmbC 1 (cmbC 1 (cmbC 1 (neiC 1 1) (neiC 1 (-1))) (neiC (-1) 1)) (neiC (-1) (-1))).m = 4 := by decide
  refine h.congr m4 (fun r hr => ?_) rfl fun p hp => absurd hp List.not_mem_nil
  rw [m4] at hr
  obtain ⟨r0, r1, rc⟩ := mem_uL.mp hr
  have : r = 0 ∨ r = 1 ∨ r = 2 ∨ r = 3 := by omega
  rcases this with rfl | rfl | rfl | rfl
  · exact absurd rc (by decide)
  · decide
  · exact absurd rc (by decide)
  · decide
theorem nei_pm : ((1 : Int) = 1 ∨ (1 : Int) = -1) ∧ ((-1 : Int) = 1 ∨ (-1 : Int) = -1) := ⟨.inl rfl, .inr rfl⟩
theorem ln4 {c : Ct} : ∀ p ∈ ([] : List Int) ++ [], QR.OP p ∧ p < 2 ^ 60 ∧ Bd 200 (c.val p) := fun p hp => absurd hp List.not_mem_nil
theorem trC_add {s t : Int × Int × Int} : s = trC 1 s t ↔ t = (0, 0, 0) := by
  obtain ⟨a, b, c⟩ := s
  obtain ⟨d, e, f⟩ := t
  simp only [trC, Prod.mk.injEq]
  omega
theorem Agr.two {c d c' d' : Ct} {m m' M : Int} {R S R' S' : List Int} (a : Agr c d m R S) (b : Agr c' d' m' R' S') (M1 : 1 ≤ M) (h1 : ((Int.lcm c.m d.m : Nat) : Int) ∣ M) (h2 : ((Int.lcm c'.m d'.m : Nat) : Int) ∣ M) (g : ∀ x, c.ln (x % c.m) = d.ln (x % d.m) ↔ c'.ln (x % c'.m) = d'.ln (x % d'.m)) (v : ∀ p, QR.OP p → (c.val p = d.val p ↔ c'.val p = d'.val p)) : m = m' ∧ R = R' ∧ S = S' :=
  least_unique M1 (Int.dvd_trans a.dvd h1) (Int.dvd_trans b.dvd h2) a.least b.least (fun x hx => by rw [a.germ x (QR.cop_dvd_right hx h1), b.germ x (QR.cop_dvd_right hx h2), g x]) fun p op => by rw [a.mem p op, b.mem p op, v p op]
theorem self_le {c : Ct} (hc : Kd c) : ((Int.lcm c.m c.m : Nat) : Int) ≤ 720 := by
  have := lcm_self hc.gd.ok.m1
  have := kd_m hc
  omega
theorem kx_self {c : Ct} (hc : Kd c) : Kx (cmbC (-1) c c) 0 := by
  have le := self_le hc
  refine ⟨Gd.cmb (.inr rfl) hc.gd hc.gd (by decide) (by decide) (by omega), ?_, fun r hr => ?_⟩
  · have := keysOf_len (l := c.sp ++ c.sp)
    have h1 := hc.sp
    rw [List.length_append] at this
    show (keysOf (c.sp ++ c.sp)).length ≤ 20
    omega
  · show -0 ≤ (c.ln (r % c.m)).2.2 + -1 * (c.ln (r % c.m)).2.2 ∧ (c.ln (r % c.m)).2.2 + -1 * (c.ln (r % c.m)).2.2 ≤ 0
    omega
theorem ln_self {c : Ct} {x : Int} : (cmbC (-1) c c).ln (x % (cmbC (-1) c c).m) = (polC 0 0 0).ln (x % (polC 0 0 0).m) := by
  show (cmbC (-1) c c).ln (x % ((Int.lcm c.m c.m : Nat) : Int)) = ((4 * 0, 4 * 0, 4 * 0) : Int × Int × Int)
  rw [cmb_ln, trC_zero.mpr rfl]
  rfl
theorem val_self {c : Ct} {p : Int} (ec : c.Ex) (op : QR.OP p) : (cmbC (-1) c c).val p = (polC 0 0 0).val p := by
  rw [cmb_val ec ec op, show (polC 0 0 0).val p = _ from polM_val (m := 1)]
  omega
theorem self_m {c : Ct} (hc : Kd c) : (cmbC (-1) c c).m ≤ 720 := self_le hc
theorem ok_law {f : Addr} {fd : FuncData} (F : Fun K "law" "law" s_law f fd) (T : Txt K mg Ad) : FnOk P w K mg base (L2.CX P w) 12 f fd ["_law_script"] (spLaw K) := by
  refine F.okX sc_law (fun vs H Q E h => ?_) (fun cdv A outer s H vs Q E hr h => ?_)
  · obtain ⟨a, ns, rfl, _⟩ := h
    rfl
  · obtain ⟨a, ns, rfl, hS, hlen, nt, kq⟩ := h
    refine ⟨_, (pss_cons (ps_set (i := 1) sc_law.nd rfl (Or.inl rfl) (pe_d (ok_law_draws T) (hr.mono (by decide)) (passes_call (takes_of rfl rfl rfl rfl) (fun _ _ _ _ h => h)) (pa_cons (pe_d (ok_law_cell T) (hr.mono (by decide)) (passes_call (takes_of rfl rfl rfl rfl) (fun _ _ _ _ h => h)) (pa_cons (pv 0) (pa_cons pe_int pa_nil))) (pa_cons (pe_lst (pa_cons pe_int (pa_cons pe_int (pa_cons pe_int (pa_cons pe_int (pa_cons pe_int (pa_cons pe_int pa_nil))))))) pa_nil))))
      (pss_cons (ps_if (pt_not (pt_val (pe_d (ok_law_great_prime T) (hr.mono (by decide)) (passes_call (takes_of rfl rfl rfl rfl) (fun _ _ _ _ h => h)) (pa_cons (pe_d (ok_law_prime_from T) (hr.mono (by decide)) (passes_call (takes_of rfl rfl rfl rfl) (fun _ _ _ _ h => h)) (pa_cons (pe_ix ix_list (pv 1) pe_int (fun _ _ => rfl)) pa_nil)) pa_nil)))) (pss_one (ps_ret pe_bl)) pss_nil)
      (pss_cons (ps_set (i := 2) sc_law.nd rfl (Or.inl rfl) (pe_d (ok_law_count T) (hr.mono (by decide)) (passes_call (takes_of rfl rfl rfl rfl) (fun _ _ _ _ h => h)) (pa_cons (pv 1) pa_nil)))
      (pss_cons (ps_set (i := 3) sc_law.nd rfl (Or.inl rfl) (pe_d (ok_law_draws T) (hr.mono (by decide)) (passes_call (takes_of rfl rfl rfl rfl) (fun _ _ _ _ h => h)) (pa_cons (pe_d (ok_law_cell T) (hr.mono (by decide)) (passes_call (takes_of rfl rfl rfl rfl) (fun _ _ _ _ h => h)) (pa_cons (pv 0) (pa_cons pe_int pa_nil))) (pa_cons (pe_lst (pa_cons pe_int (pa_cons pe_int (pa_cons pe_int (pa_cons pe_int pa_nil))))) pa_nil))))
      (pss_cons (ps_set (i := 4) sc_law.nd rfl (Or.inl rfl) (pe_d (ok_law_count T) (hr.mono (by decide)) (passes_call (takes_of rfl rfl rfl rfl) (fun _ _ _ _ h => h)) (pa_cons (pv 3) pa_nil)))
      (C8.pss_cut (ps_if (pt_cmpR op_eq (pe_ix ix_list (pv 1) pe_int (fun _ _ => rfl)) pe_int (nomark _)) (pss_one (ps_set (i := 4) sc_law.nd rfl (Or.inl rfl) (pe_op (op_binO (m := "__add__") (ok_Count_add T) (by decide +kernel) T.sf_Count T.ty_Count (hr.mono (by decide)) (passes_call (takes_of rfl rfl rfl rfl) (fun _ _ _ _ h => h))) (pv 2) (pe_d (ok_polynomial T) (hr.mono (by decide)) (passes_call (takes_of rfl rfl rfl rfl) (fun _ _ _ _ h => h)) (pa_cons pe_int (pa_cons (pe_op op_sub (pe_ix ix_list (pv 3) pe_int (fun _ _ => rfl)) pe_int) (pa_cons (pe_op op_sub (pe_ix ix_list (pv 3) pe_int (fun _ _ => rfl)) pe_int) pa_nil))))))) pss_nil)
      (C8.pss_cut (ps_if (pt_cmpR op_eq (pe_ix ix_list (pv 1) pe_int (fun _ _ => rfl)) pe_int (nomark _)) (pss_one (ps_set (i := 4) sc_law.nd rfl (Or.inl rfl) (pe_d (ok_law_count T) (hr.mono (by decide)) (passes_call (takes_of rfl rfl rfl rfl) (fun _ _ _ _ h => h)) (pa_cons (pe_op op_cat (pe_lst (pa_cons (pe_ix ix_list (pv 1) pe_int (fun _ _ => rfl)) pa_nil)) (pe_slice sl_list (pv 3) (po_some pe_int) po_none)) pa_nil)))) pss_nil)
      (pss_cons (ps_set (i := 5) sc_law.nd rfl (Or.inl rfl) (pe_d (ok_law_equal T) (hr.mono (by decide)) (passes_call (takes_of rfl rfl rfl rfl) (fun _ _ _ _ h => h)) (pa_cons (pv 2) (pa_cons (pv 4) pa_nil))))
      (pss_cons (ps_if (pt_cmpR op_isN (pv 5) pe_non (nomark _)) (pss_cons (ps_set (i := 6) sc_law.nd rfl (Or.inl rfl) (pe_d (ok_law_same T) (hr.mono (by decide)) (passes_call (takes_of rfl rfl rfl rfl) (fun _ _ _ _ h => h)) (pa_cons (pv 2) (pa_cons (pv 4) pa_nil))))
      (pss_cons (ps_set (i := 7) sc_law.nd rfl (Or.inl rfl) (pe_d (ok_law_wide T) (hr.mono (by decide)) (passes_call (takes_of rfl rfl rfl rfl) (fun _ _ _ _ h => h)) (pa_cons (pv 2) (pa_cons (pv 4) pa_nil))))
      (pss_cons (ps_if (pt_cmpR op_ne (pe_d (ok_law_minus T) (hr.mono (by decide)) (passes_call (takes_of rfl rfl rfl rfl) (fun _ _ _ _ h => h)) (pa_cons (pv 2) (pa_cons (pv 4) pa_nil))) (pv 7) (nomark _)) (pss_one (ps_ret pe_bl)) pss_nil)
      (pss_one (ps_ret (pe_and (pe_cmpR op_isN (pe_d (ok_law_equal T) (hr.mono (by decide)) (passes_call (takes_of rfl rfl rfl rfl) (fun _ _ _ _ h => h)) (pa_cons (pv 4) (pa_cons (pv 2) pa_nil))) pe_non (nomark _)) (pe_and (pe_d (ok_law_is_integer T) (hr.mono (by decide)) (passes_call (takes_of rfl rfl rfl rfl) (fun _ _ _ _ h => h)) (pa_cons (pv 6) pa_nil)) (pe_and (pe_cmpR op_gt (pv 6) pe_int (nomark _)) (pe_one (pe_cmpR op_eq (pv 6) (pv 7) (nomark _))))))))))) pss_nil)
      (pss_cons (ps_if (PW.pt (pw_or (pt_not (pt_val (pe_callB call_isi (by rfl) T.b_isinstance (by decide +kernel) (pa_cons (pv 5) (pa_cons (pe_glob (v := .ref Ad.c_Primes) rfl T.g_Primes rfl) pa_nil))))) (pw_or1 (pt_not (pt_cmpR (op_eqO (ok_Primes_eq T) (hr.mono (by decide)) (Nat.lt_of_succ_lt (hu_of hr)) (passes_call (takes_of rfl rfl rfl rfl) (fun _ _ _ _ h => h))) (pe_d (ok_law_equal T) (hr.mono (by decide)) (passes_call (takes_of rfl rfl rfl rfl) (fun _ _ _ _ h => h)) (pa_cons (pv 4) (pa_cons (pv 2) pa_nil))) (pv 5) (nomark _)))))) (pss_one (ps_ret pe_bl)) pss_nil)
      (pss_cons (ps_setLc (i := 9) (own := [("_law_p", 8)])  (te := (tVar 8)) (tt := (tB (tCall (spOP) [] E0 (tCons (tVar 8) tNil)))) rfl sc_law.nd rfl rfl (sw_true rfl rfl rfl (by decide +kernel)) (pi_range3 (by rfl) T.b_range (pa_cons pe_int (pa_cons pe_int (pa_cons pe_int pa_nil)))) (blkOk_by (own := [("_law_p", 8)]) (N := ["_law_script", "_law_drawn", "_law_first", "_law_other", "_law_second", "_law_found", "_law_told", "_law_wanted", "_law_p", "_law_clocks", "_law_zero", "_law_four", "_law_third", "_law_agreed"]) (sc := defScope s_law) (by decide +kernel)) (fun _ _ _ _ _ => (pg_name (i := 8) sc_law.nd rfl (Or.inl rfl))) (fun _ _ _ _ _ => (pts_one (pt_val (pe_d (E := E0) (ok_law_is_prime T) (hr.mono (by decide)) passL (pa_cons (pv 8) pa_nil))))) (fun _ _ _ _ _ => (pv 8)))
      (pss_cons (ps_for (passes_of rfl) rfl (pi_list (pe_d (ok_law_draws T) (hr.mono (by decide)) (passes_call (takes_of rfl rfl rfl rfl) (fun _ _ _ _ h => h)) (pa_cons (pe_d (ok_law_cell T) (hr.mono (by decide)) (passes_call (takes_of rfl rfl rfl rfl) (fun _ _ _ _ h => h)) (pa_cons (pv 0) (pa_cons pe_int pa_nil))) (pa_cons (pe_lst (pa_cons pe_int (pa_cons pe_int (pa_cons pe_int (pa_cons pe_int pa_nil))))) pa_nil)))) (pg_name (i := 8) sc_law.nd rfl (Or.inl rfl)) (pss_one (ps_expr (pe_bm PySem.F.plainAttrs_list PySem.F.slot_list_append PySem.F.type_list_append mt_append (pv 9) (pa_cons (pe_d (ok_law_prime_from T) (hr.mono (by decide)) (passes_call (takes_of rfl rfl rfl rfl) (fun _ _ _ _ h => h)) (pa_cons (pv 8) pa_nil)) pa_nil)))))
      (pss_cons (ps_for (passes_of rfl) rfl (pi_list (pv 9)) (pg_name (i := 8) sc_law.nd rfl (Or.inl rfl)) (pss_one (ps_if (pt_cmpR op_ne (pe_cmpR (op_inO (ok_Primes_contains T) (hr.mono (by decide)) (passes_call (takes_of rfl rfl rfl rfl) (fun _ _ _ _ h => h))) (pv 8) (pv 5) (by rfl)) (pe_cmpR op_eq (pe_mcall (ok_Count_call T) T.fi_Count (pv 2) (hr.mono (by decide)) (passes_call (takes_of rfl rfl rfl rfl) (fun _ _ _ _ h => h)) (pa_cons (pv 8) pa_nil)) (pe_mcall (ok_Count_call T) T.fi_Count (pv 4) (hr.mono (by decide)) (passes_call (takes_of rfl rfl rfl rfl) (fun _ _ _ _ h => h)) (pa_cons (pv 8) pa_nil)) (nomark _)) (nomark _)) (pss_one (ps_ret pe_bl)) pss_nil)))
      (pss_cons (ps_if (PW.pt (pw_or (pt_cmpR op_ne (pe_cmpR (op_eqO (ok_Count_eq T) (hr.mono (by decide)) (Nat.lt_of_succ_lt (hu_of hr)) (passes_call (takes_of rfl rfl rfl rfl) (fun _ _ _ _ h => h))) (pv 2) (pv 4) (nomark _)) (pe_cmpR (op_eqO (ok_Primes_eq T) (hr.mono (by decide)) (Nat.lt_of_succ_lt (hu_of hr)) (passes_call (takes_of rfl rfl rfl rfl) (fun _ _ _ _ h => h))) (pv 5) (pe_cm0 (ok_Primes_every T) (pe_glob (v := .ref Ad.c_Primes) rfl T.g_Primes rfl) (hr.mono (by decide)) (passes_call (takes_of rfl rfl rfl rfl) (fun _ _ _ _ h => h))) (nomark _)) (nomark _)) (pw_or1 (pt_not (pt_cmpR (op_eqO (ok_Count_eq T) (hr.mono (by decide)) (Nat.lt_of_succ_lt (hu_of hr)) (passes_call (takes_of rfl rfl rfl rfl) (fun _ _ _ _ h => h))) (pv 2) (pv 2) (nomark _)))))) (pss_one (ps_ret pe_bl)) pss_nil)
      (pss_cons (ps_set (i := 10) sc_law.nd rfl (Or.inl rfl) (pe_d (ok_polynomial T) (hr.mono (by decide)) (passes_call (takes_of rfl rfl rfl rfl) (fun _ _ _ _ h => h)) (pa_cons pe_int (pa_cons pe_int (pa_cons pe_int pa_nil)))))
      (pss_cons (ps_if (PW.pt (pw_or (pt_not (pt_cmpR (op_eqO (ok_Count_eq T) (hr.mono (by decide)) (Nat.lt_of_succ_lt (hu_of hr)) (passes_call (takes_of rfl rfl rfl rfl) (fun _ _ _ _ h => h))) (pe_op (op_binO (m := "__sub__") (ok_Count_sub T) (by decide +kernel) T.sf_Count T.ty_Count (hr.mono (by decide)) (passes_call (takes_of rfl rfl rfl rfl) (fun _ _ _ _ h => h))) (pv 2) (pv 2)) (pv 10) (nomark _))) (pw_or1 (pt_not (pt_cmpR (op_eqO (ok_Count_eq T) (hr.mono (by decide)) (Nat.lt_of_succ_lt (hu_of hr)) (passes_call (takes_of rfl rfl rfl rfl) (fun _ _ _ _ h => h))) (pv 10) (pe_op (op_binO (m := "__sub__") (ok_Count_sub T) (by decide +kernel) T.sf_Count T.ty_Count (hr.mono (by decide)) (passes_call (takes_of rfl rfl rfl rfl) (fun _ _ _ _ h => h))) (pv 2) (pv 2)) (nomark _)))))) (pss_one (ps_ret pe_bl)) pss_nil)
      (pss_cons (ps_set (i := 11) sc_law.nd rfl (Or.inl rfl) (pe_op (op_binO (m := "__add__") (ok_Count_add T) (by decide +kernel) T.sf_Count T.ty_Count (hr.mono (by decide)) (passes_call (takes_of rfl rfl rfl rfl) (fun _ _ _ _ h => h))) (pe_op (op_binO (m := "__add__") (ok_Count_add T) (by decide +kernel) T.sf_Count T.ty_Count (hr.mono (by decide)) (passes_call (takes_of rfl rfl rfl rfl) (fun _ _ _ _ h => h))) (pe_op (op_binO (m := "__add__") (ok_Count_add T) (by decide +kernel) T.sf_Count T.ty_Count (hr.mono (by decide)) (passes_call (takes_of rfl rfl rfl rfl) (fun _ _ _ _ h => h))) (pe_d (ok_neighbours T) (hr.mono (by decide)) (passes_call (takes_of rfl rfl rfl rfl) (fun _ _ _ _ h => h)) (pa_cons pe_int (pa_cons pe_int pa_nil))) (pe_d (ok_neighbours T) (hr.mono (by decide)) (passes_call (takes_of rfl rfl rfl rfl) (fun _ _ _ _ h => h)) (pa_cons pe_int (pa_cons (pe_un un_neg pe_int) pa_nil)))) (pe_d (ok_neighbours T) (hr.mono (by decide)) (passes_call (takes_of rfl rfl rfl rfl) (fun _ _ _ _ h => h)) (pa_cons (pe_un un_neg pe_int) (pa_cons pe_int pa_nil)))) (pe_d (ok_neighbours T) (hr.mono (by decide)) (passes_call (takes_of rfl rfl rfl rfl) (fun _ _ _ _ h => h)) (pa_cons (pe_un un_neg pe_int) (pa_cons (pe_un un_neg pe_int) pa_nil)))))
      (pss_cons (ps_if (PW.pt (pw_or (pt_not (pt_cmpR (op_eqO (ok_Count_eq T) (hr.mono (by decide)) (Nat.lt_of_succ_lt (hu_of hr)) (passes_call (takes_of rfl rfl rfl rfl) (fun _ _ _ _ h => h))) (pv 11) (pe_d (ok_polynomial T) (hr.mono (by decide)) (passes_call (takes_of rfl rfl rfl rfl) (fun _ _ _ _ h => h)) (pa_cons pe_int (pa_cons pe_int (pa_cons (pe_un un_neg pe_int) pa_nil)))) (nomark _))) (pw_or1 (pt_not (pt_cmpR (op_eqO (ok_Count_eq T) (hr.mono (by decide)) (Nat.lt_of_succ_lt (hu_of hr)) (passes_call (takes_of rfl rfl rfl rfl) (fun _ _ _ _ h => h))) (pe_d (ok_polynomial T) (hr.mono (by decide)) (passes_call (takes_of rfl rfl rfl rfl) (fun _ _ _ _ h => h)) (pa_cons pe_int (pa_cons pe_int (pa_cons (pe_un un_neg pe_int) pa_nil)))) (pv 11) (nomark _)))))) (pss_one (ps_ret pe_bl)) pss_nil)
      (pss_cons (ps_set (i := 12) sc_law.nd rfl (Or.inl rfl) (pe_d (ok_polynomial T) (hr.mono (by decide)) (passes_call (takes_of rfl rfl rfl rfl) (fun _ _ _ _ h => h)) (pa_cons (pe_op op_sub (pe_ix ix_list (pv 3) pe_int (fun _ _ => rfl)) pe_int) (pa_cons (pe_op op_sub (pe_ix ix_list (pv 3) pe_int (fun _ _ => rfl)) pe_int) (pa_cons (pe_op op_sub (pe_ix ix_list (pv 3) pe_int (fun _ _ => rfl)) pe_int) pa_nil)))))
      (pss_cons (ps_set (i := 13) sc_law.nd rfl (Or.inl rfl) (pe_md (ok_Count_equal T) (pv 2) T.cl_Count (hr.mono (by decide)) (passes_call (takes_of rfl rfl rfl rfl) (fun _ _ _ _ h => h)) (pa_cons (pe_op (op_binO (m := "__add__") (ok_Count_add T) (by decide +kernel) T.sf_Count T.ty_Count (hr.mono (by decide)) (passes_call (takes_of rfl rfl rfl rfl) (fun _ _ _ _ h => h))) (pv 2) (pv 12)) pa_nil)))
      (pss_cons (ps_if (PW.pt (pw_or (pt_not (pt_cmpR (op_eqO (ok_Primes_eq T) (hr.mono (by decide)) (Nat.lt_of_succ_lt (hu_of hr)) (passes_call (takes_of rfl rfl rfl rfl) (fun _ _ _ _ h => h))) (pv 13) (pe_md (ok_Count_equal T) (pv 12) T.cl_Count (hr.mono (by decide)) (passes_call (takes_of rfl rfl rfl rfl) (fun _ _ _ _ h => h)) (pa_cons (pv 10) pa_nil)) (nomark _))) (pw_or1 (pt_cmpR (op_eqO (ok_Count_eq T) (hr.mono (by decide)) (Nat.lt_of_succ_lt (hu_of hr)) (passes_call (takes_of rfl rfl rfl rfl) (fun _ _ _ _ h => h))) (pv 2) pe_int (nomark _))))) (pss_one (ps_ret pe_bl)) pss_nil)
      (pss_one (ps_ret (pe_d (ok_law_far_primes T) (hr.mono (by decide)) (passes_call (takes_of rfl rfl rfl rfl) (fun _ _ _ _ h => h)) (pa_cons (pe_d (ok_law_draws T) (hr.mono (by decide)) (passes_call (takes_of rfl rfl rfl rfl) (fun _ _ _ _ h => h)) (pa_cons (pe_d (ok_law_cell T) (hr.mono (by decide)) (passes_call (takes_of rfl rfl rfl rfl) (fun _ _ _ _ h => h)) (pa_cons (pv 0) (pa_cons pe_int pa_nil))) (pa_cons (pe_lst (pa_cons pe_int (pa_cons pe_int (pa_cons pe_int (pa_cons pe_int pa_nil))))) pa_nil))) pa_nil))))))))))))))))))))))))), ?_⟩
    try dsimp only [cxOf]
    have o8923 : QR.OP 8923 := QR.op_by (n := 8923) 95 (by decide) (by decide) (by decide) (by decide +kernel)
    wtm_at "rs"
    rename_i q1 hq1
    refine use_draws (ss := [5, 13, 13, 13, 4, 8900]) (SqL.of upd_same) (by decide) (by decide) (NoT.upd nt rfl) fun D1 ds G1 s1 n1 hD1 gD1 dok => ?_
    obtain ⟨d0, ds, rfl, d00, d01, dok⟩ := dok.cons_inv
    obtain ⟨d1, ds, rfl, d10, d11, dok⟩ := dok.cons_inv
    obtain ⟨d2, ds, rfl, d20, d21, dok⟩ := dok.cons_inv
    obtain ⟨d3, ds, rfl, d30, d31, dok⟩ := dok.cons_inv
    obtain ⟨d4, ds, rfl, d40, d41, dok⟩ := dok.cons_inv
    obtain ⟨d5, ds, rfl, d50, d51, dok⟩ := dok.cons_inv
    cases dok.nil_inv
    clear dok
    have sm := (same_new hq1).trans s1
    clear s1 hq1 hD1
    wtm_at "rs"
    refine use_from o8923 (by omega) (by decide) fun p op pn pq => ?_
    wtm_at "rs"
    refine use_Grt op (by omega) n1 fun G2 s2 n2 => ?_
    replace gD1 := s2 _ _ gD1
    replace sm := sm.trans s2
    clear s2 n1 op pn pq o8923
    wtm_at "rs"
    refine use_cnt75 n2 gD1 ⟨d00, d01⟩ ⟨d10, d11⟩ ⟨d20, d21⟩ ⟨d30, d31⟩ fun x G3 c s3 n3 _ ix kx => ?_
    replace gD1 := s3 _ _ gD1
    replace sm := sm.trans s3
    clear s3 n2
    have hS3 := sm.seq hS
    wtm_at "rs"
    rename_i q2 hq2
    have gq2 := (same_new (o := .lst ([5, 13, 13, 13].map V.int)) hq2)
    refine use_draws (ss := [5, 13, 13, 13]) (SqL.of upd_same) (by decide) (by decide) (NoT.upd n3 rfl) fun D2 es G4 s4 n4 hD2 gD2 dok => ?_
    obtain ⟨e0, es, rfl, e00, e01, dok⟩ := dok.cons_inv
    obtain ⟨e1, es, rfl, e10, e11, dok⟩ := dok.cons_inv
    obtain ⟨e2, es, rfl, e20, e21, dok⟩ := dok.cons_inv
    obtain ⟨e3, es, rfl, e30, e31, dok⟩ := dok.cons_inv
    cases dok.nil_inv
    clear dok hS3
    replace s4 := gq2.trans s4
    replace gD1 := s4 _ _ gD1
    replace sm := sm.trans s4
    replace ix := ix.mono s4
    clear s4 n3 hq2 gq2 hD2
    wtm_at "rs"
    refine use_cnt75 n4 gD2 ⟨e00, e01⟩ ⟨e10, e11⟩ ⟨e20, e21⟩ ⟨e30, e31⟩ fun y G5 d s5 n5 _ iy ky => ?_
    replace gD1 := s5 _ _ gD1
    replace gD2 := s5 _ _ gD2
    replace sm := sm.trans s5
    replace ix := ix.mono s5
    clear s5 n4
    wtm_at "rs"
    refine rd_cut (fun σ G => ∃ (y : Addr) (d : Ct), σ = [some (.ref a), some (.ref D1), some (.ref x), some (.ref D2), some (.ref y), none, none, none, none, none, none, none, none, none] ∧ Same H G ∧ NoT G ∧ G D1 = some (.lst ([d0, d1, d2, d3, d4, d5].map V.int)) ∧ G D2 = some (.lst ([e0, e1, e2, e3].map V.int)) ∧ IsCt Ad.c_Count G x c ∧ IsCt Ad.c_Count G y d ∧ Snd c d) ?_ ?_
    · wtm_at "rs"
      by_cases z0 : d4 = 0
      · rw [if_pos (decide_eq_true z0)]
        obtain ⟨_, _, _, _, g1, _⟩ := id ix
        wtm_at "rs"
        refine use_pol n5 (Bd.of (by decide) (by decide)) (Bd.of (by omega) (by omega)) (Bd.of (by omega) (by omega)) fun z G6 s6 n6 _ iz => ?_
        have kz : Kd (polC 0 (e1 - 6) (e2 - 6)) := kd_pol (by decide) (by omega) (by omega)
        replace ix := ix.mono s6
        obtain ⟨_, _, _, _, g2, _⟩ := id ix
        obtain ⟨_, _, _, _, g3, _⟩ := id iz
        obtain ⟨v1, v2⟩ := (kz.gd.mono (show 10 ≤ 20 by decide)).cad75 (kx.gd.mono (by decide)) (by have := kx.sp; have := kz.sp; omega)
        have le := add_le kx (e := polC 0 (e1 - 6) (e2 - 6)) rfl
        refine rd_binO g2 g3 ⟨x, z, _, _, rfl, n6, ix, iz, kx.gd.ok, kz.gd.ok, v1, v2, fun lt => absurd lt (by omega), fun _ t G7 s7 n7 _ it => ⟨t, rfl, ?_⟩⟩
        wtm_at "rs"
        exact ⟨t, _, rfl, (sm.trans s6).trans s7, n7, s7 _ _ (s6 _ _ gD1), s7 _ _ (s6 _ _ gD2), ix.mono s7, it, snd_add kx kz rfl⟩
      · rw [if_neg (by rw [decide_eq_true_iff]; exact z0)]
        wtm_at "rs"
        exact ⟨y, d, rfl, sm, n5, gD1, gD2, ix, iy, kx.snd ky⟩
    clear sm n5 gD1 gD2 ix iy ky
    rintro σ G ⟨y, d, rfl, sm, n5, gD1, gD2, ix, iy, sn⟩
    refine rd_cut (fun σ G => ∃ (y : Addr) (d : Ct), σ = [some (.ref a), some (.ref D1), some (.ref x), some (.ref D2), some (.ref y), none, none, none, none, none, none, none, none, none] ∧ Same H G ∧ NoT G ∧ G D2 = some (.lst ([e0, e1, e2, e3].map V.int)) ∧ IsCt Ad.c_Count G x c ∧ IsCt Ad.c_Count G y d ∧ Snd c d) ?_ ?_
    · wtm_at "rs"
      by_cases z1 : d4 = 1
      · rw [if_pos (decide_eq_true z1)]
        wtm_at "rs"
        rename_i q3 h3 q4 h4 q5 h5
        have sq := ((same_new (o := .lst [.int d0]) h3).trans (same_new (o := .lst (cutV ([e0, e1, e2, e3].map V.int) (some 1) none)) h4)).trans (same_new (o := .lst ([V.int d0] ++ cutV ([e0, e1, e2, e3].map V.int) (some 1) none)) h5)
        refine use_cnt75 (d0 := d0) (d1 := e1) (d2 := e2) (d3 := e3) (t := []) (NoT.upd (NoT.upd (NoT.upd n5 rfl) rfl) rfl) upd_same ⟨d00, d01⟩ ⟨e10, e11⟩ ⟨e20, e21⟩ ⟨e30, e31⟩ fun y2 G6 d2 s6 n6 _ iy2 ky2 => ?_
        have s8 := sq.trans s6
        wtm_at "rs"
        exact ⟨y2, d2, rfl, sm.trans s8, n6, s8 _ _ gD2, ix.mono s8, iy2, kx.snd ky2⟩
      · rw [if_neg (by rw [decide_eq_true_iff]; exact z1)]
        wtm_at "rs"
        exact ⟨y, d, rfl, sm, n5, gD2, ix, iy, sn⟩
    clear sm n5 gD1 gD2 ix iy sn
    rintro σ G ⟨y, d, rfl, sm, n5, gD2, ix, iy, sn⟩
    have ec := kx.gd.ex
    have ed := sn.gd.ex
    have c1 := kx.gd.ok.m1
    have c2 := sn.gd.ok.m1
    have lc : Int.lcm d.m c.m = Int.lcm c.m d.m := Int.lcm_comm ..
    wtm_at "rs"
    refine use_LEqu n5 ix iy ec ed sn.e1 (fun lt G6 s6 n6 => ?_) fun le z G6 m R S s6 n6 iz ag => ?_
    · replace ix := ix.mono s6
      replace iy := iy.mono s6
      replace sm := sm.trans s6
      clear s6 n5
      wtm_at "rs"
      refine use_LWid n6 ix iy sn.e1 lt fun G7 s7 n7 => ?_
      replace ix := ix.mono s7
      replace iy := iy.mono s7
      clear s7 n6
      wtm_at "rs"
      refine use_LWid n7 ix iy sn.e1 lt fun G8 s8 n8 => ?_
      replace ix := ix.mono s8
      replace iy := iy.mono s8
      clear s8 n7
      wtm_at "rs"
      refine use_LWid n8 ix iy sn.e1 lt fun G9 s9 n9 => ?_
      replace ix := ix.mono s9
      replace iy := iy.mono s9
      clear s9 n8
      wtm_at "rs"
      refine use_LEqu n9 iy ix ed ec sn.e2 (fun _ G10 s10 n10 => ?_) fun le => absurd le (by rw [lc]; omega)
      wtm_at "rs"
      rw [decide_eq_true rfl]
      exact kq _
    · replace ix := ix.mono s6
      replace iy := iy.mono s6
      replace sm := sm.trans s6
      replace gD2 := s6 _ _ gD2
      clear s6 n5
      obtain ⟨_, _, _, gz, _⟩ := id iz
      have lcd : ((Int.lcm c.m d.m : Nat) : Int) ≤ 4000 := le
      wtm_at "rs"
      refine ⟨_, _, _, _, true, rfl, .own _, T.ty_Primes _ _ _ _ gz, T.ki_Primes, ?_⟩
      clear gz
      wtm_at "rs"
      refine use_LEqu n6 iy ix ed ec sn.e2 (fun lt => absurd lt (by rw [lc]; omega)) fun _ w G7 m2 R2 S2 s7 n7 iw ag2 => ?_
      replace ix := ix.mono s7
      replace iy := iy.mono s7
      replace iz := iz.mono s7
      replace sm := sm.trans s7
      replace gD2 := s7 _ _ gD2
      clear s7 n6
      wtm_at "rs"
      refine use_PEq T iw iz n7 ?_
      rw [decide_eq_true (ag.symm c1 c2 ag2)]
      clear iw ag2
      wtm_at "rs"
      have B := Hv.start n7
      refine rd_r3 (n := 99) ⟨by decide, by decide, by decide, by decide⟩ ?_
      refine rd_lcC (fun i : Nat => decide (QR.OP (3 + (i : Int) * 2))) (fun i : Nat => .int (3 + (i : Int) * 2)) (fun D i hD i9 => ?_) fun Ck hCk => ?_
      · wtm_at "r"
        refine ⟨rfl, ?_⟩
        wtm_at "rs"
        by_cases op : QR.OP (3 + (i : Int) * 2)
        · rw [if_pos (decide_eq_true op)]
          wtm_at "rs"
          exact put_R (by omega) (decide_eq_true op) rfl
        · rw [if_neg (by rw [decide_eq_true_iff]; exact op)]
          exact skip_R (decide_eq_false op)
      obtain ⟨ck, eck, lck, ock⟩ : ∃ ck : List Int, ((List.range 99).filter fun i : Nat => decide (QR.OP (3 + (i : Int) * 2))).map (fun i : Nat => V.int (3 + (i : Int) * 2)) = ck.map V.int ∧ ck.length ≤ 99 ∧ ∀ p ∈ ck, QR.OP p ∧ p < 30000 := by
        refine ⟨((List.range 99).filter fun i : Nat => decide (QR.OP (3 + (i : Int) * 2))).map fun i : Nat => 3 + (i : Int) * 2, by rw [List.map_map]; rfl, ?_, fun p hp => ?_⟩
        · rw [List.length_map]
          exact Nat.le_trans (List.length_filter_le _ _) (by rw [List.length_range]; exact Nat.le_refl _)
        · obtain ⟨i, hi, rfl⟩ := List.mem_map.mp hp
          obtain ⟨h1, h2⟩ := List.mem_filter.mp hi
          have := List.mem_range.mp h1
          exact ⟨of_decide_eq_true h2, by omega⟩
      rw [eck]
      clear eck
      have B := B.new (o := .lst (ck.map V.int)) hCk
      clear hCk
      have hS4 := (sm.trans B.same).seq hS
      have o20011 : QR.OP 20011 := QR.op_by (n := 20011) 142 (by decide) (by decide) (by decide) (by decide +kernel)
      wtm_at "rs"
      rename_i q8 h8
      replace B := B.newL (o := .lst (([20000, 20000, 5000, 1000] : List Int).map V.int)) h8
      refine use_draws (ss := [20000, 20000, 5000, 1000]) (SqL.of upd_same) (by decide) (by decide) B.nt fun D3 fs G8 s8 n8 hD3 gD3 dok => ?_
      obtain ⟨f0, fs, rfl, f00, f01, dok⟩ := dok.cons_inv
      obtain ⟨f1, fs, rfl, f10, f11, dok⟩ := dok.cons_inv
      obtain ⟨f2, fs, rfl, f20, f21, dok⟩ := dok.cons_inv
      obtain ⟨f3, fs, rfl, f30, f31, dok⟩ := dok.cons_inv
      cases dok.nil_inv
      replace gD3 : G8 D3 = some (.lst ([f0, f1, f2, f3].map V.int)) := gD3
      have fb : ∀ v ∈ [f0, f1, f2, f3], 0 ≤ v ∧ v < 20000 := fun v hv => by
        simp only [List.mem_cons, List.not_mem_nil, or_false] at hv
        omega
      replace B := (B.got s8 n8 hD3 gD3).sub (L' := [(D3, .lst ([f0, f1, f2, f3].map V.int))]) (by wtm_at "vsub") (fun _ h => h)
      clear s8 n8 hD3 gD3 dok h8 hS4
      wtm_at "rs"
      refine rd_forL (xs := [f0, f1, f2, f3].map V.int) (fun i σ G => ∃ (v8 : Option V) (cl : List Int), σ = [some (.ref a), some (.ref D1), some (.ref x), some (.ref D2), some (.ref y), some (.ref z), none, none, v8, some (.ref Ck), none, none, none, none] ∧ Hv noX G7 [(Ck, .lst (cl.map V.int))] [(D3, .lst ([f0, f1, f2, f3].map V.int))] [] G ∧ cl.length ≤ 99 + i ∧ ∀ p ∈ cl, QR.OP p ∧ p < 30000) ⟨_, ck, rfl, B, lck, ock⟩ (fun i σ G _ ⟨_, _, _, B, _⟩ => SqL.of (B.lAt (a := D3) (by wtm_at "mem"))) ?_ ?_
      · clear B
        rintro i v σ G hi ⟨v8, cl, rfl, B, cl1, cl2⟩
        rw [List.getElem?_map] at hi
        obtain ⟨u, hu, rfl⟩ := Option.map_eq_some_iff.mp hi
        obtain ⟨u0, u1⟩ := fb u (List.mem_of_getElem? hu)
        have i4 : i < 4 := (List.getElem?_eq_some_iff.mp hu).1
        wtm_at "rs"
        refine use_from o20011 (by omega) (by decide) fun p hp _ pb => ?_
        wtm_at "rs"
        refine rd_append (B.mAt (a := Ck) (by wtm_at "mem")) (Nat.lt_of_lt_of_le (show _ < 1000 by rw [List.length_map]; omega) (by decide)) ?_
        rw [show cl.map V.int ++ [.int p] = (cl ++ [p]).map V.int by rw [List.map_append]; rfl]
        exact ⟨_, cl ++ [p], rfl, B.put, by rw [List.length_append, List.length_singleton]; omega, fun r hr => by
          rcases List.mem_append.mp hr with h | h
          · exact cl2 r h
          · rw [List.mem_singleton.mp h]
            exact ⟨hp, by omega⟩⟩
      clear B lck ock
      rintro σ G ⟨v8, cl, rfl, B, cl1, cl2⟩
      clear cl1
      wtm_at "rs"
      refine rd_forL (xs := cl.map V.int) (fun i σ G => ∃ (v8 : Option V), σ = [some (.ref a), some (.ref D1), some (.ref x), some (.ref D2), some (.ref y), some (.ref z), none, none, v8, some (.ref Ck), none, none, none, none] ∧ Hv noX G7 [(Ck, .lst (cl.map V.int))] [] [] G) ⟨_, rfl, B.sub (L' := []) (Z' := []) (by wtm_at "vsub") (by wtm_at "vsub")⟩ (fun i σ G _ ⟨_, _, B⟩ => SqL.of (B.mAt (a := Ck) (by wtm_at "mem"))) ?_ ?_
      · clear B
        rintro i v σ G hi ⟨v8, rfl, B⟩
        rw [List.getElem?_map] at hi
        obtain ⟨p, hp, rfl⟩ := Option.map_eq_some_iff.mp hi
        obtain ⟨op, pb⟩ := cl2 p (List.mem_of_getElem? hp)
        have jx := ix.mono B.same
        have jy := iy.mono B.same
        have jz := iz.mono B.same
        wtm_at "rs"
        refine use_inP jz ag.least.desc.pos (by have := op.three; omega) ?_
        wtm_at "rs"
        obtain ⟨dx1, _, _, _, g1, _⟩ := id jx
        obtain ⟨dx2, _, _, _, g2, _⟩ := id jy
        refine ⟨⟨_, _, g1⟩, use_ctc jx kx.gd.ok op (by omega) ?_⟩
        wtm_at "rs"
        refine use_ctc jy sn.gd.ok op (by omega) ?_
        wtm_at "rs"
        rw [decide_eq_decide.mpr (ag.mem p op), decide_eq_true rfl, if_neg (by decide)]
        wtm_at "rs"
        exact ⟨_, rfl, B⟩
      · clear B
        rintro σ G ⟨v8, rfl, B⟩
        replace ix := ix.mono B.same
        replace iy := iy.mono B.same
        replace iz := iz.mono B.same
        replace gD2 := B.same _ _ gD2
        replace sm := sm.trans B.same
        have n8 := B.nt
        clear B
        wtm_at "rs"
        refine use_CEq T ix iy n8 sn.e1 (fun lt => absurd lt (by omega)) fun _ G9 m9 R9 S9 s9 n9 vn => ?_
        obtain ⟨rfl, rfl, rfl⟩ := ag.uniq c1 c2 (van_agr ec ed vn)
        replace ix := ix.mono s9
        replace iz := iz.mono s9
        replace sm := sm.trans s9
        replace gD2 := s9 _ _ gD2
        clear s9 n8 vn
        wtm_at "rs"
        refine ⟨rfl, n9, fun e G10 m' R' S' s10 n10 _ je md => ?_⟩
        refine use_PEq T (iz.mono s10) je n10 ?_
        obtain ⟨rfl, rfl, rfl⟩ := made_every md
        replace ix := ix.mono s10
        replace sm := sm.trans s10
        replace gD2 := s10 _ _ gD2
        clear s10 n9 je md iz
        refine rd_neB ?_
        rw [decide_eq_true rfl]
        refine ⟨_, rfl, ?_⟩
        rw [if_neg (by decide)]
        wtm_at "rs"
        have scc := self_le kx
        refine use_CEq T ix ix n10 (eqi_kd kx kx) (fun lt => absurd lt (by omega)) fun _ G11 m9 R9 S9 s11 n11 vn => ?_
        rw [decide_eq_true ((van_agr ec ec vn).self c1)]
        replace ix := ix.mono s11
        replace sm := sm.trans s11
        replace gD2 := s11 _ _ gD2
        clear s11 n10 vn
        have b0 : ∀ {n : Nat}, Bd n 0 := fun {n} => ⟨Nat.two_pow_pos n⟩
        wtm_at "rs"
        refine use_pol n11 b0 b0 b0 fun o G12 s12 n12 _ io => ?_
        have ko : Kd (polC 0 0 0) := kd_pol (by decide) (by decide) (by decide)
        replace ix := ix.mono s12
        replace sm := sm.trans s12
        replace gD2 := s12 _ _ gD2
        clear s12 n11
        obtain ⟨_, _, _, _, g1, _⟩ := id ix
        obtain ⟨v1, v2⟩ := (kx.gd.mono (show 10 ≤ 20 by decide)).cad75 (kx.gd.mono (by decide)) (by have := kx.sp; omega)
        have ks := kx_self kx
        have kz : Kx (polC 0 0 0) 24 := ko.x
        have sm1 := self_m kx
        have sp1 := ks.gd.ok.m1
        have l1 : ((Int.lcm (cmbC (-1) c c).m (polC 0 0 0).m : Nat) : Int) ≤ 720 := by
          show ((Int.lcm (cmbC (-1) c c).m 1 : Nat) : Int) ≤ 720
          rw [lcm_one sp1]
          exact sm1
        have l2 : ((Int.lcm (polC 0 0 0).m (cmbC (-1) c c).m : Nat) : Int) ≤ 720 := by
          rw [Int.lcm_comm]
          exact l1
        wtm_at "rs"
        refine rd_binO g1 g1 ⟨x, x, _, _, rfl, n12, ix, ix, kx.gd.ok, kx.gd.ok, v1, v2, fun lt => absurd lt (by omega), fun _ t G13 s13 n13 _ it => ⟨t, rfl, ?_⟩⟩
        replace ix := ix.mono s13
        replace io := io.mono s13
        replace sm := sm.trans s13
        replace gD2 := s13 _ _ gD2
        clear s13 n12 g1
        wtm_at "rs"
        refine use_CEq T it io n13 (eqi_x ks kz l1 (by decide)) (fun lt => absurd lt (by omega)) fun _ G14 m8 R8 S8 s14 n14 vn => ?_
        rw [decide_eq_true ((van_agr ks.gd.ex polM_ex vn).every sp1 (show (1 : Int) ≤ 1 by decide) (fun _ _ => ln_self) fun _ op => val_self ec op)]
        replace ix := ix.mono s14
        replace io := io.mono s14
        replace sm := sm.trans s14
        replace gD2 := s14 _ _ gD2
        clear s14 n13 vn it
        obtain ⟨_, _, _, _, g1, _⟩ := id ix
        wtm_at "rs"
        refine rd_binO g1 g1 ⟨x, x, _, _, rfl, n14, ix, ix, kx.gd.ok, kx.gd.ok, v1, v2, fun lt => absurd lt (by omega), fun _ t G13 s13 n13 _ it => ⟨t, rfl, ?_⟩⟩
        replace ix := ix.mono s13
        replace io := io.mono s13
        replace sm := sm.trans s13
        replace gD2 := s13 _ _ gD2
        clear s13 n14 g1
        refine use_CEq T io it n13 (eqi_x kz ks l2 (by decide)) (fun lt => absurd lt (by omega)) fun _ G14 m8 R8 S8 s14 n14 vn => ?_
        rw [decide_eq_true ((van_agr polM_ex ks.gd.ex vn).every (show (1 : Int) ≤ 1 by decide) sp1 (fun _ _ => ln_self.symm) fun _ op => (val_self ec op).symm)]
        replace ix := ix.mono s14
        replace io := io.mono s14
        replace sm := sm.trans s14
        replace gD2 := s14 _ _ gD2
        clear s14 n13 vn it
        wtm_at "rs"
        have u1 := nei_pm.1
        have u2 := nei_pm.2
        have ga := (gd_nei u1 u1).cmb (f := 1) (.inl rfl) (gd_nei u1 u2) (by decide) (by decide) (by decide)
        have gb := ga.cmb (f := 1) (.inl rfl) ((gd_nei u2 u1).mono (show 10 ≤ 20 by decide)) (by decide) (by decide) (by decide)
        refine use_nei n14 u1 u1 fun t1 H1 s1 n1 _ i1 => ?_
        wtm_at "rs"
        refine use_nei n1 u1 u2 fun t2 H2 s2 n2 _ i2 => ?_
        replace i1 := i1.mono s2
        replace s1 := s1.trans s2
        obtain ⟨_, _, _, _, g1, _⟩ := id i1
        obtain ⟨_, _, _, _, g2, _⟩ := id i2
        refine rd_binO g1 g2 ⟨t1, t2, _, _, rfl, n2, i1, i2, neiC_ok u1 u1, neiC_ok u1 u2, ln4, (by decide : (([] : List Int) ++ []).length < 1000), fun lt => absurd lt (by decide), fun _ t3 H3 s3 n3 _ i3 => ⟨t3, rfl, ?_⟩⟩
        replace s1 := s1.trans s3
        clear s2 s3 n1 n2 i1 i2 g1 g2
        wtm_at "rs"
        refine use_nei n3 u2 u1 fun t4 H4 s4 n4 _ i4 => ?_
        replace i3 := i3.mono s4
        replace s1 := s1.trans s4
        obtain ⟨_, _, _, _, g1, _⟩ := id i3
        obtain ⟨_, _, _, _, g2, _⟩ := id i4
        refine rd_binO g1 g2 ⟨t3, t4, _, _, rfl, n4, i3, i4, ga.ok, neiC_ok u2 u1, ln4, (by decide : (([] : List Int) ++ []).length < 1000), fun lt => absurd lt (by decide), fun _ t5 H5 s5 n5 _ i5 => ⟨t5, rfl, ?_⟩⟩
        replace s1 := s1.trans s5
        clear s4 s5 n3 n4 i3 i4 g1 g2
        wtm_at "rs"
        refine use_nei n5 u2 u2 fun t6 H6 s6 n6 _ i6 => ?_
        replace i5 := i5.mono s6
        replace s1 := s1.trans s6
        obtain ⟨_, _, _, _, g1, _⟩ := id i5
        obtain ⟨_, _, _, _, g2, _⟩ := id i6
        refine rd_binO g1 g2 ⟨t5, t6, _, _, rfl, n6, i5, i6, gb.ok, neiC_ok u2 u2, ln4, (by decide : (([] : List Int) ++ []).length < 1000), fun lt => absurd lt (by decide), fun _ t7 H7 s7 n7 _ i7 => ⟨t7, rfl, ?_⟩⟩
        replace s1 := s1.trans s7
        replace i7 := four_of i7
        clear s6 s7 n5 n6 i5 i6 g1 g2
        replace ix := ix.mono s1
        replace io := io.mono s1
        replace sm := sm.trans s1
        replace gD2 := s1 _ _ gD2
        clear s1 n14
        wtm_at "rs"
        have bn : Bd 50 (-2) := Bd.of (by decide) (by decide)
        have bo : Bd 50 1 := Bd.of (by decide) (by decide)
        have e41 : EqI (polM 4 0 1 (-2)) (polC 0 1 (-2)) := eqi_pol (.inr rfl) (.inl rfl) b0 (Bd.of (by decide) (by decide)) (Bd.of (by decide) (by decide)) b0 (Bd.of (by decide) (by decide)) (Bd.of (by decide) (by decide))
        have e14 : EqI (polC 0 1 (-2)) (polM 4 0 1 (-2)) := eqi_pol (.inl rfl) (.inr rfl) b0 (Bd.of (by decide) (by decide)) (Bd.of (by decide) (by decide)) b0 (Bd.of (by decide) (by decide)) (Bd.of (by decide) (by decide))
        refine use_pol n7 b0 bo bn fun w1 H8 s8 n8 _ iw => ?_
        replace i7 := i7.mono s8
        refine use_CEq T i7 iw n8 e41 (fun lt => absurd lt (show ¬ 4000 < ((Int.lcm 4 1 : Nat) : Int) by decide)) fun _ H9 m8 R8 S8 s9 n9 vn => ?_
        rw [decide_eq_true ((van_agr polM_ex polM_ex vn).every (show (1 : Int) ≤ 4 by decide) (show (1 : Int) ≤ 1 by decide) (fun _ _ => rfl) fun _ _ => by rw [polM_val, polM_val])]
        replace s8 := s8.trans s9
        replace i7 := i7.mono s9
        replace ix := ix.mono s8
        replace io := io.mono s8
        replace sm := sm.trans s8
        replace gD2 := s8 _ _ gD2
        clear s8 s9 n7 n8 vn iw
        wtm_at "rs"
        refine use_pol n9 b0 bo bn fun w1 H8 s8 n8 _ iw => ?_
        wtm_at "rs"
        replace i7 := i7.mono s8
        refine use_CEq T iw i7 n8 e14 (fun lt => absurd lt (show ¬ 4000 < ((Int.lcm 1 4 : Nat) : Int) by decide)) fun _ H9 m8 R8 S8 s9 n9 vn => ?_
        rw [decide_eq_true ((van_agr polM_ex polM_ex vn).every (show (1 : Int) ≤ 1 by decide) (show (1 : Int) ≤ 4 by decide) (fun _ _ => rfl) fun _ _ => by rw [polM_val, polM_val])]
        replace s8 := s8.trans s9
        replace ix := ix.mono s8
        replace io := io.mono s8
        replace sm := sm.trans s8
        replace gD2 := s8 _ _ gD2
        clear s8 s9 n8 vn iw i7
        wtm_at "rs"
        refine use_pol n9 (Bd.of (by omega) (by omega)) (Bd.of (by omega) (by omega)) (Bd.of (by omega) (by omega)) fun th H10 s10 n10 _ ih => ?_
        have kh : Kd (polC (e1 - 6) (e2 - 6) (e3 - 6)) := kd_pol (by omega) (by omega) (by omega)
        replace ix := ix.mono s10
        replace io := io.mono s10
        replace sm := sm.trans s10
        clear s10 n9 gD2
        obtain ⟨_, _, _, _, g1, _⟩ := id ix
        obtain ⟨_, _, _, _, g2, _⟩ := id ih
        have al := add_le kx (e := polC (e1 - 6) (e2 - 6) (e3 - 6)) rfl
        have am := add_m kx (e := polC (e1 - 6) (e2 - 6) (e3 - 6)) rfl
        obtain ⟨v3, v4⟩ := (kh.gd.mono (show 10 ≤ 20 by decide)).cad75 (kx.gd.mono (by decide)) (by have := kx.sp; have := kh.sp; omega)
        wtm_at "rs"
        refine rd_binO g1 g2 ⟨x, th, _, _, rfl, n10, ix, ih, kx.gd.ok, kh.gd.ok, v3, v4, fun lt => absurd lt (by omega), fun _ t H11 s11 n11 _ it => ⟨t, rfl, ?_⟩⟩
        replace ix := ix.mono s11
        replace io := io.mono s11
        replace ih := ih.mono s11
        replace sm := sm.trans s11
        clear s11 n10 g1 g2
        have sa := snd_add kx kh rfl
        have lx : ((Int.lcm c.m (cmbC 1 c (polC (e1 - 6) (e2 - 6) (e3 - 6))).m : Nat) : Int) ≤ 4000 := by
          rw [am]
          omega
        wtm_at "rs"
        refine use_EquA n11 ix it ec sa.gd.ex sa.e1 lx fun ga1 H12 m8 R8 S8 s12 n12 ja aga => ?_
        replace ix := ix.mono s12
        replace io := io.mono s12
        replace ih := ih.mono s12
        replace sm := sm.trans s12
        clear s12 n11 it
        obtain ⟨_, _, _, _, g1, _⟩ := id ih
        wtm_at "rs"
        refine use_EquA n12 ih io polM_ex polM_ex (eqi_kd kh ko) (show ((Int.lcm 1 1 : Nat) : Int) ≤ 4000 by decide) fun gb1 H13 m9 R9 S9 s13 n13 jb agb => ?_
        replace ix := ix.mono s13
        replace sm := sm.trans s13
        refine use_PEq T (ja.mono s13) jb n13 ?_
        rw [decide_eq_true (aga.two agb (M := ((Int.lcm c.m (cmbC 1 c (polC (e1 - 6) (e2 - 6) (e3 - 6))).m : Nat) : Int)) (by have := lcm_pos c1 sa.gd.ok.m1; omega) (Int.dvd_refl _) (show ((Int.lcm 1 1 : Nat) : Int) ∣ _ from ⟨_, (Int.one_mul _).symm⟩) (fun q => ?_) fun q oq => ?_)]
        rotate_left
        · show _ = (cmbC 1 c (polC (e1 - 6) (e2 - 6) (e3 - 6))).ln (q % ((Int.lcm c.m (polC (e1 - 6) (e2 - 6) (e3 - 6)).m : Nat) : Int)) ↔ _
          rw [cmb_ln, trC_add]
          rfl
        · rw [cmb_val ec kh.gd.ex oq, show (polC 0 0 0).val q = _ from polM_val (m := 1)]
          omega
        clear s13 n12 ja jb aga agb io ih g1
        wtm_at "rs"
        refine use_CEqI T ix n13 ?_
        have hS9 := sm.seq hS
        wtm_at "rs"
        rename_i q9 h9
        refine use_draws (ss := [990, 31, 31, 2]) (SqL.of upd_same) (by decide) (by decide) (NoT.upd n13 rfl) fun D9 gs G9 s9 n9 hD9 gD9 dok => ?_
        obtain ⟨g0, gs, rfl, g00, g01, dok⟩ := dok.cons_inv
        obtain ⟨g1, gs, rfl, g10, g11, dok⟩ := dok.cons_inv
        obtain ⟨g2, gs, rfl, g20, g21, dok⟩ := dok.cons_inv
        obtain ⟨g3, gs, rfl, g30, g31, dok⟩ := dok.cons_inv
        cases dok.nil_inv
        wtm_at "rs"
        exact use_Far n9 gD9 ⟨g00, g01⟩ ⟨g10, g11⟩ ⟨g20, g21⟩ ⟨g30, g31⟩ fun G10 _ _ => kq G10
end
/-! ## what the top has left, and the end -/
structure ClsH (K : PySem.W.Frag) (C : Addr) : Prop where
  opg : PySem.W.plainGet K C Str.empty = true
  ohd : PySem.W.hasDictIn K C = true
  opo : PySem.W.plainOver K C = true
  osa : PySem.W.findIn K (.ref C) "__setattr__" = some (some (.builtin "object.__setattr__"))
  omk : PySem.W.makesIn K C = true
  okc : PySem.W.keepIn K (.ref C) = true
  oha : PySem.W.findIn K (.ref C) "__class__" = some (some (.builtin "object.__class__"))
  ohn : PySem.W.specialIn K (.builtin "object.__class__") "__get__" = some (some (.builtin "getset_descriptor.__get__"))
  otk : PySem.W.takesIn K (.builtin "object.__class__") = some true
  omr : PySem.W.mroIn K C (.type "object") = some true
  oci : PySem.W.isClsIn K C = true
  oct : PySem.W.typeIn K (.ref C) = some (.type "type")
theorem at_Count_init {K : PySem.W.Frag} {h : Heap} {mg : Str → Option Value} (X : K.In h) (G : h.Ns mainGlobals mg) {CO : Addr} (og : PySem.W.nsIn K mainGlobals "Count" = some (some (.ref CO))) (hc : ClsH K CO) {f0 : Addr} {od0 an0 : Option Addr} {sl0 : Array (Option Value)} {oc0 kV0 dc0 pm0 cd0 ct0 : Value} (a0 : PySem.W.findIn K (.ref CO) "__init__" = some (some (.ref f0))) (i0 : PySem.W.isFn K (.ref f0) = true) (l0 : K.lookup f0 = some ⟨oc0, od0, .func (PySem.W.fnOf "__init__" "Count.__init__" (defArgs s_Count_init) (defBody s_Count_init) (defScope s_Count_init) .none kV0 dc0 pm0 an0 cd0 ct0), sl0⟩) (c0 : PySem.W.codeIn K cd0 "Count.__init__" = true) (k0 : PySem.W.keepIn K (.ref f0) = true) : MkAt K mg "Count" CO "Count.__init__" s_Count_init ["self", "modulus", "lines", "special"] := by
  have F := fun_mk (st := s_Count_init) l0 c0 k0
  have b := F.binds (ps := ["self", "modulus", "lines", "special"]) fun _ _ _ _ _ _ us hl => match us, hl with | [_, _, _, _], _ => rfl
  exact ⟨⟨_, _, F, ⟨hc.omk, a0, i0, hc.okc⟩, b⟩, PySem.W.mg_of X G og⟩
theorem at_Count_value_at {K : PySem.W.Frag} {CO : Addr} {f1 : Addr} {od1 an1 : Option Addr} {sl1 : Array (Option Value)} {oc1 kV1 dc1 pm1 cd1 ct1 : Value} (a1 : PySem.W.findIn K (.ref CO) "value_at" = some (some (.ref f1))) (i1 : PySem.W.isFn K (.ref f1) = true) (l1 : K.lookup f1 = some ⟨oc1, od1, .func (PySem.W.fnOf "value_at" "Count.value_at" (defArgs s_Count_value_at) (defBody s_Count_value_at) (defScope s_Count_value_at) .none kV1 dc1 pm1 an1 cd1 ct1), sl1⟩) (c1 : PySem.W.codeIn K cd1 "Count.value_at" = true) (k1 : PySem.W.keepIn K (.ref f1) = true) : MethAt K CO "value_at" "Count.value_at" s_Count_value_at ["self", "p"] := by
  have F := fun_mk (st := s_Count_value_at) l1 c1 k1
  have b := F.binds (ps := ["self", "p"]) fun _ _ _ _ _ _ us hl => match us, hl with | [_, _], _ => rfl
  exact ⟨_, _, F, ⟨a1, i1, k1⟩, b⟩
theorem at_common {K : PySem.W.Frag} {h : Heap} {mg : Str → Option Value} (X : K.In h) (G : h.Ns mainGlobals mg) {f2 : Addr} {od2 an2 : Option Addr} {sl2 : Array (Option Value)} {oc2 kV2 dc2 pm2 cd2 ct2 : Value} (a2 : PySem.W.nsIn K mainGlobals "common" = some (some (.ref f2))) (l2 : K.lookup f2 = some ⟨oc2, od2, .func (PySem.W.fnOf "common" "common" (defArgs s_common) (defBody s_common) (defScope s_common) .none kV2 dc2 pm2 an2 cd2 ct2), sl2⟩) (c2 : PySem.W.codeIn K cd2 "common" = true) (k2 : PySem.W.keepIn K (.ref f2) = true) : DefAt K mg "common" s_common ["a", "b"] := by
  have F := fun_mk (st := s_common) l2 c2 k2
  have b := F.binds (ps := ["a", "b"]) fun _ _ _ _ _ _ us hl => match us, hl with | [_, _], _ => rfl
  exact ⟨_, _, F, PySem.W.mg_of X G a2, b⟩
theorem at_units {K : PySem.W.Frag} {h : Heap} {mg : Str → Option Value} (X : K.In h) (G : h.Ns mainGlobals mg) {f3 : Addr} {od3 an3 : Option Addr} {sl3 : Array (Option Value)} {oc3 kV3 dc3 pm3 cd3 ct3 : Value} (a3 : PySem.W.nsIn K mainGlobals "units" = some (some (.ref f3))) (l3 : K.lookup f3 = some ⟨oc3, od3, .func (PySem.W.fnOf "units" "units" (defArgs s_units) (defBody s_units) (defScope s_units) .none kV3 dc3 pm3 an3 cd3 ct3), sl3⟩) (c3 : PySem.W.codeIn K cd3 "units" = true) (k3 : PySem.W.keepIn K (.ref f3) = true) : DefAt K mg "units" s_units ["modulus"] := by
  have F := fun_mk (st := s_units) l3 c3 k3
  have b := F.binds (ps := ["modulus"]) fun _ _ _ _ _ _ us hl => match us, hl with | [_], _ => rfl
  exact ⟨_, _, F, PySem.W.mg_of X G a3, b⟩
theorem at_units_counts {K : PySem.W.Frag} {h : Heap} {mg : Str → Option Value} (X : K.In h) (G : h.Ns mainGlobals mg) {f4 : Addr} {od4 an4 : Option Addr} {sl4 : Array (Option Value)} {oc4 kV4 dc4 pm4 cd4 ct4 : Value} (a4 : PySem.W.nsIn K mainGlobals "units_counts" = some (some (.ref f4))) (l4 : K.lookup f4 = some ⟨oc4, od4, .func (PySem.W.fnOf "units" "units" (defArgs s_units_counts) (defBody s_units_counts) (defScope s_units_counts) .none kV4 dc4 pm4 an4 cd4 ct4), sl4⟩) (c4 : PySem.W.codeIn K cd4 "units" = true) (k4 : PySem.W.keepIn K (.ref f4) = true) : DefAtA K mg "units_counts" "units" s_units_counts ["modulus"] := by
  have F := fun_mk (st := s_units_counts) l4 c4 k4
  have b := F.binds (ps := ["modulus"]) fun _ _ _ _ _ _ us hl => match us, hl with | [_], _ => rfl
  exact ⟨_, _, F, PySem.W.mg_of X G a4, b⟩
theorem at_combined {K : PySem.W.Frag} {h : Heap} {mg : Str → Option Value} (X : K.In h) (G : h.Ns mainGlobals mg) {f5 : Addr} {od5 an5 : Option Addr} {sl5 : Array (Option Value)} {oc5 kV5 dc5 pm5 cd5 ct5 : Value} (a5 : PySem.W.nsIn K mainGlobals "combined" = some (some (.ref f5))) (l5 : K.lookup f5 = some ⟨oc5, od5, .func (PySem.W.fnOf "combined" "combined" (defArgs s_combined) (defBody s_combined) (defScope s_combined) .none kV5 dc5 pm5 an5 cd5 ct5), sl5⟩) (c5 : PySem.W.codeIn K cd5 "combined" = true) (k5 : PySem.W.keepIn K (.ref f5) = true) : DefAt K mg "combined" s_combined ["first", "second", "factor"] := by
  have F := fun_mk (st := s_combined) l5 c5 k5
  have b := F.binds (ps := ["first", "second", "factor"]) fun _ _ _ _ _ _ us hl => match us, hl with | [_, _, _], _ => rfl
  exact ⟨_, _, F, PySem.W.mg_of X G a5, b⟩
theorem at_factors {K : PySem.W.Frag} {h : Heap} {mg : Str → Option Value} (X : K.In h) (G : h.Ns mainGlobals mg) {f6 : Addr} {od6 an6 : Option Addr} {sl6 : Array (Option Value)} {oc6 kV6 dc6 pm6 cd6 ct6 : Value} (a6 : PySem.W.nsIn K mainGlobals "factors" = some (some (.ref f6))) (l6 : K.lookup f6 = some ⟨oc6, od6, .func (PySem.W.fnOf "factors" "factors" (defArgs s_factors) (defBody s_factors) (defScope s_factors) .none kV6 dc6 pm6 an6 cd6 ct6), sl6⟩) (c6 : PySem.W.codeIn K cd6 "factors" = true) (k6 : PySem.W.keepIn K (.ref f6) = true) : DefAt K mg "factors" s_factors ["n"] := by
  have F := fun_mk (st := s_factors) l6 c6 k6
  have b := F.binds (ps := ["n"]) fun _ _ _ _ _ _ us hl => match us, hl with | [_], _ => rfl
  exact ⟨_, _, F, PySem.W.mg_of X G a6, b⟩
theorem at_odd_primes_of {K : PySem.W.Frag} {h : Heap} {mg : Str → Option Value} (X : K.In h) (G : h.Ns mainGlobals mg) {f7 : Addr} {od7 an7 : Option Addr} {sl7 : Array (Option Value)} {oc7 kV7 dc7 pm7 cd7 ct7 : Value} (a7 : PySem.W.nsIn K mainGlobals "odd_primes_of" = some (some (.ref f7))) (l7 : K.lookup f7 = some ⟨oc7, od7, .func (PySem.W.fnOf "odd_primes_of" "odd_primes_of" (defArgs s_odd_primes_of) (defBody s_odd_primes_of) (defScope s_odd_primes_of) .none kV7 dc7 pm7 an7 cd7 ct7), sl7⟩) (c7 : PySem.W.codeIn K cd7 "odd_primes_of" = true) (k7 : PySem.W.keepIn K (.ref f7) = true) : DefAt K mg "odd_primes_of" s_odd_primes_of ["n"] := by
  have F := fun_mk (st := s_odd_primes_of) l7 c7 k7
  have b := F.binds (ps := ["n"]) fun _ _ _ _ _ _ us hl => match us, hl with | [_], _ => rfl
  exact ⟨_, _, F, PySem.W.mg_of X G a7, b⟩
theorem at_is_prime {K : PySem.W.Frag} {h : Heap} {mg : Str → Option Value} (X : K.In h) (G : h.Ns mainGlobals mg) {f8 : Addr} {od8 an8 : Option Addr} {sl8 : Array (Option Value)} {oc8 kV8 dc8 pm8 cd8 ct8 : Value} (a8 : PySem.W.nsIn K mainGlobals "is_prime" = some (some (.ref f8))) (l8 : K.lookup f8 = some ⟨oc8, od8, .func (PySem.W.fnOf "is_prime" "is_prime" (defArgs s_is_prime) (defBody s_is_prime) (defScope s_is_prime) .none kV8 dc8 pm8 an8 cd8 ct8), sl8⟩) (c8 : PySem.W.codeIn K cd8 "is_prime" = true) (k8 : PySem.W.keepIn K (.ref f8) = true) : DefAt K mg "is_prime" s_is_prime ["n"] := by
  have F := fun_mk (st := s_is_prime) l8 c8 k8
  have b := F.binds (ps := ["n"]) fun _ _ _ _ _ _ us hl => match us, hl with | [_], _ => rfl
  exact ⟨_, _, F, PySem.W.mg_of X G a8, b⟩
theorem at_candidates {K : PySem.W.Frag} {h : Heap} {mg : Str → Option Value} (X : K.In h) (G : h.Ns mainGlobals mg) {f9 : Addr} {od9 an9 : Option Addr} {sl9 : Array (Option Value)} {oc9 kV9 dc9 pm9 cd9 ct9 : Value} (a9 : PySem.W.nsIn K mainGlobals "candidates" = some (some (.ref f9))) (l9 : K.lookup f9 = some ⟨oc9, od9, .func (PySem.W.fnOf "candidates" "candidates" (defArgs s_candidates) (defBody s_candidates) (defScope s_candidates) .none kV9 dc9 pm9 an9 cd9 ct9), sl9⟩) (c9 : PySem.W.codeIn K cd9 "candidates" = true) (k9 : PySem.W.keepIn K (.ref f9) = true) : DefAt K mg "candidates" s_candidates ["line"] := by
  have F := fun_mk (st := s_candidates) l9 c9 k9
  have b := F.binds (ps := ["line"]) fun _ _ _ _ _ _ us hl => match us, hl with | [_], _ => rfl
  exact ⟨_, _, F, PySem.W.mg_of X G a9, b⟩
theorem at_checked_modulus {K : PySem.W.Frag} {h : Heap} {mg : Str → Option Value} (X : K.In h) (G : h.Ns mainGlobals mg) {f10 : Addr} {od10 an10 : Option Addr} {sl10 : Array (Option Value)} {oc10 kV10 dc10 pm10 cd10 ct10 : Value} (a10 : PySem.W.nsIn K mainGlobals "checked_modulus" = some (some (.ref f10))) (l10 : K.lookup f10 = some ⟨oc10, od10, .func (PySem.W.fnOf "checked_modulus" "checked_modulus" (defArgs s_checked_modulus) (defBody s_checked_modulus) (defScope s_checked_modulus) .none kV10 dc10 pm10 an10 cd10 ct10), sl10⟩) (c10 : PySem.W.codeIn K cd10 "checked_modulus" = true) (k10 : PySem.W.keepIn K (.ref f10) = true) : DefAt K mg "checked_modulus" s_checked_modulus ["modulus"] := by
  have F := fun_mk (st := s_checked_modulus) l10 c10 k10
  have b := F.binds (ps := ["modulus"]) fun _ _ _ _ _ _ us hl => match us, hl with | [_], _ => rfl
  exact ⟨_, _, F, PySem.W.mg_of X G a10, b⟩
theorem at_checked_singles {K : PySem.W.Frag} {h : Heap} {mg : Str → Option Value} (X : K.In h) (G : h.Ns mainGlobals mg) {f11 : Addr} {od11 an11 : Option Addr} {sl11 : Array (Option Value)} {oc11 kV11 dc11 pm11 cd11 ct11 : Value} (a11 : PySem.W.nsIn K mainGlobals "checked_singles" = some (some (.ref f11))) (l11 : K.lookup f11 = some ⟨oc11, od11, .func (PySem.W.fnOf "checked_singles" "checked_singles" (defArgs s_checked_singles) (defBody s_checked_singles) (defScope s_checked_singles) .none kV11 dc11 pm11 an11 cd11 ct11), sl11⟩) (c11 : PySem.W.codeIn K cd11 "checked_singles" = true) (k11 : PySem.W.keepIn K (.ref f11) = true) : DefAt K mg "checked_singles" s_checked_singles ["singles"] := by
  have F := fun_mk (st := s_checked_singles) l11 c11 k11
  have b := F.binds (ps := ["singles"]) fun _ _ _ _ _ _ us hl => match us, hl with | [_], _ => rfl
  exact ⟨_, _, F, PySem.W.mg_of X G a11, b⟩
theorem at_units_values {K : PySem.W.Frag} {h : Heap} {mg : Str → Option Value} (X : K.In h) (G : h.Ns mainGlobals mg) {f12 : Addr} {od12 an12 : Option Addr} {sl12 : Array (Option Value)} {oc12 kV12 dc12 pm12 cd12 ct12 : Value} (a12 : PySem.W.nsIn K mainGlobals "units_values" = some (some (.ref f12))) (l12 : K.lookup f12 = some ⟨oc12, od12, .func (PySem.W.fnOf "units" "units" (defArgs s_units_values) (defBody s_units_values) (defScope s_units_values) .none kV12 dc12 pm12 an12 cd12 ct12), sl12⟩) (c12 : PySem.W.codeIn K cd12 "units" = true) (k12 : PySem.W.keepIn K (.ref f12) = true) : DefAtA K mg "units_values" "units" s_units_values ["modulus"] := by
  have F := fun_mk (st := s_units_values) l12 c12 k12
  have b := F.binds (ps := ["modulus"]) fun _ _ _ _ _ _ us hl => match us, hl with | [_], _ => rfl
  exact ⟨_, _, F, PySem.W.mg_of X G a12, b⟩
theorem at_shortened {K : PySem.W.Frag} {h : Heap} {mg : Str → Option Value} (X : K.In h) (G : h.Ns mainGlobals mg) {f13 : Addr} {od13 an13 : Option Addr} {sl13 : Array (Option Value)} {oc13 kV13 dc13 pm13 cd13 ct13 : Value} (a13 : PySem.W.nsIn K mainGlobals "shortened" = some (some (.ref f13))) (l13 : K.lookup f13 = some ⟨oc13, od13, .func (PySem.W.fnOf "shortened" "shortened" (defArgs s_shortened) (defBody s_shortened) (defScope s_shortened) .none kV13 dc13 pm13 an13 cd13 ct13), sl13⟩) (c13 : PySem.W.codeIn K cd13 "shortened" = true) (k13 : PySem.W.keepIn K (.ref f13) = true) : DefAt K mg "shortened" s_shortened ["modulus", "rests", "prime"] := by
  have F := fun_mk (st := s_shortened) l13 c13 k13
  have b := F.binds (ps := ["modulus", "rests", "prime"]) fun _ _ _ _ _ _ us hl => match us, hl with | [_, _, _], _ => rfl
  exact ⟨_, _, F, PySem.W.mg_of X G a13, b⟩
theorem at_toggled {K : PySem.W.Frag} {h : Heap} {mg : Str → Option Value} (X : K.In h) (G : h.Ns mainGlobals mg) {f14 : Addr} {od14 an14 : Option Addr} {sl14 : Array (Option Value)} {oc14 kV14 dc14 pm14 cd14 ct14 : Value} (a14 : PySem.W.nsIn K mainGlobals "toggled" = some (some (.ref f14))) (l14 : K.lookup f14 = some ⟨oc14, od14, .func (PySem.W.fnOf "toggled" "toggled" (defArgs s_toggled) (defBody s_toggled) (defScope s_toggled) .none kV14 dc14 pm14 an14 cd14 ct14), sl14⟩) (c14 : PySem.W.codeIn K cd14 "toggled" = true) (k14 : PySem.W.keepIn K (.ref f14) = true) : DefAt K mg "toggled" s_toggled ["singles", "p"] := by
  have F := fun_mk (st := s_toggled) l14 c14 k14
  have b := F.binds (ps := ["singles", "p"]) fun _ _ _ _ _ _ us hl => match us, hl with | [_, _], _ => rfl
  exact ⟨_, _, F, PySem.W.mg_of X G a14, b⟩
theorem at_told_by {K : PySem.W.Frag} {h : Heap} {mg : Str → Option Value} (X : K.In h) (G : h.Ns mainGlobals mg) {f15 : Addr} {od15 an15 : Option Addr} {sl15 : Array (Option Value)} {oc15 kV15 dc15 pm15 cd15 ct15 : Value} (a15 : PySem.W.nsIn K mainGlobals "told_by" = some (some (.ref f15))) (l15 : K.lookup f15 = some ⟨oc15, od15, .func (PySem.W.fnOf "told_by" "told_by" (defArgs s_told_by) (defBody s_told_by) (defScope s_told_by) .none kV15 dc15 pm15 an15 cd15 ct15), sl15⟩) (c15 : PySem.W.codeIn K cd15 "told_by" = true) (k15 : PySem.W.keepIn K (.ref f15) = true) : DefAt K mg "told_by" s_told_by ["modulus", "rests", "p"] := by
  have F := fun_mk (st := s_told_by) l15 c15 k15
  have b := F.binds (ps := ["modulus", "rests", "p"]) fun _ _ _ _ _ _ us hl => match us, hl with | [_, _, _], _ => rfl
  exact ⟨_, _, F, PySem.W.mg_of X G a15, b⟩
theorem at_least_description {K : PySem.W.Frag} {h : Heap} {mg : Str → Option Value} (X : K.In h) (G : h.Ns mainGlobals mg) {f16 : Addr} {od16 an16 : Option Addr} {sl16 : Array (Option Value)} {oc16 kV16 dc16 pm16 cd16 ct16 : Value} (a16 : PySem.W.nsIn K mainGlobals "least_description" = some (some (.ref f16))) (l16 : K.lookup f16 = some ⟨oc16, od16, .func (PySem.W.fnOf "least_description" "least_description" (defArgs s_least_description) (defBody s_least_description) (defScope s_least_description) .none kV16 dc16 pm16 an16 cd16 ct16), sl16⟩) (c16 : PySem.W.codeIn K cd16 "least_description" = true) (k16 : PySem.W.keepIn K (.ref f16) = true) : DefAt K mg "least_description" s_least_description ["modulus", "rests", "singles"] := by
  have F := fun_mk (st := s_least_description) l16 c16 k16
  have b := F.binds (ps := ["modulus", "rests", "singles"]) fun _ _ _ _ _ _ us hl => match us, hl with | [_, _, _], _ => rfl
  exact ⟨_, _, F, PySem.W.mg_of X G a16, b⟩
theorem at_checked_modulus_values {K : PySem.W.Frag} {h : Heap} {mg : Str → Option Value} (X : K.In h) (G : h.Ns mainGlobals mg) {f17 : Addr} {od17 an17 : Option Addr} {sl17 : Array (Option Value)} {oc17 kV17 dc17 pm17 cd17 ct17 : Value} (a17 : PySem.W.nsIn K mainGlobals "checked_modulus_values" = some (some (.ref f17))) (l17 : K.lookup f17 = some ⟨oc17, od17, .func (PySem.W.fnOf "checked_modulus" "checked_modulus" (defArgs s_checked_modulus_values) (defBody s_checked_modulus_values) (defScope s_checked_modulus_values) .none kV17 dc17 pm17 an17 cd17 ct17), sl17⟩) (c17 : PySem.W.codeIn K cd17 "checked_modulus" = true) (k17 : PySem.W.keepIn K (.ref f17) = true) : DefAtA K mg "checked_modulus_values" "checked_modulus" s_checked_modulus_values ["modulus"] := by
  have F := fun_mk (st := s_checked_modulus_values) l17 c17 k17
  have b := F.binds (ps := ["modulus"]) fun _ _ _ _ _ _ us hl => match us, hl with | [_], _ => rfl
  exact ⟨_, _, F, PySem.W.mg_of X G a17, b⟩
theorem at_Primes_init {K : PySem.W.Frag} {h : Heap} {mg : Str → Option Value} (X : K.In h) (G : h.Ns mainGlobals mg) {CO : Addr} (og : PySem.W.nsIn K mainGlobals "Primes" = some (some (.ref CO))) (hc : ClsH K CO) {f18 : Addr} {od18 an18 : Option Addr} {sl18 : Array (Option Value)} {oc18 kV18 dc18 pm18 cd18 ct18 : Value} (a18 : PySem.W.findIn K (.ref CO) "__init__" = some (some (.ref f18))) (i18 : PySem.W.isFn K (.ref f18) = true) (l18 : K.lookup f18 = some ⟨oc18, od18, .func (PySem.W.fnOf "__init__" "Primes.__init__" (defArgs s_Primes_init) (defBody s_Primes_init) (defScope s_Primes_init) .none kV18 dc18 pm18 an18 cd18 ct18), sl18⟩) (c18 : PySem.W.codeIn K cd18 "Primes.__init__" = true) (k18 : PySem.W.keepIn K (.ref f18) = true) : MkAt K mg "Primes" CO "Primes.__init__" s_Primes_init ["self", "modulus", "rests", "singles"] := by
  have F := fun_mk (st := s_Primes_init) l18 c18 k18
  have b := F.binds (ps := ["self", "modulus", "rests", "singles"]) fun _ _ _ _ _ _ us hl => match us, hl with | [_, _, _, _], _ => rfl
  exact ⟨⟨_, _, F, ⟨hc.omk, a18, i18, hc.okc⟩, b⟩, PySem.W.mg_of X G og⟩
theorem at_vanishing {K : PySem.W.Frag} {h : Heap} {mg : Str → Option Value} (X : K.In h) (G : h.Ns mainGlobals mg) {f19 : Addr} {od19 an19 : Option Addr} {sl19 : Array (Option Value)} {oc19 kV19 dc19 pm19 cd19 ct19 : Value} (a19 : PySem.W.nsIn K mainGlobals "vanishing" = some (some (.ref f19))) (l19 : K.lookup f19 = some ⟨oc19, od19, .func (PySem.W.fnOf "vanishing" "vanishing" (defArgs s_vanishing) (defBody s_vanishing) (defScope s_vanishing) .none kV19 dc19 pm19 an19 cd19 ct19), sl19⟩) (c19 : PySem.W.codeIn K cd19 "vanishing" = true) (k19 : PySem.W.keepIn K (.ref f19) = true) : DefAt K mg "vanishing" s_vanishing ["count"] := by
  have F := fun_mk (st := s_vanishing) l19 c19 k19
  have b := F.binds (ps := ["count"]) fun _ _ _ _ _ _ us hl => match us, hl with | [_], _ => rfl
  exact ⟨_, _, F, PySem.W.mg_of X G a19, b⟩
theorem at_combined_counts {K : PySem.W.Frag} {h : Heap} {mg : Str → Option Value} (X : K.In h) (G : h.Ns mainGlobals mg) {f20 : Addr} {od20 an20 : Option Addr} {sl20 : Array (Option Value)} {oc20 kV20 dc20 pm20 cd20 ct20 : Value} (a20 : PySem.W.nsIn K mainGlobals "combined_counts" = some (some (.ref f20))) (l20 : K.lookup f20 = some ⟨oc20, od20, .func (PySem.W.fnOf "combined" "combined" (defArgs s_combined_counts) (defBody s_combined_counts) (defScope s_combined_counts) .none kV20 dc20 pm20 an20 cd20 ct20), sl20⟩) (c20 : PySem.W.codeIn K cd20 "combined" = true) (k20 : PySem.W.keepIn K (.ref f20) = true) : DefAtA K mg "combined_counts" "combined" s_combined_counts ["first", "second", "factor"] := by
  have F := fun_mk (st := s_combined_counts) l20 c20 k20
  have b := F.binds (ps := ["first", "second", "factor"]) fun _ _ _ _ _ _ us hl => match us, hl with | [_, _, _], _ => rfl
  exact ⟨_, _, F, PySem.W.mg_of X G a20, b⟩
theorem at_Count_equal {K : PySem.W.Frag} {CO : Addr} {f21 : Addr} {od21 an21 : Option Addr} {sl21 : Array (Option Value)} {oc21 kV21 dc21 pm21 cd21 ct21 : Value} (a21 : PySem.W.findIn K (.ref CO) "equal" = some (some (.ref f21))) (i21 : PySem.W.isFn K (.ref f21) = true) (l21 : K.lookup f21 = some ⟨oc21, od21, .func (PySem.W.fnOf "equal" "Count.equal" (defArgs s_Count_equal) (defBody s_Count_equal) (defScope s_Count_equal) .none kV21 dc21 pm21 an21 cd21 ct21), sl21⟩) (c21 : PySem.W.codeIn K cd21 "Count.equal" = true) (k21 : PySem.W.keepIn K (.ref f21) = true) : MethAt K CO "equal" "Count.equal" s_Count_equal ["self", "other"] := by
  have F := fun_mk (st := s_Count_equal) l21 c21 k21
  have b := F.binds (ps := ["self", "other"]) fun _ _ _ _ _ _ us hl => match us, hl with | [_, _], _ => rfl
  exact ⟨_, _, F, ⟨a21, i21, k21⟩, b⟩
theorem at_polynomial {K : PySem.W.Frag} {h : Heap} {mg : Str → Option Value} (X : K.In h) (G : h.Ns mainGlobals mg) {f22 : Addr} {od22 an22 : Option Addr} {sl22 : Array (Option Value)} {oc22 kV22 dc22 pm22 cd22 ct22 : Value} (a22 : PySem.W.nsIn K mainGlobals "polynomial" = some (some (.ref f22))) (l22 : K.lookup f22 = some ⟨oc22, od22, .func (PySem.W.fnOf "polynomial" "polynomial" (defArgs s_polynomial) (defBody s_polynomial) (defScope s_polynomial) .none kV22 dc22 pm22 an22 cd22 ct22), sl22⟩) (c22 : PySem.W.codeIn K cd22 "polynomial" = true) (k22 : PySem.W.keepIn K (.ref f22) = true) : DefAt K mg "polynomial" s_polynomial ["a", "b", "c"] := by
  have F := fun_mk (st := s_polynomial) l22 c22 k22
  have b := F.binds (ps := ["a", "b", "c"]) fun _ _ _ _ _ _ us hl => match us, hl with | [_, _, _], _ => rfl
  exact ⟨_, _, F, PySem.W.mg_of X G a22, b⟩
theorem at_core {K : PySem.W.Frag} {h : Heap} {mg : Str → Option Value} (X : K.In h) (G : h.Ns mainGlobals mg) {f23 : Addr} {od23 an23 : Option Addr} {sl23 : Array (Option Value)} {oc23 kV23 dc23 pm23 cd23 ct23 : Value} (a23 : PySem.W.nsIn K mainGlobals "core" = some (some (.ref f23))) (l23 : K.lookup f23 = some ⟨oc23, od23, .func (PySem.W.fnOf "core" "core" (defArgs s_core) (defBody s_core) (defScope s_core) .none kV23 dc23 pm23 an23 cd23 ct23), sl23⟩) (c23 : PySem.W.codeIn K cd23 "core" = true) (k23 : PySem.W.keepIn K (.ref f23) = true) : DefAt K mg "core" s_core ["n"] := by
  have F := fun_mk (st := s_core) l23 c23 k23
  have b := F.binds (ps := ["n"]) fun _ _ _ _ _ _ us hl => match us, hl with | [_], _ => rfl
  exact ⟨_, _, F, PySem.W.mg_of X G a23, b⟩
theorem at_conductor {K : PySem.W.Frag} {h : Heap} {mg : Str → Option Value} (X : K.In h) (G : h.Ns mainGlobals mg) {f24 : Addr} {od24 an24 : Option Addr} {sl24 : Array (Option Value)} {oc24 kV24 dc24 pm24 cd24 ct24 : Value} (a24 : PySem.W.nsIn K mainGlobals "conductor" = some (some (.ref f24))) (l24 : K.lookup f24 = some ⟨oc24, od24, .func (PySem.W.fnOf "conductor" "conductor" (defArgs s_conductor) (defBody s_conductor) (defScope s_conductor) .none kV24 dc24 pm24 an24 cd24 ct24), sl24⟩) (c24 : PySem.W.codeIn K cd24 "conductor" = true) (k24 : PySem.W.keepIn K (.ref f24) = true) : DefAt K mg "conductor" s_conductor ["n"] := by
  have F := fun_mk (st := s_conductor) l24 c24 k24
  have b := F.binds (ps := ["n"]) fun _ _ _ _ _ _ us hl => match us, hl with | [_], _ => rfl
  exact ⟨_, _, F, PySem.W.mg_of X G a24, b⟩
theorem at_checked_modulus_signs {K : PySem.W.Frag} {h : Heap} {mg : Str → Option Value} (X : K.In h) (G : h.Ns mainGlobals mg) {f25 : Addr} {od25 an25 : Option Addr} {sl25 : Array (Option Value)} {oc25 kV25 dc25 pm25 cd25 ct25 : Value} (a25 : PySem.W.nsIn K mainGlobals "checked_modulus_signs" = some (some (.ref f25))) (l25 : K.lookup f25 = some ⟨oc25, od25, .func (PySem.W.fnOf "checked_modulus" "checked_modulus" (defArgs s_checked_modulus_signs) (defBody s_checked_modulus_signs) (defScope s_checked_modulus_signs) .none kV25 dc25 pm25 an25 cd25 ct25), sl25⟩) (c25 : PySem.W.codeIn K cd25 "checked_modulus" = true) (k25 : PySem.W.keepIn K (.ref f25) = true) : DefAtA K mg "checked_modulus_signs" "checked_modulus" s_checked_modulus_signs ["m"] := by
  have F := fun_mk (st := s_checked_modulus_signs) l25 c25 k25
  have b := F.binds (ps := ["m"]) fun _ _ _ _ _ _ us hl => match us, hl with | [_], _ => rfl
  exact ⟨_, _, F, PySem.W.mg_of X G a25, b⟩
theorem at_factor_of {K : PySem.W.Frag} {h : Heap} {mg : Str → Option Value} (X : K.In h) (G : h.Ns mainGlobals mg) {f26 : Addr} {od26 an26 : Option Addr} {sl26 : Array (Option Value)} {oc26 kV26 dc26 pm26 cd26 ct26 : Value} (a26 : PySem.W.nsIn K mainGlobals "factor_of" = some (some (.ref f26))) (l26 : K.lookup f26 = some ⟨oc26, od26, .func (PySem.W.fnOf "factor_of" "factor_of" (defArgs s_factor_of) (defBody s_factor_of) (defScope s_factor_of) .none kV26 dc26 pm26 an26 cd26 ct26), sl26⟩) (c26 : PySem.W.codeIn K cd26 "factor_of" = true) (k26 : PySem.W.keepIn K (.ref f26) = true) : DefAt K mg "factor_of" s_factor_of ["rule", "n", "m"] := by
  have F := fun_mk (st := s_factor_of) l26 c26 k26
  have b := F.binds (ps := ["rule", "n", "m"]) fun _ _ _ _ _ _ us hl => match us, hl with | [_, _, _], _ => rfl
  exact ⟨_, _, F, PySem.W.mg_of X G a26, b⟩
theorem at_sign {K : PySem.W.Frag} {h : Heap} {mg : Str → Option Value} (X : K.In h) (G : h.Ns mainGlobals mg) {f27 : Addr} {od27 an27 : Option Addr} {sl27 : Array (Option Value)} {oc27 kV27 dc27 pm27 cd27 ct27 : Value} (a27 : PySem.W.nsIn K mainGlobals "sign" = some (some (.ref f27))) (l27 : K.lookup f27 = some ⟨oc27, od27, .func (PySem.W.fnOf "sign" "sign" (defArgs s_sign) (defBody s_sign) (defScope s_sign) .none kV27 dc27 pm27 an27 cd27 ct27), sl27⟩) (c27 : PySem.W.codeIn K cd27 "sign" = true) (k27 : PySem.W.keepIn K (.ref f27) = true) : DefAt K mg "sign" s_sign ["n", "m"] := by
  have F := fun_mk (st := s_sign) l27 c27 k27
  have b := F.binds (ps := ["n", "m"]) fun _ _ _ _ _ _ us hl => match us, hl with | [_, _], _ => rfl
  exact ⟨_, _, F, PySem.W.mg_of X G a27, b⟩
theorem at_sign_by_rest {K : PySem.W.Frag} {h : Heap} {mg : Str → Option Value} (X : K.In h) (G : h.Ns mainGlobals mg) {f28 : Addr} {od28 an28 : Option Addr} {sl28 : Array (Option Value)} {oc28 kV28 dc28 pm28 cd28 ct28 : Value} (a28 : PySem.W.nsIn K mainGlobals "sign_by_rest" = some (some (.ref f28))) (l28 : K.lookup f28 = some ⟨oc28, od28, .func (PySem.W.fnOf "sign_by_rest" "sign_by_rest" (defArgs s_sign_by_rest) (defBody s_sign_by_rest) (defScope s_sign_by_rest) .none kV28 dc28 pm28 an28 cd28 ct28), sl28⟩) (c28 : PySem.W.codeIn K cd28 "sign_by_rest" = true) (k28 : PySem.W.keepIn K (.ref f28) = true) : DefAt K mg "sign_by_rest" s_sign_by_rest ["n", "rest", "modulus"] := by
  have F := fun_mk (st := s_sign_by_rest) l28 c28 k28
  have b := F.binds (ps := ["n", "rest", "modulus"]) fun _ _ _ _ _ _ us hl => match us, hl with | [_, _, _], _ => rfl
  exact ⟨_, _, F, PySem.W.mg_of X G a28, b⟩
theorem at_checked_clock {K : PySem.W.Frag} {h : Heap} {mg : Str → Option Value} (X : K.In h) (G : h.Ns mainGlobals mg) {f29 : Addr} {od29 an29 : Option Addr} {sl29 : Array (Option Value)} {oc29 kV29 dc29 pm29 cd29 ct29 : Value} (a29 : PySem.W.nsIn K mainGlobals "checked_clock" = some (some (.ref f29))) (l29 : K.lookup f29 = some ⟨oc29, od29, .func (PySem.W.fnOf "checked_clock" "checked_clock" (defArgs s_checked_clock) (defBody s_checked_clock) (defScope s_checked_clock) .none kV29 dc29 pm29 an29 cd29 ct29), sl29⟩) (c29 : PySem.W.codeIn K cd29 "checked_clock" = true) (k29 : PySem.W.keepIn K (.ref f29) = true) : DefAt K mg "checked_clock" s_checked_clock ["p"] := by
  have F := fun_mk (st := s_checked_clock) l29 c29 k29
  have b := F.binds (ps := ["p"]) fun _ _ _ _ _ _ us hl => match us, hl with | [_], _ => rfl
  exact ⟨_, _, F, PySem.W.mg_of X G a29, b⟩
theorem at_inverse {K : PySem.W.Frag} {h : Heap} {mg : Str → Option Value} (X : K.In h) (G : h.Ns mainGlobals mg) {f30 : Addr} {od30 an30 : Option Addr} {sl30 : Array (Option Value)} {oc30 kV30 dc30 pm30 cd30 ct30 : Value} (a30 : PySem.W.nsIn K mainGlobals "inverse" = some (some (.ref f30))) (l30 : K.lookup f30 = some ⟨oc30, od30, .func (PySem.W.fnOf "inverse" "inverse" (defArgs s_inverse) (defBody s_inverse) (defScope s_inverse) .none kV30 dc30 pm30 an30 cd30 ct30), sl30⟩) (c30 : PySem.W.codeIn K cd30 "inverse" = true) (k30 : PySem.W.keepIn K (.ref f30) = true) : DefAt K mg "inverse" s_inverse ["n", "p"] := by
  have F := fun_mk (st := s_inverse) l30 c30 k30
  have b := F.binds (ps := ["n", "p"]) fun _ _ _ _ _ _ us hl => match us, hl with | [_, _], _ => rfl
  exact ⟨_, _, F, PySem.W.mg_of X G a30, b⟩
theorem at_times_pair {K : PySem.W.Frag} {h : Heap} {mg : Str → Option Value} (X : K.In h) (G : h.Ns mainGlobals mg) {f31 : Addr} {od31 an31 : Option Addr} {sl31 : Array (Option Value)} {oc31 kV31 dc31 pm31 cd31 ct31 : Value} (a31 : PySem.W.nsIn K mainGlobals "times_pair" = some (some (.ref f31))) (l31 : K.lookup f31 = some ⟨oc31, od31, .func (PySem.W.fnOf "times_pair" "times_pair" (defArgs s_times_pair) (defBody s_times_pair) (defScope s_times_pair) .none kV31 dc31 pm31 an31 cd31 ct31), sl31⟩) (c31 : PySem.W.codeIn K cd31 "times_pair" = true) (k31 : PySem.W.keepIn K (.ref f31) = true) : DefAt K mg "times_pair" s_times_pair ["first", "second", "w", "p"] := by
  have F := fun_mk (st := s_times_pair) l31 c31 k31
  have b := F.binds (ps := ["first", "second", "w", "p"]) fun _ _ _ _ _ _ us hl => match us, hl with | [_, _, _, _], _ => rfl
  exact ⟨_, _, F, PySem.W.mg_of X G a31, b⟩
theorem at_some_root {K : PySem.W.Frag} {h : Heap} {mg : Str → Option Value} (X : K.In h) (G : h.Ns mainGlobals mg) {f32 : Addr} {od32 an32 : Option Addr} {sl32 : Array (Option Value)} {oc32 kV32 dc32 pm32 cd32 ct32 : Value} (a32 : PySem.W.nsIn K mainGlobals "some_root" = some (some (.ref f32))) (l32 : K.lookup f32 = some ⟨oc32, od32, .func (PySem.W.fnOf "some_root" "some_root" (defArgs s_some_root) (defBody s_some_root) (defScope s_some_root) .none kV32 dc32 pm32 an32 cd32 ct32), sl32⟩) (c32 : PySem.W.codeIn K cd32 "some_root" = true) (k32 : PySem.W.keepIn K (.ref f32) = true) : DefAt K mg "some_root" s_some_root ["n", "p"] := by
  have F := fun_mk (st := s_some_root) l32 c32 k32
  have b := F.binds (ps := ["n", "p"]) fun _ _ _ _ _ _ us hl => match us, hl with | [_, _], _ => rfl
  exact ⟨_, _, F, PySem.W.mg_of X G a32, b⟩
theorem at_root {K : PySem.W.Frag} {h : Heap} {mg : Str → Option Value} (X : K.In h) (G : h.Ns mainGlobals mg) {f33 : Addr} {od33 an33 : Option Addr} {sl33 : Array (Option Value)} {oc33 kV33 dc33 pm33 cd33 ct33 : Value} (a33 : PySem.W.nsIn K mainGlobals "root" = some (some (.ref f33))) (l33 : K.lookup f33 = some ⟨oc33, od33, .func (PySem.W.fnOf "root" "root" (defArgs s_root) (defBody s_root) (defScope s_root) .none kV33 dc33 pm33 an33 cd33 ct33), sl33⟩) (c33 : PySem.W.codeIn K cd33 "root" = true) (k33 : PySem.W.keepIn K (.ref f33) = true) : DefAt K mg "root" s_root ["n", "p"] := by
  have F := fun_mk (st := s_root) l33 c33 k33
  have b := F.binds (ps := ["n", "p"]) fun _ _ _ _ _ _ us hl => match us, hl with | [_, _], _ => rfl
  exact ⟨_, _, F, PySem.W.mg_of X G a33, b⟩
theorem at_roots {K : PySem.W.Frag} {h : Heap} {mg : Str → Option Value} (X : K.In h) (G : h.Ns mainGlobals mg) {f34 : Addr} {od34 an34 : Option Addr} {sl34 : Array (Option Value)} {oc34 kV34 dc34 pm34 cd34 ct34 : Value} (a34 : PySem.W.nsIn K mainGlobals "roots" = some (some (.ref f34))) (l34 : K.lookup f34 = some ⟨oc34, od34, .func (PySem.W.fnOf "roots" "roots" (defArgs s_roots) (defBody s_roots) (defScope s_roots) .none kV34 dc34 pm34 an34 cd34 ct34), sl34⟩) (c34 : PySem.W.codeIn K cd34 "roots" = true) (k34 : PySem.W.keepIn K (.ref f34) = true) : DefAt K mg "roots" s_roots ["a", "b", "c", "p"] := by
  have F := fun_mk (st := s_roots) l34 c34 k34
  have b := F.binds (ps := ["a", "b", "c", "p"]) fun _ _ _ _ _ _ us hl => match us, hl with | [_, _, _, _], _ => rfl
  exact ⟨_, _, F, PySem.W.mg_of X G a34, b⟩
theorem at_how_many {K : PySem.W.Frag} {h : Heap} {mg : Str → Option Value} (X : K.In h) (G : h.Ns mainGlobals mg) {f35 : Addr} {od35 an35 : Option Addr} {sl35 : Array (Option Value)} {oc35 kV35 dc35 pm35 cd35 ct35 : Value} (a35 : PySem.W.nsIn K mainGlobals "how_many" = some (some (.ref f35))) (l35 : K.lookup f35 = some ⟨oc35, od35, .func (PySem.W.fnOf "how_many" "how_many" (defArgs s_how_many) (defBody s_how_many) (defScope s_how_many) .none kV35 dc35 pm35 an35 cd35 ct35), sl35⟩) (c35 : PySem.W.codeIn K cd35 "how_many" = true) (k35 : PySem.W.keepIn K (.ref f35) = true) : DefAt K mg "how_many" s_how_many ["a", "b", "c", "p"] := by
  have F := fun_mk (st := s_how_many) l35 c35 k35
  have b := F.binds (ps := ["a", "b", "c", "p"]) fun _ _ _ _ _ _ us hl => match us, hl with | [_, _, _, _], _ => rfl
  exact ⟨_, _, F, PySem.W.mg_of X G a35, b⟩
theorem at_conic_at {K : PySem.W.Frag} {h : Heap} {mg : Str → Option Value} (X : K.In h) (G : h.Ns mainGlobals mg) {f36 : Addr} {od36 an36 : Option Addr} {sl36 : Array (Option Value)} {oc36 kV36 dc36 pm36 cd36 ct36 : Value} (a36 : PySem.W.nsIn K mainGlobals "conic_at" = some (some (.ref f36))) (l36 : K.lookup f36 = some ⟨oc36, od36, .func (PySem.W.fnOf "conic_at" "conic_at" (defArgs s_conic_at) (defBody s_conic_at) (defScope s_conic_at) .none kV36 dc36 pm36 an36 cd36 ct36), sl36⟩) (c36 : PySem.W.codeIn K cd36 "conic_at" = true) (k36 : PySem.W.keepIn K (.ref f36) = true) : DefAt K mg "conic_at" s_conic_at ["a", "b", "c", "p"] := by
  have F := fun_mk (st := s_conic_at) l36 c36 k36
  have b := F.binds (ps := ["a", "b", "c", "p"]) fun _ _ _ _ _ _ us hl => match us, hl with | [_, _, _, _], _ => rfl
  exact ⟨_, _, F, PySem.W.mg_of X G a36, b⟩
theorem at_conic {K : PySem.W.Frag} {h : Heap} {mg : Str → Option Value} (X : K.In h) (G : h.Ns mainGlobals mg) {f37 : Addr} {od37 an37 : Option Addr} {sl37 : Array (Option Value)} {oc37 kV37 dc37 pm37 cd37 ct37 : Value} (a37 : PySem.W.nsIn K mainGlobals "conic" = some (some (.ref f37))) (l37 : K.lookup f37 = some ⟨oc37, od37, .func (PySem.W.fnOf "conic" "conic" (defArgs s_conic) (defBody s_conic) (defScope s_conic) .none kV37 dc37 pm37 an37 cd37 ct37), sl37⟩) (c37 : PySem.W.codeIn K cd37 "conic" = true) (k37 : PySem.W.keepIn K (.ref f37) = true) : DefAt K mg "conic" s_conic ["a", "b", "c"] := by
  have F := fun_mk (st := s_conic) l37 c37 k37
  have b := F.binds (ps := ["a", "b", "c"]) fun _ _ _ _ _ _ us hl => match us, hl with | [_, _, _], _ => rfl
  exact ⟨_, _, F, PySem.W.mg_of X G a37, b⟩
theorem at_three {K : PySem.W.Frag} {h : Heap} {mg : Str → Option Value} (X : K.In h) (G : h.Ns mainGlobals mg) {f38 : Addr} {od38 an38 : Option Addr} {sl38 : Array (Option Value)} {oc38 kV38 dc38 pm38 cd38 ct38 : Value} (a38 : PySem.W.nsIn K mainGlobals "three" = some (some (.ref f38))) (l38 : K.lookup f38 = some ⟨oc38, od38, .func (PySem.W.fnOf "three" "three" (defArgs s_three) (defBody s_three) (defScope s_three) .none kV38 dc38 pm38 an38 cd38 ct38), sl38⟩) (c38 : PySem.W.codeIn K cd38 "three" = true) (k38 : PySem.W.keepIn K (.ref f38) = true) : DefAt K mg "three" s_three ["c"] := by
  have F := fun_mk (st := s_three) l38 c38 k38
  have b := F.binds (ps := ["c"]) fun _ _ _ _ _ _ us hl => match us, hl with | [_], _ => rfl
  exact ⟨_, _, F, PySem.W.mg_of X G a38, b⟩
theorem at_solutions {K : PySem.W.Frag} {h : Heap} {mg : Str → Option Value} (X : K.In h) (G : h.Ns mainGlobals mg) {f39 : Addr} {od39 an39 : Option Addr} {sl39 : Array (Option Value)} {oc39 kV39 dc39 pm39 cd39 ct39 : Value} (a39 : PySem.W.nsIn K mainGlobals "solutions" = some (some (.ref f39))) (l39 : K.lookup f39 = some ⟨oc39, od39, .func (PySem.W.fnOf "solutions" "solutions" (defArgs s_solutions) (defBody s_solutions) (defScope s_solutions) .none kV39 dc39 pm39 an39 cd39 ct39), sl39⟩) (c39 : PySem.W.codeIn K cd39 "solutions" = true) (k39 : PySem.W.keepIn K (.ref f39) = true) : DefAt K mg "solutions" s_solutions ["a", "b", "c"] := by
  have F := fun_mk (st := s_solutions) l39 c39 k39
  have b := F.binds (ps := ["a", "b", "c"]) fun _ _ _ _ _ _ us hl => match us, hl with | [_, _, _], _ => rfl
  exact ⟨_, _, F, PySem.W.mg_of X G a39, b⟩
theorem at_neighbours {K : PySem.W.Frag} {h : Heap} {mg : Str → Option Value} (X : K.In h) (G : h.Ns mainGlobals mg) {f40 : Addr} {od40 an40 : Option Addr} {sl40 : Array (Option Value)} {oc40 kV40 dc40 pm40 cd40 ct40 : Value} (a40 : PySem.W.nsIn K mainGlobals "neighbours" = some (some (.ref f40))) (l40 : K.lookup f40 = some ⟨oc40, od40, .func (PySem.W.fnOf "neighbours" "neighbours" (defArgs s_neighbours) (defBody s_neighbours) (defScope s_neighbours) .none kV40 dc40 pm40 an40 cd40 ct40), sl40⟩) (c40 : PySem.W.codeIn K cd40 "neighbours" = true) (k40 : PySem.W.keepIn K (.ref f40) = true) : DefAt K mg "neighbours" s_neighbours ["s", "t"] := by
  have F := fun_mk (st := s_neighbours) l40 c40 k40
  have b := F.binds (ps := ["s", "t"]) fun _ _ _ _ _ _ us hl => match us, hl with | [_, _], _ => rfl
  exact ⟨_, _, F, PySem.W.mg_of X G a40, b⟩
theorem at_Primes_contains {K : PySem.W.Frag} {CO : Addr} {f41 : Addr} {od41 an41 : Option Addr} {sl41 : Array (Option Value)} {oc41 kV41 dc41 pm41 cd41 ct41 : Value} (a41 : PySem.W.findIn K (.ref CO) "__contains__" = some (some (.ref f41))) (i41 : PySem.W.isFn K (.ref f41) = true) (l41 : K.lookup f41 = some ⟨oc41, od41, .func (PySem.W.fnOf "__contains__" "Primes.__contains__" (defArgs s_Primes_contains) (defBody s_Primes_contains) (defScope s_Primes_contains) .none kV41 dc41 pm41 an41 cd41 ct41), sl41⟩) (c41 : PySem.W.codeIn K cd41 "Primes.__contains__" = true) (k41 : PySem.W.keepIn K (.ref f41) = true) : MethAt K CO "__contains__" "Primes.__contains__" s_Primes_contains ["self", "p"] := by
  have F := fun_mk (st := s_Primes_contains) l41 c41 k41
  have b := F.binds (ps := ["self", "p"]) fun _ _ _ _ _ _ us hl => match us, hl with | [_, _], _ => rfl
  exact ⟨_, _, F, ⟨a41, i41, k41⟩, b⟩
theorem at_indicator {K : PySem.W.Frag} {h : Heap} {mg : Str → Option Value} (X : K.In h) (G : h.Ns mainGlobals mg) {f42 : Addr} {od42 an42 : Option Addr} {sl42 : Array (Option Value)} {oc42 kV42 dc42 pm42 cd42 ct42 : Value} (a42 : PySem.W.nsIn K mainGlobals "indicator" = some (some (.ref f42))) (l42 : K.lookup f42 = some ⟨oc42, od42, .func (PySem.W.fnOf "indicator" "indicator" (defArgs s_indicator) (defBody s_indicator) (defScope s_indicator) .none kV42 dc42 pm42 an42 cd42 ct42), sl42⟩) (c42 : PySem.W.codeIn K cd42 "indicator" = true) (k42 : PySem.W.keepIn K (.ref f42) = true) : DefAt K mg "indicator" s_indicator ["found"] := by
  have F := fun_mk (st := s_indicator) l42 c42 k42
  have b := F.binds (ps := ["found"]) fun _ _ _ _ _ _ us hl => match us, hl with | [_], _ => rfl
  exact ⟨_, _, F, PySem.W.mg_of X G a42, b⟩
theorem at_law_count {K : PySem.W.Frag} {h : Heap} {mg : Str → Option Value} (X : K.In h) (G : h.Ns mainGlobals mg) {f43 : Addr} {od43 an43 : Option Addr} {sl43 : Array (Option Value)} {oc43 kV43 dc43 pm43 cd43 ct43 : Value} (a43 : PySem.W.nsIn K mainGlobals "_law_count" = some (some (.ref f43))) (l43 : K.lookup f43 = some ⟨oc43, od43, .func (PySem.W.fnOf "_law_count" "_law_count" (defArgs s_law_count) (defBody s_law_count) (defScope s_law_count) .none kV43 dc43 pm43 an43 cd43 ct43), sl43⟩) (c43 : PySem.W.codeIn K cd43 "_law_count" = true) (k43 : PySem.W.keepIn K (.ref f43) = true) : DefAt K mg "_law_count" s_law_count ["_law_drawn"] := by
  have F := fun_mk (st := s_law_count) l43 c43 k43
  have b := F.binds (ps := ["_law_drawn"]) fun _ _ _ _ _ _ us hl => match us, hl with | [_], _ => rfl
  exact ⟨_, _, F, PySem.W.mg_of X G a43, b⟩
theorem at_law_equal {K : PySem.W.Frag} {h : Heap} {mg : Str → Option Value} (X : K.In h) (G : h.Ns mainGlobals mg) {f44 : Addr} {od44 an44 : Option Addr} {sl44 : Array (Option Value)} {oc44 kV44 dc44 pm44 cd44 ct44 : Value} (a44 : PySem.W.nsIn K mainGlobals "_law_equal" = some (some (.ref f44))) (l44 : K.lookup f44 = some ⟨oc44, od44, .func (PySem.W.fnOf "_law_equal" "_law_equal" (defArgs s_law_equal) (defBody s_law_equal) (defScope s_law_equal) .none kV44 dc44 pm44 an44 cd44 ct44), sl44⟩) (c44 : PySem.W.codeIn K cd44 "_law_equal" = true) (k44 : PySem.W.keepIn K (.ref f44) = true) : DefAt K mg "_law_equal" s_law_equal ["_law_first", "_law_second"] := by
  have F := fun_mk (st := s_law_equal) l44 c44 k44
  have b := F.binds (ps := ["_law_first", "_law_second"]) fun _ _ _ _ _ _ us hl => match us, hl with | [_, _], _ => rfl
  exact ⟨_, _, F, PySem.W.mg_of X G a44, b⟩
theorem at_law_wide {K : PySem.W.Frag} {h : Heap} {mg : Str → Option Value} (X : K.In h) (G : h.Ns mainGlobals mg) {f45 : Addr} {od45 an45 : Option Addr} {sl45 : Array (Option Value)} {oc45 kV45 dc45 pm45 cd45 ct45 : Value} (a45 : PySem.W.nsIn K mainGlobals "_law_wide" = some (some (.ref f45))) (l45 : K.lookup f45 = some ⟨oc45, od45, .func (PySem.W.fnOf "_law_wide" "_law_wide" (defArgs s_law_wide) (defBody s_law_wide) (defScope s_law_wide) .none kV45 dc45 pm45 an45 cd45 ct45), sl45⟩) (c45 : PySem.W.codeIn K cd45 "_law_wide" = true) (k45 : PySem.W.keepIn K (.ref f45) = true) : DefAt K mg "_law_wide" s_law_wide ["_law_first", "_law_second"] := by
  have F := fun_mk (st := s_law_wide) l45 c45 k45
  have b := F.binds (ps := ["_law_first", "_law_second"]) fun _ _ _ _ _ _ us hl => match us, hl with | [_, _], _ => rfl
  exact ⟨_, _, F, PySem.W.mg_of X G a45, b⟩
theorem at_Count_add {K : PySem.W.Frag} {CO : Addr} {f46 : Addr} {od46 an46 : Option Addr} {sl46 : Array (Option Value)} {oc46 kV46 dc46 pm46 cd46 ct46 : Value} (a46 : PySem.W.findIn K (.ref CO) "__add__" = some (some (.ref f46))) (i46 : PySem.W.isFn K (.ref f46) = true) (l46 : K.lookup f46 = some ⟨oc46, od46, .func (PySem.W.fnOf "__add__" "Count.__add__" (defArgs s_Count_add) (defBody s_Count_add) (defScope s_Count_add) .none kV46 dc46 pm46 an46 cd46 ct46), sl46⟩) (c46 : PySem.W.codeIn K cd46 "Count.__add__" = true) (k46 : PySem.W.keepIn K (.ref f46) = true) : MethAt K CO "__add__" "Count.__add__" s_Count_add ["self", "other"] := by
  have F := fun_mk (st := s_Count_add) l46 c46 k46
  have b := F.binds (ps := ["self", "other"]) fun _ _ _ _ _ _ us hl => match us, hl with | [_, _], _ => rfl
  exact ⟨_, _, F, ⟨a46, i46, k46⟩, b⟩
theorem at_Count_sub {K : PySem.W.Frag} {CO : Addr} {f47 : Addr} {od47 an47 : Option Addr} {sl47 : Array (Option Value)} {oc47 kV47 dc47 pm47 cd47 ct47 : Value} (a47 : PySem.W.findIn K (.ref CO) "__sub__" = some (some (.ref f47))) (i47 : PySem.W.isFn K (.ref f47) = true) (l47 : K.lookup f47 = some ⟨oc47, od47, .func (PySem.W.fnOf "__sub__" "Count.__sub__" (defArgs s_Count_sub) (defBody s_Count_sub) (defScope s_Count_sub) .none kV47 dc47 pm47 an47 cd47 ct47), sl47⟩) (c47 : PySem.W.codeIn K cd47 "Count.__sub__" = true) (k47 : PySem.W.keepIn K (.ref f47) = true) : MethAt K CO "__sub__" "Count.__sub__" s_Count_sub ["self", "other"] := by
  have F := fun_mk (st := s_Count_sub) l47 c47 k47
  have b := F.binds (ps := ["self", "other"]) fun _ _ _ _ _ _ us hl => match us, hl with | [_, _], _ => rfl
  exact ⟨_, _, F, ⟨a47, i47, k47⟩, b⟩
theorem at_Primes_every {K : PySem.W.Frag} {CO : Addr} {f48 p48 : Addr} {rs48 : List Value} {od48 an48 : Option Addr} {sl48 : Array (Option Value)} {oc48 kV48 dc48 pm48 cd48 ct48 : Value} (cr48 : PySem.W.readsIn K CO (.type "type") = true) (cg48 : PySem.W.specialIn K (.ref CO) "__getattribute__" = some (some (.builtin "type.__getattribute__"))) (cm48 : PySem.W.findCls K (.ref CO) (.type "type") "every" = some (.get (.builtin "classmethod.__get__") (.ref p48) .none (.ref CO))) (cc48 : PySem.W.recIn K p48 "classmethod" = some (.ref f48 :: rs48)) (cf48 : PySem.W.fnIn K f48 = true) (l48 : K.lookup f48 = some ⟨oc48, od48, .func (PySem.W.fnOf "every" "Primes.every" (defArgs s_Primes_every) (defBody s_Primes_every) (defScope s_Primes_every) .none kV48 dc48 pm48 an48 cd48 ct48), sl48⟩) (c48 : PySem.W.codeIn K cd48 "Primes.every" = true) (k48 : PySem.W.keepIn K (.ref f48) = true) : CMAt K CO "every" "Primes.every" s_Primes_every := by
  have F := fun_mk (st := s_Primes_every) l48 c48 k48
  exact ⟨_, _, _, _, ⟨cr48, cg48⟩, ⟨cm48, ⟨_, cc48⟩, cf48⟩, F⟩
theorem at_Primes_eq {K : PySem.W.Frag} {CO : Addr} {f49 : Addr} {od49 an49 : Option Addr} {sl49 : Array (Option Value)} {oc49 kV49 dc49 pm49 cd49 ct49 : Value} (a49 : PySem.W.findIn K (.ref CO) "__eq__" = some (some (.ref f49))) (i49 : PySem.W.isFn K (.ref f49) = true) (l49 : K.lookup f49 = some ⟨oc49, od49, .func (PySem.W.fnOf "__eq__" "Primes.__eq__" (defArgs s_Primes_eq) (defBody s_Primes_eq) (defScope s_Primes_eq) .none kV49 dc49 pm49 an49 cd49 ct49), sl49⟩) (c49 : PySem.W.codeIn K cd49 "Primes.__eq__" = true) (k49 : PySem.W.keepIn K (.ref f49) = true) : MethAt K CO "__eq__" "Primes.__eq__" s_Primes_eq ["self", "other"] := by
  have F := fun_mk (st := s_Primes_eq) l49 c49 k49
  have b := F.binds (ps := ["self", "other"]) fun _ _ _ _ _ _ us hl => match us, hl with | [_, _], _ => rfl
  exact ⟨_, _, F, ⟨a49, i49, k49⟩, b⟩
theorem at_Count_eq {K : PySem.W.Frag} {CO : Addr} {f50 : Addr} {od50 an50 : Option Addr} {sl50 : Array (Option Value)} {oc50 kV50 dc50 pm50 cd50 ct50 : Value} (a50 : PySem.W.findIn K (.ref CO) "__eq__" = some (some (.ref f50))) (i50 : PySem.W.isFn K (.ref f50) = true) (l50 : K.lookup f50 = some ⟨oc50, od50, .func (PySem.W.fnOf "__eq__" "Count.__eq__" (defArgs s_Count_eq) (defBody s_Count_eq) (defScope s_Count_eq) .none kV50 dc50 pm50 an50 cd50 ct50), sl50⟩) (c50 : PySem.W.codeIn K cd50 "Count.__eq__" = true) (k50 : PySem.W.keepIn K (.ref f50) = true) : MethAt K CO "__eq__" "Count.__eq__" s_Count_eq ["self", "other"] := by
  have F := fun_mk (st := s_Count_eq) l50 c50 k50
  have b := F.binds (ps := ["self", "other"]) fun _ _ _ _ _ _ us hl => match us, hl with | [_, _], _ => rfl
  exact ⟨_, _, F, ⟨a50, i50, k50⟩, b⟩
theorem at_law_minus {K : PySem.W.Frag} {h : Heap} {mg : Str → Option Value} (X : K.In h) (G : h.Ns mainGlobals mg) {f51 : Addr} {od51 an51 : Option Addr} {sl51 : Array (Option Value)} {oc51 kV51 dc51 pm51 cd51 ct51 : Value} (a51 : PySem.W.nsIn K mainGlobals "_law_minus" = some (some (.ref f51))) (l51 : K.lookup f51 = some ⟨oc51, od51, .func (PySem.W.fnOf "_law_minus" "_law_minus" (defArgs s_law_minus) (defBody s_law_minus) (defScope s_law_minus) .none kV51 dc51 pm51 an51 cd51 ct51), sl51⟩) (c51 : PySem.W.codeIn K cd51 "_law_minus" = true) (k51 : PySem.W.keepIn K (.ref f51) = true) : DefAt K mg "_law_minus" s_law_minus ["_law_first", "_law_second"] := by
  have F := fun_mk (st := s_law_minus) l51 c51 k51
  have b := F.binds (ps := ["_law_first", "_law_second"]) fun _ _ _ _ _ _ us hl => match us, hl with | [_, _], _ => rfl
  exact ⟨_, _, F, PySem.W.mg_of X G a51, b⟩
theorem at_law_same {K : PySem.W.Frag} {h : Heap} {mg : Str → Option Value} (X : K.In h) (G : h.Ns mainGlobals mg) {f52 : Addr} {od52 an52 : Option Addr} {sl52 : Array (Option Value)} {oc52 kV52 dc52 pm52 cd52 ct52 : Value} (a52 : PySem.W.nsIn K mainGlobals "_law_same" = some (some (.ref f52))) (l52 : K.lookup f52 = some ⟨oc52, od52, .func (PySem.W.fnOf "_law_same" "_law_same" (defArgs s_law_same) (defBody s_law_same) (defScope s_law_same) .none kV52 dc52 pm52 an52 cd52 ct52), sl52⟩) (c52 : PySem.W.codeIn K cd52 "_law_same" = true) (k52 : PySem.W.keepIn K (.ref f52) = true) : DefAt K mg "_law_same" s_law_same ["_law_first", "_law_second"] := by
  have F := fun_mk (st := s_law_same) l52 c52 k52
  have b := F.binds (ps := ["_law_first", "_law_second"]) fun _ _ _ _ _ _ us hl => match us, hl with | [_, _], _ => rfl
  exact ⟨_, _, F, PySem.W.mg_of X G a52, b⟩
theorem at_Primes_only {K : PySem.W.Frag} {CO : Addr} {f53 p53 : Addr} {rs53 : List Value} {od53 an53 : Option Addr} {sl53 : Array (Option Value)} {oc53 kV53 dc53 pm53 cd53 ct53 : Value} (cr53 : PySem.W.readsIn K CO (.type "type") = true) (cg53 : PySem.W.specialIn K (.ref CO) "__getattribute__" = some (some (.builtin "type.__getattribute__"))) (cm53 : PySem.W.findCls K (.ref CO) (.type "type") "only" = some (.get (.builtin "classmethod.__get__") (.ref p53) .none (.ref CO))) (cc53 : PySem.W.recIn K p53 "classmethod" = some (.ref f53 :: rs53)) (cf53 : PySem.W.fnIn K f53 = true) (l53 : K.lookup f53 = some ⟨oc53, od53, .func (PySem.W.fnOf "only" "Primes.only" (defArgs s_Primes_only) (defBody s_Primes_only) (defScope s_Primes_only) .none kV53 dc53 pm53 an53 cd53 ct53), sl53⟩) (c53 : PySem.W.codeIn K cd53 "Primes.only" = true) (k53 : PySem.W.keepIn K (.ref f53) = true) : CMAt K CO "only" "Primes.only" s_Primes_only := by
  have F := fun_mk (st := s_Primes_only) l53 c53 k53
  exact ⟨_, _, _, _, ⟨cr53, cg53⟩, ⟨cm53, ⟨_, cc53⟩, cf53⟩, F⟩
theorem at_law_great_prime {K : PySem.W.Frag} {h : Heap} {mg : Str → Option Value} (X : K.In h) (G : h.Ns mainGlobals mg) {f54 : Addr} {od54 an54 : Option Addr} {sl54 : Array (Option Value)} {oc54 kV54 dc54 pm54 cd54 ct54 : Value} (a54 : PySem.W.nsIn K mainGlobals "_law_great_prime" = some (some (.ref f54))) (l54 : K.lookup f54 = some ⟨oc54, od54, .func (PySem.W.fnOf "_law_great_prime" "_law_great_prime" (defArgs s_law_great_prime) (defBody s_law_great_prime) (defScope s_law_great_prime) .none kV54 dc54 pm54 an54 cd54 ct54), sl54⟩) (c54 : PySem.W.codeIn K cd54 "_law_great_prime" = true) (k54 : PySem.W.keepIn K (.ref f54) = true) : DefAt K mg "_law_great_prime" s_law_great_prime ["_law_q"] := by
  have F := fun_mk (st := s_law_great_prime) l54 c54 k54
  have b := F.binds (ps := ["_law_q"]) fun _ _ _ _ _ _ us hl => match us, hl with | [_], _ => rfl
  exact ⟨_, _, F, PySem.W.mg_of X G a54, b⟩
theorem at_odd_divisors {K : PySem.W.Frag} {h : Heap} {mg : Str → Option Value} (X : K.In h) (G : h.Ns mainGlobals mg) {f55 : Addr} {od55 an55 : Option Addr} {sl55 : Array (Option Value)} {oc55 kV55 dc55 pm55 cd55 ct55 : Value} (a55 : PySem.W.nsIn K mainGlobals "odd_divisors" = some (some (.ref f55))) (l55 : K.lookup f55 = some ⟨oc55, od55, .func (PySem.W.fnOf "odd_divisors" "odd_divisors" (defArgs s_odd_divisors) (defBody s_odd_divisors) (defScope s_odd_divisors) .none kV55 dc55 pm55 an55 cd55 ct55), sl55⟩) (c55 : PySem.W.codeIn K cd55 "odd_divisors" = true) (k55 : PySem.W.keepIn K (.ref f55) = true) : DefAt K mg "odd_divisors" s_odd_divisors ["modulus"] := by
  have F := fun_mk (st := s_odd_divisors) l55 c55 k55
  have b := F.binds (ps := ["modulus"]) fun _ _ _ _ _ _ us hl => match us, hl with | [_], _ => rfl
  exact ⟨_, _, F, PySem.W.mg_of X G a55, b⟩
theorem at_Primes_by_rest {K : PySem.W.Frag} {CO : Addr} {f56 p56 : Addr} {rs56 : List Value} {od56 an56 : Option Addr} {sl56 : Array (Option Value)} {oc56 kV56 dc56 pm56 cd56 ct56 : Value} (cr56 : PySem.W.readsIn K CO (.type "type") = true) (cg56 : PySem.W.specialIn K (.ref CO) "__getattribute__" = some (some (.builtin "type.__getattribute__"))) (cm56 : PySem.W.findCls K (.ref CO) (.type "type") "by_rest" = some (.get (.builtin "classmethod.__get__") (.ref p56) .none (.ref CO))) (cc56 : PySem.W.recIn K p56 "classmethod" = some (.ref f56 :: rs56)) (cf56 : PySem.W.fnIn K f56 = true) (l56 : K.lookup f56 = some ⟨oc56, od56, .func (PySem.W.fnOf "by_rest" "Primes.by_rest" (defArgs s_Primes_by_rest) (defBody s_Primes_by_rest) (defScope s_Primes_by_rest) .none kV56 dc56 pm56 an56 cd56 ct56), sl56⟩) (c56 : PySem.W.codeIn K cd56 "Primes.by_rest" = true) (k56 : PySem.W.keepIn K (.ref f56) = true) : CMAt K CO "by_rest" "Primes.by_rest" s_Primes_by_rest := by
  have F := fun_mk (st := s_Primes_by_rest) l56 c56 k56
  exact ⟨_, _, _, _, ⟨cr56, cg56⟩, ⟨cm56, ⟨_, cc56⟩, cf56⟩, F⟩
theorem at_joined_answer {K : PySem.W.Frag} {h : Heap} {mg : Str → Option Value} (X : K.In h) (G : h.Ns mainGlobals mg) {f57 : Addr} {od57 an57 : Option Addr} {sl57 : Array (Option Value)} {oc57 kV57 dc57 pm57 cd57 ct57 : Value} (a57 : PySem.W.nsIn K mainGlobals "joined_answer" = some (some (.ref f57))) (l57 : K.lookup f57 = some ⟨oc57, od57, .func (PySem.W.fnOf "joined_answer" "joined_answer" (defArgs s_joined_answer) (defBody s_joined_answer) (defScope s_joined_answer) .none kV57 dc57 pm57 an57 cd57 ct57), sl57⟩) (c57 : PySem.W.codeIn K cd57 "joined_answer" = true) (k57 : PySem.W.keepIn K (.ref f57) = true) : DefAt K mg "joined_answer" s_joined_answer ["rule", "first", "second"] := by
  have F := fun_mk (st := s_joined_answer) l57 c57 k57
  have b := F.binds (ps := ["rule", "first", "second"]) fun _ _ _ _ _ _ us hl => match us, hl with | [_, _, _], _ => rfl
  exact ⟨_, _, F, PySem.W.mg_of X G a57, b⟩
theorem at_combined_values {K : PySem.W.Frag} {h : Heap} {mg : Str → Option Value} (X : K.In h) (G : h.Ns mainGlobals mg) {f58 : Addr} {od58 an58 : Option Addr} {sl58 : Array (Option Value)} {oc58 kV58 dc58 pm58 cd58 ct58 : Value} (a58 : PySem.W.nsIn K mainGlobals "combined_values" = some (some (.ref f58))) (l58 : K.lookup f58 = some ⟨oc58, od58, .func (PySem.W.fnOf "combined" "combined" (defArgs s_combined_values) (defBody s_combined_values) (defScope s_combined_values) .none kV58 dc58 pm58 an58 cd58 ct58), sl58⟩) (c58 : PySem.W.codeIn K cd58 "combined" = true) (k58 : PySem.W.keepIn K (.ref f58) = true) : DefAtA K mg "combined_values" "combined" s_combined_values ["first", "second", "rule"] := by
  have F := fun_mk (st := s_combined_values) l58 c58 k58
  have b := F.binds (ps := ["first", "second", "rule"]) fun _ _ _ _ _ _ us hl => match us, hl with | [_, _, _], _ => rfl
  exact ⟨_, _, F, PySem.W.mg_of X G a58, b⟩
theorem at_Primes_and {K : PySem.W.Frag} {CO : Addr} {f59 : Addr} {od59 an59 : Option Addr} {sl59 : Array (Option Value)} {oc59 kV59 dc59 pm59 cd59 ct59 : Value} (a59 : PySem.W.findIn K (.ref CO) "__and__" = some (some (.ref f59))) (i59 : PySem.W.isFn K (.ref f59) = true) (l59 : K.lookup f59 = some ⟨oc59, od59, .func (PySem.W.fnOf "__and__" "Primes.__and__" (defArgs s_Primes_and) (defBody s_Primes_and) (defScope s_Primes_and) .none kV59 dc59 pm59 an59 cd59 ct59), sl59⟩) (c59 : PySem.W.codeIn K cd59 "Primes.__and__" = true) (k59 : PySem.W.keepIn K (.ref f59) = true) : MethAt K CO "__and__" "Primes.__and__" s_Primes_and ["self", "other"] := by
  have F := fun_mk (st := s_Primes_and) l59 c59 k59
  have b := F.binds (ps := ["self", "other"]) fun _ _ _ _ _ _ us hl => match us, hl with | [_, _], _ => rfl
  exact ⟨_, _, F, ⟨a59, i59, k59⟩, b⟩
theorem at_Primes_invert {K : PySem.W.Frag} {CO : Addr} {f60 : Addr} {od60 an60 : Option Addr} {sl60 : Array (Option Value)} {oc60 kV60 dc60 pm60 cd60 ct60 : Value} (a60 : PySem.W.findIn K (.ref CO) "__invert__" = some (some (.ref f60))) (i60 : PySem.W.isFn K (.ref f60) = true) (l60 : K.lookup f60 = some ⟨oc60, od60, .func (PySem.W.fnOf "__invert__" "Primes.__invert__" (defArgs s_Primes_invert) (defBody s_Primes_invert) (defScope s_Primes_invert) .none kV60 dc60 pm60 an60 cd60 ct60), sl60⟩) (c60 : PySem.W.codeIn K cd60 "Primes.__invert__" = true) (k60 : PySem.W.keepIn K (.ref f60) = true) : MethAt K CO "__invert__" "Primes.__invert__" s_Primes_invert ["self"] := by
  have F := fun_mk (st := s_Primes_invert) l60 c60 k60
  have b := F.binds (ps := ["self"]) fun _ _ _ _ _ _ us hl => match us, hl with | [_], _ => rfl
  exact ⟨_, _, F, ⟨a60, i60, k60⟩, b⟩
theorem at_law_is_prime {K : PySem.W.Frag} {h : Heap} {mg : Str → Option Value} (X : K.In h) (G : h.Ns mainGlobals mg) {f61 : Addr} {od61 an61 : Option Addr} {sl61 : Array (Option Value)} {oc61 kV61 dc61 pm61 cd61 ct61 : Value} (a61 : PySem.W.nsIn K mainGlobals "_law_is_prime" = some (some (.ref f61))) (l61 : K.lookup f61 = some ⟨oc61, od61, .func (PySem.W.fnOf "_law_is_prime" "_law_is_prime" (defArgs s_law_is_prime) (defBody s_law_is_prime) (defScope s_law_is_prime) .none kV61 dc61 pm61 an61 cd61 ct61), sl61⟩) (c61 : PySem.W.codeIn K cd61 "_law_is_prime" = true) (k61 : PySem.W.keepIn K (.ref f61) = true) : DefAt K mg "_law_is_prime" s_law_is_prime ["_law_n"] := by
  have F := fun_mk (st := s_law_is_prime) l61 c61 k61
  have b := F.binds (ps := ["_law_n"]) fun _ _ _ _ _ _ us hl => match us, hl with | [_], _ => rfl
  exact ⟨_, _, F, PySem.W.mg_of X G a61, b⟩
theorem at_law_prime_from {K : PySem.W.Frag} {h : Heap} {mg : Str → Option Value} (X : K.In h) (G : h.Ns mainGlobals mg) {f62 : Addr} {od62 an62 : Option Addr} {sl62 : Array (Option Value)} {oc62 kV62 dc62 pm62 cd62 ct62 : Value} (a62 : PySem.W.nsIn K mainGlobals "_law_prime_from" = some (some (.ref f62))) (l62 : K.lookup f62 = some ⟨oc62, od62, .func (PySem.W.fnOf "_law_prime_from" "_law_prime_from" (defArgs s_law_prime_from) (defBody s_law_prime_from) (defScope s_law_prime_from) .none kV62 dc62 pm62 an62 cd62 ct62), sl62⟩) (c62 : PySem.W.codeIn K cd62 "_law_prime_from" = true) (k62 : PySem.W.keepIn K (.ref f62) = true) : DefAt K mg "_law_prime_from" s_law_prime_from ["_law_n"] := by
  have F := fun_mk (st := s_law_prime_from) l62 c62 k62
  have b := F.binds (ps := ["_law_n"]) fun _ _ _ _ _ _ us hl => match us, hl with | [_], _ => rfl
  exact ⟨_, _, F, PySem.W.mg_of X G a62, b⟩
theorem at_law_far_primes {K : PySem.W.Frag} {h : Heap} {mg : Str → Option Value} (X : K.In h) (G : h.Ns mainGlobals mg) {f63 : Addr} {od63 an63 : Option Addr} {sl63 : Array (Option Value)} {oc63 kV63 dc63 pm63 cd63 ct63 : Value} (a63 : PySem.W.nsIn K mainGlobals "_law_far_primes" = some (some (.ref f63))) (l63 : K.lookup f63 = some ⟨oc63, od63, .func (PySem.W.fnOf "_law_far_primes" "_law_far_primes" (defArgs s_law_far_primes) (defBody s_law_far_primes) (defScope s_law_far_primes) .none kV63 dc63 pm63 an63 cd63 ct63), sl63⟩) (c63 : PySem.W.codeIn K cd63 "_law_far_primes" = true) (k63 : PySem.W.keepIn K (.ref f63) = true) : DefAt K mg "_law_far_primes" s_law_far_primes ["_law_drawn"] := by
  have F := fun_mk (st := s_law_far_primes) l63 c63 k63
  have b := F.binds (ps := ["_law_drawn"]) fun _ _ _ _ _ _ us hl => match us, hl with | [_], _ => rfl
  exact ⟨_, _, F, PySem.W.mg_of X G a63, b⟩
theorem at_Count_call {K : PySem.W.Frag} {CO : Addr} {f64 : Addr} {od64 an64 : Option Addr} {sl64 : Array (Option Value)} {oc64 kV64 dc64 pm64 cd64 ct64 : Value} (a64 : PySem.W.findIn K (.ref CO) "__call__" = some (some (.ref f64))) (i64 : PySem.W.isFn K (.ref f64) = true) (l64 : K.lookup f64 = some ⟨oc64, od64, .func (PySem.W.fnOf "__call__" "Count.__call__" (defArgs s_Count_call) (defBody s_Count_call) (defScope s_Count_call) .none kV64 dc64 pm64 an64 cd64 ct64), sl64⟩) (c64 : PySem.W.codeIn K cd64 "Count.__call__" = true) (k64 : PySem.W.keepIn K (.ref f64) = true) : MethAt K CO "__call__" "Count.__call__" s_Count_call ["self", "p"] := by
  have F := fun_mk (st := s_Count_call) l64 c64 k64
  have b := F.binds (ps := ["self", "p"]) fun _ _ _ _ _ _ us hl => match us, hl with | [_, _], _ => rfl
  exact ⟨_, _, F, ⟨a64, i64, k64⟩, b⟩
theorem fi_Count {K : PySem.W.Frag} {CO f : Addr} (a : PySem.W.findIn K (.ref CO) "__call__" = some (some (.ref f))) (v : PySem.W.fnIn K f = true) : ∀ g, PySem.W.findIn K (.ref CO) "__call__" = some (some (.ref g)) → PySem.W.fnIn K g = true := fun g h => by have z := h.symm.trans a; cases z; exact v
theorem at_law_is_integer {K : PySem.W.Frag} {h : Heap} {mg : Str → Option Value} (X : K.In h) (G : h.Ns mainGlobals mg) {f65 : Addr} {od65 an65 : Option Addr} {sl65 : Array (Option Value)} {oc65 kV65 dc65 pm65 cd65 ct65 : Value} (a65 : PySem.W.nsIn K mainGlobals "_law_is_integer" = some (some (.ref f65))) (l65 : K.lookup f65 = some ⟨oc65, od65, .func (PySem.W.fnOf "_law_is_integer" "_law_is_integer" (defArgs s_law_is_integer) (defBody s_law_is_integer) (defScope s_law_is_integer) .none kV65 dc65 pm65 an65 cd65 ct65), sl65⟩) (c65 : PySem.W.codeIn K cd65 "_law_is_integer" = true) (k65 : PySem.W.keepIn K (.ref f65) = true) : DefAt K mg "_law_is_integer" s_law_is_integer ["_law_actual"] := by
  have F := fun_mk (st := s_law_is_integer) l65 c65 k65
  have b := F.binds (ps := ["_law_actual"]) fun _ _ _ _ _ _ us hl => match us, hl with | [_], _ => rfl
  exact ⟨_, _, F, PySem.W.mg_of X G a65, b⟩
theorem at_law_draws {K : PySem.W.Frag} {h : Heap} {mg : Str → Option Value} (X : K.In h) (G : h.Ns mainGlobals mg) {f66 : Addr} {od66 an66 : Option Addr} {sl66 : Array (Option Value)} {oc66 kV66 dc66 pm66 cd66 ct66 : Value} (a66 : PySem.W.nsIn K mainGlobals "_law_draws" = some (some (.ref f66))) (l66 : K.lookup f66 = some ⟨oc66, od66, .func (PySem.W.fnOf "_law_draws" "_law_draws" (defArgs s_law_draws) (defBody s_law_draws) (defScope s_law_draws) .none kV66 dc66 pm66 an66 cd66 ct66), sl66⟩) (c66 : PySem.W.codeIn K cd66 "_law_draws" = true) (k66 : PySem.W.keepIn K (.ref f66) = true) : DefAt K mg "_law_draws" s_law_draws ["_law_cell_here", "_law_sizes"] := by
  have F := fun_mk (st := s_law_draws) l66 c66 k66
  have b := F.binds (ps := ["_law_cell_here", "_law_sizes"]) fun _ _ _ _ _ _ us hl => match us, hl with | [_, _], _ => rfl
  exact ⟨_, _, F, PySem.W.mg_of X G a66, b⟩
theorem at_law_cell {K : PySem.W.Frag} {h : Heap} {mg : Str → Option Value} (X : K.In h) (G : h.Ns mainGlobals mg) {f67 : Addr} {od67 an67 : Option Addr} {sl67 : Array (Option Value)} {oc67 kV67 dc67 pm67 cd67 ct67 : Value} (a67 : PySem.W.nsIn K mainGlobals "_law_cell" = some (some (.ref f67))) (l67 : K.lookup f67 = some ⟨oc67, od67, .func (PySem.W.fnOf "_law_cell" "_law_cell" (defArgs s_law_cell) (defBody s_law_cell) (defScope s_law_cell) .none kV67 dc67 pm67 an67 cd67 ct67), sl67⟩) (c67 : PySem.W.codeIn K cd67 "_law_cell" = true) (k67 : PySem.W.keepIn K (.ref f67) = true) : DefAt K mg "_law_cell" s_law_cell ["_law_script", "_law_k"] := by
  have F := fun_mk (st := s_law_cell) l67 c67 k67
  have b := F.binds (ps := ["_law_script", "_law_k"]) fun _ _ _ _ _ _ us hl => match us, hl with | [_, _], _ => rfl
  exact ⟨_, _, F, PySem.W.mg_of X G a67, b⟩
theorem er_BadModulus {K : PySem.W.Frag} {h : Heap} {mg : Str → Option Value} (X : K.In h) (G : h.Ns mainGlobals mg) {C0 g0 N0 : Addr} {nm0 qq0 : Str} {bs0 bm0 : List Value} {sn0 : List Str} {sub0 : List Value} {ab0 : Bool} {col0 : Option Bool} {dd0 : Option Addr} {m00 m10 m20 m30 m50 : Option Value} {odE0 anE0 : Option Addr} {slE0 : Array (Option Value)} {ocE0 kVE0 dcE0 pmE0 cdE0 ctE0 : Value} (eg0 : PySem.W.nsIn K mainGlobals "BadModulus" = some (some (.ref C0))) (ex0 : K.lookup C0 = some (excClassObj nm0 qq0 C0 N0 bs0 bm0 true sn0 sub0 ab0 col0 dd0 m00 m10 m20 m30 m50 "ValueError.__new__")) (eb0 : PySem.HandSPX.refsVE bm0 = true) (es0 : PySem.W.findIn K (.ref C0) "__setattr__" = some (some (.builtin "object.__setattr__"))) (ee0 : PySem.W.subIn K (.ref C0) (.type "BaseException") = some true) (et0 : PySem.W.typeIn K (.ref C0) = some (.type "type")) (ek0 : PySem.W.keepIn K (.ref C0) = true) (ega0 : PySem.W.findIn K (.ref C0) "__getattribute__" = some (some (.builtin "BaseException.__getattribute__"))) (egg0 : PySem.W.findIn K (.ref C0) "__getattr__" = some none) (eh0 : PySem.W.hasDictIn K C0 = true) (ei0 : PySem.W.isClsIn K C0 = true) (eu0 : PySem.W.subIn K (.ref C0) (.ref C0) = some true) (ef0 : PySem.W.findIn K (.ref C0) "__init__" = some (some (.ref g0))) (ey0 : PySem.W.typeIn K (.ref g0) = some (.type "function")) (el0 : K.lookup g0 = some ⟨ocE0, odE0, .func (PySem.W.fnOf "__init__" "BadModulus.__init__" (defArgs s_BadModulus_init) (defBody s_BadModulus_init) (defScope s_BadModulus_init) .none kVE0 dcE0 pmE0 anE0 cdE0 ctE0), slE0⟩) (ec0 : PySem.W.codeIn K cdE0 "BadModulus.__init__" = true) (ej0 : PySem.W.keepIn K (.ref g0) = true) : ErrRaw K mg "BadModulus" C0 s_BadModulus_init "BadModulus.__init__" ["self", "modulus"] := by
  have F := fun_mk (st := s_BadModulus_init) el0 ec0 ej0
  have b := F.binds (ps := ["self", "modulus"]) fun _ _ _ _ _ _ us hl => match us, hl with | [_, _], _ => rfl
  exact ⟨PySem.W.mg_of X G eg0, ⟨⟨_, _, _, _, _, _, _, _, _, _, _, _, _, _, _, ex0, eb0⟩, es0, ee0, et0, ek0⟩, ⟨ega0, egg0, ee0, eh0⟩, exm_self ee0 ei0 et0 eu0, ⟨_, _, ef0, ey0, F, b⟩⟩
theorem er_BadPrime {K : PySem.W.Frag} {h : Heap} {mg : Str → Option Value} (X : K.In h) (G : h.Ns mainGlobals mg) {C1 g1 N1 : Addr} {nm1 qq1 : Str} {bs1 bm1 : List Value} {sn1 : List Str} {sub1 : List Value} {ab1 : Bool} {col1 : Option Bool} {dd1 : Option Addr} {m01 m11 m21 m31 m51 : Option Value} {odE1 anE1 : Option Addr} {slE1 : Array (Option Value)} {ocE1 kVE1 dcE1 pmE1 cdE1 ctE1 : Value} (eg1 : PySem.W.nsIn K mainGlobals "BadPrime" = some (some (.ref C1))) (ex1 : K.lookup C1 = some (excClassObj nm1 qq1 C1 N1 bs1 bm1 true sn1 sub1 ab1 col1 dd1 m01 m11 m21 m31 m51 "ValueError.__new__")) (eb1 : PySem.HandSPX.refsVE bm1 = true) (es1 : PySem.W.findIn K (.ref C1) "__setattr__" = some (some (.builtin "object.__setattr__"))) (ee1 : PySem.W.subIn K (.ref C1) (.type "BaseException") = some true) (et1 : PySem.W.typeIn K (.ref C1) = some (.type "type")) (ek1 : PySem.W.keepIn K (.ref C1) = true) (ega1 : PySem.W.findIn K (.ref C1) "__getattribute__" = some (some (.builtin "BaseException.__getattribute__"))) (egg1 : PySem.W.findIn K (.ref C1) "__getattr__" = some none) (eh1 : PySem.W.hasDictIn K C1 = true) (ei1 : PySem.W.isClsIn K C1 = true) (eu1 : PySem.W.subIn K (.ref C1) (.ref C1) = some true) (ef1 : PySem.W.findIn K (.ref C1) "__init__" = some (some (.ref g1))) (ey1 : PySem.W.typeIn K (.ref g1) = some (.type "function")) (el1 : K.lookup g1 = some ⟨ocE1, odE1, .func (PySem.W.fnOf "__init__" "BadPrime.__init__" (defArgs s_BadPrime_init) (defBody s_BadPrime_init) (defScope s_BadPrime_init) .none kVE1 dcE1 pmE1 anE1 cdE1 ctE1), slE1⟩) (ec1 : PySem.W.codeIn K cdE1 "BadPrime.__init__" = true) (ej1 : PySem.W.keepIn K (.ref g1) = true) : ErrRaw K mg "BadPrime" C1 s_BadPrime_init "BadPrime.__init__" ["self", "p"] := by
  have F := fun_mk (st := s_BadPrime_init) el1 ec1 ej1
  have b := F.binds (ps := ["self", "p"]) fun _ _ _ _ _ _ us hl => match us, hl with | [_, _], _ => rfl
  exact ⟨PySem.W.mg_of X G eg1, ⟨⟨_, _, _, _, _, _, _, _, _, _, _, _, _, _, _, ex1, eb1⟩, es1, ee1, et1, ek1⟩, ⟨ega1, egg1, ee1, eh1⟩, exm_self ee1 ei1 et1 eu1, ⟨_, _, ef1, ey1, F, b⟩⟩
theorem er_BadRest {K : PySem.W.Frag} {h : Heap} {mg : Str → Option Value} (X : K.In h) (G : h.Ns mainGlobals mg) {C2 g2 N2 : Addr} {nm2 qq2 : Str} {bs2 bm2 : List Value} {sn2 : List Str} {sub2 : List Value} {ab2 : Bool} {col2 : Option Bool} {dd2 : Option Addr} {m02 m12 m22 m32 m52 : Option Value} {odE2 anE2 : Option Addr} {slE2 : Array (Option Value)} {ocE2 kVE2 dcE2 pmE2 cdE2 ctE2 : Value} (eg2 : PySem.W.nsIn K mainGlobals "BadRest" = some (some (.ref C2))) (ex2 : K.lookup C2 = some (excClassObj nm2 qq2 C2 N2 bs2 bm2 true sn2 sub2 ab2 col2 dd2 m02 m12 m22 m32 m52 "ValueError.__new__")) (eb2 : PySem.HandSPX.refsVE bm2 = true) (es2 : PySem.W.findIn K (.ref C2) "__setattr__" = some (some (.builtin "object.__setattr__"))) (ee2 : PySem.W.subIn K (.ref C2) (.type "BaseException") = some true) (et2 : PySem.W.typeIn K (.ref C2) = some (.type "type")) (ek2 : PySem.W.keepIn K (.ref C2) = true) (ega2 : PySem.W.findIn K (.ref C2) "__getattribute__" = some (some (.builtin "BaseException.__getattribute__"))) (egg2 : PySem.W.findIn K (.ref C2) "__getattr__" = some none) (eh2 : PySem.W.hasDictIn K C2 = true) (ei2 : PySem.W.isClsIn K C2 = true) (eu2 : PySem.W.subIn K (.ref C2) (.ref C2) = some true) (ef2 : PySem.W.findIn K (.ref C2) "__init__" = some (some (.ref g2))) (ey2 : PySem.W.typeIn K (.ref g2) = some (.type "function")) (el2 : K.lookup g2 = some ⟨ocE2, odE2, .func (PySem.W.fnOf "__init__" "BadRest.__init__" (defArgs s_BadRest_init) (defBody s_BadRest_init) (defScope s_BadRest_init) .none kVE2 dcE2 pmE2 anE2 cdE2 ctE2), slE2⟩) (ec2 : PySem.W.codeIn K cdE2 "BadRest.__init__" = true) (ej2 : PySem.W.keepIn K (.ref g2) = true) : ErrRaw K mg "BadRest" C2 s_BadRest_init "BadRest.__init__" ["self", "rest"] := by
  have F := fun_mk (st := s_BadRest_init) el2 ec2 ej2
  have b := F.binds (ps := ["self", "rest"]) fun _ _ _ _ _ _ us hl => match us, hl with | [_, _], _ => rfl
  exact ⟨PySem.W.mg_of X G eg2, ⟨⟨_, _, _, _, _, _, _, _, _, _, _, _, _, _, _, ex2, eb2⟩, es2, ee2, et2, ek2⟩, ⟨ega2, egg2, ee2, eh2⟩, exm_self ee2 ei2 et2 eu2, ⟨_, _, ef2, ey2, F, b⟩⟩
theorem er_TooWide {K : PySem.W.Frag} {h : Heap} {mg : Str → Option Value} (X : K.In h) (G : h.Ns mainGlobals mg) {C3 g3 N3 : Addr} {nm3 qq3 : Str} {bs3 bm3 : List Value} {sn3 : List Str} {sub3 : List Value} {ab3 : Bool} {col3 : Option Bool} {dd3 : Option Addr} {m03 m13 m23 m33 m53 : Option Value} {odE3 anE3 : Option Addr} {slE3 : Array (Option Value)} {ocE3 kVE3 dcE3 pmE3 cdE3 ctE3 : Value} (eg3 : PySem.W.nsIn K mainGlobals "TooWide" = some (some (.ref C3))) (ex3 : K.lookup C3 = some (excClassObj nm3 qq3 C3 N3 bs3 bm3 true sn3 sub3 ab3 col3 dd3 m03 m13 m23 m33 m53 "ValueError.__new__")) (eb3 : PySem.HandSPX.refsVE bm3 = true) (es3 : PySem.W.findIn K (.ref C3) "__setattr__" = some (some (.builtin "object.__setattr__"))) (ee3 : PySem.W.subIn K (.ref C3) (.type "BaseException") = some true) (et3 : PySem.W.typeIn K (.ref C3) = some (.type "type")) (ek3 : PySem.W.keepIn K (.ref C3) = true) (ega3 : PySem.W.findIn K (.ref C3) "__getattribute__" = some (some (.builtin "BaseException.__getattribute__"))) (egg3 : PySem.W.findIn K (.ref C3) "__getattr__" = some none) (eh3 : PySem.W.hasDictIn K C3 = true) (ei3 : PySem.W.isClsIn K C3 = true) (eu3 : PySem.W.subIn K (.ref C3) (.ref C3) = some true) (ef3 : PySem.W.findIn K (.ref C3) "__init__" = some (some (.ref g3))) (ey3 : PySem.W.typeIn K (.ref g3) = some (.type "function")) (el3 : K.lookup g3 = some ⟨ocE3, odE3, .func (PySem.W.fnOf "__init__" "TooWide.__init__" (defArgs s_TooWide_init) (defBody s_TooWide_init) (defScope s_TooWide_init) .none kVE3 dcE3 pmE3 anE3 cdE3 ctE3), slE3⟩) (ec3 : PySem.W.codeIn K cdE3 "TooWide.__init__" = true) (ej3 : PySem.W.keepIn K (.ref g3) = true) : ErrRaw K mg "TooWide" C3 s_TooWide_init "TooWide.__init__" ["self", "modulus"] := by
  have F := fun_mk (st := s_TooWide_init) el3 ec3 ej3
  have b := F.binds (ps := ["self", "modulus"]) fun _ _ _ _ _ _ us hl => match us, hl with | [_, _], _ => rfl
  exact ⟨PySem.W.mg_of X G eg3, ⟨⟨_, _, _, _, _, _, _, _, _, _, _, _, _, _, _, ex3, eb3⟩, es3, ee3, et3, ek3⟩, ⟨ega3, egg3, ee3, eh3⟩, exm_self ee3 ei3 et3 eu3, ⟨_, _, ef3, ey3, F, b⟩⟩
theorem txt_mk {K : PySem.W.Frag} {h : Heap} {mg : Str → Option Value} (X : K.In h) (G : h.Ns mainGlobals mg) {C0 C1 C2 C3 CO_Primes CO_Count : Addr} {CB : Addr} {tk_MOST_MODULUS : Tok}
    (z_abs : PySem.W.nsIn K mainGlobals "abs" = some none)
    (z_bool : PySem.W.nsIn K mainGlobals "bool" = some none)
    (z_int : PySem.W.nsIn K mainGlobals "int" = some none)
    (z_isinstance : PySem.W.nsIn K mainGlobals "isinstance" = some none)
    (z_len : PySem.W.nsIn K mainGlobals "len" = some none)
    (z_list : PySem.W.nsIn K mainGlobals "list" = some none)
    (z_max : PySem.W.nsIn K mainGlobals "max" = some none)
    (z_min : PySem.W.nsIn K mainGlobals "min" = some none)
    (z_range : PySem.W.nsIn K mainGlobals "range" = some none)
    (z_set : PySem.W.nsIn K mainGlobals "set" = some none)
    (z_sorted : PySem.W.nsIn K mainGlobals "sorted" = some none)
    (z_tuple : PySem.W.nsIn K mainGlobals "tuple" = some none)
    (z_zip : PySem.W.nsIn K mainGlobals "zip" = some none)
    (q_MOST_MODULUS : PySem.W.nsIn K mainGlobals "MOST_MODULUS" = some (some (.int 4000 tk_MOST_MODULUS)))
    (og_Primes : PySem.W.nsIn K mainGlobals "Primes" = some (some (.ref CO_Primes)))
    (hc_Primes : ClsH K CO_Primes)
    (osf_Primes : PySem.W.selfFirst K CO_Primes = true)
    (onf_Primes_modulus : PySem.W.findIn K (.ref CO_Primes) "modulus" = some none)
    (onf_Primes_rests : PySem.W.findIn K (.ref CO_Primes) "rests" = some none)
    (onf_Primes_singles : PySem.W.findIn K (.ref CO_Primes) "singles" = some none)
    (og_Count : PySem.W.nsIn K mainGlobals "Count" = some (some (.ref CO_Count)))
    (hc_Count : ClsH K CO_Count)
    (osf_Count : PySem.W.selfFirst K CO_Count = true)
    (onf_Count_lines : PySem.W.findIn K (.ref CO_Count) "lines" = some none)
    (onf_Count_modulus : PySem.W.findIn K (.ref CO_Count) "modulus" = some none)
    (onf_Count_special : PySem.W.findIn K (.ref CO_Count) "special" = some none)
    (d_Count_init : MkAt K mg "Count" CO_Count "Count.__init__" s_Count_init ["self", "modulus", "lines", "special"])
    (d_Count_value_at : MethAt K CO_Count "value_at" "Count.value_at" s_Count_value_at ["self", "p"])
    (d_common : DefAt K mg "common" s_common ["a", "b"])
    (d_units : DefAt K mg "units" s_units ["modulus"])
    (d_units_counts : DefAtA K mg "units_counts" "units" s_units_counts ["modulus"])
    (d_combined : DefAt K mg "combined" s_combined ["first", "second", "factor"])
    (d_factors : DefAt K mg "factors" s_factors ["n"])
    (d_odd_primes_of : DefAt K mg "odd_primes_of" s_odd_primes_of ["n"])
    (d_is_prime : DefAt K mg "is_prime" s_is_prime ["n"])
    (d_candidates : DefAt K mg "candidates" s_candidates ["line"])
    (d_checked_modulus : DefAt K mg "checked_modulus" s_checked_modulus ["modulus"])
    (d_checked_singles : DefAt K mg "checked_singles" s_checked_singles ["singles"])
    (d_units_values : DefAtA K mg "units_values" "units" s_units_values ["modulus"])
    (d_shortened : DefAt K mg "shortened" s_shortened ["modulus", "rests", "prime"])
    (d_toggled : DefAt K mg "toggled" s_toggled ["singles", "p"])
    (d_told_by : DefAt K mg "told_by" s_told_by ["modulus", "rests", "p"])
    (d_least_description : DefAt K mg "least_description" s_least_description ["modulus", "rests", "singles"])
    (d_checked_modulus_values : DefAtA K mg "checked_modulus_values" "checked_modulus" s_checked_modulus_values ["modulus"])
    (d_Primes_init : MkAt K mg "Primes" CO_Primes "Primes.__init__" s_Primes_init ["self", "modulus", "rests", "singles"])
    (d_vanishing : DefAt K mg "vanishing" s_vanishing ["count"])
    (d_combined_counts : DefAtA K mg "combined_counts" "combined" s_combined_counts ["first", "second", "factor"])
    (d_Count_equal : MethAt K CO_Count "equal" "Count.equal" s_Count_equal ["self", "other"])
    (d_polynomial : DefAt K mg "polynomial" s_polynomial ["a", "b", "c"])
    (d_core : DefAt K mg "core" s_core ["n"])
    (d_conductor : DefAt K mg "conductor" s_conductor ["n"])
    (d_checked_modulus_signs : DefAtA K mg "checked_modulus_signs" "checked_modulus" s_checked_modulus_signs ["m"])
    (d_factor_of : DefAt K mg "factor_of" s_factor_of ["rule", "n", "m"])
    (d_sign : DefAt K mg "sign" s_sign ["n", "m"])
    (d_sign_by_rest : DefAt K mg "sign_by_rest" s_sign_by_rest ["n", "rest", "modulus"])
    (d_checked_clock : DefAt K mg "checked_clock" s_checked_clock ["p"])
    (d_inverse : DefAt K mg "inverse" s_inverse ["n", "p"])
    (d_times_pair : DefAt K mg "times_pair" s_times_pair ["first", "second", "w", "p"])
    (d_some_root : DefAt K mg "some_root" s_some_root ["n", "p"])
    (d_root : DefAt K mg "root" s_root ["n", "p"])
    (d_roots : DefAt K mg "roots" s_roots ["a", "b", "c", "p"])
    (d_how_many : DefAt K mg "how_many" s_how_many ["a", "b", "c", "p"])
    (d_conic_at : DefAt K mg "conic_at" s_conic_at ["a", "b", "c", "p"])
    (d_conic : DefAt K mg "conic" s_conic ["a", "b", "c"])
    (d_three : DefAt K mg "three" s_three ["c"])
    (d_solutions : DefAt K mg "solutions" s_solutions ["a", "b", "c"])
    (d_neighbours : DefAt K mg "neighbours" s_neighbours ["s", "t"])
    (d_Primes_contains : MethAt K CO_Primes "__contains__" "Primes.__contains__" s_Primes_contains ["self", "p"])
    (d_indicator : DefAt K mg "indicator" s_indicator ["found"])
    (d_law_count : DefAt K mg "_law_count" s_law_count ["_law_drawn"])
    (d_law_equal : DefAt K mg "_law_equal" s_law_equal ["_law_first", "_law_second"])
    (d_law_wide : DefAt K mg "_law_wide" s_law_wide ["_law_first", "_law_second"])
    (d_Count_add : MethAt K CO_Count "__add__" "Count.__add__" s_Count_add ["self", "other"])
    (d_Count_sub : MethAt K CO_Count "__sub__" "Count.__sub__" s_Count_sub ["self", "other"])
    (d_Primes_every : CMAt K CO_Primes "every" "Primes.every" s_Primes_every)
    (d_Primes_eq : MethAt K CO_Primes "__eq__" "Primes.__eq__" s_Primes_eq ["self", "other"])
    (d_Count_eq : MethAt K CO_Count "__eq__" "Count.__eq__" s_Count_eq ["self", "other"])
    (d_law_minus : DefAt K mg "_law_minus" s_law_minus ["_law_first", "_law_second"])
    (d_law_same : DefAt K mg "_law_same" s_law_same ["_law_first", "_law_second"])
    (d_Primes_only : CMAt K CO_Primes "only" "Primes.only" s_Primes_only)
    (d_law_great_prime : DefAt K mg "_law_great_prime" s_law_great_prime ["_law_q"])
    (d_odd_divisors : DefAt K mg "odd_divisors" s_odd_divisors ["modulus"])
    (d_Primes_by_rest : CMAt K CO_Primes "by_rest" "Primes.by_rest" s_Primes_by_rest)
    (d_joined_answer : DefAt K mg "joined_answer" s_joined_answer ["rule", "first", "second"])
    (d_combined_values : DefAtA K mg "combined_values" "combined" s_combined_values ["first", "second", "rule"])
    (d_Primes_and : MethAt K CO_Primes "__and__" "Primes.__and__" s_Primes_and ["self", "other"])
    (d_Primes_invert : MethAt K CO_Primes "__invert__" "Primes.__invert__" s_Primes_invert ["self"])
    (d_law_is_prime : DefAt K mg "_law_is_prime" s_law_is_prime ["_law_n"])
    (d_law_prime_from : DefAt K mg "_law_prime_from" s_law_prime_from ["_law_n"])
    (d_law_far_primes : DefAt K mg "_law_far_primes" s_law_far_primes ["_law_drawn"])
    (fi_Count : ∀ g, PySem.W.findIn K (.ref CO_Count) "__call__" = some (some (.ref g)) → PySem.W.fnIn K g = true)
    (d_Count_call : MethAt K CO_Count "__call__" "Count.__call__" s_Count_call ["self", "p"])
    (d_law_is_integer : DefAt K mg "_law_is_integer" s_law_is_integer ["_law_actual"])
    (d_law_draws : DefAt K mg "_law_draws" s_law_draws ["_law_cell_here", "_law_sizes"])
    (d_law_cell : DefAt K mg "_law_cell" s_law_cell ["_law_script", "_law_k"])
    (gB : PySem.W.nsIn K mainGlobals "ClockError" = some (some (.ref CB)))
    (rB : PySem.W.readsIn K CB (.type "type") = true)
    (aB : PySem.W.specialIn K (.ref CB) "__getattribute__" = some (some (.builtin "type.__getattribute__")))
    (iB : PySem.W.findCls K (.ref CB) (.type "type") "__init__" = some (.val (.builtin "ValueError.__init__")))
    (r_BadModulus : ErrRaw K mg "BadModulus" C0 s_BadModulus_init "BadModulus.__init__" ["self", "modulus"])
    (en0_modulus : PySem.W.findIn K (.ref C0) "modulus" = some none)
    (r_BadPrime : ErrRaw K mg "BadPrime" C1 s_BadPrime_init "BadPrime.__init__" ["self", "p"])
    (en1_p : PySem.W.findIn K (.ref C1) "p" = some none)
    (r_BadRest : ErrRaw K mg "BadRest" C2 s_BadRest_init "BadRest.__init__" ["self", "rest"])
    (en2_rest : PySem.W.findIn K (.ref C2) "rest" = some none)
    (r_TooWide : ErrRaw K mg "TooWide" C3 s_TooWide_init "TooWide.__init__" ["self", "modulus"])
    (en3_modulus : PySem.W.findIn K (.ref C3) "modulus" = some none) :
    Txt K mg ⟨C0, C1, C2, C3, CO_Primes, CO_Count, CB, tk_MOST_MODULUS⟩ := {
    b_abs := PySem.W.mg_none_of X G z_abs
    b_bool := PySem.W.mg_none_of X G z_bool
    b_int := PySem.W.mg_none_of X G z_int
    b_isinstance := PySem.W.mg_none_of X G z_isinstance
    b_len := PySem.W.mg_none_of X G z_len
    b_list := PySem.W.mg_none_of X G z_list
    b_max := PySem.W.mg_none_of X G z_max
    b_min := PySem.W.mg_none_of X G z_min
    b_range := PySem.W.mg_none_of X G z_range
    b_set := PySem.W.mg_none_of X G z_set
    b_sorted := PySem.W.mg_none_of X G z_sorted
    b_tuple := PySem.W.mg_none_of X G z_tuple
    b_zip := PySem.W.mg_none_of X G z_zip
    k_MOST_MODULUS := PySem.W.mg_of X G q_MOST_MODULUS
    g_Primes := PySem.W.mg_of X G og_Primes
    cl_Primes := ⟨hc_Primes.opg, hc_Primes.ohd, hc_Primes.opo, hc_Primes.osa⟩
    ty_Primes := fun H a dx fs h => .base (.ins h ⟨hc_Primes.opg, hc_Primes.ohd, hc_Primes.opo, hc_Primes.osa⟩ hc_Primes.oha hc_Primes.ohn hc_Primes.otk hc_Primes.omr)
    ki_Primes := kit_self
    kl_Primes := kit_list hc_Primes.oci hc_Primes.oct
    nl_Primes := notFirst_list
    sf_Primes := osf_Primes
    nf_Primes_modulus := onf_Primes_modulus
    nf_Primes_rests := onf_Primes_rests
    nf_Primes_singles := onf_Primes_singles
    g_Count := PySem.W.mg_of X G og_Count
    cl_Count := ⟨hc_Count.opg, hc_Count.ohd, hc_Count.opo, hc_Count.osa⟩
    ty_Count := fun H a dx fs h => .base (.ins h ⟨hc_Count.opg, hc_Count.ohd, hc_Count.opo, hc_Count.osa⟩ hc_Count.oha hc_Count.ohn hc_Count.otk hc_Count.omr)
    ki_Count := kit_self
    kl_Count := kit_list hc_Count.oci hc_Count.oct
    nl_Count := notFirst_list
    sf_Count := osf_Count
    kz_Count := kit_intT hc_Count.oci hc_Count.oct
    nf_Count_lines := onf_Count_lines
    nf_Count_modulus := onf_Count_modulus
    nf_Count_special := onf_Count_special
    d_Count_init := d_Count_init
    d_Count_value_at := d_Count_value_at
    d_common := d_common
    d_units := d_units
    d_units_counts := d_units_counts
    d_combined := d_combined
    d_factors := d_factors
    d_odd_primes_of := d_odd_primes_of
    d_is_prime := d_is_prime
    d_candidates := d_candidates
    d_checked_modulus := d_checked_modulus
    d_checked_singles := d_checked_singles
    d_units_values := d_units_values
    d_shortened := d_shortened
    d_toggled := d_toggled
    d_told_by := d_told_by
    d_least_description := d_least_description
    d_checked_modulus_values := d_checked_modulus_values
    d_Primes_init := d_Primes_init
    d_vanishing := d_vanishing
    d_combined_counts := d_combined_counts
    d_Count_equal := d_Count_equal
    d_polynomial := d_polynomial
    d_core := d_core
    d_conductor := d_conductor
    d_checked_modulus_signs := d_checked_modulus_signs
    d_factor_of := d_factor_of
    d_sign := d_sign
    d_sign_by_rest := d_sign_by_rest
    d_checked_clock := d_checked_clock
    d_inverse := d_inverse
    d_times_pair := d_times_pair
    d_some_root := d_some_root
    d_root := d_root
    d_roots := d_roots
    d_how_many := d_how_many
    d_conic_at := d_conic_at
    d_conic := d_conic
    d_three := d_three
    d_solutions := d_solutions
    d_neighbours := d_neighbours
    d_Primes_contains := d_Primes_contains
    d_indicator := d_indicator
    d_law_count := d_law_count
    d_law_equal := d_law_equal
    d_law_wide := d_law_wide
    d_Count_add := d_Count_add
    d_Count_sub := d_Count_sub
    d_Primes_every := d_Primes_every
    d_Primes_eq := d_Primes_eq
    d_Count_eq := d_Count_eq
    d_law_minus := d_law_minus
    d_law_same := d_law_same
    d_Primes_only := d_Primes_only
    d_law_great_prime := d_law_great_prime
    d_odd_divisors := d_odd_divisors
    d_Primes_by_rest := d_Primes_by_rest
    d_joined_answer := d_joined_answer
    d_combined_values := d_combined_values
    d_Primes_and := d_Primes_and
    d_Primes_invert := d_Primes_invert
    d_law_is_prime := d_law_is_prime
    d_law_prime_from := d_law_prime_from
    d_law_far_primes := d_law_far_primes
    fi_Count := fi_Count
    d_Count_call := d_Count_call
    d_law_is_integer := d_law_is_integer
    d_law_draws := d_law_draws
    d_law_cell := d_law_cell
    base := ⟨PySem.W.mg_of X G gB, rB, aB, iB⟩
    r_BadModulus := r_BadModulus
    no_BadModulus_modulus := en0_modulus
    r_BadPrime := r_BadPrime
    no_BadPrime_p := en1_p
    r_BadRest := r_BadRest
    no_BadRest_rest := en2_rest
    r_TooWide := r_TooWide
    no_TooWide_modulus := en3_modulus
    triv := trivial
  }
theorem all_mk {P : Program} {w : World} {K : PySem.W.Frag} {h : Heap} {mg : Str → Option Value} {fa : Addr} (X : K.In h) (G : h.Ns mainGlobals mg) (hfa : mg "law" = some (.ref fa)) {Ad : Adr} (T : Txt K mg Ad) {f68 : Addr} {od68 an68 : Option Addr} {sl68 : Array (Option Value)} {oc68 kV68 dc68 pm68 cd68 ct68 : Value} (a68 : PySem.W.nsIn K mainGlobals "law" = some (some (.ref f68))) (l68 : K.lookup f68 = some ⟨oc68, od68, .func (PySem.W.fnOf "law" "law" (defArgs s_law) (defBody s_law) (defScope s_law) .none kV68 dc68 pm68 an68 cd68 ct68), sl68⟩) (c68 : PySem.W.codeIn K cd68 "law" = true) (k68 : PySem.W.keepIn K (.ref f68) = true) :
    ∃ fd : FuncData, (∀ (s : Shared) (v : Value), BindsTo s fd ⟨[v], []⟩ [("_law_script", v)]) ∧ ∀ base : Heap, K.In base → base.Ns mainGlobals mg → FnOk P w K mg base (L2.CX P w) 12 fa fd ["_law_script"] (spLaw K) := by
  have e := hfa.symm.trans (PySem.W.mg_of X G a68)
  cases e
  have F := fun_mk (st := s_law) l68 c68 k68
  exact ⟨_, fun s v => .of_eq rfl, fun base _ _ => ok_law (base := base) F T⟩
theorem walk {l : PySem.W.OpenLaw} {q : Program} {loose : List Str} {XP : (Str → Option Value) → Heap → Prop} {YP : World → Heap → Prop} {d : DefRec} {K : Params → PySem.W.Frag} (hn : l.most = some 63) (hdf : d.params.defaults = [])
    (hY : ∀ (w : World) (h : Heap), YP w h → (K w.params).In h)
    (F : ∀ (w : World) (mg : Str → Option Value) (fa : Addr) (h : Heap), (K w.params).In h → h.Ns mainGlobals mg → mg d.name = some (.ref fa) →
      ∃ fd : FuncData, (∀ (s : Shared) (u : Value), BindsTo s fd ⟨[u], []⟩ [("_law_script", u)]) ∧ ∀ base : Heap, (K w.params).In base → base.Ns mainGlobals mg → FnOk l.prog w (K w.params) mg base (L2.CX l.prog w) 12 fa fd ["_law_script"] (spLaw (K w.params))) :
    PySem.W.WalkO q loose XP YP l.row.toRowW d [] (fun f vs => PySem.call f vs) :=
  L2.walk_of (n := 63) (k := 12) (x := "_law_script") (CX := fun w => L2.CX l.prog w) (sp := fun w => spLaw (K w.params)) hn (by decide) hdf ⟨rfl, by decide, by decide⟩ hY F (fun _ _ a ns hl hO hS => ⟨a, ns, rfl, hS, hl, NoT.only hO, fun _ => rfl⟩) fun _ _ _ _ _ h => by
    obtain ⟨_, _, _, _, _, _, _, _, _, _, _, _, z⟩ := h
    exact z.elim
end My
open PySem PySem.W PyProof.Rows
set_option maxRecDepth 100000 in
set_option maxHeartbeats 0 in
theorem PySem.Challenge.cw_everyprime_k75_whole_counts_that_agree_holds : PySem.Challenge.rw_everyprime_k75_whole_counts_that_agree.Holds := by
  refine My.hd_top ?_
  k_fill
  refine My.walk (l := PySem.Challenge.rw_everyprime_k75_whole_counts_that_agree) rfl rfl (fun w h Y => PySem.W.kIn_of Y) ?F
  case F =>
    intro w mg fa h KX G hmg
    refine' My.all_mk KX G hmg (My.txt_mk KX G ?z_abs ?z_bool ?z_int ?z_isinstance ?z_len ?z_list ?z_max ?z_min ?z_range ?z_set ?z_sorted ?z_tuple ?z_zip ?q_MOST_MODULUS ?og_Primes ?hc_Primes ?osf_Primes ?onf_Primes_modulus ?onf_Primes_rests ?onf_Primes_singles ?og_Count ?hc_Count ?osf_Count ?onf_Count_lines ?onf_Count_modulus ?onf_Count_special ?d_Count_init ?d_Count_value_at ?d_common ?d_units ?d_units_counts ?d_combined ?d_factors ?d_odd_primes_of ?d_is_prime ?d_candidates ?d_checked_modulus ?d_checked_singles ?d_units_values ?d_shortened ?d_toggled ?d_told_by ?d_least_description ?d_checked_modulus_values ?d_Primes_init ?d_vanishing ?d_combined_counts ?d_Count_equal ?d_polynomial ?d_core ?d_conductor ?d_checked_modulus_signs ?d_factor_of ?d_sign ?d_sign_by_rest ?d_checked_clock ?d_inverse ?d_times_pair ?d_some_root ?d_root ?d_roots ?d_how_many ?d_conic_at ?d_conic ?d_three ?d_solutions ?d_neighbours ?d_Primes_contains ?d_indicator ?d_law_count ?d_law_equal ?d_law_wide ?d_Count_add ?d_Count_sub ?d_Primes_every ?d_Primes_eq ?d_Count_eq ?d_law_minus ?d_law_same ?d_Primes_only ?d_law_great_prime ?d_odd_divisors ?d_Primes_by_rest ?d_joined_answer ?d_combined_values ?d_Primes_and ?d_Primes_invert ?d_law_is_prime ?d_law_prime_from ?d_law_far_primes ?fi_Count ?d_Count_call ?d_law_is_integer ?d_law_draws ?d_law_cell ?gB ?rB ?aB ?iB ?r_BadModulus ?en0_modulus ?r_BadPrime ?en1_p ?r_BadRest ?en2_rest ?r_TooWide ?en3_modulus) ?a68 ?l68 ?c68 ?k68
    (case z_abs => as_aux_lemma => k_is)
    (case z_bool => as_aux_lemma => k_is)
    (case z_int => as_aux_lemma => k_is)
    (case z_isinstance => as_aux_lemma => k_is)
    (case z_len => as_aux_lemma => k_is)
    (case z_list => as_aux_lemma => k_is)
    (case z_max => as_aux_lemma => k_is)
    (case z_min => as_aux_lemma => k_is)
    (case z_range => as_aux_lemma => k_is)
    (case z_set => as_aux_lemma => k_is)
    (case z_sorted => as_aux_lemma => k_is)
    (case z_tuple => as_aux_lemma => k_is)
    (case z_zip => as_aux_lemma => k_is)
    (case q_MOST_MODULUS => as_aux_lemma => k_is)
    (case og_Primes => as_aux_lemma => k_is)
    (case hc_Primes => (refine' My.ClsH.mk ?y1_opg_Primes ?y1_ohd_Primes ?y1_opo_Primes ?y1_osa_Primes ?y1_omk_Primes ?y1_okc_Primes ?y1_oha_Primes ?y1_ohn_Primes ?y1_otk_Primes ?y1_omr_Primes ?y1_oci_Primes ?y1_oct_Primes; (case y1_opg_Primes => as_aux_lemma => k_is); (case y1_ohd_Primes => as_aux_lemma => k_is); (case y1_opo_Primes => as_aux_lemma => k_is); (case y1_osa_Primes => as_aux_lemma => k_is); (case y1_omk_Primes => as_aux_lemma => k_is); (case y1_okc_Primes => as_aux_lemma => k_is); (case y1_oha_Primes => as_aux_lemma => k_is); (case y1_ohn_Primes => as_aux_lemma => k_is); (case y1_otk_Primes => as_aux_lemma => k_is); (case y1_omr_Primes => as_aux_lemma => k_is); (case y1_oci_Primes => as_aux_lemma => k_is); (case y1_oct_Primes => as_aux_lemma => k_is)))
    (case osf_Primes => as_aux_lemma => k_is)
    (case onf_Primes_modulus => as_aux_lemma => k_is)
    (case onf_Primes_rests => as_aux_lemma => k_is)
    (case onf_Primes_singles => as_aux_lemma => k_is)
    (case og_Count => as_aux_lemma => k_is)
    (case hc_Count => (refine' My.ClsH.mk ?y2_opg_Count ?y2_ohd_Count ?y2_opo_Count ?y2_osa_Count ?y2_omk_Count ?y2_okc_Count ?y2_oha_Count ?y2_ohn_Count ?y2_otk_Count ?y2_omr_Count ?y2_oci_Count ?y2_oct_Count; (case y2_opg_Count => as_aux_lemma => k_is); (case y2_ohd_Count => as_aux_lemma => k_is); (case y2_opo_Count => as_aux_lemma => k_is); (case y2_osa_Count => as_aux_lemma => k_is); (case y2_omk_Count => as_aux_lemma => k_is); (case y2_okc_Count => as_aux_lemma => k_is); (case y2_oha_Count => as_aux_lemma => k_is); (case y2_ohn_Count => as_aux_lemma => k_is); (case y2_otk_Count => as_aux_lemma => k_is); (case y2_omr_Count => as_aux_lemma => k_is); (case y2_oci_Count => as_aux_lemma => k_is); (case y2_oct_Count => as_aux_lemma => k_is)))
    (case osf_Count => as_aux_lemma => k_is)
    (case onf_Count_lines => as_aux_lemma => k_is)
    (case onf_Count_modulus => as_aux_lemma => k_is)
    (case onf_Count_special => as_aux_lemma => k_is)
    (case d_Count_init => (refine' My.at_Count_init KX G ?y3_og_Count ?y3_hc_Count ?y3_a0 ?y3_i0 ?y3_l0 ?y3_c0 ?y3_k0; (case y3_og_Count => as_aux_lemma => k_is); (case y3_hc_Count => (refine' My.ClsH.mk ?y3_opg ?y3_ohd ?y3_opo ?y3_osa ?y3_omk ?y3_okc ?y3_oha ?y3_ohn ?y3_otk ?y3_omr ?y3_oci ?y3_oct; (case y3_opg => as_aux_lemma => k_is); (case y3_ohd => as_aux_lemma => k_is); (case y3_opo => as_aux_lemma => k_is); (case y3_osa => as_aux_lemma => k_is); (case y3_omk => as_aux_lemma => k_is); (case y3_okc => as_aux_lemma => k_is); (case y3_oha => as_aux_lemma => k_is); (case y3_ohn => as_aux_lemma => k_is); (case y3_otk => as_aux_lemma => k_is); (case y3_omr => as_aux_lemma => k_is); (case y3_oci => as_aux_lemma => k_is); (case y3_oct => as_aux_lemma => k_is))); (case y3_a0 => as_aux_lemma => k_is); (case y3_i0 => as_aux_lemma => k_is); (case y3_l0 => as_aux_lemma => k_is); (case y3_c0 => as_aux_lemma => k_is); (case y3_k0 => as_aux_lemma => k_is)))
    (case d_Count_value_at => (refine' My.at_Count_value_at ?y4_a1 ?y4_i1 ?y4_l1 ?y4_c1 ?y4_k1; (case y4_a1 => as_aux_lemma => k_is); (case y4_i1 => as_aux_lemma => k_is); (case y4_l1 => as_aux_lemma => k_is); (case y4_c1 => as_aux_lemma => k_is); (case y4_k1 => as_aux_lemma => k_is)))
    (case d_common => (refine' My.at_common KX G ?y5_a2 ?y5_l2 ?y5_c2 ?y5_k2; (case y5_a2 => as_aux_lemma => k_is); (case y5_l2 => as_aux_lemma => k_is); (case y5_c2 => as_aux_lemma => k_is); (case y5_k2 => as_aux_lemma => k_is)))
    (case d_units => (refine' My.at_units KX G ?y6_a3 ?y6_l3 ?y6_c3 ?y6_k3; (case y6_a3 => as_aux_lemma => k_is); (case y6_l3 => as_aux_lemma => k_is); (case y6_c3 => as_aux_lemma => k_is); (case y6_k3 => as_aux_lemma => k_is)))
    (case d_units_counts => (refine' My.at_units_counts KX G ?y7_a4 ?y7_l4 ?y7_c4 ?y7_k4; (case y7_a4 => as_aux_lemma => k_is); (case y7_l4 => as_aux_lemma => k_is); (case y7_c4 => as_aux_lemma => k_is); (case y7_k4 => as_aux_lemma => k_is)))
    (case d_combined => (refine' My.at_combined KX G ?y8_a5 ?y8_l5 ?y8_c5 ?y8_k5; (case y8_a5 => as_aux_lemma => k_is); (case y8_l5 => as_aux_lemma => k_is); (case y8_c5 => as_aux_lemma => k_is); (case y8_k5 => as_aux_lemma => k_is)))
    (case d_factors => (refine' My.at_factors KX G ?y9_a6 ?y9_l6 ?y9_c6 ?y9_k6; (case y9_a6 => as_aux_lemma => k_is); (case y9_l6 => as_aux_lemma => k_is); (case y9_c6 => as_aux_lemma => k_is); (case y9_k6 => as_aux_lemma => k_is)))
    (case d_odd_primes_of => (refine' My.at_odd_primes_of KX G ?y10_a7 ?y10_l7 ?y10_c7 ?y10_k7; (case y10_a7 => as_aux_lemma => k_is); (case y10_l7 => as_aux_lemma => k_is); (case y10_c7 => as_aux_lemma => k_is); (case y10_k7 => as_aux_lemma => k_is)))
    (case d_is_prime => (refine' My.at_is_prime KX G ?y11_a8 ?y11_l8 ?y11_c8 ?y11_k8; (case y11_a8 => as_aux_lemma => k_is); (case y11_l8 => as_aux_lemma => k_is); (case y11_c8 => as_aux_lemma => k_is); (case y11_k8 => as_aux_lemma => k_is)))
    (case d_candidates => (refine' My.at_candidates KX G ?y12_a9 ?y12_l9 ?y12_c9 ?y12_k9; (case y12_a9 => as_aux_lemma => k_is); (case y12_l9 => as_aux_lemma => k_is); (case y12_c9 => as_aux_lemma => k_is); (case y12_k9 => as_aux_lemma => k_is)))
    (case d_checked_modulus => (refine' My.at_checked_modulus KX G ?y13_a10 ?y13_l10 ?y13_c10 ?y13_k10; (case y13_a10 => as_aux_lemma => k_is); (case y13_l10 => as_aux_lemma => k_is); (case y13_c10 => as_aux_lemma => k_is); (case y13_k10 => as_aux_lemma => k_is)))
    (case d_checked_singles => (refine' My.at_checked_singles KX G ?y14_a11 ?y14_l11 ?y14_c11 ?y14_k11; (case y14_a11 => as_aux_lemma => k_is); (case y14_l11 => as_aux_lemma => k_is); (case y14_c11 => as_aux_lemma => k_is); (case y14_k11 => as_aux_lemma => k_is)))
    (case d_units_values => (refine' My.at_units_values KX G ?y15_a12 ?y15_l12 ?y15_c12 ?y15_k12; (case y15_a12 => as_aux_lemma => k_is); (case y15_l12 => as_aux_lemma => k_is); (case y15_c12 => as_aux_lemma => k_is); (case y15_k12 => as_aux_lemma => k_is)))
    (case d_shortened => (refine' My.at_shortened KX G ?y16_a13 ?y16_l13 ?y16_c13 ?y16_k13; (case y16_a13 => as_aux_lemma => k_is); (case y16_l13 => as_aux_lemma => k_is); (case y16_c13 => as_aux_lemma => k_is); (case y16_k13 => as_aux_lemma => k_is)))
    (case d_toggled => (refine' My.at_toggled KX G ?y17_a14 ?y17_l14 ?y17_c14 ?y17_k14; (case y17_a14 => as_aux_lemma => k_is); (case y17_l14 => as_aux_lemma => k_is); (case y17_c14 => as_aux_lemma => k_is); (case y17_k14 => as_aux_lemma => k_is)))
    (case d_told_by => (refine' My.at_told_by KX G ?y18_a15 ?y18_l15 ?y18_c15 ?y18_k15; (case y18_a15 => as_aux_lemma => k_is); (case y18_l15 => as_aux_lemma => k_is); (case y18_c15 => as_aux_lemma => k_is); (case y18_k15 => as_aux_lemma => k_is)))
    (case d_least_description => (refine' My.at_least_description KX G ?y19_a16 ?y19_l16 ?y19_c16 ?y19_k16; (case y19_a16 => as_aux_lemma => k_is); (case y19_l16 => as_aux_lemma => k_is); (case y19_c16 => as_aux_lemma => k_is); (case y19_k16 => as_aux_lemma => k_is)))
    (case d_checked_modulus_values => (refine' My.at_checked_modulus_values KX G ?y20_a17 ?y20_l17 ?y20_c17 ?y20_k17; (case y20_a17 => as_aux_lemma => k_is); (case y20_l17 => as_aux_lemma => k_is); (case y20_c17 => as_aux_lemma => k_is); (case y20_k17 => as_aux_lemma => k_is)))
    (case d_Primes_init => (refine' My.at_Primes_init KX G ?y21_og_Primes ?y21_hc_Primes ?y21_a18 ?y21_i18 ?y21_l18 ?y21_c18 ?y21_k18; (case y21_og_Primes => as_aux_lemma => k_is); (case y21_hc_Primes => (refine' My.ClsH.mk ?y21_opg ?y21_ohd ?y21_opo ?y21_osa ?y21_omk ?y21_okc ?y21_oha ?y21_ohn ?y21_otk ?y21_omr ?y21_oci ?y21_oct; (case y21_opg => as_aux_lemma => k_is); (case y21_ohd => as_aux_lemma => k_is); (case y21_opo => as_aux_lemma => k_is); (case y21_osa => as_aux_lemma => k_is); (case y21_omk => as_aux_lemma => k_is); (case y21_okc => as_aux_lemma => k_is); (case y21_oha => as_aux_lemma => k_is); (case y21_ohn => as_aux_lemma => k_is); (case y21_otk => as_aux_lemma => k_is); (case y21_omr => as_aux_lemma => k_is); (case y21_oci => as_aux_lemma => k_is); (case y21_oct => as_aux_lemma => k_is))); (case y21_a18 => as_aux_lemma => k_is); (case y21_i18 => as_aux_lemma => k_is); (case y21_l18 => as_aux_lemma => k_is); (case y21_c18 => as_aux_lemma => k_is); (case y21_k18 => as_aux_lemma => k_is)))
    (case d_vanishing => (refine' My.at_vanishing KX G ?y22_a19 ?y22_l19 ?y22_c19 ?y22_k19; (case y22_a19 => as_aux_lemma => k_is); (case y22_l19 => as_aux_lemma => k_is); (case y22_c19 => as_aux_lemma => k_is); (case y22_k19 => as_aux_lemma => k_is)))
    (case d_combined_counts => (refine' My.at_combined_counts KX G ?y23_a20 ?y23_l20 ?y23_c20 ?y23_k20; (case y23_a20 => as_aux_lemma => k_is); (case y23_l20 => as_aux_lemma => k_is); (case y23_c20 => as_aux_lemma => k_is); (case y23_k20 => as_aux_lemma => k_is)))
    (case d_Count_equal => (refine' My.at_Count_equal ?y24_a21 ?y24_i21 ?y24_l21 ?y24_c21 ?y24_k21; (case y24_a21 => as_aux_lemma => k_is); (case y24_i21 => as_aux_lemma => k_is); (case y24_l21 => as_aux_lemma => k_is); (case y24_c21 => as_aux_lemma => k_is); (case y24_k21 => as_aux_lemma => k_is)))
    (case d_polynomial => (refine' My.at_polynomial KX G ?y25_a22 ?y25_l22 ?y25_c22 ?y25_k22; (case y25_a22 => as_aux_lemma => k_is); (case y25_l22 => as_aux_lemma => k_is); (case y25_c22 => as_aux_lemma => k_is); (case y25_k22 => as_aux_lemma => k_is)))
    (case d_core => (refine' My.at_core KX G ?y26_a23 ?y26_l23 ?y26_c23 ?y26_k23; (case y26_a23 => as_aux_lemma => k_is); (case y26_l23 => as_aux_lemma => k_is); (case y26_c23 => as_aux_lemma => k_is); (case y26_k23 => as_aux_lemma => k_is)))
    (case d_conductor => (refine' My.at_conductor KX G ?y27_a24 ?y27_l24 ?y27_c24 ?y27_k24; (case y27_a24 => as_aux_lemma => k_is); (case y27_l24 => as_aux_lemma => k_is); (case y27_c24 => as_aux_lemma => k_is); (case y27_k24 => as_aux_lemma => k_is)))
    (case d_checked_modulus_signs => (refine' My.at_checked_modulus_signs KX G ?y28_a25 ?y28_l25 ?y28_c25 ?y28_k25; (case y28_a25 => as_aux_lemma => k_is); (case y28_l25 => as_aux_lemma => k_is); (case y28_c25 => as_aux_lemma => k_is); (case y28_k25 => as_aux_lemma => k_is)))
    (case d_factor_of => (refine' My.at_factor_of KX G ?y29_a26 ?y29_l26 ?y29_c26 ?y29_k26; (case y29_a26 => as_aux_lemma => k_is); (case y29_l26 => as_aux_lemma => k_is); (case y29_c26 => as_aux_lemma => k_is); (case y29_k26 => as_aux_lemma => k_is)))
    (case d_sign => (refine' My.at_sign KX G ?y30_a27 ?y30_l27 ?y30_c27 ?y30_k27; (case y30_a27 => as_aux_lemma => k_is); (case y30_l27 => as_aux_lemma => k_is); (case y30_c27 => as_aux_lemma => k_is); (case y30_k27 => as_aux_lemma => k_is)))
    (case d_sign_by_rest => (refine' My.at_sign_by_rest KX G ?y31_a28 ?y31_l28 ?y31_c28 ?y31_k28; (case y31_a28 => as_aux_lemma => k_is); (case y31_l28 => as_aux_lemma => k_is); (case y31_c28 => as_aux_lemma => k_is); (case y31_k28 => as_aux_lemma => k_is)))
    (case d_checked_clock => (refine' My.at_checked_clock KX G ?y32_a29 ?y32_l29 ?y32_c29 ?y32_k29; (case y32_a29 => as_aux_lemma => k_is); (case y32_l29 => as_aux_lemma => k_is); (case y32_c29 => as_aux_lemma => k_is); (case y32_k29 => as_aux_lemma => k_is)))
    (case d_inverse => (refine' My.at_inverse KX G ?y33_a30 ?y33_l30 ?y33_c30 ?y33_k30; (case y33_a30 => as_aux_lemma => k_is); (case y33_l30 => as_aux_lemma => k_is); (case y33_c30 => as_aux_lemma => k_is); (case y33_k30 => as_aux_lemma => k_is)))
    (case d_times_pair => (refine' My.at_times_pair KX G ?y34_a31 ?y34_l31 ?y34_c31 ?y34_k31; (case y34_a31 => as_aux_lemma => k_is); (case y34_l31 => as_aux_lemma => k_is); (case y34_c31 => as_aux_lemma => k_is); (case y34_k31 => as_aux_lemma => k_is)))
    (case d_some_root => (refine' My.at_some_root KX G ?y35_a32 ?y35_l32 ?y35_c32 ?y35_k32; (case y35_a32 => as_aux_lemma => k_is); (case y35_l32 => as_aux_lemma => k_is); (case y35_c32 => as_aux_lemma => k_is); (case y35_k32 => as_aux_lemma => k_is)))
    (case d_root => (refine' My.at_root KX G ?y36_a33 ?y36_l33 ?y36_c33 ?y36_k33; (case y36_a33 => as_aux_lemma => k_is); (case y36_l33 => as_aux_lemma => k_is); (case y36_c33 => as_aux_lemma => k_is); (case y36_k33 => as_aux_lemma => k_is)))
    (case d_roots => (refine' My.at_roots KX G ?y37_a34 ?y37_l34 ?y37_c34 ?y37_k34; (case y37_a34 => as_aux_lemma => k_is); (case y37_l34 => as_aux_lemma => k_is); (case y37_c34 => as_aux_lemma => k_is); (case y37_k34 => as_aux_lemma => k_is)))
    (case d_how_many => (refine' My.at_how_many KX G ?y38_a35 ?y38_l35 ?y38_c35 ?y38_k35; (case y38_a35 => as_aux_lemma => k_is); (case y38_l35 => as_aux_lemma => k_is); (case y38_c35 => as_aux_lemma => k_is); (case y38_k35 => as_aux_lemma => k_is)))
    (case d_conic_at => (refine' My.at_conic_at KX G ?y39_a36 ?y39_l36 ?y39_c36 ?y39_k36; (case y39_a36 => as_aux_lemma => k_is); (case y39_l36 => as_aux_lemma => k_is); (case y39_c36 => as_aux_lemma => k_is); (case y39_k36 => as_aux_lemma => k_is)))
    (case d_conic => (refine' My.at_conic KX G ?y40_a37 ?y40_l37 ?y40_c37 ?y40_k37; (case y40_a37 => as_aux_lemma => k_is); (case y40_l37 => as_aux_lemma => k_is); (case y40_c37 => as_aux_lemma => k_is); (case y40_k37 => as_aux_lemma => k_is)))
    (case d_three => (refine' My.at_three KX G ?y41_a38 ?y41_l38 ?y41_c38 ?y41_k38; (case y41_a38 => as_aux_lemma => k_is); (case y41_l38 => as_aux_lemma => k_is); (case y41_c38 => as_aux_lemma => k_is); (case y41_k38 => as_aux_lemma => k_is)))
    (case d_solutions => (refine' My.at_solutions KX G ?y42_a39 ?y42_l39 ?y42_c39 ?y42_k39; (case y42_a39 => as_aux_lemma => k_is); (case y42_l39 => as_aux_lemma => k_is); (case y42_c39 => as_aux_lemma => k_is); (case y42_k39 => as_aux_lemma => k_is)))
    (case d_neighbours => (refine' My.at_neighbours KX G ?y43_a40 ?y43_l40 ?y43_c40 ?y43_k40; (case y43_a40 => as_aux_lemma => k_is); (case y43_l40 => as_aux_lemma => k_is); (case y43_c40 => as_aux_lemma => k_is); (case y43_k40 => as_aux_lemma => k_is)))
    (case d_Primes_contains => (refine' My.at_Primes_contains ?y44_a41 ?y44_i41 ?y44_l41 ?y44_c41 ?y44_k41; (case y44_a41 => as_aux_lemma => k_is); (case y44_i41 => as_aux_lemma => k_is); (case y44_l41 => as_aux_lemma => k_is); (case y44_c41 => as_aux_lemma => k_is); (case y44_k41 => as_aux_lemma => k_is)))
    (case d_indicator => (refine' My.at_indicator KX G ?y45_a42 ?y45_l42 ?y45_c42 ?y45_k42; (case y45_a42 => as_aux_lemma => k_is); (case y45_l42 => as_aux_lemma => k_is); (case y45_c42 => as_aux_lemma => k_is); (case y45_k42 => as_aux_lemma => k_is)))
    (case d_law_count => (refine' My.at_law_count KX G ?y46_a43 ?y46_l43 ?y46_c43 ?y46_k43; (case y46_a43 => as_aux_lemma => k_is); (case y46_l43 => as_aux_lemma => k_is); (case y46_c43 => as_aux_lemma => k_is); (case y46_k43 => as_aux_lemma => k_is)))
    (case d_law_equal => (refine' My.at_law_equal KX G ?y47_a44 ?y47_l44 ?y47_c44 ?y47_k44; (case y47_a44 => as_aux_lemma => k_is); (case y47_l44 => as_aux_lemma => k_is); (case y47_c44 => as_aux_lemma => k_is); (case y47_k44 => as_aux_lemma => k_is)))
    (case d_law_wide => (refine' My.at_law_wide KX G ?y48_a45 ?y48_l45 ?y48_c45 ?y48_k45; (case y48_a45 => as_aux_lemma => k_is); (case y48_l45 => as_aux_lemma => k_is); (case y48_c45 => as_aux_lemma => k_is); (case y48_k45 => as_aux_lemma => k_is)))
    (case d_Count_add => (refine' My.at_Count_add ?y49_a46 ?y49_i46 ?y49_l46 ?y49_c46 ?y49_k46; (case y49_a46 => as_aux_lemma => k_is); (case y49_i46 => as_aux_lemma => k_is); (case y49_l46 => as_aux_lemma => k_is); (case y49_c46 => as_aux_lemma => k_is); (case y49_k46 => as_aux_lemma => k_is)))
    (case d_Count_sub => (refine' My.at_Count_sub ?y50_a47 ?y50_i47 ?y50_l47 ?y50_c47 ?y50_k47; (case y50_a47 => as_aux_lemma => k_is); (case y50_i47 => as_aux_lemma => k_is); (case y50_l47 => as_aux_lemma => k_is); (case y50_c47 => as_aux_lemma => k_is); (case y50_k47 => as_aux_lemma => k_is)))
    (case d_Primes_every => (refine' My.at_Primes_every ?y51_cr48 ?y51_cg48 ?y51_cm48 ?y51_cc48 ?y51_cf48 ?y51_l48 ?y51_c48 ?y51_k48; (case y51_cr48 => as_aux_lemma => k_is); (case y51_cg48 => as_aux_lemma => k_is); (case y51_cm48 => as_aux_lemma => k_is); (case y51_cc48 => as_aux_lemma => k_is); (case y51_cf48 => as_aux_lemma => k_is); (case y51_l48 => as_aux_lemma => k_is); (case y51_c48 => as_aux_lemma => k_is); (case y51_k48 => as_aux_lemma => k_is)))
    (case d_Primes_eq => (refine' My.at_Primes_eq ?y52_a49 ?y52_i49 ?y52_l49 ?y52_c49 ?y52_k49; (case y52_a49 => as_aux_lemma => k_is); (case y52_i49 => as_aux_lemma => k_is); (case y52_l49 => as_aux_lemma => k_is); (case y52_c49 => as_aux_lemma => k_is); (case y52_k49 => as_aux_lemma => k_is)))
    (case d_Count_eq => (refine' My.at_Count_eq ?y53_a50 ?y53_i50 ?y53_l50 ?y53_c50 ?y53_k50; (case y53_a50 => as_aux_lemma => k_is); (case y53_i50 => as_aux_lemma => k_is); (case y53_l50 => as_aux_lemma => k_is); (case y53_c50 => as_aux_lemma => k_is); (case y53_k50 => as_aux_lemma => k_is)))
    (case d_law_minus => (refine' My.at_law_minus KX G ?y54_a51 ?y54_l51 ?y54_c51 ?y54_k51; (case y54_a51 => as_aux_lemma => k_is); (case y54_l51 => as_aux_lemma => k_is); (case y54_c51 => as_aux_lemma => k_is); (case y54_k51 => as_aux_lemma => k_is)))
    (case d_law_same => (refine' My.at_law_same KX G ?y55_a52 ?y55_l52 ?y55_c52 ?y55_k52; (case y55_a52 => as_aux_lemma => k_is); (case y55_l52 => as_aux_lemma => k_is); (case y55_c52 => as_aux_lemma => k_is); (case y55_k52 => as_aux_lemma => k_is)))
    (case d_Primes_only => (refine' My.at_Primes_only ?y56_cr53 ?y56_cg53 ?y56_cm53 ?y56_cc53 ?y56_cf53 ?y56_l53 ?y56_c53 ?y56_k53; (case y56_cr53 => as_aux_lemma => k_is); (case y56_cg53 => as_aux_lemma => k_is); (case y56_cm53 => as_aux_lemma => k_is); (case y56_cc53 => as_aux_lemma => k_is); (case y56_cf53 => as_aux_lemma => k_is); (case y56_l53 => as_aux_lemma => k_is); (case y56_c53 => as_aux_lemma => k_is); (case y56_k53 => as_aux_lemma => k_is)))
    (case d_law_great_prime => (refine' My.at_law_great_prime KX G ?y57_a54 ?y57_l54 ?y57_c54 ?y57_k54; (case y57_a54 => as_aux_lemma => k_is); (case y57_l54 => as_aux_lemma => k_is); (case y57_c54 => as_aux_lemma => k_is); (case y57_k54 => as_aux_lemma => k_is)))
    (case d_odd_divisors => (refine' My.at_odd_divisors KX G ?y58_a55 ?y58_l55 ?y58_c55 ?y58_k55; (case y58_a55 => as_aux_lemma => k_is); (case y58_l55 => as_aux_lemma => k_is); (case y58_c55 => as_aux_lemma => k_is); (case y58_k55 => as_aux_lemma => k_is)))
    (case d_Primes_by_rest => (refine' My.at_Primes_by_rest ?y59_cr56 ?y59_cg56 ?y59_cm56 ?y59_cc56 ?y59_cf56 ?y59_l56 ?y59_c56 ?y59_k56; (case y59_cr56 => as_aux_lemma => k_is); (case y59_cg56 => as_aux_lemma => k_is); (case y59_cm56 => as_aux_lemma => k_is); (case y59_cc56 => as_aux_lemma => k_is); (case y59_cf56 => as_aux_lemma => k_is); (case y59_l56 => as_aux_lemma => k_is); (case y59_c56 => as_aux_lemma => k_is); (case y59_k56 => as_aux_lemma => k_is)))
    (case d_joined_answer => (refine' My.at_joined_answer KX G ?y60_a57 ?y60_l57 ?y60_c57 ?y60_k57; (case y60_a57 => as_aux_lemma => k_is); (case y60_l57 => as_aux_lemma => k_is); (case y60_c57 => as_aux_lemma => k_is); (case y60_k57 => as_aux_lemma => k_is)))
    (case d_combined_values => (refine' My.at_combined_values KX G ?y61_a58 ?y61_l58 ?y61_c58 ?y61_k58; (case y61_a58 => as_aux_lemma => k_is); (case y61_l58 => as_aux_lemma => k_is); (case y61_c58 => as_aux_lemma => k_is); (case y61_k58 => as_aux_lemma => k_is)))
    (case d_Primes_and => (refine' My.at_Primes_and ?y62_a59 ?y62_i59 ?y62_l59 ?y62_c59 ?y62_k59; (case y62_a59 => as_aux_lemma => k_is); (case y62_i59 => as_aux_lemma => k_is); (case y62_l59 => as_aux_lemma => k_is); (case y62_c59 => as_aux_lemma => k_is); (case y62_k59 => as_aux_lemma => k_is)))
    (case d_Primes_invert => (refine' My.at_Primes_invert ?y63_a60 ?y63_i60 ?y63_l60 ?y63_c60 ?y63_k60; (case y63_a60 => as_aux_lemma => k_is); (case y63_i60 => as_aux_lemma => k_is); (case y63_l60 => as_aux_lemma => k_is); (case y63_c60 => as_aux_lemma => k_is); (case y63_k60 => as_aux_lemma => k_is)))
    (case d_law_is_prime => (refine' My.at_law_is_prime KX G ?y64_a61 ?y64_l61 ?y64_c61 ?y64_k61; (case y64_a61 => as_aux_lemma => k_is); (case y64_l61 => as_aux_lemma => k_is); (case y64_c61 => as_aux_lemma => k_is); (case y64_k61 => as_aux_lemma => k_is)))
    (case d_law_prime_from => (refine' My.at_law_prime_from KX G ?y65_a62 ?y65_l62 ?y65_c62 ?y65_k62; (case y65_a62 => as_aux_lemma => k_is); (case y65_l62 => as_aux_lemma => k_is); (case y65_c62 => as_aux_lemma => k_is); (case y65_k62 => as_aux_lemma => k_is)))
    (case d_law_far_primes => (refine' My.at_law_far_primes KX G ?y66_a63 ?y66_l63 ?y66_c63 ?y66_k63; (case y66_a63 => as_aux_lemma => k_is); (case y66_l63 => as_aux_lemma => k_is); (case y66_c63 => as_aux_lemma => k_is); (case y66_k63 => as_aux_lemma => k_is)))
    (case fi_Count => (refine' My.fi_Count ?y67_fa64 ?y67_fv64; (case y67_fa64 => as_aux_lemma => k_is); (case y67_fv64 => as_aux_lemma => k_is)))
    (case d_Count_call => (refine' My.at_Count_call ?y68_a64 ?y68_i64 ?y68_l64 ?y68_c64 ?y68_k64; (case y68_a64 => as_aux_lemma => k_is); (case y68_i64 => as_aux_lemma => k_is); (case y68_l64 => as_aux_lemma => k_is); (case y68_c64 => as_aux_lemma => k_is); (case y68_k64 => as_aux_lemma => k_is)))
    (case d_law_is_integer => (refine' My.at_law_is_integer KX G ?y69_a65 ?y69_l65 ?y69_c65 ?y69_k65; (case y69_a65 => as_aux_lemma => k_is); (case y69_l65 => as_aux_lemma => k_is); (case y69_c65 => as_aux_lemma => k_is); (case y69_k65 => as_aux_lemma => k_is)))
    (case d_law_draws => (refine' My.at_law_draws KX G ?y70_a66 ?y70_l66 ?y70_c66 ?y70_k66; (case y70_a66 => as_aux_lemma => k_is); (case y70_l66 => as_aux_lemma => k_is); (case y70_c66 => as_aux_lemma => k_is); (case y70_k66 => as_aux_lemma => k_is)))
    (case d_law_cell => (refine' My.at_law_cell KX G ?y71_a67 ?y71_l67 ?y71_c67 ?y71_k67; (case y71_a67 => as_aux_lemma => k_is); (case y71_l67 => as_aux_lemma => k_is); (case y71_c67 => as_aux_lemma => k_is); (case y71_k67 => as_aux_lemma => k_is)))
    (case gB => as_aux_lemma => k_is)
    (case rB => as_aux_lemma => k_is)
    (case aB => as_aux_lemma => k_is)
    (case iB => as_aux_lemma => k_is)
    (case r_BadModulus => (refine' My.er_BadModulus KX G ?y72_eg0 ?y72_ex0 ?y72_eb0 ?y72_es0 ?y72_ee0 ?y72_et0 ?y72_ek0 ?y72_ega0 ?y72_egg0 ?y72_eh0 ?y72_ei0 ?y72_eu0 ?y72_ef0 ?y72_ey0 ?y72_el0 ?y72_ec0 ?y72_ej0; (case y72_eg0 => as_aux_lemma => k_is); (case y72_ex0 => as_aux_lemma => k_is); (case y72_eb0 => as_aux_lemma => decide +kernel); (case y72_es0 => as_aux_lemma => k_is); (case y72_ee0 => as_aux_lemma => k_is); (case y72_et0 => as_aux_lemma => k_is); (case y72_ek0 => as_aux_lemma => k_is); (case y72_ega0 => as_aux_lemma => k_is); (case y72_egg0 => as_aux_lemma => k_is); (case y72_eh0 => as_aux_lemma => k_is); (case y72_ei0 => as_aux_lemma => k_is); (case y72_eu0 => as_aux_lemma => first | rfl | k_is); (case y72_ef0 => as_aux_lemma => k_is); (case y72_ey0 => as_aux_lemma => k_is); (case y72_el0 => as_aux_lemma => k_is); (case y72_ec0 => as_aux_lemma => k_is); (case y72_ej0 => as_aux_lemma => k_is)))
    (case en0_modulus => as_aux_lemma => k_is)
    (case r_BadPrime => (refine' My.er_BadPrime KX G ?y73_eg1 ?y73_ex1 ?y73_eb1 ?y73_es1 ?y73_ee1 ?y73_et1 ?y73_ek1 ?y73_ega1 ?y73_egg1 ?y73_eh1 ?y73_ei1 ?y73_eu1 ?y73_ef1 ?y73_ey1 ?y73_el1 ?y73_ec1 ?y73_ej1; (case y73_eg1 => as_aux_lemma => k_is); (case y73_ex1 => as_aux_lemma => k_is); (case y73_eb1 => as_aux_lemma => decide +kernel); (case y73_es1 => as_aux_lemma => k_is); (case y73_ee1 => as_aux_lemma => k_is); (case y73_et1 => as_aux_lemma => k_is); (case y73_ek1 => as_aux_lemma => k_is); (case y73_ega1 => as_aux_lemma => k_is); (case y73_egg1 => as_aux_lemma => k_is); (case y73_eh1 => as_aux_lemma => k_is); (case y73_ei1 => as_aux_lemma => k_is); (case y73_eu1 => as_aux_lemma => first | rfl | k_is); (case y73_ef1 => as_aux_lemma => k_is); (case y73_ey1 => as_aux_lemma => k_is); (case y73_el1 => as_aux_lemma => k_is); (case y73_ec1 => as_aux_lemma => k_is); (case y73_ej1 => as_aux_lemma => k_is)))
    (case en1_p => as_aux_lemma => k_is)
    (case r_BadRest => (refine' My.er_BadRest KX G ?y74_eg2 ?y74_ex2 ?y74_eb2 ?y74_es2 ?y74_ee2 ?y74_et2 ?y74_ek2 ?y74_ega2 ?y74_egg2 ?y74_eh2 ?y74_ei2 ?y74_eu2 ?y74_ef2 ?y74_ey2 ?y74_el2 ?y74_ec2 ?y74_ej2; (case y74_eg2 => as_aux_lemma => k_is); (case y74_ex2 => as_aux_lemma => k_is); (case y74_eb2 => as_aux_lemma => decide +kernel); (case y74_es2 => as_aux_lemma => k_is); (case y74_ee2 => as_aux_lemma => k_is); (case y74_et2 => as_aux_lemma => k_is); (case y74_ek2 => as_aux_lemma => k_is); (case y74_ega2 => as_aux_lemma => k_is); (case y74_egg2 => as_aux_lemma => k_is); (case y74_eh2 => as_aux_lemma => k_is); (case y74_ei2 => as_aux_lemma => k_is); (case y74_eu2 => as_aux_lemma => first | rfl | k_is); (case y74_ef2 => as_aux_lemma => k_is); (case y74_ey2 => as_aux_lemma => k_is); (case y74_el2 => as_aux_lemma => k_is); (case y74_ec2 => as_aux_lemma => k_is); (case y74_ej2 => as_aux_lemma => k_is)))
    (case en2_rest => as_aux_lemma => k_is)
    (case r_TooWide => (refine' My.er_TooWide KX G ?y75_eg3 ?y75_ex3 ?y75_eb3 ?y75_es3 ?y75_ee3 ?y75_et3 ?y75_ek3 ?y75_ega3 ?y75_egg3 ?y75_eh3 ?y75_ei3 ?y75_eu3 ?y75_ef3 ?y75_ey3 ?y75_el3 ?y75_ec3 ?y75_ej3; (case y75_eg3 => as_aux_lemma => k_is); (case y75_ex3 => as_aux_lemma => k_is); (case y75_eb3 => as_aux_lemma => decide +kernel); (case y75_es3 => as_aux_lemma => k_is); (case y75_ee3 => as_aux_lemma => k_is); (case y75_et3 => as_aux_lemma => k_is); (case y75_ek3 => as_aux_lemma => k_is); (case y75_ega3 => as_aux_lemma => k_is); (case y75_egg3 => as_aux_lemma => k_is); (case y75_eh3 => as_aux_lemma => k_is); (case y75_ei3 => as_aux_lemma => k_is); (case y75_eu3 => as_aux_lemma => first | rfl | k_is); (case y75_ef3 => as_aux_lemma => k_is); (case y75_ey3 => as_aux_lemma => k_is); (case y75_el3 => as_aux_lemma => k_is); (case y75_ec3 => as_aux_lemma => k_is); (case y75_ej3 => as_aux_lemma => k_is)))
    (case en3_modulus => as_aux_lemma => k_is)
    (case a68 => as_aux_lemma => k_is)
    (case l68 => as_aux_lemma => k_is)
    (case c68 => as_aux_lemma => k_is)
    (case k68 => as_aux_lemma => k_is)
#print axioms PySem.Challenge.cw_everyprime_k75_whole_counts_that_agree_holds
