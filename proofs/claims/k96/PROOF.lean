import PyProof.Rows.All
import Wide.All
import OpenK.AllK
import Wide.FinOn
import HandS.Base
import HandS.Call
import HandS.List
import HandS.Ends
import HandS.Words
import HandS.Wide
import HandS.WordsList
import HandS.Comp
import HandS.Exc
import HandS.ExcOwn
import HandS.TryOnly
import HandS.WordsExc
import HandS.ExcInit
import HandS.ExcField
import HandS.ClsMeth
import HandS.Codes
import HandS.NoneIn
import HandS.IsInst
import HandS.SortInts
import HandS.Style
import HandS.Star
import HandS.FStr
import HandS.Iter
import HandS.Dict
import HandS.Walk
import HandS.Strs
import HandS.SetBool
import HandS.SetIn
import HandS.TryMany
import HandS.More
import HandS.DictComp
import HandS.Deep
import KE.KOpsOwn
import HandS.Small
import HandS.TupAny
import HandS.Zip
import HandS.SortRule
import PySem.Challenge.RW_everyprime_k96_whole_ways_by_all_forms
set_option Elab.async false
set_option linter.all false
set_option maxRecDepth 100000
set_option maxHeartbeats 4000000
namespace My
section
open PySem PySem.W PyProof.Rows
set_option maxHeartbeats 0
open_top hd_top for PySem.Challenge.rw_everyprime_k96_whole_ways_by_all_forms
end
end My
namespace L2
open PySem PySem.Spec PyProof.Rows
/-- one step of a reading, found by its head -/
class Stp (G : Prop) (N : outParam Prop) : Prop where
  mp : N → G
/-! ### forgetting what was made on the way -/
/-- no dict with tuple keys is tracked -/
def noT : HO -> Bool
  | .dT _ => false
  | .frz _ u => noT u
  | _ => true
def NoT (H : Hp) : Prop := ∀ a o, H a = some o → noT o = true
theorem NoT.upd {H : Hp} {p : Addr} {o : HO} (n : NoT H) (h : noT o = true) : NoT (upd H p o) := fun a u e => by
  by_cases hb : a = p
  · subst hb
    rw [upd_same] at e
    cases e
    exact h
  · rw [upd_ne hb] at e
    exact n a u e
theorem obj_back {P : Program} {w : World} {H H' : Hp} {h h' : Heap} {a : Addr} : ∀ {o : HO}, noT o = true → ObjOk P w H' h' a o → ObjOk P w H h a o → ObjOk P w H h' a o := by
  intro o
  induction o with
  | dT kvs => intro n; cases n
  | frz ob u ih =>
    intro n x y
    exact ⟨x.1, ih n x.2 y.2⟩
  | ins C dx fs =>
    intro n x y
    exact ⟨y.1, x.2⟩
  | lst xs => intro n x y; exact x
  | tup xs => intro n x y; exact x
  | dK kvs => intro n x y; exact x
  | set S m => intro n x y; exact x
  | own z => intro n x y; exact x
  | xd fs => intro n x y; exact x
  | rng lo hi => intro n x y; exact x
  | tbl ps => intro n x y; exact x
  | met f z => intro n x y; exact x
  | ext phi => intro n x y; exact x
theorem hok_back {P : Program} {w : World} {H H' : Hp} {h h' : Heap} (n : NoT H) (x : HOk P w H' h') (y : HOk P w H h) (e : Same H H') : HOk P w H h' := fun a o q =>
  obj_back (n a o q) (x a o (e a o q)) (y a o q)
theorem Inv.forget {X : Cx} {pins pins' : List (Addr × Obj)} {σ σ' : St} {H H' : Hp} {s s' : Shared} (I : Inv X pins σ H s) (J : Inv X pins' σ' H' s') (e : Same H H') (n : NoT H) : Inv X pins' σ' H s' :=
  ⟨J.ok, J.os, J.bare, ⟨J.base.keep, J.base.slot, I.base.free, J.base.there, I.base.tups, I.base.frzs, I.base.tbls⟩, J.loc, J.cell, I.free, I.freeC,
    fun p hp => let ⟨a, b, c⟩ := J.pin p hp; ⟨a, e.free b, c⟩, hok_back n J.hok I.hok e, J.len⟩
/-- an expression whose making leaves things behind that nobody asks of -/
def tPure (t : TE) : TE := fun σ H Q => NoT H ∧ t σ H fun v H' => Same H H' ∧ Q v H
def tPureT (t : TT) : TT := fun σ H Q => NoT H ∧ t σ H fun b H' => Same H H' ∧ Q b H
theorem pt_pure {X : Cx} {e : Expr} {t : TT} (h : PT X e t) : PT X e (tPureT t) :=
  ⟨fun pins s σ H Q I ⟨n, q⟩ => thn (h.run pins s σ H _ I q) fun u s' ⟨H', J, sm, q'⟩ => ⟨H, I.forget J sm n, q'⟩⟩
theorem fn_forget {P : Program} {w : World} {K : PySem.W.Frag} {mg : Str → Option Value} {base : Heap} {CX : CXT} {k : Nat} {f : Addr} {fd : FuncData} {ps : List Str} {sp : Sp} (F : FnOk P w K mg base CX k f fd ps sp) :
    FnOk P w K mg base CX k f fd ps (fun vs H Q E => NoT H ∧ sp vs H (fun v H' => Same H H' ∧ Q v H) E) := by
  refine ⟨fun vs H Q E q => F.len vs H _ E q.2, fun A outer s H args us vs Q E hr he hb hv hs => ?_⟩
  refine codeAny_mono (F.run A outer s H args us vs _ E hr he hb hv hs.2) fun r s' q => ?_
  cases r with
  | error er => exact q
  | ok fl =>
    cases fl with
    | ret u =>
      obtain ⟨v, H2, os2, bare2, un2, hok2, rv, sm, q2⟩ := q
      exact ⟨v, H, os2, bare2, ⟨un2.keep, un2.slot, fun _ _ _ n _ => n, un2.there, fun _ _ q => q, fun _ _ _ q => q, fun _ ps q => ⟨#[], by rw [q]; simp⟩⟩, hok_back hs.1 hok2 he.hok sm, rv, q2⟩
    | next => exact q
    | brk => exact q
    | cont => exact q
end L2
namespace L2
open PySem PySem.Spec PyProof.Rows
/-! ### operators in the forms that are used here -/
def CMulB (i j : Int) : Prop := CMul i j ∨ CMulW i j
theorem CMulB.ok {i j : Int} (h : CMulB i j) : IntMulOk i j := by
  rcases h with h | h
  · exact h.ok
  · exact h.ok
def CDivB (_ j : Int) : Prop := 0 < j ∧ j < 2 ^ 250 ∨ 0 < j ∧ j.natAbs < 2 ^ 9000
section
variable {X : Cx}
theorem op_mulB : OpR X (binaryOp .Mult) (rI CMulB fun i j => .int (i * j)) := opI fun _ _ _ _ _ _ _ hc q => mul_int q hc.ok
theorem CDivB.wide {i j : Int} (h : CDivB i j) : CDivW i j := by
  rcases h with ⟨h1, h2⟩ | ⟨h1, h2⟩
  · refine wide_div (b := 250) h1 ?_ (by decide) (by decide)
    have h3 : j = (j.natAbs : Int) := by omega
    have h4 : (j.natAbs : Int) < ((2 ^ 250 : Nat) : Int) := by
      rw [← h3, Int.natCast_pow]
      exact h2
    exact Int.ofNat_lt.mp h4
  · exact wide_div h1 h2 (by decide) (by decide)
theorem op_fdivB : OpR X (binaryOp .FloorDiv) (rI CDivB fun i j => .int (i / j)) := fun pins s σ H x y v u Q I rx ry ⟨i, j, e1, e2, hc, q⟩ =>
  op_fdivW pins s σ H x y v u Q I rx ry ⟨i, j, e1, e2, hc.wide, q⟩
end
/-! ### the readings, one lemma each -/
section
variable {σ : St} {H : Hp} {Q : VK} {R : Bool → Hp → Prop} {RA : List V → Hp → Prop} {K : PySem.W.Frag} {v x y z : V} {i j : Int} {ta tb tc te : TE} {tt uu : TT} {t t1 t2 u : TS} {tr : TA} {r : R2}
variable {nx : St → Hp → Prop} {rt : VK} {bk ct : St → Hp → Prop}
theorem rd_var {n : Nat} (h : σ[n]? = some (some v)) (q : Q v H) : tVar n σ H Q := ⟨v, h, q⟩
theorem rd_c (q : Q v H) : tC v σ H Q := q
instance st_c  : Stp (tC v σ H Q) (Q v H) := ⟨fun h => rd_c h⟩
theorem rd_op (h : ta σ H fun x H1 => tb σ H1 fun y H2 => r x y H2 Q) : tOp r ta tb σ H Q := h
instance st_op  : Stp (tOp r ta tb σ H Q) (ta σ H fun x H1 => tb σ H1 fun y H2 => r x y H2 Q) := ⟨fun h => rd_op h⟩
theorem rd_un {ru : V → Hp → VK → Prop} (h : ta σ H fun x H1 => ru x H1 Q) : tUn ru ta σ H Q := h
instance st_un {ru : V → Hp → VK → Prop} : Stp (tUn ru ta σ H Q) (ta σ H fun x H1 => ru x H1 Q) := ⟨fun h => rd_un h⟩
theorem rd_I {C : Int → Int → Prop} {g : Int → Int → V} (hc : C i j) (q : Q (g i j) H) : rI C g (.int i) (.int j) H Q := ⟨i, j, rfl, rfl, hc, q⟩
theorem rd_I0 {g : Int → Int → V} (q : Q (g i j) H) : rI0 g (.int i) (.int j) H Q := ⟨i, j, rfl, rfl, q⟩
instance st_I0 {g : Int → Int → V} : Stp (rI0 g (.int i) (.int j) H Q) (Q (g i j) H) := ⟨fun h => rd_I0 h⟩
theorem rd_U {g : Int → V} (q : Q (g i) H) : rU g (.int i) H Q := ⟨i, rfl, q⟩
instance st_U {g : Int → V} : Stp (rU g (.int i) H Q) (Q (g i) H) := ⟨fun h => rd_U h⟩
theorem rd_eqI (q : Q (.bl (decide (i = j))) H) : rEq (.int i) (.int j) H Q := ⟨rfl, by
  have e : decide (V.int i = V.int j) = decide (i = j) := decide_eq_decide.mpr ⟨fun z => V.int.inj z, fun z => by rw [z]⟩
  rw [e]
  exact q⟩
instance st_eqI  : Stp (rEq (.int i) (.int j) H Q) (Q (.bl (decide (i = j))) H) := ⟨fun h => rd_eqI h⟩
theorem rd_neI (q : Q (.bl (!decide (i = j))) H) : rNe (.int i) (.int j) H Q := ⟨rfl, by
  have e : decide (V.int i = V.int j) = decide (i = j) := decide_eq_decide.mpr ⟨fun z => V.int.inj z, fun z => by rw [z]⟩
  rw [e]
  exact q⟩
instance st_neI  : Stp (rNe (.int i) (.int j) H Q) (Q (.bl (!decide (i = j))) H) := ⟨fun h => rd_neI h⟩
theorem rd_eqS {i j : Str} (q : Q (.bl (decide (i = j))) H) : rEq (.str i) (.str j) H Q := ⟨rfl, by
  have e : decide (V.str i = V.str j) = decide (i = j) := decide_eq_decide.mpr ⟨fun z => V.str.inj z, fun z => by rw [z]⟩
  rw [e]
  exact q⟩
instance st_eqS {i j : Str} : Stp (rEq (.str i) (.str j) H Q) (Q (.bl (decide (i = j))) H) := ⟨fun h => rd_eqS h⟩
theorem rd_neS {i j : Str} (q : Q (.bl (!decide (i = j))) H) : rNe (.str i) (.str j) H Q := ⟨rfl, by
  have e : decide (V.str i = V.str j) = decide (i = j) := decide_eq_decide.mpr ⟨fun z => V.str.inj z, fun z => by rw [z]⟩
  rw [e]
  exact q⟩
instance st_neS {i j : Str} : Stp (rNe (.str i) (.str j) H Q) (Q (.bl (!decide (i = j))) H) := ⟨fun h => rd_neS h⟩
theorem rd_eqB {i j : Bool} (q : Q (.bl (decide (i = j))) H) : rEq (.bl i) (.bl j) H Q := ⟨rfl, by
  have e : decide (V.bl i = V.bl j) = decide (i = j) := decide_eq_decide.mpr ⟨fun z => V.bl.inj z, fun z => by rw [z]⟩
  rw [e]
  exact q⟩
instance st_eqB {i j : Bool} : Stp (rEq (.bl i) (.bl j) H Q) (Q (.bl (decide (i = j))) H) := ⟨fun h => rd_eqB h⟩
theorem rd_neB {i j : Bool} (q : Q (.bl (!decide (i = j))) H) : rNe (.bl i) (.bl j) H Q := ⟨rfl, by
  have e : decide (V.bl i = V.bl j) = decide (i = j) := decide_eq_decide.mpr ⟨fun z => V.bl.inj z, fun z => by rw [z]⟩
  rw [e]
  exact q⟩
instance st_neB {i j : Bool} : Stp (rNe (.bl i) (.bl j) H Q) (Q (.bl (!decide (i = j))) H) := ⟨fun h => rd_neB h⟩
theorem rd_test (h : te σ H fun x H' => ∃ k, x = .bl k ∧ R k H') : tTest te σ H R := h
instance st_test  : Stp (tTest te σ H R) (te σ H fun x H' => ∃ k, x = .bl k ∧ R k H') := ⟨fun h => rd_test h⟩
theorem rd_B (h : te σ H fun x H' => ∃ k, x = .bl k ∧ R k H') : tB te σ H R := h
instance st_B  : Stp (tB te σ H R) (te σ H fun x H' => ∃ k, x = .bl k ∧ R k H') := ⟨fun h => rd_B h⟩
theorem rd_k {b : Bool} {P : Bool → Prop} (q : P b) : ∃ k, V.bl b = .bl k ∧ P k := ⟨b, rfl, q⟩
instance st_k {b : Bool} {P : Bool → Prop} : Stp (∃ k, V.bl b = .bl k ∧ P k) (P b) := ⟨fun h => rd_k h⟩
theorem rd_and (h : tt σ H fun c H1 => if c = true then uu σ H1 R else R false H1) : tAnd tt uu σ H R := h
instance st_and  : Stp (tAnd tt uu σ H R) (tt σ H fun c H1 => if c = true then uu σ H1 R else R false H1) := ⟨fun h => rd_and h⟩
theorem rd_or (h : tt σ H fun c H1 => if c = true then R true H1 else uu σ H1 R) : tOr tt uu σ H R := h
instance st_or  : Stp (tOr tt uu σ H R) (tt σ H fun c H1 => if c = true then R true H1 else uu σ H1 R) := ⟨fun h => rd_or h⟩
theorem rd_not (h : tt σ H fun c H1 => R (!c) H1) : tNot tt σ H R := h
instance st_not  : Stp (tNot tt σ H R) (tt σ H fun c H1 => R (!c) H1) := ⟨fun h => rd_not h⟩
theorem rd_andV (h : ta σ H fun x H1 => ∃ c, x = .bl c ∧ if c = true then tb σ H1 Q else Q (.bl false) H1) : tAndV ta tb σ H Q := h
instance st_andV  : Stp (tAndV ta tb σ H Q) (ta σ H fun x H1 => ∃ c, x = .bl c ∧ if c = true then tb σ H1 Q else Q (.bl false) H1) := ⟨fun h => rd_andV h⟩
theorem rd_orV (h : ta σ H fun x H1 => ∃ c, x = .bl c ∧ if c = true then Q (.bl true) H1 else tb σ H1 Q) : tOrV ta tb σ H Q := h
instance st_orV  : Stp (tOrV ta tb σ H Q) (ta σ H fun x H1 => ∃ c, x = .bl c ∧ if c = true then Q (.bl true) H1 else tb σ H1 Q) := ⟨fun h => rd_orV h⟩
theorem rd_notV (h : ta σ H fun x H1 => ∃ c, x = .bl c ∧ Q (.bl (!c)) H1) : tNotV ta σ H Q := h
instance st_notV  : Stp (tNotV ta σ H Q) (ta σ H fun x H1 => ∃ c, x = .bl c ∧ Q (.bl (!c)) H1) := ⟨fun h => rd_notV h⟩
theorem rd_ifx (h : tt σ H fun c H1 => if c = true then ta σ H1 Q else tb σ H1 Q) : tIf tt ta tb σ H Q := h
instance st_ifx  : Stp (tIf tt ta tb σ H Q) (tt σ H fun c H1 => if c = true then ta σ H1 Q else tb σ H1 Q) := ⟨fun h => rd_ifx h⟩
theorem rd_chain {r' : R2} (h : ta σ H fun x H1 => tb σ H1 fun y H2 => r x y H2 fun z H3 => ∃ k, z = .bl k ∧ (if k = true then tc σ H3 fun w' H4 => r' y w' H4 Q else Q (.bl false) H3)) : tChain r r' ta tb tc σ H Q := h
instance st_chain {r' : R2} : Stp (tChain r r' ta tb tc σ H Q) (ta σ H fun x H1 => tb σ H1 fun y H2 => r x y H2 fun z H3 => ∃ k, z = .bl k ∧ (if k = true then tc σ H3 fun w' H4 => r' y w' H4 Q else Q (.bl false) H3)) := ⟨fun h => rd_chain h⟩
theorem rd_nil (q : RA [] H) : tNil σ H RA := q
instance st_nil  : Stp (tNil σ H RA) (RA [] H) := ⟨fun h => rd_nil h⟩
theorem rd_cons (h : ta σ H fun x H1 => tr σ H1 fun xs H2 => RA (x :: xs) H2) : tCons ta tr σ H RA := h
instance st_cons  : Stp (tCons ta tr σ H RA) (ta σ H fun x H1 => tr σ H1 fun xs H2 => RA (x :: xs) H2) := ⟨fun h => rd_cons h⟩
theorem rd_tup (h : tr σ H fun xs H1 => xs.length ≤ sizeLine ∧ ∀ p, H1 p = none → Q (.ref p) (upd H1 p (.tup xs))) : tTup tr σ H Q := h
instance st_tup  : Stp (tTup tr σ H Q) (tr σ H fun xs H1 => xs.length ≤ sizeLine ∧ ∀ p, H1 p = none → Q (.ref p) (upd H1 p (.tup xs))) := ⟨fun h => rd_tup h⟩
theorem rd_lst (h : tr σ H fun xs H1 => xs.length ≤ sizeLine ∧ ∀ p, H1 p = none → Q (.ref p) (upd H1 p (.lst xs))) : tLst tr σ H Q := h
instance st_lst  : Stp (tLst tr σ H Q) (tr σ H fun xs H1 => xs.length ≤ sizeLine ∧ ∀ p, H1 p = none → Q (.ref p) (upd H1 p (.lst xs))) := ⟨fun h => rd_lst h⟩
theorem rd_pure (n : NoT H) (h : te σ H fun v H' => Same H H' ∧ Q v H) : tPure te σ H Q := ⟨n, h⟩
theorem rd_pureT (n : NoT H) (h : tt σ H fun v H' => Same H H' ∧ R v H) : tPureT tt σ H R := ⟨n, h⟩
theorem rd_call {sp : Sp} {E : XK} (h : tr σ H fun vs H1 => sp vs H1 Q E) : tCall sp [] E tr σ H Q := by
  show tr σ H fun vs H1 => sp (vs ++ []) H1 Q E
  simp only [List.append_nil]
  exact h
instance st_call {sp : Sp} {E : XK} : Stp (tCall sp [] E tr σ H Q) (tr σ H fun vs H1 => sp vs H1 Q E) := ⟨fun h => rd_call h⟩
theorem rd_cb {rr : List V → Hp → VK → Prop} (h : tr σ H fun vs H1 => rr vs H1 Q) : tCB rr tr σ H Q := h
instance st_cb {rr : List V → Hp → VK → Prop} : Stp (tCB rr tr σ H Q) (tr σ H fun vs H1 => rr vs H1 Q) := ⟨fun h => rd_cb h⟩
/-! statements -/
theorem rd_seq (h : t ⟨u ⟨nx, rt, bk, ct⟩, rt, bk, ct⟩ σ H) : tSeq t u ⟨nx, rt, bk, ct⟩ σ H := h
instance st_seq  : Stp (tSeq t u ⟨nx, rt, bk, ct⟩ σ H) (t ⟨u ⟨nx, rt, bk, ct⟩, rt, bk, ct⟩ σ H) := ⟨fun h => rd_seq h⟩
theorem rd_next (q : nx σ H) : tNext ⟨nx, rt, bk, ct⟩ σ H := q
instance st_next  : Stp (tNext ⟨nx, rt, bk, ct⟩ σ H) (nx σ H) := ⟨fun h => rd_next h⟩
theorem rd_break (q : bk σ H) : tBreak ⟨nx, rt, bk, ct⟩ σ H := q
instance st_break  : Stp (tBreak ⟨nx, rt, bk, ct⟩ σ H) (bk σ H) := ⟨fun h => rd_break h⟩
theorem rd_cont (q : ct σ H) : tCont ⟨nx, rt, bk, ct⟩ σ H := q
instance st_cont  : Stp (tCont ⟨nx, rt, bk, ct⟩ σ H) (ct σ H) := ⟨fun h => rd_cont h⟩
theorem rd_ret (h : te σ H rt) : tRet te ⟨nx, rt, bk, ct⟩ σ H := h
instance st_ret  : Stp (tRet te ⟨nx, rt, bk, ct⟩ σ H) (te σ H rt) := ⟨fun h => rd_ret h⟩
theorem rd_retN (h : rt .non H) : tRetN ⟨nx, rt, bk, ct⟩ σ H := h
instance st_retN  : Stp (tRetN ⟨nx, rt, bk, ct⟩ σ H) (rt .non H) := ⟨fun h => rd_retN h⟩
theorem rd_drop (h : te σ H fun _ H1 => nx σ H1) : tDrop te ⟨nx, rt, bk, ct⟩ σ H := h
instance st_drop  : Stp (tDrop te ⟨nx, rt, bk, ct⟩ σ H) (te σ H fun _ H1 => nx σ H1) := ⟨fun h => rd_drop h⟩
theorem rd_asg {g : TG} (h : te σ H fun x H1 => g x σ H1 nx) : tAsg te g ⟨nx, rt, bk, ct⟩ σ H := h
instance st_asg {g : TG} : Stp (tAsg te g ⟨nx, rt, bk, ct⟩ σ H) (te σ H fun x H1 => g x σ H1 nx) := ⟨fun h => rd_asg h⟩
theorem rd_gname {n : Nat} {N : St → Hp → Prop} (q : N (σ.set n (some v)) H) : gName n v σ H N := q
instance st_gname {n : Nat} {N : St → Hp → Prop} : Stp (gName n v σ H N) (N (σ.set n (some v)) H) := ⟨fun h => rd_gname h⟩
theorem rd_ifS (h : tt σ H fun b H1 => if b = true then t1 ⟨nx, rt, bk, ct⟩ σ H1 else t2 ⟨nx, rt, bk, ct⟩ σ H1) : tIfS tt t1 t2 ⟨nx, rt, bk, ct⟩ σ H := h
instance st_ifS  : Stp (tIfS tt t1 t2 ⟨nx, rt, bk, ct⟩ σ H) (tt σ H fun b H1 => if b = true then t1 ⟨nx, rt, bk, ct⟩ σ H1 else t2 ⟨nx, rt, bk, ct⟩ σ H1) := ⟨fun h => rd_ifS h⟩
theorem rd_par {m n : Nat} (h : tr σ H fun vs H1 => ∃ v w, vs = [v, w] ∧ nx ((σ.set m (some v)).set n (some w)) H1) : tPar m n tr ⟨nx, rt, bk, ct⟩ σ H := h
instance st_par {m n : Nat} : Stp (tPar m n tr ⟨nx, rt, bk, ct⟩ σ H) (tr σ H fun vs H1 => ∃ v w, vs = [v, w] ∧ nx ((σ.set m (some v)).set n (some w)) H1) := ⟨fun h => rd_par h⟩
theorem rd_par2 {v w : V} {P : V → V → Prop} (q : P v w) : ∃ v' w', [v, w] = [v', w'] ∧ P v' w' := ⟨v, w, rfl, q⟩
instance st_par2 {v w : V} {P : V → V → Prop} : Stp (∃ v' w', [v, w] = [v', w'] ∧ P v' w') (P v w) := ⟨fun h => rd_par2 h⟩
theorem rd_augG {n : Nat} {x : V} {te : TE} {ti : TIp} (h : σ[n]? = some (some x)) (q : te σ H fun y H1 => ti x y H1 fun z H2 => nx (σ.set n (some z)) H2) : tAug n te ti ⟨nx, rt, bk, ct⟩ σ H := ⟨x, h, q⟩
theorem rd_ipI {f : Int → Int → Int} {i j : Int} {R : VK} (q : R (.int (f i j)) H) : ipI f (.int i) (.int j) H R := ⟨i, j, rfl, rfl, q⟩
instance st_ipI {f : Int → Int → Int} {i j : Int} {R : VK} : Stp (ipI f (.int i) (.int j) H R) (R (.int (f i j)) H) := ⟨fun h => rd_ipI h⟩
theorem rd_augC {n : Nat} {f : Int → Int → Int} (h : σ[n]? = some (some (.int i))) (q : nx (σ.set n (some (.int (f i j)))) H) : tAug n (tC (.int j)) (ipI f) ⟨nx, rt, bk, ct⟩ σ H := ⟨.int i, h, i, j, rfl, rfl, q⟩
/-! ifs -/
theorem rd_ite {p A B : Prop} [Decidable p] (h1 : p → A) (h2 : ¬ p → B) : if decide p = true then A else B := by
  by_cases h : p
  · rw [if_pos (decide_eq_true h)]
    exact h1 h
  · rw [if_neg (by rw [decide_eq_false h]; decide)]
    exact h2 h
theorem rd_iteN {p A B : Prop} [Decidable p] (h1 : ¬ p → A) (h2 : p → B) : if (!decide p) = true then A else B := by
  by_cases h : p
  · rw [if_neg (by rw [decide_eq_true h]; decide)]
    exact h2 h
  · rw [if_pos (by rw [decide_eq_false h]; decide)]
    exact h1 h
theorem rd_iteb {b : Bool} {A B : Prop} (h1 : b = true → A) (h2 : b = false → B) : if b = true then A else B := by
  cases b with
  | true => exact h1 rfl
  | false => exact h2 rfl
theorem rd_iteNT {A B : Prop} (h : B) : if (!true) = true then A else B := h
instance st_iteNT {A B : Prop} : Stp (if (!true) = true then A else B) (B) := ⟨fun h => rd_iteNT h⟩
theorem rd_iteNF {A B : Prop} (h : A) : if (!false) = true then A else B := h
instance st_iteNF {A B : Prop} : Stp (if (!false) = true then A else B) (A) := ⟨fun h => rd_iteNF h⟩
theorem rd_iteT {A B : Prop} (h : A) : if true = true then A else B := iteT h
instance st_iteT {A B : Prop} : Stp (if true = true then A else B) (A) := ⟨fun h => rd_iteT h⟩
theorem rd_iteF {A B : Prop} (h : B) : if false = true then A else B := iteF h
instance st_iteF {A B : Prop} : Stp (if false = true then A else B) (B) := ⟨fun h => rd_iteF h⟩
/-! while, for -/
def lBody (W : Nat → St → Hp → Prop) (m : Nat) (tb : TS) (nx : St → Hp → Prop) (rt : VK) : St → Hp → Prop := fun σ H =>
  ∃ N : St → Hp → Prop, (∀ σ' H', N σ' H' → ∃ m', m' < m ∧ W m' σ' H') ∧ tb ⟨N, rt, nx, N⟩ σ H
theorem rd_lBody {W : Nat → St → Hp → Prop} {m : Nat} (h : t ⟨fun σ' H' => ∃ m', m' < m ∧ W m' σ' H', rt, nx, fun σ' H' => ∃ m', m' < m ∧ W m' σ' H'⟩ σ H) : lBody W m t nx rt σ H := ⟨_, fun _ _ q => q, h⟩
instance st_lBody {W : Nat → St → Hp → Prop} {m : Nat} : Stp (lBody W m t nx rt σ H) (t ⟨fun σ' H' => ∃ m', m' < m ∧ W m' σ' H', rt, nx, fun σ' H' => ∃ m', m' < m ∧ W m' σ' H'⟩ σ H) := ⟨fun h => rd_lBody h⟩
theorem rd_while (W : Nat → St → Hp → Prop) (m0 : Nat) (h0 : W m0 σ H) (turn : ∀ m σ H, W m σ H → tt σ H fun b H1 => if b = true then lBody W m t nx rt σ H1 else nx σ H1) : tWhile tt t ⟨nx, rt, bk, ct⟩ σ H :=
  ⟨W, ⟨m0, h0⟩, fun m σ H w => turn m σ H w⟩
def fBody (J : It) (g : TG) (tb : TS) (nx : St → Hp → Prop) (rt : VK) : St → Hp → Prop := fun σ H => ∃ W : Nat → Nat → St → Hp → Prop, (∃ m, W 0 m σ H) ∧ ∀ i m σ H, W i m σ H →
  (J.stop i H ∧ nx σ H) ∨ (J.go i H ∧ ∃ N : St → Hp → Prop, (∀ σ' H', N σ' H' → ∃ m', m' < m ∧ W (i + 1) m' σ' H') ∧ ∀ x H', J.yld i H x H' → g x σ H' fun σ2 H2 => tb ⟨N, rt, nx, N⟩ σ2 H2)
theorem rd_for {wi : TI} {g : TG} (h : wi σ H fun J H1 => fBody J g t nx rt σ H1) : tFor wi g t ⟨nx, rt, bk, ct⟩ σ H := h
instance st_for {wi : TI} {g : TG} : Stp (tFor wi g t ⟨nx, rt, bk, ct⟩ σ H) (wi σ H fun J H1 => fBody J g t nx rt σ H1) := ⟨fun h => rd_for h⟩
theorem rd_forR {lo : Int} {n : Nat} {g : TG} (Pv : Nat → St → Hp → Prop) (h0 : Pv 0 σ H)
    (hs : ∀ i σ H, i < n → Pv i σ H → g (.int (lo + i)) σ H fun σ2 H2 => t ⟨Pv (i + 1), rt, nx, Pv (i + 1)⟩ σ2 H2) (hd : ∀ σ H, Pv n σ H → nx σ H) : fBody (Itr lo n) g t nx rt σ H :=
  for_range (D := ⟨nx, rt, fun _ _ => False, fun _ _ => False⟩) Pv h0 hs hd
theorem rd_forL {a : Addr} {xs : List V} {g : TG} (Pv : Nat → St → Hp → Prop) (h0 : Pv 0 σ H) (hl : ∀ i σ H, i ≤ xs.length → Pv i σ H → SqL K H a xs)
    (hs : ∀ i x σ H, xs[i]? = some x → Pv i σ H → g x σ H fun σ2 H2 => t ⟨Pv (i + 1), rt, nx, Pv (i + 1)⟩ σ2 H2) (hd : ∀ σ H, Pv xs.length σ H → nx σ H) : fBody (Itl K a) g t nx rt σ H :=
  for_list (D := ⟨nx, rt, fun _ _ => False, fun _ _ => False⟩) Pv h0 hl hs hd
theorem rd_ixL {p : Addr} {xs : List V} (h : SqL K H p xs) (ha : atI xs i = some v) (q : Q v H) : rIxL K (.ref p) (.int i) H Q := ⟨p, xs, i, v, rfl, rfl, h, ha, q⟩
theorem rd_ixT {p : Addr} {xs : List V} (h : SqT K H p xs) (ha : atI xs i = some v) (q : Q v H) : rIxT K (.ref p) (.int i) H Q := ⟨p, xs, i, v, rfl, rfl, h, ha, q⟩
end
theorem same_new {H : Hp} {p : Addr} {o : HO} (h : H p = none) : Same H (upd H p o) := fun b x e => by
  rw [upd_ne (ne_of_none e h)]
  exact e
end L2
namespace L2
open PySem PySem.Spec PyProof.Rows
section
variable {σ : St} {H : Hp} {Q : VK} {K : PySem.W.Frag} {v : V} {N : St → Hp → Prop} {S : Hp → Prop}
theorem rd_gsub {to ti : TE} {t : TSet} (h : to σ H fun o H1 => ti σ H1 fun i H2 => t o i v H2 fun H3 => N σ H3) : gSub to ti t v σ H N := h
instance st_gsub {to ti : TE} {t : TSet} : Stp (gSub to ti t v σ H N) (to σ H fun o H1 => ti σ H1 fun i H2 => t o i v H2 fun H3 => N σ H3) := ⟨fun h => rd_gsub h⟩
theorem rd_setL {p : Addr} {xs : List V} {k : Int} {j : Nat} (h : H p = some (.lst xs)) (hj : ixN xs.length k = some j) (q : S (upd H p (.lst (xs.set j v)))) : rSetL (.ref p) (.int k) v H S := ⟨p, xs, k, j, rfl, rfl, h, hj, q⟩
end
end L2
namespace L2
open PySem PySem.Spec PyProof.Rows
section
variable {σ : St} {H : Hp} {Q : VK} {K : PySem.W.Frag} {v x y : V} {N : St → Hp → Prop} {S : Hp → Prop} {p : Addr} {o : HO}
theorem rd_new {n : Nat} {F : Addr → Prop} (h : n ≤ sizeLine) (q : ∀ p, H p = none → F p) : n ≤ sizeLine ∧ ∀ p, H p = none → F p := ⟨h, q⟩
theorem rd_back {P : Prop} (hp : H p = none) (q : P) : Same H (upd H p o) ∧ P := ⟨same_new hp, q⟩
theorem rd_backR {P : Prop} (q : P) : Same H H ∧ P := ⟨Same.refl H, q⟩
instance st_backR {P : Prop} : Stp (Same H H ∧ P) (P) := ⟨fun h => rd_backR h⟩
theorem inV2 {i a b : Int} : inV (.int i) [.int a, .int b] = decide (i = a ∨ i = b) := by
  simp only [inV, eqV, List.any_cons, List.any_nil, Bool.or_false]
  by_cases h1 : i = a
  · subst h1
    simp
  · by_cases h2 : i = b
    · subst h2
      simp
    · have e1 : (a == i) = false := by simpa using Ne.symm h1
      have e2 : (b == i) = false := by simpa using Ne.symm h2
      rw [e1, e2]
      simp [h1, h2]
theorem rd_in2 {i a b : Int} (q : Q (.bl (decide (i = a ∨ i = b))) (upd H p (.tup [.int a, .int b]))) : rIn K false (.int i) (.ref p) (upd H p (.tup [.int a, .int b])) Q :=
  ⟨p, _, rfl, .inr (SqT.of upd_same), rfl, rfl, by
    show Q (.bl (inV (.int i) [.int a, .int b])) _
    rw [inV2]
    exact q⟩
instance st_in2 {i a b : Int} : Stp (rIn K false (.int i) (.ref p) (upd H p (.tup [.int a, .int b])) Q) (Q (.bl (decide (i = a ∨ i = b))) (upd H p (.tup [.int a, .int b]))) := ⟨fun h => rd_in2 h⟩
theorem rd_gtup {a : Addr} {xs : List V} {n : Nat} {t : TGs} (h : SqT K H a xs) (hn : xs.length = n) (q : t xs σ H N) : gTup K n t (.ref a) σ H N := ⟨a, xs, rfl, h, hn, q⟩
theorem rd_gcons {t : TG} {u : TGs} {xs : List V} (q : t x σ H fun σ' H' => u xs σ' H' N) : gCons t u (x :: xs) σ H N := ⟨x, xs, rfl, q⟩
instance st_gcons {t : TG} {u : TGs} {xs : List V} : Stp (gCons t u (x :: xs) σ H N) (t x σ H fun σ' H' => u xs σ' H' N) := ⟨fun h => rd_gcons h⟩
theorem rd_gnil (q : N σ H) : gNil [] σ H N := ⟨rfl, q⟩
instance st_gnil  : Stp (gNil [] σ H N) (N σ H) := ⟨fun h => rd_gnil h⟩
theorem rd_bm {T : String} {r : V → List V → Hp → VK → Prop} {to : TE} {t : TA} (h : to σ H fun x H1 => tyV K T x H1 ∧ t σ H1 fun xs H2 => r x xs H2 Q) : tBM K T r to t σ H Q := h
instance st_bm {T : String} {r : V → List V → Hp → VK → Prop} {to : TE} {t : TA} : Stp (tBM K T r to t σ H Q) (to σ H fun x H1 => tyV K T x H1 ∧ t σ H1 fun xs H2 => r x xs H2 Q) := ⟨fun h => rd_bm h⟩
theorem rd_bm0 {T : String} {r : V → List V → Hp → VK → Prop} {to : TE} (h : to σ H fun x H1 => tyV K T x H1 ∧ r x [] H1 Q) : tBM0 K T r to σ H Q := h
instance st_bm0 {T : String} {r : V → List V → Hp → VK → Prop} {to : TE} : Stp (tBM0 K T r to σ H Q) (to σ H fun x H1 => tyV K T x H1 ∧ r x [] H1 Q) := ⟨fun h => rd_bm0 h⟩
theorem rd_tyL {xs : List V} {P : Prop} (h : H p = some (.lst xs)) (q : P) : tyV K "list" (.ref p) H ∧ P := ⟨.inl ⟨rfl, _, SqL.of h⟩, q⟩
theorem rd_append {xs : List V} (h : H p = some (.lst xs)) (hl : xs.length < sizeLine) (q : Q .non (upd H p (.lst (xs ++ [y])))) : rAppend (.ref p) [y] H Q := ⟨p, xs, y, rfl, rfl, h, hl, q⟩
theorem same_upd2 {H' : Hp} {o1 : HO} (h : Same H H') (hp : H p = none) : Same H (upd H' p o1) := fun b x e => by
  rw [upd_ne (ne_of_none e hp)]
  exact h b x e
theorem upd_keep {q : Addr} {u : HO} (h : H p = some o) (hq : H q = none) : upd H q u p = some o := (upd_ne (ne_of_none h hq)).trans h
end
end L2
namespace L2
open PySem PySem.Spec PyProof.Rows
theorem rd_cut {σ : St} {H : Hp} {t u : TS} {nx : St → Hp → Prop} {rt : VK} {bk ct : St → Hp → Prop} (Mid : St → Hp → Prop) (h : t ⟨Mid, rt, bk, ct⟩ σ H) (q : ∀ σ' H', Mid σ' H' → u ⟨nx, rt, bk, ct⟩ σ' H') : C8.tCut t u ⟨nx, rt, bk, ct⟩ σ H := ⟨Mid, h, q⟩
/-! ### built-ins, by name -/
def rLenQ (K : PySem.W.Frag) : List V → Hp → VK → Prop := fun xs H Q => ∃ p ys, xs = [.ref p] ∧ (SqL K H p ys ∨ SqT K H p ys) ∧ Q (.int ys.length) H
def rAbs : List V → Hp → VK → Prop := fun xs H Q => ∃ i, xs = [.int i] ∧ Q (.int (if i < 0 then -i else i)) H
def rMax2 : List V → Hp → VK → Prop := fun xs H Q => ∃ i j, xs = [.int i, .int j] ∧ Q (.int (if j > i then j else i)) H
def rMin2 : List V → Hp → VK → Prop := fun xs H Q => ∃ i j, xs = [.int i, .int j] ∧ Q (.int (if j < i then j else i)) H
def rInt1 : List V → Hp → VK → Prop := fun xs H Q => (∃ i, xs = [.int i] ∧ Q (.int i) H) ∨ ∃ k, xs = [.bl k] ∧ Q (.int (if k then 1 else 0)) H
def rListOf (K : PySem.W.Frag) : List V → Hp → VK → Prop := fun xs H Q => ∃ p ys, xs = [.ref p] ∧ (SqL K H p ys ∨ SqT K H p ys) ∧ ∀ l, H l = none → Q (.ref l) (upd H l (.lst ys))
section
variable {X : Cx}
theorem c_len : CallR X (.builtin "len") (rLenQ X.K) := call_len_seq
theorem c_abs : CallR X (.builtin "abs") rAbs := call_abs
theorem c_max2 (hc : X.calm = true) : CallR X (.builtin "max") rMax2 := call_max2 hc
theorem c_min2 (hc : X.calm = true) : CallR X (.builtin "min") rMin2 := call_min2 hc
theorem c_int1 : CallR X (.type "int") rInt1 := call_int1
end
section
variable {H : Hp} {Q : VK} {K : PySem.W.Frag} {i j : Int} {p : Addr} {ys : List V}
theorem rd_abs (q : Q (.int (if i < 0 then -i else i)) H) : rAbs [.int i] H Q := ⟨i, rfl, q⟩
instance st_abs  : Stp (rAbs [.int i] H Q) (Q (.int (if i < 0 then -i else i)) H) := ⟨fun h => rd_abs h⟩
theorem rd_max2 (q : Q (.int (if j > i then j else i)) H) : rMax2 [.int i, .int j] H Q := ⟨i, j, rfl, q⟩
instance st_max2  : Stp (rMax2 [.int i, .int j] H Q) (Q (.int (if j > i then j else i)) H) := ⟨fun h => rd_max2 h⟩
theorem rd_min2 (q : Q (.int (if j < i then j else i)) H) : rMin2 [.int i, .int j] H Q := ⟨i, j, rfl, q⟩
instance st_min2  : Stp (rMin2 [.int i, .int j] H Q) (Q (.int (if j < i then j else i)) H) := ⟨fun h => rd_min2 h⟩
theorem rd_int (q : Q (.int i) H) : rInt1 [.int i] H Q := .inl ⟨i, rfl, q⟩
instance st_int  : Stp (rInt1 [.int i] H Q) (Q (.int i) H) := ⟨fun h => rd_int h⟩
theorem rd_intB {b : Bool} (q : Q (.int (if b then 1 else 0)) H) : rInt1 [.bl b] H Q := .inr ⟨b, rfl, q⟩
instance st_intB {b : Bool} : Stp (rInt1 [.bl b] H Q) (Q (.int (if b then 1 else 0)) H) := ⟨fun h => rd_intB h⟩
theorem rd_lenL (h : SqL K H p ys) (q : Q (.int ys.length) H) : rLenQ K [.ref p] H Q := ⟨p, ys, rfl, .inl h, q⟩
theorem rd_lenT (h : SqT K H p ys) (q : Q (.int ys.length) H) : rLenQ K [.ref p] H Q := ⟨p, ys, rfl, .inr h, q⟩
theorem rd_listOfL (h : SqL K H p ys) (q : ∀ l, H l = none → Q (.ref l) (upd H l (.lst ys))) : rListOf K [.ref p] H Q := ⟨p, ys, rfl, .inl h, q⟩
end
end L2
namespace L2
open PySem PySem.Spec PyProof.Rows
/-- a power with a written exponent -/
def rPowN (e : Nat) : R2 := fun x y H Q => ∃ i, x = .int i ∧ y = .int (e : Int) ∧ e ≤ 1000000 ∧ i.natAbs < 2 ^ 64 ∧ Q (.int (i ^ e)) H
theorem op_powN {X : Cx} (e : Nat) : OpR X (binaryOp .Pow) (rPowN e) := fun pins s σ H x y v u Q I rx ry ⟨i, e1, e2, h1, h2, q⟩ =>
  op_pow pins s σ H x y v u Q I rx ry ⟨i, (e : Int), e1, e2, ⟨Int.natCast_nonneg _, by omega, h2⟩, q⟩
theorem rd_powN {e : Nat} {i z : Int} {H : Hp} {Q : VK} (hz : z = (e : Int)) (h1 : e ≤ 1000000) (h2 : i.natAbs < 2 ^ 64) (q : Q (.int (i ^ e)) H) : rPowN e (.int i) (.int z) H Q := ⟨i, rfl, by rw [hz], h1, h2, q⟩
end L2
namespace L2
open PySem PySem.Spec PyProof.Rows
/-! ### a def of the text, and what it keeps -/
structure DefAt (K : PySem.W.Frag) (mg : Str → Option Value) (x : Str) (st : Stmt) (ps : List Str) : Prop where
  ex : ∃ (f : Addr) (fd : FuncData), Fun K x x st f fd ∧ mg x = some (.ref f) ∧ Binds K fd ps []
structure Def (P : Program) (w : World) (K : PySem.W.Frag) (mg : Str → Option Value) (base : Heap) (k : Nat) (x : Str) (ps : List Str) (sp : Sp) : Prop where
  ex : ∃ (f : Addr) (fd : FuncData), FnOk P w K mg base (L2.CX P w) k f fd ps sp ∧ mg x = some (.ref f) ∧ PySem.W.keepIn K (.ref f) = true ∧ Binds K fd ps []
section
variable {P : Program} {w : World} {K : PySem.W.Frag} {mg : Str → Option Value} {base : Heap}
theorem DefAt.ok {x : Str} {st : Stmt} {N ps : List Str} {k : Nat} {sp : Sp} (D : DefAt K mg x st ps) (S : FnScope N ps (defScope st)) (len : ∀ vs H Q E, sp vs H Q E → vs.length = ps.length)
    (hbody : ∀ (f : Addr) (cdv : Value) (A : Around) (outer : List Env) (s : Shared) (H : Hp) (vs : List V) (Q : VK) (E : XK), Room k (A.deeper (envOfC x (defScope st) s.heap.objs.size f cdv)) → sp vs H Q E →
      ∃ t, PSs (cxOf (L2.CX P w) P w K mg base N x (defScope st) f cdv A outer s H E) (defBody st) t ∧ t ⟨fun _ H' => Q .non H', Q, fun _ _ => False, fun _ _ => False⟩ (start N vs) H) : Def P w K mg base (k + 1) x ps sp := by
  obtain ⟨f, fd, F, g, b⟩ := D.ex
  exact ⟨f, fd, F.okX S len fun cdv A outer s H vs Q E hr h => hbody f cdv A outer s H vs Q E hr h, g, F.kp, b⟩
theorem Def.imp {k : Nat} {x : Str} {ps : List Str} {sp sp' : Sp} (D : Def P w K mg base k x ps sp) (h : ∀ vs H Q E, sp' vs H Q E → sp vs H Q E) : Def P w K mg base k x ps sp' := by
  obtain ⟨f, fd, F, g, kp, b⟩ := D.ex
  exact ⟨f, fd, F.imp h, g, kp, b⟩
theorem Def.mono {j k : Nat} {x : Str} {ps : List Str} {sp : Sp} (D : Def P w K mg base j x ps sp) (h : j ≤ k) : Def P w K mg base k x ps sp := by
  obtain ⟨f, fd, F, g, kp, b⟩ := D.ex
  exact ⟨f, fd, F.mono h, g, kp, b⟩
theorem Def.forget {k : Nat} {x : Str} {ps : List Str} {sp : Sp} (D : Def P w K mg base k x ps sp) : Def P w K mg base k x ps (fun vs H Q E => NoT H ∧ sp vs H (fun v H' => Same H H' ∧ Q v H) E) := by
  obtain ⟨f, fd, F, g, kp, b⟩ := D.ex
  exact ⟨f, fd, fn_forget F, g, kp, b⟩
end
section
variable {X : Cx}
theorem pe_d {k : Nat} {x : Str} {ps : List Str} {sp : Sp} {E : XK} {p pos : Pos} {e : Expr} {es : List Expr} {t : TA} (D : Def X.prog X.w X.K X.mg X.base k x ps sp) (hr : Room k X.A) (hx : Passes (L2.CX X.prog X.w) X E) (ha : PA X (e :: es) t) (hg : Gl X x := by rfl)
    (hd : (x == ("__debug__" : Str)) = false := by decide) (he : starEach (e :: es) X.env = (false, eval e X.env) :: starEach es X.env := by rfl) (hpl : (backTo pos (starEach es X.env)).any (·.1) = false := by rfl) :
    PE X (.Call (.Name x p) (e :: es) [] pos) (tCall sp [] E t) := by
  obtain ⟨f, fd, F, g, kp, b⟩ := D.ex
  exact pe_call F hr hg g kp b .nil hx ha hd he hpl
/-- within a try's body: what is raised is wished for at the caller's slots -/
theorem pe_dS {k : Nat} {x : Str} {ps : List Str} {sp : Sp} {W : WX} {p pos : Pos} {e : Expr} {es : List Expr} {t : TA} (D : Def X.prog X.w X.K X.mg X.base k x ps sp) (hr : Room k X.A) (tk : Takes X W) (ha : PA X (e :: es) t) (hg : Gl X x := by rfl)
    (hd : (x == ("__debug__" : Str)) = false := by decide) (he : starEach (e :: es) X.env = (false, eval e X.env) :: starEach es X.env := by rfl) (hpl : (backTo pos (starEach es X.env)).any (·.1) = false := by rfl) :
    PE X (.Call (.Name x p) (e :: es) [] pos) (tCallS sp (WE W) t) := by
  obtain ⟨f, fd, F, g, kp, b⟩ := D.ex
  exact pe_callS F hr hg g kp b (fun σ => passAt tk σ) ha hd he hpl
theorem rd_callS {sp : Sp} {W : WX} {tr : TA} {σ : St} {H : Hp} {Q : VK} (h : tr σ H fun vs H1 => sp vs H1 Q (WE W σ)) : tCallS sp (WE W) tr σ H Q := h
instance st_callS {sp : Sp} {W : WX} {tr : TA} {σ : St} {H : Hp} {Q : VK} : Stp (tCallS sp (WE W) tr σ H Q) (tr σ H fun vs H1 => sp vs H1 Q (WE W σ)) := ⟨fun h => rd_callS h⟩
end
/-! ### the program's own errors -/
/-- what the top has written of ClockError, at CC -/
structure BaseC (K : PySem.W.Frag) (mg : Str → Option Value) (CC : Addr) : Prop where
  g : mg "ClockError" = some (.ref CC)
  rd : PySem.W.readsIn K CC (.type "type") = true
  ga : PySem.W.specialIn K (.ref CC) "__getattribute__" = some (some (.builtin "type.__getattribute__"))
  ini : PySem.W.findCls K (.ref CC) (.type "type") "__init__" = some (.val (.builtin "ValueError.__init__"))
section
variable {X : Cx} {e : Expr} {es : List Expr} {ta : TA} {p1 p2 pos : Pos}
theorem pe_ceinit {pl : Sem Bool} {CC : Addr} (B : BaseC X.K X.mg CC) (ha : PA X (e :: es) ta) (hg : Gl X "ClockError" := by rfl)
    (hc : eval (.Call (.Attribute (.Name "ClockError" p1) "__init__" p2) (e :: es) [] pos) X.env = (do
      let ov ← eval (.Name "ClockError" p1) X.env
      standAt p2.atName
      let (f, first) ← holding [ov] (getMethod ov "__init__" pl)
      callWith pos f first (backTo pos (starEach (e :: es) X.env)) (backToKw pos (keywordEach [] X.env))) := by rfl)
    (he : starEach (e :: es) X.env = (false, eval e X.env) :: starEach es X.env := by rfl) (hpl : (backTo pos (starEach es X.env)).any (·.1) = false := by rfl) :
    PE X (.Call (.Attribute (.Name "ClockError" p1) "__init__" p2) (e :: es) [] pos) (tVeI X.K ta) := by
  refine ⟨fun pins s σ H Q I h => ?_⟩
  refine PySem.W.methodCall_KW (ld_glob I hg B.g ?_ (by decide)) hc
  refine PySem.W.method_cls I.kIn B.ga (PySem.W.cls_value I.kIn B.rd B.ini (by decide +kernel) ?_)
  show wpAny _ _ (callWith pos (Value.builtin "ValueError.__init__") [] (backTo pos (starEach (e :: es) X.env)) []) _ _ _
  refine PyProof.Rows.callWith_method1 (thn (ha.run pos pins _ σ H _ (I.tok _) h) fun us s1 ⟨vs, H1, I1, r1, a, C, ws, ev, hl, T, ea, q⟩ => ?_) he hpl
  subst ev
  cases r1 with
  | @cons _ u0 _ ur ra rw' =>
    obtain rfl : u0 = Value.ref a := ra
    have hlen : ur.length ≤ sizeLine := by
      rw [← Paired.length rw', sizeLine_eq]
      omega
    exact oinit_ok T I1 ea hlen fun s' J => ⟨.non, H1, J, rfl, q⟩
end
/-- __init__ of an error with fields: the values ws become fl ws -/
def spErr (C : Addr) (n : Nat) (fl : List V → List (Str × V)) : Sp := fun vs H Q _ => ∃ (a : Addr) (ws : List V), vs = .ref a :: ws ∧ ws.length = n ∧ H a = some (exo a C none) ∧
  ∀ dx, H dx = none → dx ≠ a → Q .non (upd (upd H dx (exd dx (fl ws))) a (exo a C (some dx)))
/-- a class of the program's errors: raised by its name, with n values, the fields fl -/
structure ErrC (P : Program) (w : World) (K : PySem.W.Frag) (mg : Str → Option Value) (base : Heap) (x : Str) (n : Nat) (fl : List V → List (Str × V)) (C : Addr) : Prop where
  g : mg x = some (.ref C)
  T : OexC K C
  X : XfC K C
  self : PySem.W.exmOne K (.ref C) (.ref C) = some true
  ini : ∃ (fI : Addr) (fd : FuncData) (ps : List Str), PySem.W.findIn K (.ref C) "__init__" = some (some (.ref fI)) ∧ PySem.W.typeIn K (.ref fI) = some (.type "function") ∧ FnOk P w K mg base (L2.CX P w) 1 fI fd ps (spErr C n fl) ∧ Binds K fd ps []
theorem pmk_err {X : Cx} {x : Str} {C : Addr} {n : Nat} {fl : List V → List (Str × V)} {e : Expr} {es : List Expr} {ta : TA} {p pos : Pos} (Z : ErrC X.prog X.w X.K X.mg X.base x n fl C) (hr : Room 2 X.A) (ha : PA X (e :: es) ta) (hg : Gl X x := by rfl)
    (hdb : (x == ("__debug__" : Str)) = false := by decide) (he : starEach (e :: es) X.env = (false, eval e X.env) :: starEach es X.env := by rfl) (hpl : (backTo pos (starEach es X.env)).any (·.1) = false := by rfl) :
    PMk X (.Call (.Name x p) (e :: es) [] pos) (tMkO C (spErr C n fl) [] ta) := by
  obtain ⟨fI, fd, ps, iC, tI, F, b⟩ := Z.ini
  exact pmk_oex Z.T iC tI F hr b .nil passL hg Z.g ha hdb he hpl
/-- what the raising asks -/
theorem rd_mk {C : Addr} {n : Nat} {fl : List V → List (Str × V)} {ta : TA} {σ : St} {H : Hp} {Q : XK} (h : ta σ H fun vs H1 => vs.length ≤ 1000 ∧ ∀ a, H1 a = none → spErr C n fl (.ref a :: (vs ++ [])) (upd H1 a (exo a C none))
  (fun v H2 => v = .non ∧ ∃ (d : Addr) (fs : List (Str × V)), H2 a = some (exo a C (some d)) ∧ H2 d = some (exd d fs) ∧ H1 d = none ∧ Q (.ref C) (some d) (upd (del H2 a) d (.xd fs))) (fun _ _ _ => False)) : tMkO C (spErr C n fl) [] ta σ H Q := h
instance st_mk {C : Addr} {n : Nat} {fl : List V → List (Str × V)} {ta : TA} {σ : St} {H : Hp} {Q : XK} : Stp (tMkO C (spErr C n fl) [] ta σ H Q) (ta σ H fun vs H1 => vs.length ≤ 1000 ∧ ∀ a, H1 a = none → spErr C n fl (.ref a :: (vs ++ [])) (upd H1 a (exo a C none))
  (fun v H2 => v = .non ∧ ∃ (d : Addr) (fs : List (Str × V)), H2 a = some (exo a C (some d)) ∧ H2 d = some (exd d fs) ∧ H1 d = none ∧ Q (.ref C) (some d) (upd (del H2 a) d (.xd fs))) (fun _ _ _ => False)) := ⟨fun h => rd_mk h⟩
theorem rd_mk1 {C : Addr} {n : Nat} {fl : List V → List (Str × V)} {vs : List V} {H1 : Hp} {Q : XK} (hl : vs.length = n) (hn : n ≤ 1000) (h : ∀ d, H1 d = none → Q (.ref C) (some d) (upd H1 d (.xd (fl vs)))) :
    vs.length ≤ 1000 ∧ ∀ a, H1 a = none → spErr C n fl (.ref a :: (vs ++ [])) (upd H1 a (exo a C none))
      (fun v H2 => v = .non ∧ ∃ (d : Addr) (fs : List (Str × V)), H2 a = some (exo a C (some d)) ∧ H2 d = some (exd d fs) ∧ H1 d = none ∧ Q (.ref C) (some d) (upd (del H2 a) d (.xd fs))) (fun _ _ _ => False) := by
  refine ⟨by omega, fun a na => ⟨a, vs, by rw [List.append_nil], hl, upd_same, fun dx nd ne => ⟨rfl, dx, fl vs, upd_same, ?_, ?_, ?_⟩⟩⟩
  · rw [upd_ne ne, upd_same]
  · rw [upd_ne ne] at nd
    exact nd
  · have nd' : H1 dx = none := by
      rw [upd_ne ne] at nd
      exact nd
    have z := h dx nd'
    have eq : upd (del (upd (upd (upd H1 a (exo a C none)) dx (exd dx (fl vs))) a (exo a C (some dx))) a) dx (.xd (fl vs)) = upd H1 dx (.xd (fl vs)) := by
      funext b
      by_cases hb : b = dx
      · rw [hb, upd_same, upd_same]
      · rw [upd_ne hb, upd_ne hb]
        by_cases ha : b = a
        · rw [ha, del_same, na]
        · rw [del_ne ha, upd_ne ha, upd_ne hb, upd_ne ha]
    rw [eq]
    exact z
end L2
namespace L2
open PySem PySem.Spec PyProof.Rows
/-- what the top has written of an error's class -/
structure ErrRaw (K : PySem.W.Frag) (mg : Str → Option Value) (x : Str) (C : Addr) (sI : Stmt) (qual : Str) (ps : List Str) : Prop where
  g : mg x = some (.ref C)
  T : OexC K C
  X : XfC K C
  self : PySem.W.exmOne K (.ref C) (.ref C) = some true
  ini : ∃ (fI : Addr) (fd : FuncData), PySem.W.findIn K (.ref C) "__init__" = some (some (.ref fI)) ∧ PySem.W.typeIn K (.ref fI) = some (.type "function") ∧ Fun K "__init__" qual sI fI fd ∧ Binds K fd ps []
theorem ErrC.of {P : Program} {w : World} {K : PySem.W.Frag} {mg : Str → Option Value} {base : Heap} {x : Str} {C : Addr} {sI : Stmt} {qual : Str} {ps : List Str} {n : Nat} {fl : List V → List (Str × V)} (R : ErrRaw K mg x C sI qual ps)
    (h : ∀ (fI : Addr) (fd : FuncData), Fun K "__init__" qual sI fI fd → FnOk P w K mg base (L2.CX P w) 1 fI fd ps (spErr C n fl)) : ErrC P w K mg base x n fl C := by
  obtain ⟨fI, fd, i, t, F, b⟩ := R.ini
  exact ⟨R.g, R.T, R.X, R.self, fI, fd, ps, i, t, h fI fd F, b⟩
/-- an error of the class at S is what «except S» names -/
theorem exm_self {K : PySem.W.Frag} {S : Addr} (h1 : PySem.W.subIn K (.ref S) (.type "BaseException") = some true) (h2 : PySem.W.isClsIn K S = true) (h3 : PySem.W.typeIn K (.ref S) = some (.type "type")) (h4 : PySem.W.subIn K (.ref S) (.ref S) = some true) :
    PySem.W.exmOne K (.ref S) (.ref S) = some true := by
  have e1 : (PySem.W.subIn K (.ref S) (.type "BaseException") == some true) = true := by rw [h1] <;> rfl
  have e2 : ((PySem.W.clsIn K S).isSome && PySem.W.typeIn K (.ref S) == some (.type "type")) = true := by
    have h2' : (PySem.W.clsIn K S).isSome = true := h2
    rw [h2', h3] <;> rfl
  show (if (PySem.W.subIn K (.ref S) (.type "BaseException") == some true) = true then (if ((PySem.W.clsIn K S).isSome && PySem.W.typeIn K (.ref S) == some (.type "type")) = true then PySem.W.subIn K (.ref S) (.ref S) else none) else none) = some true
  rw [if_pos e1, if_pos e2]
  exact h4
theorem NoT.only {H : Hp} (h : Only H) : NoT H := fun a o e => by
  rcases h a with z | ⟨u, xs, z⟩
  · rw [z] at e
    cases e
  · rw [z] at e
    cases e
    rfl
theorem len_1 {α : Type} {ws : List α} (h : ws.length = 1) : ∃ a, ws = [a] := match ws, h with | [a], _ => ⟨a, rfl⟩
theorem len_3 {α : Type} {ws : List α} (h : ws.length = 3) : ∃ a b c, ws = [a, b, c] := match ws, h with | [a, b, c], _ => ⟨a, b, c, rfl⟩
/-- law's: a list of at most 63 ints is handed in, True comes out -/
def spLaw (K : PySem.W.Frag) : Sp := fun vs H Q _ => ∃ (a : Addr) (ns : List Int), vs = [.ref a] ∧ SqL K H a (ns.map V.int) ∧ ns.length ≤ 63 ∧ NoT H ∧ ∀ H', Q (.bl true) H'
end L2
namespace L2
open PySem PySem.Spec PyProof.Rows
/-! ### what is walked, by name -/
def rRng1 (S : It → Hp → Prop) (vs : List V) (H : Hp) : Prop := ∃ j : Int, vs = [.int j] ∧ -(2 ^ 62) ≤ j ∧ j < 2 ^ 62 ∧ S (Itr 0 j.toNat) H
def rRng2 (S : It → Hp → Prop) (vs : List V) (H : Hp) : Prop := ∃ i j : Int, vs = [.int i, .int j] ∧ (-(2 ^ 62) ≤ i ∧ i < 2 ^ 62 ∧ -(2 ^ 62) ≤ j ∧ j < 2 ^ 62) ∧ S (Itr i (j - i).toNat) H
def rItL (K : PySem.W.Frag) (S : It → Hp → Prop) (x : V) (H : Hp) : Prop := ∃ a, x = .ref a ∧ (∃ xs, SqL K H a xs) ∧ S (Itl K a) H
def rItT (K : PySem.W.Frag) (S : It → Hp → Prop) (x : V) (H : Hp) : Prop := ∃ a, x = .ref a ∧ (∃ xs, SqT K H a xs) ∧ S (Itt K a) H
section
variable {σ : St} {H : Hp} {Q : VK} {K : PySem.W.Frag} {v x y : V} {ta te : TE} {tt : TT} {tr : TA} {S : It → Hp → Prop}
theorem rd_iR1 (h : tr σ H (rRng1 S)) : iRng1 tr σ H S := h
instance st_iR1  : Stp (iRng1 tr σ H S) (tr σ H (rRng1 S)) := ⟨fun h => rd_iR1 h⟩
theorem rd_iR2 (h : tr σ H (rRng2 S)) : iRng2 tr σ H S := h
instance st_iR2  : Stp (iRng2 tr σ H S) (tr σ H (rRng2 S)) := ⟨fun h => rd_iR2 h⟩
theorem rd_r1 {n : Int} (h1 : -(2 ^ 62) ≤ n) (h2 : n < 2 ^ 62) (q : S (Itr 0 n.toNat) H) : rRng1 S [.int n] H := ⟨n, rfl, h1, h2, q⟩
theorem rd_r2 {m n : Int} (h1 : -(2 ^ 62) ≤ m ∧ m < 2 ^ 62 ∧ -(2 ^ 62) ≤ n ∧ n < 2 ^ 62) (q : S (Itr m (n - m).toNat) H) : rRng2 S [.int m, .int n] H := ⟨m, n, rfl, h1, q⟩
theorem rd_iL (h : ta σ H (rItL K S)) : iList K ta σ H S := h
instance st_iL  : Stp (iList K ta σ H S) (ta σ H (rItL K S)) := ⟨fun h => rd_iL h⟩
theorem rd_iT (h : ta σ H (rItT K S)) : iTup K ta σ H S := h
instance st_iT  : Stp (iTup K ta σ H S) (ta σ H (rItT K S)) := ⟨fun h => rd_iT h⟩
theorem rd_iL1 {a : Addr} {xs : List V} (h : SqL K H a xs) (q : S (Itl K a) H) : rItL K S (.ref a) H := ⟨a, rfl, ⟨xs, h⟩, q⟩
theorem rd_iT1 {a : Addr} {xs : List V} (h : SqT K H a xs) (q : S (Itt K a) H) : rItT K S (.ref a) H := ⟨a, rfl, ⟨xs, h⟩, q⟩
/-! ### list comprehensions -/
def lcB (J : It) (g : TG) (tt : TT) (te : TE) (vs : List Nat) (σ : St) (Q : VK) (H1 : Hp) : Prop := ∀ D, H1 D = none → ∃ W : Nat → Nat → Hp → Prop, (∃ m, W 0 m (upd H1 D (.lst []))) ∧ ∀ i m H, W i m H →
  (J.stop i H ∧ Q (.ref D) H) ∨ (J.go i H ∧ ∃ Nx : Hp → Prop, (∀ H', Nx H' → ∃ m', m' < m ∧ W (i + 1) m' H') ∧ ∀ x H', J.yld i H x H' → g x (wipe σ vs) H' fun σ2 H2 => wipe σ2 vs = wipe σ vs ∧ tt σ2 H2 fun b H3 =>
    if b = true then te σ2 H3 fun y H4 => ∃ acc, H4 D = some (.lst acc) ∧ acc.length < sizeLine ∧ Nx (upd H4 D (.lst (acc ++ [y]))) else Nx H3)
theorem rd_lc {wi : TI} {g : TG} {vs : List Nat} (h : wi σ H fun J H1 => lcB J g tt te vs σ Q H1) : tLc wi g tt te vs σ H Q := h
instance st_lc {wi : TI} {g : TG} {vs : List Nat} : Stp (tLc wi g tt te vs σ H Q) (wi σ H fun J H1 => lcB J g tt te vs σ Q H1) := ⟨fun h => rd_lc h⟩
theorem rd_yes {R : Bool → Hp → Prop} (q : R true H) : tYes σ H R := q
instance st_yes {R : Bool → Hp → Prop} : Stp (tYes σ H R) (R true H) := ⟨fun h => rd_yes h⟩
/-- the item that was made goes onto the list; or none does -/
def LcPut (H : Hp) (D : Addr) (l0 l1 : List V) (y : V) (H4 : Hp) : Prop := ∃ acc, H4 D = some (.lst acc) ∧ acc.length < sizeLine ∧ upd H4 D (.lst (acc ++ [y])) = upd H D (.lst l1)
def LcSkip (H : Hp) (D : Addr) (l1 : List V) (H3 : Hp) : Prop := H3 = upd H D (.lst l1)
/-! ### deep equality -/
theorem rd_eqD {d e : PyData} (h1 : Dp K H x d) (h2 : Dp K H y e) (s1 : SeqAt.shaped d = true) (s2 : SeqAt.shaped e = true) (q : Q (.bl (PyData.eqv d e)) H) : rEqD K x y H Q := ⟨d, e, h1, h2, s1, s2, q⟩
theorem rd_neD {d e : PyData} (h1 : Dp K H x d) (h2 : Dp K H y e) (s1 : SeqAt.shaped d = true) (s2 : SeqAt.shaped e = true) (q : Q (.bl (!PyData.eqv d e)) H) : rNeD K x y H Q := ⟨d, e, h1, h2, s1, s2, q⟩
end
section
variable {K : PySem.W.Frag} {H : Hp}
theorem dpAll_ints : ∀ ns : List Int, DpAll K H (ns.map V.int) (ns.map PyData.int)
  | [] => .nil
  | n :: r => .cons (.int n) (dpAll_ints r)
theorem dpAll_bls : ∀ ns : List Bool, DpAll K H (ns.map V.bl) (ns.map PyData.bool)
  | [] => .nil
  | n :: r => .cons (.bl n) (dpAll_bls r)
theorem dp_ints {a : Addr} {ns : List Int} (h : SqL K H a (ns.map V.int)) : Dp K H (.ref a) (.list (ns.map PyData.int)) := .lst h (dpAll_ints ns)
end
theorem eqv_ints : ∀ ns ms : List Int, PyData.eqvAll (ns.map PyData.int) (ms.map PyData.int) = decide (ns = ms)
  | [], [] => rfl
  | [], _ :: _ => rfl
  | _ :: _, [] => rfl
  | n :: r, m :: s => by
    rw [List.map_cons, List.map_cons, PyData.eqvAll, eqv_ints r s]
    by_cases h : n = m
    · subst h
      simp [PyData.eqv]
    · have : (n == m) = false := by simpa using h
      simp [PyData.eqv, this, h]
/-! ### a clause of a try -/
section
variable {σ : St} {H : Hp} {K : PySem.W.Frag} {nx : St → Hp → Prop} {rt : VK} {bk ct : St → Hp → Prop} {Q : VK} {te : TE}
theorem rd_was {c cls : Value} {i : Nat} {ts : Addr → Value → Option Addr → TS} {Wout : WX} {d : Option Addr} (hx : PySem.W.exmOne K cls c = some true)
    (q : ∀ a, H a = none → ts a cls d ⟨fun σ' H' => nx (σ'.set i none) H', rt, fun σ' H' => bk (σ'.set i none) H', fun σ' H' => ct (σ'.set i none) H'⟩ (σ.set i (some (.ref a))) H) : WE (wAs K c i ts Wout ⟨nx, rt, bk, ct⟩) σ cls d H :=
  ⟨true, hx, fun _ a h => q a h, fun h => nomatch h⟩
def XfB (a : Addr) (cls : Value) (d : Option Addr) (C : Addr) (f : Str) (x : V) (H1 : Hp) (Q : VK) : Prop := x = .ref a ∧ cls = .ref C ∧ ∃ (dd : Addr) (fs : List (Str × V)) (v : V), d = some dd ∧ H1 dd = some (.xd fs) ∧ fs.lookup f = some v ∧ Q v H1
theorem rd_xf {a C : Addr} {cls : Value} {d : Option Addr} {f : Str} (h : te σ H fun x H1 => XfB a cls d C f x H1 Q) : tXf a cls d C f te σ H Q := h
instance st_xf {a C : Addr} {cls : Value} {d : Option Addr} {f : Str} : Stp (tXf a cls d C f te σ H Q) (te σ H fun x H1 => XfB a cls d C f x H1 Q) := ⟨fun h => rd_xf h⟩
theorem rd_xfb {a C dd : Addr} {f : Str} {fs : List (Str × V)} {v : V} (h : H dd = some (.xd fs)) (hl : fs.lookup f = some v) (q : Q v H) : XfB a (.ref C) (some dd) C f (.ref a) H Q := ⟨rfl, rfl, dd, fs, v, rfl, h, hl, q⟩
end
end L2
namespace L2
open PySem PySem.Spec PyProof.Rows
section
variable {σ : St} {H : Hp} {Q : VK} {K : PySem.W.Frag} {N : St → Hp → Prop}
theorem rd_isiII {i : Int} (q : Q (.bl true) H) : rIsi K [.int i, .ty "int"] H Q := ⟨_, _, _, _, true, rfl, .ty _, .base (.int i), kit_ty (by decide +kernel), q⟩
instance st_isiII {i : Int} : Stp (rIsi K [.int i, .ty "int"] H Q) (Q (.bl true) H) := ⟨fun h => rd_isiII h⟩
theorem rd_isiIB {i : Int} (q : Q (.bl false) H) : rIsi K [.int i, .ty "bool"] H Q := ⟨_, _, _, _, false, rfl, .ty _, .base (.int i), kit_ty (by decide +kernel), q⟩
instance st_isiIB {i : Int} : Stp (rIsi K [.int i, .ty "bool"] H Q) (Q (.bl false) H) := ⟨fun h => rd_isiIB h⟩
theorem rd_isiBB {b : Bool} (q : Q (.bl true) H) : rIsi K [.bl b, .ty "bool"] H Q := ⟨_, _, _, _, true, rfl, .ty _, .base (.bl b), kit_ty (by decide +kernel), q⟩
instance st_isiBB {b : Bool} : Stp (rIsi K [.bl b, .ty "bool"] H Q) (Q (.bl true) H) := ⟨fun h => rd_isiBB h⟩
theorem rd_unl {a : Addr} {xs : List V} {n : Nat} {t : TGs} (h : SqL K H a xs) (hn : xs.length = n) (q : t xs σ H N) : gUnl K n t (.ref a) σ H N := ⟨a, xs, rfl, h, hn, q⟩
theorem rd_slL {a : Addr} {xs : List V} {lo hi : Option Int} (h : SqL K H a xs) (q : ∀ p, H p = none → Q (.ref p) (upd H p (.lst (cutV xs lo hi)))) : rSlL K (.ref a) lo hi H Q := ⟨a, xs, rfl, h, q⟩
theorem rd_sl {r : V → Option Int → Option Int → Hp → VK → Prop} {te : TE} {tl th : TO} (h : te σ H fun x H1 => tl σ H1 fun l H2 => th σ H2 fun u H3 => r x l u H3 Q) : tSl r te tl th σ H Q := h
instance st_sl {r : V → Option Int → Option Int → Hp → VK → Prop} {te : TE} {tl th : TO} : Stp (tSl r te tl th σ H Q) (te σ H fun x H1 => tl σ H1 fun l H2 => th σ H2 fun u H3 => r x l u H3 Q) := ⟨fun h => rd_sl h⟩
theorem rd_noPart {R : Option Int → Hp → Prop} (q : R none H) : tNoPart σ H R := q
instance st_noPart {R : Option Int → Hp → Prop} : Stp (tNoPart σ H R) (R none H) := ⟨fun h => rd_noPart h⟩
def rPart (R : Option Int → Hp → Prop) (x : V) (H : Hp) : Prop := ∃ i, x = .int i ∧ R (some i) H
theorem rd_part {te : TE} {R : Option Int → Hp → Prop} (h : te σ H (rPart R)) : tPart te σ H R := h
instance st_part {te : TE} {R : Option Int → Hp → Prop} : Stp (tPart te σ H R) (te σ H (rPart R)) := ⟨fun h => rd_part h⟩
theorem rd_part1 {i : Int} {R : Option Int → Hp → Prop} (q : R (some i) H) : rPart R (.int i) H := ⟨i, rfl, q⟩
instance st_part1 {i : Int} {R : Option Int → Hp → Prop} : Stp (rPart R (.int i) H) (R (some i) H) := ⟨fun h => rd_part1 h⟩
theorem rd_cat {l b : Addr} {xs zs : List V} (h1 : H l = some (.lst xs)) (h2 : H b = some (.lst zs)) (h3 : xs.length + zs.length ≤ sizeLine) (q : ∀ p, H p = none → Q (.ref p) (upd H p (.lst (xs ++ zs)))) : rCat (.ref l) (.ref b) H Q := ⟨l, b, xs, zs, rfl, rfl, h1, h2, h3, q⟩
end
end L2
namespace L2
theorem lt_pow_of {i : Int} {k : Nat} (h1 : -(2 ^ k) < i) (h2 : i < 2 ^ k) : i.natAbs < 2 ^ k := by
  have e : ((2 ^ k : Nat) : Int) = 2 ^ k := by rw [Int.natCast_pow]; rfl
  omega
theorem CMulB.wide {i j : Int} (h1 : -(2 ^ 250) < i ∧ i < 2 ^ 250) (h2 : -(2 ^ 250) < j ∧ j < 2 ^ 250) : CMulB i j :=
  .inr (wide_mul (lt_pow_of h1.1 h1.2) (lt_pow_of h2.1 h2.2) (by decide) (by decide) (by decide))
end L2
namespace L2
open PySem PySem.Spec PyProof.Rows
section
variable {H : Hp} {Q : VK} {K : PySem.W.Frag} {p : Addr}
theorem rd_in2L {i a b : Int} (q : Q (.bl (decide (i = a ∨ i = b))) (upd H p (.lst [.int a, .int b]))) : rIn K false (.int i) (.ref p) (upd H p (.lst [.int a, .int b])) Q :=
  ⟨p, _, rfl, .inl (SqL.of upd_same), rfl, rfl, by
    show Q (.bl (inV (.int i) [.int a, .int b])) _
    rw [inV2]
    exact q⟩
instance st_in2L {i a b : Int} : Stp (rIn K false (.int i) (.ref p) (upd H p (.lst [.int a, .int b])) Q) (Q (.bl (decide (i = a ∨ i = b))) (upd H p (.lst [.int a, .int b]))) := ⟨fun h => rd_in2L h⟩
theorem rd_nin2L {i a b : Int} (q : Q (.bl (!decide (i = a ∨ i = b))) (upd H p (.lst [.int a, .int b]))) : rIn K true (.int i) (.ref p) (upd H p (.lst [.int a, .int b])) Q :=
  ⟨p, _, rfl, .inl (SqL.of upd_same), rfl, rfl, by
    show Q (.bl (!inV (.int i) [.int a, .int b])) _
    rw [inV2]
    exact q⟩
instance st_nin2L {i a b : Int} : Stp (rIn K true (.int i) (.ref p) (upd H p (.lst [.int a, .int b])) Q) (Q (.bl (!decide (i = a ∨ i = b))) (upd H p (.lst [.int a, .int b]))) := ⟨fun h => rd_nin2L h⟩
theorem rd_nin2 {i a b : Int} (q : Q (.bl (!decide (i = a ∨ i = b))) (upd H p (.tup [.int a, .int b]))) : rIn K true (.int i) (.ref p) (upd H p (.tup [.int a, .int b])) Q :=
  ⟨p, _, rfl, .inr (SqT.of upd_same), rfl, rfl, by
    show Q (.bl (!inV (.int i) [.int a, .int b])) _
    rw [inV2]
    exact q⟩
instance st_nin2 {i a b : Int} : Stp (rIn K true (.int i) (.ref p) (upd H p (.tup [.int a, .int b])) Q) (Q (.bl (!decide (i = a ∨ i = b))) (upd H p (.tup [.int a, .int b]))) := ⟨fun h => rd_nin2 h⟩
theorem beq_str {a s : Str} : (a == s) = decide (s = a) := by
  rw [Bool.beq_eq_decide_eq]
  exact decide_eq_decide.mpr eq_comm
theorem inVs4 {s a b c d : Str} : inV (.str s) [.str a, .str b, .str c, .str d] = decide (s = a ∨ s = b ∨ s = c ∨ s = d) := by
  simp only [inV, eqV, List.any_cons, List.any_nil, Bool.or_false, Bool.decide_or, beq_str]
theorem rd_ninS4 {s a b c d : Str} (q : Q (.bl (!decide (s = a ∨ s = b ∨ s = c ∨ s = d))) (upd H p (.lst [.str a, .str b, .str c, .str d]))) : rIn K true (.str s) (.ref p) (upd H p (.lst [.str a, .str b, .str c, .str d])) Q :=
  ⟨p, _, rfl, .inl (SqL.of upd_same), rfl, rfl, by
    show Q (.bl (!inV (.str s) [.str a, .str b, .str c, .str d])) _
    rw [inVs4]
    exact q⟩
instance st_ninS4 {s a b c d : Str} : Stp (rIn K true (.str s) (.ref p) (upd H p (.lst [.str a, .str b, .str c, .str d])) Q) (Q (.bl (!decide (s = a ∨ s = b ∨ s = c ∨ s = d))) (upd H p (.lst [.str a, .str b, .str c, .str d]))) := ⟨fun h => rd_ninS4 h⟩
end
end L2
namespace L2
open PySem PySem.Spec PyProof.Rows
theorem lay_all : ∀ {ds : List PyData}, (∀ d ∈ ds, d.canLay0 = true ∧ d.depth ≤ 60) → PyData.canLayAll0 ds = true ∧ PyData.depthAll ds ≤ 60
  | [], _ => ⟨rfl, Nat.zero_le _⟩
  | d :: ds, h => by
    obtain ⟨a, b⟩ := lay_all (ds := ds) fun e he => h e (List.mem_cons_of_mem _ he)
    obtain ⟨c, e⟩ := h d (List.mem_cons_self ..)
    simp only [PyData.canLayAll0, PyData.depthAll]
    exact ⟨by rw [c, a]; rfl, Nat.max_le.mpr ⟨e, b⟩⟩
theorem shaped_list {ds : List PyData} (h : ∀ d ∈ ds, d.canLay0 = true ∧ d.depth ≤ 60) : SeqAt.shaped (.list ds) = true := by
  obtain ⟨a, b⟩ := lay_all h
  unfold SeqAt.shaped
  have : (PyData.list ds).canLay0 = true := a
  rw [this, Bool.true_and, decide_eq_true_eq]
  show PyData.depthAll ds + 1 ≤ 64
  omega
theorem shaped_ints (ns : List Int) : SeqAt.shaped (.list (ns.map PyData.int)) = true := shaped_list fun d hd => by
  obtain ⟨n, _, rfl⟩ := List.mem_map.mp hd
  exact ⟨rfl, by simp [PyData.depth]⟩
section
variable {H : Hp} {Q : VK} {K : PySem.W.Frag} {a b p : Addr}
/-- two lists of whole numbers -/
theorem rd_eqInts {ns ms : List Int} (h1 : SqL K H a (ns.map V.int)) (h2 : SqL K H b (ms.map V.int)) (q : Q (.bl (decide (ns = ms))) H) : rEqD K (.ref a) (.ref b) H Q :=
  ⟨_, _, dp_ints h1, dp_ints h2, shaped_ints _, shaped_ints _, by rw [PyData.eqv, eqv_ints]; exact q⟩
theorem rd_neInts {ns ms : List Int} (h1 : SqL K H a (ns.map V.int)) (h2 : SqL K H b (ms.map V.int)) (q : Q (.bl (!decide (ns = ms))) H) : rNeD K (.ref a) (.ref b) H Q :=
  ⟨_, _, dp_ints h1, dp_ints h2, shaped_ints _, shaped_ints _, by rw [PyData.eqv, eqv_ints]; exact q⟩
/-- equal data -/
theorem rd_neSame {x y : V} {d : PyData} (h1 : Dp K H x d) (h2 : Dp K H y d) (s : SeqAt.shaped d = true) (q : Q (.bl false) H) : rNeD K x y H Q :=
  ⟨d, d, h1, h2, s, s, by rw [SeqAt.eqv_refl d (SeqAt.canLay_of_shaped s)]; exact q⟩
theorem rd_isiL {xs : List V} (h : H a = some (.lst xs)) (q : Q (.bl true) H) : rIsi K [.ref a, .ty "list"] H Q := ⟨_, _, _, _, true, rfl, .ty _, .base (.lst h), kit_ty (by decide +kernel), q⟩
theorem rd_isiT {xs : List V} (h : H a = some (.tup xs)) (q : Q (.bl true) H) : rIsi K [.ref a, .ty "tuple"] H Q := ⟨_, _, _, _, true, rfl, .ty _, .base (.tup h), kit_ty (by decide +kernel), q⟩
end
end L2
namespace L2
open PySem PySem.Spec PyProof.Rows
theorem Same.lst {K : PySem.W.Frag} {H0 H : Hp} {a : Addr} {xs : List V} (e : Same H0 H) (h : H0 a = some (.lst xs)) : SqL K H a xs := SqL.of (e _ _ h)
end L2
namespace L2
theorem rd_neF {p A B : Prop} [Decidable p] (h : p) (q : B) : if (!decide p) = true then A else B := by
  rw [decide_eq_true h]
  exact q
theorem rd_eqT {p A B : Prop} [Decidable p] (h : p) (q : A) : if decide p = true then A else B := by
  rw [decide_eq_true h]
  exact q
end L2
namespace L2
open PySem PySem.Spec PyProof.Rows
end L2
namespace L2
open PySem PySem.Spec PyProof.Rows
section
variable {σ : St} {H : Hp} {Q : VK} {K : PySem.W.Frag} {te : TE} {tt : TT}
theorem put_G {J : Addr → Nat → List V → Hp → Prop} {D : Addr} {i : Nat} {H4 : Hp} {acc : List V} {y : V} (h : H4 D = some (.lst acc)) (hl : acc.length < sizeLine) (j : J D (i + 1) (acc ++ [y]) (upd H4 D (.lst (acc ++ [y])))) :
    ∃ acc, H4 D = some (.lst acc) ∧ acc.length < sizeLine ∧ ∃ ys, (upd H4 D (.lst (acc ++ [y]))) D = some (.lst ys) ∧ J D (i + 1) ys (upd H4 D (.lst (acc ++ [y]))) := ⟨acc, h, hl, _, upd_same, j⟩
end
end L2
namespace L2
open PySem PySem.Spec PyProof.Rows
/-! ### classes of the text: fields, methods, making, ==, calls -/
structure MethAt (K : PySem.W.Frag) (C : Addr) (m qual : Str) (st : Stmt) (ps : List Str) : Prop where
  ex : ∃ (f : Addr) (fd : FuncData), Fun K m qual st f fd ∧ Meth K C m f ∧ Binds K fd ps []
structure MDef (P : Program) (w : World) (K : PySem.W.Frag) (mg : Str → Option Value) (base : Heap) (k : Nat) (C : Addr) (m : Str) (ps : List Str) (sp : Sp) : Prop where
  ex : ∃ (f : Addr) (fd : FuncData), FnOk P w K mg base (L2.CX P w) k f fd ps sp ∧ Meth K C m f ∧ Binds K fd ps []
structure MkAt (K : PySem.W.Frag) (mg : Str → Option Value) (x : Str) (C : Addr) (qual : Str) (st : Stmt) (ps : List Str) : Prop where
  ex : ∃ (f : Addr) (fd : FuncData), Fun K "__init__" qual st f fd ∧ Mk K C f ∧ Binds K fd ps []
  g : mg x = some (.ref C)
structure MkDef (P : Program) (w : World) (K : PySem.W.Frag) (mg : Str → Option Value) (base : Heap) (k : Nat) (x : Str) (C : Addr) (ps : List Str) (sp : Sp) : Prop where
  ex : ∃ (f : Addr) (fd : FuncData), FnOk P w K mg base (L2.CX P w) k f fd ps sp ∧ Mk K C f ∧ Binds K fd ps []
  g : mg x = some (.ref C)
section
variable {P : Program} {w : World} {K : PySem.W.Frag} {mg : Str → Option Value} {base : Heap}
theorem MethAt.ok {C : Addr} {m qual : Str} {st : Stmt} {N ps : List Str} {k : Nat} {sp : Sp} (D : MethAt K C m qual st ps) (S : FnScope N ps (defScope st)) (len : ∀ vs H Q E, sp vs H Q E → vs.length = ps.length)
    (hbody : ∀ (f : Addr) (cdv : Value) (A : Around) (outer : List Env) (s : Shared) (H : Hp) (vs : List V) (Q : VK) (E : XK), Room k (A.deeper (envOfC qual (defScope st) s.heap.objs.size f cdv)) → sp vs H Q E →
      ∃ t, PSs (cxOf (L2.CX P w) P w K mg base N qual (defScope st) f cdv A outer s H E) (defBody st) t ∧ t ⟨fun _ H' => Q .non H', Q, fun _ _ => False, fun _ _ => False⟩ (start N vs) H) : MDef P w K mg base (k + 1) C m ps sp := by
  obtain ⟨f, fd, F, g, b⟩ := D.ex
  exact ⟨f, fd, F.okX S len fun cdv A outer s H vs Q E hr h => hbody f cdv A outer s H vs Q E hr h, g, b⟩
theorem MkAt.ok {x : Str} {C : Addr} {qual : Str} {st : Stmt} {N ps : List Str} {k : Nat} {sp : Sp} (D : MkAt K mg x C qual st ps) (S : FnScope N ps (defScope st)) (len : ∀ vs H Q E, sp vs H Q E → vs.length = ps.length)
    (hbody : ∀ (f : Addr) (cdv : Value) (A : Around) (outer : List Env) (s : Shared) (H : Hp) (vs : List V) (Q : VK) (E : XK), Room k (A.deeper (envOfC qual (defScope st) s.heap.objs.size f cdv)) → sp vs H Q E →
      ∃ t, PSs (cxOf (L2.CX P w) P w K mg base N qual (defScope st) f cdv A outer s H E) (defBody st) t ∧ t ⟨fun _ H' => Q .non H', Q, fun _ _ => False, fun _ _ => False⟩ (start N vs) H) : MkDef P w K mg base (k + 1) x C ps sp := by
  obtain ⟨f, fd, F, g, b⟩ := D.ex
  exact ⟨⟨f, fd, F.okX S len fun cdv A outer s H vs Q E hr h => hbody f cdv A outer s H vs Q E hr h, g, b⟩, D.g⟩
theorem MDef.imp {k : Nat} {C : Addr} {m : Str} {ps : List Str} {sp sp' : Sp} (D : MDef P w K mg base k C m ps sp) (h : ∀ vs H Q E, sp' vs H Q E → sp vs H Q E) : MDef P w K mg base k C m ps sp' := by
  obtain ⟨f, fd, F, g, b⟩ := D.ex
  exact ⟨f, fd, F.imp h, g, b⟩
theorem MDef.mono {j k : Nat} {C : Addr} {m : Str} {ps : List Str} {sp : Sp} (D : MDef P w K mg base j C m ps sp) (h : j ≤ k) : MDef P w K mg base k C m ps sp := by
  obtain ⟨f, fd, F, g, b⟩ := D.ex
  exact ⟨f, fd, F.mono h, g, b⟩
theorem MDef.forget {k : Nat} {C : Addr} {m : Str} {ps : List Str} {sp : Sp} (D : MDef P w K mg base k C m ps sp) : MDef P w K mg base k C m ps (fun vs H Q E => NoT H ∧ sp vs H (fun v H' => Same H H' ∧ Q v H) E) := by
  obtain ⟨f, fd, F, g, b⟩ := D.ex
  exact ⟨f, fd, fn_forget F, g, b⟩
end
def tFldC (C : Addr) (ta : TE) (f : Str) : TE := fun σ H Q => ta σ H fun x H1 => ∃ a dx fs v, x = .ref a ∧ H1 a = some (.ins C dx fs) ∧ fs.lookup f = some v ∧ Q v H1
def sFldC (C : Addr) (ta tv : TE) (f : Str) : TS := fun D σ H => tv σ H fun y H1 => ta σ H1 fun x H2 => ∃ a dx fs, x = .ref a ∧ H2 a = some (.ins C dx fs) ∧ fs.length < 1000 ∧ D.nx σ (upd H2 a (.ins C dx (putF f y fs)))
def tCallC (C : Addr) (sp : Sp) (E : XK) (tf : TE) (t : TA) : TE := fun σ H Q => tf σ H fun y H1 => ∃ a, y = V.ref a ∧ t σ H1 fun vs H2 => (∃ dx fs, H2 a = some (.ins C dx fs)) ∧ sp (V.ref a :: vs) H2 Q E
section
variable {X : Cx} {o e value : Expr} {es : List Expr} {f : Str} {pos pos' tpos apos p : Pos} {ta tv : TE} {t : TA} {C : Addr}
theorem pe_fldC (he : PE X e ta) (c : Cls X.K C) (n : NoAttr X.K C f) (hb : attributeBase e f X.env (eval e X.env) = eval e X.env := by rfl) : PE X (.Attribute e f pos) (tFldC C ta f) := by
  refine ⟨fun pins s σ H Q I h => ?_⟩
  refine attr_of hb (thn (he.run pins s σ H _ I h) fun u s1 ⟨x, H1, I1, rx, a, dx, fs, v, ex, ea, l, q⟩ => ?_)
  subst ex
  obtain rfl : u = Value.ref a := rx
  exact getattr_ok I1 ea c n l fun u' s2 I2 ru => ⟨v, H1, I2, ru, q⟩
theorem ps_fldC (ha : PE X o ta) (hv : PE X value tv) (c : Cls X.K C) (n : NoAttr X.K C f) (hs : swapsWith value (some (.Attribute o f pos')) pos.line X.env = pure false := by rfl) : PS X (.Assign [.Attribute o f pos'] value pos) (sFldC C ta tv f) := by
  refine ⟨fun pins s σ H D I h => ?_⟩
  refine plainObj_wpAny_Assign_Attribute (thn (hv.run pins s σ H _ I h) fun u s1 ⟨y, H1, I1, ry, q⟩ => thn (ha.run pins s1 σ H1 _ I1 q) fun ov s2 ⟨x, H2, I2, rx, a, dx, fs, ex, ea, l, q2⟩ => ?_) hs
  subst ex
  obtain rfl : ov = Value.ref a := rx
  exact setattr_ok I2 ea c n l ry fun s3 I3 => ⟨σ, _, I3, q2⟩
theorem pe_md {k : Nat} {m : Str} {ps : List Str} {sp : Sp} {E : XK} {pl : Sem Bool} (D : MDef X.prog X.w X.K X.mg X.base k C m ps sp) (he : PE X o ta) (c : Cls X.K C) (hr : Room k X.A) (hx : Passes (L2.CX X.prog X.w) X E) (ha : PA X (e :: es) t)
    (hst : starEach (e :: es) X.env = (false, eval e X.env) :: starEach es X.env := by rfl) (hpl : (backTo pos (starEach es X.env)).any (·.1) = false := by rfl)
    (ht : eval (.Call (.Attribute o m apos) (e :: es) [] pos) X.env = (do
      let ov ← eval o X.env
      standAt apos.atName
      let (f, first) ← holding [ov] (getMethod ov m pl)
      callWith pos f first (backTo pos (starEach (e :: es) X.env)) (backToKw pos (keywordEach [] X.env))) := by rfl) :
    PE X (.Call (.Attribute o m apos) (e :: es) [] pos) (tMeth C m sp [] E ta t) := by
  obtain ⟨f, fd, F, g, b⟩ := D.ex
  exact pe_meth he c g F hr b .nil hx ha hst hpl ht
theorem pe_md0 {k : Nat} {m : Str} {ps : List Str} {sp : Sp} {E : XK} {pl : Sem Bool} (D : MDef X.prog X.w X.K X.mg X.base k C m ps sp) (he : PE X o ta) (c : Cls X.K C) (hr : Room k X.A) (hx : Passes (L2.CX X.prog X.w) X E)
    (ht : eval (.Call (.Attribute o m apos) [] [] pos) X.env = (do
      let ov ← eval o X.env
      standAt apos.atName
      let (f, first) ← holding [ov] (getMethod ov m pl)
      callWith pos f first (backTo pos (starEach [] X.env)) (backToKw pos (keywordEach [] X.env))) := by rfl) :
    PE X (.Call (.Attribute o m apos) [] [] pos) (tMeth C m sp [] E ta tNil) := by
  obtain ⟨f, fd, F, g, b⟩ := D.ex
  exact pe_meth0 he c g F hr b .nil hx ht
theorem pe_mkd {k : Nat} {x : Str} {ps : List Str} {sp : Sp} {E : XK} (D : MkDef X.prog X.w X.K X.mg X.base k x C ps sp) (hr : Room (k + 1) X.A) (hx : Passes (L2.CX X.prog X.w) X E) (ha : PA X (e :: es) t) (hg : Gl X x := by rfl)
    (hdb : (x == ("__debug__" : Str)) = false := by decide) (he : starEach (e :: es) X.env = (false, eval e X.env) :: starEach es X.env := by rfl) (hpl : (backTo pos (starEach es X.env)).any (·.1) = false := by rfl) :
    PE X (.Call (.Name x p) (e :: es) [] pos) (tMake C sp [] E t) := by
  obtain ⟨f, fd, F, M, b⟩ := D.ex
  exact pe_make M F hr hg D.g b .nil hx ha hdb he hpl
end
section
variable {σ : St} {H : Hp} {Q : VK} {C p : Addr} {ta tv : TE} {t : TA} {f m : Str} {v : V} {nx : St → Hp → Prop} {rt : VK} {bk ct : St → Hp → Prop} {sp : Sp} {E : XK}
theorem rd_fldC (h : ta σ H fun x H1 => ∃ a dx fs v, x = .ref a ∧ H1 a = some (.ins C dx fs) ∧ fs.lookup f = some v ∧ Q v H1) : tFldC C ta f σ H Q := h
instance st_fldC  : Stp (tFldC C ta f σ H Q) (ta σ H fun x H1 => ∃ a dx fs v, x = .ref a ∧ H1 a = some (.ins C dx fs) ∧ fs.lookup f = some v ∧ Q v H1) := ⟨fun h => rd_fldC h⟩
theorem rd_fld1 {dx : Addr} {fs : List (Str × V)} {S : V → Prop} (h : H p = some (.ins C dx fs)) (l : fs.lookup f = some v) (q : S v) : ∃ a dx fs v, V.ref p = .ref a ∧ H a = some (.ins C dx fs) ∧ fs.lookup f = some v ∧ S v := ⟨p, dx, fs, v, rfl, h, l, q⟩
theorem rd_sfldC (h : tv σ H fun y H1 => ta σ H1 fun x H2 => ∃ a dx fs, x = .ref a ∧ H2 a = some (.ins C dx fs) ∧ fs.length < 1000 ∧ nx σ (upd H2 a (.ins C dx (putF f y fs)))) : sFldC C ta tv f ⟨nx, rt, bk, ct⟩ σ H := h
instance st_sfldC  : Stp (sFldC C ta tv f ⟨nx, rt, bk, ct⟩ σ H) (tv σ H fun y H1 => ta σ H1 fun x H2 => ∃ a dx fs, x = .ref a ∧ H2 a = some (.ins C dx fs) ∧ fs.length < 1000 ∧ nx σ (upd H2 a (.ins C dx (putF f y fs)))) := ⟨fun h => rd_sfldC h⟩
theorem rd_sfld1 {dx : Addr} {fs : List (Str × V)} {S : Addr → Addr → List (Str × V) → Prop} (h : H p = some (.ins C dx fs)) (l : fs.length < 1000) (q : S p dx fs) : ∃ a dx fs, V.ref p = .ref a ∧ H a = some (.ins C dx fs) ∧ fs.length < 1000 ∧ S a dx fs := ⟨p, dx, fs, rfl, h, l, q⟩
theorem rd_meth (h : ta σ H fun x H1 => ∃ a dx fs, x = .ref a ∧ H1 a = some (.ins C dx fs) ∧ fs.lookup m = none ∧ t σ H1 fun vs H2 => sp (x :: vs) H2 Q E) : tMeth C m sp [] E ta t σ H Q := by
  show ta σ H fun x H1 => ∃ a dx fs, x = .ref a ∧ H1 a = some (.ins C dx fs) ∧ fs.lookup m = none ∧ t σ H1 fun vs H2 => sp (x :: (vs ++ [])) H2 Q E
  simp only [List.append_nil]
  exact h
instance st_meth  : Stp (tMeth C m sp [] E ta t σ H Q) (ta σ H fun x H1 => ∃ a dx fs, x = .ref a ∧ H1 a = some (.ins C dx fs) ∧ fs.lookup m = none ∧ t σ H1 fun vs H2 => sp (x :: vs) H2 Q E) := ⟨fun h => rd_meth h⟩
theorem rd_meth1 {dx : Addr} {fs : List (Str × V)} {S : Prop} (h : H p = some (.ins C dx fs)) (l : fs.lookup m = none) (q : S) : ∃ a dx fs, V.ref p = .ref a ∧ H a = some (.ins C dx fs) ∧ fs.lookup m = none ∧ S := ⟨p, dx, fs, rfl, h, l, q⟩
theorem rd_make (h : t σ H fun vs H1 => ∀ x dx, H1 x = none → H1 dx = none → dx ≠ x → sp (.ref x :: vs) (upd (upd H1 dx (.own x)) x (.ins C dx [])) (fun v H2 => v = .non ∧ Q (.ref x) H2) E) : tMake C sp [] E t σ H Q := by
  show t σ H fun vs H1 => ∀ x dx, H1 x = none → H1 dx = none → dx ≠ x → sp (.ref x :: (vs ++ [])) (upd (upd H1 dx (.own x)) x (.ins C dx [])) (fun v H2 => v = .non ∧ Q (.ref x) H2) E
  simp only [List.append_nil]
  exact h
instance st_make  : Stp (tMake C sp [] E t σ H Q) (t σ H fun vs H1 => ∀ x dx, H1 x = none → H1 dx = none → dx ≠ x → sp (.ref x :: vs) (upd (upd H1 dx (.own x)) x (.ins C dx [])) (fun v H2 => v = .non ∧ Q (.ref x) H2) E) := ⟨fun h => rd_make h⟩
theorem rd_callC (h : ta σ H fun y H1 => ∃ a, y = V.ref a ∧ t σ H1 fun vs H2 => (∃ dx fs, H2 a = some (.ins C dx fs)) ∧ sp (V.ref a :: vs) H2 Q E) : tCallC C sp E ta t σ H Q := h
instance st_callC : Stp (tCallC C sp E ta t σ H Q) (ta σ H fun y H1 => ∃ a, y = V.ref a ∧ t σ H1 fun vs H2 => (∃ dx fs, H2 a = some (.ins C dx fs)) ∧ sp (V.ref a :: vs) H2 Q E) := ⟨fun h => rd_callC h⟩
theorem rd_callO1 {S : Addr → Prop} (q : S p) : ∃ a, V.ref p = V.ref a ∧ S a := ⟨p, rfl, q⟩
instance st_callO1 {S : Addr → Prop} : Stp (∃ a, V.ref p = V.ref a ∧ S a) (S p) := ⟨fun q => rd_callO1 q⟩
theorem rd_callO2 {dx : Addr} {fs : List (Str × V)} {S : Prop} (h : H p = some (.ins C dx fs)) (q : S) : (∃ dx fs, H p = some (.ins C dx fs)) ∧ S := ⟨⟨dx, fs, h⟩, q⟩
theorem rd_isB {a b : Bool} (q : Q (.bl (decide (a = b))) H) : rIsB (.bl a) (.bl b) H Q := ⟨a, b, rfl, rfl, q⟩
instance st_isB {a b : Bool} : Stp (rIsB (.bl a) (.bl b) H Q) (Q (.bl (decide (a = b))) H) := ⟨fun h => rd_isB h⟩
theorem rd_notB {a b : Bool} (q : Q (.bl (!decide (a = b))) H) : rNotB (.bl a) (.bl b) H Q := ⟨a, b, rfl, rfl, q⟩
instance st_notB {a b : Bool} : Stp (rNotB (.bl a) (.bl b) H Q) (Q (.bl (!decide (a = b))) H) := ⟨fun h => rd_notB h⟩
theorem rd_isNone {x : V} (q : Q (.bl (decide (x = .non))) H) : (V.non = V.non) ∧ Q (.bl (decide (x = .non))) H := ⟨rfl, q⟩
instance st_isNone {x : V} : Stp ((V.non = V.non) ∧ Q (.bl (decide (x = .non))) H) (Q (.bl (decide (x = .non))) H) := ⟨fun h => rd_isNone h⟩
end
theorem kit_self {K : PySem.W.Frag} {C : Addr} : PySem.W.kitOne K (.ref C) (.ref C) = some true := if_pos (by simp)
theorem sub_list {K : PySem.W.Frag} {C : Addr} : PySem.W.subIn K (.type "list") (.ref C) = some false := rfl
theorem kit_list {K : PySem.W.Frag} {C : Addr} (h1 : PySem.W.isClsIn K C = true) (h2 : PySem.W.typeIn K (.ref C) = some (.type "type")) : PySem.W.kitOne K (.type "list") (.ref C) = some false := by
  have e : ((PySem.W.clsIn K C).isSome && PySem.W.typeIn K (.ref C) == some (.type "type")) = true := by
    have h1' : (PySem.W.clsIn K C).isSome = true := h1
    rw [h1', h2] <;> rfl
  show (if (Value.type "list" == Value.ref C) = true then some true else if ((PySem.W.clsIn K C).isSome && PySem.W.typeIn K (.ref C) == some (.type "type")) = true then PySem.W.subIn K (.type "list") (.ref C) else none) = some false
  rw [if_neg (by intro z; cases z), if_pos e]
  exact sub_list
theorem notFirst_list {K : PySem.W.Frag} {C : Addr} : PySem.W.notFirst K C (.type "list") = true := by
  unfold PySem.W.notFirst
  rw [sub_list]
  rfl
end L2
namespace L2
open PySem PySem.Spec PyProof.Rows
/-! ### data without bools: what == tells is equality -/
mutual
def okD : PyData → Nat → Bool
  | .none, _ => true
  | .int _, _ => true
  | .str s, _ => PyData.strOk s
  | .list xs, n => decide (0 < n) && okDs xs (n - 1)
  | .tuple xs, n => decide (0 < n) && okDs xs (n - 1)
  | .bool _, _ => false
  | .dict _, _ => false
def okDs : List PyData → Nat → Bool
  | [], _ => true
  | x :: xs, n => okD x n && okDs xs n
end
mutual
theorem okD_lay : ∀ (d : PyData) (n : Nat), okD d n = true → d.canLay0 = true ∧ d.depth ≤ n
  | .none, _, _ => ⟨rfl, by simp [PyData.depth]⟩
  | .int _, _, _ => ⟨rfl, by simp [PyData.depth]⟩
  | .str s, _, h => ⟨by simpa [okD, PyData.canLay0] using h, by simp [PyData.depth]⟩
  | .list xs, n, h => by
    simp only [okD, Bool.and_eq_true, decide_eq_true_eq] at h
    obtain ⟨a, b⟩ := okDs_lay xs (n - 1) h.2
    refine ⟨by rw [PyData.canLay0]; exact a, ?_⟩
    simp only [PyData.depth]
    omega
  | .tuple xs, n, h => by
    simp only [okD, Bool.and_eq_true, decide_eq_true_eq] at h
    obtain ⟨a, b⟩ := okDs_lay xs (n - 1) h.2
    refine ⟨by rw [PyData.canLay0]; exact a, ?_⟩
    simp only [PyData.depth]
    omega
  | .bool _, _, h => by simp [okD] at h
  | .dict _, _, h => by simp [okD] at h
theorem okDs_lay : ∀ (ds : List PyData) (n : Nat), okDs ds n = true → PyData.canLayAll0 ds = true ∧ PyData.depthAll ds ≤ n
  | [], _, _ => ⟨rfl, Nat.zero_le _⟩
  | d :: ds, n, h => by
    simp only [okDs, Bool.and_eq_true] at h
    obtain ⟨a, b⟩ := okD_lay d n h.1
    obtain ⟨c, e⟩ := okDs_lay ds n h.2
    simp only [PyData.canLayAll0, PyData.depthAll]
    exact ⟨by rw [a, c]; rfl, Nat.max_le.mpr ⟨b, e⟩⟩
end
theorem okD_shaped {d : PyData} (h : okD d 60 = true) : SeqAt.shaped d = true := by
  obtain ⟨a, b⟩ := okD_lay d 60 h
  unfold SeqAt.shaped
  rw [a, Bool.true_and, decide_eq_true_eq]
  omega
open Classical in
noncomputable instance decD (d e : PyData) : Decidable (d = e) := Classical.propDecidable _
section
variable {K : PySem.W.Frag} {H H' : Hp} {Q : VK} {x y : V} {d e : PyData}
theorem Same.seqT {K : PySem.W.Frag} {H H' : Hp} {a : Addr} {xs : List V} (e : Same H H') (h : SqT K H a xs) : SqT K H' a xs := by
  rcases h with (h | ⟨o, h⟩) | h
  · exact .inl (.inl (e _ _ h))
  · exact .inl (.inr ⟨o, e _ _ h⟩)
  · exact .inr h
mutual
theorem Dp.same (s : Same H H') : ∀ {v : V} {d : PyData}, Dp K H v d → Dp K H' v d
  | _, _, .non => .non
  | _, _, .bl b => .bl b
  | _, _, .int i => .int i
  | _, _, .str x => .str x
  | _, _, .lst h a => .lst (s.seq h) (DpAll.same s a)
  | _, _, .tup h a => .tup (Same.seqT s h) (DpAll.same s a)
theorem DpAll.same (s : Same H H') : ∀ {vs : List V} {ds : List PyData}, DpAll K H vs ds → DpAll K H' vs ds
  | _, _, .nil => .nil
  | _, _, .cons h a => .cons (Dp.same s h) (DpAll.same s a)
end
theorem DpAll.len : ∀ {vs : List V} {ds : List PyData}, DpAll K H vs ds → vs.length = ds.length
  | _, _, .nil => rfl
  | _, _, .cons _ a => by rw [List.length_cons, List.length_cons, DpAll.len a]
theorem DpAll.at : ∀ {vs : List V} {ds : List PyData} {i : Nat} {v : V}, DpAll K H vs ds → vs[i]? = some v → ∃ d, ds[i]? = some d ∧ Dp K H v d
  | _, _, i, _, .nil, e => by cases e
  | _, _, 0, _, .cons (d := d) h _, e => ⟨d, rfl, by cases e; exact h⟩
  | _, _, i + 1, _, .cons _ a, e => DpAll.at (i := i) a e
theorem DpAll.snoc : ∀ {vs : List V} {ds : List PyData} {v : V} {d : PyData}, DpAll K H vs ds → Dp K H v d → DpAll K H (vs ++ [v]) (ds ++ [d])
  | _, _, _, _, .nil, h => .cons h .nil
  | _, _, _, _, .cons a r, h => .cons a (DpAll.snoc r h)
theorem DpAll.nil_inv {vs : List V} (h : DpAll K H vs []) : vs = [] := by
  cases h
  rfl
theorem DpAll.cons_inv {vs : List V} {ds : List PyData} (h : DpAll K H vs (d :: ds)) : ∃ v vs', vs = v :: vs' ∧ Dp K H v d ∧ DpAll K H vs' ds := by
  cases h with
  | cons a b => exact ⟨_, _, rfl, a, b⟩
end
/-! ### loops that leave the heap -/
section
theorem rd_eqF {p A B : Prop} [Decidable p] (h : ¬ p) (q : B) : if decide p = true then A else B := by
  rw [decide_eq_false h]
  exact q
theorem rd_neT {p A B : Prop} [Decidable p] (h : ¬ p) (q : A) : if (!decide p) = true then A else B := by
  rw [decide_eq_false h]
  exact q
end
instance st_non {P : Prop} : Stp (V.non = V.non ∧ P) P := ⟨fun h => ⟨rfl, h⟩⟩
theorem non_int {k : Int} : ¬ V.int k = V.non := fun z => V.noConfusion z
theorem non_ref {k : Addr} : ¬ V.ref k = V.non := fun z => V.noConfusion z
theorem upd_at {H : Hp} {p q : Addr} {o u : HO} (h : H p = some o) (n : H p = some o → p ≠ q) : upd H q u p = some o := (upd_ne (n h)).trans h
end L2
namespace L2
open PySem PySem.Spec PyProof.Rows
/-! ### sizes of whole numbers, by bits -/
structure Bd (n : Nat) (x : Int) : Prop where
  h : x.natAbs < 2 ^ n
theorem Bd.mono {n m : Nat} {x : Int} (h : Bd n x) (hm : n ≤ m) : Bd m x := ⟨Nat.lt_of_lt_of_le h.h (Nat.pow_le_pow_right (by decide) hm)⟩
theorem Bd.mul {n m : Nat} {x y : Int} (h : Bd n x) (k : Bd m y) : Bd (n + m) (x * y) := ⟨wide_lt h.h k.h⟩
theorem Bd.neg {n : Nat} {x : Int} (h : Bd n x) : Bd n (-x) := ⟨by
  rw [Int.natAbs_neg]
  exact h.h⟩
theorem Bd.add {n m : Nat} {x y : Int} (h : Bd n x) (k : Bd m y) : Bd (max n m + 1) (x + y) := ⟨by
  have a := (Bd.mono h (Nat.le_max_left n m)).h
  have b := (Bd.mono k (Nat.le_max_right n m)).h
  have := Int.natAbs_add_le x y
  rw [Nat.pow_succ]
  omega⟩
theorem Bd.sub {n m : Nat} {x y : Int} (h : Bd n x) (k : Bd m y) : Bd (max n m + 1) (x - y) := by
  rw [Int.sub_eq_add_neg]
  exact Bd.add h k.neg
theorem Bd.lt {n : Nat} {x : Int} (h : Bd n x) : -(2 ^ n) < x ∧ x < 2 ^ n := by
  have e : ((2 ^ n : Nat) : Int) = 2 ^ n := by rw [Int.natCast_pow]; rfl
  have := h.h
  omega
theorem Bd.of {n : Nat} {x : Int} (h : -(2 ^ n) < x) (k : x < 2 ^ n) : Bd n x := ⟨by
  have e : ((2 ^ n : Nat) : Int) = 2 ^ n := by rw [Int.natCast_pow]; rfl
  omega⟩
theorem Bd.div {n : Nat} {x y : Int} (h : Bd n x) (hy : 0 < y) : Bd (n + 1) (x / y) := by
  have l := h.lt
  have p0 : (0 : Int) < 2 ^ n := Int.pow_pos (by decide)
  have e := Int.mul_ediv_add_emod x y
  have r0 := Int.emod_nonneg x (show y ≠ 0 by omega)
  have r1 := Int.emod_lt_of_pos x hy
  refine Bd.of ?_ ?_
  · rw [Int.pow_succ]
    have : -(2 ^ n) ≤ x / y := by
      refine Int.le_ediv_of_mul_le hy ?_
      have : (2 : Int) ^ n * 1 ≤ 2 ^ n * y := Int.mul_le_mul_of_nonneg_left (by omega) (by omega)
      rw [Int.neg_mul]
      omega
    omega
  · rw [Int.pow_succ]
    by_cases hx : 0 ≤ x
    · have := Int.ediv_le_self y hx
      omega
    · have := Int.ediv_neg_of_neg_of_pos (show x < 0 by omega) hy
      omega
theorem Bd.lit {x : Int} {n : Nat} (h : x.natAbs < 2 ^ 64) (hn : 64 ≤ n) : Bd n x := Bd.mono ⟨h⟩ hn
theorem Bd.mulN {n : Nat} {x y : Int} (h : Bd (n / 2) x) (k : Bd (n / 2) y) : Bd n (x * y) := (h.mul k).mono (by omega)
theorem Bd.addN {n : Nat} {x y : Int} (h : Bd (n - 1) x) (k : Bd (n - 1) y) (hn : 0 < n) : Bd n (x + y) := (h.add k).mono (by omega)
theorem Bd.subN {n : Nat} {x y : Int} (h : Bd (n - 1) x) (k : Bd (n - 1) y) (hn : 0 < n) : Bd n (x - y) := (h.sub k).mono (by omega)
theorem CMulB.bd {x y : Int} (h : Bd 9000 x) (k : Bd 9000 y) : CMulB x y := .inr (wide_mul h.h k.h (by decide) (by decide) (by decide))
end L2
namespace L2
open PySem PySem.Spec PyProof.Rows
/-! ### texts of whole numbers, str(o) of an own __str__ -/
def txI (i : Int) : Str := Str.ofString (toString i)
theorem txI_len {i : Int} {n : Nat} (h : Bd n i) (hn : n ≤ 1000) : (txI i).length ≤ 1001 ∧ i.natAbs.log2 < 1000 := by
  have l : i.natAbs.log2 < 1000 := PySem.Flt.log2_lt_of (by decide) (h.mono hn).h
  have e := int_text_length_le (k := 1000) (by decide) l
  unfold txI
  rw [PySem.ofString_length]
  exact ⟨e, l⟩
def rStrI : List V → Hp → VK → Prop := fun xs H Q => ∃ i, xs = [.int i] ∧ i.natAbs.log2 < 1920 ∧ Q (.str (txI i)) H
section
variable {σ : St} {H : Hp} {Q : VK} {te : TE} {ts : List TE} {acc : Str} {R : Str → Hp → Prop}
def rFmt (Q : VK) : V → Hp → Prop := fun x H1 => (∃ y : Str, x = .str y ∧ y.length ≤ sizeLine ∧ Q (.str y) H1) ∨ ∃ i : Int, x = .int i ∧ i.natAbs.log2 < 1920 ∧ Q (.str (toString i)) H1
instance st_fmt : Stp (tFmt te σ H Q) (te σ H (rFmt Q)) := ⟨fun h => h⟩
theorem rd_fmtI {i : Int} (h : i.natAbs.log2 < 1920) (q : Q (.str (txI i)) H) : rFmt Q (.int i) H := .inr ⟨i, rfl, h, q⟩
instance st_jsN : Stp (tJs [] acc σ H R) (R acc H) := ⟨fun h => h⟩
def rJs (ts : List TE) (acc : Str) (σ : St) (R : Str → Hp → Prop) : V → Hp → Prop := fun x H1 => ∃ y : Str, x = .str y ∧ (acc ++ y).length ≤ sizeLine ∧ tJs ts (acc ++ y) σ H1 R
instance st_jsC : Stp (tJs (te :: ts) acc σ H R) (te σ H (rJs ts acc σ R)) := ⟨fun h => h⟩
theorem rd_strI {i : Int} (h : i.natAbs.log2 < 1920) (q : Q (.str (txI i)) H) : rStrI [.int i] H Q := ⟨i, rfl, h, q⟩
end
end L2
namespace L2
open PySem PySem.Spec PyProof.Rows
/-! ### walks of other kinds -/
section
variable {σ : St} {H : Hp} {K : PySem.W.Frag} {t : TS} {nx : St → Hp → Prop} {rt : VK} {Q : VK} {tr : TA} {te : TE} {tt : TT} {S : It → Hp → Prop} {J : It} {n : Nat} {G : Hp → Prop} {Y : Nat → Hp → V → Hp → Prop}
theorem rd_forW (w : Walk J n G Y) {g : TG} (Pv : Nat → St → Hp → Prop) (h0 : Pv 0 σ H) (hG : ∀ i σ H, i ≤ n → Pv i σ H → G H)
    (hs : ∀ i x σ H H', i < n → Pv i σ H → Y i H x H' → g x σ H' fun σ2 H2 => t ⟨Pv (i + 1), rt, nx, Pv (i + 1)⟩ σ2 H2) (hd : ∀ σ H, Pv n σ H → nx σ H) : fBody J g t nx rt σ H :=
  for_it (D := ⟨nx, rt, fun _ _ => False, fun _ _ => False⟩) w Pv h0 hG hs hd
def rIRev (K : PySem.W.Frag) (S : It → Hp → Prop) (vs : List V) (H : Hp) : Prop := ∃ (a : Addr) (xs : List V), vs = [.ref a] ∧ SqL K H a xs ∧ S (Itv K a xs.length) H
instance st_iRev : Stp (iRev K tr σ H S) (tr σ H (rIRev K S)) := ⟨fun h => h⟩
theorem rd_iRev1 {a : Addr} {xs : List V} (h : SqL K H a xs) (q : S (Itv K a xs.length) H) : rIRev K S [.ref a] H := ⟨a, xs, rfl, h, q⟩
theorem rd_forV {a : Addr} {xs : List V} {g : TG} (Pv : Nat → St → Hp → Prop) (h0 : Pv 0 σ H) (hl : ∀ i σ H, i ≤ xs.length → Pv i σ H → SqL K H a xs)
    (hs : ∀ i x σ H, xs.reverse[i]? = some x → Pv i σ H → g x σ H fun σ2 H2 => t ⟨Pv (i + 1), rt, nx, Pv (i + 1)⟩ σ2 H2) (hd : ∀ σ H, Pv xs.length σ H → nx σ H) : fBody (Itv K a xs.length) g t nx rt σ H :=
  rd_forW (walk_rev (K := K) (a := a) (xs := xs)) Pv h0 hl (fun i x σ H H' hi p y => by
    obtain ⟨rfl, y⟩ := y
    refine hs i x σ _ ?_ p
    rw [List.getElem?_reverse hi]
    exact y) hd
theorem rd_forVs {a : Addr} {xs : List V} {g : TG} (Pv : Nat → St → Prop) (hl : SqL K H a xs) (h0 : Pv 0 σ)
    (hs : ∀ i x σ, xs.reverse[i]? = some x → Pv i σ → g x σ H fun σ2 H2 => t ⟨fun σ' H' => H = H' ∧ Pv (i + 1) σ', rt, nx, fun σ' H' => H = H' ∧ Pv (i + 1) σ'⟩ σ2 H2) (hd : ∀ σ, Pv xs.length σ → nx σ H) : fBody (Itv K a xs.length) g t nx rt σ H :=
  rd_forV (fun i σ' H' => H = H' ∧ Pv i σ') ⟨rfl, h0⟩ (fun i σ' H' _ p => by obtain ⟨rfl, _⟩ := p; exact hl) (fun i x σ' H' hi p => by obtain ⟨rfl, p⟩ := p; exact hs i x σ' hi p) fun σ' H' p => by obtain ⟨rfl, p⟩ := p; exact hd σ' p
/-- a comprehension over a list; each turn only makes new things -/
theorem rd_lcP {a : Addr} {xs : List V} {g : TG} {vs : List Nat} (P : Nat → List V → Prop) (hS : SqL K H a xs) (nt : NoT H) (h0 : P 0 [])
    (hs : ∀ D i ys x H', xs[i]? = some x → Same H H' → NoT H' → H D = none → H' D = some (.lst ys) → P i ys → g x (wipe σ vs) H' fun σ2 H2 => wipe σ2 vs = wipe σ vs ∧ tt σ2 H2 fun b H3 =>
      if b = true then te σ2 H3 (fun y H4 => ∃ acc, H4 D = some (.lst acc) ∧ acc.length < sizeLine ∧ ∃ ys, upd H4 D (.lst (acc ++ [y])) D = some (.lst ys) ∧ Same H (upd H4 D (.lst (acc ++ [y]))) ∧ NoT (upd H4 D (.lst (acc ++ [y]))) ∧ P (i + 1) ys)
      else ∃ ys, H3 D = some (.lst ys) ∧ Same H H3 ∧ NoT H3 ∧ P (i + 1) ys)
    (q : ∀ D ys H', H D = none → H' D = some (.lst ys) → Same H H' → NoT H' → P xs.length ys → Q (.ref D) H') : lcB (Itl K a) g tt te vs σ Q H := by
  intro D hD
  refine lc_it (walk_list (K := K) (a := a) (xs := xs)) (fun i H' => ∃ ys, H' D = some (.lst ys) ∧ Same H H' ∧ NoT H' ∧ P i ys) ⟨[], upd_same, same_new hD, NoT.upd nt rfl, h0⟩ (fun i H' _ ⟨ys, _, s, _⟩ => s.seq hS) ?_ (fun H' ⟨ys, h1, s, n, p⟩ => q D ys H' hD h1 s n p)
  rintro i x H' H'' hi ⟨ys, h1, s, n, p⟩ ⟨rfl, hx⟩
  exact hs D i ys x _ hx s n hD h1 p
theorem put_P {P : List V → Prop} {D : Addr} {H H4 : Hp} {acc : List V} {y : V} (h : H4 D = some (.lst acc)) (hl : acc.length < sizeLine) (sm : Same H H4) (hD : H D = none) (n : NoT H4) (p : P (acc ++ [y])) :
    ∃ acc, H4 D = some (.lst acc) ∧ acc.length < sizeLine ∧ ∃ ys, upd H4 D (.lst (acc ++ [y])) D = some (.lst ys) ∧ Same H (upd H4 D (.lst (acc ++ [y]))) ∧ NoT (upd H4 D (.lst (acc ++ [y]))) ∧ P ys :=
  ⟨acc, h, hl, _, upd_same, same_upd2 sm hD, NoT.upd n rfl, p⟩
end
def rRevV (K : PySem.W.Frag) (Q : VK) : V → Hp → Prop := fun x H1 => ∃ a xs, x = .ref a ∧ SqL K H1 a xs ∧ ∀ p, H1 p = none → Q (.ref p) (upd H1 p (.lst xs.reverse))
instance st_revL {K : PySem.W.Frag} {te : TE} {σ : St} {H : Hp} {Q : VK} : Stp (tRevL K te σ H Q) (te σ H (rRevV K Q)) := ⟨fun h => h⟩
theorem rd_revV {K : PySem.W.Frag} {H : Hp} {Q : VK} {a : Addr} {xs : List V} (h : SqL K H a xs) (q : ∀ p, H p = none → Q (.ref p) (upd H p (.lst xs.reverse))) : rRevV K Q (.ref a) H := ⟨a, xs, rfl, h, q⟩
theorem same_upd3 {H H' : Hp} {p : Addr} {o : HO} (h : Same H H') (hp : H' p = none) : Same H (upd H' p o) := same_upd2 h (h.free hp)
section
variable {H : Hp} {Q : VK} {i : Int}
theorem rd_eqNN (q : Q (.bl true) H) : rEq .non .non H Q := ⟨rfl, by simpa using q⟩
instance st_eqNN : Stp (rEq .non .non H Q) (Q (.bl true) H) := ⟨fun h => rd_eqNN h⟩
theorem rd_neNN (q : Q (.bl false) H) : rNe .non .non H Q := ⟨rfl, by simpa using q⟩
instance st_neNN : Stp (rNe .non .non H Q) (Q (.bl false) H) := ⟨fun h => rd_neNN h⟩
theorem rd_eqNI (q : Q (.bl false) H) : rEq .non (.int i) H Q := ⟨rfl, by simpa using q⟩
instance st_eqNI : Stp (rEq .non (.int i) H Q) (Q (.bl false) H) := ⟨fun h => rd_eqNI h⟩
theorem rd_neNI (q : Q (.bl true) H) : rNe .non (.int i) H Q := ⟨rfl, by simpa using q⟩
instance st_neNI : Stp (rNe .non (.int i) H Q) (Q (.bl true) H) := ⟨fun h => rd_neNI h⟩
theorem rd_eqIN (q : Q (.bl false) H) : rEq (.int i) .non H Q := ⟨rfl, by simpa using q⟩
instance st_eqIN : Stp (rEq (.int i) .non H Q) (Q (.bl false) H) := ⟨fun h => rd_eqIN h⟩
theorem rd_neIN (q : Q (.bl true) H) : rNe (.int i) .non H Q := ⟨rfl, by simpa using q⟩
instance st_neIN : Stp (rNe (.int i) .non H Q) (Q (.bl true) H) := ⟨fun h => rd_neIN h⟩
end
end L2
namespace L2
open PySem PySem.Spec PyProof.Rows
/-! ### sets of ints -/
section
variable {P : Program} {w : World} {K : PySem.W.Frag} {mg : Str → Option Value} {base : Heap}
/-- a def whose text asks of its code object -/
theorem DefAt.okC {x : Str} {st : Stmt} {N ps : List Str} {k : Nat} {sp : Sp} (D : DefAt K mg x st ps) (S : FnScope N ps (defScope st)) (len : ∀ vs H Q E, sp vs H Q E → vs.length = ps.length)
    (body : ∀ (f : Addr) (cdv : Value) (hcd : PySem.W.kdsCode K cdv = true) (A : Around) (outer : List Env) (s : Shared) (H : Hp) (vs : List V) (Q : VK) (E : XK), Room k (A.deeper (envOfC x (defScope st) s.heap.objs.size f cdv)) → sp vs H Q E →
      ∃ t, PSs (cxOf (L2.CX P w) P w K mg base N x (defScope st) f cdv A outer s H E) (defBody st) t ∧ t ⟨fun _ H' => Q .non H', Q, fun _ _ => False, fun _ _ => False⟩ (start N vs) H) : Def P w K mg base (k + 1) x ps sp := by
  obtain ⟨f, fd, F, g, b⟩ := D.ex
  have kp := F.kp
  obtain ⟨c0, d0, v1, v2, v3, v4, cdv, v5, sl, rfl, lk, hcd⟩ := F.ex
  exact ⟨f, _, fn_of lk hcd S len fun A outer s H vs Q E r h => body f cdv (kdsCode_of hcd) A outer s H vs Q E r h, g, kp, b⟩
end
section
variable {X : Cx}
def setNo : Int → Bool := fun _ => false
/-- two ints in braces -/
def tSet2 (w : World) (t1 t2 : TE) : TE := fun σ H Q => ∀ D, H D = none → t1 σ (upd H D (SetO w D setNo 0)) fun x H1 => t2 σ H1 fun y H2 => ∃ i j : Int, x = .int i ∧ y = .int j ∧ H2 D = some (SetO w D setNo 0) ∧
  Q (.ref D) (upd H2 D (SetO w D (fun k => decide (k = i ∨ k = j)) (if i = j then 1 else 2)))
theorem setAdd_int {pins : List (Addr × Obj)} {σ : St} {H : Hp} {s : Shared} {D : Addr} {S : Int → Bool} {n : Nat} {k : Int} {u : Value} {A : Around} {E : Value → Shared → Prop} {Q : Bool → Shared → Prop} (I : Inv X pins σ H s) (hD : H D = some (SetO X.w D S n)) (hn : n + 1 < scanBound) (hu : RelV (.int k) u)
    (q : ∀ s', Inv X pins σ (upd H D (SetO X.w D (fun j => S j || decide (j = k)) (if S k = true then n else n + 1))) s' → ∀ b, Q b s') : wpAny (model X.prog X.w) A (setAdd D u) Q E s := by
  obtain ⟨tk, rfl⟩ := hu
  have R := setO_get I hD
  unfold setAdd
  refine wpAny_holding (wpAny_bind ((intKind X.prog X.w).pyHash (intKind_is X.prog X.w k tk) ?_))
  refine setR_add_hashed (s := { s with toks := s.toks + 1 }) R hn fun h' sb new => q _ ?_ _
  have there : ∃ o, h'.get? D = some o := by
    obtain ⟨o, _, _, _, ho, _⟩ := new
    exact ⟨o, ho⟩
  exact I.write (e := D) (t' := s.toks + 1) (by rw [hD]; trivial) (.inl rfl) (fun b o ne ho => (sb.2 b ne).trans ho) there (setO_new new)
theorem pe_set2 {e1 e2 : Expr} {t1 t2 : TE} {pos : Pos} (h1 : PE X e1 t1) (h2 : PE X e2 t2) (hcd : PySem.W.kdsCode X.K X.env.code = true)
    (hs : starEach [e1, e2] X.env = [(false, eval e1 X.env), (false, eval e2 X.env)] := by rfl) : PE X (.Set [e1, e2] 0 pos) (tSet2 X.w t1 t2) := by
  refine ⟨fun pins s σ H Q I h => ?_⟩
  rw [arm_eval_Set, hs]
  refine wpAny_bind (wpAny_standAt (wpAny_bind (PySem.W.kds_main I.kIn hcd fun b => ?_)))
  show wpAny _ _ (setDisplay .oneByOne b [(false, eval e1 X.env >>= fun v => standAt pos >>= fun _ => pure v), (false, eval e2 X.env >>= fun v => standAt pos >>= fun _ => pure v)]) _ _ _
  unfold setDisplay
  rw [if_neg (by decide)]
  refine wpAny_bind (PpSet.newSet_ok ?_)
  have I1 : Inv X pins σ (upd H s.heap.objs.size (SetO X.w s.heap.objs.size setNo 0)) _ := I.laid (t' := s.toks) (fun b o z => Heap.get?_push_of_some _ z) (Nat.le_refl _) (setO_new (setR_fresh X.w))
  replace h := h s.heap.objs.size (I.hok.fresh (Nat.le_refl _))
  generalize s.heap.objs.size = D at *
  refine wpAny_bind (wpAny_holding (wpAny_bind ?_))
  show wpAny _ _ (evalAll [eval e1 X.env >>= fun v => standAt pos >>= fun _ => pure v, eval e2 X.env >>= fun v => standAt pos >>= fun _ => pure v]) _ _ _
  refine wpAny_bind (wpAny_bind (thn (h1.run pins _ σ _ _ I1 h) fun u1 s1 ⟨x, H1, I2, r1, g⟩ => wpAny_bind (wpAny_standAt (wpAny_pure ?_))))
  refine wpAny_bind (wpAny_holding (wpAny_bind (wpAny_bind (thn (h2.run pins _ σ _ _ I2 g) fun u2 s2 ⟨y, H2, I3, r2, i, j, ex, ey, hD, q⟩ => wpAny_bind (wpAny_standAt (wpAny_pure ?_))))))
  subst ex ey
  refine wpAny_bind (wpAny_holding (wpAny_pure (wpAny_pure (wpAny_pure ?_))))
  refine wpAny_bind (wpAny_holding (wpAny_bind ?_))
  rw [List.forIn_cons]
  refine wpAny_bind (wpAny_bind (setAdd_int I3 hD (by decide) r1 fun s3 I4 _ => wpAny_pure ?_))
  dsimp only
  rw [List.forIn_cons]
  refine wpAny_bind (wpAny_bind (setAdd_int I4 upd_same (by show 0 + 1 + 1 < scanBound; decide) r2 fun s4 I5 _ => wpAny_pure ?_))
  dsimp only
  rw [List.forIn_nil, if_neg (by decide)]
  refine wpAny_pure (wpAny_pure (wpAny_pure ?_))
  rw [upd_upd] at I5
  have e1 : (fun l => setNo l || decide (l = i) || decide (l = j)) = fun k : Int => decide (k = i ∨ k = j) := by
    funext l
    simp [setNo]
  have e2 : (if (setNo j || decide (j = i)) = true then if setNo i = true then 0 else 0 + 1 else (if setNo i = true then 0 else 0 + 1) + 1) = if i = j then 1 else 2 := by
    by_cases z : i = j
    · simp [setNo, z]
    · have z2 : ¬ j = i := fun y => z y.symm
      simp [setNo, z, z2]
  rw [e1, e2] at I5
  exact wpAny_pure ⟨.ref D, _, I5, rfl, q⟩
instance st_set2 {w : World} {t1 t2 : TE} {σ : St} {H : Hp} {Q : VK} : Stp (tSet2 w t1 t2 σ H Q) (∀ D, H D = none → t1 σ (upd H D (SetO w D setNo 0)) fun x H1 => t2 σ H1 fun y H2 => ∃ i j : Int, x = .int i ∧ y = .int j ∧ H2 D = some (SetO w D setNo 0) ∧
  Q (.ref D) (upd H2 D (SetO w D (fun k => decide (k = i ∨ k = j)) (if i = j then 1 else 2)))) := ⟨fun h => h⟩
instance st_par3 {i j l : Nat} {ta : TA} {σ : St} {H : Hp} {nx : St → Hp → Prop} {rt : VK} {bk ct : St → Hp → Prop} : Stp (tPar3 i j l ta ⟨nx, rt, bk, ct⟩ σ H) (ta σ H fun vs H1 => ∃ u v w, vs = [u, v, w] ∧ nx (((σ.set i (some u)).set j (some v)).set l (some w)) H1) := ⟨fun h => h⟩
instance st_par3e {u v w : V} {nx : V → V → V → Prop} : Stp (∃ u' v' w', [u, v, w] = [u', v', w'] ∧ nx u' v' w') (nx u v w) := ⟨fun h => ⟨u, v, w, rfl, h⟩⟩
/-- sorted of two ints in braces -/
theorem rd_sortSet2 {w : World} {D : Addr} {i j : Int} {n : Nat} {H : Hp} {Q : VK} (hD : H D = some (SetO w D (fun k => decide (k = i ∨ k = j)) n)) (hn : n < 64)
    (q : ∀ p, H p = none → Q (.ref p) (upd H p (.lst ((if i < j then [i, j] else if j < i then [j, i] else [i]).map V.int)))) : rSortedSet w [.ref D] H Q := by
  refine ⟨D, _, n, rfl, hD, hn, fun ns p h1 h2 _ hp => ?_⟩
  have e : ns = if i < j then [i, j] else if j < i then [j, i] else [i] := by
    have mem : ∀ k, k ∈ ns ↔ k = i ∨ k = j := fun k => by rw [h2 k]; simp
    match ns, h1, mem with
    | [], _, mem => exact absurd ((mem i).mpr (.inl rfl)) List.not_mem_nil
    | [a], _, mem =>
      have a1 := List.mem_singleton.mp ((mem i).mpr (.inl rfl))
      have a2 := List.mem_singleton.mp ((mem j).mpr (.inr rfl))
      subst a1
      subst a2
      rw [if_neg (by omega), if_neg (by omega)]
    | a :: b :: l, h1, mem =>
      obtain ⟨p1, p2⟩ := List.pairwise_cons.mp h1
      have hab := p1 b List.mem_cons_self
      have ha := (mem a).mp List.mem_cons_self
      have hb := (mem b).mp (List.mem_cons_of_mem _ List.mem_cons_self)
      have hl : l = [] := by
        cases l with
        | nil => rfl
        | cons c l =>
          have hc := (mem c).mp (List.mem_cons_of_mem _ (List.mem_cons_of_mem _ List.mem_cons_self))
          have h3 := p1 c (List.mem_cons_of_mem _ List.mem_cons_self)
          have h4 := (List.pairwise_cons.mp p2).1 c List.mem_cons_self
          omega
      subst hl
      rcases ha with rfl | rfl
      · rcases hb with rfl | rfl
        · omega
        · rw [if_pos hab]
      · rcases hb with rfl | rfl
        · rw [if_neg (by omega), if_pos hab]
        · omega
  rw [e]
  exact q p hp
end
end L2
namespace L2
open PySem PySem.Spec PyProof.Rows
section
variable {X : Cx}
/-- a set of whol, made by a comprehension: D the new set, Z what each turn keeps -/
def tScI (w : World) (wi : TI) (g : TG) (tt : TT) (te : TE) (vs : List Nat) : TE := fun σ H Q => wi σ H fun J H1 => ∀ D, H1 D = none → ∃ Z : Nat → Nat → Hp → Prop, (∃ m, Z 0 m (upd H1 D (SetO w D setNo 0))) ∧ ∀ i m G, Z i m G →
  (J.stop i G ∧ Q (.ref D) G) ∨ (J.go i G ∧ ∃ Y : Hp → Prop, (∀ G', Y G' → ∃ l, l < m ∧ Z (i + 1) l G') ∧ ∀ x G', J.yld i G x G' → g x (wipe σ vs) G' fun σ2 G2 => wipe σ2 vs = wipe σ vs ∧ tt σ2 G2 fun b G3 =>
    if b = true then te σ2 G3 fun y G4 => ∃ (c : Int) (S : Int → Bool) (n : Nat), y = .int c ∧ G4 D = some (SetO w D S n) ∧ n + 1 < scanBound ∧ Y (upd G4 D (SetO w D (fun j => S j || decide (j = c)) (if S c = true then n else n + 1))) else Y G3)
end
/-! ### sorted of a set of whol, of any size -/
/-! ### readings -/
section
variable {w : World} {σ : St} {H : Hp} {Q : VK} {K : PySem.W.Frag} {te : TE} {tt : TT}
def inS (l : List Int) : Int → Bool := fun k => decide (k ∈ l)
theorem inS_nil : inS [] = setNo := by
  funext k
  simp [inS, setNo]
theorem inS_snoc {l : List Int} {c : Int} : (fun j => inS l j || decide (j = c)) = inS (l ++ [c]) := by
  funext k
  simp [inS]
def scB (w : World) (J : It) (g : TG) (tt : TT) (te : TE) (vs : List Nat) (σ : St) (Q : VK) (H1 : Hp) : Prop := ∀ D, H1 D = none → ∃ Z : Nat → Nat → Hp → Prop, (∃ m, Z 0 m (upd H1 D (SetO w D setNo 0))) ∧ ∀ i m G, Z i m G →
  (J.stop i G ∧ Q (.ref D) G) ∨ (J.go i G ∧ ∃ Y : Hp → Prop, (∀ G', Y G' → ∃ l, l < m ∧ Z (i + 1) l G') ∧ ∀ x G', J.yld i G x G' → g x (wipe σ vs) G' fun σ2 G2 => wipe σ2 vs = wipe σ vs ∧ tt σ2 G2 fun b G3 =>
    if b = true then te σ2 G3 fun y G4 => ∃ (c : Int) (S : Int → Bool) (n : Nat), y = .int c ∧ G4 D = some (SetO w D S n) ∧ n + 1 < scanBound ∧ Y (upd G4 D (SetO w D (fun j => S j || decide (j = c)) (if S c = true then n else n + 1))) else Y G3)
instance st_scI {wi : TI} {g : TG} {vs : List Nat} : Stp (tScI w wi g tt te vs σ H Q) (wi σ H fun J H1 => scB w J g tt te vs σ Q H1) := ⟨fun h => h⟩
end
end L2
namespace L2
open PySem PySem.Spec PyProof.Rows
/-! ### a set of ints by a comprehension of two clauses -/
section
variable {X : Cx}
/-- the inner clause's own loop, from which Y is reached -/
def sc2_inner (w : World) (D : Addr) (g1 : TG) (tt1 : TT) (te : TE) (vs1 : List Nat) (σ2 : St) (Y : Hp → Prop) (J1 : It) (G4 : Hp) : Prop := ∃ Z1 : Nat → Nat → Hp → Prop, (∃ m, Z1 0 m G4) ∧ ∀ j k G, Z1 j k G →
  (J1.stop j G ∧ Y G) ∨ (J1.go j G ∧ ∃ Y1 : Hp → Prop, (∀ G', Y1 G' → ∃ l, l < k ∧ Z1 (j + 1) l G') ∧ ∀ x G', J1.yld j G x G' → g1 x (wipe σ2 vs1) G' fun σ3 G5 => wipe σ3 vs1 = wipe σ2 vs1 ∧ tt1 σ3 G5 fun b G6 =>
    if b = true then te σ3 G6 fun y G7 => ∃ (c : Int) (S : Int → Bool) (n : Nat), y = .int c ∧ G7 D = some (SetO w D S n) ∧ n + 1 < scanBound ∧ Y1 (upd G7 D (SetO w D (fun j => S j || decide (j = c)) (if S c = true then n else n + 1))) else Y1 G6)
def tScI2 (w : World) (wi : TI) (g : TG) (tt : TT) (wi1 : TI) (g1 : TG) (tt1 : TT) (te : TE) (vs vs1 : List Nat) : TE := fun σ H Q => wi σ H fun J H1 => ∀ D, H1 D = none → ∃ Z : Nat → Nat → Hp → Prop, (∃ m, Z 0 m (upd H1 D (SetO w D setNo 0))) ∧ ∀ i m G, Z i m G →
  (J.stop i G ∧ Q (.ref D) G) ∨ (J.go i G ∧ ∃ Y : Hp → Prop, (∀ G', Y G' → ∃ l, l < m ∧ Z (i + 1) l G') ∧ ∀ x G', J.yld i G x G' → g x (wipe σ vs) G' fun σ2 G2 => wipe σ2 vs = wipe σ vs ∧ tt σ2 G2 fun b G3 =>
    if b = true then wi1 σ2 G3 (sc2_inner w D g1 tt1 te vs1 σ2 Y) else Y G3)
end
end L2
/-! ### a set of ints as what was put in, in order -/
namespace L2
open PySem PySem.Spec PyProof.Rows
def insL (l : List Int) (c : Int) : List Int := if c ∈ l then l else l ++ [c]
def ofL (xs : List Int) : List Int := xs.foldl insL []
theorem ofL_snoc {xs : List Int} {c : Int} : ofL (xs ++ [c]) = insL (ofL xs) c := by
  unfold ofL
  rw [List.foldl_append]
  rfl
section
variable {w : World} {σ : St} {H : Hp} {Q : VK} {K : PySem.W.Frag} {te : TE} {tt : TT}
/-- the heap with the set of what stands in xs at D -/
def SetL (w : World) (H : Hp) (D : Addr) (xs : List Int) : Hp := upd H D (SetO w D (inS (ofL xs)) (ofL xs).length)
theorem SetL.at {D : Addr} {xs : List Int} : SetL w H D xs D = some (SetO w D (inS (ofL xs)) (ofL xs).length) := upd_same
theorem SetL.same {D : Addr} {xs : List Int} (h : H D = none) : Same H (SetL w H D xs) := same_new h
theorem SetL.nt {D : Addr} {xs : List Int} (h : NoT H) : NoT (SetL w H D xs) := NoT.upd h rfl
theorem SetL.nil {D : Addr} : upd H D (SetO w D setNo 0) = SetL w H D [] := by rw [← inS_nil]; rfl
theorem SetL.put {D : Addr} {xs : List Int} {c : Int} : upd (SetL w H D xs) D (SetO w D (fun j => inS (ofL xs) j || decide (j = c)) (if inS (ofL xs) c = true then (ofL xs).length else (ofL xs).length + 1)) = SetL w H D (xs ++ [c]) := by
  unfold SetL
  rw [upd_upd, ofL_snoc, inS_snoc]
  by_cases h : c ∈ ofL xs
  · have e1 : inS (ofL xs) c = true := decide_eq_true h
    have e2 : inS (ofL xs ++ [c]) = inS (ofL xs) := by
      funext k
      refine decide_eq_decide.mpr ?_
      rw [List.mem_append, List.mem_singleton]
      exact ⟨fun z => z.elim id fun e => e ▸ h, .inl⟩
    rw [if_pos e1, e2, show insL (ofL xs) c = ofL xs from if_pos h]
  · have e1 : ¬ inS (ofL xs) c = true := fun z => h (of_decide_eq_true z)
    rw [if_neg e1, show insL (ofL xs) c = ofL xs ++ [c] from if_neg h, List.length_append]
    rfl
/-- two clauses -/
def sc2B (w : World) (J : It) (g : TG) (tt : TT) (wi1 : TI) (g1 : TG) (tt1 : TT) (te : TE) (vs vs1 : List Nat) (σ : St) (Q : VK) (H1 : Hp) : Prop := ∀ D, H1 D = none → ∃ Z : Nat → Nat → Hp → Prop, (∃ m, Z 0 m (upd H1 D (SetO w D setNo 0))) ∧ ∀ i m G, Z i m G →
  (J.stop i G ∧ Q (.ref D) G) ∨ (J.go i G ∧ ∃ Y : Hp → Prop, (∀ G', Y G' → ∃ l, l < m ∧ Z (i + 1) l G') ∧ ∀ x G', J.yld i G x G' → g x (wipe σ vs) G' fun σ2 G2 => wipe σ2 vs = wipe σ vs ∧ tt σ2 G2 fun b G3 =>
    if b = true then wi1 σ2 G3 (sc2_inner w D g1 tt1 te vs1 σ2 Y) else Y G3)
instance st_scI2 {wi wi1 : TI} {g g1 : TG} {tt1 : TT} {vs vs1 : List Nat} : Stp (tScI2 w wi g tt wi1 g1 tt1 te vs vs1 σ H Q) (wi σ H fun J H1 => sc2B w J g tt wi1 g1 tt1 te vs vs1 σ Q H1) := ⟨fun h => h⟩
end
end L2
namespace L2
open PySem PySem.Spec PyProof.Rows
/-! ### list comprehensions over a list of ints -/
section
variable {σ : St} {H : Hp} {Q : VK} {K : PySem.W.Frag} {te : TE} {tt : TT}
def resI (p : Int → Bool) (f : Int → V) (ns : List Int) : List V := (ns.filter p).map f
theorem resI_len {p : Int → Bool} {f : Int → V} {ns : List Int} : (resI p f ns).length ≤ ns.length := by
  unfold resI
  rw [List.length_map]
  exact List.length_filter_le _ _
theorem put_I {D : Addr} {p : Int → Bool} {f : Int → V} {l : List Int} {x : Int} {y : V} (hi : l.length < 1000000) (hp : p x = true) (hy : y = f x) : LcPut H D (resI p f l) (resI p f (l ++ [x])) y (upd H D (.lst (resI p f l))) := by
  refine ⟨_, upd_same, Nat.lt_of_le_of_lt resI_len (Nat.lt_trans hi (by decide)), ?_⟩
  rw [upd_upd]
  unfold resI
  rw [List.filter_append, List.map_append, hy]
  simp [hp]
theorem rd_lcI {a : Addr} {ns : List Int} {g : TG} {vs : List Nat} (p : Int → Bool) (f : Int → V) (hS : SqL K H a (ns.map V.int))
    (hs : ∀ D l x r, H D = none → ns = l ++ x :: r → g (.int x) (wipe σ vs) (upd H D (.lst (resI p f l))) fun σ2 H2 => wipe σ2 vs = wipe σ vs ∧ tt σ2 H2 fun b H3 => if b = true then te σ2 H3 (LcPut H D (resI p f l) (resI p f (l ++ [x]))) else LcSkip H D (resI p f (l ++ [x])) H3)
    (q : ∀ D, H D = none → Q (.ref D) (upd H D (.lst ((ns.filter p).map f)))) : lcB (Itl K a) g tt te vs σ Q H := by
  intro D hD
  refine ⟨fun i m H' => m = ns.length - i ∧ i ≤ ns.length ∧ H' = upd H D (.lst (resI p f (ns.take i))), ⟨ns.length, by simp, Nat.zero_le _, rfl⟩, ?_⟩
  rintro i m H' ⟨rfl, hi, rfl⟩
  have hS' : SqL K (upd H D (.lst (resI p f (ns.take i)))) a (ns.map V.int) := (same_new hD).seq hS
  by_cases hlt : i < ns.length
  · have hx : (ns.map V.int)[i]? = some (.int ns[i]) := by simp [hlt]
    have er : ns.take (i + 1) = ns.take i ++ [ns[i]] := by rw [List.take_add_one, List.getElem?_eq_getElem hlt]; rfl
    refine .inr ⟨⟨_, _, hS', hx⟩, fun H' => H' = upd H D (.lst (resI p f (ns.take (i + 1)))), fun H' p' => ⟨ns.length - (i + 1), by omega, rfl, hlt, p'⟩, fun x H' y => ?_⟩
    obtain ⟨e, y⟩ := y
    subst e
    have ex : x = .int ns[i] := Option.some.inj ((y _ hS').symm.trans hx)
    subst ex
    have z := hs D (ns.take i) ns[i] (ns.drop (i + 1)) hD (by rw [List.getElem_cons_drop, List.take_append_drop])
    rw [← er] at z
    exact z
  · have e : i = ns.length := by omega
    subst e
    rw [List.take_length]
    exact .inl ⟨⟨_, (same_new hD).seq hS, by rw [List.length_map]; exact Nat.le_refl _⟩, q D hD⟩
end
end L2
namespace L2
open PySem PySem.Spec PyProof.Rows
/-! ### making and methods within a try -/
section
variable {X : Cx} {k : Nat} {f C : Addr} {fd : FuncData} {ps : List PySem.Str} {sp : Sp} {x m : PySem.Str} {p pos apos : Pos} {e o : Expr} {es : List Expr} {ta : TE} {t : TA} {W : WX}
def tMakeT (C : Addr) (sp : Sp) (E : St → XK) (t : TA) : TE := fun σ H Q => t σ H fun vs H1 => ∀ x dx, H1 x = none → H1 dx = none → dx ≠ x → sp (.ref x :: vs) (upd (upd H1 dx (.own x)) x (.ins C dx [])) (fun v H2 => v = .non ∧ Q (.ref x) H2) (E σ)
instance st_makeS {σ : St} {H : Hp} {Q : VK} {E : St → XK} : Stp (tMakeT C sp E t σ H Q) (t σ H fun vs H1 => ∀ x dx, H1 x = none → H1 dx = none → dx ≠ x → sp (.ref x :: vs) (upd (upd H1 dx (.own x)) x (.ins C dx [])) (fun v H2 => v = .non ∧ Q (.ref x) H2) (E σ)) := ⟨fun h => h⟩
/-- o.m(e, ..) within a try -/
def tMethT (C : Addr) (m : PySem.Str) (sp : Sp) (E : St → XK) (ta : TE) (t : TA) : TE := fun σ H Q => ta σ H fun x H1 => ∃ a dx fs, x = .ref a ∧ H1 a = some (.ins C dx fs) ∧ fs.lookup m = none ∧ t σ H1 fun vs H2 => sp (x :: vs) H2 Q (E σ)
instance st_methT {σ : St} {H : Hp} {Q : VK} {E : St → XK} : Stp (tMethT C m sp E ta t σ H Q) (ta σ H fun x H1 => ∃ a dx fs, x = .ref a ∧ H1 a = some (.ins C dx fs) ∧ fs.lookup m = none ∧ t σ H1 fun vs H2 => sp (x :: vs) H2 Q (E σ)) := ⟨fun h => h⟩
end
end L2
namespace L2
open PySem PySem.Spec PyProof.Rows
section
variable {H : Hp} {Q : VK} {K : PySem.W.Frag} {a : Addr}
theorem rd_sortedI {ns : List Int} (h : SqL K H a (ns.map V.int)) (q : ∀ (ms : List Int) (p : Addr), ms.Perm ns → ms.Pairwise (· ≤ ·) → H p = none → Q (.ref p) (upd H p (.lst (ms.map V.int)))) : rSortedI K [.ref a] H Q := ⟨a, ns, rfl, h, q⟩
end
end L2
namespace L2
open PySem PySem.Spec PyProof.Rows
/-! ### dicts with ints as keys -/
section
variable {σ : St} {H : Hp} {Q : VK} {K : PySem.W.Frag} {v x y : V} {td ty tv : TE} {a : Addr} {i : Int} {kvs : List (Key × V)} {nx : St → Hp → Prop} {rt : VK} {bk ct : St → Hp → Prop}
instance st_dnewK : Stp (tDNewK σ H Q) (∀ p, H p = none → Q (.ref p) (upd H p (.dK []))) := ⟨fun h => h⟩
def rDGetV (Q : VK) : V → V → Hp → Prop := fun x y H => ∃ a v, x = .ref a ∧ DGet H a y (some v) ∧ Q v H
def rDInV (Q : VK) : V → V → Hp → Prop := fun x y H => ∃ a o, x = .ref a ∧ DGet H a y o ∧ Q (.bl o.isSome) H
def rDNinV (Q : VK) : V → V → Hp → Prop := fun x y H => ∃ a o, x = .ref a ∧ DGet H a y o ∧ Q (.bl (!o.isSome)) H
def rDPutV (S : Hp → Prop) : V → V → V → Hp → Prop := fun x y v H => ∃ a H4, x = .ref a ∧ DPut H a y v H4 ∧ S H4
instance st_dget : Stp (tDGet td ty σ H Q) (td σ H fun x H1 => ty σ H1 fun y H2 => rDGetV Q x y H2) := ⟨fun h => h⟩
instance st_din : Stp (tDIn ty td σ H Q) (ty σ H fun y H1 => td σ H1 fun x H2 => rDInV Q x y H2) := ⟨fun h => h⟩
instance st_dnotin : Stp (tDNotIn ty td σ H Q) (ty σ H fun y H1 => td σ H1 fun x H2 => rDNinV Q x y H2) := ⟨fun h => h⟩
instance st_dput : Stp (sDPut td ty tv ⟨nx, rt, bk, ct⟩ σ H) (tv σ H fun v H1 => td σ H1 fun x H2 => ty σ H2 fun y H3 => rDPutV (nx σ) x y v H3) := ⟨fun h => h⟩
theorem rd_din1 {b : Bool} (h : H a = some (.dK kvs)) (hb : (valV kvs (.inl i)).isSome = b) (q : Q (.bl b) H) : rDInV Q (.ref a) (.int i) H := ⟨a, _, rfl, DGet.k (k := .inl i) h, by rw [hb]; exact q⟩
theorem rd_dnotin1 {b : Bool} (h : H a = some (.dK kvs)) (hb : (valV kvs (.inl i)).isSome = b) (q : Q (.bl (!b)) H) : rDNinV Q (.ref a) (.int i) H := ⟨a, _, rfl, DGet.k (k := .inl i) h, by rw [hb]; exact q⟩
/-! dicts of flags: {k: True for ..}; ks the keys, in order -/
def dFl (ks : List Int) : List (Key × V) := ks.map fun k => (.inl k, .bl true)
abbrev DFl (ks : List Int) : HO := .dK (dFl ks)
theorem dFl_val {i : Int} : ∀ {ks : List Int}, (valV (dFl ks) (.inl i)).isSome = decide (i ∈ ks)
  | [] => by simp [dFl, valV]
  | k :: ks => by
    have ih := dFl_val (i := i) (ks := ks)
    by_cases e : k = i
    · subst e
      have : valV (dFl (k :: ks)) (.inl k) = some (.bl true) := valV_pos (p := ((Sum.inl k : Key), V.bl true)) (r := dFl ks) (k := Sum.inl k) rfl
      rw [this]
      simp
    · have : valV (dFl (k :: ks)) (.inl i) = valV (dFl ks) (.inl i) := valV_neg (p := ((Sum.inl k : Key), V.bl true)) (r := dFl ks) (k := Sum.inl i) fun z => e (Sum.inl.inj z)
      rw [this, ih]
      refine decide_eq_decide.mpr ?_
      rw [List.mem_cons]
      exact ⟨.inr, fun z => z.elim (fun z => absurd z.symm e) id⟩
theorem dFl_keys {ks : List Int} : ((dFl ks).map fun kv => kV kv.1) = ks.map V.int := by
  unfold dFl
  rw [List.map_map]
  rfl
theorem rd_dinF {ks : List Int} (h : H a = some (DFl ks)) (q : Q (.bl (decide (i ∈ ks))) H) : rDInV Q (.ref a) (.int i) H := rd_din1 h dFl_val q
theorem rd_dnotinF {ks : List Int} (h : H a = some (DFl ks)) (q : Q (.bl (!decide (i ∈ ks))) H) : rDNinV Q (.ref a) (.int i) H := rd_dnotin1 h dFl_val q
def rListDo : List V → Hp → VK → Prop := fun xs H Q => ∃ (a : Addr) (kvs : List (Key × V)), xs = [.ref a] ∧ Rd H a (.dK kvs) ∧ ∀ p, H p = none → Q (.ref p) (upd H p (.lst (kvs.map fun kv => kV kv.1)))
theorem rd_listF {ks : List Int} (h : H a = some (DFl ks)) (q : ∀ p, H p = none → Q (.ref p) (upd H p (.lst (ks.map V.int)))) : rListDo [.ref a] H Q := ⟨a, dFl ks, rfl, .inl h, by rw [dFl_keys]; exact q⟩
end
end L2
namespace L2
open PySem PySem.Spec PyProof.Rows
end L2
namespace L2
open PySem PySem.Spec PyProof.Rows
/-! ### two roads for one expression -/
/-! ### operators of own classes -/
/-- an own instance's truth -/
def rTruO (C : Addr) (sp : Sp) (E : XK) (R : Bool → Hp → Prop) (x : V) (H : Hp) : Prop := ∃ a dx fs, x = .ref a ∧ H a = some (.ins C dx fs) ∧ sp [.ref a] H (fun v H' => ∃ b, v = .bl b ∧ R b H') E
section
variable {X : Cx} {k : Nat} {C : Addr} {ps : List PySem.Str} {sp : Sp} {E : XK} {m : PySem.Str}
variable {a : Expr} {ta : TE} {pos : Pos}
/-- an instance as a test -/
def tTruO (C : Addr) (sp : Sp) (E : XK) (ta : TE) : TT := fun σ H R => ta σ H (rTruO C sp E R)
/-- not of an instance, as a value -/
def tNotO (C : Addr) (sp : Sp) (E : XK) (ta : TE) : TE := fun σ H Q => ta σ H (rTruO C sp E fun b H' => Q (.bl (!b)) H')
end
section
variable {σ : St} {H : Hp} {Q : VK} {R : Bool → Hp → Prop} {C a b dx dy : Addr} {fs gs : List (PySem.Str × V)} {sp : Sp} {E : XK} {x : V} {ta te : TE} {t u : TE}
instance st_tTruO : Stp (tTruO C sp E ta σ H R) (ta σ H (rTruO C sp E R)) := ⟨fun h => h⟩
instance st_tNotO : Stp (tNotO C sp E ta σ H Q) (ta σ H (rTruO C sp E fun b H' => Q (.bl (!b)) H')) := ⟨fun h => h⟩
end
/-! ### bool(o) -/
/-! ### classmethods -/
structure CMAt (K : PySem.W.Frag) (C : Addr) (m qual : PySem.Str) (st : Stmt) : Prop where
  ex : ∃ (mc : Value) (p g : Addr) (fd : FuncData), ClX.CRead K C mc ∧ ClX.CMet K C mc m p g ∧ Fun K m qual st g fd
structure CMDef (P : Program) (w : World) (K : PySem.W.Frag) (mg : PySem.Str → Option Value) (base : Heap) (k : Nat) (C : Addr) (m : PySem.Str) (sp : Sp) : Prop where
  ex : ∃ (mc : Value) (p g : Addr), ClX.CRead K C mc ∧ ClX.CMet K C mc m p g ∧ FnR P w K mg base (L2.CX P w) k g sp
section
variable {P : Program} {w : World} {K : PySem.W.Frag} {mg : PySem.Str → Option Value} {base : Heap}
theorem CMDef.imp {k : Nat} {C : Addr} {m : PySem.Str} {sp sp' : Sp} (D : CMDef P w K mg base k C m sp) (h : ∀ vs H Q E, sp' vs H Q E → sp vs H Q E) : CMDef P w K mg base k C m sp' := by
  obtain ⟨mc, p, g, a, b, F⟩ := D.ex
  exact ⟨mc, p, g, a, b, F.imp h⟩
theorem FnR.forget {k : Nat} {f : Addr} {sp : Sp} (F : FnR P w K mg base (L2.CX P w) k f sp) : FnR P w K mg base (L2.CX P w) k f (fun vs H Q E => NoT H ∧ sp vs H (fun v H' => Same H H' ∧ Q v H) E) := by
  intro A outer s H us vs Q E hr he r q
  refine codeAny_mono (F A outer s H us vs _ E hr he r q.2) fun res t done => ?_
  cases res with
  | error er => exact done
  | ok fl =>
    cases fl with
    | ret u =>
      obtain ⟨v, H2, os2, bare2, un2, hok2, rv, sm, q2⟩ := done
      exact ⟨v, H, os2, bare2, ⟨un2.keep, un2.slot, fun _ _ _ n _ => n, un2.there, fun _ _ q => q, fun _ _ _ q => q, fun _ ps q => ⟨#[], by rw [q]; simp⟩⟩, hok_back q.1 hok2 he.hok sm, rv, q2⟩
    | next => exact done
    | brk => exact done
    | cont => exact done
theorem CMDef.forget {k : Nat} {C : Addr} {m : PySem.Str} {sp : Sp} (D : CMDef P w K mg base k C m sp) : CMDef P w K mg base k C m (fun vs H Q E => NoT H ∧ sp vs H (fun v H' => Same H H' ∧ Q v H) E) := by
  obtain ⟨mc, p, g, a, b, F⟩ := D.ex
  exact ⟨mc, p, g, a, b, FnR.forget F⟩
/-- a classmethod with plain parameters -/
theorem CMAt.ok {C : Addr} {m qual : PySem.Str} {st : Stmt} {N ps : List PySem.Str} {k : Nat} {sp : Sp} (D : CMAt K C m qual st) (S : FnScope N ps (defScope st)) (len : ∀ vs H Q E, sp vs H Q E → vs.length = ps.length)
    (binds : ∀ (f : Addr) (fd : FuncData), Fun K m qual st f fd → Binds K fd ps [])
    (hbody : ∀ (f : Addr) (cdv : Value) (A : Around) (outer : List Env) (s : Shared) (H : Hp) (vs : List V) (Q : VK) (E : XK), Room k (A.deeper (envOfC qual (defScope st) s.heap.objs.size f cdv)) → sp vs H Q E →
      ∃ t, PSs (cxOf (L2.CX P w) P w K mg base N qual (defScope st) f cdv A outer s H E) (defBody st) t ∧ t ⟨fun _ H' => Q .non H', Q, fun _ _ => False, fun _ _ => False⟩ (start N vs) H) : CMDef P w K mg base (k + 1) C m sp := by
  obtain ⟨mc, p, g, fd, a, b, F⟩ := D.ex
  refine ⟨mc, p, g, a, b, FnR.imp (FnOk.raw (F.okX S len fun cdv A outer s H vs Q E hr h => hbody g cdv A outer s H vs Q E hr h) (binds g fd F) .nil) fun vs H Q E h => ?_⟩
  rw [List.append_nil]
  exact h
end
section
variable {X : Cx} {k : Nat} {C : Addr} {m : PySem.Str} {sp : Sp} {E : XK} {o e : Expr} {es : List Expr} {ta : TE} {t : TA} {pos apos : Pos}
instance st_cm {σ : St} {H : Hp} {Q : VK} : Stp (ClX.tCMeth C sp E ta t σ H Q) (ta σ H fun x H1 => x = .ref C ∧ t σ H1 fun vs H2 => sp (.ref C :: vs) H2 Q E) := ⟨fun h => h⟩
instance st_cm1 {P : Prop} : Stp (V.ref C = V.ref C ∧ P) P := ⟨fun h => ⟨rfl, h⟩⟩
/-- cls(..), the class in a name -/
def tMakeL (C : Addr) (sp : Sp) (E : XK) (tf : TE) (t : TA) : TE := fun σ H Q => tf σ H fun y H1 => y = .ref C ∧ t σ H1 fun vs H2 => ∀ x dx, H2 x = none → H2 dx = none → dx ≠ x → sp (.ref x :: vs) (upd (upd H2 dx (.own x)) x (.ins C dx [])) (fun v H3 => v = .non ∧ Q (.ref x) H3) E
instance st_makeL {σ : St} {H : Hp} {Q : VK} {tf : TE} : Stp (tMakeL C sp E tf t σ H Q) (tf σ H fun y H1 => y = .ref C ∧ t σ H1 fun vs H2 => ∀ x dx, H2 x = none → H2 dx = none → dx ≠ x → sp (.ref x :: vs) (upd (upd H2 dx (.own x)) x (.ins C dx [])) (fun v H3 => v = .non ∧ Q (.ref x) H3) E) := ⟨fun h => h⟩
end
end L2
namespace L2
open PySem PySem.Spec PyProof.Rows
/-! ### bool(t), a tuple -/
end L2
namespace L2
open PySem PySem.Spec PyProof.Rows
/-! ### a def under a second name -/
structure DefAtA (K : PySem.W.Frag) (mg : PySem.Str → Option Value) (y x : PySem.Str) (st : Stmt) (ps : List PySem.Str) : Prop where
  ex : ∃ (f : Addr) (fd : FuncData), Fun K x x st f fd ∧ mg y = some (.ref f) ∧ Binds K fd ps []
theorem DefAtA.ok {P : Program} {w : World} {K : PySem.W.Frag} {mg : PySem.Str → Option Value} {base : Heap} {y x : PySem.Str} {st : Stmt} {N ps : List PySem.Str} {k : Nat} {sp : Sp} (D : DefAtA K mg y x st ps) (S : FnScope N ps (defScope st)) (len : ∀ vs H Q E, sp vs H Q E → vs.length = ps.length)
    (body : ∀ (f : Addr) (cdv : Value) (A : Around) (outer : List Env) (s : Shared) (H : Hp) (vs : List V) (Q : VK) (E : XK), Room k (A.deeper (envOfC x (defScope st) s.heap.objs.size f cdv)) → sp vs H Q E →
      ∃ t, PSs (cxOf (L2.CX P w) P w K mg base N x (defScope st) f cdv A outer s H E) (defBody st) t ∧ t ⟨fun _ H' => Q .non H', Q, fun _ _ => False, fun _ _ => False⟩ (start N vs) H) : Def P w K mg base (k + 1) y ps sp := by
  obtain ⟨f, fd, F, g, b⟩ := D.ex
  exact ⟨f, fd, F.okX S len fun cdv A outer s H vs Q E hr h => body f cdv A outer s H vs Q E hr h, g, F.kp, b⟩
/-! ### {k: v for ..} given to a name -/
/-- {x: True for x in xs}, xs a list or tuple of ints -/
def dcB (J : It) (g : TG) (tt : TT) (tk tv : TE) (vs : List Nat) (σ : St) (Q : VK) (H1 : Hp) : Prop := ∀ D, H1 D = none → ∃ W : Nat → Nat → Hp → Prop, (∃ m, W 0 m (upd H1 D (.dK []))) ∧ ∀ i m H, W i m H →
  (J.stop i H ∧ Q (.ref D) H) ∨ (J.go i H ∧ ∃ Nx : Hp → Prop, (∀ H', Nx H' → ∃ m', m' < m ∧ W (i + 1) m' H') ∧ ∀ x H', J.yld i H x H' → g x (wipe σ vs) H' fun σ2 H2 => wipe σ2 vs = wipe σ vs ∧ tt σ2 H2 fun b H3 =>
    if b = true then tk σ2 H3 fun y H4 => tv σ2 H4 fun z H5 => ∃ kvs k, y = kV k ∧ H5 D = some (.dK kvs) ∧ kvs.length < sizeLine ∧ Nx (upd H5 D (.dK (putK kvs k z))) else Nx H3)
section
variable {σ : St} {H : Hp} {Q : VK} {K : PySem.W.Frag} {tk tv : TE} {tt : TT}
instance st_dc {wi : TI} {g : TG} {vs : List Nat} : Stp (tDc wi g tt tk tv vs σ H Q) (wi σ H fun J H1 => dcB J g tt tk tv vs σ Q H1) := ⟨fun h => h⟩
end
end L2
namespace L2
open PySem PySem.Spec PyProof.Rows
end L2
namespace PySem.W
open PySem PySem.Spec PySem.Calls PyProof.Rows
end PySem.W
namespace L2
open PySem PySem.Spec PyProof.Rows
end L2
namespace L2
open PySem PySem.Spec PyProof.Rows
section
variable {σ : St} {H : Hp} {Q : VK} {K : PySem.W.Frag} {te : TE} {tt : TT}
/-- a list comprehension over a list whose tests and items change the heap -/
theorem rd_lcLG {a : Addr} {xs : List V} {g : TG} {vs : List Nat} (J : Addr → Nat → List V → Hp → Prop) (hl : ∀ D i ys H', J D i ys H' → SqL K H' a xs) (h0 : ∀ D, H D = none → J D 0 [] (upd H D (.lst [])))
    (hs : ∀ D i ys x H', H D = none → xs[i]? = some x → H' D = some (.lst ys) → J D i ys H' → g x (wipe σ vs) H' fun σ2 H2 => wipe σ2 vs = wipe σ vs ∧ tt σ2 H2 fun b H3 => if b = true then te σ2 H3 (fun y H4 => ∃ acc, H4 D = some (.lst acc) ∧ acc.length < sizeLine ∧ ∃ ys, (upd H4 D (.lst (acc ++ [y]))) D = some (.lst ys) ∧ J D (i + 1) ys (upd H4 D (.lst (acc ++ [y])))) else ∃ ys, H3 D = some (.lst ys) ∧ J D (i + 1) ys H3)
    (q : ∀ D ys H', H D = none → H' D = some (.lst ys) → J D xs.length ys H' → Q (.ref D) H') : lcB (Itl K a) g tt te vs σ Q H := by
  intro D hD
  refine lc_it (walk_list (K := K) (a := a) (xs := xs)) (fun i H' => ∃ ys, H' D = some (.lst ys) ∧ J D i ys H') ⟨[], upd_same, h0 D hD⟩ (fun i H' _ ⟨ys, _, j⟩ => hl D i ys H' j) ?_ (fun H' ⟨ys, h1, j⟩ => q D ys H' hD h1 j)
  rintro i x H' H'' hi ⟨ys, h1, j⟩ ⟨rfl, hx⟩
  exact hs D i ys x _ hD hx h1 j
end
end L2
namespace L2
open PySem PySem.Spec PyProof.Rows
/-! ### a view of the heap: what is kept of an earlier one, what is ours to change, what stands besides, what no list decides -/
def rigid : HO → Bool
  | .ins _ _ _ => true
  | .tup _ => true
  | _ => false
/-- all that is no list, dict or the like still stands -/
def Keeps (G G' : Hp) : Prop := ∀ b o, rigid o = true → G b = some o → G' b = some o
theorem Keeps.refl (G : Hp) : Keeps G G := fun _ _ _ h => h
theorem Keeps.trans {G G' G'' : Hp} (a : Keeps G G') (b : Keeps G' G'') : Keeps G G'' := fun c o r h => b c o r (a c o r h)
theorem Keeps.of {G G' : Hp} (s : Same G G') : Keeps G G' := fun b o _ h => s b o h
theorem Keeps.put {G : Hp} {x : Addr} {o u : HO} (h : G x = some o) (r : rigid o = false) : Keeps G (upd G x u) := fun b v rv hb => by
  by_cases e : b = x
  · subst e
    rw [h] at hb
    cases hb
    rw [r] at rv
    cases rv
  · rw [upd_ne e]
    exact hb
def Rig (P : Hp → Prop) (G : Hp) : Prop := ∀ G', Keeps G G' → P G'
structure Hv (X : Addr → Prop) (H : Hp) (M L : List (Addr × HO)) (Z : List (Hp → Prop)) (G : Hp) : Prop where
  old : ∀ b o, ¬ X b → H b = some o → G b = some o
  nt : NoT G
  m : ∀ q ∈ M, G q.1 = some q.2 ∧ (X q.1 ∨ H q.1 = none) ∧ rigid q.2 = false
  l : ∀ q ∈ L, G q.1 = some q.2
  nd : M.Pairwise fun q r => q.1 ≠ r.1
  ml : ∀ q ∈ M, ∀ r ∈ L, q.1 ≠ r.1
  z : ∀ P ∈ Z, Rig P G
def noX : Addr → Prop := fun _ => False
/-- nothing but x has changed -/
def But (x : Addr) (H H' : Hp) : Prop := ∀ b o, b ≠ x → H b = some o → H' b = some o
theorem But.of {x : Addr} {H H' : Hp} (h : Same H H') : But x H H' := fun b o _ e => h b o e
theorem But.new {x p : Addr} {H G : Hp} {o : HO} (h : But x H G) (hp : G p = none) : But x H (upd G p o) := fun b o1 n e => upd_keep (h b o1 n e) hp
theorem But.put {x : Addr} {H G : Hp} {o : HO} (h : But x H G) : But x H (upd G x o) := fun b o1 n e => by
  rw [upd_ne n]
  exact h b o1 n e
theorem But.refl {x : Addr} {H : Hp} : But x H H := fun _ _ _ e => e
theorem But.trans {x : Addr} {H G L : Hp} (a : But x H G) (b : But x G L) : But x H L := fun c o n e => b c o n (a c o n e)
theorem But.same {x : Addr} {H G L : Hp} (a : But x H G) (b : Same G L) : But x H L := fun c o n e => b c o (a c o n e)
/-- what stood ahead of x still stands -/
theorem But.old {x : Addr} {H0 H G : Hp} (a : But x H G) (s : Same H0 H) (f : H0 x = none) : Same H0 G := fun c o e => a c o (fun z => by
  rw [z, f] at e
  cases e) (s c o e)
theorem But.fresh {x D : Addr} {H G : Hp} {o : HO} (h : But x H G) (f : H D = none) : But x H (upd G D o) := fun b o1 n e => by
  rw [upd_ne (ne_of_none e f)]
  exact h b o1 n e
section
variable {X : Addr → Prop} {H G G' : Hp} {M L : List (Addr × HO)} {Z : List (Hp → Prop)} {a b D p x y : Addr} {o u v : HO} {P : Hp → Prop} {xs : List V}
theorem Hv.start (nt : NoT H) : Hv noX H [] [] [] H := ⟨fun _ _ _ h => h, nt, fun _ h => absurd h List.not_mem_nil, fun _ h => absurd h List.not_mem_nil, List.Pairwise.nil, fun _ h => absurd h List.not_mem_nil, fun _ h => absurd h List.not_mem_nil⟩
theorem Hv.same (B : Hv noX H M L Z G) : Same H G := fun b o h => B.old b o id h
theorem Hv.mAt (B : Hv X H M L Z G) (h : (a, o) ∈ M) : G a = some o := (B.m _ h).1
theorem Hv.lAt (B : Hv X H M L Z G) (h : (a, o) ∈ L) : G a = some o := B.l _ h
theorem Hv.zAt (B : Hv X H M L Z G) (h : P ∈ Z) : P G := B.z P h G (Keeps.refl G)
theorem Hv.oAt (B : Hv noX H M L Z G) (h : H a = some o) : G a = some o := B.old a o id h
theorem Hv.oAtX (B : Hv (· = p) H M L Z G) (h : H a = some o) (n : a ≠ p) : G a = some o := B.old a o n h
theorem Hv.fr (B : Hv noX H M L Z G) (h : (a, o) ∈ M) : H a = none := (B.m _ h).2.1.elim False.elim id
theorem Hv.free (B : Hv noX H M L Z G) (h : G D = none) : H D = none := B.same.free h
theorem Hv.away (B : Hv X H M L Z G) (h : G D = none) : ∀ q ∈ M, q.1 ≠ D := fun q hq e => by
  have := (B.m q hq).1
  rw [e, h] at this
  cases this
theorem Hv.next (B : Hv X H M L Z G) (s : Same G G') (n : NoT G') : Hv X H M L Z G' := ⟨fun b o h e => s b o (B.old b o h e), n, fun q hq => ⟨s _ _ (B.m q hq).1, (B.m q hq).2⟩, fun q hq => s _ _ (B.l q hq), B.nd, B.ml, fun P hP G2 k => B.z P hP G2 ((Keeps.of s).trans k)⟩
theorem Hv.newG (B : Hv X H M L Z G) (h : G D = none) (f : X D ∨ H D = none) (r : rigid o = false) (hn : noT o = true) : Hv X H ((D, o) :: M) L Z (upd G D o) := by
  have C := B.next (same_new (o := o) h) (NoT.upd B.nt hn)
  refine ⟨C.old, C.nt, fun q hq => ?_, C.l, List.pairwise_cons.mpr ⟨fun q hq => (B.away h q hq).symm, C.nd⟩, fun q hq q2 h2 => ?_, C.z⟩
  · rcases List.mem_cons.mp hq with e | hq
    · subst e
      exact ⟨upd_same, f, r⟩
    · exact C.m q hq
  · rcases List.mem_cons.mp hq with e | hq
    · subst e
      exact fun e => by
        have := B.l q2 h2
        rw [← e, h] at this
        cases this
    · exact C.ml q hq q2 h2
/-- a new thing, ours -/
theorem Hv.new (B : Hv noX H M L Z G) (h : G D = none) (r : rigid o = false := by rfl) (hn : noT o = true := by rfl) : Hv noX H ((D, o) :: M) L Z (upd G D o) := B.newG h (.inr (B.free h)) r hn
/-- a new thing that stays as it is -/
theorem Hv.newL (B : Hv X H M L Z G) (h : G D = none) (hn : noT o = true := by rfl) : Hv X H M ((D, o) :: L) Z (upd G D o) := by
  have C := B.next (same_new (o := o) h) (NoT.upd B.nt hn)
  refine ⟨C.old, C.nt, C.m, fun q hq => ?_, C.nd, fun q hq q2 h2 => ?_, C.z⟩
  · rcases List.mem_cons.mp hq with e | hq
    · subst e
      exact upd_same
    · exact C.l q hq
  · rcases List.mem_cons.mp h2 with e | h2
    · subst e
      exact B.away h q hq
    · exact C.ml q hq q2 h2
/-- what stands besides -/
theorem Hv.add (B : Hv X H M L Z G) (h : G a = some o) (n : ∀ q ∈ M, q.1 ≠ a) : Hv X H M ((a, o) :: L) Z G := ⟨B.old, B.nt, B.m, fun q hq => (List.mem_cons.mp hq).elim (fun e => by rw [e]; exact h) (B.l q), B.nd, fun q hq q2 h2 => (List.mem_cons.mp h2).elim (fun e => by rw [e]; exact n q hq) (B.ml q hq q2), B.z⟩
/-- what a call has made: at D, free ahead of it -/
theorem Hv.got (B : Hv X H M L Z G) (s : Same G G') (n : NoT G') (f : G D = none) (h : G' D = some o) : Hv X H M ((D, o) :: L) Z G' := (B.next s n).add h (B.away f)
/-- rigid things -/
theorem Hv.rig (B : Hv X H M L Z G) (h : Rig P G) : Hv X H M L (P :: Z) G := ⟨B.old, B.nt, B.m, B.l, B.nd, B.ml, fun Q hQ => (List.mem_cons.mp hQ).elim (fun e => by rw [e]; exact h) (B.z Q)⟩
/-- ours has changed -/
theorem Hv.but (B : Hv X H ((p, o) :: M) L Z G) (b : But p G G') (n : NoT G') (h : G' p = some u) (r : rigid u = false := by rfl) : Hv X H ((p, u) :: M) L Z G' := by
  obtain ⟨h1, h2, h3⟩ := B.m _ List.mem_cons_self
  obtain ⟨n1, n2⟩ := List.pairwise_cons.mp B.nd
  refine ⟨fun c w hc e => ?_, n, fun q hq => ?_, fun q hq => b _ _ (fun e => B.ml _ List.mem_cons_self q hq e.symm) (B.l q hq), List.pairwise_cons.mpr ⟨fun q hq => n1 q hq, n2⟩, fun q hq q2 k2 => ?_, fun P hP G2 k => B.z P hP G2 (Keeps.trans (fun c w rw hc => ?_) k)⟩
  · by_cases e2 : c = p
    · subst e2
      exact (h2.elim hc fun z => by rw [z] at e; cases e).elim
    · exact b c w e2 (B.old c w hc e)
  · rcases List.mem_cons.mp hq with e | hq
    · subst e
      exact ⟨h, h2, r⟩
    · obtain ⟨k1, k2⟩ := B.m q (List.mem_cons_of_mem _ hq)
      exact ⟨b _ _ (fun e => n1 q hq e.symm) k1, k2⟩
  · rcases List.mem_cons.mp hq with e | hq
    · subst e
      exact B.ml _ List.mem_cons_self q2 k2
    · exact B.ml _ (List.mem_cons_of_mem _ hq) q2 k2
  · refine b c w (fun e => ?_) hc
    subst e
    have : some o = some w := h1.symm.trans hc
    cases this
    have h3' : rigid o = false := h3
    rw [h3'] at rw
    cases rw
theorem Hv.put (B : Hv X H ((x, o) :: M) L Z G) (r : rigid u = false := by rfl) (hn : noT u = true := by rfl) : Hv X H ((x, u) :: M) L Z (upd G x u) := B.but (fun b w n e => by rw [upd_ne n]; exact e) (NoT.upd B.nt hn) upd_same r
theorem Hv.perm {M' : List (Addr × HO)} (B : Hv X H M L Z G) (h : ∀ q ∈ M', q ∈ M) (n : M'.Pairwise fun q r => q.1 ≠ r.1) : Hv X H M' L Z G := ⟨B.old, B.nt, fun q hq => B.m q (h q hq), B.l, n, fun q hq => B.ml q (h q hq), B.z⟩
theorem Hv.drop {q : Addr × HO} (B : Hv X H (q :: M) L Z G) : Hv X H M L Z G := B.perm (fun k hk => List.mem_cons_of_mem _ hk) (List.pairwise_cons.mp B.nd).2
/-- ours no more to change -/
theorem Hv.fix {q : Addr × HO} (B : Hv X H (q :: M) L Z G) : Hv X H M (q :: L) Z G := by
  obtain ⟨h1, h2⟩ := List.pairwise_cons.mp B.nd
  exact B.drop.add (B.m q List.mem_cons_self).1 fun k hk => (h1 k hk).symm
theorem sub_nil {α : Type _} {L : List α} : ∀ q ∈ ([] : List α), q ∈ L := fun _ h => absurd h List.not_mem_nil
theorem sub_cons {α : Type _} {a : α} {L L' : List α} (h : a ∈ L) (k : ∀ q ∈ L', q ∈ L) : ∀ q ∈ a :: L', q ∈ L := fun q hq => (List.mem_cons.mp hq).elim (fun e => by rw [e]; exact h) (k q)
theorem Hv.sub {L' : List (Addr × HO)} {Z' : List (Hp → Prop)} (B : Hv X H M L Z G) (h : ∀ q ∈ L', q ∈ L) (k : ∀ q ∈ Z', q ∈ Z) : Hv X H M L' Z' G := ⟨B.old, B.nt, B.m, fun q hq => B.l q (h q hq), B.nd, fun q hq r hr => B.ml q hq r (h r hr), fun P hP => B.z P (k P hP)⟩
/-- the heap by a letter -/
@[elab_as_elim] theorem Hv.gen {motive : Hp → Prop} (B : Hv X H M L Z G) (k : ∀ G', Hv X H M L Z G' → motive G') : motive G := k G B
end
/-- tuple(xs) -/
abbrev rTupOf (K : PySem.W.Frag) : List V → Hp → VK → Prop := fun xs H Q => ∃ p ys, xs = [.ref p] ∧ ((SqL K H p ys ∧ ∀ l, H l = none → Q (.ref l) (upd H l (.tup ys))) ∨ (SqT K H p ys ∧ Q (.ref p) H))
section
variable {K : PySem.W.Frag} {H : Hp} {p : Addr} {ys : List V} {Q : VK}
theorem rd_tupL (h : SqL K H p ys) (q : ∀ l, H l = none → Q (.ref l) (upd H l (.tup ys))) : rTupOf K [.ref p] H Q := ⟨p, ys, rfl, .inl ⟨h, q⟩⟩
theorem rd_tupT (h : SqT K H p ys) (q : Q (.ref p) H) : rTupOf K [.ref p] H Q := ⟨p, ys, rfl, .inr ⟨h, q⟩⟩
end
end L2
namespace L2
open PySem PySem.Spec PyProof.Rows
/-! ### dicts from ints: what is computed for each of some keys -/
/-! dicts from ints to things that were made -/
end L2
namespace L2
open PySem PySem.Spec PyProof.Rows
/-! ### a call of an instance within a try -/
section
variable {X : Cx} {k : Nat} {C : Addr} {ps : List PySem.Str} {sp : Sp} {pos : Pos} {e : Expr} {es : List Expr} {t : TA} {W : WX}
def tCallCT (C : Addr) (sp : Sp) (E : St → XK) (tf : TE) (t : TA) : TE := fun σ H Q => tf σ H fun y H1 => ∃ a, y = V.ref a ∧ t σ H1 fun vs H2 => (∃ dx fs, H2 a = some (.ins C dx fs)) ∧ sp (V.ref a :: vs) H2 Q (E σ)
instance st_callCT {σ : St} {H : Hp} {Q : VK} {E : St → XK} {tf : TE} : Stp (tCallCT C sp E tf t σ H Q) (tf σ H fun y H1 => ∃ a, y = V.ref a ∧ t σ H1 fun vs H2 => (∃ dx fs, H2 a = some (.ins C dx fs)) ∧ sp (V.ref a :: vs) H2 Q (E σ)) := ⟨fun h => h⟩
end
end L2
namespace L2
open PySem PySem.Spec PyProof.Rows
end L2
namespace L2
open PySem PySem.Spec PyProof.Rows
section
variable {σ : St} {H : Hp} {Q : VK}
instance st_disp {trs : List (TE × TE)} : Stp (tDisp trs σ H Q) (∀ p, H p = none → tPairs trs σ (upd H p (.dK [])) fun ps H2 => H2 p = some (.dK []) ∧ ∃ kvs : List (Key × V), ps = kvs.map (fun kv => (kV kv.1, kv.2)) ∧ kvs.length ≤ 15 ∧ Q (.ref p) (upd H2 p (.dK (mergeK [] kvs)))) := ⟨fun h => h⟩
instance st_prn {R : List (V × V) → Hp → Prop} : Stp (tPairs [] σ H R) (R [] H) := ⟨fun h => h⟩
instance st_prc {tk tv : TE} {trs : List (TE × TE)} {R : List (V × V) → Hp → Prop} : Stp (tPairs ((tk, tv) :: trs) σ H R) (tk σ H fun k H1 => tv σ H1 fun v H2 => tPairs trs σ H2 fun ps H3 => R ((k, v) :: ps) H3) := ⟨fun h => h⟩
end
end L2
/-! ### zip of two tuples -/
namespace L2
open PySem PySem.Spec PyProof.Rows
section
variable {K : PySem.W.Frag} {a b : Addr} {xs ys : List V}
variable {σ : St} {H : Hp} {Q : VK} {tt : TT} {te : TE}
def rZipA (K : PySem.W.Frag) (S : It → Hp → Prop) : List V → Hp → Prop := fun vs H1 => ∃ a b xs ys, vs = [.ref a, .ref b] ∧ ((SqL K H1 a xs ∧ SqL K H1 b ys ∧ S (Itz K a b) H1) ∨ (SqT K H1 a xs ∧ SqT K H1 b ys ∧ S (RZ.ItzT K a b) H1))
instance st_iZipA {ta : TA} {S : It → Hp → Prop} : Stp (RZ.iZipA K ta σ H S) (ta σ H (rZipA K S)) := ⟨fun h => h⟩
end
end L2
/-! ### a dict of values filled by a loop -/
namespace L2
open PySem PySem.Spec PyProof.Rows
end L2
/-! ### a dict comprehension over the items of a locked dict -/
namespace L2
open PySem PySem.Spec PyProof.Rows
end L2
namespace L2
open PySem PySem.Spec PyProof.Rows
section
variable {σ : St} {H : Hp} {Q : VK}
def rItemsI (S : It → Hp → Prop) : V → Hp → Prop := fun x H1 => ∃ d o kvs, x = .ref d ∧ H1 d = some (.frz o (.dK kvs)) ∧ S (Iti d o kvs) H1
instance st_iItems {td : TE} {S : It → Hp → Prop} : Stp (iItems td σ H S) (td σ H (rItemsI S)) := ⟨fun h => h⟩
end
end L2
/-! ### an entry made anew in its place -/
namespace L2
open PySem PySem.Spec PyProof.Rows
end L2
/-! ### defs with a star parameter -/
namespace L2
open PySem PySem.Spec PyProof.Rows
/-- a def by its positional promise -/
structure DefR (P : Program) (w : World) (K : PySem.W.Frag) (mg : PySem.Str → Option Value) (base : Heap) (k : Nat) (x : PySem.Str) (sp : Sp) : Prop where
  ex : ∃ f : Addr, FnR P w K mg base (L2.CX P w) k f sp ∧ mg x = some (.ref f) ∧ PySem.W.keepIn K (.ref f) = true
section
variable {P : Program} {w : World} {K : PySem.W.Frag} {mg : PySem.Str → Option Value} {base : Heap}
theorem DefR.imp {k : Nat} {x : PySem.Str} {sp sp' : Sp} (D : DefR P w K mg base k x sp) (h : ∀ vs H Q E, sp' vs H Q E → sp vs H Q E) : DefR P w K mg base k x sp' := by
  obtain ⟨f, F, a, b⟩ := D.ex
  exact ⟨f, F.imp h, a, b⟩
theorem DefR.forget {k : Nat} {x : PySem.Str} {sp : Sp} (D : DefR P w K mg base k x sp) : DefR P w K mg base k x (fun vs H Q E => NoT H ∧ sp vs H (fun v H' => Same H H' ∧ Q v H) E) := by
  obtain ⟨f, F, a, b⟩ := D.ex
  exact ⟨f, FnR.forget F, a, b⟩
end
/-! ### comprehensions with two fors -/
/-- the inner for -/
def lc2I (J1 : It) (g1 : TG) (tt1 : TT) (te : TE) (vs1 : List Nat) (D : Addr) (Nx : Hp → Prop) (σ2 : St) (H4 : Hp) : Prop := ∃ W1 : Nat → Nat → Hp → Prop, (∃ m, W1 0 m H4) ∧ ∀ j k H, W1 j k H →
      (J1.stop j H ∧ Nx H) ∨ (J1.go j H ∧ ∃ Nx1 : Hp → Prop, (∀ H', Nx1 H' → ∃ k', k' < k ∧ W1 (j + 1) k' H') ∧ ∀ x H', J1.yld j H x H' → g1 x (wipe σ2 vs1) H' fun σ3 H5 => wipe σ3 vs1 = wipe σ2 vs1 ∧ tt1 σ3 H5 fun b H6 =>
        if b = true then te σ3 H6 fun y H7 => ∃ acc, H7 D = some (.lst acc) ∧ acc.length < sizeLine ∧ Nx1 (upd H7 D (.lst (acc ++ [y]))) else Nx1 H6)
def lc2B (J : It) (g : TG) (tt : TT) (wi1 : TI) (g1 : TG) (tt1 : TT) (te : TE) (vs vs1 : List Nat) (σ : St) (Q : VK) (H1 : Hp) : Prop := ∀ D, H1 D = none → ∃ W : Nat → Nat → Hp → Prop, (∃ m, W 0 m (upd H1 D (.lst []))) ∧ ∀ i m H, W i m H →
  (J.stop i H ∧ Q (.ref D) H) ∨ (J.go i H ∧ ∃ Nx : Hp → Prop, (∀ H', Nx H' → ∃ m', m' < m ∧ W (i + 1) m' H') ∧ ∀ x H', J.yld i H x H' → g x (wipe σ vs) H' fun σ2 H2 => wipe σ2 vs = wipe σ vs ∧ tt σ2 H2 fun b H3 =>
    if b = true then wi1 σ2 H3 fun J1 H4 => lc2I J1 g1 tt1 te vs1 D Nx σ2 H4 else Nx H3)
instance st_lc2 {wi : TI} {g : TG} {tt : TT} {wi1 : TI} {g1 : TG} {tt1 : TT} {te : TE} {vs vs1 : List Nat} {σ : St} {H : Hp} {Q : VK} : Stp (tLc2 wi g tt wi1 g1 tt1 te vs vs1 σ H Q) (wi σ H fun J H1 => lc2B J g tt wi1 g1 tt1 te vs vs1 σ Q H1) := ⟨fun h => h⟩
section
variable {K : PySem.W.Frag} {σ : St} {H : Hp} {Q : VK} {tt tt1 : TT} {te : TE} {g g1 : TG} {wi1 : TI} {vs vs1 : List Nat}
theorem rd_lc2L {a : Addr} {xs : List V} (P : Addr → Nat → List V → Hp → Prop) (hS : SqL K H a xs) (nt : NoT H) (h0 : ∀ D, H D = none → P D 0 [] (upd H D (.lst [])))
    (hs : ∀ D i ys x H', xs[i]? = some x → Same H H' → NoT H' → H D = none → H' D = some (.lst ys) → P D i ys H' → g x (wipe σ vs) H' fun σ2 H2 => wipe σ2 vs = wipe σ vs ∧ tt σ2 H2 fun b H3 =>
      if b = true then wi1 σ2 H3 fun J1 H4 => lc2I J1 g1 tt1 te vs1 D (fun H5 => ∃ ys, H5 D = some (.lst ys) ∧ Same H H5 ∧ NoT H5 ∧ P D (i + 1) ys H5) σ2 H4 else ∃ ys, H3 D = some (.lst ys) ∧ Same H H3 ∧ NoT H3 ∧ P D (i + 1) ys H3)
    (q : ∀ D ys H', H D = none → H' D = some (.lst ys) → Same H H' → NoT H' → P D xs.length ys H' → Q (.ref D) H') : lc2B (Itl K a) g tt wi1 g1 tt1 te vs vs1 σ Q H := by
  intro D hD
  refine ⟨fun i m H' => m = xs.length - i ∧ i ≤ xs.length ∧ ∃ ys, H' D = some (.lst ys) ∧ Same H H' ∧ NoT H' ∧ P D i ys H', ⟨_, rfl, Nat.zero_le _, [], upd_same, same_new hD, NoT.upd nt rfl, h0 D hD⟩, ?_⟩
  rintro i m H' ⟨rfl, hi, ys, h1, s, n, p⟩
  have hS' : SqL K H' a xs := s.seq hS
  by_cases hlt : i < xs.length
  · have hx : xs[i]? = some xs[i] := by simp [hlt]
    refine .inr ⟨⟨_, _, hS', hx⟩, fun H5 => ∃ ys, H5 D = some (.lst ys) ∧ Same H H5 ∧ NoT H5 ∧ P D (i + 1) ys H5, fun H5 p' => ⟨xs.length - (i + 1), by omega, rfl, hlt, p'⟩, fun x H'' y => ?_⟩
    obtain ⟨e, y⟩ := y
    subst e
    have ex : x = xs[i] := Option.some.inj ((y _ hS').symm.trans hx)
    subst ex
    exact hs D i ys _ _ hx s n hD h1 p
  · have e : i = xs.length := by omega
    subst e
    exact .inl ⟨⟨_, hS', Nat.le_refl _⟩, q D ys _ hD h1 s n p⟩
end
end L2
namespace My
open PySem PySem.Spec PyProof.Rows L2
/-! one step of a reading, by its head -/
local macro_rules | `(tactic| wtm_at "r") => `(tactic| first
  | (with_reducible refine rd_var rfl ?_)
  | (with_reducible refine Stp.mp ?_)
  | (with_reducible first
    | refine rd_I ?_ ?_
    | refine rd_augC rfl ?_
    | refine rd_augG rfl ?_
    | refine rd_r1 ?_ ?_ ?_
    | refine rd_r2 ?_ ?_
    | refine rd_pure ?_ ?_
    | refine rd_pureT ?_ ?_
    | refine rd_back (by assumption) ?_
    | fail)
  | fail)
/-! branch -/
local macro_rules | `(tactic| wtm_at "i") => `(tactic| (with_reducible first
  | refine rd_ite (fun _ => ?_) (fun _ => ?_)
  | refine rd_iteN (fun _ => ?_) (fun _ => ?_)
  | refine rd_iteb (fun _ => ?_) (fun _ => ?_)))
/-! the view of the heap (PreS): membership -/
local macro_rules | `(tactic| wtm_at "mem") => `(tactic| first
  | (with_reducible exact List.mem_cons_self)
  | ((with_reducible refine List.mem_cons_of_mem _ ?_); wtm_at "mem")
  | fail)
local macro_rules | `(tactic| wtm_at "vsub") => `(tactic| first
  | (with_reducible exact sub_nil)
  | ((with_reducible refine sub_cons ?h1 ?h2); (case h1 => wtm_at "mem"); (case h2 => wtm_at "vsub"))
  | fail)
/-! where something stands in the heap; two places differ -/
local macro_rules | `(tactic| wtm_at "ne") => `(tactic| with_reducible first
  | assumption
  | exact Ne.symm (by assumption)
  | exact ne_of_none (by assumption) (by assumption)
  | exact Ne.symm (ne_of_none (by assumption) (by assumption))
  | fail)
local macro_rules | `(tactic| wtm_at "h") => `(tactic| first
  | with_reducible assumption
  | with_reducible exact upd_same
  | ((with_reducible rw [upd_upd]); wtm_at "h")
  | ((with_reducible refine upd_at ?h1 ?h2); (case h1 => wtm_at "h"); (case h2 => intro hh; first | with_reducible exact ne_of_none hh (by assumption) | wtm_at "ne" | fail))
  | (with_reducible exact Hv.mAt (by assumption) (by wtm_at "mem"))
  | (with_reducible exact Hv.lAt (by assumption) (by wtm_at "mem"))
  | (with_reducible exact Hv.oAt (by assumption) (by assumption))
  | (with_reducible exact Hv.oAtX (by assumption) (by assumption) (by wtm_at "ne"))
  | fail)
/-! what was tracked stands -/
local macro_rules | `(tactic| wtm_at "sm") => `(tactic| first
  | with_reducible assumption
  | (with_reducible exact Same.refl _)
  | ((with_reducible refine same_upd3 ?_ (by with_reducible assumption)); wtm_at "sm")
  | ((with_reducible refine same_upd2 ?_ (by with_reducible assumption)); wtm_at "sm")
  | (refine same_upd2 ?_ (by first | with_reducible assumption | (refine Same.free ?_ (by with_reducible assumption); wtm_at "sm") | fail); wtm_at "sm")
  | (refine Same.trans ?_ (by with_reducible assumption); wtm_at "sm")
  | (refine Same.trans (by with_reducible assumption) ?_; wtm_at "sm")
  | (with_reducible exact Hv.same (by assumption))
  | fail)
local macro_rules | `(tactic| wtm_at "q") => `(tactic| first
  | with_reducible assumption
  | ((with_reducible refine SqL.of ?h1); (case h1 => wtm_at "h"))
  | ((with_reducible refine SqT.of ?h1); (case h1 => wtm_at "h"))
  | ((with_reducible refine Same.seq ?_ (by assumption)); wtm_at "sm")
  | ((with_reducible refine Same.seqT ?_ (by assumption)); wtm_at "sm")
  | ((with_reducible refine Same.lst ?_ (by assumption)); wtm_at "sm")
  | assumption
  | fail)
/-! data, read off the heap -/
local macro_rules | `(tactic| wtm_at "dp") => `(tactic| first
  | with_reducible assumption
  | exact Dp.int _
  | exact Dp.bl _
  | exact Dp.str _
  | exact Dp.non
  | exact DpAll.nil
  | (with_reducible exact dpAll_ints _)
  | (with_reducible exact dpAll_bls _)
  | ((with_reducible refine DpAll.cons (d := ?d) (ds := ?ds) ?h1 ?h2); (case h1 => wtm_at "dp"); (case h2 => wtm_at "dp"))
  | ((with_reducible refine Dp.lst (xs := ?xs) (ds := ?ds) ?h1 ?h2); (case h1 => wtm_at "q"); (case h2 => wtm_at "dp"))
  | ((with_reducible refine Dp.tup (xs := ?xs) (ds := ?ds) ?h1 ?h2); (case h1 => wtm_at "q"); (case h2 => wtm_at "dp"))
  | ((with_reducible refine Dp.same ?_ (by assumption)); wtm_at "sm")
  | fail)
/-! no dict with tuple keys -/
local macro_rules | `(tactic| wtm_at "nt") => `(tactic| first
  | with_reducible assumption
  | ((with_reducible refine NoT.upd ?_ rfl); wtm_at "nt")
  | (with_reducible exact Hv.nt (by assumption))
  | fail)
/-! what is asked on the side -/
local macro_rules | `(tactic| wtm_at "s") => `(tactic| first
  | ((with_reducible show NoT _); wtm_at "nt")
  | ((with_reducible show (_ : Int) < _); omega)
  | ((with_reducible show CMulB _ _); assumption)
  | ((with_reducible show CMulB _ _); exact Or.inl (Or.inl ⟨by omega, by omega⟩))
  | ((with_reducible show CMulB _ _); exact Or.inl (Or.inr ⟨by omega, by omega⟩))
  | ((with_reducible show CMulB _ _); exact CMulB.wide ⟨by omega, by omega⟩ ⟨by omega, by omega⟩)
  | ((with_reducible show CDivB _ _); first | exact .inl ⟨by omega, by omega⟩ | exact .inr ⟨by omega, (show Bd 9000 _ by wtm_at "bd").h⟩)
  | ((with_reducible refine rd_powN ?h1 ?h2 ?h3 ?_); (case h1 => rfl); (case h2 => decide); (case h3 => first | decide | omega))
  | ((with_reducible refine rd_setL (xs := ?xs) (j := ?j) ?h1 ?h2 ?_); (case h1 => wtm_at "h"); (case h2 => rfl))
  | ((with_reducible refine rd_ixL (xs := ?xs) (v := ?v) ?h1 ?h2 ?_); (case h1 => wtm_at "q"); (case h2 => rfl))
  | ((with_reducible refine rd_ixT (xs := ?xs) (v := ?v) ?h1 ?h2 ?_); (case h1 => wtm_at "q"); (case h2 => rfl))
  | ((with_reducible show -2 ^ 62 ≤ (_ : Int)); omega)
  | ((with_reducible show (_ : Int) ≤ _); omega)
  | ((with_reducible show (_ : Int) ≤ _ ∧ _); exact ⟨by omega, by omega, by omega, by omega⟩)
  | ((with_reducible refine rd_iL1 (xs := ?xs) ?h1 ?_); (case h1 => wtm_at "q"))
  | ((with_reducible refine rd_iT1 (xs := ?xs) ?h1 ?_); (case h1 => wtm_at "q"))
  | ((with_reducible refine rd_eqD (d := ?d) (e := ?e) ?h1 ?h2 ?h3 ?h4 ?_); (case h1 => wtm_at "dp"); (case h2 => wtm_at "dp"); (case h3 => rfl); (case h4 => rfl))
  | ((with_reducible refine rd_neD (d := ?d) (e := ?e) ?h1 ?h2 ?h3 ?h4 ?_); (case h1 => wtm_at "dp"); (case h2 => wtm_at "dp"); (case h3 => rfl); (case h4 => rfl))
  | ((with_reducible refine rd_xfb (fs := ?fs) (v := ?v) ?h1 ?h2 ?_); (case h1 => wtm_at "h"); (case h2 => rfl))
  | ((with_reducible refine rd_append (xs := ?xs) ?h1 ?h2 ?_); (case h1 => wtm_at "h"); (case h2 => first | assumption | exact Nat.le_of_ble_eq_true rfl | (refine Nat.lt_of_le_of_lt (m := 1000000) ?_ (by decide); omega)))
  | ((with_reducible refine rd_lenL (ys := ?ys) ?h1 ?_); (case h1 => wtm_at "q"))
  | ((with_reducible refine rd_lenT (ys := ?ys) ?h1 ?_); (case h1 => wtm_at "q"))
  | ((with_reducible refine rd_new ?h1 ?_); (case h1 => exact Nat.le_of_ble_eq_true rfl); intro p hp)
  | ((with_reducible refine rd_tyL (xs := ?xs) ?h1 ?_); (case h1 => wtm_at "h"))
  | ((with_reducible refine rd_gtup (xs := ?xs) ?h1 ?h2 ?_); (case h1 => wtm_at "q"); (case h2 => rfl))
  | ((with_reducible refine rd_unl (xs := ?xs) ?h1 ?h2 ?_); (case h1 => wtm_at "q"); (case h2 => rfl))
  | ((with_reducible refine rd_slL (xs := ?xs) ?h1 ?_); (case h1 => wtm_at "q"); intro p hp)
  | ((with_reducible refine rd_cat (xs := ?xs) (zs := ?zs) ?h1 ?h2 ?h3 ?_); (case h1 => wtm_at "h"); (case h2 => wtm_at "h"); (case h3 => first | assumption | exact Nat.le_of_ble_eq_true rfl); intro p hp)
  | ((with_reducible refine rd_isiL (xs := ?xs) ?h1 ?_); (case h1 => wtm_at "h"))
  | ((with_reducible refine rd_isiT (xs := ?xs) ?h1 ?_); (case h1 => wtm_at "h"))
  | ((with_reducible refine rd_mk1 ?h1 ?h2 ?_); (case h1 => rfl); (case h2 => decide)))
local macro_rules | `(tactic| wtm_at "s") => `(tactic| first
  | ((with_reducible refine rd_neF ?h1 ?_); (case h1 => first | with_reducible rfl | assumption | fail))
  | ((with_reducible refine rd_eqT ?h1 ?_); (case h1 => first | with_reducible rfl | assumption | fail))
  | ((with_reducible refine rd_neT ?h1 ?_); (case h1 => first | assumption | exact non_int | exact non_ref | exact Bool.false_ne_true | exact Bool.false_ne_true.symm | fail))
  | ((with_reducible refine rd_eqF ?h1 ?_); (case h1 => first | assumption | exact non_int | exact non_ref | exact Bool.false_ne_true | exact Bool.false_ne_true.symm | fail))
  | fail)
local macro_rules | `(tactic| wtm_at "bd") => `(tactic| first
  | with_reducible assumption
  | exact Bd.mono (by with_reducible assumption) (by decide)
  | exact Bd.lit (by decide) (by decide)
  | ((with_reducible refine Bd.mulN ?_ ?_) <;> wtm_at "bd")
  | ((with_reducible refine Bd.addN ?h1 ?h2 ?h3); (case h1 => wtm_at "bd"); (case h2 => wtm_at "bd"); (case h3 => decide))
  | ((with_reducible refine Bd.subN ?h1 ?h2 ?h3); (case h1 => wtm_at "bd"); (case h2 => wtm_at "bd"); (case h3 => decide))
  | ((with_reducible refine Bd.neg ?h1); (case h1 => wtm_at "bd"))
  | fail)
local macro_rules | `(tactic| wtm_at "s") => `(tactic| first
  | ((with_reducible refine rd_fld1 (dx := ?dx) (fs := ?fs) (v := ?v) ?h1 ?h2 ?_); (case h1 => wtm_at "h"); (case h2 => rfl))
  | ((with_reducible refine rd_meth1 (dx := ?dx) (fs := ?fs) ?h1 ?h2 ?_); (case h1 => wtm_at "h"); (case h2 => rfl))
  | ((with_reducible refine rd_sfld1 (dx := ?dx) (fs := ?fs) ?h1 ?h2 ?_); (case h1 => wtm_at "h"); (case h2 => exact Nat.le_of_ble_eq_true rfl))
  | ((with_reducible refine rd_fmtI ?h1 ?_); (case h1 => exact Nat.lt_trans (txI_len (n := 1000) (by wtm_at "bd") (Nat.le_refl _)).2 (by decide)))
  | ((with_reducible refine rd_strI ?h1 ?_); (case h1 => exact Nat.lt_trans (txI_len (n := 1000) (by wtm_at "bd") (Nat.le_refl _)).2 (by decide)))
  | ((with_reducible refine rd_eqInts (ns := ?ns) (ms := ?ms) ?h1 ?h2 ?_); (case h1 => wtm_at "q"); (case h2 => wtm_at "q"))
  | ((with_reducible refine rd_neInts (ns := ?ns) (ms := ?ms) ?h1 ?h2 ?_); (case h1 => wtm_at "q"); (case h2 => wtm_at "q"))
  | ((with_reducible refine rd_listOfL (ys := ?ys) ?h1 ?_); (case h1 => wtm_at "q"); intro l hl)
  | ((with_reducible refine rd_revV (xs := ?xs) ?h1 ?_); (case h1 => wtm_at "q"); intro p hp)
  | ((with_reducible refine rd_iRev1 (xs := ?xs) ?h1 ?_); (case h1 => wtm_at "q"))
  | ((with_reducible refine rd_callO2 (dx := ?dx) (fs := ?fs) ?h1 ?_); (case h1 => wtm_at "h"))
  | ((with_reducible show CMulB _ _); refine CMulB.bd ?_ ?_ <;> wtm_at "bd")
  | fail)
local macro_rules | `(tactic| wtm_at "s") => `(tactic| first
  | ((with_reducible refine rd_dinF (ks := ?ks) ?h1 ?_); (case h1 => wtm_at "h"))
  | ((with_reducible refine rd_dnotinF (ks := ?ks) ?h1 ?_); (case h1 => wtm_at "h"))
  | ((with_reducible refine rd_listF (ks := ?ks) ?h1 ?_); (case h1 => wtm_at "h"); intro l hl)
  | ((with_reducible refine rd_sortedI (ns := ?ns) ?h1 ?_); (case h1 => wtm_at "q"))
  | fail)
local macro_rules | `(tactic| wtm_at "tp") => `(tactic| first
  | ((with_reducible refine rd_tupL (ys := ?ys) ?h1 ?_); (case h1 => wtm_at "q"); intro l hl)
  | ((with_reducible refine rd_tupT (ys := ?ys) ?h1 ?_); (case h1 => wtm_at "q"))
  | fail)
/-! a test that omega answers -/
local macro_rules | `(tactic| wtm_at "o") => `(tactic| first
  | ((with_reducible refine rd_neF ?h1 ?_); (case h1 => omega))
  | ((with_reducible refine rd_eqT ?h1 ?_); (case h1 => omega))
  | ((with_reducible refine rd_neT ?h1 ?_); (case h1 => omega))
  | ((with_reducible refine rd_eqF ?h1 ?_); (case h1 => omega))
  | fail)
/-! steps while there is one way -/
local macro_rules | `(tactic| wtm_at "rs") => `(tactic| repeat' (first | wtm_at "r" | wtm_at "s" | fail))
/-! all ways -/
local macro_rules | `(tactic| wtm_at "ra") => `(tactic| repeat' (first | wtm_at "r" | wtm_at "s" | wtm_at "i" | fail))
local macro_rules | `(tactic| wtm_at "ro") => `(tactic| repeat' (first | wtm_at "r" | wtm_at "s" | wtm_at "o" | fail))
local macro_rules | `(tactic| wtm_at "rao") => `(tactic| repeat' (first | wtm_at "r" | wtm_at "s" | wtm_at "o" | wtm_at "i" | fail))
/-! ## mathematics -/
/-! part m_signs -/
def factorOf (rule : Str) (n m : Int) : Int :=
  if rule = "two" ∧ (m % 8 = 3 ∨ m % 8 = 5) then -1
  else if rule = "minus" ∧ m % 4 = 3 then -1
  else if rule = "turn" ∧ n % 4 = 3 ∧ m % 4 = 3 then -1
  else 1
theorem factorOf_pm (rule : Str) (n m : Int) : factorOf rule n m = 1 ∨ factorOf rule n m = -1 := by
  unfold factorOf
  split
  · exact .inr rfl
  · split
    · exact .inr rfl
    · split
      · exact .inr rfl
      · exact .inl rfl
def facT (m : Nat) : Int := if m % 8 = 3 ∨ m % 8 = 5 then -1 else 1
def facR (n m : Nat) : Int := if n % 4 = 3 ∧ m % 4 = 3 then -1 else 1
theorem str_ne1 : ¬ (("turn" : Str) = "two") := by decide +kernel
theorem str_ne2 : ¬ (("turn" : Str) = "minus") := by decide +kernel
theorem str_ne3 : ¬ (("two" : Str) = "minus") := by decide +kernel
theorem str_ne4 : ¬ (("two" : Str) = "turn") := by decide +kernel
theorem factorOf_two (n m : Int) (hm : 0 < m) : factorOf "two" n m = facT m.toNat := by
  unfold factorOf facT
  have e : (m % 8 = 3 ∨ m % 8 = 5) ↔ (m.toNat % 8 = 3 ∨ m.toNat % 8 = 5) := by omega
  by_cases h : m % 8 = 3 ∨ m % 8 = 5
  · rw [if_pos ⟨rfl, h⟩, if_pos (e.mp h)]
  · rw [if_neg (fun z => h z.2), if_neg (fun z => str_ne3 z.1), if_neg (fun z => str_ne4 z.1), if_neg (fun z => h (e.mpr z))]
theorem factorOf_turn (n m : Int) (hn : 0 ≤ n) (hm : 0 < m) : factorOf "turn" n m = facR n.toNat m.toNat := by
  unfold factorOf facR
  have e : (n % 4 = 3 ∧ m % 4 = 3) ↔ (n.toNat % 4 = 3 ∧ m.toNat % 4 = 3) := by omega
  by_cases h : n % 4 = 3 ∧ m % 4 = 3
  · rw [if_neg (fun z => str_ne1 z.1), if_neg (fun z => str_ne2 z.1), if_pos ⟨rfl, h⟩, if_pos (e.mp h)]
  · rw [if_neg (fun z => str_ne1 z.1), if_neg (fun z => str_ne2 z.1), if_neg (fun z => h z.2), if_neg (fun z => h (e.mpr z))]
/-- the sign, by the program's own steps -/
def jac (n m : Nat) : Int :=
  if _h : n = 0 then (if m = 1 then 1 else 0)
  else if n % 2 = 0 then facT m * jac (n / 2) m
  else facR n m * jac (m % n) n
termination_by n
decreasing_by
  · omega
  · exact Nat.mod_lt _ (by omega)
theorem jac_zero (m : Nat) : jac 0 m = if m = 1 then 1 else 0 := by
  rw [jac]
  simp
theorem jac_two {n m : Nat} (h0 : n ≠ 0) (h : n % 2 = 0) : jac n m = facT m * jac (n / 2) m := by
  rw [jac, dif_neg h0, if_pos h]
theorem jac_turn {n m : Nat} (h : n % 2 = 1) : jac n m = facR n m * jac (m % n) n := by
  rw [jac, dif_neg (by omega), if_neg (by omega)]
def sgn (n m : Int) : Int := jac (n % m).toNat m.toNat
/-! part m_form -/
/-- a form's three numbers -/
structure Fm where
  a : Int
  b : Int
  c : Int
deriving DecidableEq
def Fm.D (f : Fm) : Int := f.b * f.b - 4 * f.a * f.c
def Fm.ok (f : Fm) : Prop := 1 ≤ f.a ∧ f.D < 0
def Fm.at (f : Fm) (x y : Int) : Int := f.a * x * x + f.b * x * y + f.c * y * y
def Fm.st (f : Fm) (k : Int) : Fm := if k = 0 then ⟨f.c, -f.b, f.a⟩ else ⟨f.a, f.b + 2 * f.a * k, f.a * k * k + f.b * k + f.c⟩
def Fm.turn (f : Fm) (ks : List Int) : Fm := ks.foldl Fm.st f
def Fm.nx (f : Fm) : Option Int := if ¬ (-f.a < f.b ∧ f.b ≤ f.a) then some ((f.a - f.b) / (2 * f.a)) else if f.c < f.a ∨ f.a = f.c ∧ f.b < 0 then some 0 else none
def Fm.bd (n : Nat) (f : Fm) : Prop := Bd n f.a ∧ Bd n f.b ∧ Bd n f.c
theorem Fm.st_zero (f : Fm) : f.st 0 = ⟨f.c, -f.b, f.a⟩ := if_pos rfl
theorem Fm.st_ne {f : Fm} {k : Int} (h : k ≠ 0) : f.st k = ⟨f.a, f.b + 2 * f.a * k, f.a * k * k + f.b * k + f.c⟩ := if_neg h
theorem Fm.st_D (f : Fm) (k : Int) : (f.st k).D = f.D := by
  unfold Fm.st Fm.D
  split
  · simp only [Int.neg_mul_neg]
    grind
  · grind
theorem sq_nonneg (x : Int) : 0 ≤ x * x := by
  rcases Int.le_total 0 x with h | h
  · exact Int.mul_nonneg h h
  · have := Int.mul_nonneg (show 0 ≤ -x by omega) (show 0 ≤ -x by omega)
    rw [Int.neg_mul_neg] at this
    exact this
theorem Fm.ok.c_pos {f : Fm} (h : f.ok) : 1 ≤ f.c := by
  obtain ⟨h1, h2⟩ := h
  unfold Fm.D at h2
  have := sq_nonneg f.b
  rcases Int.lt_or_le f.c 1 with z | z
  · exfalso
    have : 4 * f.a * f.c ≤ 4 * f.a * 0 := Int.mul_le_mul_of_nonneg_left (by omega) (by omega)
    omega
  · exact z
theorem Fm.at_D (f : Fm) (x y : Int) : 4 * f.a * f.at x y = (2 * f.a * x + f.b * y) * (2 * f.a * x + f.b * y) - f.D * (y * y) := by
  unfold Fm.at Fm.D
  grind
theorem Fm.ok.st {f : Fm} (h : f.ok) (k : Int) : (f.st k).ok := by
  refine ⟨?_, by rw [Fm.st_D]; exact h.2⟩
  unfold Fm.st
  split
  · exact h.c_pos
  · exact h.1
theorem Fm.bd.mono {n m : Nat} {f : Fm} (h : Fm.bd n f) (hm : n ≤ m) : Fm.bd m f := ⟨h.1.mono hm, h.2.1.mono hm, h.2.2.mono hm⟩
theorem Fm.turn_snoc (f : Fm) (ks : List Int) (k : Int) : f.turn (ks ++ [k]) = (f.turn ks).st k := by
  unfold Fm.turn
  rw [List.foldl_append]
  rfl
theorem Fm.turn_D (f : Fm) : ∀ ks : List Int, (f.turn ks).D = f.D
  | [] => rfl
  | k :: ks => by
    show ((f.st k).turn ks).D = f.D
    rw [Fm.turn_D (f.st k) ks, Fm.st_D]
theorem Fm.ok.turn {f : Fm} (h : f.ok) : ∀ ks : List Int, (f.turn ks).ok
  | [] => h
  | k :: ks => Fm.ok.turn (h.st k) ks
theorem sq_le {x y : Int} (h : x.natAbs ≤ y.natAbs) : x * x ≤ y * y := by
  have e : ∀ z : Int, z * z = (z.natAbs : Int) * z.natAbs := fun z => by
    rw [← Int.natCast_mul, Int.natAbs_mul_self]
  rw [e x, e y]
  exact Int.mul_le_mul (by omega) (by omega) (by omega) (by omega)
/-! part m_vopt -/
def vOpt : Option Int → V
  | some z => .int z
  | none => .non
/-! part m_red -/
def Fm.norm (f : Fm) : Prop := -f.a < f.b ∧ f.b ≤ f.a
instance (f : Fm) : Decidable f.norm := inferInstanceAs (Decidable (_ ∧ _))
/-- reduced -/
def Fm.red (f : Fm) : Prop := f.norm ∧ f.a ≤ f.c ∧ (f.a = f.c → 0 ≤ f.b)
theorem Fm.nx_none {f : Fm} : f.nx = none ↔ f.red := by
  unfold Fm.nx Fm.red
  by_cases h : -f.a < f.b ∧ f.b ≤ f.a
  · rw [if_neg (by simpa using h)]
    split
    · simp only [reduceCtorEq, false_iff]
      rintro ⟨_, h2, h3⟩
      omega
    · simp only [true_iff]
      exact ⟨h, by omega, by omega⟩
  · rw [if_pos h]
    simp only [reduceCtorEq, false_iff]
    rintro ⟨h2, _⟩
    exact h h2
/-- what a shift does -/
theorem Fm.shift {f : Fm} (h : 1 ≤ f.a) (hn : ¬ f.norm) : f.nx = some ((f.a - f.b) / (2 * f.a)) ∧ (f.a - f.b) / (2 * f.a) ≠ 0 ∧ (f.st ((f.a - f.b) / (2 * f.a))).a = f.a ∧ (f.st ((f.a - f.b) / (2 * f.a))).norm := by
  have e := Int.mul_ediv_add_emod (f.a - f.b) (2 * f.a)
  have r0 := Int.emod_nonneg (f.a - f.b) (show 2 * f.a ≠ 0 by omega)
  have r1 := Int.emod_lt_of_pos (f.a - f.b) (show 0 < 2 * f.a by omega)
  generalize hk : (f.a - f.b) / (2 * f.a) = k at *
  have nz : k ≠ 0 := by
    intro z
    rw [z, Int.mul_zero] at e
    exact hn ⟨by omega, by omega⟩
  refine ⟨by unfold Fm.nx; rw [if_pos (show ¬ (-f.a < f.b ∧ f.b ≤ f.a) from hn), hk], nz, ?_, ?_⟩
  · rw [Fm.st_ne nz]
  · rw [Fm.st_ne nz]
    exact ⟨by dsimp only; omega, by dsimp only; omega⟩
theorem Fm.swap {f : Fm} (hn : f.norm) (h : ¬ f.red) : f.nx = some 0 ∧ (f.c < f.a ∨ f.a = f.c ∧ f.b < 0) := by
  have h2 : f.c < f.a ∨ f.a = f.c ∧ f.b < 0 := by
    unfold Fm.red at h
    rcases Int.lt_or_le f.c f.a with z | z
    · exact .inl z
    · refine .inr ?_
      by_cases e : f.a = f.c
      · refine ⟨e, ?_⟩
        rcases Int.lt_or_le f.b 0 with y | y
        · exact y
        · exact absurd ⟨hn, z, fun _ => y⟩ h
      · exact absurd ⟨hn, z, fun y => absurd y e⟩ h
  refine ⟨?_, h2⟩
  unfold Fm.nx
  rw [if_neg (show ¬ ¬ (-f.a < f.b ∧ f.b ≤ f.a) from fun z => z hn), if_pos h2]
def Fm.mu (f : Fm) : Nat := (4 * f.a).toNat + if f.norm then (if f.b < 0 then 1 else 0) else 2
theorem Fm.mu_lt {f : Fm} (ho : f.ok) {k : Int} (h : f.nx = some k) : (f.st k).mu < f.mu := by
  have h1 := ho.1
  have hc := ho.c_pos
  by_cases hn : f.norm
  · by_cases hr : f.red
    · rw [Fm.nx_none.mpr hr] at h
      cases h
    · obtain ⟨e, h2⟩ := Fm.swap hn hr
      rw [e] at h
      cases h
      rw [Fm.st_zero]
      have m1 : Fm.mu ⟨f.c, -f.b, f.a⟩ ≤ (4 * f.c).toNat + 2 := by
        unfold Fm.mu
        dsimp only
        split
        · split <;> omega
        · omega
      rcases h2 with h2 | ⟨h2, h3⟩
      · have : (4 * f.a).toNat ≤ f.mu := Nat.le_add_right _ _
        omega
      · have e1 : f.mu = (4 * f.a).toNat + 1 := by
          unfold Fm.mu
          rw [if_pos hn, if_pos h3]
        have hn2 : Fm.norm ⟨f.c, -f.b, f.a⟩ := ⟨by dsimp only; have := hn.1; omega, by dsimp only; have := hn.1; omega⟩
        have e2 : Fm.mu ⟨f.c, -f.b, f.a⟩ = (4 * f.c).toNat + 0 := by
          unfold Fm.mu
          rw [if_pos hn2]
          dsimp only
          rw [if_neg (by omega)]
        omega
  · obtain ⟨e, nz, ha, hn2⟩ := Fm.shift h1 hn
    rw [e] at h
    cases h
    have e1 : f.mu = (4 * f.a).toNat + 2 := by
      unfold Fm.mu
      rw [if_neg hn]
    have e2 : (f.st ((f.a - f.b) / (2 * f.a))).mu ≤ (4 * f.a).toNat + 1 := by
      unfold Fm.mu
      rw [if_pos hn2, ha]
      split <;> omega
    omega
def stepsN : Nat → Fm → List Int
  | 0, _ => []
  | n + 1, f => match f.nx with
    | none => []
    | some k => k :: stepsN n (f.st k)
def stepsF (f : Fm) : List Int := stepsN f.mu f
theorem stepsN_eq : ∀ (n m : Nat) (f : Fm), f.ok → f.mu ≤ n → f.mu ≤ m → stepsN n f = stepsN m f
  | 0, 0, _, _, _, _ => rfl
  | 0, m + 1, f, ho, h, _ => by
    unfold stepsN
    cases e : f.nx with
    | none => rfl
    | some k => have := Fm.mu_lt ho e; omega
  | n + 1, 0, f, ho, _, h => by
    unfold stepsN
    cases e : f.nx with
    | none => rfl
    | some k => have := Fm.mu_lt ho e; omega
  | n + 1, m + 1, f, ho, h, h' => by
    unfold stepsN
    cases e : f.nx with
    | none => rfl
    | some k =>
      have := Fm.mu_lt ho e
      dsimp only
      rw [stepsN_eq n m (f.st k) (ho.st k) (by omega) (by omega)]
theorem stepsF_none {f : Fm} (h : f.nx = none) : stepsF f = [] := by
  unfold stepsF
  cases e : f.mu with
  | zero => rfl
  | succ n => unfold stepsN; rw [h]
theorem stepsF_some {f : Fm} (ho : f.ok) {k : Int} (h : f.nx = some k) : stepsF f = k :: stepsF (f.st k) := by
  have := Fm.mu_lt ho h
  unfold stepsF
  obtain ⟨n, e⟩ : ∃ n, f.mu = n + 1 := ⟨f.mu - 1, by omega⟩
  rw [e]
  conv => lhs; unfold stepsN
  rw [h]
  dsimp only
  rw [stepsN_eq n (f.st k).mu _ (ho.st k) (by omega) (Nat.le_refl _)]
def redF (f : Fm) : Fm := f.turn (stepsF f)
theorem redF_red : ∀ (n : Nat) (f : Fm), f.ok → f.mu ≤ n → (redF f).red
  | 0, f, ho, h => by
    cases e : f.nx with
    | none =>
      unfold redF
      rw [stepsF_none e]
      exact Fm.nx_none.mp e
    | some k => have := Fm.mu_lt ho e; omega
  | n + 1, f, ho, h => by
    cases e : f.nx with
    | none =>
      unfold redF
      rw [stepsF_none e]
      exact Fm.nx_none.mp e
    | some k =>
      have := Fm.mu_lt ho e
      have ih := redF_red n (f.st k) (ho.st k) (by omega)
      unfold redF at ih ⊢
      rw [stepsF_some ho e]
      exact ih
/-- sizes: the outer numbers stay below A -/
def Fm.lo (A : Int) (f : Fm) : Prop := f.a ≤ A ∧ f.c ≤ A
theorem Fm.lo_st {A : Int} {f : Fm} (ho : f.ok) (hl : f.lo A) {k : Int} (h : f.nx = some k) : (f.st k).lo A := by
  have h1 := ho.1
  by_cases hn : f.norm
  · by_cases hr : f.red
    · rw [Fm.nx_none.mpr hr] at h
      cases h
    · obtain ⟨e, _⟩ := Fm.swap hn hr
      rw [e] at h
      cases h
      rw [Fm.st_zero]
      exact ⟨hl.2, hl.1⟩
  · obtain ⟨e, nz, ha, hn2⟩ := Fm.shift h1 hn
    rw [e] at h
    cases h
    generalize (f.a - f.b) / (2 * f.a) = k at *
    refine ⟨by rw [ha]; exact hl.1, ?_⟩
    have hD := Fm.st_D f k
    unfold Fm.D at hD
    rw [ha] at hD
    have hb : (f.st k).b.natAbs ≤ f.b.natAbs := by
      have n1 := hn2.1
      have n2 := hn2.2
      rw [ha] at n1 n2
      unfold Fm.norm at hn
      omega
    have := sq_le hb
    have h4 : 4 * f.a * (f.st k).c ≤ 4 * f.a * f.c := by omega
    have := Int.le_of_mul_le_mul_left h4 (by omega)
    have := hl.2
    omega
theorem Fm.lo_b {A : Int} {f : Fm} (ho : f.ok) (hl : f.lo A) : -(2 * A) < f.b ∧ f.b < 2 * A := by
  obtain ⟨h1, h2⟩ := ho
  have hc := Fm.ok.c_pos ⟨h1, h2⟩
  unfold Fm.D at h2
  have m1 : 4 * f.a * f.c ≤ (2 * A) * (2 * A) := by
    have a1 : f.a * f.c ≤ A * A := Int.mul_le_mul hl.1 hl.2 (by omega) (by have := hl.1; omega)
    have e1 : 4 * f.a * f.c = 4 * (f.a * f.c) := by rw [Int.mul_assoc]
    have e2 : (2 * A) * (2 * A) = 4 * (A * A) := by grind
    omega
  have hA : 1 ≤ A := by have := hl.1; omega
  rcases Int.lt_or_le f.b (2 * A) with z | z
  · refine ⟨?_, z⟩
    rcases Int.lt_or_le (-(2 * A)) f.b with y | y
    · exact y
    · have := sq_le (x := 2 * A) (y := f.b) (by omega)
      omega
  · have := sq_le (x := 2 * A) (y := f.b) (by omega)
    omega
theorem Fm.lo_bd {n : Nat} {f : Fm} (ho : f.ok) (hl : f.lo (2 ^ n)) : Fm.bd (n + 1) f := by
  have hb := Fm.lo_b ho hl
  have h1 := ho.1
  have hc := ho.c_pos
  have e : (2 : Int) ^ (n + 1) = 2 * 2 ^ n := by rw [Int.pow_succ, Int.mul_comm]
  have p0 : (0 : Int) < 2 ^ n := Int.pow_pos (by decide)
  have := hl.1
  have := hl.2
  exact ⟨Bd.of (by omega) (by omega), Bd.of (by omega) (by omega), Bd.of (by omega) (by omega)⟩
theorem Fm.bd_lo {n : Nat} {f : Fm} (hb : Fm.bd n f) : f.lo (2 ^ n) := by
  have := hb.1.lt
  have := hb.2.2.lt
  exact ⟨by omega, by omega⟩
theorem Fm.nx_bd {n : Nat} {f : Fm} (ho : f.ok) (hb : Fm.bd n f) {k : Int} (h : f.nx = some k) : Bd (n + 2) k := by
  have h1 := ho.1
  by_cases hn : f.norm
  · by_cases hr : f.red
    · rw [Fm.nx_none.mpr hr] at h
      cases h
    · obtain ⟨e, _⟩ := Fm.swap hn hr
      rw [e] at h
      cases h
      have p : (0 : Int) < 2 ^ (n + 2) := Int.pow_pos (by decide)
      exact Bd.of (by omega) p
  · obtain ⟨e, nz, ha, hn2⟩ := Fm.shift h1 hn
    rw [e] at h
    cases h
    have := (hb.1.sub hb.2.1).div (show 0 < 2 * f.a by omega)
    rw [Nat.max_self] at this
    exact this
/-- all the way down: sizes -/
theorem stepsF_bd {N : Nat} : ∀ (n : Nat) (f : Fm), f.ok → f.mu ≤ n → f.lo (2 ^ N) → (∀ k ∈ stepsF f, Bd (N + 3) k) ∧ ∀ i, i ≤ (stepsF f).length → Fm.bd (N + 1) (f.turn ((stepsF f).take i))
  | n, f, ho, h, hl => by
    cases e : f.nx with
    | none =>
      rw [stepsF_none e]
      refine ⟨fun k hk => absurd hk List.not_mem_nil, fun i hi => ?_⟩
      rw [List.take_nil]
      exact Fm.lo_bd ho hl
    | some k =>
      have hlt := Fm.mu_lt ho e
      match n with
      | 0 => omega
      | n + 1 =>
        obtain ⟨g1, g2⟩ := stepsF_bd n (f.st k) (ho.st k) (by omega) (Fm.lo_st ho hl e)
        rw [stepsF_some ho e]
        refine ⟨fun j hj => ?_, fun i hi => ?_⟩
        · rcases List.mem_cons.mp hj with rfl | hj
          · exact Fm.nx_bd ho (Fm.lo_bd ho hl) e
          · exact g1 j hj
        · cases i with
          | zero => exact Fm.lo_bd ho hl
          | succ i => exact g2 i (by simpa using hi)
/-! part m_eqv -/
def Fm.act (f : Fm) (p q r s : Int) : Fm := ⟨f.a * p * p + f.b * p * r + f.c * r * r, 2 * f.a * p * q + f.b * (p * s + q * r) + 2 * f.c * r * s, f.a * q * q + f.b * q * s + f.c * s * s⟩
def Fm.eqv (f g : Fm) : Prop := ∃ p q r s : Int, p * s - q * r = 1 ∧ g = f.act p q r s
theorem Fm.ext' {f g : Fm} (h1 : f.a = g.a) (h2 : f.b = g.b) (h3 : f.c = g.c) : f = g := by
  cases f
  cases g
  simp_all
theorem Fm.eqv.refl (f : Fm) : f.eqv f := ⟨1, 0, 0, 1, by decide, Fm.ext' (by simp [Fm.act]) (by simp [Fm.act]) (by simp [Fm.act])⟩
theorem Fm.eqv.trans {f g h : Fm} (h1 : f.eqv g) (h2 : g.eqv h) : f.eqv h := by
  obtain ⟨p, q, r, s, d, rfl⟩ := h1
  obtain ⟨p', q', r', s', d', rfl⟩ := h2
  refine ⟨p * p' + q * r', p * q' + q * s', r * p' + s * r', r * q' + s * s', by grind, Fm.ext' ?_ ?_ ?_⟩
  · simp only [Fm.act]; grind
  · simp only [Fm.act]; grind
  · simp only [Fm.act]; grind
theorem Fm.eqv.symm {f g : Fm} (h : f.eqv g) : g.eqv f := by
  obtain ⟨p, q, r, s, d, rfl⟩ := h
  refine ⟨s, -q, -r, p, by grind, Fm.ext' ?_ ?_ ?_⟩
  · have e : f.a = f.a * ((p * s - q * r) * (p * s - q * r)) := by rw [d]; simp
    simp only [Fm.act]
    grind
  · have e : f.b = f.b * ((p * s - q * r) * (p * s - q * r)) := by rw [d]; simp
    simp only [Fm.act]
    grind
  · have e : f.c = f.c * ((p * s - q * r) * (p * s - q * r)) := by rw [d]; simp
    simp only [Fm.act]
    grind
theorem Fm.st_eqv (f : Fm) (k : Int) : f.eqv (f.st k) := by
  by_cases hk : k = 0
  · subst hk
    rw [Fm.st_zero]
    exact ⟨0, -1, 1, 0, by decide, Fm.ext' (by simp [Fm.act]) (by simp [Fm.act]) (by simp [Fm.act])⟩
  · rw [Fm.st_ne hk]
    exact ⟨1, k, 0, 1, by simp, Fm.ext' (by simp [Fm.act]) (by simp [Fm.act]; omega) (by simp [Fm.act])⟩
theorem Fm.turn_eqv (f : Fm) : ∀ ks : List Int, f.eqv (f.turn ks)
  | [] => Fm.eqv.refl f
  | k :: ks => (Fm.st_eqv f k).trans (Fm.turn_eqv (f.st k) ks)
theorem Fm.act_at (f : Fm) (p q r s x y : Int) : (f.act p q r s).at x y = f.at (p * x + q * y) (r * x + s * y) := by
  simp only [Fm.act, Fm.at]
  grind
theorem Fm.act_D (f : Fm) (p q r s : Int) : (f.act p q r s).D = f.D * ((p * s - q * r) * (p * s - q * r)) := by
  simp only [Fm.act, Fm.D]
  grind
theorem Fm.eqv.D {f g : Fm} (h : f.eqv g) : g.D = f.D := by
  obtain ⟨p, q, r, s, d, rfl⟩ := h
  rw [Fm.act_D, d]
  simp
theorem mul_abs_le {x y : Int} : -((x.natAbs : Int) * y.natAbs) ≤ x * y := by
  have := Int.natAbs_mul x y
  have e : (((x * y).natAbs : Nat) : Int) = (x.natAbs : Int) * y.natAbs := by rw [this, Int.natCast_mul]
  rw [← e]
  omega
/-- off the first axis a reduced form is at least c -/
theorem Fm.red.ge_c {f : Fm} (h : f.red) (ha : 1 ≤ f.a) {x y : Int} (hy : y ≠ 0) : f.c ≤ f.at x y := by
  obtain ⟨⟨n1, n2⟩, hac, _⟩ := h
  have hx2 : x * x = (x.natAbs : Int) * x.natAbs := by rw [← Int.natCast_mul, Int.natAbs_mul_self]
  have hy2 : y * y = (y.natAbs : Int) * y.natAbs := by rw [← Int.natCast_mul, Int.natAbs_mul_self]
  have hY1 : 1 ≤ (y.natAbs : Int) := by omega
  have hX0 : 0 ≤ (x.natAbs : Int) := by omega
  have hb1 : (f.b.natAbs : Int) ≤ f.a := by omega
  have hxy : ((x * y).natAbs : Int) = (x.natAbs : Int) * y.natAbs := by rw [Int.natAbs_mul, Int.natCast_mul]
  have hm := mul_abs_le (x := f.b) (y := x * y)
  rw [hxy] at hm
  generalize (x.natAbs : Int) = X at *
  generalize (y.natAbs : Int) = Y at *
  have hXY : 0 ≤ X * Y := Int.mul_nonneg hX0 (by omega)
  have hb : -(f.a * (X * Y)) ≤ f.b * (x * y) := by
    have : (f.b.natAbs : Int) * (X * Y) ≤ f.a * (X * Y) := Int.mul_le_mul_of_nonneg_right hb1 hXY
    omega
  have e : f.at x y = f.a * (X * X) + f.b * (x * y) + f.c * (Y * Y) := by
    rw [← hx2, ← hy2]
    unfold Fm.at
    grind
  have low : f.a * (X * X) - f.a * (X * Y) + f.c * (Y * Y) ≤ f.at x y := by
    rw [e]
    omega
  refine Int.le_trans ?_ low
  have hYY : Y * 1 ≤ Y * Y := Int.mul_le_mul_of_nonneg_left hY1 (by omega)
  rcases Int.lt_or_le X Y with z | z
  · have t1 : 0 ≤ (f.c - f.a) * (X * (Y - X)) := Int.mul_nonneg (by omega) (Int.mul_nonneg hX0 (by omega))
    have t2 : 1 ≤ X * X + Y * (Y - X) := by
      have : 0 ≤ X * X := Int.mul_nonneg hX0 hX0
      have : Y * 1 ≤ Y * (Y - X) := Int.mul_le_mul_of_nonneg_left (by omega) (by omega)
      omega
    have t3 : f.c * 1 ≤ f.c * (X * X + Y * (Y - X)) := Int.mul_le_mul_of_nonneg_left t2 (by omega)
    have t4 : f.a * (X * X) - f.a * (X * Y) + f.c * (Y * Y) = f.c * (X * X + Y * (Y - X)) + (f.c - f.a) * (X * (Y - X)) := by grind
    omega
  · have t1 : 0 ≤ f.a * (X * (X - Y)) := Int.mul_nonneg (by omega) (Int.mul_nonneg hX0 (by omega))
    have t2 : f.c * 1 ≤ f.c * (Y * Y) := Int.mul_le_mul_of_nonneg_left (by omega) (by omega)
    have t4 : f.a * (X * X) - f.a * (X * Y) = f.a * (X * (X - Y)) := by grind
    omega
theorem Fm.at_y0 (f : Fm) (x : Int) : f.at x 0 = f.a * (x * x) := by
  unfold Fm.at
  grind
theorem Fm.red.ge_a {f : Fm} (h : f.red) (ha : 1 ≤ f.a) {x y : Int} (hxy : x ≠ 0 ∨ y ≠ 0) : f.a ≤ f.at x y := by
  by_cases hy : y = 0
  · subst hy
    rw [Fm.at_y0]
    have : 1 ≤ x * x := by
      have := sq_le (x := 1) (y := x) (by omega)
      omega
    have := Int.mul_le_mul_of_nonneg_left this (show 0 ≤ f.a by omega)
    omega
  · exact Int.le_trans h.2.1 (h.ge_c ha hy)
/-- the first number of a reduced form is the least value of the class -/
theorem Fm.eqv.min {f g : Fm} (h : f.eqv g) (hr : g.red) (ha : 1 ≤ g.a) {x y : Int} (hxy : x ≠ 0 ∨ y ≠ 0) : g.a ≤ f.at x y := by
  obtain ⟨p, q, r, s, d, e⟩ := h.symm
  rw [e, Fm.act_at]
  refine hr.ge_a ha ?_
  refine Classical.byContradiction fun hn => ?_
  have h1 : p * x + q * y = 0 := Classical.byContradiction fun z => hn (.inl z)
  have h2 : r * x + s * y = 0 := Classical.byContradiction fun z => hn (.inr z)
  have hx : x = (p * s - q * r) * x := by rw [d]; simp
  have hy : y = (p * s - q * r) * y := by rw [d]; simp
  have hx0 : x = s * (p * x + q * y) - q * (r * x + s * y) := by rw [hx]; grind
  have hy0 : y = p * (r * x + s * y) - r * (p * x + q * y) := by rw [hy]; grind
  rw [h1, h2] at hx0 hy0
  simp at hx0 hy0
  omega
theorem sq_one {x : Int} (h : x * x = 1) : x = 1 ∨ x = -1 := by
  have : x.natAbs * x.natAbs = 1 := by rw [Int.natAbs_mul_natAbs_eq h]
  have := Nat.eq_one_of_mul_eq_one_left this
  omega
/-- one reduced form a class -/
theorem Fm.eqv.uniq1 {g h : Fm} (e : g.eqv h) (hg : g.red) (hh : h.red) (ga : 1 ≤ g.a) (ha : 1 ≤ h.a) (hlt : g.a < g.c) : h = g := by
  have ea : h.a = g.a := by
    have h1 := e.min hh ha (x := 1) (y := 0) (.inl (by decide))
    have h2 := e.symm.min hg ga (x := 1) (y := 0) (.inl (by decide))
    rw [Fm.at_y0] at h1 h2
    omega
  have hD := e.D
  obtain ⟨p, q, r, s, d, eh⟩ := e
  have hv : h.a = g.at p r := by
    rw [eh]
    simp only [Fm.act, Fm.at]
  have r0 : r = 0 := Classical.byContradiction fun z => by
    have := hg.ge_c ga (x := p) z
    omega
  subst r0
  rw [Int.mul_zero, Int.sub_zero] at d
  have hp : p = 1 ∧ s = 1 ∨ p = -1 ∧ s = -1 := by
    have h1 : p.natAbs * s.natAbs = 1 := by rw [← Int.natAbs_mul, d]; rfl
    have h2 := Nat.eq_one_of_mul_eq_one_right h1
    have h3 := Nat.eq_one_of_mul_eq_one_left h1
    rcases (show p = 1 ∨ p = -1 by omega) with rfl | rfl
    · exact .inl ⟨rfl, by omega⟩
    · exact .inr ⟨rfl, by omega⟩
  have hb : ∃ n, h.b = g.b + 2 * (g.a * n) := by
    rcases hp with ⟨rfl, rfl⟩ | ⟨rfl, rfl⟩
    · exact ⟨q, by rw [eh]; simp only [Fm.act]; grind⟩
    · exact ⟨-q, by rw [eh]; simp only [Fm.act]; grind⟩
  obtain ⟨n, hb⟩ := hb
  have n0 : n = 0 := by
    have h1 := hg.1
    have h2 := hh.1
    unfold Fm.norm at h1 h2
    rcases Int.lt_trichotomy n 0 with z | z | z
    · have : g.a * n ≤ g.a * -1 := Int.mul_le_mul_of_nonneg_left (by omega) (by omega)
      omega
    · exact z
    · have : g.a * 1 ≤ g.a * n := Int.mul_le_mul_of_nonneg_left (by omega) (by omega)
      omega
  have eb : h.b = g.b := by
    rw [hb, n0]
    simp
  refine Fm.ext' ea eb ?_
  unfold Fm.D at hD
  rw [ea, eb] at hD
  have : 4 * g.a * h.c = 4 * g.a * g.c := by omega
  exact Int.eq_of_mul_eq_mul_left (by omega) this
theorem Fm.eqv.uniq {g h : Fm} (e : g.eqv h) (hg : g.red) (hh : h.red) (ga : 1 ≤ g.a) (ha : 1 ≤ h.a) : h = g := by
  rcases Int.lt_or_le g.a g.c with z | z
  · exact e.uniq1 hg hh ga ha z
  · rcases Int.lt_or_le h.a h.c with y | y
    · exact (e.symm.uniq1 hh hg ha ga y).symm
    · have ea : h.a = g.a := by
        have h1 := e.min hh ha (x := 1) (y := 0) (.inl (by decide))
        have h2 := e.symm.min hg ga (x := 1) (y := 0) (.inl (by decide))
        rw [Fm.at_y0] at h1 h2
        omega
      have g1 := hg.2.1
      have g2 := hg.2.2 (by omega)
      have h1 := hh.2.1
      have h2 := hh.2.2 (by omega)
      have hD := e.D
      unfold Fm.D at hD
      have ec : h.c = g.c := by omega
      rw [ea, ec] at hD
      have hb : h.b * h.b = g.b * g.b := by omega
      refine Fm.ext' ea ?_ ec
      have e1 : h.b.natAbs * h.b.natAbs = g.b.natAbs * g.b.natAbs := by
        have := congrArg Int.natAbs hb
        rw [Int.natAbs_mul, Int.natAbs_mul] at this
        exact this
      rcases Nat.lt_trichotomy h.b.natAbs g.b.natAbs with w | w | w
      · have := Nat.mul_lt_mul'' w w
        omega
      · omega
      · have := Nat.mul_lt_mul'' w w
        omega
theorem redF_eqv (f : Fm) : f.eqv (redF f) := Fm.turn_eqv f _
/-! how many steps -/
theorem len_red {f : Fm} (h : f.red) : stepsF f = [] := stepsF_none (Fm.nx_none.mpr h)
/-! part m_pool -/
/-- a pool of draws, at most j of them made -/
def PoolAt (H : Hp) (p : Addr) (j : Int) : Prop := ∃ c k b, H p = some (.lst [.int c, .int k, .bl b]) ∧ 0 ≤ k ∧ k ≤ j
theorem PoolAt.new {H : Hp} {p : Addr} {n : Int} {b : Bool} : PoolAt (upd H p (.lst [.int n, .int 0, .bl b])) p 0 := ⟨_, _, _, upd_same, by omega, by omega⟩
/-! part m_row -/
def Fm.ns (f : Fm) : List Int := [f.a, f.b, f.c]
abbrev Fm.row (f : Fm) : List V := f.ns.map V.int
/-! part m_back -/
/-- where a point of the form behind the steps comes from -/
def backP : Int × Int → List Int → Int × Int
  | p, [] => p
  | p, k :: ks => let q := backP p ks; if k = 0 then (-q.2, q.1) else (q.1 + k * q.2, q.2)
/-! part m_turn -/
theorem Fm.st_bd {n : Nat} {f : Fm} {k : Int} (hb : Fm.bd n f) (hk : Bd 3 k) : Fm.bd (n + 10) (f.st k) := by
  obtain ⟨ba, bb, bc⟩ := hb
  unfold Fm.st
  split
  · exact ⟨bc.mono (by omega), bb.neg.mono (by omega), ba.mono (by omega)⟩
  · have b2 : Bd 3 2 := ⟨by decide⟩
    exact ⟨ba.mono (by omega), (bb.add ((b2.mul ba).mul hk)).mono (by omega), ((((ba.mul hk).mul hk).add (bb.mul hk)).add bc).mono (by omega)⟩
theorem Fm.turn_bd {n : Nat} {f : Fm} (hb : Fm.bd n f) : ∀ {ks : List Int}, (∀ k ∈ ks, Bd 3 k) → Fm.bd (n + 10 * ks.length) (f.turn ks)
  | [], _ => hb
  | k :: ks, h => by
    have := Fm.turn_bd (Fm.st_bd hb (h k (List.mem_cons_self ..))) (ks := ks) fun j hj => h j (List.mem_cons_of_mem _ hj)
    exact Fm.bd.mono this (by rw [List.length_cons]; omega)
theorem Fm.turn_bds {n : Nat} {f : Fm} (hb : Fm.bd n f) {ks : List Int} (h : ∀ k ∈ ks, Bd 3 k) (i : Nat) (hi : i ≤ ks.length) : Fm.bd (n + 10 * ks.length) (f.turn (ks.take i)) :=
  Fm.bd.mono (Fm.turn_bd hb fun k hk => h k (List.mem_of_mem_take hk)) (by rw [List.length_take]; omega)
theorem Fm.turn_at (f : Fm) : ∀ (ks : List Int) (x y : Int), (f.turn ks).at x y = f.at (backP (x, y) ks).1 (backP (x, y) ks).2
  | [], x, y => rfl
  | k :: ks, x, y => by
    show ((f.st k).turn ks).at x y = _
    rw [Fm.turn_at (f.st k) ks x y]
    show _ = f.at (let q := backP (x, y) ks; if k = 0 then (-q.2, q.1) else (q.1 + k * q.2, q.2)).1 (let q := backP (x, y) ks; if k = 0 then (-q.2, q.1) else (q.1 + k * q.2, q.2)).2
    generalize backP (x, y) ks = q
    obtain ⟨u, v⟩ := q
    dsimp only
    by_cases hk : k = 0
    · subst hk
      rw [Fm.st_zero, if_pos rfl]
      unfold Fm.at
      dsimp only
      grind
    · rw [Fm.st_ne hk, if_neg hk]
      unfold Fm.at
      dsimp only
      grind
/-! part m_prime -/
namespace QR
def Pm (p : Int) : Prop := 2 ≤ p ∧ ∀ d : Int, 2 ≤ d → d < p → ¬ d ∣ p
theorem split_le {n d e : Int} (h2 : 2 ≤ d) (hdn : d < n) (he : n = d * e) : (d * d ≤ n ∨ e * e ≤ n) ∧ 2 ≤ e := by
  have e0 : 2 ≤ e := by
    rcases Int.lt_or_le e 2 with z | z
    · exfalso
      have : d * e ≤ d * 1 := Int.mul_le_mul_of_nonneg_left (by omega) (by omega)
      omega
    · exact z
  refine ⟨?_, e0⟩
  rcases Int.le_total d e with z | z
  · left
    have : d * d ≤ d * e := Int.mul_le_mul_of_nonneg_left z (by omega)
    omega
  · right
    have : e * e ≤ d * e := Int.mul_le_mul_of_nonneg_right z (by omega)
    omega
theorem pm_of_trial {n k : Int} (h2 : 2 ≤ n) (hk0 : 0 ≤ k) (hk : n < k * k) (h : ∀ d : Int, 2 ≤ d → d < k → ¬ d ∣ n) : Pm n := by
  refine ⟨h2, fun d hd hn hdv => ?_⟩
  obtain ⟨e, he⟩ := hdv
  have lt : ∀ x : Int, 0 ≤ x → x * x ≤ n → x < k := fun x hx hxx => by
    rcases Int.lt_or_le x k with z | z
    · exact z
    · exfalso
      have a : k * k ≤ x * k := Int.mul_le_mul_of_nonneg_right z hk0
      have b : x * k ≤ x * x := Int.mul_le_mul_of_nonneg_left z hx
      omega
  obtain ⟨a, b⟩ := split_le hd hn he
  rcases a with a | a
  · exact h d hd (lt d (by omega) a) ⟨e, he⟩
  · exact h e b (lt e (by omega) a) ⟨d, by rw [he, Int.mul_comm]⟩
theorem sq_bound {k n : Int} (h0 : 0 ≤ k) (hk : k * k ≤ n) (hn : n < 2 ^ 120) : k < 2 ^ 60 := by
  rcases Int.lt_or_le k (2 ^ 60) with z | z
  · exact z
  · exfalso
    have a : (2 : Int) ^ 60 * 2 ^ 60 ≤ k * 2 ^ 60 := Int.mul_le_mul_of_nonneg_right z (by decide)
    have b : k * 2 ^ 60 ≤ k * k := Int.mul_le_mul_of_nonneg_left z h0
    have c : (2 : Int) ^ 60 * 2 ^ 60 = 2 ^ 120 := by decide
    omega
theorem le_sq {k : Int} (h : 1 ≤ k) : k ≤ k * k := by
  have : k * 1 ≤ k * k := Int.mul_le_mul_of_nonneg_left h (by omega)
  omega
/-- an odd prime -/
def OP (n : Int) : Prop := Pm n ∧ n % 2 = 1
theorem OP.three {n : Int} (h : OP n) : 3 ≤ n := by
  have := h.1.1
  have := h.2
  omega
theorem pm_two : Pm 2 := ⟨by omega, fun d h1 h2 => by omega⟩
theorem pm_odd {n : Int} (h : Pm n) (h3 : 3 ≤ n) : n % 2 = 1 := by
  rcases Int.emod_two_eq n with z | z
  · exact absurd (Int.dvd_of_emod_eq_zero z) (h.2 2 (by omega) (by omega))
  · exact z
/-- a prime, by looking at all divisors up to a side -/
theorem op_by {n : Nat} (k : Nat) (h3 : 3 ≤ n) (ho : n % 2 = 1) (hk : n < k * k) (h : (List.range k).all (fun d => d < 2 || n % d != 0) = true) : OP n := by
  refine ⟨pm_of_trial (k := k) (by omega) (by omega) (by exact_mod_cast hk) fun d h2 hd hv => ?_, by omega⟩
  have := List.all_eq_true.mp h d.toNat (List.mem_range.mpr (by omega))
  have hz : n % d.toNat = 0 := by
    have e := Int.emod_eq_zero_of_dvd hv
    rw [show d = ((d.toNat : Nat) : Int) by omega, ← Int.natCast_emod] at e
    exact_mod_cast e
  have h2' : ¬ d.toNat < 2 := by omega
  simp [hz, h2'] at this
open Classical in
noncomputable instance decPm (n : Int) : Decidable (Pm n) := Classical.propDecidable _
noncomputable instance decOP (n : Int) : Decidable (OP n) := instDecidableAnd
end QR
/-! part m_side -/
open Classical in
/-- the integer from 0 on whose square is given -/
noncomputable def sideO (s : Int) : Option Int := if h : ∃ r : Int, 0 ≤ r ∧ r * r = s then some h.choose else none
theorem sq_inj {r t : Int} (hr : 0 ≤ r) (ht : 0 ≤ t) (e : r * r = t * t) : r = t := by
  rcases Int.lt_trichotomy r t with z | z | z
  · have := Int.mul_self_lt_mul_self hr z
    omega
  · exact z
  · have := Int.mul_self_lt_mul_self ht z
    omega
theorem sideO_some {s r : Int} (hr : 0 ≤ r) (e : r * r = s) : sideO s = some r := by
  unfold sideO
  have h : ∃ r : Int, 0 ≤ r ∧ r * r = s := ⟨r, hr, e⟩
  rw [dif_pos h]
  have := h.choose_spec
  exact congrArg some (sq_inj this.1 hr (by rw [this.2, e]))
theorem sideO_none {s : Int} (h : ∀ r : Int, 0 ≤ r → r * r ≠ s) : sideO s = none := dif_neg fun ⟨r, a, b⟩ => h r a b
theorem sideO_prop {s r : Int} (h : sideO s = some r) : 0 ≤ r ∧ r * r = s := by
  unfold sideO at h
  split at h
  · rename_i z
    have := z.choose_spec
    cases h
    exact this
  · cases h
theorem sideO_no {s r : Int} (h : sideO s = none) (hr : 0 ≤ r) : r * r ≠ s := fun e => by
  rw [sideO_some hr e] at h
  cases h
theorem sq_mono {x y : Int} (hx : 0 ≤ x) (h : x ≤ y) : x * x ≤ y * y := Int.mul_le_mul h h hx (by omega)
/-! part m_rows -/
/-- the list that a list of tuples holds -/
def RowsAt (H : Hp) : List Addr → List (List V) → Prop
  | [], [] => True
  | t :: ts, l :: ls => H t = some (.tup l) ∧ RowsAt H ts ls
  | _, _ => False
theorem RowsAt.mono {H H' : Hp} (s : Same H H') : ∀ {ts : List Addr} {ls : List (List V)}, RowsAt H ts ls → RowsAt H' ts ls
  | [], [], _ => trivial
  | _ :: _, _ :: _, h => ⟨s _ _ h.1, RowsAt.mono s h.2⟩
  | [], _ :: _, h => h.elim
  | _ :: _, [], h => h.elim
theorem RowsAt.len {H : Hp} : ∀ {ts : List Addr} {ls : List (List V)}, RowsAt H ts ls → ts.length = ls.length
  | [], [], _ => rfl
  | _ :: _, _ :: _, h => by rw [List.length_cons, List.length_cons, RowsAt.len h.2]
  | [], _ :: _, h => h.elim
  | _ :: _, [], h => h.elim
theorem RowsAt.snoc {H : Hp} {t : Addr} {l : List V} (ht : H t = some (.tup l)) : ∀ {ts : List Addr} {ls : List (List V)}, RowsAt H ts ls → RowsAt H (ts ++ [t]) (ls ++ [l])
  | [], [], _ => ⟨ht, trivial⟩
  | _ :: _, _ :: _, h => ⟨h.1, RowsAt.snoc ht h.2⟩
  | [], _ :: _, h => h.elim
  | _ :: _, [], h => h.elim
theorem RowsAt.other {H : Hp} {p : Addr} {xs : List V} {o : HO} (hp : H p = some (.lst xs)) : ∀ {ts : List Addr} {ls : List (List V)}, RowsAt H ts ls → RowsAt (upd H p o) ts ls
  | [], [], _ => trivial
  | t :: _, _ :: _, h => ⟨by
      rw [upd_ne (ne_of h.1 hp (by intro z; cases z))]
      exact h.1, RowsAt.other hp h.2⟩
  | [], _ :: _, h => h.elim
  | _ :: _, [], h => h.elim
theorem RowsAt.at {H : Hp} : ∀ {ts : List Addr} {ls : List (List V)} {i : Nat} {v : V}, RowsAt H ts ls → (ts.map V.ref)[i]? = some v → ∃ (t : Addr) (l : List V), v = .ref t ∧ H t = some (.tup l) ∧ ls[i]? = some l
  | t :: ts, l :: ls, 0, v, h, e => ⟨t, l, (Option.some.inj e).symm, h.1, rfl⟩
  | t :: ts, l :: ls, i + 1, v, h, e => RowsAt.at h.2 (i := i) e
  | [], _, _, _, _, e => by cases e
  | _ :: _, [], _, _, h, _ => h.elim
theorem RowsAt.rig {H : Hp} {ts : List Addr} {ls : List (List V)} (h : RowsAt H ts ls) : Rig (fun G => RowsAt G ts ls) H := fun G k => by
  induction ts generalizing ls with
  | nil => cases ls with
    | nil => trivial
    | cons l ls => exact h.elim
  | cons t ts ih => cases ls with
    | nil => exact h.elim
    | cons l ls => exact ⟨k _ _ rfl h.1, ih h.2⟩
/-! part m_ways -/
def prV (r : Int × Int) : List V := [.int r.1, .int r.2]
def lexlt (r s : Int × Int) : Prop := r.1 < s.1 ∨ r.1 = s.1 ∧ r.2 < s.2
/-- all points of this value, each once -/
structure WaySet (f : Fm) (m : Int) (rs : List (Int × Int)) : Prop where
  mem : ∀ r, r ∈ rs ↔ f.at r.1 r.2 = m
  nd : rs.Nodup
/-- in order -/
structure WaysOf (f : Fm) (m : Int) (rs : List (Int × Int)) : Prop where
  mem : ∀ r, r ∈ rs ↔ f.at r.1 r.2 = m
  inc : rs.Pairwise lexlt
theorem WaysOf.set {f : Fm} {m : Int} {rs : List (Int × Int)} (h : WaysOf f m rs) : WaySet f m rs := ⟨h.mem, h.inc.imp fun h e => by
  subst e
  unfold lexlt at h
  omega⟩
theorem lex_uniq : ∀ {a b : List (Int × Int)}, a.Pairwise lexlt → b.Pairwise lexlt → (∀ k, k ∈ a ↔ k ∈ b) → a = b
  | [], [], _, _, _ => rfl
  | [], y :: b, _, _, h => absurd ((h y).mpr List.mem_cons_self) List.not_mem_nil
  | x :: a, [], _, _, h => absurd ((h x).mp List.mem_cons_self) List.not_mem_nil
  | x :: a, y :: b, ha, hb, h => by
    obtain ⟨a1, a2⟩ := List.pairwise_cons.mp ha
    obtain ⟨b1, b2⟩ := List.pairwise_cons.mp hb
    have irr : ∀ {u v : Int × Int}, lexlt u v → lexlt v u → False := fun h k => by
      unfold lexlt at h k
      omega
    have irr1 : ∀ {u : Int × Int}, lexlt u u → False := fun h => irr h h
    have e : x = y := by
      rcases List.mem_cons.mp ((h x).mp List.mem_cons_self) with e | m1
      · exact e
      · rcases List.mem_cons.mp ((h y).mpr List.mem_cons_self) with e | m2
        · exact e.symm
        · exact (irr (b1 x m1) (a1 y m2)).elim
    subst e
    rw [lex_uniq a2 b2 fun k => ?_]
    constructor
    · intro hk
      rcases List.mem_cons.mp ((h k).mp (List.mem_cons_of_mem _ hk)) with e | z
      · rw [e] at hk
        exact (irr1 (a1 x hk)).elim
      · exact z
    · intro hk
      rcases List.mem_cons.mp ((h k).mpr (List.mem_cons_of_mem _ hk)) with e | z
      · rw [e] at hk
        exact (irr1 (b1 x hk)).elim
      · exact z
theorem WaysOf.uniq {f : Fm} {m : Int} {rs ss : List (Int × Int)} (h : WaysOf f m rs) (k : WaysOf f m ss) : rs = ss := lex_uniq h.inc k.inc fun r => by rw [h.mem, k.mem]
/-- sorted -/
theorem WaySet.sorted {f : Fm} {m : Int} {rs ss : List (Int × Int)} (h : WaySet f m rs) (p : ss.Perm rs) (s : ss.Pairwise fun u v => ¬ lexlt v u) : WaysOf f m ss := by
  refine ⟨fun r => by rw [p.mem_iff, h.mem], ?_⟩
  have n : ss.Nodup := p.nodup_iff.mpr h.nd
  refine (s.and n).imp fun {u v} ⟨h1, h2⟩ => ?_
  unfold lexlt at h1 ⊢
  rcases Int.lt_trichotomy u.1 v.1 with z | z | z
  · exact .inl z
  · refine .inr ⟨z, ?_⟩
    rcases Int.lt_trichotomy u.2 v.2 with y | y | y
    · exact y
    · exact absurd (Prod.ext z y) h2
    · exact absurd (.inr ⟨z.symm, y⟩) h1
  · exact absurd (.inl z) h1
def fwdP : Int × Int → List Int → Int × Int
  | p, [] => p
  | p, k :: ks => fwdP (if k = 0 then (p.2, -p.1) else (p.1 - k * p.2, p.2)) ks
theorem back_fwd : ∀ (ks : List Int) (p : Int × Int), backP (fwdP p ks) ks = p
  | [], _ => rfl
  | k :: ks, p => by
    show (let q := backP (fwdP (if k = 0 then (p.2, -p.1) else (p.1 - k * p.2, p.2)) ks) ks; if k = 0 then (-q.2, q.1) else (q.1 + k * q.2, q.2)) = p
    rw [back_fwd ks]
    by_cases h : k = 0
    · simp [h]
    · simp [h]
theorem fwd_back : ∀ (ks : List Int) (p : Int × Int), fwdP (backP p ks) ks = p
  | [], _ => rfl
  | k :: ks, p => by
    show fwdP (if k = 0 then ((backP p (k :: ks)).2, -(backP p (k :: ks)).1) else ((backP p (k :: ks)).1 - k * (backP p (k :: ks)).2, (backP p (k :: ks)).2)) ks = p
    have e : backP p (k :: ks) = if k = 0 then (-(backP p ks).2, (backP p ks).1) else ((backP p ks).1 + k * (backP p ks).2, (backP p ks).2) := rfl
    rw [e]
    by_cases h : k = 0
    · simp [h, fwd_back ks]
    · simp [h, fwd_back ks]
theorem WaySet.back {f : Fm} {m : Int} {ks : List Int} {rs : List (Int × Int)} (h : WaySet (f.turn ks) m rs) : WaySet f m (rs.map fun r => backP r ks) := by
  refine ⟨fun r => ?_, List.Pairwise.map _ (fun {a b} n e => n ?_) h.nd⟩
  · rw [List.mem_map]
    constructor
    · rintro ⟨q, hq, rfl⟩
      rw [h.mem, Fm.turn_at] at hq
      exact hq
    · intro hr
      refine ⟨fwdP r ks, ?_, back_fwd ks r⟩
      rw [h.mem, Fm.turn_at]
      show f.at (backP (fwdP r ks) ks).1 (backP (fwdP r ks) ks).2 = m
      rw [back_fwd]
      exact hr
  · have := congrArg (fun q => fwdP q ks) e
    simpa [fwd_back] using this
theorem nodup_len : ∀ {l s : List (Int × Int)}, l.Nodup → (∀ k ∈ l, k ∈ s) → l.length ≤ s.length
  | [], s, _, _ => Nat.zero_le _
  | k :: l, s, h, hs => by
    have hk := hs k List.mem_cons_self
    obtain ⟨h1, h2⟩ := List.nodup_cons.mp h
    have := nodup_len (l := l) (s := s.erase k) h2 fun j hj => (List.mem_erase_of_ne fun (e : j = k) => h1 (e ▸ hj)).mpr (hs j (List.mem_cons_of_mem _ hj))
    rw [List.length_erase_of_mem hk] at this
    have := List.length_pos_of_mem hk
    rw [List.length_cons]
    omega
theorem WaySet.len {f : Fm} {m : Int} {rs ss : List (Int × Int)} (h : WaySet f m rs) (k : WaySet f m ss) : rs.length = ss.length :=
  Nat.le_antisymm (nodup_len h.nd fun r hr => (k.mem r).mpr ((h.mem r).mp hr)) (nodup_len k.nd fun r hr => (h.mem r).mpr ((k.mem r).mp hr))
/-! ### looking along all y -/
structure PlainSo (f : Fm) (m y : Int) (rs : List (Int × Int)) : Prop where
  mem : ∀ r, r ∈ rs ↔ f.at r.1 r.2 = m ∧ -y < r.2 ∧ r.2 < y
  nd : rs.Nodup
  len : (rs.length : Int) ≤ 4 * y
structure PlainIn (f : Fm) (rs0 ps rs : List (Int × Int)) : Prop where
  mem : ∀ r, r ∈ rs ↔ r ∈ rs0 ∨ (2 * f.a * r.1 + f.b * r.2, r.2) ∈ ps
  nd : rs.Nodup
  len : rs.length ≤ rs0.length + ps.length
def prodL (us hs : List Int) : List (Int × Int) := us.flatMap fun u => hs.map fun h => (u, h)
theorem mem_prod {us hs : List Int} {u h : Int} : (u, h) ∈ prodL us hs ↔ u ∈ us ∧ h ∈ hs := by
  unfold prodL
  simp [List.mem_flatMap]
theorem prod_snoc {us hs : List Int} {u : Int} : prodL (us ++ [u]) hs = prodL us hs ++ hs.map fun h => (u, h) := by
  unfold prodL
  simp
theorem prod_len {us hs : List Int} : (prodL us hs).length = us.length * hs.length := by
  unfold prodL
  induction us with
  | nil => simp
  | cons u us ih => rw [List.flatMap_cons, List.length_append, ih, List.length_map, List.length_cons, Nat.succ_mul, Nat.add_comm]
section
variable {f : Fm} {m y : Int} {rs rs0 ps : List (Int × Int)} {u h : Int}
theorem PlainIn.nil (n : rs0.Nodup) : PlainIn f rs0 [] rs0 := ⟨fun r => by simp, n, by simp⟩
theorem ediv_key {a n x : Int} (ha : 1 ≤ a) (h : n % (2 * a) = 0) : 2 * a * x = n ↔ x = n / (2 * a) := by
  have e := Int.mul_ediv_add_emod n (2 * a)
  rw [h] at e
  constructor
  · intro z
    rw [← z]
    exact (Int.mul_ediv_cancel_left _ (by omega)).symm
  · intro z
    subst z
    omega
theorem PlainIn.put (p : PlainIn f rs0 ps rs) (ha : 1 ≤ f.a) (hd : (u - f.b * h) % (2 * f.a) = 0) (hn : ((u - f.b * h) / (2 * f.a), h) ∉ rs) : PlainIn f rs0 (ps ++ [(u, h)]) (rs ++ [((u - f.b * h) / (2 * f.a), h)]) := by
  refine ⟨fun r => ?_, List.nodup_append.mpr ⟨p.nd, by simp, fun a ha b hb e => hn ?_⟩, by simp only [List.length_append, List.length_singleton]; have := p.len; omega⟩
  · rw [List.mem_append, p.mem, List.mem_append, List.mem_singleton, List.mem_singleton, or_assoc]
    refine or_congr Iff.rfl (or_congr Iff.rfl ?_)
    obtain ⟨x, z⟩ := r
    have := ediv_key (x := x) ha hd
    simp only [Prod.mk.injEq]
    constructor
    · rintro ⟨rfl, rfl⟩
      exact ⟨by have := (ediv_key (x := (u - f.b * z) / (2 * f.a)) ha hd).mpr rfl; omega, rfl⟩
    · rintro ⟨e, rfl⟩
      exact ⟨this.mp (by omega), rfl⟩
  · rw [List.mem_singleton.mp hb] at e
    rw [← e]
    exact ha
theorem PlainIn.skip (p : PlainIn f rs0 ps rs) (ha : 1 ≤ f.a) (hd : (u - f.b * h) % (2 * f.a) ≠ 0) : PlainIn f rs0 (ps ++ [(u, h)]) rs := by
  refine ⟨fun r => ?_, p.nd, by rw [List.length_append]; have := p.len; omega⟩
  rw [p.mem, List.mem_append, List.mem_singleton]
  refine or_congr Iff.rfl ⟨.inl, fun k => k.elim id fun e => ?_⟩
  obtain ⟨x, w⟩ := r
  simp only [Prod.mk.injEq] at e
  obtain ⟨e1, rfl⟩ := e
  refine absurd ?_ hd
  rw [show u - f.b * w = 2 * f.a * x by omega]
  exact Int.mul_emod_right ..
/-- a new pair is no old point -/
theorem PlainIn.fresh (p : PlainIn f rs0 ps rs) (ha : 1 ≤ f.a) (hd : (u - f.b * h) % (2 * f.a) = 0) (h0 : ∀ r ∈ rs0, r.2 ≠ h) (hp : (u, h) ∉ ps) : ((u - f.b * h) / (2 * f.a), h) ∉ rs := by
  rw [p.mem]
  rintro (z | z)
  · exact h0 _ z rfl
  · dsimp only at z
    rw [(ediv_key ha hd).mpr rfl, show u - f.b * h + f.b * h = u by omega] at z
    exact hp z
theorem PlainSo.zero : PlainSo f m 0 [] := ⟨fun r => by simp; omega, by simp, by simp⟩
/-- a row done -/
theorem PlainSo.next (s : PlainSo f m y rs0) (p : PlainIn f rs0 ps rs) (ha : 1 ≤ f.a) (y0 : 0 ≤ y) (l4 : ps.length ≤ 4) (hps : ∀ u h, (u, h) ∈ ps ↔ u * u = 4 * f.a * m + f.D * (y * y) ∧ (h = y ∨ h = -y)) : PlainSo f m (y + 1) rs := by
  refine ⟨fun r => ?_, p.nd, by have := p.len; have := s.len; omega⟩
  rw [p.mem, s.mem, hps]
  have key : (2 * f.a * r.1 + f.b * r.2) * (2 * f.a * r.1 + f.b * r.2) = 4 * f.a * m + f.D * (r.2 * r.2) ↔ f.at r.1 r.2 = m := by
    have e := Fm.at_D f r.1 r.2
    constructor
    · intro z
      have : 4 * f.a * f.at r.1 r.2 = 4 * f.a * m := by omega
      exact Int.eq_of_mul_eq_mul_left (by omega) this
    · intro z
      rw [← z]
      omega
  constructor
  · rintro (⟨h1, h2, h3⟩ | ⟨h1, h2⟩)
    · exact ⟨h1, by omega, by omega⟩
    · have e : r.2 * r.2 = y * y := by
        rcases h2 with h2 | h2
        · rw [h2]
        · rw [h2, Int.neg_mul_neg]
      rw [← e] at h1
      exact ⟨key.mp h1, by omega, by omega⟩
  · rintro ⟨h1, h2, h3⟩
    by_cases c : -y < r.2 ∧ r.2 < y
    · exact .inl ⟨h1, c.1, c.2⟩
    · have h4 : r.2 = y ∨ r.2 = -y := by omega
      have e : r.2 * r.2 = y * y := by
        rcases h4 with h4 | h4
        · rw [h4]
        · rw [h4, Int.neg_mul_neg]
      refine .inr ⟨?_, h4⟩
      rw [← e]
      exact key.mpr h1
theorem PlainSo.done (s : PlainSo f m y rs) (fo : f.ok) (y0 : 0 ≤ y) (h : 4 * f.a * m + f.D * (y * y) < 0) : WaySet f m rs := by
  refine ⟨fun r => ?_, s.nd⟩
  rw [s.mem]
  refine ⟨fun z => z.1, fun z => ⟨z, ?_⟩⟩
  have e := Fm.at_D f r.1 r.2
  have q := sq_nonneg (2 * f.a * r.1 + f.b * r.2)
  rw [z] at e
  rcases Classical.em (-y < r.2 ∧ r.2 < y) with c | c
  · exact c
  · exfalso
    have l : y * y ≤ r.2 * r.2 := sq_le (by omega)
    have k := Int.mul_le_mul_of_nonneg_left l (show 0 ≤ -f.D by have := fo.2; omega)
    rw [Int.neg_mul, Int.neg_mul] at k
    omega
end
/-- a point's size by its value -/
theorem at_small {f : Fm} {m x y : Int} (fo : f.ok) (h : f.at x y = m) : -(4 * f.c * m) ≤ x ∧ x ≤ 4 * f.c * m ∧ -(4 * f.a * m) ≤ y ∧ y ≤ 4 * f.a * m := by
  have e := Fm.at_D f x y
  rw [h] at e
  have q := sq_nonneg (2 * f.a * x + f.b * y)
  have d := fo.2
  have y2 := sq_nonneg y
  have l1 : 1 * (y * y) ≤ -f.D * (y * y) := Int.mul_le_mul_of_nonneg_right (by omega) y2
  have n1 : -f.D * (y * y) = -(f.D * (y * y)) := Int.neg_mul ..
  have ly : ∀ z : Int, -(z * z) ≤ z ∧ z ≤ z * z := fun z => by
    rcases Int.lt_trichotomy z 0 with c | c | c
    · have := QR.le_sq (show 1 ≤ -z by omega)
      rw [Int.neg_mul_neg] at this
      have := sq_nonneg z
      omega
    · subst c
      simp
    · have := QR.le_sq (show 1 ≤ z by omega)
      have := sq_nonneg z
      omega
  -- the same with the places exchanged
  have e2 : 4 * f.c * f.at x y = (2 * f.c * y + f.b * x) * (2 * f.c * y + f.b * x) - f.D * (x * x) := by
    unfold Fm.at Fm.D
    grind
  rw [h] at e2
  have q2 := sq_nonneg (2 * f.c * y + f.b * x)
  have x2 := sq_nonneg x
  have l2 : 1 * (x * x) ≤ -f.D * (x * x) := Int.mul_le_mul_of_nonneg_right (by omega) x2
  have n2 : -f.D * (x * x) = -(f.D * (x * x)) := Int.neg_mul ..
  have := ly x
  have := ly y
  omega
theorem not_mem_take {l : List Int} {i : Nat} {x : Int} (n : l.Nodup) (h : l[i]? = some x) : x ∉ l.take i := fun m => by
  obtain ⟨j, hj, e⟩ := List.mem_iff_getElem.mp m
  rw [List.length_take] at hj
  obtain ⟨hi, ei⟩ := List.getElem?_eq_some_iff.mp h
  rw [List.getElem_take] at e
  have := (List.getElem_inj n).mp (e.trans ei.symm)
  omega
theorem take_snoc {l : List Int} {i : Nat} {x : Int} (h : l[i]? = some x) : l.take (i + 1) = l.take i ++ [x] := by
  rw [List.take_add_one, h]
  rfl
/-! part m_sortp -/
def keyOf (H : Hp) (v : V) : Int × Int := match v with
  | .ref t => match H t with
    | some (.tup [.int i, .int j]) => (i, j)
    | _ => (0, 0)
  | _ => (0, 0)
theorem keyOf_tup {H : Hp} {t : Addr} {r : Int × Int} (h : H t = some (.tup (prV r))) : keyOf H (.ref t) = r := by
  unfold keyOf
  dsimp only
  rw [h]
  rfl
theorem rows_keys {H : Hp} : ∀ {ts : List Addr} {rs : List (Int × Int)}, RowsAt H ts (rs.map prV) → (ts.map V.ref).map (keyOf H) = rs ∧ ∀ y ∈ ts.map V.ref, ∃ t, y = .ref t ∧ H t = some (.tup (prV (keyOf H y)))
  | [], [], _ => ⟨rfl, fun y h => absurd h List.not_mem_nil⟩
  | t :: ts, r :: rs, h => by
    obtain ⟨e1, e2⟩ := rows_keys (ts := ts) (rs := rs) h.2
    have k := keyOf_tup h.1
    refine ⟨by rw [List.map_cons, List.map_cons, k, e1], fun y hy => ?_⟩
    rcases List.mem_cons.mp hy with e | hy
    · subst e
      exact ⟨t, rfl, by rw [k]; exact h.1⟩
    · exact e2 y hy
  | [], _ :: _, h => h.elim
  | _ :: _, [], h => h.elim
theorem rows_of {H : Hp} : ∀ {ys : List V}, (∀ y ∈ ys, ∃ t, y = .ref t ∧ H t = some (.tup (prV (keyOf H y)))) → ∃ ts : List Addr, ys = ts.map V.ref ∧ RowsAt H ts ((ys.map (keyOf H)).map prV)
  | [], _ => ⟨[], rfl, trivial⟩
  | y :: ys, h => by
    obtain ⟨ts, e, r⟩ := rows_of fun z hz => h z (List.mem_cons_of_mem _ hz)
    obtain ⟨t, rfl, ht⟩ := h y List.mem_cons_self
    exact ⟨t :: ts, by rw [e]; rfl, ht, r⟩
/-- sorted of pairs of ints -/
theorem rd_sortP {K : PySem.W.Frag} {H : Hp} {Q : VK} {a : Addr} {ts : List Addr} {rs : List (Int × Int)} (hS : SqL K H a (ts.map V.ref)) (hR : RowsAt H ts (rs.map prV))
    (q : ∀ (ts' : List Addr) (rs' : List (Int × Int)) p, RowsAt H ts' (rs'.map prV) → rs'.Perm rs → rs'.Pairwise (fun u v => ¬ lexlt v u) → H p = none → Q (.ref p) (upd H p (.lst (ts'.map V.ref)))) : rSortedPO K [.ref a] H Q := by
  obtain ⟨e1, e2⟩ := rows_keys hR
  refine ⟨a, ts.map V.ref, keyOf H, rfl, hS, fun x hx => ?_, fun ys p hs hst hp => ?_⟩
  · obtain ⟨t, rfl, ht⟩ := e2 x hx
    exact ⟨t, rfl, ht⟩
  · obtain ⟨ts', e, r⟩ := rows_of (H := H) (ys := ys) fun y hy => e2 y (hst.perm.mem_iff.mp hy)
    subst e
    refine q ts' _ p r ?_ ?_ hp
    · have := hst.perm.map (keyOf H)
      rwa [e1] at this
    · refine List.Pairwise.map _ (fun {x y} h z => ?_) hs
      have : ltP (keyOf H) y x = true := SrtO.lexB_iff.mpr z
      rw [h] at this
      cases this
/-! part m_ways2 -/
theorem red_small {f : Fm} (h : f.red) (fo : f.ok) (d : -5000 ≤ f.D) : f.a ≤ 40 ∧ -40 ≤ f.b ∧ f.b ≤ 40 ∧ f.c ≤ 2000 := by
  obtain ⟨o1, o2⟩ := fo
  obtain ⟨⟨h1, h2⟩, h3, _⟩ := h
  have a1 : f.b * f.b ≤ f.a * f.a := sq_le (by omega)
  have a2 : f.a * f.a ≤ f.a * f.c := Int.mul_le_mul_of_nonneg_left h3 (by omega)
  have e2 : 4 * f.a * f.c = 4 * (f.a * f.c) := Int.mul_assoc ..
  have hD : f.b * f.b - 4 * f.a * f.c = f.D := rfl
  have a40 : f.a ≤ 40 := by
    rcases Int.lt_or_le f.a 41 with z | z
    · omega
    · exfalso
      have : 41 * 41 ≤ f.a * f.a := sq_le (x := 41) (by omega)
      omega
  have bb : f.b * f.b ≤ 40 * 40 := sq_le (by omega)
  have ac : 1 * f.c ≤ f.a * f.c := Int.mul_le_mul_of_nonneg_right o1 (by omega)
  exact ⟨a40, by omega, by omega, by omega⟩
theorem red_bd {f : Fm} (h : f.red) (fo : f.ok) (d : -5000 ≤ f.D) : Fm.bd 100 f := by
  obtain ⟨a1, a2, a3, a4⟩ := red_small h fo d
  have o := fo.1
  have c := fo.c_pos
  have lim : (2000 : Int) < 2 ^ 100 := by decide
  exact ⟨Bd.of (by omega) (by omega), Bd.of (by omega) (by omega), Bd.of (by omega) (by omega)⟩
theorem bd_of_le {n k : Nat} {c x m : Int} (hc : Bd n c) (hm : Bd k m) (h : -(4 * c * m) ≤ x ∧ x ≤ 4 * c * m) : Bd (n + k + 2) x := by
  have b4 : Bd 2 4 → True := fun _ => trivial
  have e : Bd (2 + n + k) (4 * c * m) := by
    have h4 : (4 : Int).natAbs ≤ 2 ^ 2 := by decide
    refine ⟨?_⟩
    have hc' := hc.1
    have hm' := hm.1
    rw [Int.natAbs_mul, Int.natAbs_mul]
    have l1 : (4 : Int).natAbs * c.natAbs ≤ 2 ^ 2 * c.natAbs := Nat.mul_le_mul_right _ h4
    rcases Nat.eq_zero_or_pos m.natAbs with z | z
    · rw [z, Nat.mul_zero]
      exact Nat.pow_pos (by decide)
    · have l2 : (4 : Int).natAbs * c.natAbs < 2 ^ 2 * 2 ^ n := Nat.lt_of_le_of_lt l1 (Nat.mul_lt_mul_of_pos_left hc' (by decide))
      have l3 := Nat.mul_lt_mul_of_lt_of_le l2 (Nat.le_of_lt hm') (Nat.pow_pos (by decide))
      rw [Nat.pow_add, Nat.pow_add]
      exact l3
  refine Bd.mono (n := 2 + n + k) ⟨?_⟩ (by omega)
  have := e.1
  omega
/-- the points of the forms on the way are not too great -/
theorem back_bd {f : Fm} {m : Int} {r : Int × Int} (fo : f.ok) (hb : Fm.bd 200 f) (hm : Bd 20 m) (h : (f.turn (stepsF f)).at r.1 r.2 = m) (i : Nat) (hi : i ≤ (stepsF f).length) : Bd 400 (backP r ((stepsF f).drop i)).1 ∧ Bd 400 (backP r ((stepsF f).drop i)).2 := by
  obtain ⟨_, g2⟩ := stepsF_bd f.mu f fo (Nat.le_refl _) (Fm.bd_lo hb)
  have gb := g2 i hi
  have go := fo.turn ((stepsF f).take i)
  have e : (f.turn ((stepsF f).take i)).at (backP r ((stepsF f).drop i)).1 (backP r ((stepsF f).drop i)).2 = m := by
    rw [← Fm.turn_at]
    have : (f.turn ((stepsF f).take i)).turn ((stepsF f).drop i) = f.turn (stepsF f) := by
      unfold Fm.turn
      rw [← List.foldl_append, List.take_append_drop]
    rw [this]
    exact h
  obtain ⟨x0, x1, y0, y1⟩ := at_small go e
  exact ⟨(bd_of_le gb.2.2 hm ⟨x0, x1⟩).mono (by omega), (bd_of_le gb.1 hm ⟨y0, y1⟩).mono (by omega)⟩
/-! part m_cut -/
/-! part m_path -/
/-- what a comprehension of draws has made -/
def PathOk (r : Int) (i : Nat) (ys : List V) : Prop := ∃ ks : List Int, ys = ks.map V.int ∧ ks.length = i ∧ ∀ k ∈ ks, -r ≤ k ∧ k ≤ r
theorem PathOk.nil {r : Int} : PathOk r 0 [] := ⟨[], rfl, rfl, fun k hk => absurd hk List.not_mem_nil⟩
theorem PathOk.snoc {r : Int} {i : Nat} {ks : List Int} {z : Int} (h1 : ks.length = i) (h2 : ∀ k ∈ ks, -r ≤ k ∧ k ≤ r) (hz : -r ≤ z ∧ z ≤ r) : PathOk r (i + 1) (ks.map V.int ++ [.int z]) :=
  ⟨ks ++ [z], by rw [List.map_append]; rfl, by rw [List.length_append]; simp [h1], fun k hk => by
    rcases List.mem_append.mp hk with hk | hk
    · exact h2 k hk
    · rw [List.mem_singleton.mp hk]
      exact hz⟩
/-! part m_k95 -/
/-- a path that keeps the numbers of a form small enough -/
structure PathSm (f : Fm) (ks : List Int) : Prop where
  bds : ∀ i, i ≤ ks.length → Fm.bd 200 (f.turn (ks.take i))
  kb : ∀ k ∈ ks, Bd 60 k
  len : ks.length ≤ 7
theorem PathSm.small {f : Fm} {ks : List Int} (hb : Fm.bd 10 f) (hk : ∀ k ∈ ks, Bd 3 k) (hl : ks.length ≤ 4) : PathSm f ks := ⟨fun i hi => (Fm.turn_bds hb hk i hi).mono (by omega), fun k h => (hk k h).mono (by decide), by omega⟩
theorem PathSm.all {f : Fm} {ks : List Int} (h : PathSm f ks) : Fm.bd 200 (f.turn ks) := by
  have := h.bds ks.length (Nat.le_refl _)
  rwa [List.take_length] at this
theorem at_nn {f : Fm} (fo : f.ok) (x y : Int) : 0 ≤ f.at x y := by
  have e := Fm.at_D f x y
  have q := sq_nonneg (2 * f.a * x + f.b * y)
  have l : 0 ≤ -f.D * (y * y) := Int.mul_nonneg (by have := fo.2; omega) (sq_nonneg y)
  rw [Int.neg_mul] at l
  have p : 0 ≤ 4 * f.a * f.at x y := by omega
  rcases Int.lt_or_le (f.at x y) 0 with z | z
  · exfalso
    have := Int.mul_lt_mul_of_pos_left z (show 0 < 4 * f.a by have := fo.1; omega)
    omega
  · exact z
/-! part m_smallf -/
/-! part m_k98 -/
open Classical in
/-- the number of ways -/
noncomputable def cnt (f : Fm) (m : Int) : Nat := if h : ∃ rs, WaySet f m rs then h.choose.length else 0
theorem cnt_eq {f : Fm} {m : Int} {rs : List (Int × Int)} (h : WaySet f m rs) : cnt f m = rs.length := by
  unfold cnt
  have e : ∃ rs, WaySet f m rs := ⟨rs, h⟩
  rw [dif_pos e]
  exact e.choose_spec.len h
noncomputable def cntL (f : Fm) (n : Nat) : List Int := (List.range n).map fun m : Nat => (cnt f m : Int)
/-- all points with at most this value -/
structure PtSet (f : Fm) (M : Int) (P : List (Int × Int)) : Prop where
  mem : ∀ r, r ∈ P ↔ f.at r.1 r.2 ≤ M
  nd : P.Nodup
theorem PtSet.way {f : Fm} {M m : Int} {P : List (Int × Int)} (h : PtSet f M P) (hm : m ≤ M) : WaySet f m (P.filter fun r => decide (f.at r.1 r.2 = m)) := ⟨fun r => by
  rw [List.mem_filter, h.mem, decide_eq_true_iff]
  omega, h.nd.filter _⟩
theorem sum_lt {f : Fm} {P : List (Int × Int)} (fo : f.ok) : ∀ n : Nat, ((List.range n).map fun m : Nat => ((P.filter fun r => decide (f.at r.1 r.2 = m)).length : Int)).sum = ((P.filter fun r => decide (f.at r.1 r.2 < n)).length : Int)
  | 0 => by
    have : P.filter (fun r => decide (f.at r.1 r.2 < ((0 : Nat) : Int))) = [] := List.filter_eq_nil_iff.mpr fun r _ => by
      have := at_nn fo r.1 r.2
      simp
      omega
    rw [this]
    rfl
  | n + 1 => by
    rw [List.range_succ, List.map_append, List.sum_append, sum_lt fo n]
    simp only [List.map_cons, List.map_nil, List.sum_cons, List.sum_nil, Int.add_zero]
    rw [← List.countP_eq_length_filter, ← List.countP_eq_length_filter, ← List.countP_eq_length_filter]
    clear fo
    have eN : ((n + 1 : Nat) : Int) = (n : Int) + 1 := by omega
    rw [eN]
    induction P with
    | nil => simp
    | cons r P ih =>
      rw [List.countP_cons, List.countP_cons, List.countP_cons]
      by_cases c1 : f.at r.1 r.2 < (n : Int)
      · rw [if_pos (show decide (f.at r.1 r.2 < (n : Int)) = true from decide_eq_true c1), if_neg (show ¬ decide (f.at r.1 r.2 = (n : Int)) = true by rw [decide_eq_true_iff]; omega), if_pos (show decide (f.at r.1 r.2 < (n : Int) + 1) = true from decide_eq_true (by omega))]
        omega
      · by_cases c2 : f.at r.1 r.2 = (n : Int)
        · rw [if_neg (show ¬ decide (f.at r.1 r.2 < (n : Int)) = true by rw [decide_eq_true_iff]; omega), if_pos (show decide (f.at r.1 r.2 = (n : Int)) = true from decide_eq_true c2), if_pos (show decide (f.at r.1 r.2 < (n : Int) + 1) = true from decide_eq_true (by omega))]
          omega
        · rw [if_neg (show ¬ decide (f.at r.1 r.2 < (n : Int)) = true by rw [decide_eq_true_iff]; omega), if_neg (show ¬ decide (f.at r.1 r.2 = (n : Int)) = true by rw [decide_eq_true_iff]; exact c2), if_neg (show ¬ decide (f.at r.1 r.2 < (n : Int) + 1) = true by rw [decide_eq_true_iff]; omega)]
          omega
theorem PtSet.sum {f : Fm} {n : Nat} {P : List (Int × Int)} (fo : f.ok) (h : PtSet f n P) : (cntL f (n + 1)).sum = (P.length : Int) := by
  have e1 : cntL f (n + 1) = (List.range (n + 1)).map fun m : Nat => ((P.filter fun r => decide (f.at r.1 r.2 = m)).length : Int) := by
    unfold cntL
    exact List.map_congr_left fun m hm => by
      have := List.mem_range.mp hm
      rw [cnt_eq (h.way (m := m) (by omega))]
  rw [e1, sum_lt fo]
  have e2 : P.filter (fun r => decide (f.at r.1 r.2 < ((n + 1 : Nat) : Int))) = P := List.filter_eq_self.mpr fun r hr => by
    have := (h.mem r).mp hr
    rw [decide_eq_true_iff]
    omega
  rw [e2]
/-! ### the points counted -/
structure PtSo (f : Fm) (M y : Int) (P : List (Int × Int)) : Prop where
  mem : ∀ r, r ∈ P ↔ f.at r.1 r.2 ≤ M ∧ -y < r.2 ∧ r.2 < y
  nd : P.Nodup
structure PtIn (f : Fm) (M : Int) (P0 : List (Int × Int)) (hs : List Int) (P : List (Int × Int)) : Prop where
  mem : ∀ r, r ∈ P ↔ r ∈ P0 ∨ (r.2 ∈ hs ∧ f.at r.1 r.2 ≤ M)
  nd : P.Nodup
structure PtRow (f : Fm) (M : Int) (P0 : List (Int × Int)) (h x0 x1 : Int) (P : List (Int × Int)) : Prop where
  mem : ∀ r, r ∈ P ↔ r ∈ P0 ∨ (r.2 = h ∧ x0 ≤ r.1 ∧ r.1 < x1 ∧ f.at r.1 r.2 ≤ M)
  nd : P.Nodup
section
variable {f : Fm} {M y h x0 x1 : Int} {P P0 P1 : List (Int × Int)} {hs : List Int}
theorem PtIn.nil (n : P0.Nodup) : PtIn f M P0 [] P0 := ⟨fun r => by simp, n⟩
theorem PtRow.nil (n : P0.Nodup) : PtRow f M P0 h x0 x0 P0 := ⟨fun r => by
  constructor
  · exact .inl
  · rintro (z | ⟨_, a, b, _⟩)
    · exact z
    · omega, n⟩
theorem PtRow.put (p : PtRow f M P0 h x0 x1 P) (l : x0 ≤ x1) (hv : f.at x1 h ≤ M) (h0 : ∀ r ∈ P0, r.2 ≠ h) : PtRow f M P0 h x0 (x1 + 1) (P ++ [(x1, h)]) := by
  refine ⟨fun r => ?_, List.nodup_append.mpr ⟨p.nd, by simp, fun a ha b hb e => ?_⟩⟩
  · rw [List.mem_append, p.mem, List.mem_singleton, or_assoc]
    refine or_congr Iff.rfl ?_
    constructor
    · rintro (⟨a, b, c, d⟩ | rfl)
      · exact ⟨a, b, by omega, d⟩
      · exact ⟨rfl, l, by dsimp only; omega, hv⟩
    · rintro ⟨a, b, c, d⟩
      rcases Int.lt_or_eq_of_le (show r.1 ≤ x1 by omega) with z | z
      · exact .inl ⟨a, b, z, d⟩
      · exact .inr (Prod.ext z a)
  · rw [List.mem_singleton.mp hb] at e
    subst e
    rcases (p.mem _).mp ha with z | ⟨_, _, z, _⟩
    · exact h0 _ z rfl
    · dsimp only at z
      omega
theorem PtRow.skip (p : PtRow f M P0 h x0 x1 P) (hv : ¬ f.at x1 h ≤ M) : PtRow f M P0 h x0 (x1 + 1) P := by
  refine ⟨fun r => ?_, p.nd⟩
  rw [p.mem]
  refine or_congr Iff.rfl ⟨fun ⟨a, b, c, d⟩ => ⟨a, b, by omega, d⟩, fun ⟨a, b, c, d⟩ => ?_⟩
  rcases Int.lt_or_eq_of_le (show r.1 ≤ x1 by omega) with z | z
  · exact ⟨a, b, z, d⟩
  · rw [a, z] at d
    exact absurd d hv
theorem PtIn.row (p : PtIn f M P0 hs P1) (q : PtRow f M P1 h x0 x1 P) (hin : ∀ x, f.at x h ≤ M → x0 ≤ x ∧ x < x1) : PtIn f M P0 (hs ++ [h]) P := by
  refine ⟨fun r => ?_, q.nd⟩
  rw [q.mem, p.mem, List.mem_append, List.mem_singleton]
  constructor
  · rintro ((z | ⟨a, b⟩) | ⟨a, b, c, d⟩)
    · exact .inl z
    · exact .inr ⟨.inl a, b⟩
    · exact .inr ⟨.inr a, d⟩
  · rintro (z | ⟨a | a, b⟩)
    · exact .inl (.inl z)
    · exact .inl (.inr ⟨a, b⟩)
    · rw [a] at b
      obtain ⟨k1, k2⟩ := hin r.1 b
      exact .inr ⟨a, k1, k2, by rw [a]; exact b⟩
theorem PtSo.next (s : PtSo f M y P0) (p : PtIn f M P0 hs P) (y0 : 0 ≤ y) (hh : ∀ h, h ∈ hs ↔ h = y ∨ h = -y) : PtSo f M (y + 1) P := by
  refine ⟨fun r => ?_, p.nd⟩
  rw [p.mem, s.mem, hh]
  constructor
  · rintro (⟨a, b, c⟩ | ⟨a, b⟩)
    · exact ⟨a, by omega, by omega⟩
    · exact ⟨b, by omega, by omega⟩
  · rintro ⟨a, b, c⟩
    by_cases k : -y < r.2 ∧ r.2 < y
    · exact .inl ⟨a, k.1, k.2⟩
    · exact .inr ⟨by omega, a⟩
theorem PtSo.done (s : PtSo f M y P) (fo : f.ok) (y0 : 0 ≤ y) (h : 4 * f.a * M + f.D * (y * y) < 0) : PtSet f M P := by
  refine ⟨fun r => ?_, s.nd⟩
  rw [s.mem]
  refine ⟨fun z => z.1, fun z => ⟨z, ?_⟩⟩
  have e := Fm.at_D f r.1 r.2
  have q := sq_nonneg (2 * f.a * r.1 + f.b * r.2)
  have l1 : 4 * f.a * f.at r.1 r.2 ≤ 4 * f.a * M := Int.mul_le_mul_of_nonneg_left z (by have := fo.1; omega)
  rcases Classical.em (-y < r.2 ∧ r.2 < y) with c | c
  · exact c
  · exfalso
    have l : y * y ≤ r.2 * r.2 := sq_le (by omega)
    have k := Int.mul_le_mul_of_nonneg_left l (show 0 ≤ -f.D by have := fo.2; omega)
    rw [Int.neg_mul, Int.neg_mul] at k
    omega
end
/-! part m_gcd -/
theorem gcd_turn {x y : Int} (hx : 0 ≤ x) (hy : 0 < y) : Int.gcd y (x % y) = Int.gcd x y := by
  obtain ⟨m, rfl⟩ : ∃ m : Nat, x = m := ⟨x.toNat, by omega⟩
  obtain ⟨n, rfl⟩ : ∃ n : Nat, y = n := ⟨y.toNat, by omega⟩
  rw [← Int.natCast_emod, Int.gcd_natCast_natCast, Int.gcd_natCast_natCast, Nat.gcd_comm m n, Nat.gcd_rec n m, Nat.gcd_comm]
theorem gcd_abs (a b : Int) : Int.gcd (if a < 0 then -a else a) (if b < 0 then -b else b) = Int.gcd a b := by
  split <;> split <;> simp [Int.gcd_neg, Int.neg_gcd]
/-! part m_rfl -/
/-- a form of the discriminant d with these first two numbers, reduced and without a common divisor -/
def goodB (d a b : Int) : Option Fm := if (b * b - d) % (4 * a) = 0 ∧ (a < (b * b - d) / (4 * a) ∨ (b * b - d) / (4 * a) = a ∧ 0 ≤ b) ∧ Int.gcd ((Int.gcd a b : Nat) : Int) ((b * b - d) / (4 * a)) = 1 then some ⟨a, b, (b * b - d) / (4 * a)⟩ else none
def rfTo (d a : Int) (j : Nat) : List Fm := (List.range j).filterMap fun i : Nat => goodB d a (1 - a + i)
def rfRow (d a : Int) : List Fm := rfTo d a (2 * a).toNat
def rfN (d : Int) (n : Nat) : List Fm := (List.range n).flatMap fun i : Nat => rfRow d (i + 1)
def rfL (d : Int) : List Fm := if d < 0 then rfN d 19 else []
theorem rfTo_succ {d a : Int} {j : Nat} : rfTo d a (j + 1) = rfTo d a j ++ (goodB d a (1 - a + j)).toList := by
  unfold rfTo
  rw [List.range_succ, List.filterMap_append]
  congr 1
theorem rfN_succ {d : Int} {n : Nat} : rfN d (n + 1) = rfN d n ++ rfRow d (n + 1) := by
  unfold rfN
  rw [List.range_succ, List.flatMap_append]
  simp
theorem goodB_D {d a b : Int} {f : Fm} (ha : 1 ≤ a) (h : goodB d a b = some f) : f.D = d ∧ f.a = a ∧ f.b = b ∧ (a < f.c ∨ f.c = a ∧ 0 ≤ b) ∧ Int.gcd ((Int.gcd f.a f.b : Nat) : Int) f.c = 1 := by
  unfold goodB at h
  split at h
  · rename_i c
    obtain ⟨c1, c2, c3⟩ := c
    cases h
    refine ⟨?_, rfl, rfl, c2, c3⟩
    unfold Fm.D
    dsimp only
    have := Int.mul_ediv_add_emod (b * b - d) (4 * a)
    rw [c1] at this
    omega
  · cases h
theorem goodB_red {d a b : Int} {f : Fm} (ha : 1 ≤ a) (h1 : -a < b) (h2 : b ≤ a) (h : goodB d a b = some f) : f.red := by
  obtain ⟨_, e1, e2, e3, _⟩ := goodB_D ha h
  exact ⟨⟨by rw [e1, e2]; exact h1, by rw [e1, e2]; exact h2⟩, by rw [e1]; omega, by rw [e1, e2]; omega⟩
theorem red_3 {f : Fm} (h : f.red) (ha : 1 ≤ f.a) : 3 * f.a * f.a ≤ -f.D := by
  obtain ⟨⟨h1, h2⟩, h3, _⟩ := h
  have a1 : f.b * f.b ≤ f.a * f.a := sq_le (by omega)
  have a2 : f.a * f.a ≤ f.a * f.c := Int.mul_le_mul_of_nonneg_left h3 (by omega)
  unfold Fm.D
  have e1 : 3 * f.a * f.a = 3 * (f.a * f.a) := Int.mul_assoc ..
  have e2 : 4 * f.a * f.c = 4 * (f.a * f.c) := Int.mul_assoc ..
  omega
theorem mem_rfTo {d a : Int} {j : Nat} {f : Fm} : f ∈ rfTo d a j ↔ ∃ i : Nat, i < j ∧ goodB d a (1 - a + i) = some f := by
  unfold rfTo
  simp [List.mem_filterMap]
theorem rfRow_none {d a : Int} (ha : 1 ≤ a) (h : -d < 3 * a * a) : rfRow d a = [] := by
  refine List.eq_nil_iff_forall_not_mem.mpr fun f hf => ?_
  obtain ⟨i, hi, e⟩ := mem_rfTo.mp hf
  obtain ⟨e1, e2, e3, _⟩ := goodB_D ha e
  have := red_3 (goodB_red ha (by omega) (by omega) e) (by rw [e2]; exact ha)
  rw [e1, e2] at this
  omega
theorem rfN_more {d : Int} {n : Nat} (h : -d < 3 * ((n : Int) + 1) * (n + 1)) : ∀ m, n ≤ m → rfN d m = rfN d n := by
  intro m hm
  induction hm with
  | refl => rfl
  | @step m hm ih =>
    have hm2 : n ≤ m := hm
    rw [rfN_succ, ih, rfRow_none (by omega) ?_, List.append_nil]
    have a1 : ((n : Int) + 1) * (n + 1) ≤ ((m : Int) + 1) * (m + 1) := sq_le (by omega)
    rw [Int.mul_assoc] at h ⊢
    omega
theorem rfN_bad {d : Int} (h : d % 4 = 2 ∨ d % 4 = 3) (n : Nat) : rfN d n = [] := by
  refine List.eq_nil_iff_forall_not_mem.mpr fun f hf => ?_
  unfold rfN at hf
  obtain ⟨i, _, hi⟩ := List.mem_flatMap.mp hf
  obtain ⟨j, _, e⟩ := mem_rfTo.mp hi
  obtain ⟨e1, _⟩ := goodB_D (by omega) e
  unfold Fm.D at e1
  have a1 : (f.b * f.b) % 4 = 0 ∨ (f.b * f.b) % 4 = 1 := by
    rcases Int.emod_two_eq f.b with z | z
    · obtain ⟨k, hk⟩ : ∃ k, f.b = 2 * k := ⟨f.b / 2, by omega⟩
      rw [hk]
      left
      rw [show 2 * k * (2 * k) = 4 * (k * k) by grind]
      omega
    · obtain ⟨k, hk⟩ : ∃ k, f.b = 2 * k + 1 := ⟨f.b / 2, by omega⟩
      rw [hk]
      right
      rw [show (2 * k + 1) * (2 * k + 1) = 4 * (k * k + k) + 1 by grind]
      omega
  have e4 : 4 * f.a * f.c = 4 * (f.a * f.c) := Int.mul_assoc ..
  omega
theorem mem_rfL {d : Int} (h0 : d < 0) (h1 : -1000 ≤ d) {f : Fm} : f ∈ rfL d ↔ f.D = d ∧ f.ok ∧ f.red ∧ Int.gcd ((Int.gcd f.a f.b : Nat) : Int) f.c = 1 := by
  unfold rfL
  rw [if_pos h0]
  unfold rfN
  rw [List.mem_flatMap]
  constructor
  · rintro ⟨i, _, hi⟩
    obtain ⟨j, hj, e⟩ := mem_rfTo.mp hi
    obtain ⟨e1, e2, e3, e4, e5⟩ := goodB_D (by omega) e
    exact ⟨e1, ⟨by omega, by omega⟩, goodB_red (by omega) (by omega) (by omega) e, e5⟩
  · rintro ⟨e1, ⟨o1, o2⟩, hr, hg⟩
    have l3 := red_3 hr o1
    have a19 : f.a < 19 := by
      rcases Int.lt_or_le f.a 19 with z | z
      · exact z
      · exfalso
        have : 19 * 19 ≤ f.a * f.a := sq_le (x := 19) (by omega)
        rw [Int.mul_assoc] at l3
        omega
    obtain ⟨⟨h3, h4⟩, h5, h6⟩ := hr
    refine ⟨(f.a - 1).toNat, List.mem_range.mpr (by omega), mem_rfTo.mpr ⟨(f.b + f.a - 1).toNat, by omega, ?_⟩⟩
    rw [show (((f.a - 1).toNat : Nat) : Int) + 1 = f.a by omega, show 1 - f.a + (((f.b + f.a - 1).toNat : Nat) : Int) = f.b by omega]
    have key : f.b * f.b - d = 4 * f.a * f.c := by
      unfold Fm.D at e1
      omega
    unfold goodB
    rw [key, Int.mul_emod_right, Int.mul_ediv_cancel_left _ (by omega : 4 * f.a ≠ 0), if_pos ⟨rfl, by omega, hg⟩]
theorem rf_bad {d : Int} (h4 : d % 4 = 2 ∨ d % 4 = 3) : rfL d = [] := by
  unfold rfL
  split
  · exact rfN_bad h4 19
  · rfl
theorem rfTo_len {d a : Int} {j : Nat} : (rfTo d a j).length ≤ j := by
  unfold rfTo
  exact Nat.le_trans (List.length_filterMap_le _ _) (by simp)
theorem rfN_len {d : Int} : ∀ {n : Nat}, (rfN d n).length ≤ n * (2 * n)
  | 0 => by simp [rfN]
  | n + 1 => by
    rw [rfN_succ, List.length_append]
    have a := rfN_len (d := d) (n := n)
    have b : (rfRow d (n + 1)).length ≤ 2 * (n + 1) := Nat.le_trans rfTo_len (by omega)
    have c : n * (2 * n) ≤ n * (2 * (n + 1)) := Nat.mul_le_mul_left _ (by omega)
    have e : (n + 1) * (2 * (n + 1)) = n * (2 * (n + 1)) + 2 * (n + 1) := Nat.succ_mul ..
    omega
/-- the common divisor of a form's numbers stays -/
theorem gcd3_dvd {k : Nat} {f : Fm} : k ∣ Int.gcd ((Int.gcd f.a f.b : Nat) : Int) f.c ↔ (k : Int) ∣ f.a ∧ (k : Int) ∣ f.b ∧ (k : Int) ∣ f.c := by
  rw [Int.dvd_gcd_iff, Int.natCast_dvd_natCast, Int.dvd_gcd_iff, and_assoc]
theorem gcd3_act {f : Fm} {p q r s : Int} {k : Nat} (h : k ∣ Int.gcd ((Int.gcd f.a f.b : Nat) : Int) f.c) : k ∣ Int.gcd ((Int.gcd (f.act p q r s).a (f.act p q r s).b : Nat) : Int) (f.act p q r s).c := by
  obtain ⟨⟨u, hu⟩, ⟨v, hv⟩, ⟨w, hw⟩⟩ := gcd3_dvd.mp h
  refine gcd3_dvd.mpr ⟨⟨u * p * p + v * p * r + w * r * r, ?_⟩, ⟨2 * u * p * q + v * (p * s + q * r) + 2 * w * r * s, ?_⟩, ⟨u * q * q + v * q * s + w * s * s, ?_⟩⟩ <;> (unfold Fm.act; dsimp only; rw [hu, hv, hw]; grind)
theorem gcd3_eqv {f g : Fm} (h : f.eqv g) : Int.gcd ((Int.gcd f.a f.b : Nat) : Int) f.c = Int.gcd ((Int.gcd g.a g.b : Nat) : Int) g.c := by
  refine Nat.dvd_antisymm ?_ ?_
  · obtain ⟨p, q, r, s, _, rfl⟩ := h
    exact gcd3_act (Nat.dvd_refl _)
  · obtain ⟨p, q, r, s, _, e⟩ := h.symm
    have : Int.gcd ((Int.gcd g.a g.b : Nat) : Int) g.c ∣ Int.gcd ((Int.gcd (g.act p q r s).a (g.act p q r s).b : Nat) : Int) (g.act p q r s).c := gcd3_act (Nat.dvd_refl _)
    rwa [← e] at this
theorem rf_small {d : Int} (h0 : d < 0) (h1 : -1000 ≤ d) {f : Fm} (h : f ∈ rfL d) : f.a ≤ 18 ∧ -18 ≤ f.b ∧ f.b ≤ 18 ∧ 1 ≤ f.c ∧ f.c ≤ 400 := by
  obtain ⟨e, ok, hr, _⟩ := (mem_rfL h0 h1).mp h
  have hc := ok.c_pos
  have l3 := red_3 hr ok.1
  obtain ⟨o1, _⟩ := ok
  obtain ⟨⟨h3, h4⟩, h5, _⟩ := hr
  have a18 : f.a ≤ 18 := by
    rcases Int.lt_or_le f.a 19 with z | z
    · omega
    · exfalso
      have : 19 * 19 ≤ f.a * f.a := sq_le (x := 19) (by omega)
      rw [Int.mul_assoc] at l3
      omega
  have bb : f.b * f.b ≤ 18 * 18 := sq_le (by omega)
  have b0 := sq_nonneg f.b
  have ac : 1 * f.c ≤ f.a * f.c := Int.mul_le_mul_of_nonneg_right o1 (by omega)
  have e4 : 4 * f.a * f.c = 4 * (f.a * f.c) := Int.mul_assoc ..
  unfold Fm.D at e
  exact ⟨a18, by omega, by omega, hc, by omega⟩
theorem rf_bd {d : Int} (h0 : d < 0) (h1 : -1000 ≤ d) {f : Fm} (h : f ∈ rfL d) : Fm.bd 100 f := by
  obtain ⟨a1, a2, a3, a4, a5⟩ := rf_small h0 h1 h
  have o := ((mem_rfL h0 h1).mp h).2.1.1
  have lim : (400 : Int) < 2 ^ 100 := by decide
  exact ⟨Bd.of (by omega) (by omega), Bd.of (by omega) (by omega), Bd.of (by omega) (by omega)⟩
/-! part m_qr -/
namespace QR
def Pr : Nat → (Nat → Int) → Int
  | 0, _ => 1
  | n + 1, f => Pr n f * f n
theorem P_mul : ∀ (n : Nat) (f g : Nat → Int), Pr n (fun i => f i * g i) = Pr n f * Pr n g
  | 0, _, _ => rfl
  | n + 1, f, g => by
    simp only [Pr, P_mul n]
    grind
theorem P_congr : ∀ (n : Nat) {f g : Nat → Int}, (∀ i, i < n → f i = g i) → Pr n f = Pr n g
  | 0, _, _, _ => rfl
  | n + 1, f, g, h => by
    simp only [Pr]
    rw [P_congr n fun i hi => h i (by omega), h n (by omega)]
theorem P_one : ∀ n : Nat, Pr n (fun _ => 1) = 1
  | 0 => rfl
  | n + 1 => by
    simp only [Pr, P_one n]
    rfl
theorem P_neg : ∀ n : Nat, Pr n (fun _ => -1) = if n % 2 = 0 then 1 else -1
  | 0 => rfl
  | n + 1 => by
    simp only [Pr, P_neg n]
    split <;> split <;> omega
theorem P_swap (k : Nat) (f : Nat → Nat → Int) : ∀ h : Nat, Pr h (fun x => Pr k (fun y => f x y)) = Pr k (fun y => Pr h (fun x => f x y))
  | 0 => by simp only [Pr, P_one]
  | h + 1 => by
    simp only [Pr]
    rw [P_swap k f h, ← P_mul]
theorem P_zero : ∀ (n : Nat) (f : Nat → Int) (i : Nat), i < n → f i = 0 → Pr n f = 0
  | 0, _, _, h, _ => by omega
  | n + 1, f, i, h, e => by
    simp only [Pr]
    by_cases hi : i = n
    · rw [← hi, e, Int.mul_zero]
    · rw [P_zero n f i (by omega) e, Int.zero_mul]
theorem P_pm : ∀ (n : Nat) (f : Nat → Int), (∀ i, i < n → f i = 1 ∨ f i = -1) → Pr n f = 1 ∨ Pr n f = -1
  | 0, _, _ => .inl rfl
  | n + 1, f, h => by
    simp only [Pr]
    rcases P_pm n f (fun i hi => h i (by omega)) with a | a <;> rcases h n (by omega) with b | b <;> rw [a, b] <;> decide
def pl : List Int → Int
  | [] => 1
  | x :: l => x * pl l
theorem pl_append : ∀ l k : List Int, pl (l ++ k) = pl l * pl k
  | [], k => by simp [pl]
  | x :: l, k => by
    simp only [List.cons_append, pl, pl_append l k, Int.mul_assoc]
theorem pl_perm {l k : List Int} (h : l.Perm k) : pl l = pl k := by
  induction h with
  | nil => rfl
  | cons x _ ih => simp only [pl, ih]
  | swap x y l => simp only [pl]; grind
  | trans _ _ a b => exact a.trans b
theorem P_pl : ∀ (n : Nat) (f : Nat → Int), Pr n f = pl ((List.range n).map f)
  | 0, _ => rfl
  | n + 1, f => by
    rw [List.range_succ, List.map_append, pl_append, ← P_pl n f]
    simp [Pr, pl]
theorem perm_of : ∀ (l k : List Nat), l.Nodup → (∀ x, x ∈ l → x ∈ k) → k.length ≤ l.length → l.Perm k
  | [], k, _, _, h => by
    have : k = [] := List.eq_nil_of_length_eq_zero (by simpa using h)
    rw [this]
  | x :: l, k, hn, hs, hl => by
    have hx : x ∈ k := hs x (List.mem_cons_self ..)
    have hp := List.perm_cons_erase hx
    have hn' := List.nodup_cons.mp hn
    have hlen : (k.erase x).length + 1 = k.length := by
      rw [List.length_erase_of_mem hx]
      have := List.length_pos_of_mem hx
      omega
    refine List.Perm.trans (List.Perm.cons x (perm_of l (k.erase x) hn'.2 (fun y hy => ?_) ?_)) hp.symm
    · refine (List.mem_erase_of_ne ?_).mpr (hs y (List.mem_cons_of_mem _ hy))
      rintro rfl
      exact hn'.1 hy
    · simp only [List.length_cons] at hl
      omega
theorem nodup_map {f : Nat → Nat} : ∀ l : List Nat, l.Nodup → (∀ x, x ∈ l → ∀ y, y ∈ l → f x = f y → x = y) → (l.map f).Nodup
  | [], _, _ => List.nodup_nil
  | x :: l, hn, hi => by
    have hn' := List.nodup_cons.mp hn
    rw [List.map_cons, List.nodup_cons]
    refine ⟨fun hm => ?_, nodup_map l hn'.2 fun a ha b hb => hi a (List.mem_cons_of_mem _ ha) b (List.mem_cons_of_mem _ hb)⟩
    obtain ⟨y, hy, e⟩ := List.mem_map.mp hm
    have := hi y (List.mem_cons_of_mem _ hy) x (List.mem_cons_self ..) e
    rw [this] at hy
    exact hn'.1 hy
theorem perm_range {n : Nat} {π : Nat → Nat} (h1 : ∀ i, i < n → π i < n) (h2 : ∀ i, i < n → ∀ j, j < n → π i = π j → i = j) : ((List.range n).map π).Perm (List.range n) := by
  refine perm_of _ _ (nodup_map _ List.nodup_range fun x hx y hy => h2 x (List.mem_range.mp hx) y (List.mem_range.mp hy)) (fun x hx => ?_) (by simp)
  obtain ⟨i, hi, rfl⟩ := List.mem_map.mp hx
  exact List.mem_range.mpr (h1 i (List.mem_range.mp hi))
theorem P_perm {n : Nat} {π : Nat → Nat} (f : Nat → Int) (h1 : ∀ i, i < n → π i < n) (h2 : ∀ i, i < n → ∀ j, j < n → π i = π j → i = j) : Pr n (fun i => f (π i)) = Pr n f := by
  rw [P_pl, P_pl]
  have := pl_perm ((perm_range h1 h2).map f)
  rw [List.map_map] at this
  exact this
theorem P_flip (n : Nat) (f : Nat → Int) : Pr n (fun i => f (n - 1 - i)) = Pr n f :=
  P_perm (π := fun i => n - 1 - i) f (fun i hi => by show n - 1 - i < n; omega) (fun i hi j hj h => by
    have h : n - 1 - i = n - 1 - j := h
    omega)
/-- one mark in a row -/
theorem P_mark (c : Nat) (p : Prop) [Decidable p] : ∀ k : Nat, Pr k (fun y => if y = c ∧ p then -1 else 1) = if c < k ∧ p then -1 else 1
  | 0 => by simp [Pr]
  | k + 1 => by
    simp only [Pr]
    rw [P_mark c p k]
    by_cases hp : p
    · simp only [hp, and_true]
      by_cases h1 : c < k
      · rw [if_pos h1, if_neg (by omega), if_pos (by omega)]
        rfl
      · by_cases h2 : k = c
        · rw [if_neg h1, if_pos h2, if_pos (by omega)]
          rfl
        · rw [if_neg h1, if_neg h2, if_neg (by omega)]
          rfl
    · simp [hp]
/-- the sign of the absolutely least rest, to the modulus 2 h + 1 -/
def sg (h : Nat) (a : Int) : Int :=
  if a % (2 * h + 1) = 0 then 0 else if a % (2 * h + 1) ≤ h then 1 else -1
theorem rem_lo (h : Nat) (a : Int) : 0 ≤ a % (2 * h + 1) := Int.emod_nonneg a (by omega)
theorem rem_hi (h : Nat) (a : Int) : a % (2 * h + 1) ≤ 2 * h := by
  have := Int.emod_lt_of_pos a (show (0 : Int) < 2 * h + 1 by omega)
  omega
theorem dvd_rem (h : Nat) (a : Int) : (2 * (h : Int) + 1) ∣ a - a % (2 * h + 1) := ⟨a / (2 * h + 1), by
  have := Int.mul_ediv_add_emod a (2 * (h : Int) + 1)
  omega⟩
theorem sgv {h : Nat} {a r : Int} (hd : (2 * (h : Int) + 1) ∣ a - r) (h0 : 0 ≤ r) (h1 : r ≤ 2 * h) : sg h a = if r = 0 then 0 else if r ≤ h then 1 else -1 := by
  have e : a % (2 * h + 1) = r := by
    have := Int.emod_eq_emod_iff_emod_sub_eq_zero.mpr (Int.emod_eq_zero_of_dvd hd)
    rw [this, Int.emod_eq_of_lt h0 (by omega)]
  unfold sg
  rw [e]
theorem sg_congr {h : Nat} {a b : Int} (hd : (2 * (h : Int) + 1) ∣ a - b) : sg h a = sg h b := by
  unfold sg
  rw [Int.emod_eq_emod_iff_emod_sub_eq_zero.mpr (Int.emod_eq_zero_of_dvd hd)]
theorem sg_neg (h : Nat) (a : Int) : sg h (-a) = -sg h a := by
  have h0 := rem_lo h a
  have h1 := rem_hi h a
  obtain ⟨k, hk⟩ := dvd_rem h a
  rw [sgv (a := a) (dvd_rem h a) h0 h1]
  by_cases hz : a % (2 * h + 1) = 0
  · rw [sgv (r := 0) ⟨-k, by grind⟩ (by omega) (by omega), if_pos rfl, if_pos hz]
    rfl
  · rw [sgv (r := 2 * h + 1 - a % (2 * h + 1)) ⟨-k - 1, by grind⟩ (by omega) (by omega), if_neg (by omega), if_neg hz]
    split <;> split <;> omega
theorem sg_smul {h : Nat} {s : Int} (hs : s = 1 ∨ s = -1) (a : Int) : sg h (s * a) = s * sg h a := by
  rcases hs with rfl | rfl
  · rw [Int.one_mul, Int.one_mul]
  · rw [Int.neg_mul, Int.one_mul, sg_neg, Int.neg_mul, Int.one_mul]
theorem sg_pm {h : Nat} {a : Int} (ha : a % (2 * h + 1) ≠ 0) : sg h a = 1 ∨ sg h a = -1 := by
  unfold sg
  rw [if_neg ha]
  split
  · exact .inl rfl
  · exact .inr rfl
/-- the absolutely least rest, less one -/
def al (h : Nat) (a : Int) : Nat := if a % (2 * h + 1) ≤ h then (a % (2 * h + 1) - 1).toNat else (2 * h - a % (2 * h + 1)).toNat
theorem al_lt {h : Nat} {a : Int} (ha : a % (2 * h + 1) ≠ 0) : al h a < h := by
  have h0 := rem_lo h a
  have h1 := rem_hi h a
  unfold al
  split <;> omega
theorem al_dvd {h : Nat} {a : Int} (ha : a % (2 * h + 1) ≠ 0) : (2 * (h : Int) + 1) ∣ a - sg h a * (al h a + 1) := by
  have h0 := rem_lo h a
  have h1 := rem_hi h a
  obtain ⟨k, hk⟩ := dvd_rem h a
  unfold sg al
  rw [if_neg ha]
  by_cases hr : a % (2 * h + 1) ≤ h
  · rw [if_pos hr, if_pos hr, show (((a % (2 * h + 1) - 1).toNat : Int)) = a % (2 * h + 1) - 1 by omega]
    exact ⟨k, by omega⟩
  · rw [if_neg hr, if_neg hr, show (((2 * h - a % (2 * h + 1)).toNat : Int)) = 2 * h - a % (2 * h + 1) by omega]
    exact ⟨k + 1, by grind⟩
theorem small_dvd {m x : Int} (hd : m ∣ x) (h1 : -m < x) (h2 : x < m) : x = 0 := by
  rcases Int.lt_trichotomy x 0 with h | h | h
  · have := Int.le_of_dvd (show 0 < -x by omega) (Int.dvd_neg.mpr hd)
    omega
  · exact h
  · have := Int.le_of_dvd h hd
    omega
theorem cop_dvd {b m : Int} (hc : Int.gcd b m = 1) {x : Int} (hd : m ∣ b * x) : m ∣ x := by
  have h1 : m.natAbs ∣ b.natAbs * x.natAbs := by
    rw [← Int.natAbs_mul]
    exact Int.natAbs_dvd_natAbs.mpr hd
  have h2 : m.natAbs.Coprime b.natAbs := by
    unfold Nat.Coprime
    rw [Nat.gcd_comm]
    exact hc
  exact Int.natAbs_dvd_natAbs.mp (h2.dvd_of_dvd_mul_left h1)
def G (a : Int) (h : Nat) : Int := Pr h (fun i => sg h (a * ((i : Int) + 1)))
theorem cop_ne {b : Int} {h : Nat} (hc : Int.gcd b (2 * h + 1) = 1) {i : Nat} (hi : i < h) : (b * ((i : Int) + 1)) % (2 * h + 1) ≠ 0 := by
  intro z
  have := small_dvd (cop_dvd hc (Int.dvd_of_emod_eq_zero z)) (by omega) (by omega)
  omega
theorem G_congr {h : Nat} {a b : Int} (hd : (2 * (h : Int) + 1) ∣ a - b) : G a h = G b h := by
  refine P_congr h fun i hi => sg_congr ?_
  rw [← Int.sub_mul]
  exact Int.dvd_mul_of_dvd_left hd
theorem G_pm {h : Nat} {a : Int} (hc : Int.gcd a (2 * h + 1) = 1) : G a h = 1 ∨ G a h = -1 :=
  P_pm h _ fun i hi => sg_pm (cop_ne hc hi)
theorem G_zero {h : Nat} {a : Int} (hc : Int.gcd a (2 * h + 1) ≠ 1) : G a h = 0 := by
  obtain ⟨k, hk⟩ := Int.gcd_dvd_right a (2 * (h : Int) + 1)
  obtain ⟨l, hl⟩ := Int.gcd_dvd_left a (2 * (h : Int) + 1)
  generalize hg : Int.gcd a (2 * h + 1) = g at *
  have g0 : g ≠ 0 := by
    rintro rfl
    simp at hk
    omega
  have g2 : g ≠ 2 := by
    rintro rfl
    simp at hk
    omega
  have k0 : 0 < k := by
    rcases Int.lt_trichotomy k 0 with z | z | z
    · have := Int.mul_neg_of_pos_of_neg (show (0 : Int) < g by omega) z
      omega
    · rw [z] at hk
      omega
    · exact z
  have k1 : 3 * k ≤ g * k := Int.mul_le_mul_of_nonneg_right (by omega) (by omega)
  refine P_zero h _ (k - 1).toNat (by omega) ?_
  have e : (((k - 1).toNat : Int)) + 1 = k := by omega
  rw [e]
  unfold sg
  rw [if_pos]
  refine Int.emod_eq_zero_of_dvd ⟨l, ?_⟩
  rw [hk]
  conv => lhs; rw [hl]
  grind
theorem G_mul (a b : Int) (h : Nat) : G (a * b) h = G a h * G b h := by
  by_cases hc : Int.gcd b (2 * h + 1) = 1
  · have hp : Pr h (fun i => sg h (a * ((al h (b * ((i : Int) + 1)) : Int) + 1))) = Pr h (fun i => sg h (a * ((i : Int) + 1))) := by
      refine P_perm (π := fun i => al h (b * ((i : Int) + 1))) (fun i => sg h (a * ((i : Int) + 1))) (fun i hi => al_lt (cop_ne hc hi)) (fun i hi j hj e => ?_)
      have e : al h (b * ((i : Int) + 1)) = al h (b * ((j : Int) + 1)) := e
      obtain ⟨u, hu⟩ := al_dvd (cop_ne hc hi)
      obtain ⟨v, hv⟩ := al_dvd (cop_ne hc hj)
      rw [e] at hu
      rcases sg_pm (cop_ne hc hi) with s | s <;> rcases sg_pm (cop_ne hc hj) with t | t <;> rw [s] at hu <;> rw [t] at hv
      · have := small_dvd (cop_dvd (x := (i : Int) - j) hc ⟨u - v, by grind⟩) (by omega) (by omega)
        omega
      · have := small_dvd (cop_dvd (x := (i : Int) + j + 2) hc ⟨u + v, by grind⟩) (by omega) (by omega)
        omega
      · have := small_dvd (cop_dvd (x := (i : Int) + j + 2) hc ⟨u + v, by grind⟩) (by omega) (by omega)
        omega
      · have := small_dvd (cop_dvd (x := (i : Int) - j) hc ⟨u - v, by grind⟩) (by omega) (by omega)
        omega
    have e : G (a * b) h = Pr h (fun i => sg h (a * ((al h (b * ((i : Int) + 1)) : Int) + 1)) * sg h (b * ((i : Int) + 1))) := by
      refine P_congr h fun i hi => ?_
      rw [Int.mul_comm _ (sg h (b * ((i : Int) + 1))), ← sg_smul (sg_pm (cop_ne hc hi))]
      refine sg_congr ?_
      obtain ⟨u, hu⟩ := al_dvd (cop_ne hc hi)
      exact ⟨a * u, by grind⟩
    rw [e, P_mul, hp]
    rfl
  · rw [G_zero hc, Int.mul_zero, G_zero]
    intro z
    apply hc
    have h1 : Int.gcd b (2 * h + 1) ∣ Int.gcd (a * b) (2 * h + 1) := Int.dvd_gcd (Int.dvd_mul_of_dvd_right (Int.gcd_dvd_left ..)) (Int.gcd_dvd_right ..)
    rw [z] at h1
    exact Nat.dvd_one.mp h1
def tq (h k x y : Nat) : Int := (2 * k + 1) * ((x : Int) + 1) - (2 * h + 1) * ((y : Int) + 1)
def eqq (h k x y : Nat) : Int := if tq h k x y < 0 ∧ -(h : Int) ≤ tq h k x y then -1 else 1
theorem tq_comm (h k x y : Nat) : tq k h y x = -tq h k x y := by
  unfold tq
  omega
theorem q_in {h k x : Nat} (hx : x < h) (hr : (h : Int) < ((2 * k + 1) * ((x : Int) + 1)) % (2 * h + 1)) : ((2 * k + 1) * ((x : Int) + 1)) / (2 * h + 1) < k := by
  have e := Int.mul_ediv_add_emod ((2 * (k : Int) + 1) * ((x : Int) + 1)) (2 * (h : Int) + 1)
  generalize ((2 * (k : Int) + 1) * ((x : Int) + 1)) / (2 * (h : Int) + 1) = q at *
  have h1 : (2 * (k : Int) + 1) * ((x : Int) + 1) ≤ (2 * (k : Int) + 1) * h := Int.mul_le_mul_of_nonneg_left (by omega) (by omega)
  have h2 : (2 * (h : Int) + 1) * (q + 1) < (2 * (h : Int) + 1) * (k + 1) := by grind
  have := Int.lt_of_mul_lt_mul_left h2 (by omega)
  omega
theorem inner {h k x : Nat} (hc : Int.gcd (2 * k + 1) (2 * h + 1) = 1) (hx : x < h) : Pr k (fun y => eqq h k x y) = sg h ((2 * k + 1) * ((x : Int) + 1)) := by
  have hne := cop_ne hc hx
  have h0 := rem_lo h ((2 * k + 1) * ((x : Int) + 1))
  have h1 := rem_hi h ((2 * k + 1) * ((x : Int) + 1))
  have e := Int.mul_ediv_add_emod ((2 * (k : Int) + 1) * ((x : Int) + 1)) (2 * (h : Int) + 1)
  have q0 : 0 ≤ ((2 * (k : Int) + 1) * ((x : Int) + 1)) / (2 * (h : Int) + 1) := Int.ediv_nonneg (Int.mul_nonneg (by omega) (by omega)) (by omega)
  have qi := @q_in h k x hx
  unfold sg
  rw [if_neg hne]
  have hm : ∀ y, y < k → eqq h k x y = if y = (((2 * (k : Int) + 1) * ((x : Int) + 1)) / (2 * (h : Int) + 1)).toNat ∧ ¬ ((2 * (k : Int) + 1) * ((x : Int) + 1)) % (2 * h + 1) ≤ h then -1 else 1 := by
    intro y hy
    unfold eqq tq
    generalize ((2 * (k : Int) + 1) * ((x : Int) + 1)) / (2 * (h : Int) + 1) = q at *
    generalize ((2 * (k : Int) + 1) * ((x : Int) + 1)) % (2 * (h : Int) + 1) = r at *
    rw [← e]
    have hz : (2 * (h : Int) + 1) * q + r - (2 * (h : Int) + 1) * ((y : Int) + 1) = (2 * (h : Int) + 1) * (q - y - 1) + r := by grind
    rw [hz]
    congr 1
    refine propext ⟨fun ⟨a, b⟩ => ?_, fun ⟨a, b⟩ => ?_⟩
    · rcases Int.lt_trichotomy (q - y) 0 with z | z | z
      · have : (2 * (h : Int) + 1) * (q - y - 1) ≤ (2 * (h : Int) + 1) * (-2) := Int.mul_le_mul_of_nonneg_left (by omega) (by omega)
        omega
      · have z : q - y - 1 = -1 := by omega
        rw [z] at a b
        omega
      · have : 0 ≤ (2 * (h : Int) + 1) * (q - y - 1) := Int.mul_nonneg (by omega) (by omega)
        omega
    · have z : q - y - 1 = -1 := by omega
      rw [z]
      omega
  rw [P_congr k hm, P_mark]
  by_cases hr : ((2 * (k : Int) + 1) * ((x : Int) + 1)) % (2 * h + 1) ≤ h
  · rw [if_neg (fun z => z.2 hr), if_pos hr]
  · rw [if_pos ⟨by have := qi (by omega); omega, hr⟩, if_neg hr]
theorem tq_ne {h k x y : Nat} (hc : Int.gcd (2 * k + 1) (2 * h + 1) = 1) (hx : x < h) : tq h k x y ≠ 0 := by
  intro z
  apply cop_ne hc hx
  unfold tq at z
  exact Int.emod_eq_zero_of_dvd ⟨(y : Int) + 1, by omega⟩
theorem PP_pm (h k : Nat) (f : Nat → Nat → Int) (hf : ∀ x y, f x y = 1 ∨ f x y = -1) : Pr h (fun x => Pr k (fun y => f x y)) = 1 ∨ Pr h (fun x => Pr k (fun y => f x y)) = -1 :=
  P_pm h _ fun x _ => P_pm k _ fun y _ => hf x y
theorem PP_flip (h k : Nat) (f : Nat → Nat → Int) : Pr h (fun x => Pr k (fun y => f (h - 1 - x) (k - 1 - y))) = Pr h (fun x => Pr k (fun y => f x y)) := by
  rw [P_congr h fun x _ => P_flip k (fun y => f (h - 1 - x) y)]
  exact P_flip h (fun x => Pr k (fun y => f x y))
def bq (h k x y : Nat) : Int := if tq h k x y < -(h : Int) then -1 else 1
def cq (h k x y : Nat) : Int := if (k : Int) < tq h k x y then -1 else 1
theorem bc (h k : Nat) : Pr h (fun x => Pr k (fun y => bq h k x y)) = Pr h (fun x => Pr k (fun y => cq h k x y)) := by
  rw [← PP_flip h k (fun x y => cq h k x y)]
  refine P_congr h fun x hx => P_congr k fun y hy => ?_
  unfold bq cq
  have e : tq h k (h - 1 - x) (k - 1 - y) = k - h - tq h k x y := by
    unfold tq
    rw [show (((h - 1 - x : Nat) : Int)) = h - 1 - x by omega, show (((k - 1 - y : Nat) : Int)) = k - 1 - y by omega]
    grind
  rw [e]
  split <;> split <;> omega
theorem recip0 {h k : Nat} (hc : Int.gcd (2 * k + 1) (2 * h + 1) = 1) : G (2 * k + 1) h * G (2 * h + 1) k = if h % 2 = 1 ∧ k % 2 = 1 then -1 else 1 := by
  have e1 : G (2 * k + 1) h = Pr h (fun x => Pr k (fun y => eqq h k x y)) := P_congr h fun x hx => (inner hc hx).symm
  have e2 : G (2 * h + 1) k = Pr h (fun x => Pr k (fun y => eqq k h y x)) := by
    rw [P_swap]
    exact P_congr k fun y hy => (inner (by rw [Int.gcd_comm]; exact hc) hy).symm
  have e3 : Pr h (fun x => Pr k (fun y => eqq h k x y * eqq k h y x * (bq h k x y * cq h k x y))) = Pr h (fun _ => Pr k (fun _ => -1)) := by
    refine P_congr h fun x hx => P_congr k fun y hy => ?_
    have := tq_ne (y := y) hc hx
    unfold eqq bq cq
    rw [tq_comm h k x y]
    generalize tq h k x y = t at *
    split <;> split <;> split <;> split <;> omega
  have e4 : Pr h (fun x => Pr k (fun y => eqq h k x y * eqq k h y x * (bq h k x y * cq h k x y))) = Pr h (fun x => Pr k (fun y => eqq h k x y)) * Pr h (fun x => Pr k (fun y => eqq k h y x)) * (Pr h (fun x => Pr k (fun y => bq h k x y)) * Pr h (fun x => Pr k (fun y => cq h k x y))) := by
    simp only [P_mul]
  rw [bc, ← e1, ← e2, e3] at e4
  have hb : Pr h (fun x => Pr k (fun y => cq h k x y)) * Pr h (fun x => Pr k (fun y => cq h k x y)) = 1 := by
    rcases PP_pm h k (fun x y => cq h k x y) (fun x y => by unfold cq; split <;> omega) with z | z <;> rw [z] <;> rfl
  rw [hb, Int.mul_one] at e4
  rw [← e4]
  simp only [P_neg]
  split
  · rw [P_one, if_neg (by omega)]
  · rw [P_neg]
    split <;> split <;> omega
def RR (h k : Nat) : Int := if h % 2 = 1 ∧ k % 2 = 1 then -1 else 1
theorem recip (h k : Nat) : G (2 * k + 1) h = RR h k * G (2 * h + 1) k := by
  by_cases hc : Int.gcd (2 * k + 1) (2 * h + 1) = 1
  · have e := recip0 hc
    have h1 : Int.gcd (2 * h + 1) (2 * k + 1) = 1 := by rw [Int.gcd_comm]; exact hc
    unfold RR
    rw [← e, Int.mul_assoc]
    rcases G_pm h1 with z | z <;> rw [z] <;> simp
  · rw [G_zero hc, G_zero (a := 2 * h + 1) (h := k) (by rw [Int.gcd_comm]; exact hc), Int.mul_zero]
theorem P_cut (c : Nat) : ∀ n : Nat, Pr n (fun i => if i < c then 1 else -1) = if (n - c) % 2 = 0 then 1 else -1
  | 0 => by simp [Pr]
  | n + 1 => by
    simp only [Pr]
    rw [P_cut c n]
    split <;> split <;> split <;> omega
theorem G_two (h : Nat) : G 2 h = if (2 * h + 1) % 8 = 3 ∨ (2 * h + 1) % 8 = 5 then -1 else 1 := by
  have e : G 2 h = Pr h (fun i => if i < h / 2 then 1 else -1) := by
    refine P_congr h fun i hi => ?_
    rw [sgv (r := 2 * ((i : Int) + 1)) ⟨0, by omega⟩ (by omega) (by omega), if_neg (by omega)]
    split <;> split <;> omega
  rw [e, P_cut]
  split <;> split <;> omega
theorem G_at0 (h : Nat) : G 0 h = if h = 0 then 1 else 0 := by
  by_cases hh : h = 0
  · rw [if_pos hh, hh]
    rfl
  · rw [if_neg hh]
    refine P_zero h _ 0 (by omega) ?_
    rw [Int.zero_mul]
    rfl
/-- an odd positive number of the same rest -/
theorem odd_rep (a : Int) (H : Nat) : ∃ k : Nat, (2 * (H : Int) + 1) ∣ a - (2 * (k : Int) + 1) := by
  have h0 := rem_lo H a
  obtain ⟨u, hu⟩ := dvd_rem H a
  by_cases he : a % (2 * H + 1) % 2 = 1
  · refine ⟨((a % (2 * H + 1) - 1) / 2).toNat, u, ?_⟩
    rw [show 2 * ((((a % (2 * H + 1) - 1) / 2).toNat : Int)) + 1 = a % (2 * H + 1) by omega]
    exact hu
  · refine ⟨((a % (2 * H + 1) + 2 * H) / 2).toNat, u - 1, ?_⟩
    rw [show 2 * ((((a % (2 * H + 1) + 2 * H) / 2).toNat : Int)) + 1 = a % (2 * H + 1) + (2 * H + 1) by omega]
    grind
theorem G_mod_mul (a : Int) {h h' H : Nat} (hH : (2 * (H : Int) + 1) = (2 * h + 1) * (2 * h' + 1)) : G a H = G a h * G a h' := by
  obtain ⟨k, u, hu⟩ := odd_rep a H
  rw [G_congr (h := H) ⟨u, hu⟩, G_congr (h := h) (a := a) (b := 2 * k + 1) ⟨(2 * h' + 1) * u, by rw [hu, hH, Int.mul_assoc]⟩, G_congr (h := h') (a := a) (b := 2 * k + 1) ⟨(2 * h + 1) * u, by rw [hu, hH]; grind⟩,
    recip, recip h k, recip h' k, hH, G_mul]
  have e : (H : Int) = 2 * (h * h') + h + h' := by grind
  have e' : H = 2 * (h * h') + h + h' := by exact_mod_cast e
  have er : RR H k = RR h k * RR h' k := by
    unfold RR
    generalize h * h' = z at *
    split <;> split <;> split <;> omega
  rw [er]
  grind
theorem G_eq_zero {a : Int} {h : Nat} : G a h = 0 ↔ Int.gcd a (2 * h + 1) ≠ 1 := by
  constructor
  · intro z hc
    rcases G_pm hc with e | e <;> rw [e] at z <;> cases z
  · exact G_zero
end QR
section
open QR
theorem jac_G : ∀ (n h : Nat), jac n (2 * h + 1) = G n h := by
  intro n
  induction n using Nat.strongRecOn with
  | ind n ih =>
    intro h
    by_cases h0 : n = 0
    · subst h0
      rw [jac_zero, show ((0 : Nat) : Int) = 0 from rfl, G_at0]
      split <;> split <;> omega
    · by_cases h2 : n % 2 = 0
      · rw [jac_two h0 h2, ih (n / 2) (by omega) h, show (n : Int) = 2 * ((n / 2 : Nat) : Int) by omega, G_mul, G_two]
        rfl
      · obtain ⟨k, rfl⟩ : ∃ k, n = 2 * k + 1 := ⟨n / 2, by omega⟩
        rw [jac_turn (by omega), ih ((2 * h + 1) % (2 * k + 1)) (Nat.mod_lt _ (by omega)) k]
        have e : G (((2 * k + 1 : Nat) : Int)) h = RR h k * G (2 * h + 1) k := by
          rw [← recip]
          rfl
        rw [e]
        have e2 : G (((2 * h + 1) % (2 * k + 1) : Nat) : Int) k = G (2 * h + 1) k := by
          refine G_congr ⟨-((2 * (h : Int) + 1) / (2 * k + 1)), ?_⟩
          have := Int.mul_ediv_add_emod (2 * (h : Int) + 1) (2 * k + 1)
          rw [Int.natCast_emod, show ((2 * h + 1 : Nat) : Int) = 2 * (h : Int) + 1 by omega, show ((2 * k + 1 : Nat) : Int) = 2 * (k : Int) + 1 by omega, Int.mul_neg]
          omega
        rw [e2]
        congr 1
        unfold facR RR
        split <;> split <;> omega
theorem sgn_G (n : Int) (h : Nat) : sgn n (2 * h + 1) = G n h := by
  unfold sgn
  rw [show (2 * (h : Int) + 1).toNat = 2 * h + 1 by omega, jac_G]
  have h0 := rem_lo h n
  rw [Int.toNat_of_nonneg h0]
  obtain ⟨u, hu⟩ := dvd_rem h n
  exact G_congr ⟨-u, by rw [Int.mul_neg, ← hu]; omega⟩
theorem odd_half {m : Int} (h1 : 1 ≤ m) (h2 : m % 2 = 1) : ∃ h : Nat, m = 2 * h + 1 := ⟨(m / 2).toNat, by omega⟩
end
section
open QR
variable {m : Int} (h1 : 1 ≤ m) (h2 : m % 2 = 1)
include h1 h2
theorem sgn_mod_mul (a : Int) {t : Int} (h3 : 1 ≤ t) (h4 : t % 2 = 1) : sgn a (m * t) = sgn a m * sgn a t := by
  obtain ⟨h, rfl⟩ := odd_half h1 h2
  obtain ⟨k, rfl⟩ := odd_half h3 h4
  have e : (2 * (h : Int) + 1) * (2 * k + 1) = 2 * ((2 * (h * k) + h + k : Nat) : Int) + 1 := by
    push_cast
    grind
  rw [e, sgn_G, sgn_G, sgn_G, G_mod_mul a e.symm]
theorem sgn_zero {a : Int} : sgn a m = 0 ↔ Int.gcd a m ≠ 1 := by
  obtain ⟨h, rfl⟩ := odd_half h1 h2
  rw [sgn_G, G_eq_zero]
theorem sgn_pm {a : Int} (hc : Int.gcd a m = 1) : sgn a m = 1 ∨ sgn a m = -1 := by
  obtain ⟨h, rfl⟩ := odd_half h1 h2
  rw [sgn_G]
  exact G_pm hc
end
/-! part m_euler -/
namespace QR
theorem al_inj {b : Int} {h : Nat} (hc : Int.gcd b (2 * h + 1) = 1) : ∀ i, i < h → ∀ j, j < h → al h (b * ((i : Int) + 1)) = al h (b * ((j : Int) + 1)) → i = j := by
  intro i hi j hj e
  obtain ⟨u, hu⟩ := al_dvd (cop_ne hc hi)
  obtain ⟨v, hv⟩ := al_dvd (cop_ne hc hj)
  rw [e] at hu
  rcases sg_pm (cop_ne hc hi) with s | s <;> rcases sg_pm (cop_ne hc hj) with t | t <;> rw [s] at hu <;> rw [t] at hv
  · have := small_dvd (cop_dvd (x := (i : Int) - j) hc ⟨u - v, by grind⟩) (by omega) (by omega)
    omega
  · have := small_dvd (cop_dvd (x := (i : Int) + j + 2) hc ⟨u + v, by grind⟩) (by omega) (by omega)
    omega
  · have := small_dvd (cop_dvd (x := (i : Int) + j + 2) hc ⟨u + v, by grind⟩) (by omega) (by omega)
    omega
  · have := small_dvd (cop_dvd (x := (i : Int) - j) hc ⟨u - v, by grind⟩) (by omega) (by omega)
    omega
theorem Pm.cop {p : Int} (hp : Pm p) {x : Int} (hx : ¬ p ∣ x) : Int.gcd x p = 1 := by
  have hd := Int.gcd_dvd_right x p
  have hl := Int.gcd_dvd_left x p
  have h2 := hp.1
  have hle := Int.le_of_dvd (by omega) hd
  generalize hg : Int.gcd x p = g at *
  by_cases h1 : (g : Int) = p
  · rw [h1] at hl
    exact absurd hl hx
  · by_cases h0 : g = 0
    · rw [h0] at hd
      have := Int.zero_dvd.mp hd
      omega
    · have := hp.2 g
      by_cases hz : g = 1
      · exact hz
      · exact absurd hd (this (by omega) (by omega))
theorem Pm.dvd_mul {p : Int} (hp : Pm p) {x y : Int} (h : p ∣ x * y) : p ∣ x ∨ p ∣ y := by
  by_cases hx : p ∣ x
  · exact .inl hx
  · exact .inr (cop_dvd (hp.cop hx) h)
theorem Pr_dvd {m : Int} : ∀ (n : Nat) (f g : Nat → Int), (∀ i, i < n → m ∣ f i - g i) → m ∣ Pr n f - Pr n g
  | 0, _, _, _ => ⟨0, by simp [Pr]⟩
  | n + 1, f, g, h => by
    obtain ⟨u, hu⟩ := Pr_dvd n f g fun i hi => h i (by omega)
    obtain ⟨v, hv⟩ := h n (by omega)
    exact ⟨u * f n + Pr n g * v, by simp only [Pr]; grind⟩
theorem Pr_cancel {m : Int} : ∀ (n : Nat) (f : Nat → Int) (x : Int), (∀ i, i < n → Int.gcd (f i) m = 1) → m ∣ Pr n f * x → m ∣ x
  | 0, _, x, _, h => by simpa [Pr] using h
  | n + 1, f, x, hc, h => by
    simp only [Pr] at h
    rw [Int.mul_assoc] at h
    exact cop_dvd (hc n (by omega)) (Pr_cancel n f _ (fun i hi => hc i (by omega)) h)
theorem Pr_const (a : Int) (f : Nat → Int) : ∀ n : Nat, Pr n (fun i => a * f i) = a ^ n * Pr n f
  | 0 => by simp [Pr]
  | n + 1 => by
    simp only [Pr]
    rw [Pr_const a f n, Int.pow_succ]
    grind
theorem Pr_first (f : Nat → Int) : ∀ n : Nat, Pr (n + 1) f = f 0 * Pr n (fun i => f (i + 1))
  | 0 => by simp [Pr]
  | n + 1 => by
    have := Pr_first f n
    simp only [Pr] at *
    rw [this]
    grind
theorem gauss {h : Nat} (hp : Pm (2 * h + 1)) {a : Int} (ha : ¬ (2 * (h : Int) + 1) ∣ a) : (2 * (h : Int) + 1) ∣ a ^ h - G a h := by
  have hc := hp.cop ha
  have h1 : (2 * (h : Int) + 1) ∣ Pr h (fun i => a * ((i : Int) + 1)) - Pr h (fun i => sg h (a * ((i : Int) + 1)) * ((al h (a * ((i : Int) + 1)) : Int) + 1)) :=
    Pr_dvd h _ _ fun i hi => al_dvd (cop_ne hc hi)
  have h2 : Pr h (fun i => (al h (a * ((i : Int) + 1)) : Int) + 1) = Pr h (fun i => (i : Int) + 1) :=
    P_perm (π := fun i => al h (a * ((i : Int) + 1))) (fun i => (i : Int) + 1) (fun i hi => al_lt (cop_ne hc hi)) (al_inj hc)
  rw [Pr_const, P_mul, h2] at h1
  refine Pr_cancel h (fun i => (i : Int) + 1) _ (fun i hi => hp.cop fun z => ?_) ?_
  · have := Int.le_of_dvd (by omega) z
    omega
  · obtain ⟨u, hu⟩ := h1
    exact ⟨u, by unfold G; grind⟩
theorem solve {h : Nat} {x : Int} (hc : Int.gcd x (2 * h + 1) = 1) {a : Int} (ha : ¬ (2 * (h : Int) + 1) ∣ a) : ∃ j, j < 2 * h ∧ (2 * (h : Int) + 1) ∣ x * ((j : Int) + 1) - a := by
  have hne : ∀ j : Nat, j < 2 * h → (x * ((j : Int) + 1)) % (2 * h + 1) ≠ 0 := by
    intro j hj z
    have := Int.le_of_dvd (by omega) (cop_dvd hc (Int.dvd_of_emod_eq_zero z))
    omega
  have hp := perm_range (n := 2 * h) (π := fun j => ((x * ((j : Int) + 1)) % (2 * h + 1) - 1).toNat) (fun j hj => by
    have h0 := rem_lo h (x * ((j : Int) + 1))
    have h1 := rem_hi h (x * ((j : Int) + 1))
    have := hne j hj
    show ((x * ((j : Int) + 1)) % (2 * h + 1) - 1).toNat < 2 * h
    omega) (fun i hi j hj e => by
    have e : ((x * ((i : Int) + 1)) % (2 * h + 1) - 1).toNat = ((x * ((j : Int) + 1)) % (2 * h + 1) - 1).toNat := e
    have h0 := rem_lo h (x * ((j : Int) + 1))
    have h1 := rem_lo h (x * ((i : Int) + 1))
    have n0 := hne i hi
    have n1 := hne j hj
    obtain ⟨u, hu⟩ := dvd_rem h (x * ((i : Int) + 1))
    obtain ⟨v, hv⟩ := dvd_rem h (x * ((j : Int) + 1))
    have e2 : (x * ((i : Int) + 1)) % (2 * h + 1) = (x * ((j : Int) + 1)) % (2 * h + 1) := by omega
    have := small_dvd (cop_dvd (x := (i : Int) - j) hc ⟨u - v, by grind⟩) (by omega) (by omega)
    omega)
  have h0 := rem_lo h a
  have h1 := rem_hi h a
  have h2 : a % (2 * h + 1) ≠ 0 := fun z => ha (Int.dvd_of_emod_eq_zero z)
  have hm : (a % (2 * h + 1) - 1).toNat ∈ List.range (2 * h) := List.mem_range.mpr (by omega)
  obtain ⟨j, hj, e⟩ := List.mem_map.mp (hp.mem_iff.mpr hm)
  have hj := List.mem_range.mp hj
  have k0 := rem_lo h (x * ((j : Int) + 1))
  have k1 := hne j hj
  have e2 : (x * ((j : Int) + 1)) % (2 * h + 1) = a % (2 * h + 1) := by omega
  obtain ⟨u, hu⟩ := dvd_rem h (x * ((j : Int) + 1))
  obtain ⟨v, hv⟩ := dvd_rem h a
  exact ⟨j, hj, u - v, by grind⟩
theorem pairs {m a : Int} : ∀ (n : Nat) (L : List Int), L.length ≤ n → L.Nodup → (∀ x, x ∈ L → ∃ y, y ∈ L ∧ y ≠ x ∧ m ∣ x * y - a) → (∀ x, x ∈ L → ∀ y, y ∈ L → ∀ z, z ∈ L → m ∣ x * y - a → m ∣ x * z - a → y = z) → m ∣ pl L - a ^ (L.length / 2) := by
  intro n
  induction n with
  | zero =>
    intro L hl _ _ _
    have : L = [] := List.eq_nil_of_length_eq_zero (by omega)
    subst this
    exact ⟨0, by simp [pl]⟩
  | succ n ih =>
    intro L hl hn hx hu
    match L, hl, hn, hx, hu with
    | [], _, _, _, _ => exact ⟨0, by simp [pl]⟩
    | x :: T, hl, hn, hx, hu =>
      have hn' := List.nodup_cons.mp hn
      obtain ⟨y, hy, yx, hd⟩ := hx x (List.mem_cons_self ..)
      have hyT : y ∈ T := by
        rcases List.mem_cons.mp hy with z | z
        · exact absurd z yx
        · exact z
      have hp := List.perm_cons_erase hyT
      have hlen : (T.erase y).length + 1 = T.length := by
        rw [List.length_erase_of_mem hyT]
        have := List.length_pos_of_mem hyT
        omega
      have hnd : (y :: T.erase y).Nodup := hp.nodup hn'.2
      have hnd' := List.nodup_cons.mp hnd
      have sub : ∀ z, z ∈ T.erase y → z ∈ T := fun z hz => hp.mem_iff.mpr (List.mem_cons_of_mem _ hz)
      have hI := ih (T.erase y) (by simp only [List.length_cons] at hl; omega) hnd'.2 (fun z hz => by
        have hzT := sub z hz
        have hzL := List.mem_cons_of_mem x hzT
        obtain ⟨w, hw, wz, hd2⟩ := hx z hzL
        have wx : w ≠ x := by
          rintro rfl
          have : z = y := hu w (List.mem_cons_self ..) z hzL y hy (by rw [Int.mul_comm]; exact hd2) hd
          rw [this] at hz
          exact hnd'.1 hz
        have wy : w ≠ y := by
          rintro rfl
          have : z = x := hu w hy z hzL x (List.mem_cons_self ..) (by rw [Int.mul_comm]; exact hd2) (by rw [Int.mul_comm]; exact hd)
          rw [this] at hzT
          exact hn'.1 hzT
        refine ⟨w, ?_, wz, hd2⟩
        rcases List.mem_cons.mp hw with q | q
        · exact absurd q wx
        · rcases List.mem_cons.mp (hp.mem_iff.mp q) with q | q
          · exact absurd q wy
          · exact q) (fun z hz w hw v hv => hu z (List.mem_cons_of_mem _ (sub z hz)) w (List.mem_cons_of_mem _ (sub w hw)) v (List.mem_cons_of_mem _ (sub v hv)))
      obtain ⟨s, hs⟩ := hI
      obtain ⟨t, ht⟩ := hd
      have e : pl (x :: T) = x * (y * pl (T.erase y)) := by
        rw [pl, pl_perm hp]
        rfl
      have e2 : (x :: T).length / 2 = (T.erase y).length / 2 + 1 := by
        simp only [List.length_cons]
        omega
      rw [e, e2, Int.pow_succ]
      exact ⟨t * pl (T.erase y) + a * s, by grind⟩
theorem nodup_mapI {f : Nat → Int} : ∀ l : List Nat, l.Nodup → (∀ x y, f x = f y → x = y) → (l.map f).Nodup
  | [], _, _ => List.nodup_nil
  | x :: l, hn, hi => by
    have hn' := List.nodup_cons.mp hn
    rw [List.map_cons, List.nodup_cons]
    refine ⟨fun hm => ?_, nodup_mapI l hn'.2 hi⟩
    obtain ⟨y, hy, e⟩ := List.mem_map.mp hm
    rw [hi y x e] at hy
    exact hn'.1 hy
theorem mem_row {n : Nat} {c x : Int} : x ∈ (List.range n).map (fun i : Nat => (i : Int) + c) ↔ c ≤ x ∧ x < n + c := by
  constructor
  · intro hx
    obtain ⟨i, hi, rfl⟩ := List.mem_map.mp hx
    have := List.mem_range.mp hi
    omega
  · intro ⟨a, b⟩
    exact List.mem_map.mpr ⟨(x - c).toNat, List.mem_range.mpr (by omega), by omega⟩
section
variable {h : Nat} (hp : Pm (2 * h + 1))
include hp
theorem uniq {a x y z : Int} (hx : ¬ (2 * (h : Int) + 1) ∣ x) (h1 : (2 * (h : Int) + 1) ∣ x * y - a) (h2 : (2 * (h : Int) + 1) ∣ x * z - a) (hy : 0 < y ∧ y ≤ 2 * h) (hz : 0 < z ∧ z ≤ 2 * h) : y = z := by
  obtain ⟨u, hu⟩ := h1
  obtain ⟨v, hv⟩ := h2
  have := small_dvd (cop_dvd (x := y - z) (hp.cop hx) ⟨u - v, by grind⟩) (by omega) (by omega)
  omega
theorem not_dvd {x : Int} (h1 : 0 < x) (h2 : x ≤ 2 * h) : ¬ (2 * (h : Int) + 1) ∣ x := fun z => by
  have := Int.le_of_dvd h1 z
  omega
theorem all_prod {a : Int} (ha : ¬ (2 * (h : Int) + 1) ∣ a) (hn : ∀ x : Int, ¬ (2 * (h : Int) + 1) ∣ x * x - a) : (2 * (h : Int) + 1) ∣ Pr (2 * h) (fun i => (i : Int) + 1) - a ^ h := by
  have := pairs (m := 2 * h + 1) (a := a) _ ((List.range (2 * h)).map fun i : Nat => (i : Int) + 1) (Nat.le_refl _) (nodup_mapI _ List.nodup_range fun x y e => by omega) (fun x hx => by
    have hx := mem_row.mp hx
    have nx := not_dvd hp (x := x) (by omega) (by omega)
    obtain ⟨j, hj, hd⟩ := solve (hp.cop nx) ha
    refine ⟨(j : Int) + 1, mem_row.mpr (by omega), ?_, hd⟩
    intro e
    rw [e] at hd
    exact hn x hd) (fun x hx y hy z hz h1 h2 => by
    have hx := mem_row.mp hx
    have hy := mem_row.mp hy
    have hz := mem_row.mp hz
    exact uniq hp (not_dvd hp (by omega) (by omega)) h1 h2 (by omega) (by omega))
  rw [← P_pl] at this
  simpa using this
theorem wilson : (2 * (h : Int) + 1) ∣ Pr (2 * h) (fun i => (i : Int) + 1) + 1 := by
  have h3 := hp.1
  obtain ⟨g, rfl⟩ : ∃ g, h = g + 1 := ⟨h - 1, by omega⟩
  have n1 : ¬ (2 * ((g + 1 : Nat) : Int) + 1) ∣ 1 := not_dvd hp (by omega) (by omega)
  have := pairs (m := 2 * ((g + 1 : Nat) : Int) + 1) (a := 1) _ ((List.range (2 * g)).map fun i : Nat => (i : Int) + 2) (Nat.le_refl _) (nodup_mapI _ List.nodup_range fun x y e => by omega) (fun x hx => by
    have hx := mem_row.mp hx
    have nx := not_dvd hp (x := x) (by omega) (by omega)
    obtain ⟨j, hj, hd⟩ := solve (hp.cop nx) n1
    refine ⟨(j : Int) + 1, mem_row.mpr ?_, ?_, hd⟩
    · by_cases j0 : j = 0
      · subst j0
        have := small_dvd (x := x - 1) (by simpa using hd) (by omega) (by omega)
        omega
      · by_cases j1 : j = 2 * g + 1
        · subst j1
          obtain ⟨u, hu⟩ := hd
          have := small_dvd (m := 2 * ((g + 1 : Nat) : Int) + 1) (x := -x - 1 + (2 * ((g + 1 : Nat) : Int) + 1)) ⟨u - x + 1, by grind⟩ (by omega) (by omega)
          omega
        · omega
    · intro e
      rw [e] at hd
      have hd2 : (2 * ((g + 1 : Nat) : Int) + 1) ∣ (x - 1) * (x + 1) := by
        rw [show (x - 1) * (x + 1) = x * x - 1 by grind]
        exact hd
      rcases hp.dvd_mul hd2 with q | q
      · exact not_dvd hp (by omega) (by omega) q
      · exact not_dvd hp (by omega) (by omega) q) (fun x hx y hy z hz h1 h2 => by
    have hx := mem_row.mp hx
    have hy := mem_row.mp hy
    have hz := mem_row.mp hz
    exact uniq hp (not_dvd hp (by omega) (by omega)) h1 h2 (by omega) (by omega))
  rw [← P_pl, Int.one_pow] at this
  obtain ⟨u, hu⟩ := this
  rw [show 2 * (g + 1) = 2 * g + 1 + 1 by omega]
  have e : Pr (2 * g + 1 + 1) (fun i => (i : Int) + 1) = Pr (2 * g) (fun i => (i : Int) + 2) * (2 * g + 2) := by
    rw [Pr, Pr_first]
    have : Pr (2 * g) (fun i => ((i + 1 : Nat) : Int) + 1) = Pr (2 * g) (fun i => (i : Int) + 2) := P_congr _ fun i _ => by omega
    rw [this]
    simp
    grind
  rw [e]
  exact ⟨u * (2 * g + 2) + 1, by push_cast at *; grind⟩
/-- the sign to a prime modulus is by squares -/
theorem euler {a : Int} (ha : ¬ (2 * (h : Int) + 1) ∣ a) : G a h = 1 ↔ ∃ x : Int, (2 * (h : Int) + 1) ∣ x * x - a := by
  constructor
  · intro hg
    refine Classical.byContradiction fun hn => ?_
    obtain ⟨u, hu⟩ := all_prod hp ha fun x hx => hn ⟨x, hx⟩
    obtain ⟨v, hv⟩ := wilson hp
    obtain ⟨w, hw⟩ := gauss hp ha
    rw [hg] at hw
    have : (2 * (h : Int) + 1) ∣ 2 := ⟨v - u - w, by grind⟩
    have := Int.le_of_dvd (by omega) this
    have := hp.1
    omega
  · rintro ⟨x, hx⟩
    rw [← G_congr hx, G_mul]
    have hc : Int.gcd x (2 * h + 1) = 1 := hp.cop fun z => ha (by
      have := Int.dvd_sub (Int.dvd_mul_of_dvd_left z (c := x)) hx
      rw [show x * x - (x * x - a) = a by omega] at this
      exact this)
    rcases G_pm hc with e | e <;> rw [e] <;> rfl
end
end QR
/-! part m_sq -/
theorem sgn_away {p n : Int} (hp : QR.OP p) (hn : ¬ n % p = 0) : sgn n p = 1 ∨ sgn n p = -1 :=
  sgn_pm (by have := hp.three; omega) hp.2 (hp.1.cop fun z => hn (Int.emod_eq_zero_of_dvd z))
theorem sgn_at0 {p n : Int} (hp : QR.OP p) (hn : n % p = 0) : sgn n p = 0 :=
  (sgn_zero (by have := hp.three; omega) hp.2).mpr fun z => by
    have := hp.three
    have hd := Int.dvd_of_emod_eq_zero hn
    have h1 : p ∣ ((Int.gcd n p : Nat) : Int) := Int.dvd_coe_gcd hd (Int.dvd_refl p)
    rw [z] at h1
    have := Int.le_of_dvd (by decide) h1
    omega
/-! part m_cip -/
namespace QR
/-! binomial numbers, and that a prime divides the inner ones -/
def Sm : Nat → (Nat → Int) → Int
  | 0, _ => 0
  | n + 1, f => Sm n f + f n
theorem Sm_congr : ∀ (n : Nat) {f g : Nat → Int}, (∀ i, i < n → f i = g i) → Sm n f = Sm n g
  | 0, _, _, _ => rfl
  | n + 1, f, g, h => by rw [Sm, Sm, Sm_congr n fun i hi => h i (by omega), h n (by omega)]
theorem Sm_add (f g : Nat → Int) : ∀ n : Nat, Sm n (fun i => f i + g i) = Sm n f + Sm n g
  | 0 => rfl
  | n + 1 => by
    rw [Sm, Sm, Sm, Sm_add f g n]
    omega
theorem Sm_mul (c : Int) (f : Nat → Int) : ∀ n : Nat, Sm n (fun i => c * f i) = c * Sm n f
  | 0 => by simp [Sm]
  | n + 1 => by rw [Sm, Sm, Sm_mul c f n, Int.mul_add]
/-! sums of an integer and a multiple of a root of w -/
def mulQ (w : Int) (x y : Int × Int) : Int × Int := (x.1 * y.1 + x.2 * y.2 * w, x.1 * y.2 + x.2 * y.1)
def powQ (w : Int) (x : Int × Int) : Nat → Int × Int
  | 0 => (1, 0)
  | n + 1 => mulQ w (powQ w x n) x
theorem mulQ_assoc (w : Int) (x y z : Int × Int) : mulQ w (mulQ w x y) z = mulQ w x (mulQ w y z) := by
  simp only [mulQ, Prod.mk.injEq]
  constructor <;> grind
theorem mulQ_comm (w : Int) (x y : Int × Int) : mulQ w x y = mulQ w y x := by
  simp only [mulQ, Prod.mk.injEq]
  constructor <;> grind
theorem powQ_sq (w : Int) (x : Int × Int) (n : Nat) : powQ w (mulQ w x x) n = powQ w x (2 * n) := by
  induction n with
  | zero => rfl
  | succ n ih =>
    rw [powQ, ih, show 2 * (n + 1) = 2 * n + 1 + 1 by omega, powQ, powQ, mulQ_assoc]
def sE (w : Int) (k : Nat) : Int := if k % 2 = 0 then w ^ (k / 2) else 0
end QR
/-! part m_rt -/
/-! roots on a clock -/
def cg (p a b : Int) : Prop := p ∣ a - b
theorem cg.mulQ1 {p w a b c d a' b' c' d' : Int} (h1 : p ∣ a - a') (h2 : p ∣ b - b') (h3 : p ∣ c - c') (h4 : p ∣ d - d') : p ∣ (a * c + b * d * w) % p - (a' * c' + b' * d' * w) := by
  obtain ⟨x, hx⟩ := h1
  obtain ⟨y, hy⟩ := h2
  obtain ⟨z, hz⟩ := h3
  obtain ⟨u, hu⟩ := h4
  have e := Int.mul_ediv_add_emod (a * c + b * d * w) p
  generalize (a * c + b * d * w) / p = q at *
  generalize (a * c + b * d * w) % p = r at *
  have ea : a = a' + p * x := by omega
  have eb : b = b' + p * y := by omega
  have ec : c = c' + p * z := by omega
  have ed : d = d' + p * u := by omega
  refine ⟨a' * z + x * c' + p * x * z + (b' * u + y * d' + p * y * u) * w - q, ?_⟩
  have : r = a * c + b * d * w - p * q := by omega
  rw [this, ea, eb, ec, ed]
  grind
theorem cg.mulQ2 {p a b c d a' b' c' d' : Int} (h1 : p ∣ a - a') (h2 : p ∣ b - b') (h3 : p ∣ c - c') (h4 : p ∣ d - d') : p ∣ (a * d + b * c) % p - (a' * d' + b' * c') := by
  obtain ⟨x, hx⟩ := h1
  obtain ⟨y, hy⟩ := h2
  obtain ⟨z, hz⟩ := h3
  obtain ⟨u, hu⟩ := h4
  have e := Int.mul_ediv_add_emod (a * d + b * c) p
  generalize (a * d + b * c) / p = q at *
  generalize (a * d + b * c) % p = r at *
  have ea : a = a' + p * x := by omega
  have eb : b = b' + p * y := by omega
  have ec : c = c' + p * z := by omega
  have ed : d = d' + p * u := by omega
  refine ⟨a' * u + x * d' + p * x * u + (b' * z + y * c' + p * y * z) - q, ?_⟩
  have : r = a * d + b * c - p * q := by omega
  rw [this, ea, eb, ec, ed]
  grind
namespace QR
/-- what the loop keeps: the pairs stand for sums, and result times power to the exponent is one and the same -/
def Keep (p w t : Int) (h : Nat) (a b c d : Int) (e : Nat) : Prop := ∃ R S : Int × Int, p ∣ a - R.1 ∧ p ∣ b - R.2 ∧ p ∣ c - S.1 ∧ p ∣ d - S.2 ∧ mulQ w R (powQ w S e) = powQ w (t, 1) h
theorem Keep.odd {p w t a b c d : Int} {h e : Nat} (k : Keep p w t h a b c d e) (ho : e % 2 = 1) : Keep p w t h ((a * c + b * d * w) % p) ((a * d + b * c) % p) ((c * c + d * d * w) % p) ((c * d + d * c) % p) (e / 2) := by
  obtain ⟨R, S, h1, h2, h3, h4, he⟩ := k
  refine ⟨mulQ w R S, mulQ w S S, cg.mulQ1 h1 h2 h3 h4, cg.mulQ2 h1 h2 h3 h4, cg.mulQ1 h3 h4 h3 h4, cg.mulQ2 h3 h4 h3 h4, ?_⟩
  rw [powQ_sq, mulQ_assoc, mulQ_comm w S, ← he]
  rw [show e = 2 * (e / 2) + 1 by omega, powQ, show (2 * (e / 2) + 1) / 2 = e / 2 by omega]
end QR
/-! part m_poly -/
/-! the hours at which a polynomial is 0 -/
namespace QR
end QR
/-! part m_clk -/
/-! odd primes up to 10000019, and Euler's power -/
theorem rest_by {p r Y : Int} (h : p ∣ Y - r) (h0 : 0 ≤ r) (h1 : r < p) : Y % p = r := by
  obtain ⟨c, hc⟩ := h
  rw [show Y = r + p * c by omega, Int.add_mul_emod_self_left, Int.emod_eq_of_lt h0 h1]
theorem euler_pow {n p : Int} (hp : QR.OP p) : n ^ ((p - 1) / 2).toNat % p = p - 1 ↔ sgn n p = -1 := by
  have h3 := hp.three
  obtain ⟨h, rfl⟩ := odd_half (by omega) hp.2
  rw [show ((2 * (h : Int) + 1 - 1) / 2).toNat = h by omega]
  by_cases h0 : n % (2 * (h : Int) + 1) = 0
  · rw [sgn_at0 hp h0]
    obtain ⟨c, hc⟩ := Int.dvd_of_emod_eq_zero h0
    have : n ^ h % (2 * (h : Int) + 1) = 0 := by
      refine Int.emod_eq_zero_of_dvd ?_
      obtain ⟨k, rfl⟩ : ∃ k, h = k + 1 := ⟨h - 1, by omega⟩
      rw [Int.pow_succ]
      exact Int.dvd_mul_of_dvd_right ⟨c, hc⟩
    rw [this]
    omega
  · obtain ⟨c, hc⟩ := QR.gauss hp.1 (a := n) fun z => h0 (Int.emod_eq_zero_of_dvd z)
    rw [sgn_G]
    rcases sgn_away hp h0 with e | e
    · rw [sgn_G] at e
      rw [e] at hc ⊢
      rw [rest_by (r := 1) ⟨c, hc⟩ (by omega) (by omega)]
      omega
    · rw [sgn_G] at e
      rw [e] at hc ⊢
      rw [rest_by (r := 2 * (h : Int) + 1 - 1) ⟨c - 1, by rw [Int.mul_sub]; omega⟩ (by omega) (by omega)]
      omega
/-! part m_rtc -/
/-! roots and coefficients -/
namespace QR
end QR
/-! part m_cop -/
namespace QR
theorem exists_pm : ∀ (n : Nat), 2 ≤ n → ∃ p : Int, Pm p ∧ p ∣ (n : Int) := by
  intro n
  induction n using Nat.strongRecOn with
  | _ n ih =>
    intro h2
    by_cases hp : Pm (n : Int)
    · exact ⟨n, hp, Int.dvd_refl _⟩
    · have : ∃ d : Int, 2 ≤ d ∧ d < n ∧ d ∣ (n : Int) := Classical.byContradiction fun h => hp ⟨by omega, fun d a b c => h ⟨d, a, b, c⟩⟩
      obtain ⟨d, a, b, c⟩ := this
      obtain ⟨p, q1, q2⟩ := ih d.toNat (by omega) (by omega)
      rw [show ((d.toNat : Nat) : Int) = d by omega] at q2
      exact ⟨p, q1, Int.dvd_trans q2 c⟩
theorem dvd_gcd {d x m : Int} (h : d ∣ x) (k : d ∣ m) : d ∣ ((Int.gcd x m : Nat) : Int) := Int.dvd_coe_gcd h k
/-- coprime: no prime divides both -/
theorem cop_iff {x m : Int} : Int.gcd x m = 1 ↔ ∀ p : Int, Pm p → p ∣ x → ¬ p ∣ m := by
  constructor
  · intro h p hp a b
    have := dvd_gcd a b
    rw [h] at this
    have := Int.le_of_dvd (by decide) this
    have := hp.1
    omega
  · intro h
    rcases Nat.lt_or_ge (Int.gcd x m) 2 with z | z
    · rcases Nat.lt_or_ge 0 (Int.gcd x m) with y | y
      · omega
      · exfalso
        have e : Int.gcd x m = 0 := by omega
        obtain ⟨e1, e2⟩ := Int.gcd_eq_zero_iff.mp e
        subst e1 e2
        exact h 2 pm_two (Int.dvd_zero 2) (Int.dvd_zero 2)
    · obtain ⟨p, hp, hd⟩ := exists_pm _ z
      exact absurd (Int.dvd_trans hd (Int.gcd_dvd_right ..)) (h p hp (Int.dvd_trans hd (Int.gcd_dvd_left ..)))
theorem cop_dvd_right {x m n : Int} (h : Int.gcd x m = 1) (d : n ∣ m) : Int.gcd x n = 1 := cop_iff.mpr fun p hp a b => cop_iff.mp h p hp a (Int.dvd_trans b d)
theorem cop_congr {x y m : Int} (h : m ∣ x - y) : Int.gcd x m = 1 ↔ Int.gcd y m = 1 := by
  have key : ∀ x y : Int, m ∣ x - y → Int.gcd x m = 1 → Int.gcd y m = 1 := fun x y h hx => cop_iff.mpr fun p hp a b => cop_iff.mp hx p hp (by
    have := Int.dvd_add (Int.dvd_trans b h) a
    rwa [Int.sub_add_cancel] at this) b
  refine ⟨key x y h, key y x ?_⟩
  obtain ⟨k, hk⟩ := h
  exact ⟨-k, by rw [Int.mul_neg, ← hk]; omega⟩
theorem dvd_sub_emod (x m : Int) : m ∣ x - x % m := ⟨x / m, by have := Int.mul_ediv_add_emod x m; omega⟩
theorem cop_emod {x m : Int} : Int.gcd (x % m) m = 1 ↔ Int.gcd x m = 1 := (cop_congr (dvd_sub_emod x m)).symm
theorem cop_mul {x m n : Int} (h : Int.gcd x m = 1) (k : Int.gcd x n = 1) : Int.gcd x (m * n) = 1 := cop_iff.mpr fun p hp a b => (Pm.dvd_mul hp b).elim (cop_iff.mp h p hp a) (cop_iff.mp k p hp a)
theorem emod_eq_of_dvd {x y m : Int} (h : m ∣ x - y) : x % m = y % m := Int.emod_eq_emod_iff_emod_sub_eq_zero.mpr (Int.emod_eq_zero_of_dvd h)
theorem dvd_of_emod_eq {x y m : Int} (h : x % m = y % m) : m ∣ x - y := Int.dvd_of_emod_eq_zero (Int.emod_eq_emod_iff_emod_sub_eq_zero.mp h)
theorem pm_cop {p m : Int} (hp : Pm p) : Int.gcd p m = 1 ↔ ¬ p ∣ m := by
  constructor
  · intro h d
    exact cop_iff.mp h p hp (Int.dvd_refl p) d
  · intro h
    refine cop_iff.mpr fun q hq a b => ?_
    have q2 := hq.1
    have hle := Int.le_of_dvd (by have := hp.1; omega) a
    rcases Int.lt_or_eq_of_le hle with z | z
    · exact hp.2 q q2 z a
    · exact h (z ▸ b)
end QR
/-- the ints from 0 on below m coprime to it -/
def uL (m : Int) : List Int := ((List.range m.toNat).map (fun i : Nat => (i : Int))).filter (fun r => decide (Int.gcd r m = 1))
theorem mem_uL {m k : Int} : k ∈ uL m ↔ 0 ≤ k ∧ k < m ∧ Int.gcd k m = 1 := by
  unfold uL
  rw [List.mem_filter, decide_eq_true_iff, List.mem_map]
  constructor
  · rintro ⟨⟨i, hi, rfl⟩, h⟩
    rw [List.mem_range] at hi
    exact ⟨by omega, by omega, h⟩
  · rintro ⟨a, b, h⟩
    exact ⟨⟨k.toNat, List.mem_range.mpr (by omega), by omega⟩, h⟩
/-! part m_period -/
/-! part m_factors -/
def prodF : List (Int × Nat) → Int
  | [] => 1
  | x :: l => x.1 ^ x.2 * prodF l
def rowF (x : Int × Nat) : List V := [.int x.1, .int x.2]
/-- the primes of a number with their exponents -/
structure FacOk (n : Int) (fs : List (Int × Nat)) : Prop where
  prod : prodF fs = n
  prime : ∀ x, x ∈ fs → QR.Pm x.1 ∧ 1 ≤ x.2
  asc : fs.Pairwise fun a b => a.1 < b.1
theorem prodF_snoc (x : Int × Nat) : ∀ fs : List (Int × Nat), prodF (fs ++ [x]) = prodF fs * x.1 ^ x.2
  | [] => by simp [prodF]
  | y :: l => by
    simp only [List.cons_append, prodF]
    rw [prodF_snoc x l, Int.mul_assoc]
theorem prodF_big : ∀ fs : List (Int × Nat), (∀ x, x ∈ fs → QR.Pm x.1 ∧ 1 ≤ x.2) → (2 : Int) ^ fs.length ≤ prodF fs
  | [], _ => by simp [prodF]
  | x :: l, h => by
    have hx := h x (List.mem_cons_self ..)
    have ih := prodF_big l fun y hy => h y (List.mem_cons_of_mem _ hy)
    have h2 := hx.1.1
    obtain ⟨e, he⟩ : ∃ e, x.2 = e + 1 := ⟨x.2 - 1, by omega⟩
    have p1 : (1 : Int) ≤ x.1 ^ e := Int.pow_pos (by omega)
    have p0 : (0 : Int) < 2 ^ l.length := Int.pow_pos (by decide)
    simp only [prodF, List.length_cons]
    rw [he, Int.pow_succ, Int.pow_succ, Int.mul_comm (2 ^ l.length) 2]
    have p2 : 2 ≤ x.1 ^ e * x.1 := by
      have : 1 * x.1 ≤ x.1 ^ e * x.1 := Int.mul_le_mul_of_nonneg_right p1 (by omega)
      omega
    have a1 : 2 * 2 ^ l.length ≤ (x.1 ^ e * x.1) * 2 ^ l.length := Int.mul_le_mul_of_nonneg_right p2 (by omega)
    have a2 : (x.1 ^ e * x.1) * 2 ^ l.length ≤ (x.1 ^ e * x.1) * prodF l := Int.mul_le_mul_of_nonneg_left ih (by omega)
    omega
/-- while the factors are found: fs so far, n left, d next -/
structure FacInv (n0 n d : Int) (fs : List (Int × Nat)) : Prop where
  pos : 1 ≤ n
  two : 2 ≤ d
  prod : prodF fs * n = n0
  prime : ∀ x, x ∈ fs → QR.Pm x.1 ∧ 1 ≤ x.2 ∧ x.1 < d
  asc : fs.Pairwise fun a b => a.1 < b.1
  none : ∀ e : Int, 2 ≤ e → e < d → ¬ e ∣ n
theorem FacInv.len {n0 n d : Int} {fs : List (Int × Nat)} (h : FacInv n0 n d fs) (hn : n0 < 2 ^ 100) : fs.length < 100 := by
  have a := prodF_big fs fun x hx => ⟨(h.prime x hx).1, (h.prime x hx).2.1⟩
  have p0 : (0 : Int) < 2 ^ fs.length := Int.pow_pos (by decide)
  have b : prodF fs * 1 ≤ prodF fs * n := Int.mul_le_mul_of_nonneg_left h.pos (by omega)
  rw [h.prod] at b
  rcases Nat.lt_or_ge fs.length 100 with z | z
  · exact z
  · exfalso
    have : (2 : Int) ^ 100 ≤ 2 ^ fs.length := by
      have := Nat.pow_le_pow_right (show 0 < 2 by decide) z
      exact_mod_cast this
    omega
theorem FacInv.start {n : Int} (h : 1 ≤ n) : FacInv n n 2 [] :=
  ⟨h, by omega, by simp [prodF], fun _ h => absurd h List.not_mem_nil, List.Pairwise.nil, fun e h1 h2 => by omega⟩
/-- one divisor: n = m * d ^ e with no d left in m -/
theorem FacInv.next0 {n0 n d : Int} {fs : List (Int × Nat)} (h : FacInv n0 n d fs) (hd : ¬ d ∣ n) : FacInv n0 n (d + 1) fs :=
  ⟨h.pos, by have := h.two; omega, h.prod, fun x hx => ⟨(h.prime x hx).1, (h.prime x hx).2.1, by have := (h.prime x hx).2.2; omega⟩, h.asc, fun e h1 h2 z => by
    by_cases he : e = d
    · rw [he] at z
      exact hd z
    · exact h.none e h1 (by omega) z⟩
theorem FacInv.next {n0 n d m : Int} {e : Nat} {fs : List (Int × Nat)} (h : FacInv n0 n d fs) (he : 0 < e) (hm : m * d ^ e = n) (hm0 : 1 ≤ m) (hd : ¬ d ∣ m) : FacInv n0 m (d + 1) (fs ++ [(d, e)]) := by
  have h2 := h.two
  have dn : d ∣ n := by
    obtain ⟨k, rfl⟩ : ∃ k, e = k + 1 := ⟨e - 1, by omega⟩
    exact ⟨m * d ^ k, by rw [← hm, Int.pow_succ]; grind⟩
  have mn : m ∣ n := ⟨d ^ e, hm.symm⟩
  refine ⟨hm0, by omega, ?_, ?_, ?_, ?_⟩
  · rw [prodF_snoc, ← h.prod, ← hm]
    grind
  · intro x hx
    rcases List.mem_append.mp hx with hx | hx
    · exact ⟨(h.prime x hx).1, (h.prime x hx).2.1, by have := (h.prime x hx).2.2; omega⟩
    · rw [List.mem_singleton.mp hx]
      refine ⟨⟨h2, fun c c1 c2 c3 => h.none c c1 c2 (Int.dvd_trans c3 dn)⟩, he, ?_⟩
      show d < d + 1
      omega
  · rw [List.pairwise_append]
    refine ⟨h.asc, List.pairwise_singleton .., fun a ha b hb => ?_⟩
    rw [List.mem_singleton.mp hb]
    exact (h.prime a ha).2.2
  · intro c c1 c2 c3
    by_cases hc : c = d
    · rw [hc] at c3
      exact hd c3
    · exact h.none c c1 (by omega) (Int.dvd_trans c3 mn)
theorem FacInv.done1 {n0 d : Int} {fs : List (Int × Nat)} (h : FacInv n0 1 d fs) : FacOk n0 fs :=
  ⟨by have := h.prod; omega, fun x hx => ⟨(h.prime x hx).1, (h.prime x hx).2.1⟩, h.asc⟩
theorem FacInv.done {n0 n d : Int} {fs : List (Int × Nat)} (h : FacInv n0 n d fs) (hn : 1 < n) (hd : n < d * d) : FacOk n0 (fs ++ [(n, 1)]) := by
  have hp : QR.Pm n := QR.pm_of_trial (by omega) (by have := h.two; omega) hd h.none
  refine ⟨by rw [prodF_snoc, Int.pow_one]; exact h.prod, ?_, ?_⟩
  · intro x hx
    rcases List.mem_append.mp hx with hx | hx
    · exact ⟨(h.prime x hx).1, (h.prime x hx).2.1⟩
    · rw [List.mem_singleton.mp hx]
      exact ⟨hp, Nat.le_refl 1⟩
  · rw [List.pairwise_append]
    refine ⟨h.asc, List.pairwise_singleton .., fun a ha b hb => ?_⟩
    rw [List.mem_singleton.mp hb]
    have := (h.prime a ha).2.2
    show a.1 < n
    rcases Int.lt_or_le n d with z | z
    · exact absurd (Int.dvd_refl n) (h.none n (by omega) z)
    · omega
/-! part m_core -/
/-- a number without square divisors, times a square -/
structure CoreOk (n s r : Int) : Prop where
  prod : s * r * r = n
  pos : 1 ≤ r
  free : ∀ k : Int, 2 ≤ k → ¬ k * k ∣ s
theorem core_uniq {s r s2 r2 : Int} (hr : 1 ≤ r) (hr2 : 1 ≤ r2) (hf : ∀ k : Int, 2 ≤ k → ¬ k * k ∣ s) (hf2 : ∀ k : Int, 2 ≤ k → ¬ k * k ∣ s2) (e : s * r * r = s2 * r2 * r2) : s = s2 ∧ r = r2 := by
  obtain ⟨a, ha⟩ := Int.gcd_dvd_left r r2
  obtain ⟨b, hb⟩ := Int.gcd_dvd_right r r2
  have g0 : 0 < Int.gcd r r2 := Int.gcd_pos_of_ne_zero_left _ (by omega)
  have hc : Int.gcd a b = 1 := by
    have h1 : Int.gcd ((Int.gcd r r2 : Nat) * a) ((Int.gcd r r2 : Nat) * b) = Int.gcd r r2 := by rw [← ha, ← hb]
    rw [Int.gcd_mul_left] at h1
    have h2 : (((Int.gcd r r2 : Nat)) : Int).natAbs = Int.gcd r r2 := by omega
    rw [h2] at h1
    exact Nat.eq_of_mul_eq_mul_left g0 (by rw [h1, Nat.mul_one])
  generalize hg : (Int.gcd r r2 : Nat) = g at *
  have gp : (0 : Int) < g := by omega
  have a1 : 1 ≤ a := by
    rcases Int.lt_or_le 0 a with z | z
    · exact z
    · have : (g : Int) * a ≤ g * 0 := Int.mul_le_mul_of_nonneg_left z (by omega)
      omega
  have b1 : 1 ≤ b := by
    rcases Int.lt_or_le 0 b with z | z
    · exact z
    · have : (g : Int) * b ≤ g * 0 := Int.mul_le_mul_of_nonneg_left z (by omega)
      omega
  have e2 : s * (a * a) = s2 * (b * b) := by
    refine Int.eq_of_mul_eq_mul_left (a := (g : Int) * g) (by have := Int.mul_pos gp gp; omega) ?_
    rw [ha, hb] at e
    grind
  have hcb : Int.gcd b a = 1 := by rw [Int.gcd_comm]; exact hc
  have da : a * a ∣ s2 := by
    have h1 : a ∣ b * (b * s2) := ⟨s * a, by grind⟩
    obtain ⟨c, hc1⟩ := QR.cop_dvd hcb (QR.cop_dvd hcb h1)
    have h2 : a ∣ b * (b * c) := ⟨s, by
      refine Int.eq_of_mul_eq_mul_left (a := a) (by omega) ?_
      grind⟩
    obtain ⟨d, hd⟩ := QR.cop_dvd hcb (QR.cop_dvd hcb h2)
    exact ⟨d, by rw [hc1, hd, Int.mul_assoc]⟩
  have db : b * b ∣ s := by
    have h1 : b ∣ a * (a * s) := ⟨s2 * b, by grind⟩
    obtain ⟨c, hc1⟩ := QR.cop_dvd hc (QR.cop_dvd hc h1)
    have h2 : b ∣ a * (a * c) := ⟨s2, by
      refine Int.eq_of_mul_eq_mul_left (a := b) (by omega) ?_
      grind⟩
    obtain ⟨d, hd⟩ := QR.cop_dvd hc (QR.cop_dvd hc h2)
    exact ⟨d, by rw [hc1, hd, Int.mul_assoc]⟩
  have ea : a = 1 := by
    rcases Int.lt_or_le a 2 with z | z
    · omega
    · exact absurd da (hf2 a z)
  have eb : b = 1 := by
    rcases Int.lt_or_le b 2 with z | z
    · omega
    · exact absurd db (hf b z)
  subst ea eb
  refine ⟨by omega, by rw [ha, hb]⟩
theorem CoreOk.uniq {n s r s2 r2 : Int} (h : CoreOk n s r) (h2 : CoreOk n s2 r2) : s = s2 ∧ r = r2 := core_uniq h.pos h2.pos h.free h2.free (h.prod.trans h2.prod.symm)
theorem CoreOk.self {n s r : Int} (h : CoreOk n s r) : CoreOk s s 1 := ⟨by omega, by decide, h.free⟩
/-! part m_germ -/
/-- rests modulo m tell no less modulo s -/
def Lv (m : Int) (R : List Int) (s : Int) : Prop := ∀ x y : Int, Int.gcd x m = 1 → Int.gcd y m = 1 → s ∣ x - y → (x % m ∈ R ↔ y % m ∈ R)
/-- the same told by a smaller modulus -/
structure Sub (m : Int) (R : List Int) (m' : Int) (R' : List Int) : Prop where
  dvd : m' ∣ m
  same : ∀ x : Int, Int.gcd x m = 1 → (x % m' ∈ R' ↔ x % m ∈ R)
theorem Sub.refl (m : Int) (R : List Int) : Sub m R m R := ⟨Int.dvd_refl m, fun _ _ => Iff.rfl⟩
theorem Sub.trans {m m1 m2 : Int} {R R1 R2 : List Int} (a : Sub m R m1 R1) (b : Sub m1 R1 m2 R2) : Sub m R m2 R2 := ⟨Int.dvd_trans b.dvd a.dvd, fun x h => (b.same x (QR.cop_dvd_right h a.dvd)).trans (a.same x h)⟩
structure Desc (m : Int) (R S : List Int) : Prop where
  pos : 1 ≤ m
  rests : ∀ r ∈ R, 0 ≤ r ∧ r < m ∧ Int.gcd r m = 1
  singles : ∀ p ∈ S, QR.OP p
def toldP (m : Int) (R : List Int) (p : Int) : Prop := ¬ p ∣ m ∧ p % m ∈ R
instance (m : Int) (R : List Int) (p : Int) : Decidable (toldP m R p) := inferInstanceAs (Decidable (¬ p ∣ m ∧ p % m ∈ R))
def memP (m : Int) (R S : List Int) (p : Int) : Prop := ¬ (toldP m R p ↔ p ∈ S)
instance (m : Int) (R S : List Int) (p : Int) : Decidable (memP m R S p) := inferInstanceAs (Decidable (¬ (toldP m R p ↔ p ∈ S)))
/-- what shortening shows -/
structure Short (m : Int) (R : List Int) (s : Int) (L : List Int) : Prop where
  inc : L.Pairwise (· < ·)
  mem : ∀ k ∈ L, k ∈ uL s
  same : ∀ x : Int, Int.gcd x m = 1 → (x % s ∈ L ↔ x % m ∈ R)
def liftsL (r s q : Int) : List Int := (List.range q.toNat).map fun k : Nat => r + (0 + (k : Int)) * s
def lftL (m r s q : Int) : List Int := (liftsL r s q).filter fun l => decide (Int.gcd l m = 1)
section
variable {m s q r : Int} {R : List Int}
theorem mem_lifts {l : Int} : l ∈ liftsL r s q ↔ ∃ k : Int, 0 ≤ k ∧ k < q ∧ l = r + k * s := by
  unfold liftsL
  rw [List.mem_map]
  constructor
  · rintro ⟨k, hk, rfl⟩
    rw [List.mem_range] at hk
    exact ⟨k, by omega, by omega, by rw [Int.zero_add]⟩
  · rintro ⟨k, a, b, rfl⟩
    exact ⟨k.toNat, List.mem_range.mpr (by omega), by rw [Int.zero_add, show ((k.toNat : Nat) : Int) = k by omega]⟩
theorem lift_bound {k : Int} (hs : 0 < s) (hm : m = s * q) (r0 : 0 ≤ r) (r1 : r < s) (k0 : 0 ≤ k) (k1 : k < q) : 0 ≤ r + k * s ∧ r + k * s < m := by
  have a : 0 ≤ k * s := Int.mul_nonneg k0 (by omega)
  have b : k * s ≤ (q - 1) * s := Int.mul_le_mul_of_nonneg_right (by omega) (by omega)
  have c : (q - 1) * s = s * q - s := by grind
  omega
theorem lift_mod {k : Int} (r0 : 0 ≤ r) (r1 : r < s) : (r + k * s) % s = r := by
  rw [Int.add_mul_emod_self_right, Int.emod_eq_of_lt r0 r1]
/-- a coprime lift there is -/
theorem lft_ne (hq : QR.Pm q) (hs : 0 < s) (hm : m = s * q) (hr : r ∈ uL s) : lftL m r s q ≠ [] := by
  obtain ⟨r0, r1, rc⟩ := mem_uL.mp hr
  have q2 := hq.1
  have c0 : ∀ k : Int, Int.gcd (r + k * s) s = 1 := fun k => (QR.cop_congr (y := r) ⟨k, by rw [Int.mul_comm]; omega⟩).mpr rc
  have : ∃ k : Int, 0 ≤ k ∧ k < q ∧ Int.gcd (r + k * s) m = 1 := by
    by_cases a : q ∣ r
    · refine ⟨1, by omega, by omega, ?_⟩
      rw [hm]
      refine QR.cop_mul (c0 1) (QR.cop_iff.mpr fun p hp b c => ?_)
      have pq : p = q := by
        rcases Int.lt_or_eq_of_le (Int.le_of_dvd (by omega) c) with z | z
        · exact absurd c (hq.2 p hp.1 z)
        · exact z
      subst pq
      have d : p ∣ s := by
        have := Int.dvd_sub b a
        rwa [Int.one_mul, Int.add_comm, Int.add_sub_cancel] at this
      exact QR.cop_iff.mp rc p hp a d
    · refine ⟨0, by omega, by omega, ?_⟩
      rw [hm, Int.zero_mul, Int.add_zero]
      refine QR.cop_mul rc (QR.cop_iff.mpr fun p hp b c => ?_)
      have pq : p = q := by
        rcases Int.lt_or_eq_of_le (Int.le_of_dvd (by omega) c) with z | z
        · exact absurd c (hq.2 p hp.1 z)
        · exact z
      exact a (pq ▸ b)
  obtain ⟨k, k0, k1, kc⟩ := this
  intro e
  have : r + k * s ∈ lftL m r s q := List.mem_filter.mpr ⟨mem_lifts.mpr ⟨k, k0, k1, rfl⟩, decide_eq_true kc⟩
  rw [e] at this
  cases this
theorem lft_prop (hs : 0 < s) (hm : m = s * q) (hr : r ∈ uL s) {l : Int} (hl : l ∈ lftL m r s q) : Int.gcd l m = 1 ∧ l % m = l ∧ l % s = r := by
  obtain ⟨r0, r1, rc⟩ := mem_uL.mp hr
  obtain ⟨a, b⟩ := List.mem_filter.mp hl
  obtain ⟨k, k0, k1, rfl⟩ := mem_lifts.mp a
  obtain ⟨b0, b1⟩ := lift_bound hs hm r0 r1 k0 k1
  exact ⟨of_decide_eq_true b, Int.emod_eq_of_lt b0 b1, lift_mod r0 r1⟩
theorem unit_of (h : s ∣ m) {x : Int} (hs : 0 < s) (hx : Int.gcd x m = 1) : x % s ∈ uL s := mem_uL.mpr ⟨Int.emod_nonneg x (by omega), Int.emod_lt_of_pos x hs, QR.cop_emod.mpr (QR.cop_dvd_right hx h)⟩
/-- kept so far: of the units in us -/
structure Kept (m : Int) (R : List Int) (s : Int) (us L : List Int) : Prop where
  inc : L.Pairwise (· < ·)
  mem : ∀ k ∈ L, k ∈ us
  same : ∀ x : Int, Int.gcd x m = 1 → x % s ∈ us → (x % s ∈ L ↔ x % m ∈ R)
theorem Kept.nil : Kept m R s [] [] := ⟨List.Pairwise.nil, fun _ h => absurd h List.not_mem_nil, fun _ _ h => absurd h List.not_mem_nil⟩
theorem Kept.put {us L : List Int} (h : Kept m R s us L) (hlt : ∀ k ∈ us, k < r) (hall : ∀ x : Int, Int.gcd x m = 1 → x % s = r → x % m ∈ R) : Kept m R s (us ++ [r]) (L ++ [r]) := by
  refine ⟨List.pairwise_append.mpr ⟨h.inc, List.pairwise_singleton .., fun a ha b hb => by rw [List.mem_singleton.mp hb]; exact hlt a (h.mem a ha)⟩, fun k hk => ?_, fun x hx hu => ?_⟩
  · rcases List.mem_append.mp hk with hk | hk
    · exact List.mem_append_left _ (h.mem k hk)
    · exact List.mem_append_right _ hk
  · rcases List.mem_append.mp hu with hu | hu
    · rw [List.mem_append, ← h.same x hx hu, List.mem_singleton]
      refine ⟨fun z => z.elim id fun e => ?_, .inl⟩
      have := hlt _ hu
      omega
    · have e := List.mem_singleton.mp hu
      exact ⟨fun _ => hall x hx e, fun _ => List.mem_append_right _ hu⟩
theorem Kept.skip {us L : List Int} (h : Kept m R s us L) (hlt : ∀ k ∈ us, k < r) (hall : ∀ x : Int, Int.gcd x m = 1 → x % s = r → x % m ∉ R) : Kept m R s (us ++ [r]) L := by
  refine ⟨h.inc, fun k hk => List.mem_append_left _ (h.mem k hk), fun x hx hu => ?_⟩
  rcases List.mem_append.mp hu with hu | hu
  · exact h.same x hx hu
  · have e := List.mem_singleton.mp hu
    refine ⟨fun z => ?_, fun z => absurd z (hall x hx e)⟩
    have := hlt _ (h.mem _ z)
    omega
theorem Kept.done {L : List Int} (h : Kept m R s (uL s) L) (hd : s ∣ m) (hs : 0 < s) : Short m R s L := ⟨h.inc, h.mem, fun x hx => h.same x hx (unit_of hd hs hx)⟩
theorem Short.lv {L : List Int} (h : Short m R s L) : Lv m R s := fun x y hx hy d => by
  rw [← h.same x hx, ← h.same y hy, QR.emod_eq_of_dvd d]
theorem Short.sub {L : List Int} (h : Short m R s L) (hd : s ∣ m) : Sub m R s L := ⟨hd, h.same⟩
/-- what stays told no less by a divisor stays so ahead of a shortening -/
theorem Lv.up {m' s' : Int} {R' : List Int} (h : Sub m R m' R') (l : Lv m' R' s') (hd : s' ∣ s) : Lv m R s := fun x y hx hy d => by
  rw [← h.same x hx, ← h.same y hy]
  exact l x y (QR.cop_dvd_right hx h.dvd) (QR.cop_dvd_right hy h.dvd) (Int.dvd_trans hd d)
end
/-- a single prime changes sides -/
def togL (S : List Int) (p : Int) : List Int := if p ∈ S then S.filter (fun o => !decide (o = p)) else S ++ [p]
theorem mem_tog {S : List Int} {p k : Int} : k ∈ togL S p ↔ if k = p then p ∉ S else k ∈ S := by
  unfold togL
  by_cases h : p ∈ S
  · rw [if_pos h]
    by_cases e : k = p
    · subst e
      simp [h]
    · simp [e]
  · rw [if_neg h]
    by_cases e : k = p
    · subst e
      simp [h]
    · simp [e]
theorem tog_nodup {S : List Int} {p : Int} (h : S.Nodup) : (togL S p).Nodup := by
  unfold togL
  split
  · exact h.filter _
  · rename_i hp
    refine List.nodup_append.mpr ⟨h, by simp, fun a ha b hb e => hp ?_⟩
    rw [List.mem_singleton] at hb
    rw [← hb, ← e]
    exact ha
theorem tog_len {S : List Int} {p : Int} : (togL S p).length ≤ S.length + 1 := by
  unfold togL
  split
  · exact Nat.le_succ_of_le (List.length_filter_le _ _)
  · simp
/-- the singles behind a shortening by q -/
def nextS (m : Int) (L S : List Int) (q : Int) : List Int := if q ≠ 2 ∧ toldP m L q then togL S q else S
/-- an odd prime, or coprime to the modulus -/
def PrOk (m p : Int) : Prop := QR.OP p ∨ (2 ≤ p ∧ Int.gcd p m = 1)
theorem PrOk.two {m p : Int} (h : PrOk m p) : 2 ≤ p := h.elim (fun h => h.1.1) (·.1)
theorem PrOk.cop {m p : Int} (h : PrOk m p) (d : ¬ p ∣ m) : Int.gcd p m = 1 := h.elim (fun h => (QR.pm_cop h.1).mpr d) (·.2)
theorem PrOk.dvd {m m' p : Int} (h : PrOk m p) (d : m' ∣ m) : PrOk m' p := h.imp_right fun h => ⟨h.1, QR.cop_dvd_right h.2 d⟩
theorem PrOk.ndvd {m p : Int} (h2 : 2 ≤ p) (h : Int.gcd p m = 1) : ¬ p ∣ m := fun d => by
  have e := QR.dvd_gcd (Int.dvd_refl p) d
  rw [h] at e
  have := Int.le_of_dvd (by decide) e
  omega
theorem memP_next {m q : Int} {R L S : List Int} (hq : QR.Pm q) (hs : 1 ≤ m / q) (hd : q ∣ m) (h : Short m R (m / q) L) {p : Int} (hp : PrOk m p) : memP (m / q) L (nextS (m / q) L S q) p ↔ memP m R S p := by
  have hm : m = m / q * q := (Int.ediv_mul_cancel hd).symm
  unfold memP nextS
  by_cases e : p = q
  · subst e
    have op : QR.OP p := hp.elim id fun z => absurd hd (PrOk.ndvd z.1 z.2)
    have p2 : p ≠ 2 := fun z => by have := op.2; omega
    have t0 : ¬ toldP m R p := fun z => z.1 hd
    by_cases t : toldP (m / p) L p
    · rw [if_pos ⟨p2, t⟩, mem_tog, if_pos rfl]
      simp [t, t0]
    · rw [if_neg fun z => t z.2]
      simp [t, t0]
  · have td : p ∣ m ↔ p ∣ m / q := by
      constructor
      · intro z
        rcases hp with hp | hp
        · rw [hm] at z
          rcases QR.Pm.dvd_mul hp.1 z with z | z
          · exact z
          · exfalso
            have p2 := hp.1.1
            rcases Int.lt_or_eq_of_le (Int.le_of_dvd (by have := hq.1; omega) z) with y | y
            · exact hq.2 p p2 y z
            · exact e y
        · exact absurd z (PrOk.ndvd hp.1 hp.2)
      · intro z
        rw [hm]
        exact Int.dvd_mul_of_dvd_left z
    have t : toldP (m / q) L p ↔ toldP m R p := by
      unfold toldP
      rw [td]
      by_cases z : p ∣ m / q
      · simp [z]
      · have := h.same p (hp.cop fun y => z (td.mp y))
        simp [z, this]
    rw [t]
    have s : p ∈ (if q ≠ 2 ∧ toldP (m / q) L q then togL S q else S) ↔ p ∈ S := by
      split
      · rw [mem_tog, if_neg e]
      · exact Iff.rfl
    rw [s]
/-! part m_facs -/
theorem pow_dvd {p q : Int} (hp : QR.Pm p) (hq : QR.Pm q) : ∀ e : Nat, p ∣ q ^ e → p = q
  | 0, h => by
    rw [Int.pow_zero] at h
    have := Int.le_of_dvd (by decide) h
    have := hp.1
    omega
  | e + 1, h => by
    rw [Int.pow_succ] at h
    rcases QR.Pm.dvd_mul hp h with h | h
    · exact pow_dvd hp hq e h
    · rcases Int.lt_or_eq_of_le (Int.le_of_dvd (by have := hq.1; omega) h) with z | z
      · exact absurd h (hq.2 p hp.1 z)
      · exact z
theorem prodF_dvd {p : Int} (hp : QR.Pm p) : ∀ {fs : List (Int × Nat)}, (∀ x, x ∈ fs → QR.Pm x.1 ∧ 1 ≤ x.2) → (p ∣ prodF fs ↔ ∃ x ∈ fs, x.1 = p)
  | [], _ => by
    constructor
    · intro h
      have := Int.le_of_dvd (by simp [prodF]) h
      have := hp.1
      simp [prodF] at *
      omega
    · rintro ⟨x, h, _⟩
      cases h
  | y :: fs, h => by
    have ih := prodF_dvd hp (fs := fs) fun x hx => h x (List.mem_cons_of_mem _ hx)
    obtain ⟨y1, y2⟩ := h y List.mem_cons_self
    constructor
    · intro d
      rcases QR.Pm.dvd_mul hp (show p ∣ y.1 ^ y.2 * prodF fs from d) with d | d
      · exact ⟨y, List.mem_cons_self, (pow_dvd hp y1 _ d).symm⟩
      · obtain ⟨x, hx, e⟩ := ih.mp d
        exact ⟨x, List.mem_cons_of_mem _ hx, e⟩
    · rintro ⟨x, hx, e⟩
      show p ∣ y.1 ^ y.2 * prodF fs
      rcases List.mem_cons.mp hx with rfl | hx
      · refine Int.dvd_mul_of_dvd_left ?_
        rw [e]
        obtain ⟨k, hk⟩ : ∃ k, x.2 = k + 1 := ⟨x.2 - 1, by omega⟩
        rw [hk, Int.pow_succ]
        exact Int.dvd_mul_left _ _
      · exact Int.dvd_mul_of_dvd_right (ih.mpr ⟨x, hx, e⟩)
theorem FacOk.mem {n p : Int} {fs : List (Int × Nat)} (h : FacOk n fs) : (∃ x ∈ fs, x.1 = p) ↔ QR.Pm p ∧ p ∣ n := by
  constructor
  · rintro ⟨x, hx, rfl⟩
    have hp := (h.prime x hx).1
    exact ⟨hp, by rw [← h.prod]; exact (prodF_dvd hp h.prime).mpr ⟨x, hx, rfl⟩⟩
  · rintro ⟨hp, d⟩
    rw [← h.prod] at d
    exact (prodF_dvd hp h.prime).mp d
theorem FacOk.len {n : Int} {fs : List (Int × Nat)} (h : FacOk n fs) (hn : n < 2 ^ 99) : fs.length < 100 := by
  have := prodF_big fs h.prime
  rw [h.prod] at this
  rcases Nat.lt_or_ge fs.length 100 with z | z
  · exact z
  · exfalso
    have a : (2 : Nat) ^ 100 ≤ 2 ^ fs.length := Nat.pow_le_pow_right (by decide) z
    have b : ((2 ^ fs.length : Nat) : Int) = 2 ^ fs.length := by rw [Int.natCast_pow]; rfl
    have c : (2 : Int) ^ 99 < ((2 ^ 100 : Nat) : Int) := by decide
    omega
/-! part m_least -/
structure LeastOk (m : Int) (R S : List Int) (m' : Int) (R' S' : List Int) : Prop where
  desc : Desc m' R' S'
  sub : Sub m R m' R'
  rn : R'.Nodup
  sn : S'.Nodup
  mem : ∀ p, PrOk m p → (memP m' R' S' p ↔ memP m R S p)
  len : m' * 2 ^ S'.length ≤ m * 2 ^ S.length
  src : ∀ p ∈ S', p ∈ S ∨ p ∣ m
/-- no divisor of the modulus by one of its primes tells as much -/
def LowAt (m : Int) (R : List Int) (q : Int) : Prop := q ∣ m → ¬ Lv m R (m / q)
theorem LeastOk.refl {m : Int} {R S : List Int} (h : Desc m R S) (rn : R.Nodup) (sn : S.Nodup) : LeastOk m R S m R S := ⟨h, Sub.refl m R, rn, sn, fun _ _ => Iff.rfl, Int.le_refl _, fun _ h => .inl h⟩
section
variable {m m' q : Int} {R S R' S' L : List Int}
theorem div_pos_of {m q : Int} (hm : 1 ≤ m) (hq : 2 ≤ q) (hd : q ∣ m) : 1 ≤ m / q ∧ m / q + 1 ≤ m := by
  have e := Int.ediv_mul_cancel hd
  have a : 1 ≤ m / q := by
    rcases Int.lt_or_le 0 (m / q) with z | z
    · exact z
    · have := Int.mul_le_mul_of_nonneg_right z (show 0 ≤ q by omega)
      omega
  refine ⟨a, ?_⟩
  have := Int.mul_le_mul_of_nonneg_left hq (show 0 ≤ m / q by omega)
  omega
theorem pow2_mono {a b : Nat} (h : a ≤ b) : (2 : Int) ^ a ≤ 2 ^ b := by
  have := Nat.pow_le_pow_right (show 0 < 2 by decide) h
  exact_mod_cast this
theorem LeastOk.next (h : LeastOk m R S m' R' S') (hq : QR.Pm q) (hd : q ∣ m') (k : Short m' R' (m' / q) L) : LeastOk m R S (m' / q) L (nextS (m' / q) L S' q) := by
  have q2 := hq.1
  obtain ⟨s1, s2⟩ := div_pos_of h.desc.pos q2 hd
  refine ⟨⟨s1, fun r hr => ?_, fun p hp => ?_⟩, h.sub.trans (k.sub ⟨q, (Int.ediv_mul_cancel hd).symm⟩), k.inc.imp fun h => by omega, ?_, fun p hp => (memP_next hq s1 hd k (hp.dvd h.sub.dvd)).trans (h.mem p hp), ?_, fun p hp => ?_⟩
  · exact mem_uL.mp (k.mem r hr)
  · unfold nextS at hp
    split at hp
    · rename_i z
      rw [mem_tog] at hp
      by_cases e : p = q
      · exact ⟨e ▸ hq, QR.pm_odd (e ▸ hq) (by omega)⟩
      · rw [if_neg e] at hp
        exact h.desc.singles p hp
    · exact h.desc.singles p hp
  · unfold nextS
    split
    · exact tog_nodup h.sn
    · exact h.sn
  · refine Int.le_trans ?_ h.len
    have a : (2 : Int) ^ (nextS (m' / q) L S' q).length ≤ 2 ^ S'.length * 2 := by
      rw [← Int.pow_succ]
      refine pow2_mono ?_
      unfold nextS
      split
      · exact tog_len
      · omega
    refine Int.le_trans (Int.mul_le_mul_of_nonneg_left a (by omega)) ?_
    rw [Int.mul_comm (2 ^ S'.length), ← Int.mul_assoc]
    refine Int.mul_le_mul_of_nonneg_right ?_ (Int.pow_nonneg (by decide))
    have := Int.mul_le_mul_of_nonneg_left q2 (show 0 ≤ m' / q by omega)
    rw [Int.ediv_mul_cancel hd] at this
    exact this
  · unfold nextS at hp
    split at hp
    · rw [mem_tog] at hp
      by_cases e : p = q
      · exact .inr (e ▸ Int.dvd_trans hd h.sub.dvd)
      · rw [if_neg e] at hp
        exact h.src p hp
    · exact h.src p hp
theorem LeastOk.few (h : LeastOk m R S m' R' S') (hm : m ≤ 4000) : S'.length ≤ S.length + 11 := by
  rcases Nat.lt_or_ge (S.length + 11) S'.length with z | z
  · exfalso
    have a := h.len
    have b : (2 : Int) ^ S.length * 2 ^ 12 ≤ 2 ^ S'.length := by
      rw [← Int.pow_add]
      exact pow2_mono (by omega)
    have c : m * 2 ^ S.length ≤ 4000 * 2 ^ S.length := Int.mul_le_mul_of_nonneg_right hm (Int.pow_nonneg (by decide))
    have d := Int.mul_le_mul_of_nonneg_right h.desc.pos (show (0 : Int) ≤ 2 ^ S'.length from Int.pow_nonneg (by decide))
    have p0 : (0 : Int) < 2 ^ S.length := Int.pow_pos (by decide)
    omega
  · exact z
theorem LowAt.next {q0 : Int} (l : LowAt m' R' q0) (hq : QR.Pm q) (hq0 : QR.Pm q0) (p1 : 1 ≤ m') (hd : q ∣ m') (k : Short m' R' (m' / q) L) : LowAt (m' / q) L q0 := by
  intro d z
  have e := (Int.ediv_mul_cancel hd)
  have d' : q0 ∣ m' := by rw [← e]; exact Int.dvd_mul_of_dvd_left d
  have q2 := hq0.1
  have e2 := Int.ediv_mul_cancel d
  have e3 : m' = m' / q / q0 * q * q0 := by rw [Int.mul_assoc, Int.mul_comm q q0, ← Int.mul_assoc, e2, e]
  exact l d' (Lv.up (k.sub ⟨q, e.symm⟩) z ⟨q, Int.ediv_eq_of_eq_mul_left (by omega) e3⟩)
end
/-- a least description, in order -/
structure IsLeast (m : Int) (R S : List Int) : Prop where
  desc : Desc m R S
  ri : R.Pairwise (· < ·)
  si : S.Pairwise (· < ·)
  low : ∀ q, QR.Pm q → LowAt m R q
/-- what making a set gives -/
structure Made (m : Int) (R S : List Int) (m' : Int) (R' S' : List Int) : Prop where
  least : IsLeast m' R' S'
  sub : Sub m R m' R'
  mem : ∀ p, PrOk m p → (memP m' R' S' p ↔ memP m R S p)
  few : S'.length ≤ S.length + 11
  src : ∀ p ∈ S', p ∈ S ∨ p ∣ m
def SameL (a b : List Int) : Prop := ∀ k, k ∈ a ↔ k ∈ b
theorem Lv.congr {m : Int} {R R' : List Int} {s : Int} (h : SameL R R') : Lv m R s ↔ Lv m R' s := by
  unfold Lv
  exact ⟨fun l x y a b c => by rw [← h, ← h]; exact l x y a b c, fun l x y a b c => by rw [h, h]; exact l x y a b c⟩
theorem toldP_congr {m p : Int} {R R' : List Int} (h : SameL R R') : toldP m R p ↔ toldP m R' p := by
  unfold toldP
  rw [h]
theorem memP_congr {m p : Int} {R R' S S' : List Int} (h : SameL R R') (k : SameL S S') : memP m R S p ↔ memP m R' S' p := by
  unfold memP
  rw [toldP_congr h, k]
/-- a unit of a divisor comes from a unit -/
theorem unit_lift : ∀ (n : Nat) {m s r : Int}, 0 < s → m = s * n → 0 < n → r ∈ uL s → ∃ x, Int.gcd x m = 1 ∧ x % s = r := by
  intro n
  induction n using Nat.strongRecOn with
  | _ n ih =>
    intro m s r hs hm hn hr
    rcases Nat.lt_or_ge n 2 with h | h
    · obtain ⟨r0, r1, rc⟩ := mem_uL.mp hr
      have : n = 1 := by omega
      subst this
      refine ⟨r, ?_, Int.emod_eq_of_lt r0 r1⟩
      rw [hm, show s * ((1 : Nat) : Int) = s by simp]
      exact rc
    · obtain ⟨q, hq, hd⟩ := QR.exists_pm n h
      have q2 := hq.1
      obtain ⟨l, hl⟩ := List.exists_mem_of_ne_nil _ (lft_ne (m := s * q) hq hs rfl hr)
      obtain ⟨c, e1, e2⟩ := lft_prop hs rfl hr hl
      obtain ⟨k, hk⟩ := hd
      have sq : 0 < s * q := Int.mul_pos hs (by omega)
      have k0 : 0 < k := by
        rcases Int.lt_or_le 0 k with z | z
        · exact z
        · have := Int.mul_le_mul_of_nonneg_left z (show 0 ≤ q by omega)
          omega
      have hu : l ∈ uL (s * q) := mem_uL.mpr ⟨by rw [← e1]; exact Int.emod_nonneg _ (by omega), by rw [← e1]; exact Int.emod_lt_of_pos _ sq, c⟩
      have kn : k.toNat < n := by
        have := Int.mul_le_mul_of_nonneg_right q2 (show 0 ≤ k by omega)
        omega
      obtain ⟨x, x1, x2⟩ := ih k.toNat kn sq (show m = s * q * ((k.toNat : Nat) : Int) by rw [hm, hk, show ((k.toNat : Nat) : Int) = k by omega, Int.mul_assoc, Int.mul_comm q k]) (by omega) hu
      refine ⟨x, x1, ?_⟩
      have : x % (s * q) % s = x % s := Int.emod_emod_of_dvd x ⟨q, rfl⟩
      rw [← this, x2, e2]
theorem Sub.lift {m m' : Int} {R R' : List Int} (h : Sub m R m' R') (m1 : 1 ≤ m) (m2 : 1 ≤ m') {r : Int} (hr : r ∈ uL m') : ∃ x, Int.gcd x m = 1 ∧ x % m' = r := by
  obtain ⟨k, hk⟩ := h.dvd
  have k0 : 0 < k := by
    rcases Int.lt_or_le 0 k with z | z
    · exact z
    · have := Int.mul_le_mul_of_nonneg_left z (show 0 ≤ m' by omega)
      omega
  exact unit_lift k.toNat (by omega) (by rw [hk, show ((k.toNat : Nat) : Int) = k by omega]) (by omega) hr
/-! part m_can -/
theorem bez : ∀ (b a : Nat), ∃ u v : Int, (a : Int) * u + b * v = (Nat.gcd a b : Nat) := by
  intro b
  induction b using Nat.strongRecOn with
  | _ b ih =>
    intro a
    rcases Nat.eq_zero_or_pos b with h | h
    · subst h
      exact ⟨1, 0, by simp⟩
    · obtain ⟨u, v, e⟩ := ih (a % b) (Nat.mod_lt _ h) b
      refine ⟨v, u - (a / b : Nat) * v, ?_⟩
      have g : Nat.gcd a b = Nat.gcd b (a % b) := by rw [Nat.gcd_comm a b, Nat.gcd_rec b a, Nat.gcd_comm]
      rw [g, ← e]
      have d : (a : Int) = b * (a / b : Nat) + (a % b : Nat) := by
        have := Nat.div_add_mod a b
        omega
      generalize ((a / b : Nat) : Int) = q at *
      generalize ((a % b : Nat) : Int) = r at *
      rw [d]
      grind
theorem crt {s t x y : Int} (hs : 0 ≤ s) (ht : 0 ≤ t) (h : ((Int.gcd s t : Nat) : Int) ∣ x - y) : ∃ z, s ∣ z - x ∧ t ∣ z - y := by
  obtain ⟨u, v, e⟩ := bez t.toNat s.toNat
  obtain ⟨k, hk⟩ := h
  have g : Nat.gcd s.toNat t.toNat = Int.gcd s t := by
    rw [Int.gcd]
    congr 1 <;> omega
  rw [g, show ((s.toNat : Nat) : Int) = s by omega, show ((t.toNat : Nat) : Int) = t by omega] at e
  rw [← e] at hk
  exact ⟨x - s * u * k, ⟨-(u * k), by grind⟩, ⟨v * k, by grind⟩⟩
theorem lift_of_dvd {m L z : Int} (m1 : 1 ≤ m) (L0 : 0 ≤ L) (d : L ∣ m) (h : Int.gcd z L = 1) : ∃ w, Int.gcd w m = 1 ∧ L ∣ w - z := by
  obtain ⟨k, hk⟩ := d
  have L1 : 0 < L := by
    rcases Int.lt_or_eq_of_le L0 with c | c
    · exact c
    · rw [← c, Int.zero_mul] at hk
      omega
  have k0 : 0 < k := by
    rcases Int.lt_or_le 0 k with c | c
    · exact c
    · have := Int.mul_le_mul_of_nonneg_left c (show 0 ≤ L by omega)
      omega
  obtain ⟨w, w1, w2⟩ := unit_lift k.toNat (m := m) (r := z % L) L1 (by rw [hk, show ((k.toNat : Nat) : Int) = k by omega]) (by omega) (mem_uL.mpr ⟨Int.emod_nonneg _ (by omega), Int.emod_lt_of_pos _ L1, QR.cop_emod.mpr h⟩)
  exact ⟨w, w1, QR.dvd_of_emod_eq w2⟩
section
variable {m s t : Int} {R : List Int}
/-- a unit of the whole with given rests, where they agree -/
theorem meet {x y : Int} (m1 : 1 ≤ m) (s1 : 1 ≤ s) (t1 : 1 ≤ t) (hs : s ∣ m) (ht : t ∣ m) (hx : Int.gcd x m = 1) (hy : Int.gcd y m = 1) (d : ((Int.gcd s t : Nat) : Int) ∣ x - y) : ∃ z, Int.gcd z m = 1 ∧ s ∣ z - x ∧ t ∣ z - y := by
  obtain ⟨z, zx, zy⟩ := crt (by omega) (by omega) d
  have hL : ((Int.lcm s t : Nat) : Int) ∣ m := Int.coe_lcm_dvd hs ht
  have sL : s ∣ ((Int.lcm s t : Nat) : Int) := Int.dvd_lcm_left ..
  have tL : t ∣ ((Int.lcm s t : Nat) : Int) := Int.dvd_lcm_right ..
  have Lst : ((Int.lcm s t : Nat) : Int) ∣ s * t := Int.coe_lcm_dvd (Int.dvd_mul_right ..) (Int.dvd_mul_left ..)
  have lcm0 : (0 : Int) ≤ ((Int.lcm s t : Nat) : Int) := by omega
  generalize ((Int.lcm s t : Nat) : Int) = L at *
  have cz : Int.gcd z L = 1 := QR.cop_iff.mpr fun p hp a b => by
    rcases QR.Pm.dvd_mul hp (Int.dvd_trans b Lst) with c | c
    · refine QR.cop_iff.mp hx p hp ?_ (Int.dvd_trans c hs)
      have := Int.dvd_sub a (Int.dvd_trans c zx)
      rwa [show z - (z - x) = x by omega] at this
    · refine QR.cop_iff.mp hy p hp ?_ (Int.dvd_trans c ht)
      have := Int.dvd_sub a (Int.dvd_trans c zy)
      rwa [show z - (z - y) = y by omega] at this
  obtain ⟨w, w1, w2⟩ := lift_of_dvd m1 lcm0 hL cz
  refine ⟨w, w1, ?_, ?_⟩
  · have := Int.dvd_add (Int.dvd_trans sL w2) zx
    rwa [show w - z + (z - x) = w - x by omega] at this
  · have := Int.dvd_add (Int.dvd_trans tL w2) zy
    rwa [show w - z + (z - y) = w - y by omega] at this
/-- what two divisors tell, their common divisor tells -/
theorem Lv.gcd (m1 : 1 ≤ m) (s1 : 1 ≤ s) (t1 : 1 ≤ t) (hs : s ∣ m) (ht : t ∣ m) (a : Lv m R s) (b : Lv m R t) : Lv m R ((Int.gcd s t : Nat) : Int) := by
  intro x y hx hy d
  obtain ⟨w, w1, w2, w3⟩ := meet m1 s1 t1 hs ht hx hy d
  exact (a w x w1 hx w2).symm.trans (b w y w1 hy w3)
theorem Lv.mono (h : Lv m R s) (d : s ∣ t) : Lv m R t := fun x y hx hy e => h x y hx hy (Int.dvd_trans d e)
/-- told ahead of a shortening, told behind it -/
theorem Lv.down {m' : Int} {R' : List Int} (h : Sub m R m' R') (m1 : 1 ≤ m) (p1 : 1 ≤ m') (l : Lv m R s) (d : s ∣ m') : Lv m' R' s := fun x y hx hy e => by
  obtain ⟨u, u1, u2⟩ := lift_of_dvd m1 (by omega) h.dvd hx
  obtain ⟨v, v1, v2⟩ := lift_of_dvd m1 (by omega) h.dvd hy
  have := l u v u1 v1 (by
    have a := Int.dvd_sub (Int.dvd_add (Int.dvd_trans d u2) e) (Int.dvd_trans d v2)
    rwa [show u - x + (x - y) - (v - y) = u - v by omega] at a)
  rw [← h.same u u1, ← h.same v v1, QR.emod_eq_of_dvd u2, QR.emod_eq_of_dvd v2] at this
  exact this
/-- a least modulus divides each that tells as much -/
theorem low_dvd {m' : Int} {R' : List Int} (h : Sub m R m' R') (m1 : 1 ≤ m) (p1 : 1 ≤ m') (low : ∀ q, QR.Pm q → LowAt m' R' q) (t1 : 1 ≤ t) (ht : t ∣ m) (l : Lv m R t) : m' ∣ t := by
  have lm : Lv m R m' := fun x y hx hy e => by rw [← h.same x hx, ← h.same y hy, QR.emod_eq_of_dvd e]
  have lg := Lv.gcd m1 p1 t1 h.dvd ht lm l
  have gd : ((Int.gcd m' t : Nat) : Int) ∣ m' := Int.gcd_dvd_left ..
  have gt : ((Int.gcd m' t : Nat) : Int) ∣ t := Int.gcd_dvd_right ..
  have g0 : 0 ≤ ((Int.gcd m' t : Nat) : Int) := by omega
  generalize ((Int.gcd m' t : Nat) : Int) = g at *
  obtain ⟨k, hk⟩ := gd
  have k1 : 1 ≤ k := by
    rcases Int.lt_or_le 0 k with c | c
    · omega
    · have := Int.mul_le_mul_of_nonneg_left c g0
      omega
  rcases Int.lt_or_le k 2 with c | c
  · have : k = 1 := by omega
    rw [this, Int.mul_one] at hk
    exact hk ▸ gt
  · exfalso
    obtain ⟨q, hq, qd⟩ := QR.exists_pm k.toNat (by omega)
    rw [show ((k.toNat : Nat) : Int) = k by omega] at qd
    obtain ⟨j, hj⟩ := qd
    have q2 := hq.1
    have e : m' = g * j * q := by rw [hk, hj, Int.mul_assoc, Int.mul_comm q j]
    have md : q ∣ m' := ⟨g * j, by rw [e, Int.mul_comm]⟩
    have mq : m' / q = g * j := Int.ediv_eq_of_eq_mul_left (by omega) e
    refine low q hq md (Lv.down h m1 p1 (Lv.mono lg ⟨j, mq⟩) ⟨q, ?_⟩)
    rw [mq]
    exact e
end
theorem inc_same : ∀ {a b : List Int}, a.Pairwise (· < ·) → b.Pairwise (· < ·) → (∀ k, k ∈ a ↔ k ∈ b) → a = b
  | [], [], _, _, _ => rfl
  | [], y :: b, _, _, h => absurd ((h y).mpr List.mem_cons_self) List.not_mem_nil
  | x :: a, [], _, _, h => absurd ((h x).mp List.mem_cons_self) List.not_mem_nil
  | x :: a, y :: b, ha, hb, h => by
    obtain ⟨a1, a2⟩ := List.pairwise_cons.mp ha
    obtain ⟨b1, b2⟩ := List.pairwise_cons.mp hb
    have e : x = y := by
      rcases List.mem_cons.mp ((h x).mp List.mem_cons_self) with e | m1
      · exact e
      · rcases List.mem_cons.mp ((h y).mpr List.mem_cons_self) with e | m2
        · exact e.symm
        · have := b1 x m1
          have := a1 y m2
          omega
    subst e
    rw [inc_same a2 b2 fun k => ?_]
    constructor
    · intro hk
      rcases List.mem_cons.mp ((h k).mp (List.mem_cons_of_mem _ hk)) with e | z
      · have := a1 k hk
        omega
      · exact z
    · intro hk
      rcases List.mem_cons.mp ((h k).mpr (List.mem_cons_of_mem _ hk)) with e | z
      · have := b1 k hk
        omega
      · exact z
/-- two least descriptions with the same germ and members are one -/
theorem least_unique {M m1 m2 : Int} {R1 R2 S1 S2 : List Int} (M1 : 1 ≤ M) (d1 : m1 ∣ M) (d2 : m2 ∣ M) (l1 : IsLeast m1 R1 S1) (l2 : IsLeast m2 R2 S2) (g : ∀ x, Int.gcd x M = 1 → (x % m1 ∈ R1 ↔ x % m2 ∈ R2)) (mem : ∀ p, QR.OP p → (memP m1 R1 S1 p ↔ memP m2 R2 S2 p)) : m1 = m2 ∧ R1 = R2 ∧ S1 = S2 := by
  have p1 := l1.desc.pos
  have p2 := l2.desc.pos
  have s1 : Sub M ((uL M).filter fun u => decide (u % m1 ∈ R1)) m1 R1 := ⟨d1, fun x hx => by
    rw [List.mem_filter, decide_eq_true_iff, Int.emod_emod_of_dvd x d1]
    exact ⟨fun h => ⟨unit_of (Int.dvd_refl M) (by omega) hx, h⟩, fun h => h.2⟩⟩
  have s2 : Sub M ((uL M).filter fun u => decide (u % m1 ∈ R1)) m2 R2 := ⟨d2, fun x hx => by
    rw [← g x hx, s1.same x hx]⟩
  have lv : ∀ {m' : Int} {R' : List Int}, Sub M ((uL M).filter fun u => decide (u % m1 ∈ R1)) m' R' → Lv M ((uL M).filter fun u => decide (u % m1 ∈ R1)) m' := fun h x y hx hy e => by rw [← h.same x hx, ← h.same y hy, QR.emod_eq_of_dvd e]
  have e : m1 = m2 := Int.le_antisymm (Int.le_of_dvd (by omega) (low_dvd s1 M1 p1 l1.low p2 d2 (lv s2))) (Int.le_of_dvd (by omega) (low_dvd s2 M1 p2 l2.low p1 d1 (lv s1)))
  subst e
  have eR : R1 = R2 := inc_same l1.ri l2.ri fun r => by
    constructor
    · intro hr
      obtain ⟨x, x1, x2⟩ := s1.lift M1 p1 (mem_uL.mpr (l1.desc.rests r hr))
      have := (g x x1).mp (by rw [x2]; exact hr)
      rwa [x2] at this
    · intro hr
      obtain ⟨x, x1, x2⟩ := s1.lift M1 p1 (mem_uL.mpr (l2.desc.rests r hr))
      have := (g x x1).mpr (by rw [x2]; exact hr)
      rwa [x2] at this
  subst eR
  refine ⟨rfl, rfl, inc_same l1.si l2.si fun p => ?_⟩
  by_cases hp : QR.OP p
  · have := mem p hp
    unfold memP at this
    by_cases t : toldP m1 R1 p <;> by_cases a : p ∈ S1 <;> by_cases b : p ∈ S2 <;> simp [t, a, b] at this ⊢
  · exact ⟨fun h => absurd (l1.desc.singles p h) hp, fun h => absurd (l2.desc.singles p h) hp⟩
/-! part m_but -/
/-! part m_k41 -/
theorem mem_none {p : Int} : ¬ memP 1 [] [] p := by simp [memP, toldP]
def RowsOk (ys : List V) (n : Nat) : Prop := ∃ ns : List Int, ys = ns.map V.int ∧ (∀ p ∈ ns, QR.OP p) ∧ ns.length ≤ n
theorem RowsOk.nil : RowsOk [] 0 := ⟨[], rfl, fun p h => absurd h List.not_mem_nil, Nat.le_refl _⟩
theorem RowsOk.put {ys : List V} {n : Nat} {p : Int} (h : RowsOk ys n) (hp : QR.OP p) : RowsOk (ys ++ [.int p]) (n + 1) := by
  obtain ⟨ns, rfl, h1, h2⟩ := h
  refine ⟨ns ++ [p], by rw [List.map_append]; rfl, fun q hq => ?_, by rw [List.length_append, List.length_singleton]; omega⟩
  rcases List.mem_append.mp hq with hq | hq
  · exact h1 q hq
  · rw [List.mem_singleton.mp hq]
    exact hp
theorem RowsOk.skip {ys : List V} {n : Nat} (h : RowsOk ys n) : RowsOk ys (n + 1) := by
  obtain ⟨ns, e, h1, h2⟩ := h
  exact ⟨ns, e, h1, by omega⟩
/-! part m_join -/
/-- a set by what it holds: its modulus divides M, its rests go by g, its primes by P -/
structure Fits (M : Int) (g P : Int → Bool) (m : Int) (R S : List Int) : Prop where
  least : IsLeast m R S
  dvd : m ∣ M
  germ : ∀ x, Int.gcd x M = 1 → decide (x % m ∈ R) = g x
  mem : ∀ p, QR.OP p → decide (memP m R S p) = P p
theorem dec_iff {a b : Prop} [Decidable a] [Decidable b] : decide a = decide b ↔ (a ↔ b) := decide_eq_decide
theorem Fits.eq {M : Int} {g P g' P' : Int → Bool} {m m' : Int} {R S R' S' : List Int} (M1 : 1 ≤ M) (a : Fits M g P m R S) (b : Fits M g' P' m' R' S') (hg : ∀ x, g x = g' x) (hP : ∀ p, P p = P' p) : m = m' ∧ R = R' ∧ S = S' :=
  least_unique M1 a.dvd b.dvd a.least b.least (fun x hx => dec_iff.mp ((a.germ x hx).trans ((hg x).trans (b.germ x hx).symm))) fun p hp => dec_iff.mp ((a.mem p hp).trans ((hP p).trans (b.mem p hp).symm))
/-- two sets joined by a rule -/
structure Comb (J : Bool → Bool → Bool) (m1 : Int) (R1 S1 : List Int) (m2 : Int) (R2 S2 : List Int) (m' : Int) (R' S' : List Int) : Prop where
  least : IsLeast m' R' S'
  dvd : m' ∣ ((Int.lcm m1 m2 : Nat) : Int)
  germ : ∀ x, Int.gcd x ((Int.lcm m1 m2 : Nat) : Int) = 1 → decide (x % m' ∈ R') = J (decide (x % m1 ∈ R1)) (decide (x % m2 ∈ R2))
  mem : ∀ p, QR.OP p → decide (memP m' R' S' p) = J (decide (memP m1 R1 S1 p)) (decide (memP m2 R2 S2 p))
  few : S'.length ≤ S1.length + S2.length + 111
  src : ∀ p ∈ S', p ∈ S1 ∨ p ∈ S2 ∨ p ∣ ((Int.lcm m1 m2 : Nat) : Int)
theorem Comb.fits {J : Bool → Bool → Bool} {M : Int} {g1 P1 g2 P2 : Int → Bool} {m1 m2 m' : Int} {R1 S1 R2 S2 R' S' : List Int} (c : Comb J m1 R1 S1 m2 R2 S2 m' R' S') (a : Fits M g1 P1 m1 R1 S1) (b : Fits M g2 P2 m2 R2 S2) : Fits M (fun x => J (g1 x) (g2 x)) (fun p => J (P1 p) (P2 p)) m' R' S' := by
  have d : ((Int.lcm m1 m2 : Nat) : Int) ∣ M := Int.coe_lcm_dvd a.dvd b.dvd
  exact ⟨c.least, Int.dvd_trans c.dvd d, fun x hx => by rw [c.germ x (QR.cop_dvd_right hx d), a.germ x hx, b.germ x hx], fun p hp => by rw [c.mem p hp, a.mem p hp, b.mem p hp]⟩
/-- the others -/
structure Inv (m : Int) (R S : List Int) (m' : Int) (R' S' : List Int) : Prop where
  least : IsLeast m' R' S'
  dvd : m' ∣ m
  germ : ∀ x, Int.gcd x m = 1 → decide (x % m' ∈ R') = !decide (x % m ∈ R)
  mem : ∀ p, QR.OP p → decide (memP m' R' S' p) = !decide (memP m R S p)
  few : S'.length ≤ S.length + 111
  src : ∀ p ∈ S', p ∈ S ∨ p ∣ m
theorem Inv.fits {M : Int} {g P : Int → Bool} {m m' : Int} {R S R' S' : List Int} (c : Inv m R S m' R' S') (a : Fits M g P m R S) : Fits M (fun x => !g x) (fun p => !P p) m' R' S' :=
  ⟨c.least, Int.dvd_trans c.dvd a.dvd, fun x hx => by rw [c.germ x (QR.cop_dvd_right hx a.dvd), a.germ x hx], fun p hp => by rw [c.mem p hp, a.mem p hp]⟩
theorem Made.fits {M m m' : Int} {R S R' S' : List Int} (h : Made m R S m' R' S') (d : m ∣ M) : Fits M (fun x => decide (x % m ∈ R)) (fun p => decide (memP m R S p)) m' R' S' :=
  ⟨h.least, Int.dvd_trans h.sub.dvd d, fun x hx => dec_iff.mpr (h.sub.same x (QR.cop_dvd_right hx d)), fun p hp => dec_iff.mpr (h.mem p (.inl hp))⟩
theorem IsLeast.fits {M m : Int} {R S : List Int} (h : IsLeast m R S) (d : m ∣ M) : Fits M (fun x => decide (x % m ∈ R)) (fun p => decide (memP m R S p)) m R S := ⟨h, d, fun _ _ => rfl, fun _ _ => rfl⟩
/-- a set as a least description of fair size -/
structure SetOk (m : Int) (R S : List Int) : Prop where
  least : IsLeast m R S
  le : m ≤ 4000
  few : S.length ≤ 1000
  small : ∀ p ∈ S, p < 2 ^ 120
/-- Fits, of a fair size -/
structure Pf (M : Int) (n : Nat) (g P : Int → Bool) (m : Int) (R S : List Int) : Prop where
  fits : Fits M g P m R S
  few : S.length ≤ n
  small : ∀ p ∈ S, p < 2 ^ 120
section
variable {M m1 m2 m' m : Int} {n n1 n2 : Nat} {g P g1 P1 g2 P2 : Int → Bool} {R S R1 S1 R2 S2 R' S' : List Int}
theorem Pf.ok (h : Pf M n g P m R S) (M1 : 1 ≤ M) (M4 : M ≤ 4000) (hn : n ≤ 1000) : SetOk m R S :=
  ⟨h.fits.least, Int.le_trans (Int.le_of_dvd (by omega) h.fits.dvd) M4, Nat.le_trans h.few hn, h.small⟩
theorem Pf.imp {g' P' : Int → Bool} (h : Pf M n g P m R S) (hg : ∀ x, Int.gcd x M = 1 → g x = g' x) (hP : ∀ p, QR.OP p → P p = P' p) : Pf M n g' P' m R S := ⟨⟨h.fits.least, h.fits.dvd, fun x hx => (h.fits.germ x hx).trans (hg x hx), fun p hp => (h.fits.mem p hp).trans (hP p hp)⟩, h.few, h.small⟩
theorem Pf.eq (M1 : 1 ≤ M) (a : Pf M n1 g1 P1 m1 R1 S1) (b : Pf M n2 g2 P2 m2 R2 S2) (hg : ∀ x, g1 x = g2 x) (hP : ∀ p, P1 p = P2 p) : decide (m1 = m2 ∧ R1 = R2 ∧ S1 = S2) = true := decide_eq_true (a.fits.eq M1 b.fits hg hP)
theorem least_nil : IsLeast 1 [] [] := ⟨⟨by decide, fun r h => absurd h List.not_mem_nil, fun p h => absurd h List.not_mem_nil⟩, List.Pairwise.nil, List.Pairwise.nil, fun q hq d => by
  have := Int.le_of_dvd (by decide) d
  have := hq.1
  omega⟩
/-- nothing is in it: no rests, no singles -/
theorem Pf.nil (M1 : 1 ≤ M) (a : Pf M n g P m R S) (hg : ∀ x, g x = false) (hP : ∀ p, P p = false) : R = [] ∧ S = [] := by
  have b : Fits M (fun _ => false) (fun _ => false) 1 [] [] := ⟨least_nil, Int.one_dvd _, fun x _ => by simp, fun p _ => decide_eq_false mem_none⟩
  exact (a.fits.eq M1 b hg hP).2
end
/-! part m_k42 -/
def pLst : List Int := [3, 5, 7, 11, 13, 17, 19, 23, 29, 31, 37, 41, 43, 47, 53, 59]
/-- the least description, as this law finds it -/
structure LowRow (m : Int) (R S : List Int) (d : Int) (L T : List Int) : Prop where
  dvd : d ∣ m
  pos : 1 ≤ d
  first : ∀ e, 1 ≤ e → e < d → e ∣ m → ¬ Lv m R e
  short : Short m R d L
  odd : ∀ p, p ∈ T ↔ p ∈ pLst ∧ ¬ (memP m R S p ↔ toldP d L p)
  inc : T.Pairwise (· < ·)
theorem op3 {p : Int} (hp : QR.OP p) : 3 ≤ p := by
  have := hp.1.1
  have := hp.2
  omega
theorem pLst_all {p : Int} (hp : QR.OP p) (h : p ≤ 60) : p ∈ pLst := by
  have h3 := op3 hp
  have key : ∀ n : Nat, n < 61 → 3 ≤ n → (n : Int) ∈ pLst ∨ n % 2 = 0 ∨ ∃ q, q < n ∧ 2 ≤ q ∧ n % q = 0 := by decide
  obtain ⟨n, rfl⟩ : ∃ n : Nat, p = n := ⟨p.toNat, by omega⟩
  rcases key n (by omega) (by omega) with z | z | ⟨q, q1, q2, q3⟩
  · exact z
  · have := hp.2
    omega
  · exact absurd (Int.ofNat_dvd.mpr (Nat.dvd_of_mod_eq_zero q3)) (hp.1.2 (q : Int) (by omega) (by omega))
theorem pLst_op : ∀ p ∈ pLst, QR.OP p := by
  have q : ∀ p ∈ pLst, p = ((p.toNat : Nat) : Int) ∧ 3 ≤ p.toNat ∧ p.toNat % 2 = 1 ∧ ((List.range 9).any fun k => p.toNat < k * k && (List.range k).all fun d => d < 2 || p.toNat % d != 0) = true := by decide +kernel
  intro p hp
  obtain ⟨e, a, b, c⟩ := q p hp
  obtain ⟨k, _, hk⟩ := List.any_eq_true.mp c
  rw [Bool.and_eq_true] at hk
  rw [e]
  exact QR.op_by k a b (of_decide_eq_true hk.1) hk.2
section
variable {m m' d f r : Int} {R S R' S' L T R2 S2 : List Int}
theorem Sub.rests (a : Sub m R m' R') (b : Sub m R m' L) (m1 : 1 ≤ m) (p1 : 1 ≤ m') (ha : R'.Pairwise (· < ·)) (hb : L.Pairwise (· < ·)) (u : ∀ r ∈ R', r ∈ uL m') (v : ∀ r ∈ L, r ∈ uL m') : R' = L := inc_same ha hb fun r => by
  constructor
  · intro hr
    obtain ⟨x, x1, x2⟩ := a.lift m1 p1 (u r hr)
    have := (b.same x x1).mpr ((a.same x x1).mp (by rw [x2]; exact hr))
    rwa [x2] at this
  · intro hr
    obtain ⟨x, x1, x2⟩ := a.lift m1 p1 (v r hr)
    have := (a.same x x1).mpr ((b.same x x1).mp (by rw [x2]; exact hr))
    rwa [x2] at this
theorem Sub.lv (h : Sub m R m' R') : Lv m R m' := fun x y hx hy e => by rw [← h.same x hx, ← h.same y hy, QR.emod_eq_of_dvd e]
theorem Made.low (h : Made m R S m' R' S') (l : LowRow m R S d L T) (m1 : 1 ≤ m) (m6 : m ≤ 60) (hS : ∀ p ∈ S, p ∈ pLst) : m' = d ∧ R' = L ∧ S' = T := by
  have p1 := h.least.desc.pos
  have e : m' = d := by
    have a := Int.le_of_dvd (by have := l.pos; omega) (low_dvd h.sub m1 p1 h.least.low l.pos l.dvd l.short.lv)
    rcases Int.lt_or_eq_of_le a with z | z
    · exact absurd h.sub.lv (l.first m' p1 z h.sub.dvd)
    · exact z
  subst e
  have eR : R' = L := Sub.rests h.sub (l.short.sub l.dvd) m1 p1 h.least.ri l.short.inc (fun r hr => mem_uL.mpr (h.least.desc.rests r hr)) l.short.mem
  subst eR
  refine ⟨rfl, rfl, inc_same h.least.si l.inc fun p => ?_⟩
  rw [l.odd]
  constructor
  · intro hp
    have op := h.least.desc.singles p hp
    refine ⟨(h.src p hp).elim (hS p) fun z => pLst_all op (by have := Int.le_of_dvd (by omega) z; omega), ?_⟩
    rw [← h.mem p (.inl op)]
    simp [memP, hp]
  · rintro ⟨hp, z⟩
    rw [← h.mem p (.inl (pLst_op p hp))] at z
    unfold memP at z
    by_cases t : toldP m' R' p <;> by_cases s : p ∈ S' <;> simp [t, s] at z ⊢
/-- the same rests and singles, the same set -/
theorem Made.same {m2 : Int} {R0 S0 : List Int} (h : Made m R S m' R' S') (k : Made m R2 S2 m2 R0 S0) (m1 : 1 ≤ m) (e1 : SameL R R2) (e2 : SameL S S2) : m' = m2 ∧ R' = R0 ∧ S' = S0 :=
  least_unique m1 h.sub.dvd k.sub.dvd h.least k.least (fun x hx => by rw [h.sub.same x hx, k.sub.same x hx, e1]) fun p hp => by
    rw [h.mem p (.inl hp), k.mem p (.inl hp), memP_congr e1 e2]
end
/-! part m_chi -/
/-! part m_chi2 -/
/-! part m_sums -/
/-! sums over all hours of a clock -/
namespace QR
end QR
/-- the sum over the hours of a clock -/
def SP (p : Int) (f : Int → Int) : Int := QR.Sm p.toNat fun i => f (i : Int)
section
variable {p a b c k A C n : Int} {f g : Int → Int}
theorem SP.congr (h : ∀ x, 0 ≤ x → x < p → f x = g x) : SP p f = SP p g := QR.Sm_congr _ fun i hi => h i (by omega) (by omega)
theorem SP.same (h : ∀ x, f x = g x) : SP p f = SP p g := SP.congr fun x _ _ => h x
theorem SP.add : SP p (fun x => f x + g x) = SP p f + SP p g := QR.Sm_add ..
theorem SP.mul : SP p (fun x => c * f x) = c * SP p f := QR.Sm_mul ..
def Per (p : Int) (f : Int → Int) : Prop := ∀ x, f (x % p) = f x
theorem Per.of (h : ∀ x y, p ∣ x - y → f x = f y) : Per p f := fun x => h _ _ ⟨-(x / p), by have := Int.mul_ediv_add_emod x p; rw [Int.mul_neg]; omega⟩
/-- one if so, none if not -/
def ind (P : Prop) [Decidable P] : Int := if P then 1 else 0
theorem inv_hour (op : QR.OP p) (ha : ¬ p ∣ a) : ∃ z, p ∣ a * z - 1 := by
  have h3 := op.three
  obtain ⟨h, rfl⟩ := odd_half (by omega) op.2
  obtain ⟨j, _, hj⟩ := QR.solve (op.1.cop ha) (a := 1) fun z => by
    have := Int.le_of_dvd (by decide) z
    omega
  exact ⟨(j : Int) + 1, hj⟩
end
/-! part m_comp -/
/-! forms multiplied -/
/-- what of N is coprime to a -/
theorem cop_part (a : Int) : ∀ (k : Nat) (N : Int), N ≠ 0 → N.natAbs ≤ k → ∃ V : Int, V ≠ 0 ∧ V ∣ N ∧ Int.gcd V a = 1 ∧ ∀ q, QR.Pm q → q ∣ N → ¬ q ∣ a → q ∣ V := by
  intro k
  induction k with
  | zero => intro N h0 h; omega
  | succ k ih =>
    intro N h0 hk
    by_cases g : Int.gcd N a = 1
    · exact ⟨N, h0, Int.dvd_refl N, g, fun q _ hd _ => hd⟩
    · have gd : ((Int.gcd N a : Nat) : Int) ∣ N := Int.gcd_dvd_left ..
      have ga : ((Int.gcd N a : Nat) : Int) ∣ a := Int.gcd_dvd_right ..
      have g0 : Int.gcd N a ≠ 0 := fun z => h0 (Int.gcd_eq_zero_iff.mp z).1
      obtain ⟨M, hM⟩ := gd
      have M0 : M ≠ 0 := fun z => h0 (by rw [hM, z, Int.mul_zero])
      have ab := congrArg Int.natAbs hM
      rw [Int.natAbs_mul, Int.natAbs_natCast] at ab
      have : 2 * M.natAbs ≤ Int.gcd N a * M.natAbs := Nat.mul_le_mul_right _ (by omega)
      obtain ⟨V, v0, vd, vc, vq⟩ := ih M M0 (by omega)
      refine ⟨V, v0, Int.dvd_trans vd ⟨_, hM.trans (Int.mul_comm ..)⟩, vc, fun q hq hd ha => vq q hq ?_ ha⟩
      rw [hM] at hd
      exact (QR.Pm.dvd_mul hq hd).resolve_left fun z => ha (Int.dvd_trans z ga)
def Fm.prim (f : Fm) : Prop := Int.gcd ((Int.gcd f.a f.b : Nat) : Int) f.c = 1
theorem Fm.prim.not {f : Fm} (h : f.prim) {q : Int} (hq : QR.Pm q) (a : q ∣ f.a) (b : q ∣ f.b) (c : q ∣ f.c) : False := by
  have := (gcd3_dvd (k := q.toNat) (f := f)).mpr (by
    have := hq.1
    rw [show ((q.toNat : Nat) : Int) = q by omega]
    exact ⟨a, b, c⟩)
  unfold Fm.prim at h
  rw [h] at this
  have := Nat.le_of_dvd (by decide) this
  have := hq.1
  omega
theorem Fm.prim.eqv {f g : Fm} (h : f.prim) (e : f.eqv g) : g.prim := (gcd3_eqv e).symm.trans h
/-- a point with a value coprime to N -/
theorem Fm.prim.point {f : Fm} (h : f.prim) {N : Int} (hN : N ≠ 0) : ∃ x y : Int, Int.gcd x y = 1 ∧ Int.gcd (f.at x y) N = 1 := by
  obtain ⟨V, v0, vd, vc, vq⟩ := cop_part f.a N.natAbs N hN (Nat.le_refl _)
  obtain ⟨W, w0, wd, wc, wq⟩ := cop_part V N.natAbs N hN (Nat.le_refl _)
  obtain ⟨U, u0, ud, uc, uq⟩ := cop_part f.c W.natAbs W w0 (Nat.le_refl _)
  have cuv : ∀ q, QR.Pm q → q ∣ U → ¬ q ∣ V := fun q hq a b => QR.cop_iff.mp wc q hq (Int.dvd_trans a ud) b
  refine ⟨U, V, QR.cop_iff.mpr cuv, QR.cop_iff.mpr fun q hq hd hn => ?_⟩
  unfold Fm.at at hd
  by_cases ha : q ∣ f.a
  · have nV : ¬ q ∣ V := fun z => QR.cop_iff.mp vc q hq z ha
    have hW : q ∣ W := wq q hq hn nV
    by_cases hc : q ∣ f.c
    · have nU : ¬ q ∣ U := fun z => QR.cop_iff.mp uc q hq z hc
      have nb : ¬ q ∣ f.b := fun z => h.not hq ha z hc
      have d1 : q ∣ f.a * U * U := Int.dvd_mul_of_dvd_left (Int.dvd_mul_of_dvd_left ha)
      have d2 : q ∣ f.c * V * V := Int.dvd_mul_of_dvd_left (Int.dvd_mul_of_dvd_left hc)
      have d3 : q ∣ f.b * U * V := by
        have := Int.dvd_sub (Int.dvd_sub hd d1) d2
        rwa [show f.a * U * U + f.b * U * V + f.c * V * V - f.a * U * U - f.c * V * V = f.b * U * V by omega] at this
      rcases QR.Pm.dvd_mul hq d3 with z | z
      · rcases QR.Pm.dvd_mul hq z with z | z
        · exact nb z
        · exact nU z
      · exact nV z
    · have hU : q ∣ U := uq q hq hW hc
      have d1 : q ∣ f.a * U * U := Int.dvd_mul_of_dvd_right hU
      have d2 : q ∣ f.b * U * V := Int.dvd_mul_of_dvd_left (Int.dvd_mul_of_dvd_right hU)
      have d3 : q ∣ f.c * V * V := by
        have := Int.dvd_sub (Int.dvd_sub hd d1) d2
        rwa [show f.a * U * U + f.b * U * V + f.c * V * V - f.a * U * U - f.b * U * V = f.c * V * V by omega] at this
      rcases QR.Pm.dvd_mul hq d3 with z | z
      · rcases QR.Pm.dvd_mul hq z with z | z
        · exact hc z
        · exact nV z
      · exact nV z
  · have hV : q ∣ V := vq q hq hn ha
    have nU : ¬ q ∣ U := fun z => cuv q hq z hV
    have d2 : q ∣ f.b * U * V := Int.dvd_mul_of_dvd_right hV
    have d3 : q ∣ f.c * V * V := Int.dvd_mul_of_dvd_right hV
    have d1 : q ∣ f.a * U * U := by
      have := Int.dvd_sub (Int.dvd_sub hd d3) d2
      rwa [show f.a * U * U + f.b * U * V + f.c * V * V - f.c * V * V - f.b * U * V = f.a * U * U by omega] at this
    rcases QR.Pm.dvd_mul hq d1 with z | z
    · rcases QR.Pm.dvd_mul hq z with z | z
      · exact ha z
      · exact nU z
    · exact nU z
theorem bezI {x y : Int} (h : Int.gcd x y = 1) : ∃ u v : Int, x * u + y * v = 1 := by
  obtain ⟨u, v, e⟩ := bez y.natAbs x.natAbs
  rw [show Nat.gcd x.natAbs y.natAbs = 1 from h] at e
  rcases Int.natAbs_eq x with a | a <;> rcases Int.natAbs_eq y with b | b
  · exact ⟨u, v, by rw [a, b]; exact e⟩
  · exact ⟨u, -v, by rw [a, b, Int.neg_mul_neg]; exact e⟩
  · exact ⟨-u, v, by rw [a, b, Int.neg_mul_neg]; exact e⟩
  · exact ⟨-u, -v, by rw [a, b, Int.neg_mul_neg, Int.neg_mul_neg]; exact e⟩
/-- a form whose first number is a value at coprime integers -/
theorem Fm.eqv_at (f : Fm) {x y : Int} (h : Int.gcd x y = 1) : ∃ g : Fm, f.eqv g ∧ g.a = f.at x y := by
  obtain ⟨u, v, e⟩ := bezI h
  exact ⟨f.act x (-v) y u, ⟨x, -v, y, u, by grind, rfl⟩, rfl⟩
theorem Fm.at_pos {f : Fm} (h : f.ok) {x y : Int} (hxy : x ≠ 0 ∨ y ≠ 0) : 1 ≤ f.at x y := by
  have e := f.at_D x y
  have a1 := h.1
  have d := h.2
  refine Classical.byContradiction fun n => ?_
  have l : 4 * f.a * f.at x y ≤ 0 := by
    have : f.at x y ≤ 0 := by omega
    have := Int.mul_le_mul_of_nonneg_left this (show 0 ≤ 4 * f.a by omega)
    omega
  have s1 := sq_nonneg (2 * f.a * x + f.b * y)
  have s2 := sq_nonneg y
  have s3 : 0 ≤ -f.D * (y * y) := Int.mul_nonneg (by omega) s2
  have e2 : -f.D * (y * y) = -(f.D * (y * y)) := by grind
  have z1 : (2 * f.a * x + f.b * y) * (2 * f.a * x + f.b * y) = 0 := by omega
  have z2 : -f.D * (y * y) = 0 := by omega
  have y0 : y = 0 := by
    rcases Int.mul_eq_zero.mp z2 with z | z
    · omega
    · rcases Int.mul_eq_zero.mp z with z | z <;> exact z
  have x0 : x = 0 := by
    rw [y0] at z1
    have : 2 * f.a * x + f.b * 0 = 0 := by rcases Int.mul_eq_zero.mp z1 with z | z <;> exact z
    have : 2 * f.a * x = 0 := by omega
    rcases Int.mul_eq_zero.mp this with z | z
    · omega
    · exact z
  rcases hxy with z | z
  · exact z x0
  · exact z y0
theorem Fm.prim.rep {f : Fm} (h : f.prim) (ho : f.ok) {N : Int} (hN : N ≠ 0) : ∃ g : Fm, f.eqv g ∧ 1 ≤ g.a ∧ Int.gcd g.a N = 1 := by
  obtain ⟨x, y, hxy, hc⟩ := h.point hN
  obtain ⟨g, e, ha⟩ := f.eqv_at hxy
  refine ⟨g, e, ?_, by rw [ha]; exact hc⟩
  rw [ha]
  refine Fm.at_pos ho ?_
  by_cases x0 : x = 0
  · right
    intro y0
    rw [x0, y0] at hxy
    exact absurd hxy (by decide)
  · exact .inl x0
theorem Fm.shift_eqv (f : Fm) (t : Int) : f.eqv ⟨f.a, f.b + 2 * f.a * t, f.a * t * t + f.b * t + f.c⟩ := ⟨1, t, 0, 1, by omega, Fm.ext' (by simp [Fm.act]) (by simp [Fm.act]; omega) (by simp [Fm.act])⟩
/-- the same class by another middle number -/
theorem Fm.mid_eqv {f : Fm} (ha : f.a ≠ 0) {B : Int} (h : 2 * f.a ∣ B - f.b) : ∃ C, f.eqv ⟨f.a, B, C⟩ ∧ B * B - 4 * f.a * C = f.D := by
  obtain ⟨t, ht⟩ := h
  have eB : B = f.b + 2 * f.a * t := by omega
  refine ⟨f.a * t * t + f.b * t + f.c, by rw [eB]; exact f.shift_eqv t, ?_⟩
  rw [eB]
  unfold Fm.D
  grind
theorem Fm.D_par (f : Fm) : (2 : Int) ∣ f.D - f.b := by
  have e : f.D - f.b = f.b * (f.b - 1) - 2 * (2 * f.a * f.c) := by unfold Fm.D; grind
  rw [e]
  refine Int.dvd_sub ?_ (Int.dvd_mul_right ..)
  rcases Int.emod_two_eq f.b with z | z
  · exact Int.dvd_mul_of_dvd_left (Int.dvd_of_emod_eq_zero z)
  · exact Int.dvd_mul_of_dvd_right (Int.dvd_of_emod_eq_zero (by omega))
theorem gcd_two_mul {n m : Int} (h : Int.gcd n m = 1) : Int.gcd (2 * n) (2 * m) = 2 := by
  rw [Int.gcd_mul_left, h]
  rfl
/-- a middle number for two -/
theorem mid_two {n m b e : Int} (h0 : 1 ≤ n) (h1 : 1 ≤ m) (h : Int.gcd n m = 1) (p : (2 : Int) ∣ b - e) : ∃ B, 2 * n ∣ B - b ∧ 2 * m ∣ B - e := by
  obtain ⟨z, hz⟩ := crt (s := 2 * n) (t := 2 * m) (x := b) (y := e) (by omega) (by omega) (by rw [gcd_two_mul h]; exact p)
  exact ⟨z, hz⟩
/-- two forms side by side -/
theorem Fm.two {f g : Fm} (hD : f.D = g.D) (fa : 1 ≤ f.a) (ga : 1 ≤ g.a) (hc : Int.gcd f.a g.a = 1) : ∃ B c : Int, f.eqv ⟨f.a, B, g.a * c⟩ ∧ g.eqv ⟨g.a, B, f.a * c⟩ := by
  have p : (2 : Int) ∣ f.b - g.b := by
    have := Int.dvd_sub g.D_par f.D_par
    rw [hD] at this
    rwa [show g.D - g.b - (g.D - f.b) = f.b - g.b by omega] at this
  obtain ⟨B, h1, h2⟩ := mid_two fa ga hc p
  obtain ⟨C1, e1, d1⟩ := Fm.mid_eqv (f := f) (by omega) h1
  obtain ⟨C2, e2, d2⟩ := Fm.mid_eqv (f := g) (by omega) h2
  have e : f.a * C1 = g.a * C2 := by
    have : 4 * f.a * C1 = 4 * (f.a * C1) := by grind
    have : 4 * g.a * C2 = 4 * (g.a * C2) := by grind
    omega
  obtain ⟨c, hc1⟩ : g.a ∣ C1 := QR.cop_dvd hc ⟨C2, e⟩
  refine ⟨B, c, by rw [← hc1]; exact e1, ?_⟩
  have : C2 = f.a * c := by
    rw [hc1] at e
    have e3 : g.a * (f.a * c) = g.a * C2 := by rw [← e]; grind
    exact (Int.eq_of_mul_eq_mul_left (by omega) e3).symm
  rw [← this]
  exact e2
/-- one factor changed -/
theorem eqv_swap {n m k B c e : Int} (h0 : m ≠ 0) (h1 : Int.gcd n m = 1) (h : (⟨n, B, m * c⟩ : Fm).eqv ⟨k, B, m * e⟩) : (⟨n * m, B, c⟩ : Fm).eqv ⟨k * m, B, e⟩ := by
  obtain ⟨p, q, r, s, dt, hg⟩ := h
  have ea : k = n * p * p + B * p * r + m * c * r * r := congrArg Fm.a hg
  have eb : B = 2 * n * p * q + B * (p * s + q * r) + 2 * (m * c) * r * s := congrArg Fm.b hg
  have ec : m * e = n * q * q + B * q * s + m * c * s * s := congrArg Fm.c hg
  have k1 : n * p * q + B * q * r + m * c * r * s = 0 := by
    have : p * s + q * r = 1 + 2 * (q * r) := by omega
    rw [this] at eb
    have e2 : 2 * (n * p * q + B * q * r + m * c * r * s) = 0 := by grind
    omega
  have k2 : n * q = m * (s * (-(c * r * s)) - r * (e - c * s * s)) := by
    have : n * q = n * q * (p * s - q * r) := by rw [dt, Int.mul_one]
    rw [this]
    have a1 : n * p * q + B * q * r = -(m * c * r * s) := by omega
    have a2 : n * q * q + B * q * s = m * e - m * c * s * s := by omega
    have : n * q * (p * s - q * r) = s * (n * p * q + B * q * r) - r * (n * q * q + B * q * s) := by grind
    rw [this, a1, a2]
    grind
  obtain ⟨t, ht⟩ : m ∣ q := QR.cop_dvd h1 ⟨_, k2⟩
  refine ⟨p, t, m * r, s, by rw [← dt, ht]; grind, Fm.ext' ?_ ?_ ?_⟩
  · simp only [Fm.act]
    rw [ea]
    grind
  · simp only [Fm.act]
    rw [eb, ht]
    grind
  · simp only [Fm.act]
    refine Int.eq_of_mul_eq_mul_left h0 ?_
    rw [ec, ht]
    grind
/-- a product of two forms -/
def Fm.cmp (f g h : Fm) : Prop := ∃ n m B c : Int, 1 ≤ n ∧ 1 ≤ m ∧ Int.gcd n m = 1 ∧ f.eqv ⟨n, B, m * c⟩ ∧ g.eqv ⟨m, B, n * c⟩ ∧ h.eqv ⟨n * m, B, c⟩
theorem gcd_c {a b : Int} : Int.gcd a b = Int.gcd b a := Int.gcd_comm a b
theorem Fm.cmp.symm {f g h : Fm} (x : f.cmp g h) : g.cmp f h := by
  obtain ⟨n, m, B, c, h1, h2, h3, h4, h5, h6⟩ := x
  exact ⟨m, n, B, c, h2, h1, by rw [gcd_c]; exact h3, h5, h4, by rw [Int.mul_comm]; exact h6⟩
theorem Fm.cmp.congr {f g h f' g' h' : Fm} (x : f.cmp g h) (a : f'.eqv f) (b : g'.eqv g) (c : h'.eqv h) : f'.cmp g' h' := by
  obtain ⟨n, m, B, e, h1, h2, h3, h4, h5, h6⟩ := x
  exact ⟨n, m, B, e, h1, h2, h3, a.trans h4, b.trans h5, c.trans h6⟩
theorem Fm.cmp.D {f g h : Fm} (x : f.cmp g h) : f.D = h.D ∧ g.D = h.D := by
  obtain ⟨n, m, B, e, h1, h2, h3, h4, h5, h6⟩ := x
  rw [← h4.D, ← h5.D, ← h6.D]
  unfold Fm.D
  exact ⟨by grind, by grind⟩
theorem mid_all {n m k B b c : Int} {f' : Fm} (n1 : 1 ≤ n) (m1 : 1 ≤ m) (k1 : 1 ≤ k) (hk : f'.a = k) (hc : Int.gcd k (n * m) = 1) (hD : f'.D = B * B - 4 * (n * m) * c) :
    ∃ B' c', 2 * (n * m) ∣ B' - B ∧ 2 * k ∣ B' - f'.b ∧ f'.eqv ⟨k, B', m * (n * c')⟩ ∧ (⟨n, B, m * c⟩ : Fm).eqv ⟨n, B', m * (k * c')⟩ ∧ (⟨m, B, n * c⟩ : Fm).eqv ⟨m, B', k * (n * c')⟩ ∧ (⟨n * m, B, c⟩ : Fm).eqv ⟨n * m, B', k * c'⟩ := by
  have nm : 1 ≤ n * m := Int.mul_pos (show 0 < n by omega) (show 0 < m by omega)
  have D1 : (⟨n * m, B, c⟩ : Fm).D = f'.D := by rw [hD]; rfl
  have p : (2 : Int) ∣ f'.b - B := by
    have := Int.dvd_sub (Fm.D_par ⟨n * m, B, c⟩) f'.D_par
    rw [D1] at this
    rwa [show f'.D - B - (f'.D - f'.b) = f'.b - B by omega] at this
  obtain ⟨B', h2, h1⟩ := mid_two k1 nm hc p
  obtain ⟨C1, e1, d1⟩ := Fm.mid_eqv (f := ⟨n, B, m * c⟩) (B := B') (show n ≠ 0 by omega) (Int.dvd_trans ⟨m, by grind⟩ h1)
  obtain ⟨C2, e2, d2⟩ := Fm.mid_eqv (f := ⟨m, B, n * c⟩) (B := B') (show m ≠ 0 by omega) (Int.dvd_trans ⟨n, by grind⟩ h1)
  obtain ⟨C3, e3, d3⟩ := Fm.mid_eqv (f := ⟨n * m, B, c⟩) (B := B') (show n * m ≠ 0 by omega) h1
  obtain ⟨C4, e4, d4⟩ := Fm.mid_eqv (f := f') (B := B') (by rw [hk]; omega) (by rw [hk]; exact h2)
  replace e1 : (⟨n, B, m * c⟩ : Fm).eqv ⟨n, B', C1⟩ := e1
  replace e2 : (⟨m, B, n * c⟩ : Fm).eqv ⟨m, B', C2⟩ := e2
  replace e3 : (⟨n * m, B, c⟩ : Fm).eqv ⟨n * m, B', C3⟩ := e3
  rw [hk] at e4 d4
  replace d1 : B' * B' - 4 * n * C1 = B * B - 4 * n * (m * c) := d1
  replace d2 : B' * B' - 4 * m * C2 = B * B - 4 * m * (n * c) := d2
  replace d3 : B' * B' - 4 * (n * m) * C3 = B * B - 4 * (n * m) * c := d3
  rw [hD] at d4
  have e : k * C4 = n * m * C3 := by
    have : 4 * (k * C4) = 4 * (n * m * C3) := by grind
    omega
  obtain ⟨c', hc3⟩ : k ∣ C3 := QR.cop_dvd (b := n * m) (by rw [gcd_c]; exact hc) ⟨C4, e.symm⟩
  have x1 : C1 = m * (k * c') := by
    refine Int.eq_of_mul_eq_mul_left (show n ≠ 0 by omega) ?_
    rw [hc3] at d3
    have : 4 * (n * C1) = 4 * (n * (m * (k * c'))) := by grind
    omega
  have x2 : C2 = k * (n * c') := by
    refine Int.eq_of_mul_eq_mul_left (show m ≠ 0 by omega) ?_
    rw [hc3] at d3
    have : 4 * (m * C2) = 4 * (m * (k * (n * c'))) := by grind
    omega
  have x4 : C4 = m * (n * c') := by
    refine Int.eq_of_mul_eq_mul_left (show k ≠ 0 by omega) ?_
    rw [e, hc3]
    grind
  rw [x1] at e1
  rw [x2] at e2
  rw [hc3] at e3
  rw [x4] at e4
  exact ⟨B', c', h1, h2, e4, e1, e2, e3⟩
/-- a product by another factor in the first place -/
theorem Fm.cmp_change {f g h : Fm} {n m B c : Int} (n1 : 1 ≤ n) (m1 : 1 ≤ m) (hc : Int.gcd n m = 1) (hf : f.eqv ⟨n, B, m * c⟩) (hg : g.eqv ⟨m, B, n * c⟩) (hh : h.eqv ⟨n * m, B, c⟩) {f' : Fm} (k1 : 1 ≤ f'.a) (e : f.eqv f') (kn : Int.gcd f'.a (n * m) = 1) :
    ∃ B' c' : Int, 2 * m ∣ B' - B ∧ 2 * f'.a ∣ B' - f'.b ∧ f.eqv ⟨f'.a, B', m * c'⟩ ∧ g.eqv ⟨m, B', f'.a * c'⟩ ∧ h.eqv ⟨f'.a * m, B', c'⟩ := by
  obtain ⟨B', c', a1, a2, a3, a4, a5, a6⟩ := mid_all (f' := f') (k := f'.a) (n := n) (m := m) (B := B) (c := c) (b := 0) n1 m1 k1 rfl kn (by rw [e.D, ← hf.D]; unfold Fm.D; grind)
  refine ⟨B', n * c', Int.dvd_trans ⟨n, by grind⟩ a1, a2, e.trans a3, hg.trans a5, hh.trans (a6.trans ?_)⟩
  exact eqv_swap (by omega) hc ((a4.symm.trans hf.symm).trans (e.trans a3))
theorem gcd_mul_l {a b c : Int} (h : Int.gcd a (b * c) = 1) : Int.gcd a b = 1 := QR.cop_dvd_right h (Int.dvd_mul_right ..)
theorem gcd_mul_r {a b c : Int} (h : Int.gcd a (b * c) = 1) : Int.gcd a c = 1 := QR.cop_dvd_right h (Int.dvd_mul_left ..)
theorem Fm.same_mid {h h' : Fm} {N B B' c c' : Int} (hN : 1 ≤ N) (hD : h.D = h'.D) (a : h.eqv ⟨N, B, c⟩) (b : h'.eqv ⟨N, B', c'⟩) (d : 2 * N ∣ B' - B) : h.eqv h' := by
  obtain ⟨C, e, dd⟩ := Fm.mid_eqv (f := ⟨N, B, c⟩) (B := B') (show N ≠ 0 by omega) d
  replace e : (⟨N, B, c⟩ : Fm).eqv ⟨N, B', C⟩ := e
  have d1 : (⟨N, B', c'⟩ : Fm).D = (⟨N, B', C⟩ : Fm).D := by rw [b.D, e.D, a.D, hD]
  have : c' = C := by
    unfold Fm.D at d1
    dsimp only at d1
    refine Int.eq_of_mul_eq_mul_left (show N ≠ 0 by omega) ?_
    have : 4 * (N * c') = 4 * (N * C) := by grind
    omega
  rw [← this] at e
  exact a.trans (e.trans b.symm)
/-- the product does not depend on the choices -/
theorem Fm.cmp.uniq {f g h h' : Fm} (fo : f.ok) (go : g.ok) (fp : f.prim) (gp : g.prim) (x : f.cmp g h) (y : f.cmp g h') : h.eqv h' := by
  have hD : h.D = h'.D := x.D.1.symm.trans y.D.1
  obtain ⟨n, m, B, c, n1, m1, nm, x1, x2, x3⟩ := x
  obtain ⟨n', m', B', c', n1', m1', nm', y1, y2, y3⟩ := y
  obtain ⟨f1, ef, f1a, f1c⟩ := fp.rep fo (N := n * m * (n' * m')) (fun z => by
    rcases Int.mul_eq_zero.mp z with z | z <;> rcases Int.mul_eq_zero.mp z with z | z <;> omega)
  obtain ⟨B1, c1, p1, p2, p3, p4, p5⟩ := Fm.cmp_change n1 m1 nm x1 x2 x3 f1a ef (gcd_mul_l f1c)
  obtain ⟨B2, c2, q1, q2, q3, q4, q5⟩ := Fm.cmp_change n1' m1' nm' y1 y2 y3 f1a ef (gcd_mul_r f1c)
  have c1m : Int.gcd f1.a m = 1 := gcd_mul_r (gcd_mul_l f1c)
  have c1m' : Int.gcd f1.a m' = 1 := gcd_mul_r (gcd_mul_r f1c)
  obtain ⟨g1, eg, g1a, g1c⟩ := gp.rep go (N := f1.a * (m * m')) (fun z => by
    rcases Int.mul_eq_zero.mp z with z | z
    · omega
    · rcases Int.mul_eq_zero.mp z with z | z <;> omega)
  have g2 : Int.gcd g1.a (m * f1.a) = 1 := QR.cop_mul (gcd_mul_l (gcd_mul_r g1c)) (gcd_mul_l g1c)
  have g3 : Int.gcd g1.a (m' * f1.a) = 1 := QR.cop_mul (gcd_mul_r (gcd_mul_r g1c)) (gcd_mul_l g1c)
  obtain ⟨B3, c3, r1, r2, r3, r4, r5⟩ := Fm.cmp_change m1 f1a (by rw [gcd_c]; exact c1m) p4 p3 (by rw [Int.mul_comm]; exact p5) g1a eg g2
  obtain ⟨B4, c4, s1, s2, s3, s4, s5⟩ := Fm.cmp_change m1' f1a (by rw [gcd_c]; exact c1m') q4 q3 (by rw [Int.mul_comm]; exact q5) g1a eg g3
  refine Fm.same_mid (Int.mul_pos (show 0 < g1.a by omega) (show 0 < f1.a by omega)) hD r5 s5 ?_
  have d1 : 2 * g1.a ∣ B4 - B3 := by
    have := Int.dvd_sub s2 r2
    rwa [show B4 - g1.b - (B3 - g1.b) = B4 - B3 by omega] at this
  have d2 : 2 * f1.a ∣ B4 - B3 := by
    have := Int.dvd_sub (Int.dvd_add s1 q2) (Int.dvd_add r1 p2)
    rwa [show B4 - B2 + (B2 - f1.b) - (B3 - B1 + (B1 - f1.b)) = B4 - B3 by omega] at this
  obtain ⟨u, hu⟩ := d1
  have d3 : f1.a ∣ g1.a * u := by
    obtain ⟨v, hv⟩ := d2
    refine ⟨v, ?_⟩
    have : 2 * (g1.a * u) = 2 * (f1.a * v) := by grind
    omega
  obtain ⟨v, hv⟩ := QR.cop_dvd (gcd_mul_l g1c) d3
  exact ⟨v, by rw [hu, hv]; grind⟩
/-- there is a product -/
theorem Fm.cmp.ex {f g : Fm} (fo : f.ok) (go : g.ok) (gp : g.prim) (hD : f.D = g.D) : ∃ h : Fm, f.cmp g h ∧ h.ok := by
  obtain ⟨g1, eg, g1a, g1c⟩ := gp.rep go (N := f.a) (by have := fo.1; omega)
  obtain ⟨B, c, e1, e2⟩ := Fm.two (f := f) (g := g1) (hD.trans eg.D.symm) fo.1 g1a (by rw [gcd_c]; exact g1c)
  refine ⟨⟨f.a * g1.a, B, c⟩, ⟨f.a, g1.a, B, c, fo.1, g1a, by rw [gcd_c]; exact g1c, e1, eg.trans e2, Fm.eqv.refl _⟩, Int.mul_pos (show 0 < f.a from by have := fo.1; omega) (show 0 < g1.a by omega), ?_⟩
  have : (⟨f.a * g1.a, B, c⟩ : Fm).D = f.D := by rw [← e1.D]; unfold Fm.D; grind
  rw [this]
  exact fo.2
/-! part m_comp2 -/
/-! the classes of forms: products of values, three factors, the unit, the opposite -/
theorem Fm.eqv.at {f g : Fm} (e : f.eqv g) (x y : Int) : ∃ u v, g.at u v = f.at x y := by
  obtain ⟨p, q, r, s, _, hf⟩ := e.symm
  exact ⟨p * x + q * y, r * x + s * y, by rw [hf, Fm.act_at]⟩
theorem two_at (n m B c x y z w : Int) : (⟨n * m, B, c⟩ : Fm).at (x * z - c * y * w) (n * x * w + m * y * z + B * y * w) = (⟨n, B, m * c⟩ : Fm).at x y * (⟨m, B, n * c⟩ : Fm).at z w := by
  simp only [Fm.at]
  grind
/-- values multiply -/
theorem Fm.cmp.at {f g h : Fm} (e : f.cmp g h) (x y z w : Int) : ∃ u v, h.at u v = f.at x y * g.at z w := by
  obtain ⟨n, m, B, c, _, _, _, e1, e2, e3⟩ := e
  obtain ⟨x', y', h1⟩ := e1.at x y
  obtain ⟨z', w', h2⟩ := e2.at z w
  obtain ⟨u, v, h3⟩ := e3.symm.at (x' * z' - c * y' * w') (n * x' * w' + m * y' * z' + B * y' * w')
  exact ⟨u, v, by rw [h3, two_at, h1, h2]⟩
theorem Fm.prim.of {f : Fm} (h : ∀ q, QR.Pm q → q ∣ f.a → q ∣ f.b → ¬ q ∣ f.c) : f.prim :=
  QR.cop_iff.mpr fun q hq hd hc => h q hq (Int.dvd_trans hd (Int.gcd_dvd_left ..)) (Int.dvd_trans hd (Int.gcd_dvd_right ..)) hc
theorem Fm.cmp.prim {f g h : Fm} (fp : f.prim) (gp : g.prim) (x : f.cmp g h) : h.prim := by
  obtain ⟨n, m, B, c, _, _, _, x1, x2, x3⟩ := x
  refine Fm.prim.eqv (f := ⟨n * m, B, c⟩) (Fm.prim.of fun q hq ha hb hc => ?_) x3.symm
  dsimp only at ha hb hc
  rcases QR.Pm.dvd_mul hq ha with z | z
  · exact (fp.eqv x1).not hq z hb (Int.dvd_mul_of_dvd_right hc)
  · exact (gp.eqv x2).not hq z hb (Int.dvd_mul_of_dvd_right hc)
theorem Fm.eqv.ok {f g : Fm} (e : f.eqv g) (h : f.ok) : g.ok := by
  refine ⟨?_, by rw [e.D]; exact h.2⟩
  obtain ⟨p, q, r, s, dt, hg⟩ := e
  have ea : g.a = f.at p r := by rw [hg]; simp [Fm.act, Fm.at]
  rw [ea]
  refine Fm.at_pos h ?_
  by_cases p0 : p = 0
  · right
    intro r0
    rw [p0, r0] at dt
    simp at dt
  · exact .inl p0
theorem Fm.cmp.ok {f g h : Fm} (fo : f.ok) (x : f.cmp g h) : h.ok := by
  have hD := x.D.1
  obtain ⟨n, m, B, c, n1, m1, _, x1, x2, x3⟩ := x
  refine x3.symm.ok ⟨Int.mul_pos (show 0 < n by omega) (show 0 < m by omega), ?_⟩
  rw [x3.D, ← hD]
  exact fo.2
/-- three factors -/
theorem Fm.assoc {f g h x y z w : Fm} (fo : f.ok) (go : g.ok) (ho : h.ok) (fp : f.prim) (gp : g.prim) (hp : h.prim) (e1 : f.cmp g x) (e2 : x.cmp h y) (e3 : g.cmp h z) (e4 : f.cmp z w) : y.eqv w := by
  have hD1 : f.D = g.D := e1.D.1.trans e1.D.2.symm
  have hD2 : h.D = g.D := e3.D.2.trans e3.D.1.symm
  obtain ⟨g1, eg, g1a, g1c⟩ := gp.rep go (N := f.a) (by have := fo.1; omega)
  obtain ⟨B, c, a1, a2⟩ := Fm.two (f := f) (g := g1) (hD1.trans eg.D.symm) fo.1 g1a (by rw [gcd_c]; exact g1c)
  obtain ⟨n, hn⟩ : ∃ n, n = f.a := ⟨_, rfl⟩
  obtain ⟨m, hm⟩ : ∃ m, m = g1.a := ⟨_, rfl⟩
  have n1 : 1 ≤ n := by rw [hn]; exact fo.1
  have m1 : 1 ≤ m := by rw [hm]; exact g1a
  have nm : Int.gcd n m = 1 := by rw [hn, hm, gcd_c]; exact g1c
  rw [← hn, ← hm] at a1 a2
  obtain ⟨h1, eh, h1a, h1c⟩ := hp.rep ho (N := n * m) (fun z => by rcases Int.mul_eq_zero.mp z with z | z <;> omega)
  obtain ⟨B', c', b1, b2, b3, b4, b5, b6⟩ := mid_all (f' := h1) (k := h1.a) (n := n) (m := m) (B := B) (c := c) (b := 0) n1 m1 h1a rfl h1c (by
    rw [eh.D, hD2, ← hD1, ← a1.D]; unfold Fm.D; grind)
  obtain ⟨k, hk⟩ : ∃ k, k = h1.a := ⟨_, rfl⟩
  rw [← hk] at h1a h1c b2 b3 b4 b5 b6
  have kn : Int.gcd k n = 1 := gcd_mul_l h1c
  have km : Int.gcd k m = 1 := gcd_mul_r h1c
  have f1 : f.eqv ⟨n, B', m * (k * c')⟩ := a1.trans b4
  have g2 : g.eqv ⟨m, B', n * (k * c')⟩ := eg.trans (a2.trans (by rw [show n * (k * c') = k * (n * c') by grind]; exact b5))
  have h2 : h.eqv ⟨k, B', m * (n * c')⟩ := eh.trans b3
  have x1 : f.cmp g ⟨n * m, B', k * c'⟩ := ⟨n, m, B', k * c', n1, m1, nm, f1, g2, Fm.eqv.refl _⟩
  have ex := Fm.cmp.uniq fo go fp gp e1 x1
  have nm1 : 1 ≤ n * m := Int.mul_pos (show 0 < n by omega) (show 0 < m by omega)
  have y1 : x.cmp h ⟨n * m * k, B', c'⟩ := ⟨n * m, k, B', c', nm1, h1a, by rw [gcd_c]; exact h1c, ex, by rw [show n * m * c' = m * (n * c') by grind]; exact h2, Fm.eqv.refl _⟩
  have ey := Fm.cmp.uniq (e1.ok fo) ho (e1.prim fp gp) hp e2 y1
  have mk1 : 1 ≤ m * k := Int.mul_pos (show 0 < m by omega) (show 0 < k by omega)
  have z1 : g.cmp h ⟨m * k, B', n * c'⟩ := ⟨m, k, B', n * c', m1, h1a, by rw [gcd_c]; exact km, by rw [show k * (n * c') = n * (k * c') by grind]; exact g2, h2, Fm.eqv.refl _⟩
  have ez := Fm.cmp.uniq go ho gp hp e3 z1
  have w1 : f.cmp z ⟨n * (m * k), B', c'⟩ := ⟨n, m * k, B', c', n1, mk1, QR.cop_mul nm (by rw [gcd_c]; exact kn), by rw [show m * k * c' = m * (k * c') by grind]; exact f1, ez, Fm.eqv.refl _⟩
  have ew := Fm.cmp.uniq fo (e3.ok go) fp (e3.prim gp hp) e4 w1
  rw [show n * m * k = n * (m * k) by grind] at ey
  exact ey.trans ew.symm
/-- the main form -/
def mainF (d : Int) : Fm := if d % 4 = 0 then ⟨1, 0, -d / 4⟩ else ⟨1, 1, (1 - d) / 4⟩
theorem mainF_D {d : Int} (h : d % 4 = 0 ∨ d % 4 = 1) : (mainF d).D = d ∧ (mainF d).a = 1 := by
  unfold mainF
  split
  · refine ⟨?_, rfl⟩
    unfold Fm.D
    dsimp only
    omega
  · refine ⟨?_, rfl⟩
    unfold Fm.D
    dsimp only
    omega
theorem Fm.D_mod (f : Fm) : f.D % 4 = 0 ∨ f.D % 4 = 1 := by
  have e : f.D = f.b * f.b - 4 * (f.a * f.c) := by unfold Fm.D; grind
  have : f.b * f.b % 4 = 0 ∨ f.b * f.b % 4 = 1 := by
    rcases (show f.b % 4 = 0 ∨ f.b % 4 = 1 ∨ f.b % 4 = 2 ∨ f.b % 4 = 3 by omega) with z | z | z | z <;> rw [Int.mul_emod, z] <;> decide
  rw [e]
  omega
theorem mainF_ok {d : Int} (h0 : d < 0) (h : d % 4 = 0 ∨ d % 4 = 1) : (mainF d).ok := ⟨by rw [(mainF_D h).2]; decide, by rw [(mainF_D h).1]; exact h0⟩
theorem prim_one {f : Fm} (h : f.a = 1) : f.prim := by
  unfold Fm.prim
  rw [h]
  simp
theorem mainF_prim {d : Int} (h : d % 4 = 0 ∨ d % 4 = 1) : (mainF d).prim := prim_one (mainF_D h).2
theorem mainF_red {d : Int} (h0 : d < 0) (h : d % 4 = 0 ∨ d % 4 = 1) : (mainF d).red := by
  unfold mainF Fm.red Fm.norm
  split <;> dsimp only <;> omega
/-- a form with the first number 1 is in the class of the main form -/
theorem one_main {f g : Fm} (ha : f.a = 1) (hg : g.a = 1) (hD : f.D = g.D) : f.eqv g := by
  have p : (2 : Int) ∣ f.b - g.b := by
    have := Int.dvd_sub g.D_par f.D_par
    rw [hD] at this
    rwa [show g.D - g.b - (g.D - f.b) = f.b - g.b by omega] at this
  refine Fm.same_mid (N := 1) (by decide) hD (h := f) (h' := g) (B := f.b) (c := f.c) (B' := g.b) (c' := g.c) ?_ ?_ (by omega)
  · rw [← ha]; exact Fm.eqv.refl f
  · rw [← hg]; exact Fm.eqv.refl g
/-- the unit -/
theorem Fm.cmp_one {e f : Fm} (he : e.a = 1) (fo : f.ok) (hD : e.D = f.D) : e.cmp f f := by
  refine ⟨1, f.a, f.b, f.c, by decide, fo.1, by simp, ?_, ?_, ?_⟩
  · refine one_main he rfl ?_
    rw [hD]
    unfold Fm.D
    grind
  · rw [Int.one_mul]; exact Fm.eqv.refl f
  · rw [Int.one_mul]; exact Fm.eqv.refl f
def Fm.opp (f : Fm) : Fm := ⟨f.a, -f.b, f.c⟩
theorem Fm.opp_D (f : Fm) : f.opp.D = f.D := by simp [Fm.opp, Fm.D, Int.neg_mul_neg]
theorem Fm.ok.opp {f : Fm} (h : f.ok) : f.opp.ok := ⟨h.1, by rw [Fm.opp_D]; exact h.2⟩
theorem Fm.eqv.opp {f g : Fm} (h : f.eqv g) : f.opp.eqv g.opp := by
  obtain ⟨p, q, r, s, dt, hg⟩ := h
  refine ⟨p, -q, -r, s, by rw [← dt]; grind, ?_⟩
  rw [hg]
  refine Fm.ext' ?_ ?_ ?_ <;> simp only [Fm.act, Fm.opp] <;> grind
theorem Fm.prim.opp {f : Fm} (h : f.prim) : f.opp.prim := Fm.prim.of fun q hq ha hb hc => h.not hq ha (Int.dvd_neg.mp hb) hc
theorem Fm.opp_swap (f : Fm) : f.opp.eqv ⟨f.c, f.b, f.a⟩ := ⟨0, -1, 1, 0, by decide, Fm.ext' (by simp [Fm.act, Fm.opp]) (by simp [Fm.act, Fm.opp]) (by simp [Fm.act, Fm.opp])⟩
/-- a form of the class whose outer numbers are coprime -/
theorem Fm.prim.outer {f : Fm} (h : f.prim) (ho : f.ok) : ∃ g : Fm, f.eqv g ∧ 1 ≤ g.a ∧ Int.gcd g.a g.c = 1 := by
  obtain ⟨g, e, g1, gc⟩ := h.rep ho (N := f.D) (by have := ho.2; omega)
  have gb : Int.gcd g.b g.a = 1 := QR.cop_iff.mpr fun q hq hd ha => by
    refine QR.cop_iff.mp gc q hq ha ?_
    rw [← e.D]
    unfold Fm.D
    exact Int.dvd_sub (Int.dvd_mul_of_dvd_left hd) (Int.dvd_mul_of_dvd_left (Int.dvd_mul_of_dvd_right ha))
  obtain ⟨u, v, huv⟩ := bezI gb
  refine ⟨_, e.trans (g.shift_eqv (u * (1 - g.c))), g1, ?_⟩
  dsimp only
  refine QR.cop_iff.mpr fun q hq hd hc => ?_
  have d1 : q ∣ g.a * (u * (1 - g.c)) * (u * (1 - g.c)) := Int.dvd_mul_of_dvd_left (Int.dvd_mul_of_dvd_left hd)
  have d2 : q ∣ g.b * (u * (1 - g.c)) + g.c := by
    have := Int.dvd_sub hc d1
    rwa [show g.a * (u * (1 - g.c)) * (u * (1 - g.c)) + g.b * (u * (1 - g.c)) + g.c - g.a * (u * (1 - g.c)) * (u * (1 - g.c)) = g.b * (u * (1 - g.c)) + g.c by omega] at this
  have d3 : q ∣ g.a * v * (1 - g.c) := Int.dvd_mul_of_dvd_left (Int.dvd_mul_of_dvd_left hd)
  have e1 : g.b * (u * (1 - g.c)) + g.c + g.a * v * (1 - g.c) = 1 := by
    have : g.b * (u * (1 - g.c)) + g.a * v * (1 - g.c) = (g.b * u + g.a * v) * (1 - g.c) := by grind
    rw [huv] at this
    omega
  have := Int.dvd_add d2 d3
  rw [e1] at this
  have := Int.le_of_dvd (by decide) this
  have := hq.1
  omega
/-- a form times its opposite -/
theorem Fm.cmp_opp {f e : Fm} (h : f.prim) (ho : f.ok) (he : e.a = 1) (hD : e.D = f.D) : f.cmp f.opp e := by
  obtain ⟨g, eg, g1, gc⟩ := h.outer ho
  have go := eg.ok ho
  have c1 := go.c_pos
  refine ⟨g.a, g.c, g.b, 1, g1, c1, gc, by rw [Int.mul_one]; exact eg, by rw [Int.mul_one]; exact eg.opp.trans g.opp_swap, ?_⟩
  have s : (⟨g.a * g.c, g.b, 1⟩ : Fm).eqv ⟨1, -g.b, g.a * g.c⟩ := ⟨0, -1, 1, 0, by decide, Fm.ext' (by simp [Fm.act]) (by simp [Fm.act]) (by simp [Fm.act])⟩
  refine Fm.eqv.trans (one_main he rfl ?_) s.symm
  rw [hD, ← eg.D]
  unfold Fm.D
  dsimp only
  grind
/-! part m_cl -/
/-! the classes of a discriminant as a group -/
/-- a form of the discriminant without a common divisor -/
structure Cl (d : Int) (f : Fm) : Prop where
  ok : f.ok
  D : f.D = d
  pr : f.prim
theorem Cl.eqv {d : Int} {f g : Fm} (h : Cl d f) (e : f.eqv g) : Cl d g := ⟨e.ok h.ok, e.D.trans h.D, h.pr.eqv e⟩
theorem Cl.d4 {d : Int} {f : Fm} (h : Cl d f) : d % 4 = 0 ∨ d % 4 = 1 := h.D ▸ f.D_mod
theorem Cl.neg {d : Int} {f : Fm} (h : Cl d f) : d < 0 := h.D ▸ h.ok.2
theorem Cl.main {d : Int} {f : Fm} (h : Cl d f) : Cl d (mainF d) := ⟨mainF_ok h.neg h.d4, (mainF_D h.d4).1, mainF_prim h.d4⟩
theorem Cl.opp {d : Int} {f : Fm} (h : Cl d f) : Cl d f.opp := ⟨h.ok.opp, by rw [Fm.opp_D]; exact h.D, h.pr.opp⟩
theorem Cl.rd {d : Int} {f : Fm} (h : Cl d f) : Cl d (redF f) := h.eqv (redF_eqv f)
theorem red_id {f : Fm} (h : f.red) : redF f = f := by
  unfold redF
  rw [len_red h]
  rfl
theorem redF_ok {f : Fm} (h : f.ok) : (redF f).red := redF_red _ _ h (Nat.le_refl _)
theorem red_eq {f g : Fm} (fo : f.ok) (go : g.ok) (e : f.eqv g) (fr : f.red) (gr : g.red) : f = g := (e.uniq fr gr fo.1 go.1).symm
open Classical in
noncomputable def mulF (f g : Fm) : Fm := if h : ∃ r, f.cmp g r ∧ r.ok ∧ r.red then h.choose else f
section
variable {d : Int} {f g h : Fm}
theorem Cl.mul (F : Cl d f) (G : Cl d g) : f.cmp g (mulF f g) ∧ (mulF f g).ok ∧ (mulF f g).red := by
  obtain ⟨r, c, ro⟩ := Fm.cmp.ex F.ok G.ok G.pr (F.D.trans G.D.symm)
  have ex : ∃ r, f.cmp g r ∧ r.ok ∧ r.red := ⟨_, c.congr (Fm.eqv.refl f) (Fm.eqv.refl g) (redF_eqv r).symm, (redF_eqv r).ok ro, redF_ok ro⟩
  unfold mulF
  rw [dif_pos ex]
  exact ex.choose_spec
theorem Cl.mulC (F : Cl d f) (G : Cl d g) : Cl d (mulF f g) := ⟨(F.mul G).2.1, (F.mul G).1.D.1.symm.trans F.D, (F.mul G).1.prim F.pr G.pr⟩
theorem Cl.mul_eq (F : Cl d f) (G : Cl d g) (c : f.cmp g h) (ho : h.ok) (hr : h.red) : h = mulF f g :=
  red_eq ho (F.mul G).2.1 (Fm.cmp.uniq F.ok G.ok F.pr G.pr c (F.mul G).1) hr (F.mul G).2.2
theorem Cl.comm (F : Cl d f) (G : Cl d g) : mulF f g = mulF g f := G.mul_eq F (F.mul G).1.symm (F.mul G).2.1 (F.mul G).2.2
theorem Cl.congr {f' g' : Fm} (F : Cl d f) (G : Cl d g) (a : f.eqv f') (b : g.eqv g') : mulF f g = mulF f' g' :=
  (F.eqv a).mul_eq (G.eqv b) ((F.mul G).1.congr a.symm b.symm (Fm.eqv.refl _)) (F.mul G).2.1 (F.mul G).2.2
theorem Cl.assoc (F : Cl d f) (G : Cl d g) (K : Cl d h) : mulF (mulF f g) h = mulF f (mulF g h) :=
  red_eq ((F.mulC G).mul K).2.1 (F.mul (G.mulC K)).2.1 (Fm.assoc F.ok G.ok K.ok F.pr G.pr K.pr (F.mul G).1 ((F.mulC G).mul K).1 (G.mul K).1 (F.mul (G.mulC K)).1) ((F.mulC G).mul K).2.2 (F.mul (G.mulC K)).2.2
theorem Cl.one (F : Cl d f) : mulF (mainF d) f = redF f :=
  (F.main.mul_eq F ((Fm.cmp_one (mainF_D F.d4).2 F.ok ((mainF_D F.d4).1.trans F.D.symm)).congr (Fm.eqv.refl _) (Fm.eqv.refl _) (redF_eqv f).symm) ((redF_eqv f).ok F.ok) (redF_ok F.ok)).symm
theorem Cl.one' (F : Cl d f) : mulF f (mainF d) = redF f := (F.comm F.main).trans F.one
theorem Cl.inv (F : Cl d f) : mulF f f.opp = mainF d :=
  (F.mul_eq F.opp (Fm.cmp_opp F.pr F.ok (mainF_D F.d4).2 ((mainF_D F.d4).1.trans F.D.symm)) F.main.ok (mainF_red F.neg F.d4)).symm
/-- the powers of a form -/
noncomputable def pwF (d : Int) (f : Fm) : Nat → Fm
  | 0 => mainF d
  | k + 1 => mulF (pwF d f k) f
theorem Cl.pw (F : Cl d f) : ∀ k, Cl d (pwF d f k) ∧ (pwF d f k).red
  | 0 => ⟨F.main, mainF_red F.neg F.d4⟩
  | k + 1 => ⟨(F.pw k).1.mulC F, ((F.pw k).1.mul F).2.2⟩
theorem Cl.pw_add (F : Cl d f) (m : Nat) : ∀ n, mulF (pwF d f m) (pwF d f n) = pwF d f (m + n)
  | 0 => ((F.pw m).1.one').trans (red_id (F.pw m).2)
  | n + 1 => by
    show mulF (pwF d f m) (mulF (pwF d f n) f) = mulF (pwF d f (m + n)) f
    rw [← (F.pw m).1.assoc (F.pw n).1 F, F.pw_add m n]
theorem Cl.pw_congr (F : Cl d f) (e : f.eqv g) : ∀ k, pwF d f k = pwF d g k
  | 0 => rfl
  | k + 1 => by
    show mulF (pwF d f k) f = mulF (pwF d g k) g
    rw [← F.pw_congr e k]
    exact (F.pw k).1.congr F (Fm.eqv.refl _) e
theorem Cl.pw_mul (F : Cl d f) (m : Nat) : ∀ n, pwF d (pwF d f m) n = pwF d f (m * n)
  | 0 => rfl
  | n + 1 => by
    show mulF (pwF d (pwF d f m) n) (pwF d f m) = pwF d f (m * (n + 1))
    rw [F.pw_mul m n, F.pw_add, Nat.mul_succ]
theorem Cl.cancel {x y : Fm} (X : Cl d x) (Y : Cl d y) (F : Cl d f) (xr : x.red) (yr : y.red) (e : mulF x f = mulF y f) : x = y := by
  have h1 : mulF (mulF x f) f.opp = x := by rw [X.assoc F F.opp, F.inv, X.one', red_id xr]
  have h2 : mulF (mulF y f) f.opp = y := by rw [Y.assoc F F.opp, F.inv, Y.one', red_id yr]
  rw [← h1, ← h2, e]
def Fm.lt (f g : Fm) : Prop := f.a < g.a ∨ f.a = g.a ∧ f.b < g.b
theorem rfTo_lt {a : Int} (ha : 1 ≤ a) : ∀ j, (rfTo d a j).Pairwise Fm.lt ∧ ∀ f ∈ rfTo d a j, f.a = a ∧ f.b < 1 - a + j
  | 0 => ⟨List.Pairwise.nil, fun f h => absurd h (by simp [rfTo])⟩
  | j + 1 => by
    obtain ⟨i1, i2⟩ := rfTo_lt ha j
    rw [rfTo_succ]
    cases hg : goodB d a (1 - a + j) with
    | none =>
      simp only [Option.toList, List.append_nil]
      exact ⟨i1, fun f h => by have := i2 f h; push_cast; omega⟩
    | some g =>
      obtain ⟨_, e1, e2, _⟩ := goodB_D ha hg
      simp only [Option.toList]
      refine ⟨List.pairwise_append.mpr ⟨i1, List.pairwise_singleton .., fun f hf k hk => ?_⟩, fun f hf => ?_⟩
      · rw [List.mem_singleton.mp hk]
        have := i2 f hf
        exact .inr ⟨by omega, by omega⟩
      · rcases List.mem_append.mp hf with h | h
        · have := i2 f h
          push_cast
          omega
        · rw [List.mem_singleton.mp h]
          push_cast
          omega
theorem rfN_lt : ∀ n, (rfN d n).Pairwise Fm.lt ∧ ∀ f ∈ rfN d n, f.a ≤ n
  | 0 => ⟨List.Pairwise.nil, fun f h => absurd h (by simp [rfN])⟩
  | n + 1 => by
    obtain ⟨i1, i2⟩ := rfN_lt n
    rw [rfN_succ]
    obtain ⟨j1, j2⟩ := rfTo_lt (d := d) (a := (n : Int) + 1) (by omega) (2 * ((n : Int) + 1)).toNat
    refine ⟨List.pairwise_append.mpr ⟨i1, j1, fun f hf k hk => ?_⟩, fun f hf => ?_⟩
    · have := i2 f hf
      have := (j2 k hk).1
      exact .inl (by omega)
    · rcases List.mem_append.mp hf with h | h
      · have := i2 f h
        push_cast
        omega
      · have := (j2 f h).1
        push_cast
        omega
theorem rfL_lt : (rfL d).Pairwise Fm.lt := by
  unfold rfL
  split
  · exact (rfN_lt 19).1
  · exact List.Pairwise.nil
theorem rfL_nodup : (rfL d).Nodup := rfL_lt.imp fun h e => by
  subst e
  rcases h with h | h <;> omega
theorem permF {β : Type} [BEq β] [LawfulBEq β] : ∀ (l k : List β), l.Nodup → (∀ x, x ∈ l → x ∈ k) → k.length ≤ l.length → l.Perm k
  | [], k, _, _, hl => by
    have : k = [] := List.eq_nil_of_length_eq_zero (by simpa using hl)
    rw [this]
  | x :: l, k, hn, hs, hl => by
    have hx : x ∈ k := hs x (by simp)
    have hp := List.perm_cons_erase hx
    have hn' := List.nodup_cons.mp hn
    refine List.Perm.trans (List.Perm.cons x (permF l (k.erase x) hn'.2 (fun y hy => ?_) ?_)) hp.symm
    · have hne : y ≠ x := fun e => hn'.1 (e ▸ hy)
      exact (List.mem_erase_of_ne hne).mpr (hs y (List.mem_cons_of_mem _ hy))
    · have := hp.length_eq
      simp at this hl
      omega
theorem mem_cl (d1 : d < 0) (d0 : -1000 ≤ d) : f ∈ rfL d ↔ Cl d f ∧ f.red := by
  rw [mem_rfL d1 d0]
  exact ⟨fun ⟨a, b, c, e⟩ => ⟨⟨b, a, e⟩, c⟩, fun ⟨⟨a, b, c⟩, e⟩ => ⟨b, a, e, c⟩⟩
/-- the products with all forms of the list are these forms -/
theorem Cl.perm (F : Cl d f) (d0 : -1000 ≤ d) : ((rfL d).map (mulF f)).Perm (rfL d) := by
  have me := fun g => mem_cl (f := g) F.neg d0
  refine permF _ _ ?_ (fun x hx => ?_) (by rw [List.length_map]; exact Nat.le_refl _)
  · refine List.pairwise_map.mpr (rfL_nodup.imp_of_mem fun {x y} hx hy ne e => ne ?_)
    obtain ⟨X, xr⟩ := (me x).mp hx
    obtain ⟨Y, yr⟩ := (me y).mp hy
    exact Cl.cancel X Y F xr yr (by rw [X.comm F, Y.comm F, e])
  · obtain ⟨g, hg, rfl⟩ := List.mem_map.mp hx
    obtain ⟨G, _⟩ := (me g).mp hg
    exact (me _).mpr ⟨F.mulC G, (F.mul G).2.2⟩
/-- the order of a form -/
structure OrdF (d : Int) (f : Fm) (k : Nat) : Prop where
  pos : 1 ≤ k
  one : pwF d f k = mainF d
  least : ∀ j, 1 ≤ j → j < k → pwF d f j ≠ mainF d
theorem OrdF.mod (F : Cl d f) {k : Nat} (o : OrdF d f k) (n : Nat) : pwF d f n = pwF d f (n % k) := by
  have e : pwF d f (k * (n / k)) = mainF d := by
    rw [← F.pw_mul, o.one]
    have M := F.main
    have r := mainF_red F.neg F.d4
    have : ∀ j, pwF d (mainF d) j = mainF d := fun j => by
      induction j with
      | zero => rfl
      | succ j ih =>
        show mulF (pwF d (mainF d) j) (mainF d) = mainF d
        rw [ih, M.one, red_id r]
    exact this _
  have := F.pw_add (k * (n / k)) (n % k)
  rw [e, (F.pw _).1.one, red_id (F.pw _).2, Nat.div_add_mod] at this
  exact this.symm
theorem OrdF.dvd (F : Cl d f) {k n : Nat} (o : OrdF d f k) (e : pwF d f n = mainF d) : k ∣ n := by
  rw [o.mod F] at e
  have := Nat.mod_lt n (show 0 < k by have := o.pos; omega)
  refine Nat.dvd_of_mod_eq_zero ?_
  rcases Nat.eq_zero_or_pos (n % k) with z | z
  · exact z
  · exact absurd e (o.least _ z this)
theorem OrdF.uniq {k j : Nat} (a : OrdF d f k) (b : OrdF d f j) : k = j := by
  rcases Nat.lt_trichotomy k j with z | z | z
  · exact absurd a.one (b.least k a.pos z)
  · exact z
  · exact absurd b.one (a.least j b.pos z)
theorem OrdF.congr (F : Cl d f) (e : f.eqv g) {k : Nat} (o : OrdF d f k) : OrdF d g k := ⟨o.pos, by rw [← F.pw_congr e]; exact o.one, fun j a b => by rw [← F.pw_congr e]; exact o.least j a b⟩
end
/-! part m_hecke -/
/-! ways by all classes together: p times a number, by the two lines on which a form is a multiple of p -/
theorem ex_list (P : Int × Int → Prop) : ∀ L : List (Int × Int), ∃ rs : List (Int × Int), rs.Nodup ∧ ∀ r, r ∈ rs ↔ r ∈ L ∧ P r
  | [] => ⟨[], List.nodup_nil, fun r => by simp⟩
  | x :: L => by
    obtain ⟨rs, n, h⟩ := ex_list P L
    by_cases c : P x ∧ x ∉ rs
    · refine ⟨x :: rs, List.nodup_cons.mpr ⟨c.2, n⟩, fun r => ?_⟩
      rw [List.mem_cons, List.mem_cons, h]
      constructor
      · rintro (e | e)
        · exact ⟨.inl e, e ▸ c.1⟩
        · exact ⟨.inr e.1, e.2⟩
      · rintro ⟨e | e, p⟩
        · exact .inl e
        · exact .inr ⟨e, p⟩
    · refine ⟨rs, n, fun r => ?_⟩
      rw [h, List.mem_cons]
      constructor
      · rintro ⟨a, p⟩
        exact ⟨.inr a, p⟩
      · rintro ⟨e | e, p⟩
        · subst e
          exact (h r).mp (Classical.byContradiction fun z => c ⟨p, z⟩)
        · exact ⟨e, p⟩
def spanZ (k : Nat) : List Int := (List.range (2 * k + 1)).map fun i : Nat => (i : Int) - k
theorem mem_spanZ {k : Nat} {x : Int} : x ∈ spanZ k ↔ -(k : Int) ≤ x ∧ x ≤ k := by
  unfold spanZ
  rw [List.mem_map]
  constructor
  · rintro ⟨i, hi, rfl⟩
    have := List.mem_range.mp hi
    omega
  · rintro ⟨a, b⟩
    exact ⟨(x + k).toNat, List.mem_range.mpr (by omega), by omega⟩
theorem way_ex {f : Fm} (fo : f.ok) (m : Int) : ∃ rs, WaySet f m rs := by
  obtain ⟨rs, n, h⟩ := ex_list (fun r => f.at r.1 r.2 = m) (prodL (spanZ (4 * f.c * m).toNat) (spanZ (4 * f.a * m).toNat))
  refine ⟨rs, fun r => ?_, n⟩
  rw [h]
  refine ⟨fun z => z.2, fun z => ⟨?_, z⟩⟩
  obtain ⟨a, b, c, d⟩ := at_small fo z
  rw [show r = (r.1, r.2) from rfl, mem_prod, mem_spanZ, mem_spanZ]
  omega
theorem len_bij {rs ss : List (Int × Int)} (φ : Int × Int → Int × Int) (hr : rs.Nodup) (into : ∀ r ∈ rs, φ r ∈ ss) (hs : ss.Nodup) (inj : ∀ r q, φ r = φ q → r = q) (onto : ∀ s ∈ ss, ∃ r ∈ rs, φ r = s) : rs.length = ss.length := by
  have n : (rs.map φ).Nodup := List.Pairwise.map _ (fun {a b} z e => z (inj a b e)) hr
  have a := nodup_len n fun k hk => by
    obtain ⟨r, h, rfl⟩ := List.mem_map.mp hk
    exact into r h
  have b := nodup_len hs (s := rs.map φ) fun k hk => by
    obtain ⟨r, h, e⟩ := onto k hk
    exact List.mem_map.mpr ⟨r, h, e⟩
  rw [List.length_map] at a b
  omega
theorem cnt_bij {f g : Fm} (fo : f.ok) (go : g.ok) {m n : Int} (φ : Int × Int → Int × Int) (into : ∀ r, f.at r.1 r.2 = m → g.at (φ r).1 (φ r).2 = n) (inj : ∀ r q, φ r = φ q → r = q) (onto : ∀ s, g.at s.1 s.2 = n → ∃ r, f.at r.1 r.2 = m ∧ φ r = s) : cnt f m = cnt g n := by
  obtain ⟨rs, h⟩ := way_ex fo m
  obtain ⟨ss, k⟩ := way_ex go n
  rw [cnt_eq h, cnt_eq k]
  refine len_bij φ h.nd (fun r hr => (k.mem _).mpr (into r ((h.mem _).mp hr))) k.nd inj fun s hs => ?_
  obtain ⟨r, a, b⟩ := onto s ((k.mem _).mp hs)
  exact ⟨r, (h.mem _).mpr a, b⟩
/-- the form's second case is by what it shows -/
theorem cnt_sub {f g : Fm} (go : g.ok) {m n : Int} {rs : List (Int × Int)} (h : WaySet f m rs) (P : Int × Int → Prop) [DecidablePred P] (φ : Int × Int → Int × Int) (into : ∀ r, g.at r.1 r.2 = n → f.at (φ r).1 (φ r).2 = m ∧ P (φ r)) (inj : ∀ r q, φ r = φ q → r = q) (onto : ∀ s, f.at s.1 s.2 = m → P s → ∃ r, g.at r.1 r.2 = n ∧ φ r = s) : (rs.filter fun r => decide (P r)).length = cnt g n := by
  obtain ⟨ss, k⟩ := way_ex go n
  rw [cnt_eq k]
  symm
  refine len_bij φ k.nd (fun r hr => ?_) (h.nd.filter _) inj fun s hs => ?_
  · obtain ⟨a, b⟩ := into r ((k.mem _).mp hr)
    exact List.mem_filter.mpr ⟨(h.mem _).mpr a, decide_eq_true b⟩
  · obtain ⟨a, b⟩ := List.mem_filter.mp hs
    obtain ⟨r, c, d⟩ := onto s ((h.mem _).mp a) (of_decide_eq_true b)
    exact ⟨r, (k.mem _).mpr c, d⟩
theorem both_len {α : Type} (P Q : α → Bool) : ∀ l : List α, (∀ x ∈ l, P x = true ∨ Q x = true) → l.length + (l.filter fun x => P x && Q x).length = (l.filter P).length + (l.filter Q).length
  | [], _ => rfl
  | x :: l, h => by
    have ih := both_len P Q l fun y hy => h y (List.mem_cons_of_mem _ hy)
    have hx := h x List.mem_cons_self
    simp only [List.filter_cons, List.length_cons]
    cases hP : P x <;> cases hQ : Q x <;> simp_all <;> omega
/-- m divided by p, where p divides it -/
noncomputable def cntD (f : Fm) (p m : Int) : Nat := if p ∣ m then cnt f (m / p) else 0
theorem cnt_eqv {f g : Fm} (fo : f.ok) (h : f.eqv g) (m : Int) : cnt f m = cnt g m := by
  have go := h.ok fo
  obtain ⟨p, q, r, s, d, rfl⟩ := h
  symm
  refine cnt_bij go fo (fun x => (p * x.1 + q * x.2, r * x.1 + s * x.2)) (fun x hx => ?_) (fun x y e => ?_) fun y hy => ?_
  · rw [Fm.act_at] at hx
    exact hx
  · obtain ⟨e1, e2⟩ := Prod.mk.inj e
    have a : x.1 = y.1 := by
      have : (p * s - q * r) * x.1 = (p * s - q * r) * y.1 := by grind
      rwa [d, Int.one_mul, Int.one_mul] at this
    have b : x.2 = y.2 := by
      have : (p * s - q * r) * x.2 = (p * s - q * r) * y.2 := by grind
      rwa [d, Int.one_mul, Int.one_mul] at this
    exact Prod.ext a b
  · have a : p * (s * y.1 - q * y.2) + q * (-r * y.1 + p * y.2) = y.1 := by
      have : p * (s * y.1 - q * y.2) + q * (-r * y.1 + p * y.2) = (p * s - q * r) * y.1 := by grind
      rw [this, d, Int.one_mul]
    have b : r * (s * y.1 - q * y.2) + s * (-r * y.1 + p * y.2) = y.2 := by
      have : r * (s * y.1 - q * y.2) + s * (-r * y.1 + p * y.2) = (p * s - q * r) * y.2 := by grind
      rw [this, d, Int.one_mul]
    refine ⟨(s * y.1 - q * y.2, -r * y.1 + p * y.2), ?_, Prod.ext a b⟩
    rw [Fm.act_at]
    show f.at (p * (s * y.1 - q * y.2) + q * (-r * y.1 + p * y.2)) (r * (s * y.1 - q * y.2) + s * (-r * y.1 + p * y.2)) = m
    rw [a, b]
    exact hy
/-- the two lines -/
theorem two_lines {p a B C m : Int} (hp : QR.Pm p) (pB : ¬ p ∣ B) (fo : Fm.ok ⟨p * a, B, p * C⟩) (g1 : Fm.ok ⟨a, B, p * (p * C)⟩) (g2 : Fm.ok ⟨p * (p * a), B, C⟩) :
    cnt ⟨p * a, B, p * C⟩ (p * m) + cntD ⟨p * a, B, p * C⟩ p m = cnt ⟨a, B, p * (p * C)⟩ m + cnt ⟨p * (p * a), B, C⟩ m := by
  have p0 : p ≠ 0 := by have := hp.1; omega
  obtain ⟨rs, h⟩ := way_ex fo (p * m)
  have all : ∀ x y : Int, (Fm.mk (p * a) B (p * C)).at x y = p * m → p ∣ y ∨ p ∣ x := fun x y e => by
    have : p ∣ B * (x * y) := ⟨m - a * x * x - C * y * y, by unfold Fm.at at e; simp only at e; grind⟩
    rcases QR.Pm.dvd_mul hp this with z | z
    · exact absurd z pB
    · exact (QR.Pm.dvd_mul hp z).symm
  have k1 := cnt_sub g1 h (n := m) (fun r => p ∣ r.2) (fun r => (r.1, p * r.2)) (fun r hr => ⟨by unfold Fm.at at hr ⊢; simp only at hr ⊢; rw [← hr]; grind, ⟨r.2, rfl⟩⟩) (fun r q e => by
    obtain ⟨e1, e2⟩ := Prod.mk.inj e
    exact Prod.ext e1 (Int.eq_of_mul_eq_mul_left p0 e2)) fun s hs ⟨t, ht⟩ => ⟨(s.1, t), Int.eq_of_mul_eq_mul_left p0 (by rw [← hs]; unfold Fm.at; simp only; rw [ht]; grind), Prod.ext rfl ht.symm⟩
  have k2 := cnt_sub g2 h (n := m) (fun r => p ∣ r.1) (fun r => (p * r.1, r.2)) (fun r hr => ⟨by unfold Fm.at at hr ⊢; simp only at hr ⊢; rw [← hr]; grind, ⟨r.1, rfl⟩⟩) (fun r q e => by
    obtain ⟨e1, e2⟩ := Prod.mk.inj e
    exact Prod.ext (Int.eq_of_mul_eq_mul_left p0 e1) e2) fun s hs ⟨t, ht⟩ => ⟨(t, s.2), Int.eq_of_mul_eq_mul_left p0 (by rw [← hs]; unfold Fm.at; simp only; rw [ht]; grind), Prod.ext ht.symm rfl⟩
  have b := both_len (fun r : Int × Int => decide (p ∣ r.2)) (fun r => decide (p ∣ r.1)) rs fun r hr => by
    simp only [decide_eq_true_eq]
    exact all _ _ ((h.mem r).mp hr)
  have k3 : (rs.filter fun r => decide (p ∣ r.2) && decide (p ∣ r.1)).length = cntD ⟨p * a, B, p * C⟩ p m := by
    unfold cntD
    split
    · next d =>
      obtain ⟨n, rfl⟩ := d
      rw [Int.mul_ediv_cancel_left _ p0]
      have := cnt_sub fo h (n := n) (fun r => p ∣ r.2 ∧ p ∣ r.1) (fun r => (p * r.1, p * r.2)) (fun r hr => ⟨by unfold Fm.at at hr ⊢; simp only at hr ⊢; rw [← hr]; grind, ⟨r.2, rfl⟩, ⟨r.1, rfl⟩⟩) (fun r q e => by
        obtain ⟨e1, e2⟩ := Prod.mk.inj e
        exact Prod.ext (Int.eq_of_mul_eq_mul_left p0 e1) (Int.eq_of_mul_eq_mul_left p0 e2)) fun s hs ⟨⟨t, ht⟩, ⟨u, hu⟩⟩ => ⟨(u, t), Int.eq_of_mul_eq_mul_left p0 (Int.eq_of_mul_eq_mul_left p0 (by rw [← hs]; unfold Fm.at; simp only; rw [ht, hu]; grind)), Prod.ext hu.symm ht.symm⟩
      rw [← this]
      congr 1
      exact List.filter_congr fun r _ => by simp
    · next d =>
      rw [List.length_eq_zero_iff, List.filter_eq_nil_iff]
      rintro r hr z
      simp only [Bool.and_eq_true, decide_eq_true_eq] at z
      obtain ⟨⟨t, ht⟩, ⟨u, hu⟩⟩ := z
      have e := (h.mem r).mp hr
      refine d ⟨p * a * u * u + B * u * t + p * C * t * t, Int.eq_of_mul_eq_mul_left p0 ?_⟩
      rw [← e]
      unfold Fm.at
      simp only
      rw [ht, hu]
      grind
  rw [cnt_eq h, ← k1, ← k2, ← k3]
  exact b
/-! part m_hecke2 -/
/-! neighbours of classes at a prime -/
/-- g is the form of the lattice behind f's line of the root b -/
def NbR (p b : Int) (f g : Fm) : Prop := ∃ a B C : Int, f.eqv ⟨p * a, B, C⟩ ∧ g.eqv ⟨a, B, p * C⟩ ∧ 2 * p ∣ B - b
theorem swap_eqv (a B C : Int) : Fm.eqv ⟨a, B, C⟩ ⟨C, -B, a⟩ := ⟨0, -1, 1, 0, by decide, Fm.ext' (by simp [Fm.act]) (by simp [Fm.act]) (by simp [Fm.act])⟩
theorem NbR.inv {p b : Int} {f g : Fm} (h : NbR p b f g) : NbR p (-b) g f := by
  obtain ⟨a, B, C, h1, h2, d⟩ := h
  refine ⟨C, -B, a, h2.trans (swap_eqv ..), h1.trans (swap_eqv ..), ?_⟩
  rw [show -B - -b = -(B - b) by omega]
  exact Int.dvd_neg.mpr d
theorem NbR.fun {p b : Int} {f g g' : Fm} (hp : QR.Pm p) (pb : ¬ p ∣ b) (h : NbR p b f g) (k : NbR p b f g') : g.eqv g' := by
  obtain ⟨a, B, C, h1, h2, d⟩ := h
  obtain ⟨a', B', C', k1, k2, d'⟩ := k
  have p0 : p ≠ 0 := by have := hp.1; omega
  obtain ⟨α, β, γ, δ, dt, e⟩ := h1.symm.trans k1
  have e1 : p * a' = p * a * α * α + B * α * γ + C * γ * γ := congrArg Fm.a e
  have e2 : B' = 2 * (p * a) * α * β + B * (α * δ + β * γ) + 2 * C * γ * δ := congrArg Fm.b e
  have e3 : C' = p * a * β * β + B * β * δ + C * δ * δ := congrArg Fm.c e
  have pg : p ∣ γ := by
    have z : p ∣ γ * (B * α + C * γ) := ⟨a' - a * α * α, by grind⟩
    rcases QR.Pm.dvd_mul hp z with z | ⟨k, hk⟩
    · exact z
    · exfalso
      -- the roots would be opposite
      have e4 : B' = 2 * p * (a * α * β + k * δ) - B := by
        have : B' = 2 * p * (a * α * β + k * δ) - B * (α * δ - β * γ) := by
          have : 2 * (B * α + C * γ) * δ = 2 * (p * k) * δ := by rw [hk]
          grind
        rw [this, dt, Int.mul_one]
      obtain ⟨t, ht⟩ := d
      obtain ⟨u, hu⟩ := d'
      refine pb ⟨a * α * β + k * δ - t - u, ?_⟩
      have : 2 * b = 2 * (p * (a * α * β + k * δ - t - u)) := by grind
      omega
  obtain ⟨c, rfl⟩ := pg
  refine (h2.trans ?_).trans k2.symm
  refine ⟨α, p * β, c, δ, by rw [← dt]; grind, Fm.ext' ?_ ?_ ?_⟩
  · show a' = a * α * α + B * α * c + p * C * c * c
    exact Int.eq_of_mul_eq_mul_left p0 (by grind)
  · show B' = 2 * a * α * (p * β) + B * (α * δ + p * β * c) + 2 * (p * C) * c * δ
    grind
  · show p * C' = a * (p * β) * (p * β) + B * (p * β) * δ + p * C * δ * δ
    grind
theorem NbR.inj {p b : Int} {f f' g : Fm} (hp : QR.Pm p) (pb : ¬ p ∣ b) (h : NbR p b f g) (k : NbR p b f' g) : f.eqv f' := h.inv.fun hp (fun z => pb (Int.dvd_neg.mp z)) k.inv
theorem inv_pm {p A : Int} (hp : QR.Pm p) (h : ¬ p ∣ A) : ∃ u, p ∣ A * u - 1 := by
  by_cases e : p = 2
  · subst e
    exact ⟨1, by omega⟩
  · exact inv_hour ⟨hp, Classical.byContradiction fun z => hp.2 2 (by decide) (by have := hp.1; omega) (Int.dvd_of_emod_eq_zero (by omega))⟩ h
theorem first_away {p : Int} (hp : QR.Pm p) {f : Fm} (h : ¬ p ∣ f.D) : ∃ g : Fm, f.eqv g ∧ ¬ p ∣ g.a := by
  by_cases a : p ∣ f.a
  · by_cases c : p ∣ f.c
    · refine ⟨f.act 1 0 1 1, ⟨1, 0, 1, 1, by decide, rfl⟩, fun z => ?_⟩
      have e : (f.act 1 0 1 1).a = f.a + f.b + f.c := by simp [Fm.act]
      rw [e] at z
      have b : p ∣ f.b := by
        have := Int.dvd_sub (Int.dvd_sub z a) c
        rwa [show f.a + f.b + f.c - f.a - f.c = f.b by omega] at this
      refine h ?_
      unfold Fm.D
      exact Int.dvd_sub (Int.dvd_mul_of_dvd_left b) (Int.dvd_mul_of_dvd_right c)
    · exact ⟨_, swap_eqv f.a f.b f.c, c⟩
  · exact ⟨f, Fm.eqv.refl f, a⟩
theorem fst_eq {p A B C u v : Int} (h : B * u - 1 = p * v) : p * (-(A * v) + C * (u * A) * (u * A)) = A * 1 * 1 + B * 1 * (-(u * A)) + p * C * (-(u * A)) * (-(u * A)) := by
  have e : A * (B * u - 1) = A * (p * v) := by rw [h]
  grind
theorem mid_eq {B p w k : Int} (h : B + 2 * p * (-w) = p * k) : B = p * (k + 2 * w) := by grind
/-- a basis along both lines -/
theorem both_base {p b : Int} (hp : QR.Pm p) {f : Fm} (h : ¬ p ∣ f.D) (hb : 4 * p ∣ b * b - f.D) : ∃ a B C : Int, f.eqv ⟨p * a, B, p * C⟩ ∧ 2 * p ∣ B - b ∧ ¬ p ∣ B := by
  obtain ⟨g, fg, ga⟩ := first_away hp h
  have p0 : p ≠ 0 := by have := hp.1; omega
  have gD := fg.D
  rw [← gD] at h hb
  obtain ⟨u, hu⟩ := inv_pm hp ga
  obtain ⟨q, hq⟩ := hb
  have par : ∃ t, b - g.b = 2 * t := by
    have e : b * b - g.b * g.b = 4 * (p * q - g.a * g.c) := by unfold Fm.D at hq; grind
    have e2 : (b * b - g.b * g.b) % 2 = 0 := by omega
    have e3 : (b - g.b) % 2 = 0 := by
      rcases (show b % 2 = 0 ∨ b % 2 = 1 by omega) with x | x <;> rcases (show g.b % 2 = 0 ∨ g.b % 2 = 1 by omega) with y | y
      · omega
      · rw [Int.sub_emod, Int.mul_emod, Int.mul_emod g.b, x, y] at e2
        simp at e2
      · rw [Int.sub_emod, Int.mul_emod, Int.mul_emod g.b, x, y] at e2
        simp at e2
      · omega
    exact ⟨(b - g.b) / 2, by omega⟩
  obtain ⟨t, ht⟩ := par
  obtain ⟨v, hv⟩ := hu
  -- the middle number
  have e1 : Fm.eqv g ⟨g.a, g.b + 2 * g.a * (u * t), g.a * (u * t) * (u * t) + g.b * (u * t) + g.c⟩ := ⟨1, u * t, 0, 1, by simp, Fm.ext' (by simp [Fm.act]) (by simp [Fm.act]; grind) (by simp [Fm.act])⟩
  obtain ⟨B, hB⟩ : ∃ B, B = g.b + 2 * g.a * (u * t) := ⟨_, rfl⟩
  obtain ⟨c2, hc2⟩ : ∃ c2, c2 = g.a * (u * t) * (u * t) + g.b * (u * t) + g.c := ⟨_, rfl⟩
  rw [← hB, ← hc2] at e1
  have eB : B = b + 2 * p * (v * t) := by rw [hB]; grind
  have D2 : B * B - 4 * g.a * c2 = g.D := by have := e1.D; exact this
  have pc : p ∣ c2 := by
    have : p ∣ g.a * c2 := ⟨q + b * (v * t) + p * (v * t) * (v * t), by
      have : 4 * (g.a * c2) = 4 * (p * (q + b * (v * t) + p * (v * t) * (v * t))) := by grind
      omega⟩
    exact (QR.Pm.dvd_mul hp this).resolve_left ga
  obtain ⟨C, rfl⟩ := pc
  have pB : ¬ p ∣ B := fun ⟨k, hk⟩ => h ⟨k * (p * k) - 4 * g.a * C, by rw [← D2, hk]; grind⟩
  obtain ⟨u2, v2, h2⟩ := inv_pm hp pB
  have e3 : Fm.eqv ⟨g.a, B, p * C⟩ ⟨p * (-(g.a * v2) + C * (u2 * g.a) * (u2 * g.a)), B + 2 * p * (-(C * (u2 * g.a))), p * C⟩ := ⟨1, 0, -(u2 * g.a), 1, by simp, Fm.ext' (fst_eq h2) (by simp [Fm.act]; grind) (by simp [Fm.act])⟩
  refine ⟨_, _, _, (fg.trans e1).trans e3, ⟨v * t - C * (u2 * g.a), by rw [eB]; grind⟩, fun ⟨k, hk⟩ => pB ⟨k + 2 * (C * (u2 * g.a)), mid_eq hk⟩⟩
/-! part m_hecke3 -/
/-! the number of ways by all classes -/
theorem sq_ex {p n : Int} (hp : QR.OP p) (hn : ¬ p ∣ n) : sgn n p = 1 ↔ ∃ x : Int, p ∣ x * x - n := by
  have p3 := hp.three
  obtain ⟨h, rfl⟩ := odd_half (by omega) hp.2
  rw [sgn_G, QR.euler hp.1 hn]
noncomputable def rD (d m : Int) : Nat := ((rfL d).map fun f => cnt f m).sum
noncomputable def rDD (d p m : Int) : Nat := if p ∣ m then rD d (m / p) else 0
theorem rDD_sum {d p m : Int} : ((rfL d).map fun f => cntD f p m).sum = rDD d p m := by
  unfold rDD cntD rD
  split
  · rfl
  · induction rfL d with
    | nil => rfl
    | cons f l ih => simpa using ih
theorem sum_two {α : Type} (f g : α → Nat) : ∀ l : List α, (l.map fun x => f x + g x).sum = (l.map f).sum + (l.map g).sum
  | [] => rfl
  | x :: l => by
    simp only [List.map_cons, List.sum_cons]
    rw [sum_two f g l]
    omega
theorem perm_sum {l k : List Nat} (h : l.Perm k) : l.sum = k.sum := by
  induction h with
  | nil => rfl
  | cons x _ ih => simp only [List.sum_cons]; omega
  | swap x y l => simp only [List.sum_cons]; omega
  | trans _ _ a b => omega
theorem nd_map {α β : Type} {φ : α → β} : ∀ {l : List α}, l.Nodup → (∀ x ∈ l, ∀ y ∈ l, φ x = φ y → x = y) → (l.map φ).Nodup
  | [], _, _ => List.nodup_nil
  | x :: l, n, h => by
    obtain ⟨a, b⟩ := List.nodup_cons.mp n
    rw [List.map_cons]
    refine List.nodup_cons.mpr ⟨fun z => ?_, nd_map b fun y hy z hz => h y (List.mem_cons_of_mem _ hy) z (List.mem_cons_of_mem _ hz)⟩
    obtain ⟨y, hy, e⟩ := List.mem_map.mp z
    rw [h x List.mem_cons_self y (List.mem_cons_of_mem _ hy) e.symm] at a
    exact a hy
/-- a one to one map of the classes onto themselves -/
theorem sum_nb {d p b m : Int} (d0 : d < 0) (d1 : -1000 ≤ d) (hp : QR.Pm p) (pb : ¬ p ∣ b) (φ : Fm → Fm) (h : ∀ f ∈ rfL d, φ f ∈ rfL d ∧ NbR p b f (φ f)) : ((rfL d).map fun f => cnt (φ f) m).sum = rD d m := by
  have pm : ((rfL d).map φ).Perm (rfL d) := by
    refine permF _ _ (nd_map rfL_nodup fun f hf g hg e => ?_) (fun x hx => ?_) (by rw [List.length_map]; exact Nat.le_refl _)
    · have a := (h f hf).2
      rw [e] at a
      obtain ⟨fD, fo, fr, _⟩ := (mem_rfL d0 d1).mp hf
      obtain ⟨gD, go, gr, _⟩ := (mem_rfL d0 d1).mp hg
      exact ((a.inj hp pb (h g hg).2).uniq fr gr fo.1 go.1).symm
    · obtain ⟨f, hf, rfl⟩ := List.mem_map.mp hx
      exact (h f hf).1
  have := perm_sum (pm.map fun f => cnt f m)
  rw [List.map_map] at this
  exact this
theorem rfl_of {d : Int} (d0 : d < 0) (d1 : -1000 ≤ d) {g : Fm} (gD : g.D = d) (go : g.ok) (g1 : Int.gcd ((Int.gcd g.a g.b : Nat) : Int) g.c = 1) : redF g ∈ rfL d :=
  (mem_rfL d0 d1).mpr ⟨by rw [(redF_eqv g).D, gD], (redF_eqv g).ok go, redF_red _ g go (Nat.le_refl _), by rw [← gcd3_eqv (redF_eqv g)]; exact g1⟩
theorem gcd3_iff {f : Fm} : Int.gcd ((Int.gcd f.a f.b : Nat) : Int) f.c = 1 ↔ ∀ k : Nat, (k : Int) ∣ f.a → (k : Int) ∣ f.b → (k : Int) ∣ f.c → k = 1 := by
  constructor
  · intro h k a b c
    have := gcd3_dvd.mpr ⟨a, b, c⟩
    rw [h] at this
    exact Nat.dvd_one.mp this
  · intro h
    obtain ⟨a, b, c⟩ := gcd3_dvd.mp (Nat.dvd_refl (Int.gcd ((Int.gcd f.a f.b : Nat) : Int) f.c))
    exact h _ a b c
theorem cop_nat {p : Int} (hp : QR.Pm p) {k : Nat} {B : Int} (kB : (k : Int) ∣ B) (pB : ¬ p ∣ B) : Int.gcd (k : Int) p = 1 := by
  rw [Int.gcd_comm, QR.pm_cop hp]
  exact fun z => pB (Int.dvd_trans z kB)
theorem dvd_away {k : Nat} {p C : Int} (c : Int.gcd (k : Int) p = 1) (h : (k : Int) ∣ p * C) : (k : Int) ∣ C := by
  have h := Int.natAbs_dvd_natAbs.mpr h
  rw [Int.natAbs_mul] at h
  exact Int.natAbs_dvd_natAbs.mp (Nat.Coprime.dvd_of_dvd_mul_left c h)
theorem nb_step {d p b m : Int} (d0 : d < 0) (d1 : -1000 ≤ d) (hp : QR.Pm p) (h : ¬ p ∣ d) (hb : 4 * p ∣ b * b - d) {f : Fm} (hf : f ∈ rfL d) : ∃ g1 g2 : Fm, (g1 ∈ rfL d ∧ NbR p b f g1) ∧ (g2 ∈ rfL d ∧ NbR p (-b) f g2) ∧ cnt f (p * m) + cntD f p m = cnt g1 m + cnt g2 m := by
  obtain ⟨fD, fo, fr, f1⟩ := (mem_rfL d0 d1).mp hf
  obtain ⟨a, B, C, e, dv, pB⟩ := both_base hp (f := f) (by rw [fD]; exact h) (by rw [fD]; exact hb)
  have p2 := hp.1
  have Fo := e.ok fo
  have FD := e.D
  have F1 := f1
  rw [gcd3_eqv e, gcd3_iff] at F1
  have a1 : 1 ≤ a := by
    have : 1 ≤ p * a := Fo.1
    refine Classical.byContradiction fun z => ?_
    have := Int.mul_le_mul_of_nonneg_left (show a ≤ 0 by omega) (show 0 ≤ p by omega)
    omega
  have D1 : (Fm.mk a B (p * (p * C))).D = d := by rw [← fD, ← FD]; unfold Fm.D; grind
  have D2 : (Fm.mk (p * (p * a)) B C).D = d := by rw [← fD, ← FD]; unfold Fm.D; grind
  have o1 : Fm.ok ⟨a, B, p * (p * C)⟩ := ⟨a1, by rw [D1]; exact d0⟩
  have o2 : Fm.ok ⟨p * (p * a), B, C⟩ := ⟨by
    have := Int.mul_le_mul (show 2 ≤ p by omega) (show 1 ≤ p * a from Fo.1) (by omega) (by omega)
    show 1 ≤ p * (p * a)
    omega, by rw [D2]; exact d0⟩
  have r1 := redF_eqv ⟨a, B, p * (p * C)⟩
  have r2 := redF_eqv ⟨p * (p * a), B, C⟩
  refine ⟨redF ⟨a, B, p * (p * C)⟩, redF ⟨p * (p * a), B, C⟩, ⟨rfl_of d0 d1 D1 o1 (gcd3_iff.mpr fun k ka kb kc => ?_), a, B, p * C, e, r1.symm, dv⟩, ⟨rfl_of d0 d1 D2 o2 (gcd3_iff.mpr fun k ka kb kc => ?_), C, -B, p * a, e.trans (swap_eqv ..), r2.symm.trans (swap_eqv ..), ?_⟩, ?_⟩
  · have c := cop_nat hp kb pB
    refine F1 k (Int.dvd_mul_of_dvd_right ka) kb ?_
    exact dvd_away c kc
  · have c := cop_nat hp kb pB
    refine F1 k ?_ kb (Int.dvd_mul_of_dvd_right kc)
    exact dvd_away c ka
  · rw [show -B - -b = -(B - b) by omega]
    exact Int.dvd_neg.mpr dv
  · have e1 : cntD f p m = cntD ⟨p * a, B, p * C⟩ p m := by
      unfold cntD
      rw [cnt_eqv fo e]
    rw [cnt_eqv fo e, e1, ← cnt_eqv o1 r1, ← cnt_eqv o2 r2]
    exact two_lines hp pB Fo o1 o2
theorem split_rec {d p b m : Int} (d0 : d < 0) (d1 : -1000 ≤ d) (hp : QR.Pm p) (h : ¬ p ∣ d) (hb : 4 * p ∣ b * b - d) : rD d (p * m) + rDD d p m = 2 * rD d m := by
  have pb : ¬ p ∣ b := fun ⟨t, ht⟩ => by
    obtain ⟨q, hq⟩ := hb
    exact h ⟨t * b - 4 * q, by rw [ht] at hq ⊢; grind⟩
  have ex : ∀ f, ∃ g : Fm × Fm, f ∈ rfL d → (g.1 ∈ rfL d ∧ NbR p b f g.1) ∧ (g.2 ∈ rfL d ∧ NbR p (-b) f g.2) ∧ cnt f (p * m) + cntD f p m = cnt g.1 m + cnt g.2 m := fun f => by
    by_cases hf : f ∈ rfL d
    · obtain ⟨g1, g2, q⟩ := nb_step (m := m) d0 d1 hp h hb hf
      exact ⟨(g1, g2), fun _ => q⟩
    · exact ⟨(f, f), fun z => absurd z hf⟩
  obtain ⟨φ, hφ⟩ := Classical.axiomOfChoice ex
  have e1 := sum_nb (m := m) d0 d1 hp pb (fun f => (φ f).1) fun f hf => (hφ f hf).1
  have e2 := sum_nb (m := m) d0 d1 hp (fun z => pb (Int.dvd_neg.mp z)) (fun f => (φ f).2) fun f hf => (hφ f hf).2.1
  have e3 : (rfL d).map (fun f => cnt f (p * m) + cntD f p m) = (rfL d).map fun f => cnt (φ f).1 m + cnt (φ f).2 m := List.map_congr_left fun f hf => (hφ f hf).2.2
  have e4 := congrArg List.sum e3
  rw [sum_two, sum_two, rDD_sum, e1, e2] at e4
  show rD d (p * m) + rDD d p m = _
  unfold rD at e4 ⊢
  omega
/-- no root: p divides both places -/
theorem inert_at {f : Fm} {p x y m : Int} (hp : QR.Pm p) (no : ∀ b : Int, ¬ 4 * p ∣ b * b - f.D) (h : f.at x y = p * m) : p ∣ y ∧ p ∣ x := by
  refine ⟨Classical.byContradiction fun z => ?_, Classical.byContradiction fun z => ?_⟩
  · obtain ⟨u, v, hv⟩ := inv_pm hp z
    have k : p ∣ y * (y * (f.a * (x * u) * (x * u) + f.b * (x * u) + f.c)) := ⟨m + f.a * x * x * (2 * v + p * v * v) + f.b * x * y * v, by
      have e : y * u = 1 + p * v := by omega
      have : y * (y * (f.a * (x * u) * (x * u) + f.b * (x * u) + f.c)) = f.a * x * x * (y * u) * (y * u) + f.b * x * y * (y * u) + f.c * y * y := by grind
      rw [this, e]
      unfold Fm.at at h
      grind⟩
    obtain ⟨q, hq⟩ := ((QR.Pm.dvd_mul hp k).resolve_left z |> QR.Pm.dvd_mul hp).resolve_left z
    refine no (f.b + 2 * f.a * (x * u)) ⟨f.a * q, ?_⟩
    have : 4 * f.a * (f.a * (x * u) * (x * u) + f.b * (x * u) + f.c) = 4 * f.a * (p * q) := by rw [hq]
    unfold Fm.D
    grind
  · obtain ⟨u, v, hv⟩ := inv_pm hp z
    have k : p ∣ x * (x * (f.a + f.b * (y * u) + f.c * (y * u) * (y * u))) := ⟨m + f.c * y * y * (2 * v + p * v * v) + f.b * x * y * v, by
      have e : x * u = 1 + p * v := by omega
      have : x * (x * (f.a + f.b * (y * u) + f.c * (y * u) * (y * u))) = f.c * y * y * (x * u) * (x * u) + f.b * x * y * (x * u) + f.a * x * x := by grind
      rw [this, e]
      unfold Fm.at at h
      grind⟩
    obtain ⟨q, hq⟩ := ((QR.Pm.dvd_mul hp k).resolve_left z |> QR.Pm.dvd_mul hp).resolve_left z
    refine no (f.b + 2 * f.c * (y * u)) ⟨f.c * q, ?_⟩
    have : 4 * f.c * (f.a + f.b * (y * u) + f.c * (y * u) * (y * u)) = 4 * f.c * (p * q) := by rw [hq]
    unfold Fm.D
    grind
theorem inert_cnt {f : Fm} (fo : f.ok) {p m : Int} (hp : QR.Pm p) (no : ∀ b : Int, ¬ 4 * p ∣ b * b - f.D) : cnt f (p * m) = cntD f p m := by
  have p0 : p ≠ 0 := by have := hp.1; omega
  unfold cntD
  split
  · next d =>
    obtain ⟨n, rfl⟩ := d
    rw [Int.mul_ediv_cancel_left _ p0]
    symm
    refine cnt_bij fo fo (fun r => (p * r.1, p * r.2)) (fun r hr => by unfold Fm.at at hr ⊢; simp only; rw [← hr]; grind) (fun r q e => ?_) fun s hs => ?_
    · obtain ⟨e1, e2⟩ := Prod.mk.inj e
      exact Prod.ext (Int.eq_of_mul_eq_mul_left p0 e1) (Int.eq_of_mul_eq_mul_left p0 e2)
    · obtain ⟨⟨t, ht⟩, ⟨u, hu⟩⟩ := inert_at hp no hs
      exact ⟨(u, t), Int.eq_of_mul_eq_mul_left p0 (Int.eq_of_mul_eq_mul_left p0 (by rw [← hs]; unfold Fm.at; rw [ht, hu]; grind)), Prod.ext hu.symm ht.symm⟩
  · next d =>
    obtain ⟨rs, h⟩ := way_ex fo (p * m)
    rw [cnt_eq h, List.length_eq_zero_iff]
    refine List.eq_nil_iff_forall_not_mem.mpr fun r hr => ?_
    have e := (h.mem r).mp hr
    obtain ⟨⟨t, ht⟩, ⟨u, hu⟩⟩ := inert_at hp no e
    refine d ⟨f.a * u * u + f.b * u * t + f.c * t * t, Int.eq_of_mul_eq_mul_left p0 ?_⟩
    rw [← e]
    unfold Fm.at
    rw [ht, hu]
    grind
theorem inert_rec {d p m : Int} (d0 : d < 0) (d1 : -1000 ≤ d) (hp : QR.Pm p) (no : ∀ b : Int, ¬ 4 * p ∣ b * b - d) : rD d (p * m) = rDD d p m := by
  rw [← rDD_sum]
  unfold rD
  congr 1
  refine List.map_congr_left fun f hf => ?_
  obtain ⟨fD, fo, _, _⟩ := (mem_rfL d0 d1).mp hf
  exact inert_cnt fo hp (by rw [fD]; exact no)
/-! part m_hecke4 -/
/-! the number of ways by all classes, prime by prime -/
/-- the sign of a discriminant for a prime -/
def chiP (d p : Int) : Int := if p = 2 then (if d % 8 = 1 then 1 else if d % 8 = 5 then -1 else 0) else sgn d p
theorem even_sq {x d : Int} (h4 : d % 4 = 0 ∨ d % 4 = 1) (h : (x - d) % 2 = 0) : (4 : Int) ∣ x * x - d := by
  refine Int.dvd_of_emod_eq_zero ?_
  rw [Int.sub_emod, Int.mul_emod]
  rcases (show x % 4 = 0 ∨ x % 4 = 1 ∨ x % 4 = 2 ∨ x % 4 = 3 by omega) with e | e | e | e <;> rcases h4 with f | f <;> (first | (exfalso; omega) | (rw [e, f]; decide))
theorem chi_root {d p : Int} (h4 : d % 4 = 0 ∨ d % 4 = 1) (hp : QR.Pm p) (h : ¬ p ∣ d) : (chiP d p = 1 ∧ ∃ b, 4 * p ∣ b * b - d) ∨ (chiP d p = -1 ∧ ∀ b : Int, ¬ 4 * p ∣ b * b - d) := by
  unfold chiP
  by_cases e : p = 2
  · subst e
    rw [if_pos rfl]
    have o : d % 8 = 1 ∨ d % 8 = 5 := by omega
    rcases o with o | o
    · rw [if_pos o]
      exact .inl ⟨rfl, 1, by omega⟩
    · rw [if_neg (by omega), if_pos o]
      refine .inr ⟨rfl, fun b ⟨t, ht⟩ => ?_⟩
      have e1 : (b * b) % 8 = 5 := by omega
      rw [Int.mul_emod] at e1
      rcases (show b % 8 = 0 ∨ b % 8 = 1 ∨ b % 8 = 2 ∨ b % 8 = 3 ∨ b % 8 = 4 ∨ b % 8 = 5 ∨ b % 8 = 6 ∨ b % 8 = 7 by omega) with z | z | z | z | z | z | z | z <;> (rw [z] at e1; cases e1)
  · rw [if_neg e]
    have op : QR.OP p := ⟨hp, Classical.byContradiction fun z => hp.2 2 (by decide) (by have := hp.1; omega) (Int.dvd_of_emod_eq_zero (by omega))⟩
    rcases sgn_away op (fun z => h (Int.dvd_of_emod_eq_zero z)) with s | s
    · refine .inl ⟨s, ?_⟩
      obtain ⟨x, t, ht⟩ := (sq_ex op h).mp s
      -- the root of the right parity
      obtain ⟨b, par, u, hu⟩ : ∃ b : Int, (b - d) % 2 = 0 ∧ p ∣ b * b - d := by
        by_cases c : (x - d) % 2 = 0
        · exact ⟨x, c, t, ht⟩
        · exact ⟨x + p, by have := op.2; omega, t + 2 * x + p, by grind⟩
      refine ⟨b, ?_⟩
      have f4 := even_sq h4 par
      obtain ⟨v, hv⟩ := f4
      have pu : (4 : Int) ∣ p * u := ⟨v, by omega⟩
      have p4 : p % 4 = 1 ∨ p % 4 = 3 := by have := op.2; omega
      have u4 : u % 4 = 0 := by
        have z := Int.emod_eq_zero_of_dvd pu
        rw [Int.mul_emod] at z
        rcases (show u % 4 = 0 ∨ u % 4 = 1 ∨ u % 4 = 2 ∨ u % 4 = 3 by omega) with y | y | y | y <;> rcases p4 with q | q <;> rw [y, q] at z <;> first | exact y | cases z
      exact ⟨u / 4, by rw [hu]; have : u = 4 * (u / 4) := by omega
                       rw [this]; grind⟩
    · refine .inr ⟨s, fun b ⟨t, ht⟩ => ?_⟩
      have := (sq_ex op h).mpr ⟨b, 4 * t, by rw [ht]; grind⟩
      rw [s] at this
      cases this
theorem hecke {d p m : Int} (d0 : d < 0) (d1 : -1000 ≤ d) (h4 : d % 4 = 0 ∨ d % 4 = 1) (hp : QR.Pm p) (h : ¬ p ∣ d) : (rD d (p * m) : Int) + chiP d p * rDD d p m = (1 + chiP d p) * rD d m := by
  rcases chi_root h4 hp h with ⟨e, b, hb⟩ | ⟨e, no⟩
  · have := split_rec (m := m) d0 d1 hp h hb
    rw [e]
    omega
  · have := inert_rec (m := m) d0 d1 hp no
    rw [e]
    omega
/-- the sum of the powers up to an exponent -/
def sE (c : Int) : Nat → Int
  | 0 => 1
  | e + 1 => sE c e + c ^ (e + 1)
theorem rD_pow {d p n : Int} (d0 : d < 0) (d1 : -1000 ≤ d) (h4 : d % 4 = 0 ∨ d % 4 = 1) (hp : QR.Pm p) (h : ¬ p ∣ d) (pn : ¬ p ∣ n) : ∀ e : Nat, (rD d (p ^ e * n) : Int) = sE (chiP d p) e * rD d n ∧ (rD d (p ^ (e + 1) * n) : Int) = sE (chiP d p) (e + 1) * rD d n
  | 0 => by
    have p0 : p ≠ 0 := by have := hp.1; omega
    refine ⟨by simp [sE], ?_⟩
    have := hecke (m := n) d0 d1 h4 hp h
    rw [show rDD d p n = 0 from if_neg pn] at this
    simp only [sE]
    rw [show p ^ (0 + 1) * n = p * n by rw [Int.pow_succ, Int.pow_zero, Int.one_mul]]
    simp only [Int.pow_succ, Int.pow_zero]
    grind
  | e + 1 => by
    have p0 : p ≠ 0 := by have := hp.1; omega
    obtain ⟨a, b⟩ := rD_pow d0 d1 h4 hp h pn e
    refine ⟨b, ?_⟩
    have k := hecke (m := p ^ (e + 1) * n) d0 d1 h4 hp h
    have q : p ∣ p ^ (e + 1) * n := ⟨p ^ e * n, by rw [Int.pow_succ]; grind⟩
    have q2 : p ^ (e + 1) * n / p = p ^ e * n := by rw [show p ^ (e + 1) * n = p * (p ^ e * n) by rw [Int.pow_succ]; grind, Int.mul_ediv_cancel_left _ p0]
    rw [show rDD d p (p ^ (e + 1) * n) = rD d (p ^ e * n) by unfold rDD; rw [if_pos q, q2], a, b] at k
    rw [show p ^ (e + 1 + 1) * n = p * (p ^ (e + 1) * n) by rw [Int.pow_succ p (e + 1)]; grind]
    have e1 : sE (chiP d p) (e + 1 + 1) = sE (chiP d p) (e + 1) + chiP d p * (sE (chiP d p) (e + 1) - sE (chiP d p) e) := by
      simp only [sE]
      rw [Int.pow_succ _ (e + 1)]
      grind
    rw [e1]
    grind
/-- the units of a discriminant's forms -/
def wD (d : Int) : Nat := if d = -3 then 6 else if d = -4 then 4 else 2
theorem cnt_of {f : Fm} {m : Int} (fo : f.ok) (rs : List (Int × Int)) (n : rs.Nodup) (h : ∀ x y, f.at x y = m ↔ (x, y) ∈ rs) : cnt f m = rs.length := cnt_eq ⟨fun r => (h r.1 r.2).symm, n⟩
theorem cnt_main {d : Int} (d0 : d < 0) (h4 : d % 4 = 0 ∨ d % 4 = 1) : cnt (mainF d) 1 = wD d := by
  have ok := mainF_ok d0 h4
  unfold wD
  by_cases e3 : d = -3
  · subst e3
    rw [if_pos rfl]
    refine cnt_of ok [(1, 0), (-1, 0), (0, 1), (0, -1), (1, -1), (-1, 1)] (by decide) fun x y => ⟨fun h => ?_, fun h => ?_⟩
    · obtain ⟨a, b, c, e⟩ := at_small ok h
      have fx : x ∈ spanZ 4 := mem_spanZ.mpr ⟨a, b⟩
      have fy : y ∈ spanZ 4 := mem_spanZ.mpr ⟨c, e⟩
      have all : ∀ x ∈ spanZ 4, ∀ y ∈ spanZ 4, (mainF (-3)).at x y = 1 → (x, y) ∈ ([(1, 0), (-1, 0), (0, 1), (0, -1), (1, -1), (-1, 1)] : List (Int × Int)) := by decide +kernel
      exact all x fx y fy h
    · have all : ∀ r ∈ ([(1, 0), (-1, 0), (0, 1), (0, -1), (1, -1), (-1, 1)] : List (Int × Int)), (mainF (-3)).at r.1 r.2 = 1 := by decide +kernel
      exact all (x, y) h
  · rw [if_neg e3]
    by_cases e4 : d = -4
    · subst e4
      rw [if_pos rfl]
      refine cnt_of ok [(1, 0), (-1, 0), (0, 1), (0, -1)] (by decide) fun x y => ⟨fun h => ?_, fun h => ?_⟩
      · obtain ⟨a, b, c, e⟩ := at_small ok h
        have fx : x ∈ spanZ 4 := mem_spanZ.mpr ⟨a, b⟩
        have fy : y ∈ spanZ 4 := mem_spanZ.mpr ⟨c, e⟩
        have all : ∀ x ∈ spanZ 4, ∀ y ∈ spanZ 4, (mainF (-4)).at x y = 1 → (x, y) ∈ ([(1, 0), (-1, 0), (0, 1), (0, -1)] : List (Int × Int)) := by decide +kernel
        exact all x fx y fy h
      · have all : ∀ r ∈ ([(1, 0), (-1, 0), (0, 1), (0, -1)] : List (Int × Int)), (mainF (-4)).at r.1 r.2 = 1 := by decide +kernel
        exact all (x, y) h
    · rw [if_neg e4]
      obtain ⟨mD, ma⟩ := mainF_D h4
      refine cnt_of ok [(1, 0), (-1, 0)] (by decide) fun x y => ⟨fun h => ?_, fun h => ?_⟩
      · have pos : 4 * (mainF d).a * (mainF d).at x y = (2 * (mainF d).a * x + (mainF d).b * y) * (2 * (mainF d).a * x + (mainF d).b * y) - (mainF d).D * (y * y) := by unfold Fm.at Fm.D; grind
        rw [h, mD, ma] at pos
        have s1 := sq_nonneg (2 * 1 * x + (mainF d).b * y)
        have y0 : y = 0 := by
          refine Classical.byContradiction fun z => ?_
          have y1 : 1 ≤ y * y := by
            have := sq_nonneg y
            have : y * y ≠ 0 := fun q => (Int.mul_eq_zero.mp q).elim z z
            omega
          have : 7 * 1 ≤ (-d) * (y * y) := Int.mul_le_mul (by omega) y1 (by omega) (by omega)
          have e : (-d) * (y * y) = -(d * (y * y)) := Int.neg_mul ..
          omega
        subst y0
        have x1 : x * x = 1 := by
          have : (2 * 1 * x + (mainF d).b * 0) * (2 * 1 * x + (mainF d).b * 0) = 4 * (x * x) := by grind
          rw [this] at pos
          simp at pos
          omega
        rcases sq_one x1 with e | e <;> rw [e] <;> simp
      · have at0 : ∀ x : Int, (mainF d).at x 0 = x * x := fun x => by
          rw [Fm.at_y0, ma, Int.one_mul]
        rcases List.mem_cons.mp h with e | h
        · obtain ⟨rfl, rfl⟩ := Prod.mk.inj e
          rw [at0]
          rfl
        · obtain ⟨rfl, rfl⟩ := Prod.mk.inj (List.mem_singleton.mp h)
          rw [at0]
          rfl
theorem sum_at {α : Type} [DecidableEq α] {x : α} {w : Nat} : ∀ {l : List α}, l.Nodup → x ∈ l → ∀ (g : α → Nat), g x = w → (∀ y ∈ l, y ≠ x → g y = 0) → (l.map g).sum = w
  | y :: l, n, h, g, e, z => by
    obtain ⟨n1, n2⟩ := List.nodup_cons.mp n
    rw [List.map_cons, List.sum_cons]
    by_cases c : y = x
    · subst c
      have : (l.map g).sum = 0 := by
        have all : ∀ u ∈ l, g u = 0 := fun u hu => z u (List.mem_cons_of_mem _ hu) fun e => n1 (e ▸ hu)
        clear z n2 h n
        induction l with
        | nil => rfl
        | cons u l ih =>
          rw [List.map_cons, List.sum_cons, all u List.mem_cons_self, ih (fun q => n1 (List.mem_cons_of_mem _ q)) fun v hv => all v (List.mem_cons_of_mem _ hv)]
      rw [e, this]
      rfl
    · rw [z y List.mem_cons_self c, sum_at n2 ((List.mem_cons.mp h).resolve_left fun e => c e.symm) g e fun u hu => z u (List.mem_cons_of_mem _ hu)]
      omega
theorem rD_one {d : Int} (d0 : d < 0) (d1 : -1000 ≤ d) (h4 : d % 4 = 0 ∨ d % 4 = 1) : rD d 1 = wD d := by
  obtain ⟨mD, ma⟩ := mainF_D h4
  have mo := mainF_ok d0 h4
  have mr : (mainF d).red := by
    unfold mainF Fm.red Fm.norm
    split
    · refine ⟨⟨by dsimp only; omega, by dsimp only; omega⟩, ?_, fun _ => by dsimp only; omega⟩
      dsimp only
      omega
    · refine ⟨⟨by dsimp only; omega, by dsimp only; omega⟩, ?_, fun _ => by dsimp only; omega⟩
      dsimp only
      omega
  have mm : mainF d ∈ rfL d := (mem_rfL d0 d1).mpr ⟨mD, mo, mr, mainF_prim h4⟩
  refine sum_at rfL_nodup mm _ (cnt_main d0 h4) fun f hf ne => ?_
  obtain ⟨fD, fo, fr, _⟩ := (mem_rfL d0 d1).mp hf
  obtain ⟨rs, h⟩ := way_ex fo 1
  rw [cnt_eq h, List.length_eq_zero_iff]
  refine List.eq_nil_iff_forall_not_mem.mpr fun r hr => ?_
  have e := (h.mem r).mp hr
  have xy : r.1 ≠ 0 ∨ r.2 ≠ 0 := by
    refine Classical.byContradiction fun z => ?_
    have z1 : r.1 = 0 := Classical.byContradiction fun q => z (.inl q)
    have z2 : r.2 = 0 := Classical.byContradiction fun q => z (.inr q)
    rw [z1, z2] at e
    simp [Fm.at] at e
  have ga := fr.ge_a fo.1 xy
  rw [e] at ga
  have fa : f.a = 1 := by have := fo.1; omega
  refine ne ?_
  have fn := fr.1
  unfold Fm.norm at fn
  rw [fa] at fn
  have b01 : f.b = 0 ∨ f.b = 1 := by omega
  unfold Fm.D at fD
  rw [fa] at fD
  unfold mainF
  rcases b01 with b | b
  · rw [b] at fD
    rw [if_pos (by omega)]
    exact Fm.ext' fa b (by dsimp only; omega)
  · rw [b] at fD
    rw [if_neg (by omega)]
    exact Fm.ext' fa b (by dsimp only; omega)
/-! part m_chain -/
/-- a link: the rule, the pair that it leads to, the factor -/
structure Lk where
  r : Str
  n : Int
  m : Int
  f : Int
def Lk.tup (l : Lk) : List V := [.str l.r, .int l.n, .int l.m, .int l.f]
/-- the list that a program's list of links holds -/
def LksAt (H : Hp) : List Addr → List Lk → Prop
  | [], [] => True
  | t :: ts, l :: ls => H t = some (.tup l.tup) ∧ LksAt H ts ls
  | _, _ => False
theorem LksAt.mono {H H' : Hp} (s : Same H H') : ∀ {ts : List Addr} {ls : List Lk}, LksAt H ts ls → LksAt H' ts ls
  | [], [], _ => trivial
  | _ :: _, _ :: _, h => ⟨s _ _ h.1, LksAt.mono s h.2⟩
  | [], _ :: _, h => h.elim
  | _ :: _, [], h => h.elim
theorem LksAt.len {H : Hp} : ∀ {ts : List Addr} {ls : List Lk}, LksAt H ts ls → ts.length = ls.length
  | [], [], _ => rfl
  | _ :: _, _ :: _, h => by rw [List.length_cons, List.length_cons, LksAt.len h.2]
  | [], _ :: _, h => h.elim
  | _ :: _, [], h => h.elim
theorem LksAt.snoc {H : Hp} {t : Addr} {l : Lk} (ht : H t = some (.tup l.tup)) : ∀ {ts : List Addr} {ls : List Lk}, LksAt H ts ls → LksAt H (ts ++ [t]) (ls ++ [l])
  | [], [], _ => ⟨ht, trivial⟩
  | _ :: _, _ :: _, h => ⟨h.1, LksAt.snoc ht h.2⟩
  | [], _ :: _, h => h.elim
  | _ :: _, [], h => h.elim
/-! part m_shown -/
/-! part m_chain2 -/
theorem sgn_one (n : Int) : sgn n 1 = 1 := by
  unfold sgn
  rw [Int.emod_one, show (0 : Int).toNat = 0 from rfl, show (1 : Int).toNat = 1 from rfl, jac_zero, if_pos rfl]
theorem sgn_end {n m : Int} (hm : 0 < m) (hm2 : m % 2 = 1) (h : m = 1 ∨ n = 0 ∨ n = 1) : sgn n m = if n = 0 ∧ m ≠ 1 then 0 else 1 := by
  by_cases h1 : m = 1
  · subst h1
    rw [sgn_one, if_neg (fun z => z.2 rfl)]
  · rcases h with h | h | h
    · exact absurd h h1
    · subst h
      rw [if_pos ⟨rfl, h1⟩]
      unfold sgn
      rw [Int.zero_emod, show (0 : Int).toNat = 0 from rfl, jac_zero, if_neg (by omega)]
    · subst h
      rw [if_neg (fun z => absurd z.1 (by decide))]
      unfold sgn
      rw [Int.emod_eq_of_lt (by omega) (by omega), show (1 : Int).toNat = 1 from rfl, jac_turn (by decide), Nat.mod_one, jac_zero, if_pos rfl]
      unfold facR
      rw [if_neg (by omega)]
      rfl
/-! part m_chid -/
/-! the sign of a discriminant for a divisor -/
theorem two_uniq : ∀ {k j : Nat} {o u : Int}, o % 2 = 1 → u % 2 = 1 → 2 ^ k * o = 2 ^ j * u → k = j ∧ o = u
  | 0, 0, o, u, _, _, e => ⟨rfl, by simpa using e⟩
  | 0, j + 1, o, u, ho, _, e => by
    rw [Int.pow_succ, Int.pow_zero, Int.one_mul, show (2 : Int) ^ j * 2 * u = 2 * (2 ^ j * u) by grind] at e
    omega
  | k + 1, 0, o, u, _, hu, e => by
    rw [Int.pow_succ, Int.pow_zero, Int.one_mul, show (2 : Int) ^ k * 2 * o = 2 * (2 ^ k * o) by grind] at e
    omega
  | k + 1, j + 1, o, u, ho, hu, e => by
    rw [Int.pow_succ, Int.pow_succ, show (2 : Int) ^ k * 2 * o = 2 * (2 ^ k * o) by grind, show (2 : Int) ^ j * 2 * u = 2 * (2 ^ j * u) by grind] at e
    obtain ⟨a, b⟩ := two_uniq (k := k) (j := j) ho hu (by omega)
    exact ⟨by omega, b⟩
def eps2 (D : Int) : Int := if D % 8 = 5 then -1 else 1
open Classical in
noncomputable def chiD (D d : Int) : Int := if h : ∃ r : Int, ∃ (k : Nat) (o : Int), d = 2 ^ k * o ∧ o % 2 = 1 ∧ r = eps2 D ^ k * sgn D o then h.choose else 0
theorem chiD_eq {D d o : Int} {k : Nat} (e : d = 2 ^ k * o) (ho : o % 2 = 1) : chiD D d = eps2 D ^ k * sgn D o := by
  unfold chiD
  have h : ∃ r : Int, ∃ (k : Nat) (o : Int), d = 2 ^ k * o ∧ o % 2 = 1 ∧ r = eps2 D ^ k * sgn D o := ⟨_, k, o, e, ho, rfl⟩
  rw [dif_pos h]
  obtain ⟨j, u, e2, hu, er⟩ := h.choose_spec
  rw [er]
  obtain ⟨a, b⟩ := two_uniq ho hu (e.symm.trans e2)
  rw [a, b]
theorem two_split : ∀ (n : Nat) {d : Int}, 1 ≤ d → d ≤ n → ∃ (k : Nat) (o : Int), d = 2 ^ k * o ∧ o % 2 = 1 ∧ 1 ≤ o
  | 0, d, h, l => by omega
  | n + 1, d, h, l => by
    by_cases c : d % 2 = 1
    · exact ⟨0, d, by simp, c, h⟩
    · obtain ⟨k, o, e, ho, o1⟩ := two_split n (d := d / 2) (by omega) (by omega)
      exact ⟨k + 1, o, by rw [Int.pow_succ, show (2 : Int) ^ k * 2 * o = 2 * (2 ^ k * o) by grind, ← e]; omega, ho, o1⟩
theorem pm_pos {p : Int} (hp : QR.Pm p) : 1 ≤ p := by have := hp.1; omega
theorem odd_mul {a b : Int} (ha : a % 2 = 1) (hb : b % 2 = 1) : a * b % 2 = 1 := by rw [Int.mul_emod, ha, hb]; rfl
theorem chiD_prime {D d p : Int} (hp : QR.Pm p) (h : ¬ p ∣ D) (d4 : D % 4 = 0 ∨ D % 4 = 1) (d1 : 1 ≤ d) : chiD D (d * p) = chiD D d * chiP D p := by
  obtain ⟨k, o, e, ho, o1⟩ := two_split d.toNat d1 (by omega)
  rw [chiD_eq e ho]
  by_cases p2 : p = 2
  · subst p2
    rw [chiD_eq (k := k + 1) (o := o) (by rw [e, Int.pow_succ]; grind) ho]
    have : chiP D 2 = eps2 D := by
      unfold chiP eps2
      rw [if_pos rfl]
      have o : D % 8 = 1 ∨ D % 8 = 5 := by omega
      rcases o with o | o <;> rw [o] <;> rfl
    rw [this, Int.pow_succ]
    grind
  · have po : p % 2 = 1 := Classical.byContradiction fun z => hp.2 2 (by decide) (by have := hp.1; omega) (Int.dvd_of_emod_eq_zero (by omega))
    rw [chiD_eq (k := k) (o := o * p) (by rw [e]; grind) (odd_mul ho po), sgn_mod_mul o1 ho D (pm_pos hp) po]
    unfold chiP
    rw [if_neg p2]
    grind
theorem chiD_pow {D d p : Int} (hp : QR.Pm p) (h : ¬ p ∣ D) (d4 : D % 4 = 0 ∨ D % 4 = 1) (d1 : 1 ≤ d) : ∀ j : Nat, chiD D (d * p ^ j) = chiD D d * chiP D p ^ j
  | 0 => by simp
  | j + 1 => by
    have e : d * p ^ (j + 1) = d * p ^ j * p := by rw [Int.pow_succ]; grind
    have pj : 0 < d * p ^ j := Int.mul_pos (by omega) (Int.pow_pos (by have := hp.1; omega))
    rw [e, chiD_prime hp h d4 (by omega), chiD_pow hp h d4 d1 j, Int.pow_succ]
    grind
/-- the divisors, prime by prime -/
def divR (F : List Int) (p : Int) (e : Nat) : List Int := F.flatMap fun d => (List.range (e + 1)).map fun j : Nat => d * p ^ j
def divL : List Int → List (Int × Nat) → List Int := List.foldl fun F x => divR F x.1 x.2
theorem sum_range {c x : Int} : ∀ e : Nat, ((List.range (e + 1)).map fun j : Nat => x * c ^ j).sum = x * sE c e
  | 0 => by simp [sE]
  | e + 1 => by
    rw [List.range_succ, List.map_append, List.sum_append, sum_range e]
    simp only [List.map_cons, List.map_nil, List.sum_cons, List.sum_nil, sE]
    grind
theorem divR_sum {D p : Int} (hp : QR.Pm p) (h : ¬ p ∣ D) (d4 : D % 4 = 0 ∨ D % 4 = 1) {e : Nat} : ∀ {F : List Int}, (∀ d ∈ F, 1 ≤ d) → ((divR F p e).map (chiD D)).sum = (F.map (chiD D)).sum * sE (chiP D p) e
  | [], _ => by simp [divR]
  | d :: F, hF => by
    have ih := divR_sum hp h d4 (e := e) (F := F) fun x hx => hF x (List.mem_cons_of_mem _ hx)
    unfold divR at ih ⊢
    rw [List.flatMap_cons, List.map_append, List.sum_append, ih, List.map_map]
    have e1 : ((List.range (e + 1)).map ((chiD D) ∘ fun j : Nat => d * p ^ j)) = (List.range (e + 1)).map fun j : Nat => chiD D d * chiP D p ^ j :=
      List.map_congr_left fun j _ => chiD_pow hp h d4 (hF d List.mem_cons_self) j
    rw [e1, sum_range, List.map_cons, List.sum_cons]
    grind
theorem divR_mem {p : Int} {e : Nat} {F : List Int} {x : Int} : x ∈ divR F p e ↔ ∃ d ∈ F, ∃ j : Nat, j ≤ e ∧ x = d * p ^ j := by
  unfold divR
  rw [List.mem_flatMap]
  constructor
  · rintro ⟨d, hd, hx⟩
    obtain ⟨j, hj, rfl⟩ := List.mem_map.mp hx
    exact ⟨d, hd, j, by have := List.mem_range.mp hj; omega, rfl⟩
  · rintro ⟨d, hd, j, hj, rfl⟩
    exact ⟨d, hd, List.mem_map.mpr ⟨j, List.mem_range.mpr (by omega), rfl⟩⟩
theorem pm_dpow {q x : Int} (hp : QR.Pm q) : ∀ n : Nat, q ∣ x ^ n → q ∣ x
  | 0, h => by
    rw [Int.pow_zero] at h
    have := Int.le_of_dvd (by decide) h
    have := hp.1
    omega
  | n + 1, h => by
    rw [Int.pow_succ] at h
    exact (QR.Pm.dvd_mul hp h).elim (pm_dpow hp n) id
theorem prodF_away {p : Int} (pp : QR.Pm p) : ∀ {l : List (Int × Nat)}, (∀ y ∈ l, QR.Pm y.1 ∧ p < y.1) → ¬ p ∣ prodF l
  | [], _, z => by
    have := Int.le_of_dvd (by decide) (show p ∣ 1 from z)
    have := pp.1
    omega
  | y :: l, h, z => by
    rcases QR.Pm.dvd_mul pp (show p ∣ y.1 ^ y.2 * prodF l from z) with u | u
    · obtain ⟨a, b⟩ := h y List.mem_cons_self
      exact a.2 p pp.1 b (pm_dpow pp _ u)
    · exact prodF_away pp (fun x hx => h x (List.mem_cons_of_mem _ hx)) u
/-- what the divisors so far say of what is left -/
theorem div_rD {D : Int} (d0 : D < 0) (d1 : -1000 ≤ D) (h4 : D % 4 = 0 ∨ D % 4 = 1) : ∀ {fs : List (Int × Nat)} {F : List Int}, (∀ x ∈ fs, QR.Pm x.1 ∧ 1 ≤ x.2) → (∀ x ∈ fs, ¬ x.1 ∣ D) → fs.Pairwise (fun a b => a.1 < b.1) → (∀ d ∈ F, 1 ≤ d) →
    ((divL F fs).map (chiD D)).sum * wD D = (F.map (chiD D)).sum * rD D (prodF fs)
  | [], F, _, _, _, _ => by
    show (F.map (chiD D)).sum * _ = (F.map (chiD D)).sum * rD D 1
    rw [rD_one d0 d1 h4]
  | (p, e) :: fs, F, hp, hD, as, hF => by
    obtain ⟨a1, a2⟩ := List.pairwise_cons.mp as
    obtain ⟨pp, e1⟩ := hp _ List.mem_cons_self
    have nD := hD _ List.mem_cons_self
    have ih := div_rD d0 d1 h4 (F := divR F p e) (fun x hx => hp x (List.mem_cons_of_mem _ hx)) (fun x hx => hD x (List.mem_cons_of_mem _ hx)) a2 fun x hx => by
      obtain ⟨d, hd, j, _, rfl⟩ := divR_mem.mp hx
      have : 0 < d * p ^ j := Int.mul_pos (by have := hF d hd; omega) (Int.pow_pos (by have := pp.1; omega))
      omega
    show ((divL (divR F p e) fs).map (chiD D)).sum * _ = (F.map (chiD D)).sum * rD D (p ^ e * prodF fs)
    have pn : ¬ p ∣ prodF fs := prodF_away pp fun y hy => ⟨(hp y (List.mem_cons_of_mem _ hy)).1, a1 y hy⟩
    rw [ih, divR_sum pp nD h4 hF, (rD_pow d0 d1 h4 pp nD pn e).1]
    grind
theorem divR_ok {p : Int} (hp : 2 ≤ p) {e : Nat} {F : List Int} {M : Int} (hF : ∀ d ∈ F, 1 ≤ d ∧ d ≤ M) : ∀ x ∈ divR F p e, 1 ≤ x ∧ x ≤ M * p ^ e := fun x hx => by
  obtain ⟨d, hd, j, hj, rfl⟩ := divR_mem.mp hx
  obtain ⟨a, b⟩ := hF d hd
  have pj : 0 < p ^ j := Int.pow_pos (by omega)
  have pe : p ^ j ≤ p ^ e := by
    obtain ⟨k, rfl⟩ := Nat.exists_eq_add_of_le hj
    rw [Int.pow_add]
    have pk : 0 < p ^ k := Int.pow_pos (by omega)
    have := Int.mul_le_mul_of_nonneg_left (show 1 ≤ p ^ k by omega) (show 0 ≤ p ^ j by omega)
    omega
  have h1 : 0 < d * p ^ j := Int.mul_pos (by omega) pj
  have h2 : d * p ^ j ≤ M * p ^ e := Int.mul_le_mul b pe (by omega) (by omega)
  omega
theorem divR_len {p : Int} {e : Nat} : ∀ {F : List Int}, (divR F p e).length = F.length * (e + 1)
  | [] => by simp [divR]
  | d :: F => by
    have ih := divR_len (p := p) (e := e) (F := F)
    unfold divR at ih ⊢
    rw [List.flatMap_cons, List.length_append, ih, List.length_map, List.length_range, List.length_cons, Nat.add_mul]
    omega
theorem exp_le : ∀ e : Nat, e + 1 ≤ 2 ^ e
  | 0 => Nat.le_refl _
  | e + 1 => by
    have := exp_le e
    rw [Nat.pow_succ]
    omega
theorem pow_le2 {p : Int} (hp : 2 ≤ p) : ∀ e : Nat, ((2 ^ e : Nat) : Int) ≤ p ^ e
  | 0 => by simp
  | e + 1 => by
    have ih := pow_le2 hp e
    rw [Nat.pow_succ, Int.pow_succ, Int.natCast_mul]
    exact Int.mul_le_mul ih (by omega) (by omega) (by have : (0 : Int) ≤ ((2 ^ e : Nat) : Int) := Int.natCast_nonneg _; omega)
theorem divL_ok : ∀ {fs : List (Int × Nat)} {F : List Int} {M : Int}, (∀ x ∈ fs, 2 ≤ x.1) → (∀ d ∈ F, 1 ≤ d ∧ d ≤ M) → 0 ≤ M → (F.length : Int) ≤ M → (∀ x ∈ divL F fs, 1 ≤ x ∧ x ≤ M * prodF fs) ∧ ((divL F fs).length : Int) ≤ M * prodF fs
  | [], F, M, _, hF, _, hl => by
    show (∀ x ∈ F, 1 ≤ x ∧ x ≤ M * 1) ∧ (F.length : Int) ≤ M * 1
    rw [Int.mul_one]
    exact ⟨hF, hl⟩
  | (p, e) :: fs, F, M, hp, hF, hM, hl => by
    have p2 : 2 ≤ p := hp _ List.mem_cons_self
    have pe : 0 < p ^ e := Int.pow_pos (by omega)
    have := divL_ok (fs := fs) (F := divR F p e) (M := M * p ^ e) (fun x hx => hp x (List.mem_cons_of_mem _ hx)) (divR_ok p2 hF) (Int.mul_nonneg hM (by omega)) (by
      rw [divR_len, Int.natCast_mul]
      have a := pow_le2 p2 e
      have b := exp_le e
      exact Int.mul_le_mul hl (by omega) (by omega) hM)
    show (∀ x ∈ divL (divR F p e) fs, 1 ≤ x ∧ x ≤ M * (p ^ e * prodF fs)) ∧ ((divL (divR F p e) fs).length : Int) ≤ M * (p ^ e * prodF fs)
    rw [← Int.mul_assoc]
    exact this
theorem chiD_one {D : Int} : chiD D 1 = 1 := by
  rw [chiD_eq (k := 0) (o := 1) (by simp) (by decide), Int.pow_zero, Int.one_mul]
  have := sgn_end (n := D) (m := 1) (by decide) (by decide) (.inl rfl)
  rw [this]
  simp
theorem cop_facs {D m : Int} {fs : List (Int × Nat)} (f : FacOk m fs) (g : Int.gcd D m = 1) : ∀ x ∈ fs, ¬ x.1 ∣ D := fun x hx z => by
  obtain ⟨hp, he⟩ := f.prime x hx
  have dm : x.1 ∣ m := by
    rw [← f.prod]
    clear g f
    induction fs with
    | nil => cases hx
    | cons y l ih =>
      show x.1 ∣ y.1 ^ y.2 * prodF l
      rcases List.mem_cons.mp hx with e | h
      · rw [e] at he ⊢
        refine Int.dvd_mul_of_dvd_left ?_
        obtain ⟨k, hk⟩ := Nat.exists_eq_add_of_le he
        rw [hk, Nat.add_comm, Int.pow_succ]
        exact ⟨_, Int.mul_comm ..⟩
      · exact Int.dvd_mul_of_dvd_right (ih h)
  have := Int.dvd_coe_gcd z dm
  rw [g] at this
  have := Int.le_of_dvd (by decide) this
  have := hp.1
  omega
/-- the sum over the divisors -/
theorem div_sum {D m : Int} {fs : List (Int × Nat)} (d0 : D < 0) (d1 : -1000 ≤ D) (h4 : D % 4 = 0 ∨ D % 4 = 1) (f : FacOk m fs) (g : Int.gcd D m = 1) : (wD D : Int) * ((divL [1] fs).map (chiD D)).sum = rD D m := by
  have := div_rD d0 d1 h4 (F := [1]) f.prime (cop_facs f g) f.asc (fun d hd => by rw [List.mem_singleton.mp hd]; decide)
  rw [f.prod] at this
  simp only [List.map_cons, List.map_nil, List.sum_cons, List.sum_nil, chiD_one] at this
  rw [Int.mul_comm]
  omega
theorem eps_one (D : Int) : ∀ k : Nat, eps2 D ^ k = 1 ∨ eps2 D ^ k = -1
  | 0 => .inl (by rw [Int.pow_zero])
  | k + 1 => by
    rw [Int.pow_succ]
    have : eps2 D = 1 ∨ eps2 D = -1 := by unfold eps2; split <;> simp
    rcases eps_one D k with a | a <;> rcases this with b | b <;> rw [a, b] <;> decide
theorem chiD_b {D d : Int} (d1 : 1 ≤ d) : -1 ≤ chiD D d ∧ chiD D d ≤ 1 := by
  obtain ⟨k, o, e, ho, o1⟩ := two_split d.toNat d1 (by omega)
  rw [chiD_eq e ho]
  have s : sgn D o = 0 ∨ sgn D o = 1 ∨ sgn D o = -1 := by
    by_cases c : Int.gcd D o = 1
    · exact .inr (sgn_pm o1 ho c)
    · exact .inl ((sgn_zero o1 ho).mpr c)
  rcases eps_one D k with a | a <;> rcases s with b | b | b <;> rw [a, b] <;> decide
theorem chi_sum {D : Int} : ∀ {F : List Int}, (∀ d ∈ F, 1 ≤ d) → -(F.length : Int) ≤ (F.map (chiD D)).sum ∧ (F.map (chiD D)).sum ≤ F.length
  | [], _ => by simp
  | d :: F, h => by
    have ih := chi_sum (D := D) (F := F) fun x hx => h x (List.mem_cons_of_mem _ hx)
    have := chiD_b (D := D) (h d List.mem_cons_self)
    rw [List.map_cons, List.sum_cons, List.length_cons]
    omega
/-! part m_pow -/
/-! powers on a clock -/
theorem cg_pow {p a b : Int} (h : p ∣ a - b) : ∀ e : Nat, p ∣ a ^ e - b ^ e
  | 0 => ⟨0, by simp⟩
  | e + 1 => by
    obtain ⟨c, hc⟩ := cg_pow h e
    obtain ⟨d, hd⟩ := h
    exact ⟨c * a + b ^ e * d, by rw [Int.pow_succ, Int.pow_succ, Int.mul_add, ← Int.mul_assoc, ← hc, Int.mul_left_comm, ← hd]; grind⟩
theorem sq_pow (b : Int) : ∀ e : Nat, (b * b) ^ e = b ^ (2 * e)
  | 0 => by simp
  | e + 1 => by rw [Int.pow_succ, sq_pow b e, show 2 * (e + 1) = 2 * e + 1 + 1 by omega, Int.pow_succ, Int.pow_succ, Int.mul_assoc]
theorem pw_even {p r b X : Int} {e : Nat} (h : p ∣ r * b ^ e - X) (he : e % 2 = 0) : p ∣ r * (b * b % p) ^ (e / 2) - X := by
  have e1 := Int.mul_ediv_add_emod (b * b) p
  obtain ⟨c, hc⟩ := cg_pow (p := p) (a := b * b % p) (b := b * b) ⟨-(b * b / p), by rw [Int.mul_neg]; omega⟩ (e / 2)
  obtain ⟨d, hd⟩ := h
  rw [sq_pow, show 2 * (e / 2) = e by omega] at hc
  exact ⟨r * c + d, by rw [Int.mul_add, ← hd, Int.mul_left_comm, ← hc]; grind⟩
theorem pw_odd {p r b X : Int} {e : Nat} (h : p ∣ r * b ^ e - X) (he : e % 2 = 1) : p ∣ r * b % p * (b * b % p) ^ (e / 2) - X := by
  refine pw_even (e := e - 1) ?_ (by omega) |> fun z => by rw [show (e - 1) / 2 = e / 2 by omega] at z; exact z
  have e1 := Int.mul_ediv_add_emod (r * b) p
  obtain ⟨d, hd⟩ := h
  rw [show e = (e - 1) + 1 by omega, Int.pow_succ] at hd
  generalize r * b / p = q at *
  generalize r * b % p = s at *
  have es : s = r * b - p * q := by omega
  refine ⟨d - q * b ^ (e - 1), ?_⟩
  rw [Int.mul_sub, ← hd, es]
  clear hd e1 es he
  grind
theorem pw_fin {p r X : Int} (h : p ∣ r * X ^ 0 - Y) (h0 : 0 ≤ r) (h1 : r < p) : r = Y % p := by
  obtain ⟨c, hc⟩ := h
  rw [Int.pow_zero, Int.mul_one] at hc
  rw [show Y = r + p * -c by rw [Int.mul_neg]; omega, Int.add_mul_emod_self_left, Int.emod_eq_of_lt h0 h1]
/-! part m_gaussl -/
theorem euler_sgn {n p : Int} (hp : QR.OP p) : (if n ^ ((p - 1) / 2).toNat % p = p - 1 then -1 else n ^ ((p - 1) / 2).toNat % p) = sgn n p := by
  have h3 := hp.three
  by_cases e : n ^ ((p - 1) / 2).toNat % p = p - 1
  · rw [if_pos e]
    exact ((euler_pow hp).mp e).symm
  · rw [if_neg e]
    have ne : sgn n p ≠ -1 := fun z => e ((euler_pow hp).mpr z)
    obtain ⟨h, rfl⟩ := odd_half (by omega) hp.2
    rw [show ((2 * (h : Int) + 1 - 1) / 2).toNat = h by omega]
    by_cases h0 : n % (2 * (h : Int) + 1) = 0
    · rw [sgn_at0 hp h0]
      obtain ⟨c, hc⟩ := Int.dvd_of_emod_eq_zero h0
      refine Int.emod_eq_zero_of_dvd ?_
      obtain ⟨k, rfl⟩ : ∃ k, h = k + 1 := ⟨h - 1, by omega⟩
      rw [Int.pow_succ]
      exact Int.dvd_mul_of_dvd_right ⟨c, hc⟩
    · obtain ⟨c, hc⟩ := QR.gauss hp.1 (a := n) fun z => h0 (Int.emod_eq_zero_of_dvd z)
      rcases sgn_away hp h0 with e1 | e1
      · rw [e1]
        rw [sgn_G] at e1
        rw [e1] at hc
        exact rest_by (r := 1) ⟨c, hc⟩ (by omega) (by omega)
      · exact absurd e1 ne
/-! part m_sidestep -/
theorem side_step {lo hi m : Int} (h0 : 0 ≤ lo) (h1 : hi - lo > 1) (hm : m = (lo + hi) / 2) : lo < m ∧ m < hi := by omega
/-! part m_draw -/
/-- what was drawn below each size -/
def DrawOk : List Int → List Int → Prop
  | [], [] => True
  | d :: ds, s :: ss => (0 ≤ d ∧ d < s) ∧ DrawOk ds ss
  | _, _ => False
theorem DrawOk.len : ∀ {ds ss : List Int}, DrawOk ds ss → ds.length = ss.length
  | [], [], _ => rfl
  | _ :: _, _ :: _, h => by rw [List.length_cons, List.length_cons, DrawOk.len h.2]
  | [], _ :: _, h => h.elim
  | _ :: _, [], h => h.elim
theorem DrawOk.snoc : ∀ {ds ss : List Int} {d s : Int}, DrawOk ds ss → 0 ≤ d ∧ d < s → DrawOk (ds ++ [d]) (ss ++ [s])
  | [], [], _, _, _, h => ⟨h, trivial⟩
  | _ :: _, _ :: _, _, _, h, k => ⟨h.1, DrawOk.snoc h.2 k⟩
  | [], _ :: _, _, _, h, _ => h.elim
  | _ :: _, [], _, _, h, _ => h.elim
theorem DrawOk.cons_inv {ds ss : List Int} {s : Int} (h : DrawOk ds (s :: ss)) : ∃ d ds', ds = d :: ds' ∧ 0 ≤ d ∧ d < s ∧ DrawOk ds' ss := by
  cases ds with
  | nil => exact h.elim
  | cons d ds' => exact ⟨d, ds', rfl, h.1.1, h.1.2, h.2⟩
theorem DrawOk.nil_inv {ds : List Int} (h : DrawOk ds []) : ds = [] := by
  cases ds with
  | nil => rfl
  | cons d ds' => exact h.elim
/-! ## the text by places -/
def topS (i : Nat) : Stmt := PySem.Challenge.pw_everyprime_k96_whole_ways_by_all_forms.main.body.getD i (.Pass ⟨0, 0, 0, 0⟩)
abbrev s_checked_modulus : Stmt := topS 11
theorem sc_checked_modulus : FnScope ["m"] ["m"] (defScope s_checked_modulus) := ⟨rfl, rfl, rfl, by decide +kernel, rfl, by decide +kernel, by decide +kernel⟩
abbrev s_factor_of : Stmt := topS 12
theorem sc_factor_of : FnScope ["rule", "n", "m"] ["rule", "n", "m"] (defScope s_factor_of) := ⟨rfl, rfl, rfl, by decide +kernel, rfl, by decide +kernel, by decide +kernel⟩
abbrev s_sign : Stmt := topS 13
theorem sc_sign : FnScope ["n", "m", "result"] ["n", "m"] (defScope s_sign) := ⟨rfl, rfl, rfl, by decide +kernel, rfl, by decide +kernel, by decide +kernel⟩
abbrev s_sign_of_divisor : Stmt := topS 20
theorem sc_sign_of_divisor : FnScope ["discriminant", "d", "result", "odd"] ["discriminant", "d"] (defScope s_sign_of_divisor) := ⟨rfl, rfl, rfl, by decide +kernel, rfl, by decide +kernel, by decide +kernel⟩
abbrev s_factors : Stmt := topS 6
theorem sc_factors : FnScope ["n", "found", "divisor", "exponent"] ["n"] (defScope s_factors) := ⟨rfl, rfl, rfl, by decide +kernel, rfl, by decide +kernel, by decide +kernel⟩
abbrev s_all_divisors : Stmt := topS 21
theorem sc_all_divisors : FnScope ["m", "found", "prime", "exponent", "powers", "count", "divisor", "power"] ["m"] (defScope s_all_divisors) := ⟨rfl, rfl, rfl, by decide +kernel, rfl, by decide +kernel, by decide +kernel⟩
abbrev s_common : Stmt := topS 5
theorem sc_common : FnScope ["a", "b", "first", "second"] ["a", "b"] (defScope s_common) := ⟨rfl, rfl, rfl, by decide +kernel, rfl, by decide +kernel, by decide +kernel⟩
abbrev s_total_ways : Stmt := topS 22
theorem sc_total_ways : FnScope ["discriminant", "m", "units_of_forms", "total", "d"] ["discriminant", "m"] (defScope s_total_ways) := ⟨rfl, rfl, rfl, by decide +kernel, rfl, by decide +kernel, by decide +kernel⟩
abbrev s_law_asked : Stmt := topS 31
theorem sc_law_asked : FnScope ["_law_d", "_law_m", "e"] ["_law_d", "_law_m"] (defScope s_law_asked) := ⟨rfl, rfl, rfl, by decide +kernel, rfl, by decide +kernel, by decide +kernel⟩
abbrev s_law_sign : Stmt := topS 27
theorem sc_law_sign : FnScope ["_law_n", "_law_p", "_law_result", "_law_base", "_law_exponent"] ["_law_n", "_law_p"] (defScope s_law_sign) := ⟨rfl, rfl, rfl, by decide +kernel, rfl, by decide +kernel, by decide +kernel⟩
abbrev s_law_sign_for : Stmt := topS 29
theorem sc_law_sign_for : FnScope ["_law_d", "_law_prime"] ["_law_d", "_law_prime"] (defScope s_law_sign_for) := ⟨rfl, rfl, rfl, by decide +kernel, rfl, by decide +kernel, by decide +kernel⟩
abbrev s_law_sum : Stmt := topS 30
theorem sc_law_sum : FnScope ["_law_d", "_law_m", "_law_total", "_law_left_over", "_law_prime", "_law_part", "_law_raised"] ["_law_d", "_law_m"] (defScope s_law_sum) := ⟨rfl, rfl, rfl, by decide +kernel, rfl, by decide +kernel, by decide +kernel⟩
abbrev s_Form_init : Stmt := inClass (topS 8) 0
theorem sc_Form_init : FnScope ["self", "a", "b", "c"] ["self", "a", "b", "c"] (defScope s_Form_init) := ⟨rfl, rfl, rfl, by decide +kernel, rfl, by decide +kernel, by decide +kernel⟩
abbrev s_moved_back : Stmt := topS 17
theorem sc_moved_back : FnScope ["point", "steps", "x", "y", "k"] ["point", "steps"] (defScope s_moved_back) := ⟨rfl, rfl, rfl, by decide +kernel, rfl, by decide +kernel, by decide +kernel⟩
abbrev s_side_of : Stmt := topS 15
theorem sc_side_of : FnScope ["square", "low", "high", "middle"] ["square"] (defScope s_side_of) := ⟨rfl, rfl, rfl, by decide +kernel, rfl, by decide +kernel, by decide +kernel⟩
abbrev s_plain_ways : Stmt := topS 18
theorem sc_plain_ways : FnScope ["form", "m", "found", "y", "rest", "side", "root_of_rest", "height", "numerator"] ["form", "m"] (defScope s_plain_ways) := ⟨rfl, rfl, rfl, by decide +kernel, rfl, by decide +kernel, by decide +kernel⟩
abbrev s_Form_next_step : Stmt := inClass (topS 8) 6
theorem sc_Form_next_step : FnScope ["self"] ["self"] (defScope s_Form_next_step) := ⟨rfl, rfl, rfl, by decide +kernel, rfl, by decide +kernel, by decide +kernel⟩
abbrev s_Form_stepped : Stmt := inClass (topS 8) 4
theorem sc_Form_stepped : FnScope ["self", "k"] ["self", "k"] (defScope s_Form_stepped) := ⟨rfl, rfl, rfl, by decide +kernel, rfl, by decide +kernel, by decide +kernel⟩
abbrev s_Form_steps : Stmt := inClass (topS 8) 7
theorem sc_Form_steps : FnScope ["self", "found", "form", "k"] ["self"] (defScope s_Form_steps) := ⟨rfl, rfl, rfl, by decide +kernel, rfl, by decide +kernel, by decide +kernel⟩
abbrev s_Form_turned : Stmt := inClass (topS 8) 5
theorem sc_Form_turned : FnScope ["self", "steps", "form", "k"] ["self", "steps"] (defScope s_Form_turned) := ⟨rfl, rfl, rfl, by decide +kernel, rfl, by decide +kernel, by decide +kernel⟩
abbrev s_ways : Stmt := topS 19
theorem sc_ways : FnScope ["form", "m", "steps", "reduced", "point"] ["form", "m"] (defScope s_ways) := ⟨rfl, rfl, rfl, by decide +kernel, rfl, by decide +kernel, by decide +kernel⟩
abbrev s_reduced_forms : Stmt := topS 9
theorem sc_reduced_forms : FnScope ["discriminant", "found", "a", "b", "c", "fits"] ["discriminant"] (defScope s_reduced_forms) := ⟨rfl, rfl, rfl, by decide +kernel, rfl, by decide +kernel, by decide +kernel⟩
abbrev s_law_common : Stmt := topS 28
theorem sc_law_common : FnScope ["_law_a", "_law_b", "_law_first", "_law_second"] ["_law_a", "_law_b"] (defScope s_law_common) := ⟨rfl, rfl, rfl, by decide +kernel, rfl, by decide +kernel, by decide +kernel⟩
abbrev s_law_is_integer : Stmt := topS 26
theorem sc_law_is_integer : FnScope ["_law_actual"] ["_law_actual"] (defScope s_law_is_integer) := ⟨rfl, rfl, rfl, by decide +kernel, rfl, by decide +kernel, by decide +kernel⟩
abbrev s_law_cell : Stmt := topS 24
theorem sc_law_cell : FnScope ["_law_script", "_law_k"] ["_law_script", "_law_k"] (defScope s_law_cell) := ⟨rfl, rfl, rfl, by decide +kernel, rfl, by decide +kernel, by decide +kernel⟩
abbrev s_law_draws : Stmt := topS 25
theorem sc_law_draws : FnScope ["_law_cell_here", "_law_sizes", "_law_drawn", "_law_left", "_law_at", "_law_mixed"] ["_law_cell_here", "_law_sizes"] (defScope s_law_draws) := ⟨rfl, rfl, rfl, by decide +kernel, rfl, by decide +kernel, by decide +kernel⟩
abbrev s_law : Stmt := topS 32
theorem sc_law : FnScope ["_law_script", "_law_k", "_law_drawn", "_law_d", "_law_m", "_law_told", "_law_w", "_law_listed", "_law_form"] ["_law_script"] (defScope s_law) := ⟨rfl, rfl, rfl, by decide +kernel, rfl, by decide +kernel, by decide +kernel⟩
abbrev s_BadForm_init : Stmt := inClass (topS 3) 0
abbrev s_BadModulus_init : Stmt := inClass (topS 2) 0
/-- the addresses of the classes -/
structure Adr where
  c_BadForm : Addr
  c_BadModulus : Addr
  c_Form : Addr
  c_base : Addr
structure Txt (K : PySem.W.Frag) (mg : Str → Option Value) (Ad : Adr) : Prop where
  b_abs : mg "abs" = none
  b_bool : mg "bool" = none
  b_int : mg "int" = none
  b_isinstance : mg "isinstance" = none
  b_len : mg "len" = none
  b_max : mg "max" = none
  b_min : mg "min" = none
  b_range : mg "range" = none
  b_reversed : mg "reversed" = none
  b_sorted : mg "sorted" = none
  b_sum : mg "sum" = none
  d_checked_modulus : DefAt K mg "checked_modulus" s_checked_modulus ["m"]
  d_factor_of : DefAt K mg "factor_of" s_factor_of ["rule", "n", "m"]
  d_sign : DefAt K mg "sign" s_sign ["n", "m"]
  d_sign_of_divisor : DefAt K mg "sign_of_divisor" s_sign_of_divisor ["discriminant", "d"]
  d_factors : DefAt K mg "factors" s_factors ["n"]
  d_all_divisors : DefAt K mg "all_divisors" s_all_divisors ["m"]
  d_common : DefAt K mg "common" s_common ["a", "b"]
  d_total_ways : DefAt K mg "total_ways" s_total_ways ["discriminant", "m"]
  d_law_asked : DefAt K mg "_law_asked" s_law_asked ["_law_d", "_law_m"]
  d_law_sign : DefAt K mg "_law_sign" s_law_sign ["_law_n", "_law_p"]
  d_law_sign_for : DefAt K mg "_law_sign_for" s_law_sign_for ["_law_d", "_law_prime"]
  d_law_sum : DefAt K mg "_law_sum" s_law_sum ["_law_d", "_law_m"]
  d_Form_init : MkAt K mg "Form" Ad.c_Form "Form.__init__" s_Form_init ["self", "a", "b", "c"]
  d_moved_back : DefAt K mg "moved_back" s_moved_back ["point", "steps"]
  d_side_of : DefAt K mg "side_of" s_side_of ["square"]
  d_plain_ways : DefAt K mg "plain_ways" s_plain_ways ["form", "m"]
  d_Form_next_step : MethAt K Ad.c_Form "next_step" "Form.next_step" s_Form_next_step ["self"]
  d_Form_stepped : MethAt K Ad.c_Form "stepped" "Form.stepped" s_Form_stepped ["self", "k"]
  d_Form_steps : MethAt K Ad.c_Form "steps" "Form.steps" s_Form_steps ["self"]
  d_Form_turned : MethAt K Ad.c_Form "turned" "Form.turned" s_Form_turned ["self", "steps"]
  d_ways : DefAt K mg "ways" s_ways ["form", "m"]
  d_reduced_forms : DefAt K mg "reduced_forms" s_reduced_forms ["discriminant"]
  d_law_common : DefAt K mg "_law_common" s_law_common ["_law_a", "_law_b"]
  d_law_is_integer : DefAt K mg "_law_is_integer" s_law_is_integer ["_law_actual"]
  d_law_cell : DefAt K mg "_law_cell" s_law_cell ["_law_script", "_law_k"]
  d_law_draws : DefAt K mg "_law_draws" s_law_draws ["_law_cell_here", "_law_sizes"]
  g_Form : mg "Form" = some (.ref Ad.c_Form)
  cl_Form : Cls K Ad.c_Form
  ty_Form : ∀ (H : Hp) (a dx : Addr) (fs : List (Str × V)), H a = some (.ins Ad.c_Form dx fs) → TyX K H (.ref a) (.ref Ad.c_Form)
  ki_Form : PySem.W.kitOne K (.ref Ad.c_Form) (.ref Ad.c_Form) = some true
  kl_Form : PySem.W.kitOne K (.type "list") (.ref Ad.c_Form) = some false
  nl_Form : PySem.W.notFirst K Ad.c_Form (.type "list") = true
  nf_Form_a : NoAttr K Ad.c_Form "a"
  nf_Form_b : NoAttr K Ad.c_Form "b"
  nf_Form_c : NoAttr K Ad.c_Form "c"
  nf_Form_discriminant : NoAttr K Ad.c_Form "discriminant"
  base : BaseC K mg Ad.c_base
  r_BadForm : ErrRaw K mg "BadForm" Ad.c_BadForm s_BadForm_init "BadForm.__init__" ["self", "a", "b", "c"]
  no_BadForm_a : PySem.W.findIn K (.ref Ad.c_BadForm) "a" = some none
  no_BadForm_b : PySem.W.findIn K (.ref Ad.c_BadForm) "b" = some none
  no_BadForm_c : PySem.W.findIn K (.ref Ad.c_BadForm) "c" = some none
  r_BadModulus : ErrRaw K mg "BadModulus" Ad.c_BadModulus s_BadModulus_init "BadModulus.__init__" ["self", "modulus"]
  no_BadModulus_modulus : PySem.W.findIn K (.ref Ad.c_BadModulus) "modulus" = some none
  triv : True
section
variable {P : Program} {w : World} {K : PySem.W.Frag} {mg : Str → Option Value} {base : Heap} {Ad : Adr}
def fl_BadForm (ws : List V) : List (Str × V) := match ws with | [v0, v1, v2] => [("c", v2), ("b", v1), ("a", v0)] | _ => []
theorem sc_BadForm_init : FnScope ["self", "a", "b", "c"] ["self", "a", "b", "c"] (defScope s_BadForm_init) := ⟨rfl, rfl, rfl, by decide +kernel, rfl, by decide +kernel, by decide +kernel⟩
theorem Txt.err_BadForm (T : Txt K mg Ad) : ErrC P w K mg base "BadForm" 3 fl_BadForm Ad.c_BadForm := by
  refine ErrC.of T.r_BadForm fun fI fd F => ?_
  refine F.okX sc_BadForm_init (fun vs H Q E h => ?_) (fun cdv A outer s H vs Q E hr h => ?_)
  · obtain ⟨a, ws, rfl, hl, _⟩ := h
    simp [hl]
  · obtain ⟨a, ws, rfl, hl, ha, q⟩ := h
    obtain ⟨v0, v1, v2, rfl⟩ := len_3 hl
    refine ⟨_, pss_cons (ps_expr (pe_ceinit T.base (pa_cons (pv 0) (pa_cons pe_str pa_nil)))) (pss_cons (ps_ost (pv 0) (pv 1)) (pss_cons (ps_ost (pv 0) (pv 2)) (pss_one (ps_ost (pv 0) (pv 3))))), ?_⟩
    refine ⟨.ref a, rfl, a, Ad.c_BadForm, [.str _], rfl, by show 1 ≤ 1000; decide, T.r_BadForm.T, ha, ?_⟩
    refine ⟨v0, rfl, .ref a, rfl, a, Ad.c_BadForm, rfl, T.r_BadForm.T, T.no_BadForm_a, .inl ⟨ha, fun dx nd ne => ?_⟩⟩
    refine ⟨v1, rfl, .ref a, rfl, a, Ad.c_BadForm, rfl, T.r_BadForm.T, T.no_BadForm_b, .inr ⟨dx, [("a", v0)], ?_, ?_, by show 1 ≤ 900; decide, ?_⟩⟩
    · repeat (first | exact upd_same | rw [upd_ne (Ne.symm ne)])
    · repeat (first | exact upd_same | rw [upd_ne ne])
    refine ⟨v2, rfl, .ref a, rfl, a, Ad.c_BadForm, rfl, T.r_BadForm.T, T.no_BadForm_c, .inr ⟨dx, [("b", v1), ("a", v0)], ?_, ?_, by show 2 ≤ 900; decide, ?_⟩⟩
    · repeat (first | exact upd_same | rw [upd_ne (Ne.symm ne)])
    · repeat (first | exact upd_same | rw [upd_ne ne])
    have z := q dx nd ne
    have e : ∀ (o1 o2 o3 o4 : HO), True := fun _ _ _ _ => trivial
    refine Eq.mp (congrArg (Q V.non) ?_) z
    funext b
    by_cases hb : b = dx
    · subst hb
      repeat (first | rw [upd_same] | rw [upd_ne ne])
      rfl
    · by_cases ha2 : b = a
      · subst ha2
        repeat (first | rw [upd_same] | rw [upd_ne hb])
      · repeat (first | rw [upd_ne hb] | rw [upd_ne ha2])
def fl_BadModulus (ws : List V) : List (Str × V) := match ws with | [v0] => [("modulus", v0)] | _ => []
theorem sc_BadModulus_init : FnScope ["self", "modulus"] ["self", "modulus"] (defScope s_BadModulus_init) := ⟨rfl, rfl, rfl, by decide +kernel, rfl, by decide +kernel, by decide +kernel⟩
theorem Txt.err_BadModulus (T : Txt K mg Ad) : ErrC P w K mg base "BadModulus" 1 fl_BadModulus Ad.c_BadModulus := by
  refine ErrC.of T.r_BadModulus fun fI fd F => ?_
  refine F.okX sc_BadModulus_init (fun vs H Q E h => ?_) (fun cdv A outer s H vs Q E hr h => ?_)
  · obtain ⟨a, ws, rfl, hl, _⟩ := h
    simp [hl]
  · obtain ⟨a, ws, rfl, hl, ha, q⟩ := h
    obtain ⟨v0, rfl⟩ := len_1 hl
    refine ⟨_, pss_cons (ps_expr (pe_ceinit T.base (pa_cons (pv 0) (pa_cons pe_str pa_nil)))) (pss_one (ps_ost (pv 0) (pv 1))), ?_⟩
    refine ⟨.ref a, rfl, a, Ad.c_BadModulus, [.str _], rfl, by show 1 ≤ 1000; decide, T.r_BadModulus.T, ha, ?_⟩
    refine ⟨v0, rfl, .ref a, rfl, a, Ad.c_BadModulus, rfl, T.r_BadModulus.T, T.no_BadModulus_modulus, .inl ⟨ha, fun dx nd ne => ?_⟩⟩
    exact q dx nd ne
/-! ### checked_modulus -/
def spCheckedModulus (C : Addr) : Sp := fun vs H Q E => ∃ m : Int, vs = [.int m] ∧ (m < 1 ∨ m % 2 = 0 → ∀ d, H d = none → E (.ref C) (some d) (upd H d (.xd [("modulus", .int m)]))) ∧ (1 ≤ m → m % 2 = 1 → Q .non H)
theorem ok_checked_modulus (T : Txt K mg Ad) : Def P w K mg base 3 "checked_modulus" ["m"] (spCheckedModulus Ad.c_BadModulus) := by
  refine T.d_checked_modulus.ok sc_checked_modulus (fun vs H Q E h => ?_) (fun f cdv A outer s H vs Q E hr h => ?_)
  · obtain ⟨m, rfl, _⟩ := h
    rfl
  · obtain ⟨m, rfl, qe, qo⟩ := h
    refine ⟨_, (pss_one (ps_if (PW.pt (pw_or (pt_cmpR op_lt (pv 0) pe_int (nomark _)) (pw_or1 (pt_cmpR op_eq (pe_op op_mod (pv 0) pe_int) pe_int (nomark _))))) (pss_one (ps_raise rfl (takes_of rfl rfl rfl rfl) (pmk_err (T.err_BadModulus) (hr.mono (by decide)) (pa_cons (pv 0) pa_nil)))) pss_nil)), ?_⟩
    try dsimp only [cxOf]
    wtm_at "ra"
    · exact qe (by omega)
    · exact qe (by omega)
    · exact qo (by omega) (by omega)
/-! ### factor_of -/
def spFactorOf : Sp := fun vs H Q _ => ∃ (rule : Str) (n m : Int), vs = [.str rule, .int n, .int m] ∧ NoT H ∧ Q (.int (factorOf rule n m)) H
theorem ok_factor_of (T : Txt K mg Ad) : Def P w K mg base 1 "factor_of" ["rule", "n", "m"] spFactorOf := by
  refine T.d_factor_of.ok sc_factor_of (fun vs H Q E h => ?_) (fun f cdv A outer s H vs Q E hr h => ?_)
  · obtain ⟨rule, n, m, rfl, _⟩ := h
    rfl
  · obtain ⟨rule, n, m, rfl, nt, q⟩ := h
    refine ⟨_, (pss_cons (ps_if (PW.pt (pw_and (pt_cmpR op_eq (pv 0) pe_str (nomark _)) (pw_and1 (pt_pure (pt_cmpR op_in_seq (pe_op op_mod (pv 2) pe_int) (pe_tup (pa_cons pe_int (pa_cons pe_int pa_nil))) (by rfl)))))) (pss_one (ps_ret (pe_un un_neg pe_int))) pss_nil)
      (pss_cons (ps_if (PW.pt (pw_and (pt_cmpR op_eq (pv 0) pe_str (nomark _)) (pw_and1 (pt_cmpR op_eq (pe_op op_mod (pv 2) pe_int) pe_int (nomark _))))) (pss_one (ps_ret (pe_un un_neg pe_int))) pss_nil)
      (pss_cons (ps_if (PW.pt (pw_and (pt_cmpR op_eq (pv 0) pe_str (nomark _)) (pw_and (pt_cmpR op_eq (pe_op op_mod (pv 1) pe_int) pe_int (nomark _)) (pw_and1 (pt_cmpR op_eq (pe_op op_mod (pv 2) pe_int) pe_int (nomark _)))))) (pss_one (ps_ret (pe_un un_neg pe_int))) pss_nil)
      (pss_one (ps_ret pe_int))))), ?_⟩
    try dsimp only [cxOf]
    wtm_at "ra"
    all_goals (refine Eq.mp (congrArg (fun z => Q (V.int z) H) ?_) q; first | (simp [factorOf, *]; done) | (subst_vars; simp [factorOf, str_ne1, str_ne2, str_ne3, str_ne4, *]))
theorem use_factor_of {rule : Str} {n m : Int} {H : Hp} {Q : VK} {E : XK} (nt : NoT H) (q : ∀ z : Int, z = factorOf rule n m → z = 1 ∨ z = -1 → Q (.int z) H) : spFactorOf [.str rule, .int n, .int m] H Q E :=
  ⟨rule, n, m, rfl, nt, q _ rfl (factorOf_pm rule n m)⟩
local macro_rules | `(tactic| wtm_at "s") => `(tactic| ((with_reducible refine use_factor_of (by wtm_at "nt") ?_); intro z hz hpm))
/-! ### sign -/
def spSign (C : Addr) : Sp := fun vs H Q E => ∃ (n m : Int), vs = [.int n, .int m] ∧ NoT H ∧ (m < 1 ∨ m % 2 = 0 → ∀ d, H d = none → E (.ref C) (some d) (upd H d (.xd [("modulus", .int m)]))) ∧ (1 ≤ m → m % 2 = 1 → Q (.int (sgn n m)) H)
theorem ok_sign (T : Txt K mg Ad) : Def P w K mg base 4 "sign" ["n", "m"] (spSign Ad.c_BadModulus) := by
  refine T.d_sign.ok sc_sign (fun vs H Q E h => ?_) (fun f cdv A outer s H vs Q E hr h => ?_)
  · obtain ⟨n, m, rfl, _⟩ := h
    rfl
  · obtain ⟨n, m, rfl, nt, qe, qo⟩ := h
    refine ⟨_, (pss_cons (ps_expr (pe_d (ok_checked_modulus T) (hr.mono (by decide)) (passes_call (takes_of rfl rfl rfl rfl) (fun _ _ _ _ h => h)) (pa_cons (pv 1) pa_nil)))
      (pss_cons (ps_set (i := 2) sc_sign.nd rfl (Or.inl rfl) pe_int)
      (pss_cons (ps_set (i := 0) sc_sign.nd rfl (Or.inl rfl) (pe_op op_mod (pv 0) (pv 1)))
      (pss_cons (ps_while (passes_of rfl) (pt_cmpR op_ne (pv 0) pe_int (nomark _)) (pss_cons (ps_while (passes_of rfl) (pt_cmpR op_eq (pe_op op_mod (pv 0) pe_int) pe_int (nomark _)) (pss_cons (ps_set (i := 0) sc_sign.nd rfl (Or.inl rfl) (pe_op op_fdivB (pv 0) pe_int))
      (pss_one (ps_set (i := 2) sc_sign.nd rfl (Or.inl rfl) (pe_op op_mulB (pv 2) (pe_d (ok_factor_of T) (hr.mono (by decide)) (passes_call (takes_of rfl rfl rfl rfl) (fun _ _ _ _ h => h)) (pa_cons pe_str (pa_cons (pv 0) (pa_cons (pv 1) pa_nil)))))))))
      (pss_cons (ps_set (i := 2) sc_sign.nd rfl (Or.inl rfl) (pe_op op_mulB (pv 2) (pe_d (ok_factor_of T) (hr.mono (by decide)) (passes_call (takes_of rfl rfl rfl rfl) (fun _ _ _ _ h => h)) (pa_cons pe_str (pa_cons (pv 0) (pa_cons (pv 1) pa_nil))))))
      (pss_one (ps_par (i := 0) (j := 1) rfl sc_sign.nd rfl rfl (by decide) rfl rfl (pa_cons (pe_op op_mod (pv 1) (pv 0)) (pa_cons (pv 0) pa_nil)) (by rfl))))))
      (pss_cons (ps_if (pt_cmpR op_eq (pv 1) pe_int (nomark _)) (pss_one (ps_ret (pv 2))) pss_nil)
      (pss_one (ps_ret pe_int))))))), ?_⟩
    try dsimp only [cxOf]
    wtm_at "rs"
    refine ⟨m, rfl, qe, fun h1 h2 => ?_⟩
    wtm_at "rs"
    refine rd_while (fun μ σ H' => ∃ (r a b : Int), μ = a.toNat ∧ σ = [some (.int a), some (.int b), some (.int r)] ∧ H = H' ∧ 0 ≤ a ∧ 0 < b ∧ b % 2 = 1 ∧ r * jac a.toNat b.toNat = sgn n m) (n % m).toNat
      ⟨1, n % m, m, rfl, rfl, rfl, Int.emod_nonneg _ (by omega), by omega, h2, by rw [Int.one_mul]; rfl⟩ ?_
    rintro μ σ H' ⟨r, a, b, rfl, rfl, rfl, ha, hb, hb2, inv⟩
    wtm_at "rs"
    wtm_at "i"
    · wtm_at "rs"
      refine rd_while (fun μ σ H' => ∃ (r a' : Int), μ = a'.toNat ∧ σ = [some (.int a'), some (.int b), some (.int r)] ∧ H = H' ∧ 0 < a' ∧ a' ≤ a ∧ r * jac a'.toNat b.toNat = sgn n m) a.toNat
        ⟨r, a, rfl, rfl, rfl, by omega, by omega, inv⟩ ?_
      rintro μ σ H' ⟨r, a', rfl, rfl, rfl, ha', hle, inv⟩
      wtm_at "rs"
      wtm_at "i"
      · wtm_at "rs"
        rename_i h0 _ he z hz hpm
        refine ⟨_, ?_, r * z, a' / 2, rfl, rfl, rfl, by omega, by omega, ?_⟩
        · omega
        · rw [hz, factorOf_two _ _ hb]
          rw [jac_two (by omega) (by omega)] at inv
          rw [show (a' / 2).toNat = a'.toNat / 2 by omega, Int.mul_assoc]
          exact inv
      · wtm_at "rs"
        rename_i h0 _ he z hz hpm
        refine ⟨_, ?_, r * z, b % a', a', rfl, rfl, rfl, Int.emod_nonneg _ (by omega), by omega, by omega, ?_⟩
        · have := Int.emod_lt_of_pos b ha'
          omega
        · rw [hz, factorOf_turn _ _ (by omega) hb]
          rw [jac_turn (by omega)] at inv
          rw [show (b % a').toNat = b.toNat % a'.toNat from Int.toNat_emod (by omega) (by omega), Int.mul_assoc]
          exact inv
    · rename_i h0
      have e0 : a = 0 := by simpa using h0
      subst e0
      have jz := jac_zero b.toNat
      rw [show (0 : Int).toNat = 0 from rfl, jz] at inv
      have q := qo h1 h2
      rw [← inv] at q
      wtm_at "ra"
      · rename_i hb1
        rw [if_pos (by omega), Int.mul_one] at q
        exact q
      · rename_i hb1
        rw [if_neg (by omega), Int.mul_zero] at q
        exact q
theorem use_sign {C : Addr} {n m : Int} {H : Hp} {Q : VK} {E : XK} (nt : NoT H) (h1 : 1 ≤ m) (h2 : m % 2 = 1) (q : Q (.int (sgn n m)) H) : spSign C [.int n, .int m] H Q E :=
  ⟨n, m, rfl, nt, fun h => by omega, fun _ _ => q⟩
/-! ### sign_of_divisor -/
def spSoD : Sp := fun vs H Q _ => ∃ D d : Int, vs = [.int D, .int d] ∧ -1000 ≤ D ∧ D ≤ 1000 ∧ 1 ≤ d ∧ d < 2 ^ 40 ∧ NoT H ∧ Q (.int (chiD D d)) H
theorem use_SoD {D d : Int} {H : Hp} {Q : VK} {E : XK} (h1 : -1000 ≤ D) (h2 : D ≤ 1000) (h3 : 1 ≤ d) (h4 : d < 2 ^ 40) (nt : NoT H) (q : Q (.int (chiD D d)) H) : spSoD [.int D, .int d] H Q E := ⟨D, d, rfl, h1, h2, h3, h4, nt, q⟩
theorem eps_pm (D : Int) : ∀ k : Nat, eps2 D ^ k = 1 ∨ eps2 D ^ k = -1
  | 0 => .inl (by rw [Int.pow_zero])
  | k + 1 => by
    rw [Int.pow_succ]
    have : eps2 D = 1 ∨ eps2 D = -1 := by unfold eps2; split <;> simp
    rcases eps_pm D k with a | a <;> rcases this with b | b <;> rw [a, b] <;> decide
theorem ok_sign_of_divisor (T : Txt K mg Ad) : Def P w K mg base 5 "sign_of_divisor" ["discriminant", "d"] spSoD := by
  refine T.d_sign_of_divisor.ok sc_sign_of_divisor (fun vs H Q E h => ?_) (fun f cdv A outer s H vs Q E hr h => ?_)
  · obtain ⟨D, d, rfl, _⟩ := h
    rfl
  · obtain ⟨D, d, rfl, D0, D1, d1, d2, nt, q⟩ := h
    refine ⟨_, (pss_cons (ps_set (i := 2) sc_sign_of_divisor.nd rfl (Or.inl rfl) pe_int)
      (pss_cons (ps_set (i := 3) sc_sign_of_divisor.nd rfl (Or.inl rfl) (pv 1))
      (pss_cons (ps_while (passes_of rfl) (pt_cmpR op_eq (pe_op op_mod (pv 3) pe_int) pe_int (nomark _)) (pss_cons (ps_set (i := 3) sc_sign_of_divisor.nd rfl (Or.inl rfl) (pe_op op_fdivB (pv 3) pe_int))
      (pss_one (ps_if (pt_cmpR op_eq (pe_op op_mod (pv 0) pe_int) pe_int (nomark _)) (pss_one (ps_set (i := 2) sc_sign_of_divisor.nd rfl (Or.inl rfl) (pe_un un_neg (pv 2)))) pss_nil))))
      (pss_one (ps_ret (pe_op op_mulB (pv 2) (pe_d (ok_sign T) (hr.mono (by decide)) (passes_call (takes_of rfl rfl rfl rfl) (fun _ _ _ _ h => h)) (pa_cons (pv 0) (pa_cons (pv 3) pa_nil))))))))), ?_⟩
    try dsimp only [cxOf]
    wtm_at "rs"
    refine rd_while (fun μ σ H' => ∃ (k : Nat) (o : Int), μ = o.toNat ∧ σ = [some (.int D), some (.int d), some (.int (eps2 D ^ k)), some (.int o)] ∧ H = H' ∧ 1 ≤ o ∧ o ≤ d ∧ d = 2 ^ k * o) d.toNat ⟨0, d, rfl, by rw [Int.pow_zero]; rfl, rfl, d1, Int.le_refl _, by rw [Int.pow_zero, Int.one_mul]⟩ ?_
    rintro μ σ H' ⟨k, o, rfl, rfl, rfl, o1, od, e⟩
    have bo : Bd 40 o := Bd.of (by omega) (by omega)
    have pm := eps_pm D k
    wtm_at "rs"
    by_cases c : o % 2 = 0
    · rw [if_pos (decide_eq_true c)]
      wtm_at "rs"
      have e2 : d = 2 ^ (k + 1) * (o / 2) := by
        rw [Int.pow_succ, Int.mul_assoc, show (2 : Int) * (o / 2) = o by omega]
        exact e
      by_cases f : D % 8 = 5
      · rw [if_pos (decide_eq_true f)]
        wtm_at "rs"
        have ee : eps2 D ^ (k + 1) = -(eps2 D ^ k) := by
          rw [Int.pow_succ, show eps2 D = -1 from if_pos f]
          omega
        exact ⟨_, by omega, k + 1, o / 2, rfl, by rw [ee]; rfl, rfl, by omega, by omega, e2⟩
      · rw [if_neg (by rw [decide_eq_true_iff]; exact f)]
        wtm_at "rs"
        have ee : eps2 D ^ (k + 1) = eps2 D ^ k := by
          rw [Int.pow_succ, show eps2 D = 1 from if_neg f, Int.mul_one]
        exact ⟨_, by omega, k + 1, o / 2, rfl, by rw [ee]; rfl, rfl, by omega, by omega, e2⟩
    · rw [if_neg (by rw [decide_eq_true_iff]; exact c)]
      wtm_at "rs"
      refine use_sign nt o1 (by omega) ?_
      have e3 := chiD_eq (D := D) e (by omega)
      have b1 : Bd 20 (eps2 D ^ k) := Bd.of (by omega) (by omega)
      wtm_at "rs"
      rw [← e3]
      exact q
/-! ### factors -/
def spFactors : Sp := fun vs H Q E => ∃ n : Int, vs = [.int n] ∧ NoT H ∧ 1 ≤ n ∧ n < 2 ^ 100 ∧ ∀ p H' ts fs, Same H H' → NoT H' → H p = none → H' p = some (.lst (ts.map V.ref)) → RowsAt H' ts (fs.map rowF) → FacOk n fs → Q (.ref p) H'
theorem ok_factors (T : Txt K mg Ad) : Def P w K mg base 1 "factors" ["n"] spFactors := by
  refine T.d_factors.ok sc_factors (fun vs H Q E h => ?_) (fun f cdv A outer s H vs Q E hr h => ?_)
  · obtain ⟨n, rfl, _⟩ := h
    rfl
  · obtain ⟨n0, rfl, nt, hn1, hn2, qo⟩ := h
    refine ⟨_, (pss_cons (ps_set (i := 1) sc_factors.nd rfl (Or.inl rfl) (pe_lst pa_nil))
      (pss_cons (ps_set (i := 2) sc_factors.nd rfl (Or.inl rfl) pe_int)
      (pss_cons (ps_while (passes_of rfl) (pt_cmpR op_le (pe_op op_mulB (pv 2) (pv 2)) (pv 0) (nomark _)) (pss_cons (ps_set (i := 3) sc_factors.nd rfl (Or.inl rfl) pe_int)
      (pss_cons (ps_while (passes_of rfl) (pt_cmpR op_eq (pe_op op_mod (pv 0) (pv 2)) pe_int (nomark _)) (pss_cons (ps_set (i := 0) sc_factors.nd rfl (Or.inl rfl) (pe_op op_fdivB (pv 0) (pv 2)))
      (pss_one (ps_aug (i := 3) sc_factors.nd rfl (Or.inl rfl) pe_int ip_add))))
      (pss_cons (ps_if (pt_cmpR op_gt (pv 3) pe_int (nomark _)) (pss_one (ps_expr (pe_bm PySem.F.plainAttrs_list PySem.F.slot_list_append PySem.F.type_list_append mt_append (pv 1) (pa_cons (pe_tup (pa_cons (pv 2) (pa_cons (pv 3) pa_nil))) pa_nil)))) pss_nil)
      (pss_one (ps_aug (i := 2) sc_factors.nd rfl (Or.inl rfl) pe_int ip_add))))))
      (pss_cons (ps_if (pt_cmpR op_gt (pv 0) pe_int (nomark _)) (pss_one (ps_expr (pe_bm PySem.F.plainAttrs_list PySem.F.slot_list_append PySem.F.type_list_append mt_append (pv 1) (pa_cons (pe_tup (pa_cons (pv 0) (pa_cons pe_int pa_nil))) pa_nil)))) pss_nil)
      (pss_one (ps_ret (pv 1))))))), ?_⟩
    try dsimp only [cxOf]
    wtm_at "rs"
    rename_i p hp
    refine rd_while (fun μ σ H' => ∃ (n d : Int) (ts : List Addr) (fs : List (Int × Nat)) (v3 : Option V), μ = (n0 + 2 - d).toNat ∧ σ = [some (.int n), some (.ref p), some (.int d), v3] ∧ Same H H' ∧ NoT H' ∧ H' p = some (.lst (ts.map V.ref)) ∧ RowsAt H' ts (fs.map rowF) ∧ FacInv n0 n d fs ∧ n ≤ n0 ∧ d < 2 ^ 61) n0.toNat
      ⟨n0, 2, [], [], none, by omega, rfl, same_new hp, NoT.upd nt rfl, upd_same, trivial, FacInv.start hn1, by omega, by decide⟩ ?_
    rintro μ σ H' ⟨n, d, ts, fs, v3, rfl, rfl, sm, nt', hp', hl, inv, hle, hd61⟩
    have d2 := inv.two
    have n1 := inv.pos
    wtm_at "rs"
    wtm_at "i"
    · rename_i hdd
      have db := QR.le_sq (show 1 ≤ d by omega)
      have dsq := QR.sq_bound (by omega) hdd (show n < 2 ^ 120 by omega)
      wtm_at "rs"
      refine rd_while (fun μ σ H2 => ∃ (m : Int) (e : Nat), μ = m.toNat ∧ σ = [some (.int m), some (.ref p), some (.int d), some (.int e)] ∧ H' = H2 ∧ m * d ^ e = n ∧ 1 ≤ m ∧ m ≤ n) n.toNat
        ⟨n, 0, rfl, rfl, rfl, by simp, n1, Int.le_refl _⟩ ?_
      rintro μ σ H2 ⟨m, e, rfl, rfl, rfl, hm, hm1, hmn⟩
      wtm_at "rs"
      wtm_at "i"
      · rename_i hz
        have hdv := Int.mul_ediv_add_emod m d
        have hq1 : 1 ≤ m / d := by
          rcases Int.lt_or_le (m / d) 1 with z | z
          · exfalso
            have : d * (m / d) ≤ d * 0 := Int.mul_le_mul_of_nonneg_left (by omega) (by omega)
            omega
          · exact z
        have hq2 : m / d < m := by
          have : 2 * (m / d) ≤ d * (m / d) := Int.mul_le_mul_of_nonneg_right d2 (by omega)
          omega
        wtm_at "rs"
        refine ⟨_, ?_, m / d, e + 1, rfl, rfl, rfl, ?_, hq1, by omega⟩
        · omega
        · rw [Int.pow_succ, ← hm]
          have : m = d * (m / d) := by omega
          conv => rhs; rw [this]
          grind
      · rename_i hz
        have hnd : ¬ d ∣ m := fun z => hz (Int.emod_eq_zero_of_dvd z)
        wtm_at "rs"
        wtm_at "i"
        · rename_i he
          have inv2 := inv.next (by omega) hm hm1 hnd
          have flen := inv.len hn2
          have hroom : (ts.map V.ref).length < sizeLine := by
            rw [List.length_map, hl.len, List.length_map]
            exact Nat.lt_of_le_of_lt (m := 1000000) (by omega) (by decide)
          wtm_at "rs"
          rename_i t ht
          refine ⟨_, ?_, m, d + 1, ts ++ [t], fs ++ [(d, e)], _, rfl, rfl, by wtm_at "sm", by wtm_at "nt", by rw [upd_same, List.map_append]; rfl, ?_, inv2, by omega, by omega⟩
          · omega
          · rw [List.map_append]
            refine RowsAt.other ((same_new ht) _ _ hp') (RowsAt.snoc upd_same (hl.mono (same_new ht)))
        · rename_i he
          have e0 : e = 0 := by omega
          subst e0
          have em : m = n := by simpa using hm
          subst em
          wtm_at "rs"
          exact ⟨_, by omega, m, d + 1, ts, fs, _, rfl, rfl, sm, nt', hp', hl, inv.next0 hnd, by omega, by omega⟩
    · rename_i hdd
      wtm_at "rs"
      wtm_at "i"
      · rename_i h1
        have flen := inv.len hn2
        have hroom : (ts.map V.ref).length < sizeLine := by
          rw [List.length_map, hl.len, List.length_map]
          exact Nat.lt_of_le_of_lt (m := 1000000) (by omega) (by decide)
        wtm_at "rs"
        rename_i t ht
        refine qo p _ (ts ++ [t]) (fs ++ [(n, 1)]) (by wtm_at "sm") (by wtm_at "nt") hp (by rw [upd_same, List.map_append]; rfl) ?_ (inv.done h1 (by omega))
        rw [List.map_append]
        exact RowsAt.other ((same_new ht) _ _ hp') (RowsAt.snoc upd_same (hl.mono (same_new ht)))
      · rename_i h1
        have en : n = 1 := by omega
        subst en
        wtm_at "rs"
        exact qo p H' ts fs sm nt' hp hp' hl inv.done1
/-! ### all_divisors -/
section
variable {K : PySem.W.Frag} {σ : L2.St} {H : Hp} {Q : VK} {tt tt1 : TT} {te : TE} {g g1 : TG} {wi1 : TI} {vs vs1 : List Nat}
theorem rd_lc2IL {D t : Addr} {us : List V} {Nx : Hp → Prop} {σ2 : L2.St} {H4 : Hp} (I : Nat → Hp → Prop) (h0 : I 0 H4) (hT : ∀ j H5, I j H5 → SqL K H5 t us)
    (hs : ∀ j u H5, us[j]? = some u → I j H5 → g1 u (wipe σ2 vs1) H5 fun σ3 H6 => wipe σ3 vs1 = wipe σ2 vs1 ∧ tt1 σ3 H6 fun b H7 => if b = true then te σ3 H7 (fun y H8 => ∃ acc, H8 D = some (.lst acc) ∧ acc.length < sizeLine ∧ I (j + 1) (upd H8 D (.lst (acc ++ [y])))) else I (j + 1) H7)
    (q : ∀ H5, I us.length H5 → Nx H5) : lc2I (Itl K t) g1 tt1 te vs1 D Nx σ2 H4 := by
  refine ⟨fun j k H' => k = us.length - j ∧ j ≤ us.length ∧ I j H', ⟨_, rfl, Nat.zero_le _, h0⟩, ?_⟩
  rintro j k H' ⟨rfl, hj, hI⟩
  have hS := hT j H' hI
  by_cases hlt : j < us.length
  · have hx : us[j]? = some us[j] := by simp [hlt]
    refine .inr ⟨⟨_, _, hS, hx⟩, fun H' => I (j + 1) H', fun H' p' => ⟨us.length - (j + 1), by omega, rfl, hlt, p'⟩, fun x H'' y => ?_⟩
    obtain ⟨e, y⟩ := y
    subst e
    have ex : x = us[j] := Option.some.inj ((y _ hS).symm.trans hx)
    subst ex
    exact hs j _ _ hx hI
  · have e : j = us.length := by omega
    subst e
    exact .inl ⟨⟨_, hS, Nat.le_refl _⟩, q _ hI⟩
end
def spDivs : Sp := fun vs H Q _ => ∃ m : Int, vs = [.int m] ∧ 1 ≤ m ∧ m ≤ 2000 ∧ NoT H ∧ ∀ (p : Addr) (fs : List (Int × Nat)) (H' : Hp), Same H H' → NoT H' → H p = none → FacOk m fs → H' p = some (.lst ((divL [1] fs).map V.int)) → Q (.ref p) H'
theorem fac_pow {m : Int} {fs : List (Int × Nat)} (f : FacOk m fs) (m1 : 1 ≤ m) {x : Int × Nat} (hx : x ∈ fs) : x.1 ^ x.2 ≤ m := by
  refine Int.le_of_dvd (by omega) ?_
  rw [← f.prod]
  clear f
  induction fs with
  | nil => cases hx
  | cons y l ih =>
    show x.1 ^ x.2 ∣ y.1 ^ y.2 * prodF l
    rcases List.mem_cons.mp hx with e | h
    · rw [e]
      exact ⟨_, rfl⟩
    · exact Int.dvd_mul_of_dvd_right (ih h)
theorem pow_mono {q : Int} (q2 : 2 ≤ q) {j e : Nat} (h : j ≤ e) : 1 ≤ q ^ j ∧ q ^ j ≤ q ^ e := by
  have a : 0 < q ^ j := Int.pow_pos (by omega)
  refine ⟨by omega, ?_⟩
  obtain ⟨k, rfl⟩ := Nat.exists_eq_add_of_le h
  rw [Int.pow_add]
  have pk : 0 < q ^ k := Int.pow_pos (by omega)
  have := Int.mul_le_mul_of_nonneg_left (show 1 ≤ q ^ k by omega) (show 0 ≤ q ^ j by omega)
  omega
def pws (q : Int) (n : Nat) : List Int := (List.range (n + 1)).map fun j : Nat => q ^ j
theorem pws_succ {q : Int} {n : Nat} : pws q (n + 1) = pws q n ++ [q ^ (n + 1)] := by
  unfold pws
  rw [List.range_succ, List.map_append]
  rfl
theorem pws_last {q : Int} : ∀ n : Nat, ∃ l, pws q n = l ++ [q ^ n]
  | 0 => ⟨[], by simp [pws]⟩
  | n + 1 => ⟨_, pws_succ⟩
theorem pws_len {q : Int} {n : Nat} : (pws q n).length = n + 1 := by simp [pws]
theorem divR_one {d q : Int} {e : Nat} : divR [d] q e = (pws q e).map fun t => d * t := by
  unfold divR pws
  rw [List.flatMap_cons, List.flatMap_nil, List.append_nil, List.map_map]
  rfl
theorem divR_snoc {F : List Int} {d q : Int} {e : Nat} : divR (F ++ [d]) q e = divR F q e ++ (pws q e).map fun t => d * t := by
  rw [← divR_one]
  unfold divR
  rw [List.flatMap_append]
theorem divL_snoc {F : List Int} {x : Int × Nat} {fs : List (Int × Nat)} : divL F (fs ++ [x]) = divR (divL F fs) x.1 x.2 := by
  unfold divL
  rw [List.foldl_append]
  rfl
theorem prodF_take {m : Int} {fs : List (Int × Nat)} (f : FacOk m fs) (m1 : 1 ≤ m) (i : Nat) : 1 ≤ prodF (fs.take i) ∧ prodF (fs.take i) ≤ m := by
  have pos : ∀ l : List (Int × Nat), (∀ x ∈ l, QR.Pm x.1 ∧ 1 ≤ x.2) → 1 ≤ prodF l := fun l => by
    induction l with
    | nil => exact fun _ => by decide
    | cons y l ih =>
      intro h
      have a : 0 < y.1 ^ y.2 := Int.pow_pos (by have := (h y List.mem_cons_self).1.1; omega)
      have b := ih fun x hx => h x (List.mem_cons_of_mem _ hx)
      have : 0 < y.1 ^ y.2 * prodF l := Int.mul_pos a (by omega)
      show 1 ≤ y.1 ^ y.2 * prodF l
      omega
  have app : ∀ l k : List (Int × Nat), prodF (l ++ k) = prodF l * prodF k := fun l k => by
    induction l with
    | nil => simp [prodF]
    | cons y l ih =>
      show y.1 ^ y.2 * prodF (l ++ k) = y.1 ^ y.2 * prodF l * prodF k
      rw [ih, Int.mul_assoc]
  have h1 := pos _ fun x hx => f.prime x (List.mem_of_mem_take (i := i) hx)
  have h2 := pos _ fun x hx => f.prime x (List.mem_of_mem_drop (i := i) hx)
  have e := app (fs.take i) (fs.drop i)
  rw [List.take_append_drop, f.prod] at e
  have := Int.mul_le_mul_of_nonneg_left h2 (show 0 ≤ prodF (fs.take i) by omega)
  omega
theorem ok_all_divisors (T : Txt K mg Ad) : Def P w K mg base 2 "all_divisors" ["m"] spDivs := by
  refine T.d_all_divisors.ok sc_all_divisors (fun vs H Q E h => ?_) (fun f cdv A outer s H vs Q E hr h => ?_)
  · obtain ⟨m, rfl, _⟩ := h
    rfl
  · obtain ⟨m, rfl, m1, m2, nt, q⟩ := h
    refine ⟨_, (pss_cons (ps_set (i := 1) sc_all_divisors.nd rfl (Or.inl rfl) (pe_lst (pa_cons pe_int pa_nil)))
      (pss_cons (ps_for (passes_of rfl) rfl (pi_list (pe_d (ok_factors T) (hr.mono (by decide)) (passes_call (takes_of rfl rfl rfl rfl) (fun _ _ _ _ h => h)) (pa_cons (pv 0) pa_nil))) (pg_tup rfl (pgs_cons (pg_name (i := 2) sc_all_divisors.nd rfl (Or.inl rfl)) (pgs_cons (pg_name (i := 3) sc_all_divisors.nd rfl (Or.inl rfl)) pgs_nil))) (pss_cons (ps_set (i := 4) sc_all_divisors.nd rfl (Or.inr rfl) (pe_lst (pa_cons pe_int pa_nil)))
      (pss_cons (ps_for (passes_of rfl) rfl (pi_range1 (by rfl) T.b_range (pa_cons (pv 3) pa_nil)) (pg_name (i := 5) sc_all_divisors.nd rfl (Or.inl rfl)) (pss_one (ps_expr (pe_bm PySem.F.plainAttrs_list PySem.F.slot_list_append PySem.F.type_list_append mt_append (pv 4) (pa_cons (pe_op op_mulB (pe_ix ix_list (pv 4) (pe_un un_neg pe_int) (fun _ _ => rfl)) (pv 2)) pa_nil)))))
      (pss_one (ps_setLc2 (i := 1) (own := [("divisor", 6), ("power", 7)]) (vs1 := [7]) (te := (tOp (rI CMulB fun i j => .int (i * j)) (tVar 6) (tVar 7))) (wi1 := (iList K (tVar 4))) rfl sc_all_divisors.nd rfl rfl (sw_true rfl rfl rfl (by decide +kernel)) (pi_list (pv 1)) (blkOk_by (own := [("divisor", 6), ("power", 7)]) (N := ["m", "found", "prime", "exponent", "powers", "count", "divisor", "power"]) (sc := defScope s_all_divisors) (by decide +kernel)) (by decide) (fun _ _ _ _ _ => (pg_name (i := 6) sc_all_divisors.nd rfl (Or.inl rfl))) (fun _ _ _ _ _ => pts_nil) (fun _ _ _ _ _ => (pi_list (pv 4))) (fun _ _ _ _ _ => (pg_name (i := 7) sc_all_divisors.nd rfl (Or.inl rfl))) (fun _ _ _ _ _ => pts_nil) (fun _ _ _ _ _ => (pe_op op_mulB (pv 6) (pv 7))))))))
      (pss_one (ps_ret (pv 1))))), ?_⟩
    try dsimp only [cxOf]
    wtm_at "rs"
    rename_i L0 hL0
    refine ⟨m, rfl, NoT.upd nt rfl, m1, by omega, fun Pf G0 ts fs s0 n0 hPf hp0 rows fo => ?_⟩
    have hL : G0 L0 = some (.lst ((divL [1] (fs.take 0)).map V.int)) := s0 _ _ upd_same
    replace s0 := (same_new (o := .lst [.int 1]) hL0).trans s0
    have fL := hL0
    clear hL0 hPf
    have B := Hv.start n0
    wtm_at "rs"
    refine rd_forL (xs := ts.map V.ref) (fun i σ G => ∃ (Fa : Addr) (v2 v3 v4 v5 v6 v7 : Option V), σ = [some (.int m), some (.ref Fa), v2, v3, v4, v5, v6, v7] ∧ Hv noX G0 [] [] [] G ∧ H Fa = none ∧ G Fa = some (.lst ((divL [1] (fs.take i)).map V.int))) ⟨L0, _, _, _, _, _, _, rfl, B, fL, hL⟩ (fun i σ G _ ⟨_, _, _, _, _, _, _, _, B, _⟩ => B.same.seq (SqL.of hp0)) ?_ ?_
    · clear B
      rintro i x σ G hi ⟨Fa, v2, v3, v4, v5, v6, v7, rfl, B, fF, hF⟩
      obtain ⟨t, l, rfl, ht, hlx⟩ := rows.at hi
      rw [List.getElem?_map] at hlx
      obtain ⟨⟨p, e⟩, hy, rfl⟩ := Option.map_eq_some_iff.mp hlx
      have tk : fs.take (i + 1) = fs.take i ++ [(p, e)] := by rw [List.take_add_one, hy]; rfl
      have p2 : 2 ≤ p := (fo.prime _ (List.mem_of_getElem? hy)).1.1
      have qe : p ^ e ≤ m := fac_pow fo m1 (List.mem_of_getElem? hy)
      have eb := exp_le e
      have e2 := pow_le2 p2 e
      have pt := prodF_take fo m1 i
      have dk := divL_ok (fs := fs.take i) (F := [1]) (M := 1) (fun x hx => (fo.prime x (List.mem_of_mem_take hx)).1.1) (fun d hd => by rw [List.mem_singleton.mp hd]; decide) (by decide) (by decide)
      rw [Int.one_mul] at dk
      have hT : SqT K G t [.int p, .int (e : Int)] := SqT.of (B.same _ _ ht)
      obtain ⟨dk1, dk2⟩ := dk
      have pt2 := (prodF_take fo m1 (i + 1)).2
      rw [tk, prodF_snoc] at pt2
      have lenR : (divL [1] (fs.take i)).length * (e + 1) ≤ 2000 := by
        have a : ((divL [1] (fs.take i)).length : Int) * ((e + 1 : Nat) : Int) ≤ prodF (fs.take i) * p ^ e := Int.mul_le_mul dk2 (by omega) (by omega) (by omega)
        rw [← Int.natCast_mul] at a
        have pt2 : prodF (fs.take i) * p ^ e ≤ m := pt2
        omega
      rw [tk, divL_snoc]
      generalize divL [1] (fs.take i) = F at *
      clear tk
      replace B := B.add hF (fun _ h => absurd h List.not_mem_nil)
      clear hF
      wtm_at "rs"
      rename_i Pa hPa
      replace B := B.new (o := .lst [.int 1]) hPa
      clear hPa
      refine B.gen fun G B => ?_
      rw [show [V.int 1] = (pws p 0).map V.int by simp [pws]] at B
      have ee : ((e : Int)).toNat = e := by omega
      rw [ee]
      refine rd_forR (fun j σ G => ∃ (v5 : Option V), σ = [some (.int m), some (.ref Fa), some (.int p), some (.int e), some (.ref Pa), v5, v6, v7] ∧ Hv noX G0 [(Pa, .lst ((pws p j).map V.int))] [(Fa, .lst (F.map V.int))] [] G) ⟨_, rfl, B⟩ ?_ ?_
      · clear B
        rintro j σ G hj ⟨v5, rfl, B⟩
        have pj := pow_mono p2 (show j ≤ e by omega)
        have pj1 := pow_mono p2 (show j + 1 ≤ e by omega)
        have b1 : Bd 20 (p ^ j) := Bd.of (by omega) (by omega)
        have b2 : Bd 20 p := by
          have := pow_mono p2 (show 1 ≤ e by omega)
          rw [Int.pow_succ, Int.pow_zero, Int.one_mul] at this
          exact Bd.of (by omega) (by omega)
        obtain ⟨l, el⟩ := pws_last (q := p) j
        have hP := B.mAt (a := Pa) (by wtm_at "mem")
        wtm_at "rs"
        refine rd_ixL (SqL.of hP) (show atI _ (-1) = some (.int (p ^ j)) by rw [el, List.map_append]; exact atI_last _ _) ?_
        wtm_at "rs"
        refine rd_append hP (Nat.lt_of_lt_of_le (show _ < 3000 by rw [List.length_map, pws_len]; omega) (by decide)) ?_
        rw [show (pws p j).map V.int ++ [.int (p ^ j * p)] = (pws p (j + 1)).map V.int by rw [pws_succ, List.map_append, Int.pow_succ]; rfl]
        exact ⟨_, rfl, B.put⟩
      · clear B
        rintro σ G ⟨v5, rfl, B⟩
        replace B := B.fix
        have hF := B.lAt (a := Fa) (by wtm_at "mem")
        have hP := B.lAt (a := Pa) (by wtm_at "mem")
        have pb := pow_mono p2 (Nat.le_refl e)
        wtm_at "rs"
        refine rd_lc2L (P := fun _ i ys _ => ys = (divR (F.take i) p e).map V.int) (SqL.of hF) B.nt (fun D hD => rfl) (fun D i ys x H5 hx s5 n5 hD h5 ey => ?_) fun D ys H5 hD h5 s5 n5 ey => ?_
        · rw [List.getElem?_map] at hx
          obtain ⟨d, hd, rfl⟩ := Option.map_eq_some_iff.mp hx
          have dm := dk1 d (List.mem_of_getElem? hd)
          wtm_at "r"
          refine ⟨rfl, ?_⟩
          wtm_at "rs"
          refine rd_lc2IL (fun j H6 => ∃ ys, H6 D = some (.lst ys) ∧ Same G H6 ∧ NoT H6 ∧ ys = (divR (F.take i) p e ++ ((pws p e).take j).map fun t => d * t).map V.int) ⟨ys, h5, s5, n5, by simp [ey]⟩ (us := (pws p e).map V.int) (fun j H6 ⟨_, _, s6, _⟩ => SqL.of (s6 _ _ hP)) (fun j u H6 hu ⟨ys, h6, s6, n6, e6⟩ => ?_) fun H6 ⟨ys, h6, s6, n6, e6⟩ => ?_
          · rw [List.getElem?_map] at hu
            obtain ⟨t, ht, rfl⟩ := Option.map_eq_some_iff.mp hu
            wtm_at "r"
            refine ⟨rfl, ?_⟩
            wtm_at "rs"
            have jl := (List.getElem?_eq_some_iff.mp ht).1
            rw [pws_len] at jl
            have il := (List.getElem?_eq_some_iff.mp hd).1
            have le : ys.length ≤ 2000 := by
              rw [e6, List.length_map, List.length_append, divR_len, List.length_map, List.length_take, List.length_take, Nat.min_eq_left (Nat.le_of_lt il)]
              have a : (i + 1) * (e + 1) ≤ F.length * (e + 1) := Nat.mul_le_mul_right _ il
              rw [Nat.add_mul] at a
              omega
            exact put_P (P := fun ys => ys = (divR (F.take i) p e ++ ((pws p e).take (j + 1)).map fun t => d * t).map V.int) h6 (Nat.lt_of_le_of_lt le (by decide)) s6 hD n6 (by rw [e6, List.take_add_one, ht]; simp)
          · have tk2 : F.take (i + 1) = F.take i ++ [d] := by rw [List.take_add_one, hd]; rfl
            exact ⟨ys, h6, s6, n6, by rw [e6, tk2, divR_snoc, List.length_map, List.take_length]⟩
        · rw [List.length_map, List.take_length] at ey
          rw [ey] at h5
          wtm_at "rs"
          exact ⟨D, _, _, _, _, _, _, rfl, (B.next s5 n5).sub (by wtm_at "vsub") (by wtm_at "vsub"), s0.free (B.same.free hD), h5⟩
    · clear B
      rintro σ G ⟨Fa, v2, v3, v4, v5, v6, v7, rfl, B, fF, hF⟩
      wtm_at "rs"
      rw [List.length_map, rows.len, List.length_map, List.take_length] at hF
      exact q Fa fs _ (s0.trans B.same) B.nt fF fo hF
/-! ### common -/
def spCommon : Sp := fun vs H Q _ => ∃ a b : Int, vs = [.int a, .int b] ∧ Q (.int ((Int.gcd a b : Nat) : Int)) H
theorem ok_common (T : Txt K mg Ad) : Def P w K mg base 1 "common" ["a", "b"] spCommon := by
  refine T.d_common.ok sc_common (fun vs H Q E h => ?_) (fun f cdv A outer s H vs Q E hr h => ?_)
  · obtain ⟨a, b, rfl, _⟩ := h
    rfl
  · obtain ⟨a, b, rfl, q⟩ := h
    refine ⟨_, (pss_cons (ps_par (i := 2) (j := 3) rfl sc_common.nd rfl rfl (by decide) rfl rfl (pa_cons (pe_callB c_abs (by rfl) T.b_abs (by decide +kernel) (pa_cons (pv 0) pa_nil)) (pa_cons (pe_callB c_abs (by rfl) T.b_abs (by decide +kernel) (pa_cons (pv 1) pa_nil)) pa_nil)) (by rfl))
      (pss_cons (ps_while (passes_of rfl) (pt_cmpR op_gt (pv 3) pe_int (nomark _)) (pss_one (ps_par (i := 2) (j := 3) rfl sc_common.nd rfl rfl (by decide) rfl rfl (pa_cons (pv 3) (pa_cons (pe_op op_mod (pv 2) (pv 3)) pa_nil)) (by rfl))))
      (pss_one (ps_ret (pv 2))))), ?_⟩
    try dsimp only [cxOf]
    wtm_at "rs"
    refine rd_while (fun μ σ H' => ∃ x y : Int, μ = y.toNat ∧ σ = [some (.int a), some (.int b), some (.int x), some (.int y)] ∧ H = H' ∧ 0 ≤ x ∧ 0 ≤ y ∧ Int.gcd x y = Int.gcd a b) (if b < 0 then -b else b).toNat
      ⟨_, _, rfl, rfl, rfl, by split <;> omega, by split <;> omega, gcd_abs a b⟩ ?_
    rintro μ σ H' ⟨x, y, rfl, rfl, rfl, hx, hy, hg⟩
    wtm_at "ra"
    · rename_i h0
      have m0 := Int.emod_nonneg x (show y ≠ 0 by omega)
      have m1 := Int.emod_lt_of_pos x h0
      exact ⟨_, by omega, y, x % y, rfl, rfl, rfl, hy, m0, by rw [gcd_turn hx h0, hg]⟩
    · rename_i h0
      have e : y = 0 := by omega
      subst e
      rw [← hg] at q
      rw [Int.gcd_zero_right] at q
      rw [show x = (x.natAbs : Int) by omega]
      exact q
theorem use_common {a b : Int} {H : Hp} {Q : VK} {E : XK} (q : Q (.int ((Int.gcd a b : Nat) : Int)) H) : spCommon [.int a, .int b] H Q E := ⟨a, b, rfl, q⟩
local macro_rules | `(tactic| wtm_at "s") => `(tactic| (with_reducible refine use_common ?_))
/-! ### total_ways -/
instance st_dg2 {td ty tx : TE} {σ : L2.St} {H : Hp} {Q : VK} : Stp (tDGet2 td ty tx σ H Q) (td σ H fun x H1 => ∃ a, x = .ref a ∧ IsD H1 a ∧ ty σ H1 fun y H2 => tx σ H2 fun z H3 => ∃ o, DGet H3 a y o ∧ Q (o.getD z) H3) := ⟨fun h => h⟩
theorem w_get (D : Int) : (valV (mergeK [] [((Sum.inl (-3) : Key), V.int 6), (Sum.inl (-4), V.int 4)]) (.inl D)).getD (V.int 2) = .int (wD D) := by
  show (valV [((Sum.inl (-3) : Key), V.int 6), (Sum.inl (-4), V.int 4)] (.inl D)).getD (V.int 2) = .int (wD D)
  unfold wD valV
  by_cases e3 : D = -3
  · subst e3
    rfl
  · by_cases e4 : D = -4
    · subst e4
      rfl
    · rw [List.find?_cons_of_neg (by simp; omega), List.find?_cons_of_neg (by simp; omega), if_neg e3, if_neg e4]
      rfl
theorem w_le (D : Int) : (wD D : Int) ≤ 6 := by
  unfold wD
  split
  · decide
  · split <;> decide
def spTot (C : Addr) : Sp := fun vs H Q E => ∃ D m : Int, vs = [.int D, .int m] ∧ -1000 ≤ D ∧ D < 0 ∧ (D % 4 = 0 ∨ D % 4 = 1) ∧ 1 ≤ m ∧ m ≤ 2000 ∧ NoT H ∧
  (Int.gcd D m ≠ 1 → ∀ G d, Same H G → NoT G → G d = none → E (.ref C) (some d) (upd G d (.xd [("modulus", .int m)]))) ∧ (Int.gcd D m = 1 → ∀ G, Same H G → NoT G → Q (.int (rD D m)) G)
theorem ok_total_ways (T : Txt K mg Ad) : Def P w K mg base 6 "total_ways" ["discriminant", "m"] (spTot Ad.c_BadModulus) := by
  refine T.d_total_ways.ok sc_total_ways (fun vs H Q E h => ?_) (fun f cdv A outer s H vs Q E hr h => ?_)
  · obtain ⟨D, m, rfl, _⟩ := h
    rfl
  · obtain ⟨D, m, rfl, D0, D1, D4, m1, m2, nt, qe, q⟩ := h
    refine ⟨_, (pss_cons (ps_if (pt_cmpR op_ne (pe_d (ok_common T) (hr.mono (by decide)) (passes_call (takes_of rfl rfl rfl rfl) (fun _ _ _ _ h => h)) (pa_cons (pv 0) (pa_cons (pv 1) pa_nil))) pe_int (nomark _)) (pss_one (ps_raise rfl (takes_of rfl rfl rfl rfl) (pmk_err (T.err_BadModulus) (hr.mono (by decide)) (pa_cons (pv 1) pa_nil)))) pss_nil)
      (pss_cons (ps_set (i := 2) sc_total_ways.nd rfl (Or.inl rfl) (pe_disp (pps_cons (pe_un un_neg pe_int) pe_int (pps_cons (pe_un un_neg pe_int) pe_int pps_nil)) (by rfl) (by rfl) (fun z => by cases z) (by decide)))
      (pss_cons (ps_set (i := 3) sc_total_ways.nd rfl (Or.inl rfl) (pe_callB (cr_sum rfl) (by rfl) T.b_sum (by decide +kernel) (pa_cons (pe_lc (own := [("d", 4)])  (te := (tCall (spSoD) [] E0 (tCons (tVar 0) (tCons (tVar 4) tNil)))) rfl sc_total_ways.nd  (pi_list (pe_d (ok_all_divisors T) (hr.mono (by decide)) (passes_call (takes_of rfl rfl rfl rfl) (fun _ _ _ _ h => h)) (pa_cons (pv 1) pa_nil))) (blkOk_by (own := [("d", 4)]) (N := ["discriminant", "m", "units_of_forms", "total", "d"]) (sc := defScope s_total_ways) (by decide +kernel)) (fun _ _ _ _ _ => (pg_name (i := 4) sc_total_ways.nd rfl (Or.inl rfl))) (fun _ _ _ _ _ => pts_nil) (fun _ _ _ _ _ => (pe_d (E := E0) (ok_sign_of_divisor T) (hr.mono (by decide)) passL (pa_cons (pv 0) (pa_cons (pv 4) pa_nil))))) pa_nil)))
      (pss_one (ps_ret (pe_op op_mulB (pe_dget2 (hu_of hr) (pv 2) (pv 0) pe_int ⟨by rfl, by rfl, by rfl, by rfl⟩) (pv 3))))))), ?_⟩
    try dsimp only [cxOf]
    have B := Hv.start nt
    wtm_at "rs"
    by_cases g : Int.gcd D m = 1
    · rw [if_neg (by simp [g])]
      wtm_at "rs"
      intro u hu
      have B := B.new (o := .dK []) hu
      refine B.gen fun G B => ?_
      wtm_at "rs"
      refine ⟨B.mAt (a := u) (by wtm_at "mem"), [(.inl (-3), .int 6), (.inl (-4), .int 4)], rfl, Nat.le_of_ble_eq_true rfl, ?_⟩
      have B := B.put (u := .dK (mergeK [] [(.inl (-3), .int 6), (.inl (-4), .int 4)]))
      refine B.gen fun G B => ?_
      wtm_at "rs"
      refine ⟨m, rfl, m1, m2, B.nt, fun L fs G2 s2 n2 hL fo hl => ?_⟩
      have dk := divL_ok (F := [1]) (M := 1) (fun x hx => (fo.prime x hx).1.1) (fun d hd => by rw [List.mem_singleton.mp hd]; decide) (by decide) (by decide)
      rw [fo.prod, Int.one_mul] at dk
      obtain ⟨dk1, dk2⟩ := dk
      have ds := div_sum D1 D0 D4 fo g
      generalize divL [1] fs = F at *
      have B := B.got s2 n2 hL hl
      clear s2 n2 hL hl
      refine B.gen fun G B => ?_
      wtm_at "rs"
      refine rd_lcI (ns := F) (fun _ => true) (fun d => .int (chiD D d)) (SqL.of (B.lAt (a := L) (by wtm_at "mem"))) (fun D5 l x r hD e => ?_) fun D5 hD5 => ?_
      · have hx := dk1 x (by rw [e]; simp)
        have lk : l.length < 2000 := by
          have := congrArg List.length e
          rw [List.length_append, List.length_cons] at this
          omega
        wtm_at "r"
        refine ⟨rfl, ?_⟩
        wtm_at "rs"
        refine use_SoD D0 (by omega) hx.1 (by omega) (NoT.upd B.nt rfl) ?_
        exact put_I (by exact Nat.lt_of_lt_of_le lk (by decide)) rfl rfl
      rw [show F.filter (fun _ => true) = F by simp]
      wtm_at "rs"
      refine ⟨D5, F.map (chiD D), rfl, by rw [List.map_map]; exact SqL.of upd_same, ?_⟩
      have sb := chi_sum (D := D) fun d hd => (dk1 d hd).1
      generalize (F.map (chiD D)).sum = S at *
      have bS : Bd 20 S := Bd.of (by omega) (by omega)
      have B := B.newL (o := .lst (F.map fun d => V.int (chiD D d))) hD5
      refine B.gen fun G B => ?_
      wtm_at "rs"
      have hu := B.mAt (a := u) (by wtm_at "mem")
      refine ⟨.inl ⟨_, .of hu⟩, ?_⟩
      wtm_at "rs"
      refine ⟨_, .inl ⟨_, .inl D, .of hu, rfl, rfl⟩, ?_⟩
      rw [w_get]
      have wl := w_le D
      have bw : Bd 20 (wD D : Int) := Bd.of (by omega) (by omega)
      wtm_at "rs"
      rw [ds]
      exact q g _ B.same B.nt
    · rw [if_pos (by simp; omega)]
      wtm_at "rs"
      intro d hd
      exact qe g _ d (Same.refl _) nt hd
/-! ### _law_asked -/
def spAsk96 : Sp := fun vs H Q _ => ∃ d m : Int, vs = [.int d, .int m] ∧ -1000 ≤ d ∧ d < 0 ∧ (d % 4 = 0 ∨ d % 4 = 1) ∧ 1 ≤ m ∧ m ≤ 2000 ∧ NoT H ∧
  (Int.gcd d m ≠ 1 → ∀ (D : Addr) G, Same H G → NoT G → H D = none → G D = some (.tup [.str "bad", .int m]) → Q (.ref D) G) ∧ (Int.gcd d m = 1 → ∀ G, Same H G → NoT G → Q (.int (rD d m)) G)
theorem ok_law_asked (T : Txt K mg Ad) : Def P w K mg base 7 "_law_asked" ["_law_d", "_law_m"] spAsk96 := by
  refine T.d_law_asked.ok sc_law_asked (fun vs H Q E h => ?_) (fun f cdv A outer s H vs Q E hr h => ?_)
  · obtain ⟨d, m, rfl, _⟩ := h
    rfl
  · obtain ⟨d, m, rfl, d0, d1, d4, m1, m2, nt, qb, q⟩ := h
    refine ⟨_, (pss_one (ps_try_as (i := 2) (tb := fun W => (tRet (tCallS ((spTot Ad.c_BadModulus)) (WE W) (tCons (tVar 0) (tCons (tVar 1) tNil))))) (ts := fun a cls d => (tRet (tTup (tCons (tC (.str "bad")) (tCons (tXf a cls d Ad.c_BadModulus "modulus" (tVar 2)) tNil))))) (Wout := fun cls d _ H => E cls d H) rfl rfl sc_law_asked.nd rfl rfl ⟨rfl, by decide, .inl T.r_BadModulus.g⟩ (takes_of rfl rfl rfl rfl) (fun W pn xe tk ow => (pss_one (ps_ret (by exact (pe_dS (ok_total_ways T) (hr.mono (by decide)) tk (pa_cons (pv 0) (pa_cons (pv 1) pa_nil))))))) (fun a oe cls d pn hz hf => (pss_one (ps_ret (pe_tup (pa_cons pe_str (pa_cons (pe_xf T.r_BadModulus.X T.no_BadModulus_modulus hz hf (pv 2)) pa_nil)))))))), ?_⟩
    try dsimp only [cxOf]
    wtm_at "ra"
    refine ⟨d, m, rfl, d0, d1, d4, m1, m2, nt, fun g G u s1 n1 hu => ?_, fun g G s1 n1 => ?_⟩
    · refine rd_was T.r_BadModulus.self fun x hx => ?_
      have B := (Hv.start n1).newL (o := .xd [("modulus", .int m)]) hu
      wtm_at "rs"
      rename_i D hD
      exact qb g D _ ((s1.trans B.same).trans (same_new hD)) (NoT.upd B.nt rfl) (s1.free (B.free hD)) upd_same
    · wtm_at "rs"
      exact q g G s1 n1
/-! ### _law_sign -/
def spLSgn : Sp := fun vs H Q E => ∃ (n p : Int), vs = [.int n, .int p] ∧ QR.OP p ∧ p < 2 ^ 100 ∧ Q (.int (sgn n p)) H
theorem use_LSgn {n p : Int} {H : Hp} {Q : VK} {E : XK} (hp : QR.OP p) (hb : p < 2 ^ 100) (q : Q (.int (sgn n p)) H) : spLSgn [.int n, .int p] H Q E := ⟨n, p, rfl, hp, hb, q⟩
theorem ok_law_sign (T : Txt K mg Ad) : Def P w K mg base 1 "_law_sign" ["_law_n", "_law_p"] spLSgn := by
  refine T.d_law_sign.ok sc_law_sign (fun vs H Q E h => ?_) (fun f cdv A outer s H vs Q E hr h => ?_)
  · obtain ⟨n, p, rfl, _⟩ := h
    rfl
  · obtain ⟨n, p, rfl, hp, hb, q⟩ := h
    refine ⟨_, (pss_cons (ps_set (i := 2) sc_law_sign.nd rfl (Or.inl rfl) pe_int)
      (pss_cons (ps_set (i := 3) sc_law_sign.nd rfl (Or.inl rfl) (pe_op op_mod (pe_callTy c_int1 (by rfl) T.b_int (by decide +kernel) (pa_cons (pv 0) pa_nil)) (pv 1)))
      (pss_cons (ps_set (i := 4) sc_law_sign.nd rfl (Or.inl rfl) (pe_op op_fdivB (pe_op op_sub (pv 1) pe_int) pe_int))
      (pss_cons (ps_while (passes_of rfl) (pt_cmpR op_gt (pv 4) pe_int (nomark _)) (pss_cons (ps_if (pt_cmpR op_eq (pe_op op_mod (pv 4) pe_int) pe_int (nomark _)) (pss_one (ps_set (i := 2) sc_law_sign.nd rfl (Or.inl rfl) (pe_op op_mod (pe_callTy c_int1 (by rfl) T.b_int (by decide +kernel) (pa_cons (pe_op op_mulB (pv 2) (pv 3)) pa_nil)) (pv 1)))) pss_nil)
      (pss_cons (ps_set (i := 3) sc_law_sign.nd rfl (Or.inl rfl) (pe_op op_mod (pe_callTy c_int1 (by rfl) T.b_int (by decide +kernel) (pa_cons (pe_op op_mulB (pv 3) (pv 3)) pa_nil)) (pv 1)))
      (pss_one (ps_set (i := 4) sc_law_sign.nd rfl (Or.inl rfl) (pe_op op_fdivB (pv 4) pe_int))))))
      (pss_cons (ps_if (pt_cmpR op_eq (pv 2) (pe_op op_sub (pv 1) pe_int) (nomark _)) (pss_one (ps_ret (pe_un un_neg pe_int))) pss_nil)
      (pss_one (ps_ret (pv 2)))))))), ?_⟩
    try dsimp only [cxOf]
    have h3 := hp.three
    have m1 := fun z => Int.emod_nonneg z (show p ≠ 0 by omega)
    have m2 := fun z => Int.emod_lt_of_pos z (show 0 < p by omega)
    have m3 := m1 n
    have m4 := m2 n
    obtain ⟨e0, he0⟩ : ∃ e0, e0 = ((p - 1) / 2).toNat := ⟨_, rfl⟩
    have he1 : (p - 1) / 2 = (e0 : Int) := by omega
    have eu := euler_sgn (n := n) hp
    rw [← he0] at eu
    wtm_at "rs"
    rw [he1]
    refine rd_while (fun μ σ H' => ∃ (d : Nat) (r b : Int), μ = d ∧ σ = [some (.int n), some (.int p), some (.int r), some (.int b), some (.int (d : Int))] ∧ H = H' ∧ 0 ≤ r ∧ r < p ∧ 0 ≤ b ∧ b < p ∧ p ∣ r * b ^ d - n ^ e0) _
      ⟨e0, 1, n % p, rfl, rfl, rfl, by omega, by omega, m3, m4, by rw [Int.one_mul]; exact cg_pow ⟨-(n / p), by have := Int.mul_ediv_add_emod n p; rw [Int.mul_neg]; omega⟩ e0⟩ ?_
    rintro μ σ H' ⟨d, r, b, rfl, rfl, rfl, r0, r1, b0, b1, inv⟩
    have Br : Bd 100 r := Bd.of (by omega) (by omega)
    have Bb : Bd 100 b := Bd.of (by omega) (by omega)
    wtm_at "rs"
    wtm_at "i"
    · wtm_at "rs"
      wtm_at "i"
      · wtm_at "rs"
        exact ⟨_, by omega, μ / 2, _, _, rfl, by rw [show ((μ / 2 : Nat) : Int) = (μ : Int) / 2 by omega]; rfl, rfl, m1 _, m2 _, m1 _, m2 _, pw_odd inv (by omega)⟩
      · wtm_at "rs"
        exact ⟨_, by omega, μ / 2, _, _, rfl, by rw [show ((μ / 2 : Nat) : Int) = (μ : Int) / 2 by omega]; rfl, rfl, r0, r1, m1 _, m2 _, pw_even inv (by omega)⟩
    · rename_i h0
      have e : μ = 0 := by omega
      subst e
      have er := pw_fin (Y := n ^ e0) inv r0 r1
      rw [← er] at eu
      wtm_at "rs"
      by_cases c : r = p - 1
      · rw [if_pos (decide_eq_true c)]
        rw [if_pos c] at eu
        wtm_at "rs"
        rw [eu]
        exact q
      · rw [if_neg (by rw [decide_eq_true_iff]; exact c)]
        rw [if_neg c] at eu
        wtm_at "rs"
        rw [eu]
        exact q
/-! ### _law_sign_for -/
def spSf96 : Sp := fun vs H Q _ => ∃ d p : Int, vs = [.int d, .int p] ∧ QR.Pm p ∧ p < 2 ^ 40 ∧ -1000 ≤ d ∧ d ≤ 1000 ∧ NoT H ∧ ∀ G, Same H G → NoT G → Q (.int (chiP d p)) G
theorem use_Sf96 {d p : Int} {H : Hp} {Q : VK} {E : XK} (hp : QR.Pm p) (pb : p < 2 ^ 40) (d0 : -1000 ≤ d) (d1 : d ≤ 1000) (nt : NoT H) (q : ∀ G, Same H G → NoT G → Q (.int (chiP d p)) G) : spSf96 [.int d, .int p] H Q E := ⟨d, p, rfl, hp, pb, d0, d1, nt, q⟩
theorem sf_tab {d : Int} : atI [V.int 0, V.int 1, V.int 0, V.int 0, V.int 0, V.int (-1), V.int 0, V.int 0] (d % 8) = some (.int (chiP d 2)) := by
  unfold chiP
  rw [if_pos rfl]
  rcases (by omega : d % 8 = 0 ∨ d % 8 = 1 ∨ d % 8 = 2 ∨ d % 8 = 3 ∨ d % 8 = 4 ∨ d % 8 = 5 ∨ d % 8 = 6 ∨ d % 8 = 7) with h | h | h | h | h | h | h | h <;> rw [h] <;> rfl
theorem ok_law_sign_for (T : Txt K mg Ad) : Def P w K mg base 2 "_law_sign_for" ["_law_d", "_law_prime"] spSf96 := by
  refine T.d_law_sign_for.ok sc_law_sign_for (fun vs H Q E h => ?_) (fun f cdv A outer s H vs Q E hr h => ?_)
  · obtain ⟨d, p, rfl, _⟩ := h
    rfl
  · obtain ⟨d, p, rfl, hp, pb, d0, d1, nt, q⟩ := h
    refine ⟨_, (pss_cons (ps_if (pt_cmpR op_eq (pv 1) pe_int (nomark _)) (pss_one (ps_ret (pe_ix ix_list (pe_lst (pa_cons pe_int (pa_cons pe_int (pa_cons pe_int (pa_cons pe_int (pa_cons pe_int (pa_cons (pe_un un_neg pe_int) (pa_cons pe_int (pa_cons pe_int pa_nil))))))))) (pe_op op_mod (pe_callTy c_int1 (by rfl) T.b_int (by decide +kernel) (pa_cons (pv 0) pa_nil)) pe_int) (fun _ _ => rfl)))) pss_nil)
      (pss_one (ps_ret (pe_d (ok_law_sign T) (hr.mono (by decide)) (passes_call (takes_of rfl rfl rfl rfl) (fun _ _ _ _ h => h)) (pa_cons (pv 0) (pa_cons (pv 1) pa_nil)))))), ?_⟩
    try dsimp only [cxOf]
    wtm_at "rs"
    by_cases e : p = 2
    · subst e
      rw [if_pos (by decide)]
      wtm_at "rs"
      rename_i L hL
      refine rd_ixL (SqL.of upd_same) sf_tab ?_
      exact q _ (same_new hL) (NoT.upd nt rfl)
    · rw [if_neg (by rw [decide_eq_true_iff]; exact e)]
      wtm_at "rs"
      have op : QR.OP p := ⟨hp, Classical.byContradiction fun z => hp.2 2 (by decide) (by have := hp.1; omega) (Int.dvd_of_emod_eq_zero (by omega))⟩
      refine use_LSgn op (by omega) ?_
      have := q H (Same.refl _) nt
      rw [show chiP d p = sgn d p from if_neg e] at this
      exact this
/-! ### _law_sum -/
def spSum96 : Sp := fun vs H Q _ => ∃ d m : Int, vs = [.int d, .int m] ∧ -1000 ≤ d ∧ d < 0 ∧ (d % 4 = 0 ∨ d % 4 = 1) ∧ 1 ≤ m ∧ m ≤ 2000 ∧ Int.gcd d m = 1 ∧ NoT H ∧ ∀ (S : Int) G, Same H G → NoT G → -m ≤ S → S ≤ m → (wD d : Int) * S = rD d m → Q (.int S) G
theorem sE_b {c : Int} (hc : c = 1 ∨ c = -1 ∨ c = 0) : ∀ e : Nat, -((e : Int) + 1) ≤ sE c e ∧ sE c e ≤ e + 1
  | 0 => by simp [sE]
  | e + 1 => by
    have ih := sE_b hc e
    have pw : ∀ n : Nat, -1 ≤ c ^ n ∧ c ^ n ≤ 1 := fun n => by
      have : c ^ n = 1 ∨ c ^ n = -1 ∨ c ^ n = 0 := by
        induction n with
        | zero => exact .inl (by rw [Int.pow_zero])
        | succ n ih =>
          rw [Int.pow_succ]
          rcases ih with a | a | a <;> rcases hc with b | b | b <;> rw [a, b] <;> decide
      omega
    have := pw (e + 1)
    simp only [sE]
    omega
/-- what is left has no small divisor -/
def NoSm (k n : Int) : Prop := ∀ j : Int, 2 ≤ j → j < k → ¬ j ∣ n
theorem mul_b {a b A B : Int} (ha : -A ≤ a ∧ a ≤ A) (hb : -B ≤ b ∧ b ≤ B) : -(A * B) ≤ a * b ∧ a * b ≤ A * B := by
  have h1 : (a * b).natAbs = a.natAbs * b.natAbs := Int.natAbs_mul ..
  have h2 : (a.natAbs : Int) * b.natAbs ≤ A * B := Int.mul_le_mul (by omega) (by omega) (by omega) (by omega)
  rw [← Int.natCast_mul, ← h1] at h2
  omega
theorem abs_in {t x l m : Int} (l0 : 0 ≤ l) (hx : -l ≤ x ∧ x ≤ l) (h : -m ≤ t * l ∧ t * l ≤ m) : -m ≤ t * x ∧ t * x ≤ m := by
  have a : (t * x).natAbs = t.natAbs * x.natAbs := Int.natAbs_mul ..
  have b : (t * l).natAbs = t.natAbs * l.natAbs := Int.natAbs_mul ..
  have c : t.natAbs * x.natAbs ≤ t.natAbs * l.natAbs := Nat.mul_le_mul_left _ (by omega)
  omega
theorem sum_step {d p l l' : Int} {j : Nat} (d0 : d < 0) (d1 : -1000 ≤ d) (h4 : d % 4 = 0 ∨ d % 4 = 1) (hp : j = 0 ∨ QR.Pm p ∧ ¬ p ∣ d) (e : l = p ^ j * l') (n : ¬ p ∣ l') : (rD d l : Int) = sE (chiP d p) j * rD d l' := by
  rcases hp with h | ⟨hp, hd⟩
  · subst h
    rw [Int.pow_zero, Int.one_mul] at e
    subst e
    simp [sE]
  · rw [e]
    exact (rD_pow d0 d1 h4 hp hd n j).1
theorem ok_law_sum (T : Txt K mg Ad) : Def P w K mg base 3 "_law_sum" ["_law_d", "_law_m"] spSum96 := by
  refine T.d_law_sum.ok sc_law_sum (fun vs H Q E h => ?_) (fun f cdv A outer s H vs Q E hr h => ?_)
  · obtain ⟨d, m, rfl, _⟩ := h
    rfl
  · obtain ⟨d, m, rfl, d0, d1, d4, m1, m2, cp, nt, q⟩ := h
    refine ⟨_, (pss_cons (ps_set (i := 2) sc_law_sum.nd rfl (Or.inl rfl) pe_int)
      (pss_cons (ps_set (i := 3) sc_law_sum.nd rfl (Or.inl rfl) (pv 1))
      (pss_cons (ps_set (i := 4) sc_law_sum.nd rfl (Or.inl rfl) pe_int)
      (pss_cons (ps_while (passes_of rfl) (pt_cmpR op_gt (pv 3) pe_int (nomark _)) (C8.pss_cut (ps_if (pt_cmpR op_gt (pe_op op_mulB (pv 4) (pv 4)) (pv 3) (nomark _)) (pss_one (ps_set (i := 4) sc_law_sum.nd rfl (Or.inl rfl) (pv 3))) pss_nil)
      (pss_cons (ps_set (i := 5) sc_law_sum.nd rfl (Or.inl rfl) pe_int)
      (pss_cons (ps_set (i := 6) sc_law_sum.nd rfl (Or.inl rfl) pe_int)
      (pss_cons (ps_while (passes_of rfl) (pt_cmpR op_eq (pe_op op_mod (pv 3) (pv 4)) pe_int (nomark _)) (pss_cons (ps_set (i := 3) sc_law_sum.nd rfl (Or.inl rfl) (pe_op op_fdivB (pv 3) (pv 4)))
      (pss_cons (ps_set (i := 6) sc_law_sum.nd rfl (Or.inl rfl) (pe_op op_mulB (pv 6) (pe_d (ok_law_sign_for T) (hr.mono (by decide)) (passes_call (takes_of rfl rfl rfl rfl) (fun _ _ _ _ h => h)) (pa_cons (pv 0) (pa_cons (pv 4) pa_nil)))))
      (pss_one (ps_set (i := 5) sc_law_sum.nd rfl (Or.inl rfl) (pe_op op_add (pv 5) (pv 6)))))))
      (pss_cons (ps_set (i := 2) sc_law_sum.nd rfl (Or.inl rfl) (pe_op op_mulB (pv 2) (pv 5)))
      (pss_one (ps_set (i := 4) sc_law_sum.nd rfl (Or.inl rfl) (pe_op op_add (pv 4) pe_int)))))))))
      (pss_one (ps_ret (pv 2))))))), ?_⟩
    try dsimp only [cxOf]
    wtm_at "rs"
    refine rd_while (fun μ σ G => ∃ (t l k : Int) (v5 v6 : Option V), μ = (m + 2 - k).toNat ∧ σ = [some (.int d), some (.int m), some (.int t), some (.int l), some (.int k), v5, v6] ∧ Same H G ∧ NoT G ∧ 1 ≤ l ∧ l ≤ m ∧ l ∣ m ∧ 2 ≤ k ∧ k ≤ m + 1 ∧ NoSm k l ∧ (rD d m : Int) = t * rD d l ∧ (-m ≤ t * l ∧ t * l ≤ m)) (m + 2 - 2).toNat
      ⟨1, m, 2, _, _, rfl, rfl, Same.refl _, nt, m1, Int.le_refl _, Int.dvd_refl _, by decide, by omega, fun j a b => by omega, by omega, by omega⟩ ?_
    rintro μ σ G ⟨t, l, k, v5, v6, rfl, rfl, sm, n1, l1, lm, ld, k2, km, ns, er, tb⟩
    wtm_at "rs"
    by_cases c : 1 < l
    · rw [if_pos (decide_eq_true c)]
      have kl : k ≤ l := Classical.byContradiction fun z => ns l (by omega) (by omega) (Int.dvd_refl _)
      have bk : Bd 20 k := Bd.of (by omega) (by omega)
      wtm_at "rs"
      refine rd_cut (fun σ2 G2 => ∃ p : Int, σ2 = [some (.int d), some (.int m), some (.int t), some (.int l), some (.int p), v5, v6] ∧ G = G2 ∧ k ≤ p ∧ p ≤ l ∧ (p ∣ l → QR.Pm p) ∧ (p = k ∨ p = l)) ?_ ?_
      · wtm_at "rs"
        by_cases z : l < k * k
        · rw [if_pos (decide_eq_true z)]
          wtm_at "rs"
          exact ⟨l, rfl, rfl, kl, Int.le_refl _, fun _ => QR.pm_of_trial (by omega) (by omega) z ns, .inr rfl⟩
        · rw [if_neg (by rw [decide_eq_true_iff]; exact z)]
          wtm_at "rs"
          exact ⟨k, rfl, rfl, Int.le_refl _, kl, fun dv => ⟨k2, fun j a b dj => ns j a b (Int.dvd_trans dj dv)⟩, .inl rfl⟩
      rintro σ2 G2 ⟨p, rfl, rfl, kp, pl, pp, pk⟩
      have bt : Bd 20 t := by
        have a : t ≤ m := by
          rcases Int.lt_or_le t 0 with h | h
          · omega
          · have := Int.mul_le_mul_of_nonneg_left l1 h
            omega
        have b : -m ≤ t := by
          rcases Int.lt_or_le t 0 with h | h
          · have := Int.mul_le_mul_of_nonneg_left l1 (show 0 ≤ -t by omega)
            rw [Int.neg_mul, Int.neg_mul] at this
            omega
          · omega
        exact Bd.of (by omega) (by omega)
      wtm_at "rs"
      have hP : p ∣ l → QR.Pm p ∧ ¬ p ∣ d ∧ (chiP d p = 1 ∨ chiP d p = -1 ∨ chiP d p = 0) := fun dv => by
        have hp := pp dv
        have nd : ¬ p ∣ d := fun z => by
          have := Int.dvd_coe_gcd z (Int.dvd_trans dv ld)
          rw [cp] at this
          have := Int.le_of_dvd (by decide) this
          have := hp.1
          omega
        exact ⟨hp, nd, (chi_root d4 hp nd).elim (fun z => .inl z.1) fun z => .inr (.inl z.1)⟩
      have p2 : 2 ≤ p := by omega
      have bp : Bd 20 p := Bd.of (by omega) (by omega)
      refine rd_while (fun μ σ G => ∃ (j : Nat) (l' : Int), μ = l'.toNat ∧ σ = [some (.int d), some (.int m), some (.int t), some (.int l'), some (.int p), some (.int (sE (chiP d p) j)), some (.int (chiP d p ^ j))] ∧ Same H G ∧ NoT G ∧ 1 ≤ l' ∧ l = p ^ j * l' ∧ (j = 0 ∨ p ∣ l)) l.toNat
        ⟨0, l, rfl, by simp [sE], sm, n1, l1, by rw [Int.pow_zero, Int.one_mul], .inl rfl⟩ ?_
      clear sm n1
      rintro μ σ G ⟨j, l', rfl, rfl, sm, n1, l1', el, jd⟩
      have pj : 0 < p ^ j := Int.pow_pos (by omega)
      have lj : p ^ j ≤ l ∧ l' ≤ l := by
        have a := Int.mul_le_mul_of_nonneg_left l1' (show 0 ≤ p ^ j by omega)
        have b := Int.mul_le_mul_of_nonneg_right (show 1 ≤ p ^ j by omega) (show 0 ≤ l' by omega)
        omega
      have e1 := pow_le2 p2 j
      have e2 := exp_le j
      have sb : -(p ^ j) ≤ sE (chiP d p) j ∧ sE (chiP d p) j ≤ p ^ j := by
        rcases jd with h | h
        · subst h
          simp [sE]
        · have := sE_b (hP h).2.2 j
          omega
      have pwb : -1 ≤ chiP d p ^ j ∧ chiP d p ^ j ≤ 1 := by
        rcases jd with h | h
        · subst h
          simp
        · have hc := (hP h).2.2
          have : chiP d p ^ j = 1 ∨ chiP d p ^ j = -1 ∨ chiP d p ^ j = 0 := by
            clear sb e1 e2 lj pj el
            induction j with
            | zero => exact .inl (by rw [Int.pow_zero])
            | succ n ih =>
              rw [Int.pow_succ]
              rcases ih with a | a | a <;> rcases hc with b | b | b <;> rw [a, b] <;> decide
          omega
      have bl : Bd 20 l' := Bd.of (by omega) (by omega)
      have bs : Bd 20 (sE (chiP d p) j) := Bd.of (by omega) (by omega)
      have bw : Bd 20 (chiP d p ^ j) := Bd.of (by omega) (by omega)
      wtm_at "rs"
      by_cases dv : l' % p = 0
      · rw [if_pos (decide_eq_true dv)]
        have dl : p ∣ l := by rw [el]; exact Int.dvd_mul_of_dvd_right (Int.dvd_of_emod_eq_zero dv)
        obtain ⟨hp, nd, hc⟩ := hP dl
        have bc : Bd 20 (chiP d p) := Bd.of (by omega) (by omega)
        wtm_at "rs"
        refine use_Sf96 hp (by omega) d0 (by omega) n1 fun G2 s2 n2 => ?_
        wtm_at "rs"
        obtain ⟨u, hu⟩ := Int.dvd_of_emod_eq_zero dv
        have ud : l' / p = u := by rw [hu, Int.mul_ediv_cancel_left _ (by omega)]
        have u1 : 1 ≤ u := Classical.byContradiction fun z => by
          have := Int.mul_le_mul_of_nonneg_left (show u ≤ 0 by omega) (show 0 ≤ p by omega)
          omega
        have ul : u < l' := by
          have := Int.mul_le_mul_of_nonneg_right p2 (show 0 ≤ u by omega)
          omega
        rw [ud]
        exact ⟨_, by omega, j + 1, u, rfl, by rw [Int.pow_succ]; simp only [sE, Int.pow_succ]; rfl, sm.trans s2, n2, u1, by rw [el, hu, Int.pow_succ]; grind, .inr dl⟩
      · rw [if_neg (by rw [decide_eq_true_iff]; exact dv)]
        wtm_at "rs"
        have nd : ¬ p ∣ l' := fun z => dv (Int.emod_eq_zero_of_dvd z)
        have ll : l' ∣ l := ⟨p ^ j, by rw [el, Int.mul_comm]⟩
        have st := sum_step d1 d0 d4 (jd.imp_right fun h => ⟨(hP h).1, (hP h).2.1⟩) el nd
        refine ⟨_, by omega, t * sE (chiP d p) j, l', p + 1, _, _, rfl, rfl, sm, n1, l1', by omega, Int.dvd_trans ll ld, by omega, by omega, fun i a b di => ?_, by rw [er, st, Int.mul_assoc], ?_⟩
        · by_cases ip : i = p
          · exact nd (ip ▸ di)
          · rcases pk with h | h
            · exact ns i a (by omega) (Int.dvd_trans di ll)
            · have lp := (pp (h ▸ Int.dvd_refl l))
              exact lp.2 i a (by omega) (h ▸ Int.dvd_trans di ll)
        · rw [Int.mul_assoc]
          refine abs_in (by omega) ?_ tb
          have := mul_b (A := p ^ j) (B := l') sb ⟨by omega, Int.le_refl _⟩
          rw [el]
          exact this
    · rw [if_neg (by rw [decide_eq_true_iff]; exact c)]
      wtm_at "rs"
      have e1 : l = 1 := by omega
      subst e1
      rw [rD_one d1 d0 d4] at er
      exact q t G sm n1 (by omega) (by omega) (by rw [er, Int.mul_comm])
/-! ### Form.__init__ -/
def ffl (f : Fm) : List (Str × V) := [("a", .int f.a), ("b", .int f.b), ("c", .int f.c), ("discriminant", .int f.D)]
theorem nab : ¬ (("a" : Str) = "b") := by decide +kernel
theorem nac : ¬ (("a" : Str) = "c") := by decide +kernel
theorem nad : ¬ (("a" : Str) = "discriminant") := by decide +kernel
theorem nbc : ¬ (("b" : Str) = "c") := by decide +kernel
theorem nbd : ¬ (("b" : Str) = "discriminant") := by decide +kernel
theorem ncd : ¬ (("c" : Str) = "discriminant") := by decide +kernel
theorem ffl_put (a b c d : V) : putF "discriminant" d (putF "c" c (putF "b" b (putF "a" a []))) = ([("a", a), ("b", b), ("c", c), ("discriminant", d)] : List (Str × V)) := by
  simp only [putF, if_neg nab, if_neg nac, if_neg nad, if_neg nbc, if_neg nbd, if_neg ncd]
def spFI (C CE : Addr) : Sp := fun vs H Q E => ∃ (x dx : Addr) (f : Fm), vs = [.ref x, .int f.a, .int f.b, .int f.c] ∧ H x = some (.ins C dx []) ∧ Fm.bd 4400 f ∧
  (¬ f.ok → ∀ d, H d = none → E (.ref CE) (some d) (upd H d (.xd [("c", .int f.c), ("b", .int f.b), ("a", .int f.a)]))) ∧ (f.ok → Q .non (upd H x (.ins C dx (ffl f))))
theorem ok_Form_init (T : Txt K mg Ad) : MkDef P w K mg base 3 "Form" Ad.c_Form ["self", "a", "b", "c"] (spFI Ad.c_Form Ad.c_BadForm) := by
  refine T.d_Form_init.ok sc_Form_init (fun vs H Q E h => ?_) (fun f cdv A outer s H vs Q E hr h => ?_)
  · obtain ⟨x, dx, f, rfl, _⟩ := h
    rfl
  · obtain ⟨x, dx, ⟨a, b, c⟩, rfl, hx, ⟨ba, bb, bc⟩, qe, qo⟩ := h
    dsimp only at ba bb bc qe
    refine ⟨_, (pss_cons (ps_if (PW.pt (pw_or (pt_cmpR op_lt (pv 1) pe_int (nomark _)) (pw_or1 (pt_cmpR op_ge (pe_op op_sub (pe_op op_mulB (pv 2) (pv 2)) (pe_op op_mulB (pe_op op_mulB pe_int (pv 1)) (pv 3))) pe_int (nomark _))))) (pss_one (ps_raise rfl (takes_of rfl rfl rfl rfl) (pmk_err (T.err_BadForm) (hr.mono (by decide)) (pa_cons (pv 1) (pa_cons (pv 2) (pa_cons (pv 3) pa_nil)))))) pss_nil)
      (pss_cons (ps_fldC (pv 0) (pv 1) T.cl_Form T.nf_Form_a)
      (pss_cons (ps_fldC (pv 0) (pv 2) T.cl_Form T.nf_Form_b)
      (pss_cons (ps_fldC (pv 0) (pv 3) T.cl_Form T.nf_Form_c)
      (pss_one (ps_fldC (pv 0) (pe_op op_sub (pe_op op_mulB (pv 2) (pv 2)) (pe_op op_mulB (pe_op op_mulB pe_int (pv 1)) (pv 3))) T.cl_Form T.nf_Form_discriminant)))))), ?_⟩
    try dsimp only [cxOf]
    wtm_at "ra"
    · exact qe (fun z => by have := z.1; dsimp only at this; omega)
    · exact qe (fun z => by have := z.2; unfold Fm.D at this; dsimp only at this; omega)
    · have z := qo ⟨by dsimp only; omega, by unfold Fm.D; dsimp only; omega⟩
      rw [upd_upd, upd_upd, upd_upd, ffl_put]
      exact z
def IsF (C : Addr) (H : Hp) (p : Addr) (f : Fm) : Prop := ∃ dx, H p = some (.ins C dx (ffl f))
theorem IsF.mono {C : Addr} {H H' : Hp} {p : Addr} {f : Fm} (h : IsF C H p f) (s : Same H H') : IsF C H' p f := let ⟨dx, h⟩ := h; ⟨dx, s _ _ h⟩
theorem IsF.keeps {C : Addr} {H G : Hp} {p : Addr} {f : Fm} (h : IsF C H p f) (k : Keeps H G) : IsF C G p f := let ⟨dx, e⟩ := h; ⟨dx, k _ _ rfl e⟩
theorem IsF.rig {C : Addr} {H : Hp} {p : Addr} {f : Fm} (h : IsF C H p f) : Rig (fun G => IsF C G p f) H := fun G k => h.keeps k
theorem use_FI {C CE : Addr} {f : Fm} {H1 : Hp} {R : Addr → Hp → Prop} {E : XK} {a b c : Int} (hf : f = ⟨a, b, c⟩) (hb : Fm.bd 4400 f) (ho : f.ok) (nt : NoT H1) (q : ∀ x H', Same H1 H' → NoT H' → H1 x = none → IsF C H' x f → R x H') :
    ∀ x dx, H1 x = none → H1 dx = none → dx ≠ x → spFI C CE [.ref x, .int a, .int b, .int c] (upd (upd H1 dx (.own x)) x (.ins C dx [])) (fun v H2 => v = .non ∧ R x H2) E := by
  subst hf
  intro x dx nx nd ne
  refine ⟨x, dx, ⟨a, b, c⟩, rfl, upd_same, hb, fun z => absurd ho z, fun _ => ⟨rfl, ?_⟩⟩
  rw [upd_upd]
  exact q x _ (same_upd2 (same_new nd) nx) (NoT.upd (NoT.upd nt rfl) rfl) nx ⟨dx, upd_same⟩
/-! ### moved_back -/
def spMB (K : PySem.W.Frag) : Sp := fun vs H Q E => ∃ (t s : Addr) (r : Int × Int) (ks : List Int), vs = [.ref t, .ref s] ∧ SqT K H t (prV r) ∧ SqL K H s (ks.map V.int) ∧ (∀ k ∈ ks, Bd 400 k) ∧ (∀ i, i ≤ ks.length → Bd 400 (backP r (ks.drop i)).1 ∧ Bd 400 (backP r (ks.drop i)).2) ∧ ∀ D, H D = none → Q (.ref D) (upd H D (.tup (prV (backP r ks))))
theorem ok_moved_back (T : Txt K mg Ad) : Def P w K mg base 1 "moved_back" ["point", "steps"] (spMB K) := by
  refine T.d_moved_back.ok sc_moved_back (fun vs H Q E h => ?_) (fun f cdv A outer s H vs Q E hr h => ?_)
  · obtain ⟨t, s, r, ks, rfl, _⟩ := h
    rfl
  · obtain ⟨t, s, r, ks, rfl, ht, hs, hk, hb, q⟩ := h
    replace ht : SqT K H t [.int r.1, .int r.2] := ht
    refine ⟨_, (pss_cons (ps_asg (pv 0) (pg_tup rfl (pgs_cons (pg_name (i := 2) sc_moved_back.nd rfl (Or.inl rfl)) (pgs_cons (pg_name (i := 3) sc_moved_back.nd rfl (Or.inl rfl)) pgs_nil))))
      (pss_cons (ps_for (passes_of rfl) rfl (pi_reversed (by rfl) T.b_reversed (pa_cons (pv 1) pa_nil)) (pg_name (i := 4) sc_moved_back.nd rfl (Or.inl rfl)) (pss_one (ps_if (pt_cmpR op_eq (pv 4) pe_int (nomark _)) (pss_one (ps_par (i := 2) (j := 3) rfl sc_moved_back.nd rfl rfl (by decide) rfl rfl (pa_cons (pe_un un_neg (pv 3)) (pa_cons (pv 2) pa_nil)) (by rfl))) (pss_one (ps_set (i := 2) sc_moved_back.nd rfl (Or.inl rfl) (pe_op op_add (pv 2) (pe_op op_mulB (pv 4) (pv 3))))))))
      (pss_one (ps_ret (pe_tup (pa_cons (pv 2) (pa_cons (pv 3) pa_nil))))))), ?_⟩
    try dsimp only [cxOf]
    wtm_at "rs"
    refine rd_forVs (xs := ks.map V.int) (fun i σ => ∃ v4, σ = [some (.ref t), some (.ref s), some (.int (backP r (ks.drop (ks.length - i))).1), some (.int (backP r (ks.drop (ks.length - i))).2), v4]) hs ⟨none, by rw [Nat.sub_zero, List.drop_length]; rfl⟩ ?_ ?_
    · rintro i z σ hi ⟨v4, rfl⟩
      have hin : i < ks.length := by
        have := (List.getElem?_eq_some_iff.mp hi).1
        simpa using this
      rw [List.getElem?_reverse (by rw [List.length_map]; exact hin), List.length_map, List.getElem?_map] at hi
      obtain ⟨k, hy, rfl⟩ := Option.map_eq_some_iff.mp hi
      have hkk := hk k (List.mem_of_getElem? hy)
      have hd : ks.drop (ks.length - (i + 1)) = k :: ks.drop (ks.length - i) := by
        obtain ⟨hlt, hv⟩ := List.getElem?_eq_some_iff.mp hy
        rw [show ks.length - (i + 1) = ks.length - 1 - i by omega, List.drop_eq_getElem_cons hlt, hv, show ks.length - 1 - i + 1 = ks.length - i by omega]
      obtain ⟨bu, bv⟩ := hb (ks.length - i) (by omega)
      have eb : backP r (ks.drop (ks.length - (i + 1))) = if k = 0 then (-(backP r (ks.drop (ks.length - i))).2, (backP r (ks.drop (ks.length - i))).1) else ((backP r (ks.drop (ks.length - i))).1 + k * (backP r (ks.drop (ks.length - i))).2, (backP r (ks.drop (ks.length - i))).2) := by
        rw [hd]
        rfl
      rw [eb]
      generalize backP r (ks.drop (ks.length - i)) = pq at *
      obtain ⟨u, v⟩ := pq
      dsimp only at bu bv ⊢
      wtm_at "ra"
      · rename_i h0
        rw [if_pos h0]
        exact ⟨rfl, _, rfl⟩
      · rename_i h0
        rw [if_neg h0]
        exact ⟨rfl, _, rfl⟩
    · rintro σ ⟨v4, rfl⟩
      rw [List.length_map, Nat.sub_self, List.drop_zero]
      wtm_at "rs"
      exact q _ (by assumption)
theorem use_MB {K : PySem.W.Frag} {t s : Addr} {r : Int × Int} {ks : List Int} {H : Hp} {Q : VK} {E : XK} (ht : SqT K H t (prV r)) (hs : SqL K H s (ks.map V.int)) (hk : ∀ k ∈ ks, Bd 400 k) (hb : ∀ i, i ≤ ks.length → Bd 400 (backP r (ks.drop i)).1 ∧ Bd 400 (backP r (ks.drop i)).2) (q : ∀ D, H D = none → Q (.ref D) (upd H D (.tup (prV (backP r ks))))) : spMB K [.ref t, .ref s] H Q E := ⟨t, s, r, ks, rfl, ht, hs, hk, hb, q⟩
/-! ### side_of -/
def spSide : Sp := fun vs H Q _ => ∃ s : Int, vs = [.int s] ∧ s < 2 ^ 400 ∧ Q (vOpt (sideO s)) H
theorem ok_side_of (T : Txt K mg Ad) : Def P w K mg base 1 "side_of" ["square"] spSide := by
  refine T.d_side_of.ok sc_side_of (fun vs H Q E h => ?_) (fun f cdv A outer s H vs Q E hr h => ?_)
  · obtain ⟨s, rfl, _⟩ := h
    rfl
  · obtain ⟨s, rfl, hb, q⟩ := h
    refine ⟨_, (pss_cons (ps_set (i := 1) sc_side_of.nd rfl (Or.inl rfl) pe_int)
      (pss_cons (ps_set (i := 2) sc_side_of.nd rfl (Or.inl rfl) (pe_op op_add (pv 0) pe_int))
      (pss_cons (ps_while (passes_of rfl) (pt_cmpR op_gt (pe_op op_sub (pv 2) (pv 1)) pe_int (nomark _)) (pss_cons (ps_set (i := 3) sc_side_of.nd rfl (Or.inl rfl) (pe_op op_fdivB (pe_op op_add (pv 1) (pv 2)) pe_int))
      (pss_one (ps_if (pt_cmpR op_le (pe_op op_mulB (pv 3) (pv 3)) (pv 0) (nomark _)) (pss_one (ps_set (i := 1) sc_side_of.nd rfl (Or.inl rfl) (pv 3))) (pss_one (ps_set (i := 2) sc_side_of.nd rfl (Or.inl rfl) (pv 3)))))))
      (pss_cons (ps_if (pt_cmpR op_eq (pe_op op_mulB (pv 1) (pv 1)) (pv 0) (nomark _)) (pss_one (ps_ret (pv 1))) pss_nil)
      (pss_one (ps_ret pe_non)))))), ?_⟩
    try dsimp only [cxOf]
    wtm_at "rs"
    refine rd_while (fun μ σ H' => ∃ (lo hi : Int) (v3 : Option V), μ = (hi - lo).toNat ∧ σ = [some (.int s), some (.int lo), some (.int hi), v3] ∧ H = H' ∧ 0 ≤ lo ∧ (s < 0 ∧ lo = 0 ∧ hi ≤ 0 ∨ 0 ≤ s ∧ lo < hi ∧ hi ≤ s + 1 ∧ lo * lo ≤ s ∧ s < hi * hi)) _
      ⟨0, s + 1, _, rfl, rfl, rfl, by omega, ?_⟩ ?_
    · by_cases h : s < 0
      · exact .inl ⟨h, rfl, by omega⟩
      · have := QR.le_sq (show 1 ≤ s + 1 by omega)
        exact .inr ⟨by omega, by omega, by omega, by omega, by omega⟩
    · rintro μ σ H' ⟨lo, hi, v3, rfl, rfl, rfl, h0, inv⟩
      have Bl : Bd 400 lo := Bd.of (by omega) (by omega)
      wtm_at "rs"
      wtm_at "i"
      · rename_i h1
        rcases inv with ⟨a, b, c⟩ | ⟨a, b, c, d, e⟩
        · omega
        have Bm : Bd 401 ((lo + hi) / 2) := Bd.of (by omega) (by omega)
        obtain ⟨m0, m1⟩ := side_step h0 h1 rfl
        wtm_at "rs"
        generalize (lo + hi) / 2 = m at *
        wtm_at "i"
        · rename_i h2
          wtm_at "rs"
          exact ⟨_, by omega, m, hi, _, rfl, rfl, rfl, by omega, .inr ⟨a, m1, c, by omega, e⟩⟩
        · rename_i h2
          wtm_at "rs"
          exact ⟨_, by omega, lo, m, _, rfl, rfl, rfl, h0, .inr ⟨a, m0, by omega, d, by omega⟩⟩
      · rename_i h1
        wtm_at "rs"
        wtm_at "i"
        · rename_i h2
          rw [sideO_some h0 h2] at q
          wtm_at "rs"
          exact q
        · rename_i h2
          have : sideO s = none := sideO_none fun r hr e => by
            rcases inv with ⟨a, b, c⟩ | ⟨a, b, c, d, e2⟩
            · have := sq_nonneg r
              omega
            · have h3 : hi = lo + 1 := by omega
              subst h3
              rcases Int.lt_trichotomy r lo with z | z | z
              · have := Int.mul_self_lt_mul_self hr z
                omega
              · rw [z] at e
                exact h2 e
              · have := sq_mono (show 0 ≤ lo + 1 by omega) (show lo + 1 ≤ r by omega)
                omega
          rw [this] at q
          wtm_at "rs"
          exact q
theorem use_side {s : Int} {H : Hp} {Q : VK} {E : XK} (hb : s < 2 ^ 400) (q : Q (vOpt (sideO s)) H) : spSide [.int s] H Q E := ⟨s, rfl, hb, q⟩
/-! ### plain_ways -/
theorem pm_lst {i : Int} : (∀ u, u ∈ (if i < -i then [i, -i] else if -i < i then [-i, i] else [i]) ↔ u = i ∨ u = -i) ∧ (if i < -i then [i, -i] else if -i < i then [-i, i] else [i]).Nodup ∧ (if i < -i then [i, -i] else if -i < i then [-i, i] else [i]).length ≤ 2 := by
  by_cases h1 : i < -i
  · rw [if_pos h1]
    refine ⟨fun u => by simp, by simp; omega, by simp⟩
  · rw [if_neg h1]
    by_cases h2 : -i < i
    · rw [if_pos h2]
      refine ⟨fun u => by simp [or_comm], by simp; omega, by simp⟩
    · rw [if_neg h2]
      refine ⟨fun u => by simp; omega, by simp, by simp⟩
def spPW (C : Addr) : Sp := fun vs H Q E => ∃ (p : Addr) (f : Fm) (m : Int), vs = [.ref p, .int m] ∧ IsF C H p f ∧ f.ok ∧ Fm.bd 100 f ∧ 0 ≤ m ∧ m ≤ 10 ^ 9 ∧ 4 * f.a * m ≤ 10 ^ 6 ∧ -(10 ^ 9) ≤ f.D ∧ NoT H ∧
  ∀ (D : Addr) (ts : List Addr) (rs : List (Int × Int)) (H' : Hp), Same H H' → NoT H' → H D = none → H' D = some (.lst (ts.map V.ref)) → RowsAt H' ts (rs.map prV) → WaySet f m rs → rs.length ≤ 4004 → Q (.ref D) H'
theorem ok_plain_ways (T : Txt K mg Ad) : Def P w K mg base 2 "plain_ways" ["form", "m"] (spPW Ad.c_Form) := by
  refine T.d_plain_ways.okC sc_plain_ways (fun vs H Q E h => ?_) (fun f cdv hcd A outer s H vs Q E hr h => ?_)
  · obtain ⟨p, f, m, rfl, _⟩ := h
    rfl
  · obtain ⟨p, f, m, rfl, ⟨dx, hp⟩, fo, ⟨ba, bb, bc⟩, m0, m1, am, D0, nt, q⟩ := h
    refine ⟨_, (pss_cons (ps_set (i := 2) sc_plain_ways.nd rfl (Or.inl rfl) (pe_lst pa_nil))
      (pss_cons (ps_set (i := 3) sc_plain_ways.nd rfl (Or.inl rfl) pe_int)
      (pss_cons (ps_set (i := 4) sc_plain_ways.nd rfl (Or.inl rfl) (pe_op op_mulB (pe_op op_mulB pe_int (pe_fldC (pv 0) T.cl_Form T.nf_Form_a)) (pv 1)))
      (pss_cons (ps_while (passes_of rfl) (pt_cmpR op_ge (pv 4) pe_int (nomark _)) (pss_cons (ps_set (i := 5) sc_plain_ways.nd rfl (Or.inl rfl) (pe_d (ok_side_of T) (hr.mono (by decide)) (passes_call (takes_of rfl rfl rfl rfl) (fun _ _ _ _ h => h)) (pa_cons (pv 4) pa_nil)))
      (pss_cons (ps_if (pt_cmpR op_notN (pv 5) pe_non (nomark _)) (pss_one (ps_for (passes_of rfl) rfl (pi_list (pe_callB (cr_sortedSet rfl) (by rfl) T.b_sorted (by decide +kernel) (pa_cons (pe_set2 (pv 5) (pe_un un_neg (pv 5)) hcd) pa_nil))) (pg_name (i := 6) sc_plain_ways.nd rfl (Or.inl rfl)) (pss_one (ps_for (passes_of rfl) rfl (pi_list (pe_callB (cr_sortedSet rfl) (by rfl) T.b_sorted (by decide +kernel) (pa_cons (pe_set2 (pv 3) (pe_un un_neg (pv 3)) hcd) pa_nil))) (pg_name (i := 7) sc_plain_ways.nd rfl (Or.inl rfl)) (pss_cons (ps_set (i := 8) sc_plain_ways.nd rfl (Or.inl rfl) (pe_op op_sub (pv 6) (pe_op op_mulB (pe_fldC (pv 0) T.cl_Form T.nf_Form_b) (pv 7))))
      (pss_one (ps_if (pt_cmpR op_eq (pe_op op_mod (pv 8) (pe_op op_mulB pe_int (pe_fldC (pv 0) T.cl_Form T.nf_Form_a))) pe_int (nomark _)) (pss_one (ps_expr (pe_bm PySem.F.plainAttrs_list PySem.F.slot_list_append PySem.F.type_list_append mt_append (pv 2) (pa_cons (pe_tup (pa_cons (pe_op op_fdivB (pv 8) (pe_op op_mulB pe_int (pe_fldC (pv 0) T.cl_Form T.nf_Form_a))) (pa_cons (pv 7) pa_nil))) pa_nil)))) pss_nil))))))) pss_nil)
      (pss_cons (ps_aug (i := 3) sc_plain_ways.nd rfl (Or.inl rfl) pe_int ip_add)
      (pss_one (ps_set (i := 4) sc_plain_ways.nd rfl (Or.inl rfl) (pe_op op_add (pe_op op_mulB (pe_op op_mulB pe_int (pe_fldC (pv 0) T.cl_Form T.nf_Form_a)) (pv 1)) (pe_op op_mulB (pe_op op_mulB (pe_fldC (pv 0) T.cl_Form T.nf_Form_discriminant) (pv 3)) (pv 3)))))))))
      (pss_one (ps_ret (pv 2))))))), ?_⟩
    try dsimp only [cxOf]
    have fa := fo.1
    have la := ba.lt
    have fD := fo.2
    have bm : Bd 40 m := Bd.of (by omega) (by have : (10 : Int) ^ 9 < 2 ^ 40 := by decide
                                              omega)
    have bD : Bd 40 f.D := Bd.of (by have : (10 : Int) ^ 9 < 2 ^ 40 := by decide
                                     omega) (by omega)
    have am0 : 0 ≤ 4 * f.a * m := Int.mul_nonneg (by omega) m0
    have B := Hv.start nt
    wtm_at "rs"
    rename_i D hD
    have B := B.new (o := .lst []) hD
    clear hD
    refine B.gen fun G B => ?_
    have hpG := B.oAt hp
    wtm_at "rs"
    refine rd_while (fun μ σ H' => ∃ (y : Int) (ts : List Addr) (rs : List (Int × Int)) (v5 v6 v7 v8 : Option V), μ = (1001 - y).toNat ∧ 0 ≤ y ∧ y ≤ 1001 ∧ σ = [some (.ref p), some (.int m), some (.ref D), some (.int y), some (.int (4 * f.a * m + f.D * y * y)), v5, v6, v7, v8] ∧ Hv noX H [(D, .lst (ts.map V.ref))] [] [fun G => RowsAt G ts (rs.map prV)] H' ∧ PlainSo f m y rs) 1001
      ⟨0, [], [], none, none, none, none, rfl, by omega, by omega, ?_, B.rig (fun G _ => trivial), PlainSo.zero⟩ ?_
    · rw [Int.mul_zero, Int.add_zero]
      rfl
    clear B hpG
    rintro μ σ H' ⟨y, ts, rs, v5, v6, v7, v8, rfl, y0, y1, rfl, B, so⟩
    have bY : Bd 12 y := Bd.of (by omega) (by omega)
    have e1 : f.D * y * y = f.D * (y * y) := Int.mul_assoc ..
    have yy := sq_nonneg y
    have hpG := B.oAt hp
    wtm_at "rs"
    by_cases c : 0 ≤ 4 * f.a * m + f.D * y * y
    · rw [if_pos (decide_eq_true c)]
      have lt : 4 * f.a * m + f.D * y * y < 2 ^ 400 := by
        have l1 : -f.D * (y * y) ≥ 0 := Int.mul_nonneg (by omega) yy
        rw [Int.neg_mul] at l1
        have : (10 : Int) ^ 6 < 2 ^ 400 := by decide +kernel
        omega
      have y2 : y ≤ 1000 := by
        rcases Int.lt_or_le y 1001 with z | z
        · omega
        · exfalso
          have l1 : 1 * (y * y) ≤ -f.D * (y * y) := Int.mul_le_mul_of_nonneg_right (by omega) yy
          rw [Int.neg_mul] at l1
          have l2 : 1001 * 1001 ≤ y * y := sq_le (x := 1001) (by omega)
          omega
      wtm_at "rs"
      refine use_side lt ?_
      cases hs : sideO (4 * f.a * m + f.D * y * y) with
      | none =>
        simp only [vOpt]
        wtm_at "rs"
        refine ⟨(1001 - (y + 1)).toNat, by omega, y + 1, ts, rs, _, v6, v7, v8, rfl, by omega, by omega, rfl, B, ?_⟩
        refine so.next (PlainIn.nil so.nd) fa y0 (by simp) fun u h => ?_
        constructor
        · intro z
          cases z
        · rintro ⟨h1, h2⟩
          exfalso
          rw [← e1] at h1
          rcases Int.le_total 0 u with z | z
          · exact sideO_no hs z h1
          · exact sideO_no hs (show 0 ≤ -u by omega) (by rw [Int.neg_mul_neg]; exact h1)
      | some r =>
        obtain ⟨r0, rr⟩ := sideO_prop hs
        simp only [vOpt]
        wtm_at "rs"
        intro S1 hS1
        wtm_at "rs"
        refine ⟨_, _, rfl, rfl, upd_same, ?_⟩
        have B : Hv _ _ _ _ _ (upd (upd H' S1 (SetO w S1 setNo 0)) S1 (SetO w S1 (fun k => decide (k = r ∨ k = -r)) (if r = -r then 1 else 2))) := B.next (same_upd2 (same_new hS1) hS1) (NoT.upd (NoT.upd B.nt rfl) rfl)
        wtm_at "rs"
        refine rd_sortSet2 upd_same (by split <;> decide) fun L1 hL1 => ?_
        obtain ⟨memR, ndR, lenR⟩ := pm_lst (i := r)
        obtain ⟨memH, ndH, lenH⟩ := pm_lst (i := y)
        generalize (if r < -r then [r, -r] else if -r < r then [-r, r] else [r]) = Lr at *
        have B := B.newL (o := .lst (Lr.map V.int)) hL1
        clear hL1 hS1
        refine B.gen fun G1 B => ?_
        wtm_at "rs"
        refine rd_forL (xs := Lr.map V.int) (fun i σ H' => ∃ (ts : List Addr) (rs1 : List (Int × Int)) (v6 v7 v8 : Option V), σ = [some (.ref p), some (.int m), some (.ref D), some (.int y), some (.int (4 * f.a * m + f.D * y * y)), some (.int r), v6, v7, v8] ∧ Hv noX H [(D, .lst (ts.map V.ref))] [(L1, .lst (Lr.map V.int))] [fun G => RowsAt G ts (rs1.map prV)] H' ∧ PlainIn f rs (prodL (Lr.take i) (if y < -y then [y, -y] else if -y < y then [-y, y] else [y])) rs1)
          ⟨ts, rs, _, _, _, rfl, B, PlainIn.nil so.nd⟩ (fun i σ H' _ ⟨_, _, _, _, _, _, B, _⟩ => SqL.of (B.lAt List.mem_cons_self)) ?_ ?_
        · clear B hpG
          rintro i v σ H' hi ⟨ts, rs1, v6, v7, v8, rfl, B, pi⟩
          rw [List.getElem?_map] at hi
          obtain ⟨u, hu, rfl⟩ := Option.map_eq_some_iff.mp hi
          have hpG := B.oAt hp
          wtm_at "rs"
          intro S1 hS1
          wtm_at "rs"
          refine ⟨_, _, rfl, rfl, upd_same, ?_⟩
          have B : Hv _ _ _ _ _ (upd (upd H' S1 (SetO w S1 setNo 0)) S1 (SetO w S1 (fun k => decide (k = y ∨ k = -y)) (if y = -y then 1 else 2))) := B.next (same_upd2 (same_new hS1) hS1) (NoT.upd (NoT.upd B.nt rfl) rfl)
          wtm_at "rs"
          refine rd_sortSet2 upd_same (by split <;> decide) fun L2 hL2 => ?_
          generalize (if y < -y then [y, -y] else if -y < y then [-y, y] else [y]) = Lh at *
          have B := B.newL (o := .lst (Lh.map V.int)) hL2
          clear hL2 hS1
          refine B.gen fun G1 B => ?_
          wtm_at "rs"
          have hum := List.mem_of_getElem? hu
          have hur := (memR u).mp hum
          have r2 : r < 1001 := by
            rcases Int.lt_or_le r 1001 with z | z
            · exact z
            · exfalso
              have l1 : -f.D * (y * y) ≥ 0 := Int.mul_nonneg (by omega) yy
              rw [Int.neg_mul] at l1
              have l2 : 1001 * 1001 ≤ r * r := sq_le (x := 1001) (by omega)
              omega
          refine rd_forL (xs := Lh.map V.int) (fun j σ H' => ∃ (ts : List Addr) (rs1 : List (Int × Int)) (v7 v8 : Option V), σ = [some (.ref p), some (.int m), some (.ref D), some (.int y), some (.int (4 * f.a * m + f.D * y * y)), some (.int r), some (.int u), v7, v8] ∧ Hv noX H [(D, .lst (ts.map V.ref))] [(L2, .lst (Lh.map V.int)), (L1, .lst (Lr.map V.int))] [fun G => RowsAt G ts (rs1.map prV)] H' ∧ PlainIn f rs (prodL (Lr.take i) Lh ++ (Lh.take j).map fun h => (u, h)) rs1)
            ⟨ts, rs1, _, _, rfl, B, by simpa using pi⟩ (fun i σ H' _ ⟨_, _, _, _, _, B, _⟩ => SqL.of (B.lAt List.mem_cons_self)) ?_ ?_
          · clear B hpG pi
            rintro j v σ H' hj ⟨ts, rs1, v7, v8, rfl, B, pi⟩
            rw [List.getElem?_map] at hj
            obtain ⟨h, hh, rfl⟩ := Option.map_eq_some_iff.mp hj
            have hhr := (memH h).mp (List.mem_of_getElem? hh)
            have bh : Bd 12 h := Bd.of (by omega) (by omega)
            have hpG := B.oAt hp
            have rw' := B.zAt (P := fun G => RowsAt G ts (rs1.map prV)) List.mem_cons_self
            have e2 : prodL (Lr.take i) Lh ++ (Lh.take (j + 1)).map (fun h => (u, h)) = (prodL (Lr.take i) Lh ++ (Lh.take j).map fun h => (u, h)) ++ [(u, h)] := by
              rw [take_snoc hh, List.map_append, List.append_assoc]
              rfl
            have le1 : (Lr.take i).length ≤ 2 := Nat.le_trans (List.length_take_le' ..) lenR
            have le2 : (Lh.take j).length ≤ 2 := Nat.le_trans (List.length_take_le' ..) lenH
            have le3 : (prodL (Lr.take i) Lh).length ≤ 2 * 2 := by
              rw [prod_len]
              exact Nat.mul_le_mul le1 lenH
            have le4 := pi.len
            have le5 := so.len
            have le6 := RowsAt.len rw'
            rw [List.length_append, List.length_map] at le4
            rw [List.length_map] at le6
            have few : (ts.map V.ref).length < 1000000 := by
              rw [List.length_map]
              omega
            wtm_at "rs"
            by_cases hd : (u - f.b * h) % (2 * f.a) = 0
            · rw [if_pos (decide_eq_true hd)]
              wtm_at "rs"
              rename_i N hN
              rw [show ts.map V.ref ++ [V.ref N] = (ts ++ [N]).map V.ref by simp]
              have ht : upd H' N (.tup [.int ((u - f.b * h) / (2 * f.a)), .int h]) N = some (.tup (prV ((u - f.b * h) / (2 * f.a), h))) := upd_same
              have rw2 := RowsAt.snoc ht (rw'.mono (same_new hN))
              have B2 := B.next (same_new (o := .tup [.int ((u - f.b * h) / (2 * f.a)), .int h]) hN) (NoT.upd B.nt rfl)
              have B3 := B2.put (u := .lst ((ts ++ [N]).map V.ref))
              have fr := pi.fresh fa hd (fun q hq => by
                have := (so.mem q).mp hq
                omega) (fun z => by
                rcases List.mem_append.mp z with z | z
                · exact not_mem_take ndR hu (mem_prod.mp z).1
                · obtain ⟨w, hw, e⟩ := List.mem_map.mp z
                  rw [(Prod.mk.inj e).2] at hw
                  exact not_mem_take ndH hh hw)
              refine ⟨ts ++ [N], rs1 ++ [((u - f.b * h) / (2 * f.a), h)], _, _, rfl, ⟨B3.old, B3.nt, B3.m, B3.l, B3.nd, B3.ml, fun P hP => ?_⟩, by rw [e2]; exact pi.put fa hd fr⟩
              rw [List.mem_singleton.mp hP, List.map_append]
              exact RowsAt.rig (rw2.rig _ (Keeps.put (B2.mAt List.mem_cons_self) rfl))
            · rw [if_neg (by rw [decide_eq_true_iff]; exact hd)]
              wtm_at "rs"
              exact ⟨ts, rs1, _, _, rfl, B, by rw [e2]; exact pi.skip fa hd⟩
          · clear B hpG pi
            rintro σ H' ⟨ts, rs1, v7, v8, rfl, B, pi⟩
            rw [List.length_map, List.take_length] at pi
            wtm_at "rs"
            exact ⟨ts, rs1, _, _, _, rfl, B.sub (by wtm_at "vsub") (by wtm_at "vsub"), by rw [take_snoc hu, prod_snoc]; exact pi⟩
        · clear B hpG
          rintro σ H' ⟨ts, rs1, v6, v7, v8, rfl, B, pi⟩
          rw [List.length_map, List.take_length] at pi
          have hpG := B.oAt hp
          wtm_at "rs"
          refine ⟨(1001 - (y + 1)).toNat, by omega, y + 1, ts, rs1, _, _, _, _, rfl, by omega, by omega, rfl, B.sub (by wtm_at "vsub") (by wtm_at "vsub"), ?_⟩
          refine so.next pi fa y0 (by rw [prod_len]; exact Nat.mul_le_mul lenR lenH) fun u h => ?_
          rw [mem_prod, memR, memH]
          refine and_congr ?_ Iff.rfl
          rw [← e1, ← rr]
          constructor
          · rintro (rfl | rfl)
            · rfl
            · exact Int.neg_mul_neg ..
          · intro z
            rcases Int.le_total 0 u with k | k
            · exact .inl (sq_inj k r0 z)
            · exact .inr (by
                have := sq_inj (show 0 ≤ -u by omega) r0 (by rw [Int.neg_mul_neg]; exact z)
                omega)
    · rw [if_neg (by rw [decide_eq_true_iff]; exact c)]
      wtm_at "rs"
      have lr := so.len
      exact q D ts rs H' B.same B.nt (B.fr List.mem_cons_self) (by wtm_at "h") (B.zAt (P := fun G => RowsAt G ts (rs.map prV)) List.mem_cons_self) (so.done fo y0 (by omega)) (by omega)
theorem use_PW {C p : Addr} {f : Fm} {m : Int} {H : Hp} {Q : VK} {E : XK} (h : IsF C H p f) (fo : f.ok) (hb : Fm.bd 100 f) (m0 : 0 ≤ m) (m1 : m ≤ 10 ^ 9) (am : 4 * f.a * m ≤ 10 ^ 6) (D0 : -(10 ^ 9) ≤ f.D) (nt : NoT H)
    (q : ∀ (D : Addr) (ts : List Addr) (rs : List (Int × Int)) (H' : Hp), Same H H' → NoT H' → H D = none → H' D = some (.lst (ts.map V.ref)) → RowsAt H' ts (rs.map prV) → WaySet f m rs → rs.length ≤ 4004 → Q (.ref D) H') : spPW C [.ref p, .int m] H Q E := ⟨p, f, m, rfl, h, fo, hb, m0, m1, am, D0, nt, q⟩
/-! ### Form.next_step -/
def spFNext (C : Addr) : Sp := fun vs H Q E => ∃ (p : Addr) (f : Fm), vs = [.ref p] ∧ IsF C H p f ∧ f.ok ∧ Fm.bd 1080 f ∧ Q (vOpt f.nx) H
theorem ok_Form_next_step (T : Txt K mg Ad) : MDef P w K mg base 1 Ad.c_Form "next_step" ["self"] (spFNext Ad.c_Form) := by
  refine T.d_Form_next_step.ok sc_Form_next_step (fun vs H Q E h => ?_) (fun f cdv A outer s H vs Q E hr h => ?_)
  · obtain ⟨p, f, rfl, _⟩ := h
    rfl
  · obtain ⟨p, f, rfl, ⟨dx, hp⟩, ho, ⟨ba, bb, bc⟩, q⟩ := h
    have la := ba.lt
    have h1 := ho.1
    refine ⟨_, (pss_cons (ps_if (pt_not (pt_chain op_lt op_le (pe_un un_neg (pe_fldC (pv 0) T.cl_Form T.nf_Form_a)) (pe_fldC (pv 0) T.cl_Form T.nf_Form_b) (pe_fldC (pv 0) T.cl_Form T.nf_Form_a))) (pss_one (ps_ret (pe_op op_fdivB (pe_op op_sub (pe_fldC (pv 0) T.cl_Form T.nf_Form_a) (pe_fldC (pv 0) T.cl_Form T.nf_Form_b)) (pe_op op_mulB pe_int (pe_fldC (pv 0) T.cl_Form T.nf_Form_a))))) pss_nil)
      (pss_cons (ps_if (PW.pt (pw_or (pt_cmpR op_gt (pe_fldC (pv 0) T.cl_Form T.nf_Form_a) (pe_fldC (pv 0) T.cl_Form T.nf_Form_c) (nomark _)) (pw_or1 (PW.pt (pw_and (pt_cmpR op_eq (pe_fldC (pv 0) T.cl_Form T.nf_Form_a) (pe_fldC (pv 0) T.cl_Form T.nf_Form_c) (nomark _)) (pw_and1 (pt_cmpR op_lt (pe_fldC (pv 0) T.cl_Form T.nf_Form_b) pe_int (nomark _)))))))) (pss_one (ps_ret pe_int)) pss_nil)
      (pss_one (ps_ret pe_non)))), ?_⟩
    try dsimp only [cxOf]
    unfold Fm.nx at q
    wtm_at "ra"
    all_goals
      first
        | (rw [if_pos (by omega)] at q; exact q)
        | (rw [if_neg (by omega), if_pos (by omega)] at q; exact q)
        | (rw [if_neg (by omega), if_neg (by omega)] at q; exact q)
theorem use_FNext {C : Addr} {p : Addr} {f : Fm} {H : Hp} {Q : VK} {E : XK} (h : IsF C H p f) (ho : f.ok) (hb : Fm.bd 1080 f) (q : Q (vOpt f.nx) H) : spFNext C [.ref p] H Q E := ⟨p, f, rfl, h, ho, hb, q⟩
/-! ### Form.stepped -/
def spFStep (C : Addr) : Sp := fun vs H Q E => ∃ (p : Addr) (f : Fm) (k : Int), vs = [.ref p, .int k] ∧ IsF C H p f ∧ f.ok ∧ Fm.bd 1090 f ∧ Bd 1090 k ∧ NoT H ∧ ∀ x H', Same H H' → NoT H' → H x = none → IsF C H' x (f.st k) → Q (.ref x) H'
theorem ok_Form_stepped (T : Txt K mg Ad) : MDef P w K mg base 5 Ad.c_Form "stepped" ["self", "k"] (spFStep Ad.c_Form) := by
  refine T.d_Form_stepped.ok sc_Form_stepped (fun vs H Q E h => ?_) (fun f cdv A outer s H vs Q E hr h => ?_)
  · obtain ⟨p, f, k, rfl, _⟩ := h
    rfl
  · obtain ⟨p, f, k, rfl, ⟨dx, hp⟩, ho, ⟨ba, bb, bc⟩, bk, nt, q⟩ := h
    refine ⟨_, (pss_cons (ps_if (pt_cmpR op_eq (pv 1) pe_int (nomark _)) (pss_one (ps_ret (pe_mkd (ok_Form_init T) (hr.mono (by decide)) (passes_call (takes_of rfl rfl rfl rfl) (fun _ _ _ _ h => h)) (pa_cons (pe_fldC (pv 0) T.cl_Form T.nf_Form_c) (pa_cons (pe_un un_neg (pe_fldC (pv 0) T.cl_Form T.nf_Form_b)) (pa_cons (pe_fldC (pv 0) T.cl_Form T.nf_Form_a) pa_nil)))))) pss_nil)
      (pss_one (ps_ret (pe_mkd (ok_Form_init T) (hr.mono (by decide)) (passes_call (takes_of rfl rfl rfl rfl) (fun _ _ _ _ h => h)) (pa_cons (pe_fldC (pv 0) T.cl_Form T.nf_Form_a) (pa_cons (pe_op op_add (pe_fldC (pv 0) T.cl_Form T.nf_Form_b) (pe_op op_mulB (pe_op op_mulB pe_int (pe_fldC (pv 0) T.cl_Form T.nf_Form_a)) (pv 1))) (pa_cons (pe_op op_add (pe_op op_add (pe_op op_mulB (pe_op op_mulB (pe_fldC (pv 0) T.cl_Form T.nf_Form_a) (pv 1)) (pv 1)) (pe_op op_mulB (pe_fldC (pv 0) T.cl_Form T.nf_Form_b) (pv 1))) (pe_fldC (pv 0) T.cl_Form T.nf_Form_c)) pa_nil))))))), ?_⟩
    try dsimp only [cxOf]
    wtm_at "ra"
    · rename_i hk
      subst hk
      have e := f.st_zero
      exact use_FI e (by rw [e]; exact ⟨bc.mono (by decide), bb.neg.mono (by decide), ba.mono (by decide)⟩) (ho.st 0) nt q
    · rename_i hk
      have e := Fm.st_ne (f := f) hk
      exact use_FI e (by rw [e]; exact ⟨ba.mono (by decide), by dsimp only; wtm_at "bd", by dsimp only; wtm_at "bd"⟩) (ho.st k) nt q
theorem use_FStep {C : Addr} {p : Addr} {f : Fm} {k : Int} {H : Hp} {Q : VK} {E : XK} (h : IsF C H p f) (ho : f.ok) (hb : Fm.bd 1090 f) (hk : Bd 1090 k) (nt : NoT H) (q : ∀ x H', Same H H' → NoT H' → H x = none → IsF C H' x (f.st k) → Q (.ref x) H') : spFStep C [.ref p, .int k] H Q E := ⟨p, f, k, rfl, h, ho, hb, hk, nt, q⟩
/-! ### Form.steps -/
def spFSteps (C : Addr) : Sp := fun vs H Q E => ∃ (p : Addr) (f : Fm), vs = [.ref p] ∧ IsF C H p f ∧ f.ok ∧ Fm.bd 1070 f ∧ (stepsF f).length ≤ 1000000 ∧ NoT H ∧ ∀ l H', Same H H' → NoT H' → H l = none → H' l = some (.lst ((stepsF f).map V.int)) → Q (.ref l) H'
theorem ok_Form_steps (T : Txt K mg Ad) : MDef P w K mg base 6 Ad.c_Form "steps" ["self"] (spFSteps Ad.c_Form) := by
  refine T.d_Form_steps.ok sc_Form_steps (fun vs H Q E h => ?_) (fun f cdv A outer s H vs Q E hr h => ?_)
  · obtain ⟨p, f, rfl, _⟩ := h
    rfl
  · obtain ⟨p, f, rfl, hp, ho, hb, hlen, nt, q⟩ := h
    refine ⟨_, (pss_cons (ps_set (i := 1) sc_Form_steps.nd rfl (Or.inl rfl) (pe_lst pa_nil))
      (pss_cons (ps_set (i := 2) sc_Form_steps.nd rfl (Or.inl rfl) (pv 0))
      (pss_cons (ps_set (i := 3) sc_Form_steps.nd rfl (Or.inl rfl) (pe_md0 (ok_Form_next_step T) (pv 2) T.cl_Form (hr.mono (by decide)) (passes_call (takes_of rfl rfl rfl rfl) (fun _ _ _ _ h => h))))
      (pss_cons (ps_while (passes_of rfl) (pt_cmpR op_notN (pv 3) pe_non (nomark _)) (pss_cons (ps_expr (pe_bm PySem.F.plainAttrs_list PySem.F.slot_list_append PySem.F.type_list_append mt_append (pv 1) (pa_cons (pv 3) pa_nil)))
      (pss_cons (ps_set (i := 2) sc_Form_steps.nd rfl (Or.inl rfl) (pe_md (ok_Form_stepped T) (pv 2) T.cl_Form (hr.mono (by decide)) (passes_call (takes_of rfl rfl rfl rfl) (fun _ _ _ _ h => h)) (pa_cons (pv 3) pa_nil)))
      (pss_one (ps_set (i := 3) sc_Form_steps.nd rfl (Or.inl rfl) (pe_md0 (ok_Form_next_step T) (pv 2) T.cl_Form (hr.mono (by decide)) (passes_call (takes_of rfl rfl rfl rfl) (fun _ _ _ _ h => h))))))))
      (pss_one (ps_ret (pv 1))))))), ?_⟩
    try dsimp only [cxOf]
    wtm_at "rs"
    rename_i l hl
    obtain ⟨dx, hp'⟩ := hp
    wtm_at "rs"
    refine use_FNext ⟨dx, by wtm_at "h"⟩ ho (hb.mono (by decide)) ?_
    wtm_at "rs"
    refine rd_while (fun μ σ H' => ∃ (x : Addr) (g : Fm) (xs : List Int), μ = g.mu ∧ σ = [some (.ref p), some (.ref l), some (.ref x), some (vOpt g.nx)] ∧ Same H H' ∧ NoT H' ∧ H' l = some (.lst (xs.map V.int)) ∧ IsF Ad.c_Form H' x g ∧ g.ok ∧ g.lo (2 ^ 1070) ∧ xs ++ stepsF g = stepsF f) _
      ⟨p, f, [], rfl, rfl, same_new hl, NoT.upd nt rfl, upd_same, ⟨dx, by wtm_at "h"⟩, ho, Fm.bd_lo hb, rfl⟩ ?_
    rintro μ σ H' ⟨x, g, xs, rfl, rfl, sm, nt', hl', ⟨dy, hx⟩, go, glo, hs⟩
    cases e : g.nx with
    | none =>
      rw [stepsF_none e, List.append_nil] at hs
      subst hs
      simp only [vOpt]
      wtm_at "rs"
      exact q l H' sm nt' hl hl'
    | some k =>
      have gb := Fm.lo_bd go glo
      have kb := Fm.nx_bd go gb e
      have xl : xs.length < 1000000 := by
        rw [stepsF_some go e] at hs
        have := congrArg List.length hs
        simp at this
        omega
      have xl' : (xs.map V.int).length < 1000000 := by rw [List.length_map]; exact xl
      simp only [vOpt]
      wtm_at "rs"
      have hx' : IsF Ad.c_Form (upd H' l (.lst (xs.map V.int ++ [.int k]))) x g := ⟨dy, by rw [upd_ne (ne_of hx hl' (by intro z; cases z))]; exact hx⟩
      obtain ⟨dz, hx''⟩ := id hx'
      wtm_at "rs"
      refine use_FStep hx' go (gb.mono (by decide)) (kb.mono (by decide)) (by wtm_at "nt") fun x2 H2 sm2 nt2 hn2 h2 => ?_
      wtm_at "rs"
      obtain ⟨dw, h2'⟩ := id h2
      wtm_at "rs"
      refine use_FNext h2 (go.st k) (Fm.bd.mono (Fm.lo_bd (go.st k) (Fm.lo_st go glo e)) (by decide)) ?_
      wtm_at "rs"
      refine ⟨_, Fm.mu_lt go e, x2, g.st k, xs ++ [k], rfl, rfl, ?_, nt2, ?_, h2, go.st k, Fm.lo_st go glo e, ?_⟩
      · exact (same_upd2 sm hl).trans sm2
      · rw [sm2 _ _ upd_same, List.map_append]
        rfl
      · rw [← hs, stepsF_some go e, List.append_assoc]
        rfl
theorem use_FSteps {C : Addr} {p : Addr} {f : Fm} {H : Hp} {Q : VK} {E : XK} (h : IsF C H p f) (ho : f.ok) (hb : Fm.bd 1070 f) (hl : (stepsF f).length ≤ 1000000) (nt : NoT H) (q : ∀ l H', Same H H' → NoT H' → H l = none → H' l = some (.lst ((stepsF f).map V.int)) → Q (.ref l) H') : spFSteps C [.ref p] H Q E := ⟨p, f, rfl, h, ho, hb, hl, nt, q⟩
/-! ### Form.turned -/
def spFTurn (K : PySem.W.Frag) (C : Addr) : Sp := fun vs H Q E => ∃ (p s : Addr) (f : Fm) (ks : List Int), vs = [.ref p, .ref s] ∧ IsF C H p f ∧ f.ok ∧ SqL K H s (ks.map V.int) ∧ (∀ i, i ≤ ks.length → Fm.bd 1090 (f.turn (ks.take i))) ∧ (∀ k ∈ ks, Bd 1090 k) ∧ NoT H ∧
  ∀ x H', Same H H' → NoT H' → IsF C H' x (f.turn ks) → Q (.ref x) H'
theorem ok_Form_turned (T : Txt K mg Ad) : MDef P w K mg base 6 Ad.c_Form "turned" ["self", "steps"] (spFTurn K Ad.c_Form) := by
  refine T.d_Form_turned.ok sc_Form_turned (fun vs H Q E h => ?_) (fun f cdv A outer s H vs Q E hr h => ?_)
  · obtain ⟨p, s, f, ks, rfl, _⟩ := h
    rfl
  · obtain ⟨p, s, f, ks, rfl, hp, ho, hs, hb, hk, nt, q⟩ := h
    refine ⟨_, (pss_cons (ps_set (i := 2) sc_Form_turned.nd rfl (Or.inl rfl) (pv 0))
      (pss_cons (ps_for (passes_of rfl) rfl (pi_list (pv 1)) (pg_name (i := 3) sc_Form_turned.nd rfl (Or.inl rfl)) (pss_one (ps_set (i := 2) sc_Form_turned.nd rfl (Or.inl rfl) (pe_md (ok_Form_stepped T) (pv 2) T.cl_Form (hr.mono (by decide)) (passes_call (takes_of rfl rfl rfl rfl) (fun _ _ _ _ h => h)) (pa_cons (pv 3) pa_nil)))))
      (pss_one (ps_ret (pv 2))))), ?_⟩
    try dsimp only [cxOf]
    wtm_at "rs"
    refine rd_forL (xs := ks.map V.int) (fun i σ H' => ∃ (x : Addr) (v3 : Option V), σ = [some (.ref p), some (.ref s), some (.ref x), v3] ∧ Same H H' ∧ NoT H' ∧ IsF Ad.c_Form H' x (f.turn (ks.take i))) ⟨p, none, rfl, Same.refl _, nt, hp⟩ (fun i σ H' _ ⟨_, _, _, sm, _⟩ => sm.seq hs) ?_ ?_
    · rintro i y σ H' hi ⟨x, v3, rfl, sm, nt', ⟨dx, hx⟩⟩
      rw [List.getElem?_map] at hi
      obtain ⟨k, hy, rfl⟩ := Option.map_eq_some_iff.mp hi
      have hlt := (List.getElem?_eq_some_iff.mp hy).1
      wtm_at "rs"
      refine ⟨x, _, k, rfl, ⟨dx, hx⟩, ho.turn _, hb i (by omega), hk k (List.mem_of_getElem? hy), nt', fun x' H2 sm2 nt2 hn h2 => ?_⟩
      wtm_at "rs"
      refine ⟨x', _, rfl, sm.trans sm2, nt2, ?_⟩
      rw [List.take_add_one, hy]
      show IsF _ _ _ (f.turn (ks.take i ++ [k]))
      rw [Fm.turn_snoc]
      exact h2
    · rintro σ H' ⟨x, v3, rfl, sm, nt', hx⟩
      rw [List.length_map, List.take_length] at hx
      wtm_at "rs"
      exact q x H' sm nt' hx
theorem use_FTurn {C : Addr} {p s : Addr} {f : Fm} {ks : List Int} {H : Hp} {Q : VK} {E : XK} (h : IsF C H p f) (ho : f.ok) (hs : SqL K H s (ks.map V.int)) (hb : ∀ i, i ≤ ks.length → Fm.bd 1090 (f.turn (ks.take i))) (hk : ∀ k ∈ ks, Bd 1090 k) (nt : NoT H) (q : ∀ x H', Same H H' → NoT H' → IsF C H' x (f.turn ks) → Q (.ref x) H') :
    spFTurn K C [.ref p, .ref s] H Q E := ⟨p, s, f, ks, rfl, h, ho, hs, hb, hk, nt, q⟩
/-! ### ways -/
def spWays (C : Addr) : Sp := fun vs H Q E => ∃ (p : Addr) (f : Fm) (m : Int), vs = [.ref p, .int m] ∧ IsF C H p f ∧ f.ok ∧ Fm.bd 200 f ∧ (stepsF f).length ≤ 1000000 ∧ 0 ≤ m ∧ m ≤ 2000 ∧ -5000 ≤ f.D ∧ NoT H ∧
  ∀ (D : Addr) (ts : List Addr) (rs : List (Int × Int)) (H' : Hp), Same H H' → NoT H' → H D = none → H' D = some (.lst (ts.map V.ref)) → RowsAt H' ts (rs.map prV) → WaysOf f m rs → rs.length ≤ 4004 → Q (.ref D) H'
theorem ok_ways (T : Txt K mg Ad) : Def P w K mg base 7 "ways" ["form", "m"] (spWays Ad.c_Form) := by
  refine T.d_ways.ok sc_ways (fun vs H Q E h => ?_) (fun f cdv A outer s H vs Q E hr h => ?_)
  · obtain ⟨p, f, m, rfl, _⟩ := h
    rfl
  · obtain ⟨p, f, m, rfl, ⟨dx, hp⟩, fo, hb, hl, m0, m1, d0, nt, q⟩ := h
    refine ⟨_, (pss_cons (ps_set (i := 2) sc_ways.nd rfl (Or.inr rfl) (pe_md0 (ok_Form_steps T) (pv 0) T.cl_Form (hr.mono (by decide)) (passes_call (takes_of rfl rfl rfl rfl) (fun _ _ _ _ h => h))))
      (pss_cons (ps_set (i := 3) sc_ways.nd rfl (Or.inl rfl) (pe_md (ok_Form_turned T) (pv 0) T.cl_Form (hr.mono (by decide)) (passes_call (takes_of rfl rfl rfl rfl) (fun _ _ _ _ h => h)) (pa_cons (pv 2) pa_nil)))
      (pss_one (ps_ret (pe_callB cr_sortedPO (by rfl) T.b_sorted (by decide +kernel) (pa_cons (pe_lc (own := [("point", 4)])  (te := (tCall ((spMB K)) [] E0 (tCons (tVar 4) (tCons (tVar 2) tNil)))) rfl sc_ways.nd  (pi_list (pe_d (ok_plain_ways T) (hr.mono (by decide)) (passes_call (takes_of rfl rfl rfl rfl) (fun _ _ _ _ h => h)) (pa_cons (pv 3) (pa_cons (pv 1) pa_nil)))) (blkOk_by (own := [("point", 4)]) (N := ["form", "m", "steps", "reduced", "point"]) (sc := defScope s_ways) (by decide +kernel)) (fun _ _ _ _ _ => (pg_name (i := 4) sc_ways.nd rfl (Or.inl rfl))) (fun _ _ _ _ _ => pts_nil) (fun _ _ _ _ _ => (pe_d (E := E0) (ok_moved_back T) (hr.mono (by decide)) passL (pa_cons (pv 4) (pa_cons (pv 2) pa_nil))))) pa_nil)))))), ?_⟩
    try dsimp only [cxOf]
    have B := Hv.start nt
    wtm_at "rs"
    refine use_FSteps ⟨dx, hp⟩ fo (hb.mono (by decide)) hl B.nt fun l G s1 n1 hl0 hl1 => ?_
    have B := B.got s1 n1 hl0 hl1
    obtain ⟨g1, g2⟩ := stepsF_bd f.mu f fo (Nat.le_refl _) (Fm.bd_lo hb)
    wtm_at "rs"
    refine use_FTurn ⟨dx, s1 _ _ hp⟩ fo (SqL.of hl1) (fun i hi => (g2 i hi).mono (by decide)) (fun k hk => (g1 k hk).mono (by decide)) n1 fun x G2 s2 n2 hx => ?_
    have B := (B.next s2 n2).rig hx.rig
    have fr := redF_red f.mu f fo (Nat.le_refl _)
    have ro : (redF f).ok := fo.turn _
    have rD : (redF f).D = f.D := Fm.turn_D f _
    change IsF Ad.c_Form G2 x (redF f) at hx
    obtain ⟨a1, a2, a3, a4⟩ := red_small fr ro (by omega)
    have o := ro.1
    have am : 4 * (redF f).a * m ≤ 160 * 2000 := Int.mul_le_mul (by omega) m1 m0 (by decide)
    wtm_at "rs"
    refine use_PW hx ro (red_bd fr ro (by omega)) m0 (by omega) (by omega) (by omega) n2 fun D0 ts0 rs0 G3 s3 n3 hD0 hd0 hR0 ws0 len0 => ?_
    have B := B.got s3 n3 hD0 hd0
    clear s1 n1 hl0 hl1 s2 n2 hx s3 n3 hD0 hd0
    wtm_at "rs"
    have hd0 := B.lAt (a := D0) (by wtm_at "mem")
    have hl1 := B.lAt (a := l) (by wtm_at "mem")
    have lts := RowsAt.len hR0
    rw [List.length_map] at lts
    have bm : Bd 20 m := Bd.of (by omega) (by omega)
    refine rd_lcLG (xs := ts0.map V.ref) (fun D i zs H' => ∃ ts : List Addr, zs = ts.map V.ref ∧ Same G3 H' ∧ NoT H' ∧ RowsAt H' ts ((rs0.take i).map fun r => prV (backP r (stepsF f))) ∧ ts.length = i) (fun D i zs H' ⟨_, _, s, _⟩ => SqL.of (s _ _ hd0)) (fun D hD => ⟨[], rfl, same_new hD, NoT.upd B.nt rfl, trivial, rfl⟩) ?_ ?_
    · rintro D i zs v H' hD hi hzs ⟨ts, rfl, s, n, hR, len⟩
      obtain ⟨t, r, rfl, ht, hr⟩ := RowsAt.at hR0 hi
      rw [List.getElem?_map] at hr
      obtain ⟨r, hr', rfl⟩ := Option.map_eq_some_iff.mp hr
      clear hr
      have hr := hr'
      have hri := (List.getElem?_eq_some_iff.mp hr).1
      have hrm := (ws0.mem r).mp (List.mem_of_getElem? hr)
      wtm_at "r"
      refine ⟨rfl, ?_⟩
      wtm_at "rs"
      refine use_MB (r := r) (ks := stepsF f) (SqT.of (s _ _ ht)) (SqL.of (s _ _ hl1)) (fun k hk => (g1 k hk).mono (by decide)) (back_bd fo hb bm hrm) fun N hN => ?_
      have hDN : D ≠ N := fun z => by
        rw [z, hN] at hzs
        cases hzs
      refine put_G (i := i) (J := fun D i zs H' => ∃ ts : List Addr, zs = ts.map V.ref ∧ Same G3 H' ∧ NoT H' ∧ RowsAt H' ts ((rs0.take i).map fun r => prV (backP r (stepsF f))) ∧ ts.length = i) (acc := ts.map V.ref) (by rw [upd_ne hDN]; exact hzs) (by rw [List.length_map]; exact Nat.lt_trans (m := 1000000) (by omega) (by decide)) ?_
      refine ⟨ts ++ [N], by simp, same_upd2 (s.trans (same_new hN)) hD, NoT.upd (NoT.upd n rfl) rfl, ?_, by rw [List.length_append, len]; rfl⟩
      rw [List.take_add_one, hr, List.map_append]
      exact RowsAt.other (p := D) (xs := ts.map V.ref) (by rw [upd_ne hDN]; exact hzs) (RowsAt.snoc upd_same (hR.mono (same_new hN)))
    · rintro D zs H' hD hzs ⟨ts, rfl, s, n, hR, len⟩
      have B := B.next s n
      rw [List.length_map, lts, List.take_length, show (fun r => prV (backP r (stepsF f))) = prV ∘ (fun r => backP r (stepsF f)) from rfl, ← List.map_map] at hR
      wtm_at "rs"
      refine rd_sortP (SqL.of hzs) hR fun ts' rs' E hR' pm st hE => ?_
      have hfree : ∀ {z : Addr}, H' z = none → H z = none := fun h => B.free h
      have B := B.newL (o := .lst (ts'.map V.ref)) hE
      refine q E ts' rs' _ B.same B.nt (hfree hE) upd_same (hR'.mono (same_new hE)) (WaySet.sorted ws0.back pm st) (by rw [pm.length_eq, List.length_map]; exact len0)
theorem use_ways {C p : Addr} {f : Fm} {m : Int} {H : Hp} {Q : VK} {E : XK} (h : IsF C H p f) (fo : f.ok) (hb : Fm.bd 200 f) (hl : (stepsF f).length ≤ 1000000) (m0 : 0 ≤ m) (m1 : m ≤ 2000) (d0 : -5000 ≤ f.D) (nt : NoT H)
    (q : ∀ (D : Addr) (ts : List Addr) (rs : List (Int × Int)) (H' : Hp), Same H H' → NoT H' → H D = none → H' D = some (.lst (ts.map V.ref)) → RowsAt H' ts (rs.map prV) → WaysOf f m rs → rs.length ≤ 4004 → Q (.ref D) H') : spWays C [.ref p, .int m] H Q E := ⟨p, f, m, rfl, h, fo, hb, hl, m0, m1, d0, nt, q⟩
/-! ### reduced_forms -/
/-- the forms that stand at these places -/
def FsAt (C : Addr) (H : Hp) : List Addr → List Fm → Prop
  | [], [] => True
  | y :: ys, f :: fs => IsF C H y f ∧ FsAt C H ys fs
  | _, _ => False
theorem FsAt.keeps {C : Addr} {H G : Hp} (k : Keeps H G) : ∀ {ys : List Addr} {fs : List Fm}, FsAt C H ys fs → FsAt C G ys fs
  | [], [], _ => trivial
  | _ :: _, _ :: _, h => ⟨h.1.keeps k, FsAt.keeps k h.2⟩
  | [], _ :: _, h => h.elim
  | _ :: _, [], h => h.elim
theorem FsAt.rig {C : Addr} {H : Hp} {ys : List Addr} {fs : List Fm} (h : FsAt C H ys fs) : Rig (fun G => FsAt C G ys fs) H := fun G k => h.keeps k
theorem FsAt.mono {C : Addr} {H G : Hp} {ys : List Addr} {fs : List Fm} (h : FsAt C H ys fs) (s : Same H G) : FsAt C G ys fs := h.keeps (Keeps.of s)
theorem FsAt.len {C : Addr} {H : Hp} : ∀ {ys : List Addr} {fs : List Fm}, FsAt C H ys fs → ys.length = fs.length
  | [], [], _ => rfl
  | _ :: _, _ :: _, h => by rw [List.length_cons, List.length_cons, FsAt.len h.2]
  | [], _ :: _, h => h.elim
  | _ :: _, [], h => h.elim
theorem FsAt.snoc {C : Addr} {H : Hp} {y : Addr} {f : Fm} (hy : IsF C H y f) : ∀ {ys : List Addr} {fs : List Fm}, FsAt C H ys fs → FsAt C H (ys ++ [y]) (fs ++ [f])
  | [], [], _ => ⟨hy, trivial⟩
  | _ :: _, _ :: _, h => ⟨h.1, FsAt.snoc hy h.2⟩
  | [], _ :: _, h => h.elim
  | _ :: _, [], h => h.elim
theorem FsAt.at {C : Addr} {H : Hp} : ∀ {ys : List Addr} {fs : List Fm} {i : Nat} {y : Addr}, FsAt C H ys fs → ys[i]? = some y → ∃ f, fs[i]? = some f ∧ IsF C H y f
  | _ :: _, f :: _, 0, _, h, e => ⟨f, rfl, by cases e; exact h.1⟩
  | _ :: _, _ :: _, i + 1, _, h, e => FsAt.at (i := i) h.2 (by simpa using e)
  | [], _, _, _, _, e => by cases e
  | _ :: _, [], _, _, h, _ => h.elim
def spRF (C : Addr) : Sp := fun vs H Q E => ∃ d : Int, vs = [.int d] ∧ -1000 ≤ d ∧ d ≤ 1000 ∧ NoT H ∧ ∀ (D : Addr) (ys : List Addr) (H' : Hp), Same H H' → NoT H' → H D = none → H' D = some (.lst (ys.map V.ref)) → FsAt C H' ys (rfL d) → Q (.ref D) H'
theorem ok_reduced_forms (T : Txt K mg Ad) : Def P w K mg base 5 "reduced_forms" ["discriminant"] (spRF Ad.c_Form) := by
  refine T.d_reduced_forms.ok sc_reduced_forms (fun vs H Q E h => ?_) (fun f cdv A outer s H vs Q E hr h => ?_)
  · obtain ⟨d, rfl, _⟩ := h
    rfl
  · obtain ⟨d, rfl, d0, d1, nt, q⟩ := h
    refine ⟨_, (pss_cons (ps_set (i := 1) sc_reduced_forms.nd rfl (Or.inl rfl) (pe_lst pa_nil))
      (pss_cons (ps_if (PW.pt (pw_or (pt_cmpR op_ge (pv 0) pe_int (nomark _)) (pw_or1 (pt_pure (pt_cmpR op_in_seq (pe_op op_mod (pv 0) pe_int) (pe_tup (pa_cons pe_int (pa_cons pe_int pa_nil))) (by rfl)))))) (pss_one (ps_ret (pv 1))) pss_nil)
      (pss_cons (ps_set (i := 2) sc_reduced_forms.nd rfl (Or.inl rfl) pe_int)
      (pss_cons (ps_while (passes_of rfl) (pt_cmpR op_le (pe_op op_mulB (pe_op op_mulB pe_int (pv 2)) (pv 2)) (pe_un un_neg (pv 0)) (nomark _)) (pss_cons (ps_for (passes_of rfl) rfl (pi_range2 (by rfl) T.b_range (pa_cons (pe_op op_sub pe_int (pv 2)) (pa_cons (pe_op op_add (pv 2) pe_int) pa_nil))) (pg_name (i := 3) sc_reduced_forms.nd rfl (Or.inl rfl)) (pss_one (ps_if (pt_cmpR op_eq (pe_op op_mod (pe_op op_sub (pe_op op_mulB (pv 3) (pv 3)) (pv 0)) (pe_op op_mulB pe_int (pv 2))) pe_int (nomark _)) (pss_cons (ps_set (i := 4) sc_reduced_forms.nd rfl (Or.inl rfl) (pe_op op_fdivB (pe_op op_sub (pe_op op_mulB (pv 3) (pv 3)) (pv 0)) (pe_op op_mulB pe_int (pv 2))))
      (pss_cons (ps_set (i := 5) sc_reduced_forms.nd rfl (Or.inl rfl) (pe_or (pe_cmpR op_gt (pv 4) (pv 2) (nomark _)) (pe_one (pe_and (pe_cmpR op_eq (pv 4) (pv 2) (nomark _)) (pe_one (pe_cmpR op_ge (pv 3) pe_int (nomark _)))))))
      (pss_one (ps_if (PW.pt (pw_and (pt_val (pv 5)) (pw_and1 (pt_cmpR op_eq (pe_d (ok_common T) (hr.mono (by decide)) (passes_call (takes_of rfl rfl rfl rfl) (fun _ _ _ _ h => h)) (pa_cons (pe_d (ok_common T) (hr.mono (by decide)) (passes_call (takes_of rfl rfl rfl rfl) (fun _ _ _ _ h => h)) (pa_cons (pv 2) (pa_cons (pv 3) pa_nil))) (pa_cons (pv 4) pa_nil))) pe_int (nomark _))))) (pss_one (ps_expr (pe_bm PySem.F.plainAttrs_list PySem.F.slot_list_append PySem.F.type_list_append mt_append (pv 1) (pa_cons (pe_mkd (ok_Form_init T) (hr.mono (by decide)) (passes_call (takes_of rfl rfl rfl rfl) (fun _ _ _ _ h => h)) (pa_cons (pv 2) (pa_cons (pv 3) (pa_cons (pv 4) pa_nil)))) pa_nil)))) pss_nil)))) pss_nil)))
      (pss_one (ps_aug (i := 2) sc_reduced_forms.nd rfl (Or.inl rfl) pe_int ip_add))))
      (pss_one (ps_ret (pv 1))))))), ?_⟩
    try dsimp only [cxOf]
    have B := Hv.start nt
    wtm_at "rs"
    rename_i D hD
    have B := B.new (o := .lst []) hD
    have fin : rfL d = [] → Q (.ref D) (upd H D (.lst [])) := fun e => q D [] _ B.same B.nt hD upd_same (by rw [e]; trivial)
    by_cases c0 : 0 ≤ d
    · rw [if_pos (decide_eq_true c0)]
      wtm_at "rs"
      refine fin ?_
      unfold rfL
      rw [if_neg (by omega)]
    · rw [if_neg (by rw [decide_eq_true_iff]; exact c0)]
      wtm_at "rs"
      by_cases c4 : d % 4 = 2 ∨ d % 4 = 3
      · rw [if_pos (decide_eq_true c4)]
        wtm_at "rs"
        exact fin (rf_bad c4)
      · rw [if_neg (by rw [decide_eq_true_iff]; exact c4)]
        wtm_at "rs"
        refine rd_while (fun μ σ H' => ∃ (n : Nat) (ys : List Addr) (v3 v4 v5 : Option V), μ = 20 - n ∧ n ≤ 18 ∧ σ = [some (.int d), some (.ref D), some (.int (n + 1)), v3, v4, v5] ∧ Hv noX H [(D, .lst (ys.map V.ref))] [] [fun G => FsAt Ad.c_Form G ys (rfN d n)] H') 20
          ⟨0, [], none, none, none, rfl, by decide, rfl, B.rig (fun G _ => trivial)⟩ ?_
        clear fin B hD
        rintro μ σ H' ⟨n, ys, v3, v4, v5, rfl, hn, rfl, B⟩
        have n0 : (0 : Int) ≤ n := by omega
        wtm_at "rs"
        generalize ha : (n : Int) + 1 = a at *
        by_cases c3 : 3 * a * a ≤ -d
        · rw [if_pos (decide_eq_true c3)]
          have hn2 : n ≤ 17 := by
            rcases Nat.lt_or_ge n 18 with z | z
            · omega
            · exfalso
              have : 19 * 19 ≤ a * a := sq_le (x := 19) (by omega)
              rw [Int.mul_assoc] at c3
              omega
          wtm_at "rs"
          refine rd_forR (fun i σ H' => ∃ (ys : List Addr) (v3 v4 v5 : Option V), σ = [some (.int d), some (.ref D), some (.int a), v3, v4, v5] ∧ Hv noX H [(D, .lst (ys.map V.ref))] [] [fun G => FsAt Ad.c_Form G ys (rfN d n ++ rfTo d a i)] H') ⟨ys, v3, v4, v5, rfl, ?_⟩ ?_ ?_
          · rw [show rfTo d a 0 = [] from rfl, List.append_nil]
            exact B
          · clear B
            rintro i σ H' hi ⟨ys, v3, v4, v5, rfl, B⟩
            have hfs := B.zAt (P := fun G => FsAt Ad.c_Form G ys (rfN d n ++ rfTo d a i)) List.mem_cons_self
            have hlen := FsAt.len hfs
            have l1 := rfN_len (d := d) (n := n)
            have l2 := rfTo_len (d := d) (a := a) (j := i)
            have l3 : n * (2 * n) ≤ 18 * 36 := Nat.mul_le_mul (by omega) (by omega)
            rw [List.length_append] at hlen
            have ll : (ys.map V.ref).length < 1000000 := by
              rw [List.length_map]
              omega
            generalize hb : 1 - a + (i : Int) = b at *
            have b1 : -a < b ∧ b ≤ a := by omega
            have bb0 := sq_nonneg b
            have bb1 : b * b ≤ 20 * 20 := sq_le (by omega)
            have es := rfTo_succ (d := d) (a := a) (j := i)
            rw [hb] at es
            have skip : goodB d a b = none → FsAt Ad.c_Form H' ys (rfN d n ++ rfTo d a (i + 1)) := fun e => by
              rw [es, e]
              simpa using hfs
            have cc : ((Int.gcd ((Int.gcd a b : Nat) : Int) ((b * b - d) / (4 * a)) : Nat) : Int) = 1 ↔ Int.gcd ((Int.gcd a b : Nat) : Int) ((b * b - d) / (4 * a)) = 1 := by omega
            have stay : goodB d a b = none → ∀ w3 w4 w5, ∃ (ys : List Addr) (v3 v4 v5 : Option V), [some (.int d), some (.ref D), some (.int a), w3, w4, w5] = [some (.int d), some (.ref D), some (.int a), v3, v4, v5] ∧ Hv noX H [(D, .lst (ys.map V.ref))] [] [fun G => FsAt Ad.c_Form G ys (rfN d n ++ rfTo d a (i + 1))] H' := fun e w3 w4 w5 => ⟨ys, w3, w4, w5, rfl, ⟨B.old, B.nt, B.m, B.l, B.nd, B.ml, fun P hP => by
              rw [List.mem_singleton.mp hP]
              exact (skip e).rig⟩⟩
            unfold goodB at es stay
            wtm_at "rs"
            by_cases e1 : (b * b - d) % (4 * a) = 0
            · rw [if_pos (decide_eq_true e1)]
              have c0' : 0 ≤ (b * b - d) / (4 * a) := Int.ediv_nonneg (by omega) (by omega)
              have c1' : (b * b - d) / (4 * a) ≤ b * b - d := Int.ediv_le_self _ (by omega)
              have eD := Int.mul_ediv_add_emod (b * b - d) (4 * a)
              rw [e1] at eD
              wtm_at "ra"
              all_goals
                generalize hc : (b * b - d) / (4 * a) = c at *
                have ok : (⟨a, b, c⟩ : Fm).ok := ⟨by dsimp only; omega, by unfold Fm.D; dsimp only; omega⟩
                have lim : (400 : Int) + 1000 < 2 ^ 100 := by decide
                have bd : Fm.bd 4400 ⟨a, b, c⟩ := ⟨(Bd.of (n := 100) (by dsimp only; omega) (by dsimp only; omega)).mono (by decide), (Bd.of (n := 100) (by dsimp only; omega) (by dsimp only; omega)).mono (by decide), (Bd.of (n := 100) (by dsimp only; omega) (by dsimp only; omega)).mono (by decide)⟩
                first
                  | exact stay (if_neg fun z => by omega) _ _ _
                  | (refine use_FI (f := ⟨a, b, c⟩) rfl bd ok B.nt fun x H2 s2 n2 hx ix => ?_
                     rw [if_pos ⟨e1, by omega, cc.mp (by assumption)⟩] at es
                     have B2 := B.next s2 n2
                     have hfs2 := (hfs.mono s2).snoc ix
                     wtm_at "rs"
                     rw [show ys.map V.ref ++ [V.ref x] = (ys ++ [x]).map V.ref by simp]
                     have B3 := B2.put (u := .lst ((ys ++ [x]).map V.ref))
                     refine ⟨ys ++ [x], _, _, _, rfl, ⟨B3.old, B3.nt, B3.m, B3.l, B3.nd, B3.ml, fun P hP => ?_⟩⟩
                     rw [List.mem_singleton.mp hP, es, ← List.append_assoc]
                     exact FsAt.rig (hfs2.keeps (Keeps.put (B2.mAt List.mem_cons_self) rfl)))
            · rw [if_neg (by rw [decide_eq_true_iff]; exact e1)]
              wtm_at "rs"
              exact stay (if_neg fun z => e1 z.1) _ _ _
          · clear B
            rintro σ H' ⟨ys, v3, v4, v5, rfl, B⟩
            wtm_at "rs"
            refine ⟨20 - (n + 1), by omega, n + 1, ys, v3, v4, v5, rfl, by omega, by rw [← ha]; rfl, ?_⟩
            rw [rfN_succ, ha]
            unfold rfRow
            rw [show (2 * a).toNat = (a + 1 - (1 - a)).toNat by omega]
            exact B
        · rw [if_neg (by rw [decide_eq_true_iff]; exact c3)]
          wtm_at "rs"
          refine q D ys H' B.same B.nt (B.fr List.mem_cons_self) (by wtm_at "h") ?_
          unfold rfL
          rw [if_pos (by omega), rfN_more (n := n) (by rw [ha]; omega) 19 (by omega)]
          exact B.zAt (P := fun G => FsAt Ad.c_Form G ys (rfN d n)) List.mem_cons_self
theorem use_RF {C : Addr} {d : Int} {H : Hp} {Q : VK} {E : XK} (d0 : -1000 ≤ d) (d1 : d ≤ 1000) (nt : NoT H) (q : ∀ (D : Addr) (ys : List Addr) (H' : Hp), Same H H' → NoT H' → H D = none → H' D = some (.lst (ys.map V.ref)) → FsAt C H' ys (rfL d) → Q (.ref D) H') : spRF C [.int d] H Q E := ⟨d, rfl, d0, d1, nt, q⟩
/-! ### _law_common -/
def spLawCommon : Sp := fun vs H Q _ => ∃ a b : Int, vs = [.int a, .int b] ∧ Q (.int ((Int.gcd a b : Nat) : Int)) H
theorem ok_law_common (T : Txt K mg Ad) : Def P w K mg base 1 "_law_common" ["_law_a", "_law_b"] spLawCommon := by
  refine T.d_law_common.ok sc_law_common (fun vs H Q E h => ?_) (fun f cdv A outer s H vs Q E hr h => ?_)
  · obtain ⟨a, b, rfl, _⟩ := h
    rfl
  · obtain ⟨a, b, rfl, q⟩ := h
    refine ⟨_, (pss_cons (ps_par (i := 2) (j := 3) rfl sc_law_common.nd rfl rfl (by decide) rfl rfl (pa_cons (pe_callB c_abs (by rfl) T.b_abs (by decide +kernel) (pa_cons (pv 0) pa_nil)) (pa_cons (pe_callB c_abs (by rfl) T.b_abs (by decide +kernel) (pa_cons (pv 1) pa_nil)) pa_nil)) (by rfl))
      (pss_cons (ps_while (passes_of rfl) (pt_cmpR op_gt (pv 3) pe_int (nomark _)) (pss_one (ps_par (i := 2) (j := 3) rfl sc_law_common.nd rfl rfl (by decide) rfl rfl (pa_cons (pv 3) (pa_cons (pe_op op_mod (pv 2) (pv 3)) pa_nil)) (by rfl))))
      (pss_one (ps_ret (pv 2))))), ?_⟩
    try dsimp only [cxOf]
    wtm_at "rs"
    refine rd_while (fun μ σ H' => ∃ x y : Int, μ = y.toNat ∧ σ = [some (.int a), some (.int b), some (.int x), some (.int y)] ∧ H = H' ∧ 0 ≤ x ∧ 0 ≤ y ∧ Int.gcd x y = Int.gcd a b) (if b < 0 then -b else b).toNat
      ⟨_, _, rfl, rfl, rfl, by split <;> omega, by split <;> omega, gcd_abs a b⟩ ?_
    rintro μ σ H' ⟨x, y, rfl, rfl, rfl, hx, hy, hg⟩
    wtm_at "ra"
    · rename_i h0
      have m0 := Int.emod_nonneg x (show y ≠ 0 by omega)
      have m1 := Int.emod_lt_of_pos x h0
      exact ⟨_, by omega, y, x % y, rfl, rfl, rfl, hy, m0, by rw [gcd_turn hx h0, hg]⟩
    · rename_i h0
      have e : y = 0 := by omega
      subst e
      rw [← hg] at q
      rw [Int.gcd_zero_right] at q
      rw [show x = (x.natAbs : Int) by omega]
      exact q
theorem use_law_common {a b : Int} {H : Hp} {Q : VK} {E : XK} (q : Q (.int ((Int.gcd a b : Nat) : Int)) H) : spLawCommon [.int a, .int b] H Q E := ⟨a, b, rfl, q⟩
local macro_rules | `(tactic| wtm_at "s") => `(tactic| (with_reducible refine use_law_common ?_))
/-! ### _law_is_integer -/
def spIsInt : Sp := fun vs H Q _ => ∃ x : V, vs = [x] ∧ ((∃ n, x = .int n ∧ Q (.bl true) H) ∨ (x = .non ∧ Q (.bl false) H))
theorem ok_law_is_integer (T : Txt K mg Ad) : Def P w K mg base 1 "_law_is_integer" ["_law_actual"] spIsInt := by
  refine T.d_law_is_integer.ok sc_law_is_integer (fun vs H Q E h => ?_) (fun f cdv A outer s H vs Q E hr h => ?_)
  · obtain ⟨n, rfl, _⟩ := h
    rfl
  · obtain ⟨n, rfl, h⟩ := h
    rcases h with ⟨z, rfl, q⟩ | ⟨rfl, q⟩
    · refine ⟨_, (pss_one (ps_ret (pe_and (pe_callB call_isi (by rfl) T.b_isinstance (by decide +kernel) (pa_cons (pv 0) (pa_cons (pe_bltn (v := .ty "int") (by rfl) T.b_int (by decide +kernel) rfl) pa_nil))) (pe_one (pe_not (pe_callB call_isi (by rfl) T.b_isinstance (by decide +kernel) (pa_cons (pv 0) (pa_cons (pe_bltn (v := .ty "bool") (by rfl) T.b_bool (by decide +kernel) rfl) pa_nil)))))))), ?_⟩
      try dsimp only [cxOf]
      wtm_at "rs"
      exact q
    · refine ⟨_, (pss_one (ps_ret (pe_and (pe_callB call_isi (by rfl) T.b_isinstance (by decide +kernel) (pa_cons (pv 0) (pa_cons (pe_bltn (v := .ty "int") (by rfl) T.b_int (by decide +kernel) rfl) pa_nil))) (pe_one (pe_not (pe_callB call_isi (by rfl) T.b_isinstance (by decide +kernel) (pa_cons (pv 0) (pa_cons (pe_bltn (v := .ty "bool") (by rfl) T.b_bool (by decide +kernel) rfl) pa_nil)))))))), ?_⟩
      try dsimp only [cxOf]
      wtm_at "rs"
      refine ⟨_, _, _, _, false, rfl, .ty _, .base .non, kit_ty (by decide +kernel), ?_⟩
      wtm_at "rs"
      exact q
theorem use_isInt {n : Int} {H : Hp} {Q : VK} {E : XK} (q : Q (.bl true) H) : spIsInt [.int n] H Q E := ⟨_, rfl, .inl ⟨n, rfl, q⟩⟩
local macro_rules | `(tactic| wtm_at "s") => `(tactic| with_reducible refine use_isInt ?_)
/-! ### _law_cell -/
theorem getD_at {ns : List Int} {i : Nat} (h : i < ns.length) : atI (ns.map V.int) (i : Int) = some (.int (ns.getD i 0)) := by
  refine atI_nat ?_
  rw [List.getElem?_map, List.getElem?_eq_getElem h, List.getD_eq_getElem?_getD, List.getElem?_eq_getElem h]
  rfl
theorem getD_out {ns : List Int} {i : Nat} (h : ¬ i < ns.length) : ns.getD i 0 = 0 := by
  rw [List.getD_eq_getElem?_getD, List.getElem?_eq_none (by omega)]
  rfl
def spCell (K : PySem.W.Frag) : Sp := fun vs H Q _ => ∃ (a : Addr) (ns : List Int) (i : Nat), vs = [.ref a, .int i] ∧ SqL K H a (ns.map V.int) ∧ Q (.int (ns.getD i 0)) H
theorem ok_law_cell (T : Txt K mg Ad) : Def P w K mg base 1 "_law_cell" ["_law_script", "_law_k"] (spCell K) := by
  refine T.d_law_cell.ok sc_law_cell (fun vs H Q E h => ?_) (fun f cdv A outer s H vs Q E hr h => ?_)
  · obtain ⟨a, ns, i, rfl, _⟩ := h
    rfl
  · obtain ⟨a, ns, i, rfl, hS, q⟩ := h
    refine ⟨_, (pss_cons (ps_if (pt_cmpR op_lt (pv 1) (pe_callB c_len (by rfl) T.b_len PySem.boot_len (pa_cons (pv 0) pa_nil)) (nomark _)) (pss_one (ps_ret (pe_ix ix_list (pv 0) (pv 1) (fun _ _ => rfl)))) pss_nil)
      (pss_one (ps_ret pe_int))), ?_⟩
    try dsimp only [cxOf]
    wtm_at "rs"
    wtm_at "i"
    · rename_i h
      rw [List.length_map] at h
      wtm_at "rs"
      exact rd_ixL hS (getD_at (by omega)) q
    · rename_i h
      rw [List.length_map] at h
      rw [getD_out (by omega)] at q
      wtm_at "rs"
      exact q
theorem use_cell {a : Addr} {ns : List Int} {i : Nat} {H : Hp} {Q : VK} {E : XK} {z : Int} (hS : SqL K H a (ns.map V.int)) (hz : z = (i : Int)) (q : Q (.int (ns.getD i 0)) H) : spCell K [.ref a, .int z] H Q E :=
  ⟨a, ns, i, by rw [hz], hS, q⟩
local macro_rules | `(tactic| wtm_at "s") => `(tactic| ((with_reducible refine use_cell (ns := ?ns) (i := ?i) ?h1 ?h2 ?_); (case h1 => wtm_at "q"); (case h2 => first | rfl | exact (Int.zero_add _) | exact (Int.natCast_succ _).symm)))
/-! ### _law_draws -/
def spDraws (K : PySem.W.Frag) : Sp := fun vs H Q E => ∃ (c : Int) (a : Addr) (ss : List Int), vs = [.int c, .ref a] ∧ SqL K H a (ss.map V.int) ∧ (∀ s ∈ ss, 0 < s ∧ s < 2 ^ 240) ∧ ss.length ≤ 1000 ∧ NoT H ∧ ∀ D ds H', Same H H' → NoT H' → H D = none → H' D = some (.lst (ds.map V.int)) → DrawOk ds ss → Q (.ref D) H'
theorem ok_law_draws (T : Txt K mg Ad) : Def P w K mg base 1 "_law_draws" ["_law_cell_here", "_law_sizes"] (spDraws K) := by
  refine T.d_law_draws.ok sc_law_draws (fun vs H Q E h => ?_) (fun f cdv A outer s H vs Q E hr h => ?_)
  · obtain ⟨c, a, ss, rfl, _⟩ := h
    rfl
  · obtain ⟨c, a, ss, rfl, hS, hs, hlen, nt, q⟩ := h
    have hml : (ss.map V.int).length = ss.length := List.length_map ..
    refine ⟨_, (pss_cons (ps_set (i := 2) sc_law_draws.nd rfl (Or.inl rfl) (pe_lst pa_nil))
      (pss_cons (ps_set (i := 3) sc_law_draws.nd rfl (Or.inl rfl) (pe_callB c_abs (by rfl) T.b_abs (by decide +kernel) (pa_cons (pv 0) pa_nil)))
      (pss_cons (ps_for (passes_of rfl) rfl (pi_range1 (by rfl) T.b_range (pa_cons (pe_callB c_len (by rfl) T.b_len PySem.boot_len (pa_cons (pv 1) pa_nil)) pa_nil)) (pg_name (i := 4) sc_law_draws.nd rfl (Or.inl rfl)) (pss_one (ps_if (pt_cmpR op_ge (pe_callB c_abs (by rfl) T.b_abs (by decide +kernel) (pa_cons (pv 0) pa_nil)) (pe_op (op_powN 18) pe_int pe_int) (nomark _)) (pss_cons (ps_expr (pe_bm PySem.F.plainAttrs_list PySem.F.slot_list_append PySem.F.type_list_append mt_append (pv 2) (pa_cons (pe_op op_mod (pe_callTy c_int1 (by rfl) T.b_int (by decide +kernel) (pa_cons (pv 3) pa_nil)) (pe_ix ix_list (pv 1) (pv 4) (fun _ _ => rfl))) pa_nil)))
      (pss_one (ps_set (i := 3) sc_law_draws.nd rfl (Or.inl rfl) (pe_op op_fdivB (pv 3) (pe_ix ix_list (pv 1) (pv 4) (fun _ _ => rfl)))))) (pss_cons (ps_set (i := 5) sc_law_draws.nd rfl (Or.inl rfl) (pe_op op_mod (pe_callTy c_int1 (by rfl) T.b_int (by decide +kernel) (pa_cons (pe_op op_mulB (pe_op op_add (pe_op op_add (pv 3) (pe_op op_mulB pe_int (pv 4))) pe_int) pe_int) pa_nil)) pe_int))
      (pss_cons (ps_set (i := 5) sc_law_draws.nd rfl (Or.inl rfl) (pe_op op_mod (pe_callTy c_int1 (by rfl) T.b_int (by decide +kernel) (pa_cons (pe_op op_add (pe_op op_add (pe_op op_mulB (pe_op op_mulB (pv 5) (pv 5)) pe_int) (pe_op op_mulB pe_int (pv 4))) (pv 5)) pa_nil)) pe_int))
      (pss_one (ps_expr (pe_bm PySem.F.plainAttrs_list PySem.F.slot_list_append PySem.F.type_list_append mt_append (pv 2) (pa_cons (pe_op op_mod (pe_op op_fdivB (pv 5) pe_int) (pe_ix ix_list (pv 1) (pv 4) (fun _ _ => rfl))) pa_nil)))))))))
      (pss_one (ps_ret (pv 2)))))), ?_⟩
    try dsimp only [cxOf]
    wtm_at "rs"
    rename_i D hD
    refine rd_forR (fun i σ H' => ∃ (L : Int) (ds : List Int) (v4 v5 : Option V), σ = [some (.int c), some (.ref a), some (.ref D), some (.int L), v4, v5] ∧ Same H H' ∧ NoT H' ∧ H' D = some (.lst (ds.map V.int)) ∧ DrawOk ds (ss.take i)) ⟨_, [], _, _, rfl, same_new hD, NoT.upd nt rfl, upd_same, trivial⟩ ?_ ?_
    · rintro i σ H' hi ⟨L, ds, v4, v5, rfl, sm, nt', hd, hok⟩
      have hil : i < ss.length := by simpa using hi
      have hS' := sm.seq hS
      have hix : atI (ss.map V.int) (0 + (i : Int)) = some (.int (ss.getD i 0)) := by
        rw [Int.zero_add]
        refine atI_nat ?_
        rw [List.getElem?_map, List.getElem?_eq_getElem hil, List.getD_eq_getElem?_getD, List.getElem?_eq_getElem hil]
        rfl
      obtain ⟨s0, s1⟩ := hs (ss.getD i 0) (by rw [List.getD_eq_getElem?_getD, List.getElem?_eq_getElem hil]; exact List.getElem_mem hil)
      have htk : ss.take (i + 1) = ss.take i ++ [ss.getD i 0] := by
        rw [List.take_add_one, List.getElem?_eq_getElem hil, List.getD_eq_getElem?_getD, List.getElem?_eq_getElem hil]
        rfl
      generalize ss.getD i 0 = z at *
      have hroom : (ds.map V.int).length < 10000 := by
        rw [List.length_map, hok.len, List.length_take]
        omega
      have hDa : D = D := rfl
      wtm_at "ra"
      · refine rd_ixL hS' hix ?_
        wtm_at "rs"
        refine rd_ixL ((show Same H _ by wtm_at "sm").seq hS) hix ?_
        wtm_at "rs"
        exact ⟨_, ds ++ [L % z], _, _, rfl, by wtm_at "sm", by wtm_at "nt", by rw [upd_same, List.map_append]; rfl, by rw [htk]; exact hok.snoc ⟨Int.emod_nonneg _ (by omega), Int.emod_lt_of_pos _ s0⟩⟩
      · refine rd_ixL hS' hix ?_
        wtm_at "rs"
        exact ⟨_, ds ++ [_ % z], _, _, rfl, by wtm_at "sm", by wtm_at "nt", by rw [upd_same, List.map_append]; rfl, by rw [htk]; exact hok.snoc ⟨Int.emod_nonneg _ (by omega), Int.emod_lt_of_pos _ s0⟩⟩
    · rintro σ H' ⟨L, ds, v4, v5, rfl, sm, nt', hd, hok⟩
      rw [show (Int.toNat ((ss.map V.int).length : Int)) = ss.length by simp, List.take_length] at hok
      wtm_at "rs"
      exact q D ds H' sm nt' hD hd hok
theorem use_draws {c : Int} {a : Addr} {ss : List Int} {H : Hp} {Q : VK} {E : XK} (hS : SqL K H a (ss.map V.int)) (hs : ∀ s ∈ ss, 0 < s ∧ s < 2 ^ 240) (hl : ss.length ≤ 1000) (nt : NoT H) (q : ∀ D ds H', Same H H' → NoT H' → H D = none → H' D = some (.lst (ds.map V.int)) → DrawOk ds ss → Q (.ref D) H') : spDraws K [.int c, .ref a] H Q E :=
  ⟨c, a, ss, rfl, hS, hs, hl, nt, q⟩
/-! ### law -/
theorem shaped_bad {q : Int} : SeqAt.shaped (.tuple [.str "bad", .int q]) = true := okD_shaped (by simp [okD, okDs]; decide +kernel)
theorem sum_cast {α : Type} (g : α → Nat) : ∀ l : List α, (l.map fun x => (g x : Int)).sum = ((l.map g).sum : Nat)
  | [] => rfl
  | x :: l => by
    rw [List.map_cons, List.sum_cons, sum_cast g l, List.map_cons, List.sum_cons, Int.natCast_add]
theorem d_tab {i : Int} (h0 : 0 ≤ i) (h1 : i < 8) : ∃ d : Int, atI (([-3, -4, -7, -8, -12, -20, -23, -47] : List Int).map V.int) i = some (.int d) ∧ -1000 ≤ d ∧ d ≤ -3 ∧ (d % 4 = 0 ∨ d % 4 = 1) := by
  rcases (by omega : i = 0 ∨ i = 1 ∨ i = 2 ∨ i = 3 ∨ i = 4 ∨ i = 5 ∨ i = 6 ∨ i = 7) with h | h | h | h | h | h | h | h <;> subst h <;> refine ⟨_, rfl, by decide, by decide, by decide⟩
theorem ok_law {f : Addr} {fd : FuncData} (F : Fun K "law" "law" s_law f fd) (T : Txt K mg Ad) : FnOk P w K mg base (L2.CX P w) 8 f fd ["_law_script"] (spLaw K) := by
  refine F.okX sc_law (fun vs H Q E h => ?_) (fun cdv A outer s H vs Q E hr h => ?_)
  · obtain ⟨a, ns, rfl, _⟩ := h
    rfl
  · obtain ⟨a, ns, rfl, hS, hlen, nt, kq⟩ := h
    refine ⟨_, (pss_cons (ps_for (passes_of rfl) rfl (pi_range1 (by rfl) T.b_range (pa_cons (pe_callB (c_max2 rfl) (by rfl) T.b_max (by decide +kernel) (pa_cons pe_int (pa_cons (pe_callB (c_min2 rfl) (by rfl) T.b_min (by decide +kernel) (pa_cons (pe_callB c_len (by rfl) T.b_len PySem.boot_len (pa_cons (pv 0) pa_nil)) (pa_cons pe_int pa_nil))) pa_nil))) pa_nil)) (pg_name (i := 1) sc_law.nd rfl (Or.inl rfl)) (pss_cons (ps_set (i := 2) sc_law.nd rfl (Or.inl rfl) (pe_d (ok_law_draws T) (hr.mono (by decide)) (passes_call (takes_of rfl rfl rfl rfl) (fun _ _ _ _ h => h)) (pa_cons (pe_d (ok_law_cell T) (hr.mono (by decide)) (passes_call (takes_of rfl rfl rfl rfl) (fun _ _ _ _ h => h)) (pa_cons (pv 0) (pa_cons (pv 1) pa_nil))) (pa_cons (pe_lst (pa_cons pe_int (pa_cons pe_int (pa_cons pe_int (pa_cons pe_int (pa_cons pe_int (pa_cons pe_int pa_nil))))))) pa_nil))))
      (pss_cons (ps_set (i := 3) sc_law.nd rfl (Or.inl rfl) (pe_op op_sub (pe_op op_sub (pe_un un_neg pe_int) (pe_op op_mulB pe_int (pe_ix ix_list (pv 2) pe_int (fun _ _ => rfl)))) (pe_ix ix_list (pv 2) pe_int (fun _ _ => rfl))))
      (C8.pss_cut (ps_if (pt_cmpR op_eq (pe_ix ix_list (pv 2) pe_int (fun _ _ => rfl)) pe_int (nomark _)) (pss_one (ps_set (i := 3) sc_law.nd rfl (Or.inl rfl) (pe_ix ix_list (pe_lst (pa_cons (pe_un un_neg pe_int) (pa_cons (pe_un un_neg pe_int) (pa_cons (pe_un un_neg pe_int) (pa_cons (pe_un un_neg pe_int) (pa_cons (pe_un un_neg pe_int) (pa_cons (pe_un un_neg pe_int) (pa_cons (pe_un un_neg pe_int) (pa_cons (pe_un un_neg pe_int) pa_nil))))))))) (pe_ix ix_list (pv 2) pe_int (fun _ _ => rfl)) (fun _ _ => rfl)))) pss_nil)
      (pss_cons (ps_set (i := 4) sc_law.nd rfl (Or.inr rfl) (pe_op op_add pe_int (pe_ix ix_list (pv 2) pe_int (fun _ _ => rfl))))
      (C8.pss_cut (ps_if (pt_cmpR op_eq (pe_ix ix_list (pv 2) pe_int (fun _ _ => rfl)) pe_int (nomark _)) (pss_one (ps_set (i := 4) sc_law.nd rfl (Or.inr rfl) (pe_op op_add pe_int (pe_op op_mod (pv 4) pe_int)))) pss_nil)
      (pss_cons (ps_set (i := 5) sc_law.nd rfl (Or.inl rfl) (pe_d (ok_law_asked T) (hr.mono (by decide)) (passes_call (takes_of rfl rfl rfl rfl) (fun _ _ _ _ h => h)) (pa_cons (pv 3) (pa_cons (pv 4) pa_nil))))
      (pss_one (ps_if (pt_cmpR op_ne (pe_d (ok_law_common T) (hr.mono (by decide)) (passes_call (takes_of rfl rfl rfl rfl) (fun _ _ _ _ h => h)) (pa_cons (pv 3) (pa_cons (pv 4) pa_nil))) pe_int (nomark _)) (pss_one (ps_if (pt_cmpR (op_neD hr.units) (pv 5) (pe_tup (pa_cons pe_str (pa_cons (pv 4) pa_nil))) (nomark _)) (pss_one (ps_ret pe_bl)) pss_nil)) (pss_cons (ps_set (i := 6) sc_law.nd rfl (Or.inl rfl) pe_int)
      (C8.pss_cut (ps_if (pt_pure (pt_cmpR op_in_seq (pv 3) (pe_lst (pa_cons (pe_un un_neg pe_int) (pa_cons (pe_un un_neg pe_int) pa_nil))) (by rfl))) (pss_one (ps_set (i := 6) sc_law.nd rfl (Or.inl rfl) (pe_ix ix_list (pe_lst (pa_cons pe_int (pa_cons pe_int pa_nil))) (pe_callTy c_int1 (by rfl) T.b_int (by decide +kernel) (pa_cons (pe_cmpR op_eq (pv 3) (pe_un un_neg pe_int) (nomark _)) pa_nil)) (fun _ _ => rfl)))) pss_nil)
      (pss_cons (ps_set (i := 7) sc_law.nd rfl (Or.inl rfl) (pe_callB (cr_sum rfl) (by rfl) T.b_sum (by decide +kernel) (pa_cons (pe_lc (own := [("_law_form", 8)])  (te := (tCB (rLenQ K) (tCons (tCall ((spWays Ad.c_Form)) [] E0 (tCons (tVar 8) (tCons (tVar 4) tNil))) tNil))) rfl sc_law.nd  (pi_list (pe_d (ok_reduced_forms T) (hr.mono (by decide)) (passes_call (takes_of rfl rfl rfl rfl) (fun _ _ _ _ h => h)) (pa_cons (pv 3) pa_nil))) (blkOk_by (own := [("_law_form", 8)]) (N := ["_law_script", "_law_k", "_law_drawn", "_law_d", "_law_m", "_law_told", "_law_w", "_law_listed", "_law_form"]) (sc := defScope s_law) (by decide +kernel)) (fun _ _ _ _ _ => (pg_name (i := 8) sc_law.nd rfl (Or.inl rfl))) (fun _ _ _ _ _ => pts_nil) (fun _ _ _ _ _ => (pe_callB (id := "len") (r := rLenQ K) c_len (by rfl) T.b_len PySem.boot_len (pa_cons (pe_d (E := E0) (ok_ways T) (hr.mono (by decide)) passL (pa_cons (pv 8) (pa_cons (pv 4) pa_nil))) pa_nil)))) pa_nil)))
      (pss_one (ps_if (PW.pt (pw_or (pt_not (pt_val (pe_d (ok_law_is_integer T) (hr.mono (by decide)) (passes_call (takes_of rfl rfl rfl rfl) (fun _ _ _ _ h => h)) (pa_cons (pv 5) pa_nil)))) (pw_or (pt_cmpR op_ne (pv 5) (pe_op op_mulB (pv 6) (pe_d (ok_law_sum T) (hr.mono (by decide)) (passes_call (takes_of rfl rfl rfl rfl) (fun _ _ _ _ h => h)) (pa_cons (pv 3) (pa_cons (pv 4) pa_nil)))) (nomark _)) (pw_or1 (pt_cmpR op_ne (pv 5) (pv 7) (nomark _)))))) (pss_one (ps_ret pe_bl)) pss_nil))))))))))))))
      (pss_one (ps_ret pe_bl))), ?_⟩
    try dsimp only [cxOf]
    wtm_at "rs"
    refine rd_forR (fun i σ H' => ∃ v1 v2 v3 v4 v5 v6 v7 v8, σ = [some (.ref a), v1, v2, v3, v4, v5, v6, v7, v8] ∧ Hv noX H [] [] [] H') ⟨_, _, _, _, _, _, _, _, rfl, Hv.start nt⟩ ?_ ?_
    · rintro i σ H0 hi ⟨v1, v2, v3, v4, v5, v6, v7, v8, rfl, B⟩
      have hS0 := B.same.seq hS
      wtm_at "rs"
      rename_i S0 hS1
      replace B := B.newL (o := .lst (([100, 2, 3, 8, 1500, 4] : List Int).map V.int)) hS1
      refine use_draws (ss := [100, 2, 3, 8, 1500, 4]) (SqL.of upd_same) (by decide) (by decide) B.nt fun D ds H1 sm1 nt1 hDn hD dok => ?_
      obtain ⟨d0, ds, rfl, d00, d01, dok⟩ := dok.cons_inv
      obtain ⟨d1, ds, rfl, d10, d11, dok⟩ := dok.cons_inv
      obtain ⟨d2, ds, rfl, d20, d21, dok⟩ := dok.cons_inv
      obtain ⟨d3, ds, rfl, d30, d31, dok⟩ := dok.cons_inv
      obtain ⟨d4, ds, rfl, d40, d41, dok⟩ := dok.cons_inv
      obtain ⟨d5, ds, rfl, d50, d51, dok⟩ := dok.cons_inv
      cases dok.nil_inv
      replace hD : H1 D = some (.lst ([d0, d1, d2, d3, d4, d5].map V.int)) := hD
      replace B := (B.got sm1 nt1 hDn hD).sub (L' := [(D, .lst ([d0, d1, d2, d3, d4, d5].map V.int))]) (by wtm_at "vsub") (by wtm_at "vsub")
      clear dok sm1 nt1 hDn hD hS1 hS0
      refine B.gen fun G B => ?_
      wtm_at "rs"
      refine rd_cut (fun σ2 G => ∃ d : Int, σ2 = [some (.ref a), some (.int (0 + (i : Int))), some (.ref D), some (.int d), v4, v5, v6, v7, v8] ∧ Hv noX H [] [(D, .lst ([d0, d1, d2, d3, d4, d5].map V.int))] [] G ∧ -1000 ≤ d ∧ d ≤ -3 ∧ (d % 4 = 0 ∨ d % 4 = 1)) ?_ ?_
      · wtm_at "rs"
        by_cases z : d2 = 0
        · refine rd_eqT z ?_
          wtm_at "rs"
          rename_i L hL
          obtain ⟨d, hd, k0, k1, k2⟩ := d_tab d30 d31
          refine rd_ixL (SqL.of (xs := ([-3, -4, -7, -8, -12, -20, -23, -47] : List Int).map V.int) upd_same) hd ?_
          exact ⟨d, rfl, (B.newL (o := .lst (([-3, -4, -7, -8, -12, -20, -23, -47] : List Int).map V.int)) hL).sub (by wtm_at "vsub") (by wtm_at "vsub"), k0, k1, k2⟩
        · refine rd_eqF z ?_
          wtm_at "rs"
          exact ⟨_, rfl, B, by omega, by omega, by omega⟩
      clear B
      rintro σ2 G ⟨d, rfl, B, dl, du, d4'⟩
      wtm_at "rs"
      refine rd_cut (fun σ2 G2 => ∃ m : Int, σ2 = [some (.ref a), some (.int (0 + (i : Int))), some (.ref D), some (.int d), some (.int m), v5, v6, v7, v8] ∧ G = G2 ∧ 1 ≤ m ∧ m ≤ 1500) ?_ ?_
      · wtm_at "rs"
        by_cases z : d5 = 0
        · refine rd_eqT z ?_
          wtm_at "rs"
          exact ⟨_, rfl, rfl, by omega, by omega⟩
        · refine rd_eqF z ?_
          wtm_at "rs"
          exact ⟨_, rfl, rfl, by omega, by omega⟩
      rintro σ2 G2 ⟨m, rfl, rfl, m1, m2⟩
      replace B := B.sub (L' := []) (by wtm_at "vsub") (by wtm_at "vsub")
      wtm_at "rs"
      refine ⟨d, m, rfl, dl, by omega, d4', m1, by omega, B.nt, fun g t G2 s2 n2 ht h2 => ?_, fun g G2 s2 n2 => ?_⟩
      · replace B := B.got s2 n2 ht h2
        clear s2 n2 ht h2
        refine B.gen fun G B => ?_
        wtm_at "rs"
        rw [if_pos (by simp; omega)]
        wtm_at "rs"
        rename_i D5 hD5
        replace B := B.newL (o := .tup [.str "bad", .int m]) hD5
        clear hD5
        refine B.gen fun G B => ?_
        refine rd_neSame (d := .tuple [.str "bad", .int m]) (Dp.tup (SqT.of (B.lAt (a := t) (by wtm_at "mem"))) (by wtm_at "dp")) (Dp.tup (SqT.of (B.lAt (a := D5) (by wtm_at "mem"))) (by wtm_at "dp")) shaped_bad ?_
        refine ⟨_, rfl, ?_⟩
        rw [if_neg (by decide)]
        wtm_at "rs"
        exact ⟨_, _, _, _, _, _, _, _, rfl, B.sub (by wtm_at "vsub") (by wtm_at "vsub")⟩
      · replace B := B.next s2 n2
        clear s2 n2
        refine B.gen fun G B => ?_
        wtm_at "rs"
        rw [if_neg (by simp [g])]
        wtm_at "rs"
        refine rd_cut (fun σ2 G => σ2 = [some (.ref a), some (.int (0 + (i : Int))), some (.ref D), some (.int d), some (.int m), some (.int (rD d m)), some (.int (wD d)), v7, v8] ∧ Hv noX H [] [] [] G) ?_ ?_
        · wtm_at "rs"
          by_cases e3 : d = -3
          · subst e3
            rw [if_pos (by decide)]
            wtm_at "rs"
            rename_i L hL
            exact ⟨rfl, (B.newL (o := .lst [.int 6, .int 4]) hL).sub (by wtm_at "vsub") (by wtm_at "vsub")⟩
          · by_cases e4 : d = -4
            · subst e4
              rw [if_pos (by decide)]
              wtm_at "rs"
              rename_i L hL
              exact ⟨rfl, (B.newL (o := .lst [.int 6, .int 4]) hL).sub (by wtm_at "vsub") (by wtm_at "vsub")⟩
            · rw [if_neg (by rw [decide_eq_true_iff]; omega)]
              wtm_at "rs"
              have ew : wD d = 2 := by unfold wD; rw [if_neg e3, if_neg e4]
              rw [ew]
              exact ⟨rfl, B.sub (by wtm_at "vsub") (by wtm_at "vsub")⟩
        clear B
        rintro σ2 G ⟨rfl, B⟩
        wtm_at "rs"
        refine use_RF dl (by omega) B.nt fun L ys G2 s2 n2 hL h2 fs => ?_
        replace B := (B.got s2 n2 hL h2).rig fs.rig
        clear s2 n2 hL h2 fs
        refine B.gen fun G B => ?_
        have hL := B.lAt (a := L) (by wtm_at "mem")
        have fs := B.zAt (P := fun G => FsAt Ad.c_Form G ys (rfL d)) (by wtm_at "mem")
        wtm_at "rs"
        refine rd_lcP (xs := ys.map V.ref) (fun i zs => zs = ((rfL d).take i).map fun f => V.int (cnt f m)) (SqL.of hL) B.nt rfl ?_ ?_
        · rintro D4 j zs x H4 hx sm4 nt4 hD4 h4 rfl
          rw [List.getElem?_map] at hx
          obtain ⟨y, hy, rfl⟩ := Option.map_eq_some_iff.mp hx
          obtain ⟨f, hf, iy⟩ := fs.at hy
          obtain ⟨fD, fo, fr, _⟩ := (mem_rfL (by omega) dl).mp (List.mem_of_getElem? hf)
          have fb := rf_bd (by omega) dl (List.mem_of_getElem? hf)
          have jl := (List.getElem?_eq_some_iff.mp hf).1
          have rl := rfN_len (d := d) (n := 19)
          have tk : (rfL d).take (j + 1) = (rfL d).take j ++ [f] := by rw [List.take_add_one, hf]; rfl
          wtm_at "r"
          refine ⟨rfl, ?_⟩
          wtm_at "rs"
          refine use_ways (iy.mono sm4) fo (fb.mono (by decide)) (by rw [len_red fr]; exact Nat.zero_le _) (by omega) (by omega) (by omega) nt4 fun W ts rs H5 s5 n5 hW h5 rows wo _ => ?_
          wtm_at "rs"
          have el : (ts.length : Int) = cnt f m := by rw [cnt_eq wo.set, rows.len, List.length_map]
          rw [List.length_map, el]
          have e19 : rfL d = rfN d 19 := if_pos (by omega)
          exact put_P (P := fun zs => zs = ((rfL d).take (j + 1)).map fun f => V.int (cnt f m)) (s5 _ _ h4) (Nat.lt_of_lt_of_le (show _ < 1000 by rw [List.length_map, List.length_take]; rw [← e19] at rl; omega) (by decide)) (sm4.trans s5) hD4 n5 (by rw [tk, List.map_append]; rfl)
        · rintro D5 zs H4 hD5 h4 sm n1 rfl
          rw [List.length_map, fs.len, List.take_length] at h4
          replace B := (B.next sm n1).sub (L' := []) (Z' := []) (by wtm_at "vsub") (by wtm_at "vsub")
          wtm_at "rs"
          refine ⟨D5, (rfL d).map fun f => (cnt f m : Int), rfl, by rw [List.map_map]; exact SqL.of h4, ?_⟩
          rw [sum_cast, show ((rfL d).map fun f => cnt f m).sum = rD d m from rfl]
          clear h4
          wtm_at "rs"
          refine ⟨d, m, rfl, dl, by omega, d4', m1, by omega, g, B.nt, fun S G5 s5 n5 sb sa es => ?_⟩
          replace B := B.next s5 n5
          have w6 : (wD d : Int) ≤ 6 := by unfold wD; split <;> (try split) <;> decide
          have bw : Bd 20 (wD d : Int) := Bd.of (by omega) (by omega)
          have bS : Bd 20 S := Bd.of (by omega) (by omega)
          wtm_at "rs"
          rw [if_neg (by rw [es]; simp)]
          wtm_at "rs"
          exact ⟨_, _, _, _, _, _, _, _, rfl, B⟩
    · rintro σ G ⟨v1, v2, v3, v4, v5, v6, v7, v8, rfl, B⟩
      wtm_at "rs"
      exact kq _
end
/-! ## what the top has left, and the end -/
structure ClsH (K : PySem.W.Frag) (C : Addr) : Prop where
  opg : PySem.W.plainGet K C Str.empty = true
  ohd : PySem.W.hasDictIn K C = true
  opo : PySem.W.plainOver K C = true
  osa : PySem.W.findIn K (.ref C) "__setattr__" = some (some (.builtin "object.__setattr__"))
  omk : PySem.W.makesIn K C = true
  okc : PySem.W.keepIn K (.ref C) = true
  oha : PySem.W.findIn K (.ref C) "__class__" = some (some (.builtin "object.__class__"))
  ohn : PySem.W.specialIn K (.builtin "object.__class__") "__get__" = some (some (.builtin "getset_descriptor.__get__"))
  otk : PySem.W.takesIn K (.builtin "object.__class__") = some true
  omr : PySem.W.mroIn K C (.type "object") = some true
  oci : PySem.W.isClsIn K C = true
  oct : PySem.W.typeIn K (.ref C) = some (.type "type")
theorem at_checked_modulus {K : PySem.W.Frag} {h : Heap} {mg : Str → Option Value} (X : K.In h) (G : h.Ns mainGlobals mg) {f0 : Addr} {od0 an0 : Option Addr} {sl0 : Array (Option Value)} {oc0 kV0 dc0 pm0 cd0 ct0 : Value} (a0 : PySem.W.nsIn K mainGlobals "checked_modulus" = some (some (.ref f0))) (l0 : K.lookup f0 = some ⟨oc0, od0, .func (PySem.W.fnOf "checked_modulus" "checked_modulus" (defArgs s_checked_modulus) (defBody s_checked_modulus) (defScope s_checked_modulus) .none kV0 dc0 pm0 an0 cd0 ct0), sl0⟩) (c0 : PySem.W.codeIn K cd0 "checked_modulus" = true) (k0 : PySem.W.keepIn K (.ref f0) = true) : DefAt K mg "checked_modulus" s_checked_modulus ["m"] := by
  have F := fun_mk (st := s_checked_modulus) l0 c0 k0
  have b := F.binds (ps := ["m"]) fun _ _ _ _ _ _ us hl => match us, hl with | [_], _ => rfl
  exact ⟨_, _, F, PySem.W.mg_of X G a0, b⟩
theorem at_factor_of {K : PySem.W.Frag} {h : Heap} {mg : Str → Option Value} (X : K.In h) (G : h.Ns mainGlobals mg) {f1 : Addr} {od1 an1 : Option Addr} {sl1 : Array (Option Value)} {oc1 kV1 dc1 pm1 cd1 ct1 : Value} (a1 : PySem.W.nsIn K mainGlobals "factor_of" = some (some (.ref f1))) (l1 : K.lookup f1 = some ⟨oc1, od1, .func (PySem.W.fnOf "factor_of" "factor_of" (defArgs s_factor_of) (defBody s_factor_of) (defScope s_factor_of) .none kV1 dc1 pm1 an1 cd1 ct1), sl1⟩) (c1 : PySem.W.codeIn K cd1 "factor_of" = true) (k1 : PySem.W.keepIn K (.ref f1) = true) : DefAt K mg "factor_of" s_factor_of ["rule", "n", "m"] := by
  have F := fun_mk (st := s_factor_of) l1 c1 k1
  have b := F.binds (ps := ["rule", "n", "m"]) fun _ _ _ _ _ _ us hl => match us, hl with | [_, _, _], _ => rfl
  exact ⟨_, _, F, PySem.W.mg_of X G a1, b⟩
theorem at_sign {K : PySem.W.Frag} {h : Heap} {mg : Str → Option Value} (X : K.In h) (G : h.Ns mainGlobals mg) {f2 : Addr} {od2 an2 : Option Addr} {sl2 : Array (Option Value)} {oc2 kV2 dc2 pm2 cd2 ct2 : Value} (a2 : PySem.W.nsIn K mainGlobals "sign" = some (some (.ref f2))) (l2 : K.lookup f2 = some ⟨oc2, od2, .func (PySem.W.fnOf "sign" "sign" (defArgs s_sign) (defBody s_sign) (defScope s_sign) .none kV2 dc2 pm2 an2 cd2 ct2), sl2⟩) (c2 : PySem.W.codeIn K cd2 "sign" = true) (k2 : PySem.W.keepIn K (.ref f2) = true) : DefAt K mg "sign" s_sign ["n", "m"] := by
  have F := fun_mk (st := s_sign) l2 c2 k2
  have b := F.binds (ps := ["n", "m"]) fun _ _ _ _ _ _ us hl => match us, hl with | [_, _], _ => rfl
  exact ⟨_, _, F, PySem.W.mg_of X G a2, b⟩
theorem at_sign_of_divisor {K : PySem.W.Frag} {h : Heap} {mg : Str → Option Value} (X : K.In h) (G : h.Ns mainGlobals mg) {f3 : Addr} {od3 an3 : Option Addr} {sl3 : Array (Option Value)} {oc3 kV3 dc3 pm3 cd3 ct3 : Value} (a3 : PySem.W.nsIn K mainGlobals "sign_of_divisor" = some (some (.ref f3))) (l3 : K.lookup f3 = some ⟨oc3, od3, .func (PySem.W.fnOf "sign_of_divisor" "sign_of_divisor" (defArgs s_sign_of_divisor) (defBody s_sign_of_divisor) (defScope s_sign_of_divisor) .none kV3 dc3 pm3 an3 cd3 ct3), sl3⟩) (c3 : PySem.W.codeIn K cd3 "sign_of_divisor" = true) (k3 : PySem.W.keepIn K (.ref f3) = true) : DefAt K mg "sign_of_divisor" s_sign_of_divisor ["discriminant", "d"] := by
  have F := fun_mk (st := s_sign_of_divisor) l3 c3 k3
  have b := F.binds (ps := ["discriminant", "d"]) fun _ _ _ _ _ _ us hl => match us, hl with | [_, _], _ => rfl
  exact ⟨_, _, F, PySem.W.mg_of X G a3, b⟩
theorem at_factors {K : PySem.W.Frag} {h : Heap} {mg : Str → Option Value} (X : K.In h) (G : h.Ns mainGlobals mg) {f4 : Addr} {od4 an4 : Option Addr} {sl4 : Array (Option Value)} {oc4 kV4 dc4 pm4 cd4 ct4 : Value} (a4 : PySem.W.nsIn K mainGlobals "factors" = some (some (.ref f4))) (l4 : K.lookup f4 = some ⟨oc4, od4, .func (PySem.W.fnOf "factors" "factors" (defArgs s_factors) (defBody s_factors) (defScope s_factors) .none kV4 dc4 pm4 an4 cd4 ct4), sl4⟩) (c4 : PySem.W.codeIn K cd4 "factors" = true) (k4 : PySem.W.keepIn K (.ref f4) = true) : DefAt K mg "factors" s_factors ["n"] := by
  have F := fun_mk (st := s_factors) l4 c4 k4
  have b := F.binds (ps := ["n"]) fun _ _ _ _ _ _ us hl => match us, hl with | [_], _ => rfl
  exact ⟨_, _, F, PySem.W.mg_of X G a4, b⟩
theorem at_all_divisors {K : PySem.W.Frag} {h : Heap} {mg : Str → Option Value} (X : K.In h) (G : h.Ns mainGlobals mg) {f5 : Addr} {od5 an5 : Option Addr} {sl5 : Array (Option Value)} {oc5 kV5 dc5 pm5 cd5 ct5 : Value} (a5 : PySem.W.nsIn K mainGlobals "all_divisors" = some (some (.ref f5))) (l5 : K.lookup f5 = some ⟨oc5, od5, .func (PySem.W.fnOf "all_divisors" "all_divisors" (defArgs s_all_divisors) (defBody s_all_divisors) (defScope s_all_divisors) .none kV5 dc5 pm5 an5 cd5 ct5), sl5⟩) (c5 : PySem.W.codeIn K cd5 "all_divisors" = true) (k5 : PySem.W.keepIn K (.ref f5) = true) : DefAt K mg "all_divisors" s_all_divisors ["m"] := by
  have F := fun_mk (st := s_all_divisors) l5 c5 k5
  have b := F.binds (ps := ["m"]) fun _ _ _ _ _ _ us hl => match us, hl with | [_], _ => rfl
  exact ⟨_, _, F, PySem.W.mg_of X G a5, b⟩
theorem at_common {K : PySem.W.Frag} {h : Heap} {mg : Str → Option Value} (X : K.In h) (G : h.Ns mainGlobals mg) {f6 : Addr} {od6 an6 : Option Addr} {sl6 : Array (Option Value)} {oc6 kV6 dc6 pm6 cd6 ct6 : Value} (a6 : PySem.W.nsIn K mainGlobals "common" = some (some (.ref f6))) (l6 : K.lookup f6 = some ⟨oc6, od6, .func (PySem.W.fnOf "common" "common" (defArgs s_common) (defBody s_common) (defScope s_common) .none kV6 dc6 pm6 an6 cd6 ct6), sl6⟩) (c6 : PySem.W.codeIn K cd6 "common" = true) (k6 : PySem.W.keepIn K (.ref f6) = true) : DefAt K mg "common" s_common ["a", "b"] := by
  have F := fun_mk (st := s_common) l6 c6 k6
  have b := F.binds (ps := ["a", "b"]) fun _ _ _ _ _ _ us hl => match us, hl with | [_, _], _ => rfl
  exact ⟨_, _, F, PySem.W.mg_of X G a6, b⟩
theorem at_total_ways {K : PySem.W.Frag} {h : Heap} {mg : Str → Option Value} (X : K.In h) (G : h.Ns mainGlobals mg) {f7 : Addr} {od7 an7 : Option Addr} {sl7 : Array (Option Value)} {oc7 kV7 dc7 pm7 cd7 ct7 : Value} (a7 : PySem.W.nsIn K mainGlobals "total_ways" = some (some (.ref f7))) (l7 : K.lookup f7 = some ⟨oc7, od7, .func (PySem.W.fnOf "total_ways" "total_ways" (defArgs s_total_ways) (defBody s_total_ways) (defScope s_total_ways) .none kV7 dc7 pm7 an7 cd7 ct7), sl7⟩) (c7 : PySem.W.codeIn K cd7 "total_ways" = true) (k7 : PySem.W.keepIn K (.ref f7) = true) : DefAt K mg "total_ways" s_total_ways ["discriminant", "m"] := by
  have F := fun_mk (st := s_total_ways) l7 c7 k7
  have b := F.binds (ps := ["discriminant", "m"]) fun _ _ _ _ _ _ us hl => match us, hl with | [_, _], _ => rfl
  exact ⟨_, _, F, PySem.W.mg_of X G a7, b⟩
theorem at_law_asked {K : PySem.W.Frag} {h : Heap} {mg : Str → Option Value} (X : K.In h) (G : h.Ns mainGlobals mg) {f8 : Addr} {od8 an8 : Option Addr} {sl8 : Array (Option Value)} {oc8 kV8 dc8 pm8 cd8 ct8 : Value} (a8 : PySem.W.nsIn K mainGlobals "_law_asked" = some (some (.ref f8))) (l8 : K.lookup f8 = some ⟨oc8, od8, .func (PySem.W.fnOf "_law_asked" "_law_asked" (defArgs s_law_asked) (defBody s_law_asked) (defScope s_law_asked) .none kV8 dc8 pm8 an8 cd8 ct8), sl8⟩) (c8 : PySem.W.codeIn K cd8 "_law_asked" = true) (k8 : PySem.W.keepIn K (.ref f8) = true) : DefAt K mg "_law_asked" s_law_asked ["_law_d", "_law_m"] := by
  have F := fun_mk (st := s_law_asked) l8 c8 k8
  have b := F.binds (ps := ["_law_d", "_law_m"]) fun _ _ _ _ _ _ us hl => match us, hl with | [_, _], _ => rfl
  exact ⟨_, _, F, PySem.W.mg_of X G a8, b⟩
theorem at_law_sign {K : PySem.W.Frag} {h : Heap} {mg : Str → Option Value} (X : K.In h) (G : h.Ns mainGlobals mg) {f9 : Addr} {od9 an9 : Option Addr} {sl9 : Array (Option Value)} {oc9 kV9 dc9 pm9 cd9 ct9 : Value} (a9 : PySem.W.nsIn K mainGlobals "_law_sign" = some (some (.ref f9))) (l9 : K.lookup f9 = some ⟨oc9, od9, .func (PySem.W.fnOf "_law_sign" "_law_sign" (defArgs s_law_sign) (defBody s_law_sign) (defScope s_law_sign) .none kV9 dc9 pm9 an9 cd9 ct9), sl9⟩) (c9 : PySem.W.codeIn K cd9 "_law_sign" = true) (k9 : PySem.W.keepIn K (.ref f9) = true) : DefAt K mg "_law_sign" s_law_sign ["_law_n", "_law_p"] := by
  have F := fun_mk (st := s_law_sign) l9 c9 k9
  have b := F.binds (ps := ["_law_n", "_law_p"]) fun _ _ _ _ _ _ us hl => match us, hl with | [_, _], _ => rfl
  exact ⟨_, _, F, PySem.W.mg_of X G a9, b⟩
theorem at_law_sign_for {K : PySem.W.Frag} {h : Heap} {mg : Str → Option Value} (X : K.In h) (G : h.Ns mainGlobals mg) {f10 : Addr} {od10 an10 : Option Addr} {sl10 : Array (Option Value)} {oc10 kV10 dc10 pm10 cd10 ct10 : Value} (a10 : PySem.W.nsIn K mainGlobals "_law_sign_for" = some (some (.ref f10))) (l10 : K.lookup f10 = some ⟨oc10, od10, .func (PySem.W.fnOf "_law_sign_for" "_law_sign_for" (defArgs s_law_sign_for) (defBody s_law_sign_for) (defScope s_law_sign_for) .none kV10 dc10 pm10 an10 cd10 ct10), sl10⟩) (c10 : PySem.W.codeIn K cd10 "_law_sign_for" = true) (k10 : PySem.W.keepIn K (.ref f10) = true) : DefAt K mg "_law_sign_for" s_law_sign_for ["_law_d", "_law_prime"] := by
  have F := fun_mk (st := s_law_sign_for) l10 c10 k10
  have b := F.binds (ps := ["_law_d", "_law_prime"]) fun _ _ _ _ _ _ us hl => match us, hl with | [_, _], _ => rfl
  exact ⟨_, _, F, PySem.W.mg_of X G a10, b⟩
theorem at_law_sum {K : PySem.W.Frag} {h : Heap} {mg : Str → Option Value} (X : K.In h) (G : h.Ns mainGlobals mg) {f11 : Addr} {od11 an11 : Option Addr} {sl11 : Array (Option Value)} {oc11 kV11 dc11 pm11 cd11 ct11 : Value} (a11 : PySem.W.nsIn K mainGlobals "_law_sum" = some (some (.ref f11))) (l11 : K.lookup f11 = some ⟨oc11, od11, .func (PySem.W.fnOf "_law_sum" "_law_sum" (defArgs s_law_sum) (defBody s_law_sum) (defScope s_law_sum) .none kV11 dc11 pm11 an11 cd11 ct11), sl11⟩) (c11 : PySem.W.codeIn K cd11 "_law_sum" = true) (k11 : PySem.W.keepIn K (.ref f11) = true) : DefAt K mg "_law_sum" s_law_sum ["_law_d", "_law_m"] := by
  have F := fun_mk (st := s_law_sum) l11 c11 k11
  have b := F.binds (ps := ["_law_d", "_law_m"]) fun _ _ _ _ _ _ us hl => match us, hl with | [_, _], _ => rfl
  exact ⟨_, _, F, PySem.W.mg_of X G a11, b⟩
theorem at_Form_init {K : PySem.W.Frag} {h : Heap} {mg : Str → Option Value} (X : K.In h) (G : h.Ns mainGlobals mg) {CO : Addr} (og : PySem.W.nsIn K mainGlobals "Form" = some (some (.ref CO))) (hc : ClsH K CO) {f12 : Addr} {od12 an12 : Option Addr} {sl12 : Array (Option Value)} {oc12 kV12 dc12 pm12 cd12 ct12 : Value} (a12 : PySem.W.findIn K (.ref CO) "__init__" = some (some (.ref f12))) (i12 : PySem.W.isFn K (.ref f12) = true) (l12 : K.lookup f12 = some ⟨oc12, od12, .func (PySem.W.fnOf "__init__" "Form.__init__" (defArgs s_Form_init) (defBody s_Form_init) (defScope s_Form_init) .none kV12 dc12 pm12 an12 cd12 ct12), sl12⟩) (c12 : PySem.W.codeIn K cd12 "Form.__init__" = true) (k12 : PySem.W.keepIn K (.ref f12) = true) : MkAt K mg "Form" CO "Form.__init__" s_Form_init ["self", "a", "b", "c"] := by
  have F := fun_mk (st := s_Form_init) l12 c12 k12
  have b := F.binds (ps := ["self", "a", "b", "c"]) fun _ _ _ _ _ _ us hl => match us, hl with | [_, _, _, _], _ => rfl
  exact ⟨⟨_, _, F, ⟨hc.omk, a12, i12, hc.okc⟩, b⟩, PySem.W.mg_of X G og⟩
theorem at_moved_back {K : PySem.W.Frag} {h : Heap} {mg : Str → Option Value} (X : K.In h) (G : h.Ns mainGlobals mg) {f13 : Addr} {od13 an13 : Option Addr} {sl13 : Array (Option Value)} {oc13 kV13 dc13 pm13 cd13 ct13 : Value} (a13 : PySem.W.nsIn K mainGlobals "moved_back" = some (some (.ref f13))) (l13 : K.lookup f13 = some ⟨oc13, od13, .func (PySem.W.fnOf "moved_back" "moved_back" (defArgs s_moved_back) (defBody s_moved_back) (defScope s_moved_back) .none kV13 dc13 pm13 an13 cd13 ct13), sl13⟩) (c13 : PySem.W.codeIn K cd13 "moved_back" = true) (k13 : PySem.W.keepIn K (.ref f13) = true) : DefAt K mg "moved_back" s_moved_back ["point", "steps"] := by
  have F := fun_mk (st := s_moved_back) l13 c13 k13
  have b := F.binds (ps := ["point", "steps"]) fun _ _ _ _ _ _ us hl => match us, hl with | [_, _], _ => rfl
  exact ⟨_, _, F, PySem.W.mg_of X G a13, b⟩
theorem at_side_of {K : PySem.W.Frag} {h : Heap} {mg : Str → Option Value} (X : K.In h) (G : h.Ns mainGlobals mg) {f14 : Addr} {od14 an14 : Option Addr} {sl14 : Array (Option Value)} {oc14 kV14 dc14 pm14 cd14 ct14 : Value} (a14 : PySem.W.nsIn K mainGlobals "side_of" = some (some (.ref f14))) (l14 : K.lookup f14 = some ⟨oc14, od14, .func (PySem.W.fnOf "side_of" "side_of" (defArgs s_side_of) (defBody s_side_of) (defScope s_side_of) .none kV14 dc14 pm14 an14 cd14 ct14), sl14⟩) (c14 : PySem.W.codeIn K cd14 "side_of" = true) (k14 : PySem.W.keepIn K (.ref f14) = true) : DefAt K mg "side_of" s_side_of ["square"] := by
  have F := fun_mk (st := s_side_of) l14 c14 k14
  have b := F.binds (ps := ["square"]) fun _ _ _ _ _ _ us hl => match us, hl with | [_], _ => rfl
  exact ⟨_, _, F, PySem.W.mg_of X G a14, b⟩
theorem at_plain_ways {K : PySem.W.Frag} {h : Heap} {mg : Str → Option Value} (X : K.In h) (G : h.Ns mainGlobals mg) {f15 : Addr} {od15 an15 : Option Addr} {sl15 : Array (Option Value)} {oc15 kV15 dc15 pm15 cd15 ct15 : Value} (a15 : PySem.W.nsIn K mainGlobals "plain_ways" = some (some (.ref f15))) (l15 : K.lookup f15 = some ⟨oc15, od15, .func (PySem.W.fnOf "plain_ways" "plain_ways" (defArgs s_plain_ways) (defBody s_plain_ways) (defScope s_plain_ways) .none kV15 dc15 pm15 an15 cd15 ct15), sl15⟩) (c15 : PySem.W.codeIn K cd15 "plain_ways" = true) (k15 : PySem.W.keepIn K (.ref f15) = true) : DefAt K mg "plain_ways" s_plain_ways ["form", "m"] := by
  have F := fun_mk (st := s_plain_ways) l15 c15 k15
  have b := F.binds (ps := ["form", "m"]) fun _ _ _ _ _ _ us hl => match us, hl with | [_, _], _ => rfl
  exact ⟨_, _, F, PySem.W.mg_of X G a15, b⟩
theorem at_Form_next_step {K : PySem.W.Frag} {CO : Addr} {f16 : Addr} {od16 an16 : Option Addr} {sl16 : Array (Option Value)} {oc16 kV16 dc16 pm16 cd16 ct16 : Value} (a16 : PySem.W.findIn K (.ref CO) "next_step" = some (some (.ref f16))) (i16 : PySem.W.isFn K (.ref f16) = true) (l16 : K.lookup f16 = some ⟨oc16, od16, .func (PySem.W.fnOf "next_step" "Form.next_step" (defArgs s_Form_next_step) (defBody s_Form_next_step) (defScope s_Form_next_step) .none kV16 dc16 pm16 an16 cd16 ct16), sl16⟩) (c16 : PySem.W.codeIn K cd16 "Form.next_step" = true) (k16 : PySem.W.keepIn K (.ref f16) = true) : MethAt K CO "next_step" "Form.next_step" s_Form_next_step ["self"] := by
  have F := fun_mk (st := s_Form_next_step) l16 c16 k16
  have b := F.binds (ps := ["self"]) fun _ _ _ _ _ _ us hl => match us, hl with | [_], _ => rfl
  exact ⟨_, _, F, ⟨a16, i16, k16⟩, b⟩
theorem at_Form_stepped {K : PySem.W.Frag} {CO : Addr} {f17 : Addr} {od17 an17 : Option Addr} {sl17 : Array (Option Value)} {oc17 kV17 dc17 pm17 cd17 ct17 : Value} (a17 : PySem.W.findIn K (.ref CO) "stepped" = some (some (.ref f17))) (i17 : PySem.W.isFn K (.ref f17) = true) (l17 : K.lookup f17 = some ⟨oc17, od17, .func (PySem.W.fnOf "stepped" "Form.stepped" (defArgs s_Form_stepped) (defBody s_Form_stepped) (defScope s_Form_stepped) .none kV17 dc17 pm17 an17 cd17 ct17), sl17⟩) (c17 : PySem.W.codeIn K cd17 "Form.stepped" = true) (k17 : PySem.W.keepIn K (.ref f17) = true) : MethAt K CO "stepped" "Form.stepped" s_Form_stepped ["self", "k"] := by
  have F := fun_mk (st := s_Form_stepped) l17 c17 k17
  have b := F.binds (ps := ["self", "k"]) fun _ _ _ _ _ _ us hl => match us, hl with | [_, _], _ => rfl
  exact ⟨_, _, F, ⟨a17, i17, k17⟩, b⟩
theorem at_Form_steps {K : PySem.W.Frag} {CO : Addr} {f18 : Addr} {od18 an18 : Option Addr} {sl18 : Array (Option Value)} {oc18 kV18 dc18 pm18 cd18 ct18 : Value} (a18 : PySem.W.findIn K (.ref CO) "steps" = some (some (.ref f18))) (i18 : PySem.W.isFn K (.ref f18) = true) (l18 : K.lookup f18 = some ⟨oc18, od18, .func (PySem.W.fnOf "steps" "Form.steps" (defArgs s_Form_steps) (defBody s_Form_steps) (defScope s_Form_steps) .none kV18 dc18 pm18 an18 cd18 ct18), sl18⟩) (c18 : PySem.W.codeIn K cd18 "Form.steps" = true) (k18 : PySem.W.keepIn K (.ref f18) = true) : MethAt K CO "steps" "Form.steps" s_Form_steps ["self"] := by
  have F := fun_mk (st := s_Form_steps) l18 c18 k18
  have b := F.binds (ps := ["self"]) fun _ _ _ _ _ _ us hl => match us, hl with | [_], _ => rfl
  exact ⟨_, _, F, ⟨a18, i18, k18⟩, b⟩
theorem at_Form_turned {K : PySem.W.Frag} {CO : Addr} {f19 : Addr} {od19 an19 : Option Addr} {sl19 : Array (Option Value)} {oc19 kV19 dc19 pm19 cd19 ct19 : Value} (a19 : PySem.W.findIn K (.ref CO) "turned" = some (some (.ref f19))) (i19 : PySem.W.isFn K (.ref f19) = true) (l19 : K.lookup f19 = some ⟨oc19, od19, .func (PySem.W.fnOf "turned" "Form.turned" (defArgs s_Form_turned) (defBody s_Form_turned) (defScope s_Form_turned) .none kV19 dc19 pm19 an19 cd19 ct19), sl19⟩) (c19 : PySem.W.codeIn K cd19 "Form.turned" = true) (k19 : PySem.W.keepIn K (.ref f19) = true) : MethAt K CO "turned" "Form.turned" s_Form_turned ["self", "steps"] := by
  have F := fun_mk (st := s_Form_turned) l19 c19 k19
  have b := F.binds (ps := ["self", "steps"]) fun _ _ _ _ _ _ us hl => match us, hl with | [_, _], _ => rfl
  exact ⟨_, _, F, ⟨a19, i19, k19⟩, b⟩
theorem at_ways {K : PySem.W.Frag} {h : Heap} {mg : Str → Option Value} (X : K.In h) (G : h.Ns mainGlobals mg) {f20 : Addr} {od20 an20 : Option Addr} {sl20 : Array (Option Value)} {oc20 kV20 dc20 pm20 cd20 ct20 : Value} (a20 : PySem.W.nsIn K mainGlobals "ways" = some (some (.ref f20))) (l20 : K.lookup f20 = some ⟨oc20, od20, .func (PySem.W.fnOf "ways" "ways" (defArgs s_ways) (defBody s_ways) (defScope s_ways) .none kV20 dc20 pm20 an20 cd20 ct20), sl20⟩) (c20 : PySem.W.codeIn K cd20 "ways" = true) (k20 : PySem.W.keepIn K (.ref f20) = true) : DefAt K mg "ways" s_ways ["form", "m"] := by
  have F := fun_mk (st := s_ways) l20 c20 k20
  have b := F.binds (ps := ["form", "m"]) fun _ _ _ _ _ _ us hl => match us, hl with | [_, _], _ => rfl
  exact ⟨_, _, F, PySem.W.mg_of X G a20, b⟩
theorem at_reduced_forms {K : PySem.W.Frag} {h : Heap} {mg : Str → Option Value} (X : K.In h) (G : h.Ns mainGlobals mg) {f21 : Addr} {od21 an21 : Option Addr} {sl21 : Array (Option Value)} {oc21 kV21 dc21 pm21 cd21 ct21 : Value} (a21 : PySem.W.nsIn K mainGlobals "reduced_forms" = some (some (.ref f21))) (l21 : K.lookup f21 = some ⟨oc21, od21, .func (PySem.W.fnOf "reduced_forms" "reduced_forms" (defArgs s_reduced_forms) (defBody s_reduced_forms) (defScope s_reduced_forms) .none kV21 dc21 pm21 an21 cd21 ct21), sl21⟩) (c21 : PySem.W.codeIn K cd21 "reduced_forms" = true) (k21 : PySem.W.keepIn K (.ref f21) = true) : DefAt K mg "reduced_forms" s_reduced_forms ["discriminant"] := by
  have F := fun_mk (st := s_reduced_forms) l21 c21 k21
  have b := F.binds (ps := ["discriminant"]) fun _ _ _ _ _ _ us hl => match us, hl with | [_], _ => rfl
  exact ⟨_, _, F, PySem.W.mg_of X G a21, b⟩
theorem at_law_common {K : PySem.W.Frag} {h : Heap} {mg : Str → Option Value} (X : K.In h) (G : h.Ns mainGlobals mg) {f22 : Addr} {od22 an22 : Option Addr} {sl22 : Array (Option Value)} {oc22 kV22 dc22 pm22 cd22 ct22 : Value} (a22 : PySem.W.nsIn K mainGlobals "_law_common" = some (some (.ref f22))) (l22 : K.lookup f22 = some ⟨oc22, od22, .func (PySem.W.fnOf "_law_common" "_law_common" (defArgs s_law_common) (defBody s_law_common) (defScope s_law_common) .none kV22 dc22 pm22 an22 cd22 ct22), sl22⟩) (c22 : PySem.W.codeIn K cd22 "_law_common" = true) (k22 : PySem.W.keepIn K (.ref f22) = true) : DefAt K mg "_law_common" s_law_common ["_law_a", "_law_b"] := by
  have F := fun_mk (st := s_law_common) l22 c22 k22
  have b := F.binds (ps := ["_law_a", "_law_b"]) fun _ _ _ _ _ _ us hl => match us, hl with | [_, _], _ => rfl
  exact ⟨_, _, F, PySem.W.mg_of X G a22, b⟩
theorem at_law_is_integer {K : PySem.W.Frag} {h : Heap} {mg : Str → Option Value} (X : K.In h) (G : h.Ns mainGlobals mg) {f23 : Addr} {od23 an23 : Option Addr} {sl23 : Array (Option Value)} {oc23 kV23 dc23 pm23 cd23 ct23 : Value} (a23 : PySem.W.nsIn K mainGlobals "_law_is_integer" = some (some (.ref f23))) (l23 : K.lookup f23 = some ⟨oc23, od23, .func (PySem.W.fnOf "_law_is_integer" "_law_is_integer" (defArgs s_law_is_integer) (defBody s_law_is_integer) (defScope s_law_is_integer) .none kV23 dc23 pm23 an23 cd23 ct23), sl23⟩) (c23 : PySem.W.codeIn K cd23 "_law_is_integer" = true) (k23 : PySem.W.keepIn K (.ref f23) = true) : DefAt K mg "_law_is_integer" s_law_is_integer ["_law_actual"] := by
  have F := fun_mk (st := s_law_is_integer) l23 c23 k23
  have b := F.binds (ps := ["_law_actual"]) fun _ _ _ _ _ _ us hl => match us, hl with | [_], _ => rfl
  exact ⟨_, _, F, PySem.W.mg_of X G a23, b⟩
theorem at_law_cell {K : PySem.W.Frag} {h : Heap} {mg : Str → Option Value} (X : K.In h) (G : h.Ns mainGlobals mg) {f24 : Addr} {od24 an24 : Option Addr} {sl24 : Array (Option Value)} {oc24 kV24 dc24 pm24 cd24 ct24 : Value} (a24 : PySem.W.nsIn K mainGlobals "_law_cell" = some (some (.ref f24))) (l24 : K.lookup f24 = some ⟨oc24, od24, .func (PySem.W.fnOf "_law_cell" "_law_cell" (defArgs s_law_cell) (defBody s_law_cell) (defScope s_law_cell) .none kV24 dc24 pm24 an24 cd24 ct24), sl24⟩) (c24 : PySem.W.codeIn K cd24 "_law_cell" = true) (k24 : PySem.W.keepIn K (.ref f24) = true) : DefAt K mg "_law_cell" s_law_cell ["_law_script", "_law_k"] := by
  have F := fun_mk (st := s_law_cell) l24 c24 k24
  have b := F.binds (ps := ["_law_script", "_law_k"]) fun _ _ _ _ _ _ us hl => match us, hl with | [_, _], _ => rfl
  exact ⟨_, _, F, PySem.W.mg_of X G a24, b⟩
theorem at_law_draws {K : PySem.W.Frag} {h : Heap} {mg : Str → Option Value} (X : K.In h) (G : h.Ns mainGlobals mg) {f25 : Addr} {od25 an25 : Option Addr} {sl25 : Array (Option Value)} {oc25 kV25 dc25 pm25 cd25 ct25 : Value} (a25 : PySem.W.nsIn K mainGlobals "_law_draws" = some (some (.ref f25))) (l25 : K.lookup f25 = some ⟨oc25, od25, .func (PySem.W.fnOf "_law_draws" "_law_draws" (defArgs s_law_draws) (defBody s_law_draws) (defScope s_law_draws) .none kV25 dc25 pm25 an25 cd25 ct25), sl25⟩) (c25 : PySem.W.codeIn K cd25 "_law_draws" = true) (k25 : PySem.W.keepIn K (.ref f25) = true) : DefAt K mg "_law_draws" s_law_draws ["_law_cell_here", "_law_sizes"] := by
  have F := fun_mk (st := s_law_draws) l25 c25 k25
  have b := F.binds (ps := ["_law_cell_here", "_law_sizes"]) fun _ _ _ _ _ _ us hl => match us, hl with | [_, _], _ => rfl
  exact ⟨_, _, F, PySem.W.mg_of X G a25, b⟩
theorem er_BadForm {K : PySem.W.Frag} {h : Heap} {mg : Str → Option Value} (X : K.In h) (G : h.Ns mainGlobals mg) {C0 g0 N0 : Addr} {nm0 qq0 : Str} {bs0 bm0 : List Value} {sn0 : List Str} {sub0 : List Value} {ab0 : Bool} {col0 : Option Bool} {dd0 : Option Addr} {m00 m10 m20 m30 m50 : Option Value} {odE0 anE0 : Option Addr} {slE0 : Array (Option Value)} {ocE0 kVE0 dcE0 pmE0 cdE0 ctE0 : Value} (eg0 : PySem.W.nsIn K mainGlobals "BadForm" = some (some (.ref C0))) (ex0 : K.lookup C0 = some (excClassObj nm0 qq0 C0 N0 bs0 bm0 true sn0 sub0 ab0 col0 dd0 m00 m10 m20 m30 m50 "ValueError.__new__")) (eb0 : PySem.HandSPX.refsVE bm0 = true) (es0 : PySem.W.findIn K (.ref C0) "__setattr__" = some (some (.builtin "object.__setattr__"))) (ee0 : PySem.W.subIn K (.ref C0) (.type "BaseException") = some true) (et0 : PySem.W.typeIn K (.ref C0) = some (.type "type")) (ek0 : PySem.W.keepIn K (.ref C0) = true) (ega0 : PySem.W.findIn K (.ref C0) "__getattribute__" = some (some (.builtin "BaseException.__getattribute__"))) (egg0 : PySem.W.findIn K (.ref C0) "__getattr__" = some none) (eh0 : PySem.W.hasDictIn K C0 = true) (ei0 : PySem.W.isClsIn K C0 = true) (eu0 : PySem.W.subIn K (.ref C0) (.ref C0) = some true) (ef0 : PySem.W.findIn K (.ref C0) "__init__" = some (some (.ref g0))) (ey0 : PySem.W.typeIn K (.ref g0) = some (.type "function")) (el0 : K.lookup g0 = some ⟨ocE0, odE0, .func (PySem.W.fnOf "__init__" "BadForm.__init__" (defArgs s_BadForm_init) (defBody s_BadForm_init) (defScope s_BadForm_init) .none kVE0 dcE0 pmE0 anE0 cdE0 ctE0), slE0⟩) (ec0 : PySem.W.codeIn K cdE0 "BadForm.__init__" = true) (ej0 : PySem.W.keepIn K (.ref g0) = true) : ErrRaw K mg "BadForm" C0 s_BadForm_init "BadForm.__init__" ["self", "a", "b", "c"] := by
  have F := fun_mk (st := s_BadForm_init) el0 ec0 ej0
  have b := F.binds (ps := ["self", "a", "b", "c"]) fun _ _ _ _ _ _ us hl => match us, hl with | [_, _, _, _], _ => rfl
  exact ⟨PySem.W.mg_of X G eg0, ⟨⟨_, _, _, _, _, _, _, _, _, _, _, _, _, _, _, ex0, eb0⟩, es0, ee0, et0, ek0⟩, ⟨ega0, egg0, ee0, eh0⟩, exm_self ee0 ei0 et0 eu0, ⟨_, _, ef0, ey0, F, b⟩⟩
theorem er_BadModulus {K : PySem.W.Frag} {h : Heap} {mg : Str → Option Value} (X : K.In h) (G : h.Ns mainGlobals mg) {C1 g1 N1 : Addr} {nm1 qq1 : Str} {bs1 bm1 : List Value} {sn1 : List Str} {sub1 : List Value} {ab1 : Bool} {col1 : Option Bool} {dd1 : Option Addr} {m01 m11 m21 m31 m51 : Option Value} {odE1 anE1 : Option Addr} {slE1 : Array (Option Value)} {ocE1 kVE1 dcE1 pmE1 cdE1 ctE1 : Value} (eg1 : PySem.W.nsIn K mainGlobals "BadModulus" = some (some (.ref C1))) (ex1 : K.lookup C1 = some (excClassObj nm1 qq1 C1 N1 bs1 bm1 true sn1 sub1 ab1 col1 dd1 m01 m11 m21 m31 m51 "ValueError.__new__")) (eb1 : PySem.HandSPX.refsVE bm1 = true) (es1 : PySem.W.findIn K (.ref C1) "__setattr__" = some (some (.builtin "object.__setattr__"))) (ee1 : PySem.W.subIn K (.ref C1) (.type "BaseException") = some true) (et1 : PySem.W.typeIn K (.ref C1) = some (.type "type")) (ek1 : PySem.W.keepIn K (.ref C1) = true) (ega1 : PySem.W.findIn K (.ref C1) "__getattribute__" = some (some (.builtin "BaseException.__getattribute__"))) (egg1 : PySem.W.findIn K (.ref C1) "__getattr__" = some none) (eh1 : PySem.W.hasDictIn K C1 = true) (ei1 : PySem.W.isClsIn K C1 = true) (eu1 : PySem.W.subIn K (.ref C1) (.ref C1) = some true) (ef1 : PySem.W.findIn K (.ref C1) "__init__" = some (some (.ref g1))) (ey1 : PySem.W.typeIn K (.ref g1) = some (.type "function")) (el1 : K.lookup g1 = some ⟨ocE1, odE1, .func (PySem.W.fnOf "__init__" "BadModulus.__init__" (defArgs s_BadModulus_init) (defBody s_BadModulus_init) (defScope s_BadModulus_init) .none kVE1 dcE1 pmE1 anE1 cdE1 ctE1), slE1⟩) (ec1 : PySem.W.codeIn K cdE1 "BadModulus.__init__" = true) (ej1 : PySem.W.keepIn K (.ref g1) = true) : ErrRaw K mg "BadModulus" C1 s_BadModulus_init "BadModulus.__init__" ["self", "modulus"] := by
  have F := fun_mk (st := s_BadModulus_init) el1 ec1 ej1
  have b := F.binds (ps := ["self", "modulus"]) fun _ _ _ _ _ _ us hl => match us, hl with | [_, _], _ => rfl
  exact ⟨PySem.W.mg_of X G eg1, ⟨⟨_, _, _, _, _, _, _, _, _, _, _, _, _, _, _, ex1, eb1⟩, es1, ee1, et1, ek1⟩, ⟨ega1, egg1, ee1, eh1⟩, exm_self ee1 ei1 et1 eu1, ⟨_, _, ef1, ey1, F, b⟩⟩
theorem txt_mk {K : PySem.W.Frag} {h : Heap} {mg : Str → Option Value} (X : K.In h) (G : h.Ns mainGlobals mg) {C0 C1 CO_Form : Addr} {CB : Addr} 
    (z_abs : PySem.W.nsIn K mainGlobals "abs" = some none)
    (z_bool : PySem.W.nsIn K mainGlobals "bool" = some none)
    (z_int : PySem.W.nsIn K mainGlobals "int" = some none)
    (z_isinstance : PySem.W.nsIn K mainGlobals "isinstance" = some none)
    (z_len : PySem.W.nsIn K mainGlobals "len" = some none)
    (z_max : PySem.W.nsIn K mainGlobals "max" = some none)
    (z_min : PySem.W.nsIn K mainGlobals "min" = some none)
    (z_range : PySem.W.nsIn K mainGlobals "range" = some none)
    (z_reversed : PySem.W.nsIn K mainGlobals "reversed" = some none)
    (z_sorted : PySem.W.nsIn K mainGlobals "sorted" = some none)
    (z_sum : PySem.W.nsIn K mainGlobals "sum" = some none)
    (og_Form : PySem.W.nsIn K mainGlobals "Form" = some (some (.ref CO_Form)))
    (hc_Form : ClsH K CO_Form)
    (onf_Form_a : PySem.W.findIn K (.ref CO_Form) "a" = some none)
    (onf_Form_b : PySem.W.findIn K (.ref CO_Form) "b" = some none)
    (onf_Form_c : PySem.W.findIn K (.ref CO_Form) "c" = some none)
    (onf_Form_discriminant : PySem.W.findIn K (.ref CO_Form) "discriminant" = some none)
    (d_checked_modulus : DefAt K mg "checked_modulus" s_checked_modulus ["m"])
    (d_factor_of : DefAt K mg "factor_of" s_factor_of ["rule", "n", "m"])
    (d_sign : DefAt K mg "sign" s_sign ["n", "m"])
    (d_sign_of_divisor : DefAt K mg "sign_of_divisor" s_sign_of_divisor ["discriminant", "d"])
    (d_factors : DefAt K mg "factors" s_factors ["n"])
    (d_all_divisors : DefAt K mg "all_divisors" s_all_divisors ["m"])
    (d_common : DefAt K mg "common" s_common ["a", "b"])
    (d_total_ways : DefAt K mg "total_ways" s_total_ways ["discriminant", "m"])
    (d_law_asked : DefAt K mg "_law_asked" s_law_asked ["_law_d", "_law_m"])
    (d_law_sign : DefAt K mg "_law_sign" s_law_sign ["_law_n", "_law_p"])
    (d_law_sign_for : DefAt K mg "_law_sign_for" s_law_sign_for ["_law_d", "_law_prime"])
    (d_law_sum : DefAt K mg "_law_sum" s_law_sum ["_law_d", "_law_m"])
    (d_Form_init : MkAt K mg "Form" CO_Form "Form.__init__" s_Form_init ["self", "a", "b", "c"])
    (d_moved_back : DefAt K mg "moved_back" s_moved_back ["point", "steps"])
    (d_side_of : DefAt K mg "side_of" s_side_of ["square"])
    (d_plain_ways : DefAt K mg "plain_ways" s_plain_ways ["form", "m"])
    (d_Form_next_step : MethAt K CO_Form "next_step" "Form.next_step" s_Form_next_step ["self"])
    (d_Form_stepped : MethAt K CO_Form "stepped" "Form.stepped" s_Form_stepped ["self", "k"])
    (d_Form_steps : MethAt K CO_Form "steps" "Form.steps" s_Form_steps ["self"])
    (d_Form_turned : MethAt K CO_Form "turned" "Form.turned" s_Form_turned ["self", "steps"])
    (d_ways : DefAt K mg "ways" s_ways ["form", "m"])
    (d_reduced_forms : DefAt K mg "reduced_forms" s_reduced_forms ["discriminant"])
    (d_law_common : DefAt K mg "_law_common" s_law_common ["_law_a", "_law_b"])
    (d_law_is_integer : DefAt K mg "_law_is_integer" s_law_is_integer ["_law_actual"])
    (d_law_cell : DefAt K mg "_law_cell" s_law_cell ["_law_script", "_law_k"])
    (d_law_draws : DefAt K mg "_law_draws" s_law_draws ["_law_cell_here", "_law_sizes"])
    (gB : PySem.W.nsIn K mainGlobals "ClockError" = some (some (.ref CB)))
    (rB : PySem.W.readsIn K CB (.type "type") = true)
    (aB : PySem.W.specialIn K (.ref CB) "__getattribute__" = some (some (.builtin "type.__getattribute__")))
    (iB : PySem.W.findCls K (.ref CB) (.type "type") "__init__" = some (.val (.builtin "ValueError.__init__")))
    (r_BadForm : ErrRaw K mg "BadForm" C0 s_BadForm_init "BadForm.__init__" ["self", "a", "b", "c"])
    (en0_a : PySem.W.findIn K (.ref C0) "a" = some none)
    (en0_b : PySem.W.findIn K (.ref C0) "b" = some none)
    (en0_c : PySem.W.findIn K (.ref C0) "c" = some none)
    (r_BadModulus : ErrRaw K mg "BadModulus" C1 s_BadModulus_init "BadModulus.__init__" ["self", "modulus"])
    (en1_modulus : PySem.W.findIn K (.ref C1) "modulus" = some none) :
    Txt K mg ⟨C0, C1, CO_Form, CB⟩ := {
    b_abs := PySem.W.mg_none_of X G z_abs
    b_bool := PySem.W.mg_none_of X G z_bool
    b_int := PySem.W.mg_none_of X G z_int
    b_isinstance := PySem.W.mg_none_of X G z_isinstance
    b_len := PySem.W.mg_none_of X G z_len
    b_max := PySem.W.mg_none_of X G z_max
    b_min := PySem.W.mg_none_of X G z_min
    b_range := PySem.W.mg_none_of X G z_range
    b_reversed := PySem.W.mg_none_of X G z_reversed
    b_sorted := PySem.W.mg_none_of X G z_sorted
    b_sum := PySem.W.mg_none_of X G z_sum
    g_Form := PySem.W.mg_of X G og_Form
    cl_Form := ⟨hc_Form.opg, hc_Form.ohd, hc_Form.opo, hc_Form.osa⟩
    ty_Form := fun H a dx fs h => .base (.ins h ⟨hc_Form.opg, hc_Form.ohd, hc_Form.opo, hc_Form.osa⟩ hc_Form.oha hc_Form.ohn hc_Form.otk hc_Form.omr)
    ki_Form := kit_self
    kl_Form := kit_list hc_Form.oci hc_Form.oct
    nl_Form := notFirst_list
    nf_Form_a := onf_Form_a
    nf_Form_b := onf_Form_b
    nf_Form_c := onf_Form_c
    nf_Form_discriminant := onf_Form_discriminant
    d_checked_modulus := d_checked_modulus
    d_factor_of := d_factor_of
    d_sign := d_sign
    d_sign_of_divisor := d_sign_of_divisor
    d_factors := d_factors
    d_all_divisors := d_all_divisors
    d_common := d_common
    d_total_ways := d_total_ways
    d_law_asked := d_law_asked
    d_law_sign := d_law_sign
    d_law_sign_for := d_law_sign_for
    d_law_sum := d_law_sum
    d_Form_init := d_Form_init
    d_moved_back := d_moved_back
    d_side_of := d_side_of
    d_plain_ways := d_plain_ways
    d_Form_next_step := d_Form_next_step
    d_Form_stepped := d_Form_stepped
    d_Form_steps := d_Form_steps
    d_Form_turned := d_Form_turned
    d_ways := d_ways
    d_reduced_forms := d_reduced_forms
    d_law_common := d_law_common
    d_law_is_integer := d_law_is_integer
    d_law_cell := d_law_cell
    d_law_draws := d_law_draws
    base := ⟨PySem.W.mg_of X G gB, rB, aB, iB⟩
    r_BadForm := r_BadForm
    no_BadForm_a := en0_a
    no_BadForm_b := en0_b
    no_BadForm_c := en0_c
    r_BadModulus := r_BadModulus
    no_BadModulus_modulus := en1_modulus
    triv := trivial
  }
theorem all_mk {P : Program} {w : World} {K : PySem.W.Frag} {h : Heap} {mg : Str → Option Value} {fa : Addr} (X : K.In h) (G : h.Ns mainGlobals mg) (hfa : mg "law" = some (.ref fa)) {Ad : Adr} (T : Txt K mg Ad) {f26 : Addr} {od26 an26 : Option Addr} {sl26 : Array (Option Value)} {oc26 kV26 dc26 pm26 cd26 ct26 : Value} (a26 : PySem.W.nsIn K mainGlobals "law" = some (some (.ref f26))) (l26 : K.lookup f26 = some ⟨oc26, od26, .func (PySem.W.fnOf "law" "law" (defArgs s_law) (defBody s_law) (defScope s_law) .none kV26 dc26 pm26 an26 cd26 ct26), sl26⟩) (c26 : PySem.W.codeIn K cd26 "law" = true) (k26 : PySem.W.keepIn K (.ref f26) = true) :
    ∃ fd : FuncData, (∀ (s : Shared) (v : Value), BindsTo s fd ⟨[v], []⟩ [("_law_script", v)]) ∧ ∀ base : Heap, K.In base → base.Ns mainGlobals mg → FnOk P w K mg base (L2.CX P w) 8 fa fd ["_law_script"] (spLaw K) := by
  have e := hfa.symm.trans (PySem.W.mg_of X G a26)
  cases e
  have F := fun_mk (st := s_law) l26 c26 k26
  exact ⟨_, fun s v => .of_eq rfl, fun base _ _ => ok_law (base := base) F T⟩
theorem walk {l : PySem.W.OpenLaw} {q : Program} {loose : List Str} {XP : (Str → Option Value) → Heap → Prop} {YP : World → Heap → Prop} {d : DefRec} {K : Params → PySem.W.Frag} (hn : l.most = some 63) (hdf : d.params.defaults = [])
    (hY : ∀ (w : World) (h : Heap), YP w h → (K w.params).In h)
    (F : ∀ (w : World) (mg : Str → Option Value) (fa : Addr) (h : Heap), (K w.params).In h → h.Ns mainGlobals mg → mg d.name = some (.ref fa) →
      ∃ fd : FuncData, (∀ (s : Shared) (u : Value), BindsTo s fd ⟨[u], []⟩ [("_law_script", u)]) ∧ ∀ base : Heap, (K w.params).In base → base.Ns mainGlobals mg → FnOk l.prog w (K w.params) mg base (L2.CX l.prog w) 8 fa fd ["_law_script"] (spLaw (K w.params))) :
    PySem.W.WalkO q loose XP YP l.row.toRowW d [] (fun f vs => PySem.call f vs) :=
  L2.walk_of (n := 63) (k := 8) (x := "_law_script") (CX := fun w => L2.CX l.prog w) (sp := fun w => spLaw (K w.params)) hn (by decide) hdf ⟨rfl, by decide, by decide⟩ hY F (fun _ _ a ns hl hO hS => ⟨a, ns, rfl, hS, hl, NoT.only hO, fun _ => rfl⟩) fun _ _ _ _ _ h => by
    obtain ⟨_, _, _, _, _, _, _, _, _, _, _, _, z⟩ := h
    exact z.elim
end My
open PySem PySem.W PyProof.Rows
set_option maxRecDepth 100000 in
set_option maxHeartbeats 0 in
theorem PySem.Challenge.cw_everyprime_k96_whole_ways_by_all_forms_holds : PySem.Challenge.rw_everyprime_k96_whole_ways_by_all_forms.Holds := by
  refine My.hd_top ?_
  k_fill
  refine My.walk (l := PySem.Challenge.rw_everyprime_k96_whole_ways_by_all_forms) rfl rfl (fun w h Y => PySem.W.kIn_of Y) ?F
  case F =>
    intro w mg fa h KX G hmg
    refine' My.all_mk KX G hmg (My.txt_mk KX G ?z_abs ?z_bool ?z_int ?z_isinstance ?z_len ?z_max ?z_min ?z_range ?z_reversed ?z_sorted ?z_sum ?og_Form ?hc_Form ?onf_Form_a ?onf_Form_b ?onf_Form_c ?onf_Form_discriminant ?d_checked_modulus ?d_factor_of ?d_sign ?d_sign_of_divisor ?d_factors ?d_all_divisors ?d_common ?d_total_ways ?d_law_asked ?d_law_sign ?d_law_sign_for ?d_law_sum ?d_Form_init ?d_moved_back ?d_side_of ?d_plain_ways ?d_Form_next_step ?d_Form_stepped ?d_Form_steps ?d_Form_turned ?d_ways ?d_reduced_forms ?d_law_common ?d_law_is_integer ?d_law_cell ?d_law_draws ?gB ?rB ?aB ?iB ?r_BadForm ?en0_a ?en0_b ?en0_c ?r_BadModulus ?en1_modulus) ?a26 ?l26 ?c26 ?k26
    (case z_abs => as_aux_lemma => k_is)
    (case z_bool => as_aux_lemma => k_is)
    (case z_int => as_aux_lemma => k_is)
    (case z_isinstance => as_aux_lemma => k_is)
    (case z_len => as_aux_lemma => k_is)
    (case z_max => as_aux_lemma => k_is)
    (case z_min => as_aux_lemma => k_is)
    (case z_range => as_aux_lemma => k_is)
    (case z_reversed => as_aux_lemma => k_is)
    (case z_sorted => as_aux_lemma => k_is)
    (case z_sum => as_aux_lemma => k_is)
    (case og_Form => as_aux_lemma => k_is)
    (case hc_Form => (refine' My.ClsH.mk ?y1_opg_Form ?y1_ohd_Form ?y1_opo_Form ?y1_osa_Form ?y1_omk_Form ?y1_okc_Form ?y1_oha_Form ?y1_ohn_Form ?y1_otk_Form ?y1_omr_Form ?y1_oci_Form ?y1_oct_Form; (case y1_opg_Form => as_aux_lemma => k_is); (case y1_ohd_Form => as_aux_lemma => k_is); (case y1_opo_Form => as_aux_lemma => k_is); (case y1_osa_Form => as_aux_lemma => k_is); (case y1_omk_Form => as_aux_lemma => k_is); (case y1_okc_Form => as_aux_lemma => k_is); (case y1_oha_Form => as_aux_lemma => k_is); (case y1_ohn_Form => as_aux_lemma => k_is); (case y1_otk_Form => as_aux_lemma => k_is); (case y1_omr_Form => as_aux_lemma => k_is); (case y1_oci_Form => as_aux_lemma => k_is); (case y1_oct_Form => as_aux_lemma => k_is)))
    (case onf_Form_a => as_aux_lemma => k_is)
    (case onf_Form_b => as_aux_lemma => k_is)
    (case onf_Form_c => as_aux_lemma => k_is)
    (case onf_Form_discriminant => as_aux_lemma => k_is)
    (case d_checked_modulus => (refine' My.at_checked_modulus KX G ?y2_a0 ?y2_l0 ?y2_c0 ?y2_k0; (case y2_a0 => as_aux_lemma => k_is); (case y2_l0 => as_aux_lemma => k_is); (case y2_c0 => as_aux_lemma => k_is); (case y2_k0 => as_aux_lemma => k_is)))
    (case d_factor_of => (refine' My.at_factor_of KX G ?y3_a1 ?y3_l1 ?y3_c1 ?y3_k1; (case y3_a1 => as_aux_lemma => k_is); (case y3_l1 => as_aux_lemma => k_is); (case y3_c1 => as_aux_lemma => k_is); (case y3_k1 => as_aux_lemma => k_is)))
    (case d_sign => (refine' My.at_sign KX G ?y4_a2 ?y4_l2 ?y4_c2 ?y4_k2; (case y4_a2 => as_aux_lemma => k_is); (case y4_l2 => as_aux_lemma => k_is); (case y4_c2 => as_aux_lemma => k_is); (case y4_k2 => as_aux_lemma => k_is)))
    (case d_sign_of_divisor => (refine' My.at_sign_of_divisor KX G ?y5_a3 ?y5_l3 ?y5_c3 ?y5_k3; (case y5_a3 => as_aux_lemma => k_is); (case y5_l3 => as_aux_lemma => k_is); (case y5_c3 => as_aux_lemma => k_is); (case y5_k3 => as_aux_lemma => k_is)))
    (case d_factors => (refine' My.at_factors KX G ?y6_a4 ?y6_l4 ?y6_c4 ?y6_k4; (case y6_a4 => as_aux_lemma => k_is); (case y6_l4 => as_aux_lemma => k_is); (case y6_c4 => as_aux_lemma => k_is); (case y6_k4 => as_aux_lemma => k_is)))
    (case d_all_divisors => (refine' My.at_all_divisors KX G ?y7_a5 ?y7_l5 ?y7_c5 ?y7_k5; (case y7_a5 => as_aux_lemma => k_is); (case y7_l5 => as_aux_lemma => k_is); (case y7_c5 => as_aux_lemma => k_is); (case y7_k5 => as_aux_lemma => k_is)))
    (case d_common => (refine' My.at_common KX G ?y8_a6 ?y8_l6 ?y8_c6 ?y8_k6; (case y8_a6 => as_aux_lemma => k_is); (case y8_l6 => as_aux_lemma => k_is); (case y8_c6 => as_aux_lemma => k_is); (case y8_k6 => as_aux_lemma => k_is)))
    (case d_total_ways => (refine' My.at_total_ways KX G ?y9_a7 ?y9_l7 ?y9_c7 ?y9_k7; (case y9_a7 => as_aux_lemma => k_is); (case y9_l7 => as_aux_lemma => k_is); (case y9_c7 => as_aux_lemma => k_is); (case y9_k7 => as_aux_lemma => k_is)))
    (case d_law_asked => (refine' My.at_law_asked KX G ?y10_a8 ?y10_l8 ?y10_c8 ?y10_k8; (case y10_a8 => as_aux_lemma => k_is); (case y10_l8 => as_aux_lemma => k_is); (case y10_c8 => as_aux_lemma => k_is); (case y10_k8 => as_aux_lemma => k_is)))
    (case d_law_sign => (refine' My.at_law_sign KX G ?y11_a9 ?y11_l9 ?y11_c9 ?y11_k9; (case y11_a9 => as_aux_lemma => k_is); (case y11_l9 => as_aux_lemma => k_is); (case y11_c9 => as_aux_lemma => k_is); (case y11_k9 => as_aux_lemma => k_is)))
    (case d_law_sign_for => (refine' My.at_law_sign_for KX G ?y12_a10 ?y12_l10 ?y12_c10 ?y12_k10; (case y12_a10 => as_aux_lemma => k_is); (case y12_l10 => as_aux_lemma => k_is); (case y12_c10 => as_aux_lemma => k_is); (case y12_k10 => as_aux_lemma => k_is)))
    (case d_law_sum => (refine' My.at_law_sum KX G ?y13_a11 ?y13_l11 ?y13_c11 ?y13_k11; (case y13_a11 => as_aux_lemma => k_is); (case y13_l11 => as_aux_lemma => k_is); (case y13_c11 => as_aux_lemma => k_is); (case y13_k11 => as_aux_lemma => k_is)))
    (case d_Form_init => (refine' My.at_Form_init KX G ?y14_og_Form ?y14_hc_Form ?y14_a12 ?y14_i12 ?y14_l12 ?y14_c12 ?y14_k12; (case y14_og_Form => as_aux_lemma => k_is); (case y14_hc_Form => (refine' My.ClsH.mk ?y14_opg ?y14_ohd ?y14_opo ?y14_osa ?y14_omk ?y14_okc ?y14_oha ?y14_ohn ?y14_otk ?y14_omr ?y14_oci ?y14_oct; (case y14_opg => as_aux_lemma => k_is); (case y14_ohd => as_aux_lemma => k_is); (case y14_opo => as_aux_lemma => k_is); (case y14_osa => as_aux_lemma => k_is); (case y14_omk => as_aux_lemma => k_is); (case y14_okc => as_aux_lemma => k_is); (case y14_oha => as_aux_lemma => k_is); (case y14_ohn => as_aux_lemma => k_is); (case y14_otk => as_aux_lemma => k_is); (case y14_omr => as_aux_lemma => k_is); (case y14_oci => as_aux_lemma => k_is); (case y14_oct => as_aux_lemma => k_is))); (case y14_a12 => as_aux_lemma => k_is); (case y14_i12 => as_aux_lemma => k_is); (case y14_l12 => as_aux_lemma => k_is); (case y14_c12 => as_aux_lemma => k_is); (case y14_k12 => as_aux_lemma => k_is)))
    (case d_moved_back => (refine' My.at_moved_back KX G ?y15_a13 ?y15_l13 ?y15_c13 ?y15_k13; (case y15_a13 => as_aux_lemma => k_is); (case y15_l13 => as_aux_lemma => k_is); (case y15_c13 => as_aux_lemma => k_is); (case y15_k13 => as_aux_lemma => k_is)))
    (case d_side_of => (refine' My.at_side_of KX G ?y16_a14 ?y16_l14 ?y16_c14 ?y16_k14; (case y16_a14 => as_aux_lemma => k_is); (case y16_l14 => as_aux_lemma => k_is); (case y16_c14 => as_aux_lemma => k_is); (case y16_k14 => as_aux_lemma => k_is)))
    (case d_plain_ways => (refine' My.at_plain_ways KX G ?y17_a15 ?y17_l15 ?y17_c15 ?y17_k15; (case y17_a15 => as_aux_lemma => k_is); (case y17_l15 => as_aux_lemma => k_is); (case y17_c15 => as_aux_lemma => k_is); (case y17_k15 => as_aux_lemma => k_is)))
    (case d_Form_next_step => (refine' My.at_Form_next_step ?y18_a16 ?y18_i16 ?y18_l16 ?y18_c16 ?y18_k16; (case y18_a16 => as_aux_lemma => k_is); (case y18_i16 => as_aux_lemma => k_is); (case y18_l16 => as_aux_lemma => k_is); (case y18_c16 => as_aux_lemma => k_is); (case y18_k16 => as_aux_lemma => k_is)))
    (case d_Form_stepped => (refine' My.at_Form_stepped ?y19_a17 ?y19_i17 ?y19_l17 ?y19_c17 ?y19_k17; (case y19_a17 => as_aux_lemma => k_is); (case y19_i17 => as_aux_lemma => k_is); (case y19_l17 => as_aux_lemma => k_is); (case y19_c17 => as_aux_lemma => k_is); (case y19_k17 => as_aux_lemma => k_is)))
    (case d_Form_steps => (refine' My.at_Form_steps ?y20_a18 ?y20_i18 ?y20_l18 ?y20_c18 ?y20_k18; (case y20_a18 => as_aux_lemma => k_is); (case y20_i18 => as_aux_lemma => k_is); (case y20_l18 => as_aux_lemma => k_is); (case y20_c18 => as_aux_lemma => k_is); (case y20_k18 => as_aux_lemma => k_is)))
    (case d_Form_turned => (refine' My.at_Form_turned ?y21_a19 ?y21_i19 ?y21_l19 ?y21_c19 ?y21_k19; (case y21_a19 => as_aux_lemma => k_is); (case y21_i19 => as_aux_lemma => k_is); (case y21_l19 => as_aux_lemma => k_is); (case y21_c19 => as_aux_lemma => k_is); (case y21_k19 => as_aux_lemma => k_is)))
    (case d_ways => (refine' My.at_ways KX G ?y22_a20 ?y22_l20 ?y22_c20 ?y22_k20; (case y22_a20 => as_aux_lemma => k_is); (case y22_l20 => as_aux_lemma => k_is); (case y22_c20 => as_aux_lemma => k_is); (case y22_k20 => as_aux_lemma => k_is)))
    (case d_reduced_forms => (refine' My.at_reduced_forms KX G ?y23_a21 ?y23_l21 ?y23_c21 ?y23_k21; (case y23_a21 => as_aux_lemma => k_is); (case y23_l21 => as_aux_lemma => k_is); (case y23_c21 => as_aux_lemma => k_is); (case y23_k21 => as_aux_lemma => k_is)))
    (case d_law_common => (refine' My.at_law_common KX G ?y24_a22 ?y24_l22 ?y24_c22 ?y24_k22; (case y24_a22 => as_aux_lemma => k_is); (case y24_l22 => as_aux_lemma => k_is); (case y24_c22 => as_aux_lemma => k_is); (case y24_k22 => as_aux_lemma => k_is)))
    (case d_law_is_integer => (refine' My.at_law_is_integer KX G ?y25_a23 ?y25_l23 ?y25_c23 ?y25_k23; (case y25_a23 => as_aux_lemma => k_is); (case y25_l23 => as_aux_lemma => k_is); (case y25_c23 => as_aux_lemma => k_is); (case y25_k23 => as_aux_lemma => k_is)))
    (case d_law_cell => (refine' My.at_law_cell KX G ?y26_a24 ?y26_l24 ?y26_c24 ?y26_k24; (case y26_a24 => as_aux_lemma => k_is); (case y26_l24 => as_aux_lemma => k_is); (case y26_c24 => as_aux_lemma => k_is); (case y26_k24 => as_aux_lemma => k_is)))
    (case d_law_draws => (refine' My.at_law_draws KX G ?y27_a25 ?y27_l25 ?y27_c25 ?y27_k25; (case y27_a25 => as_aux_lemma => k_is); (case y27_l25 => as_aux_lemma => k_is); (case y27_c25 => as_aux_lemma => k_is); (case y27_k25 => as_aux_lemma => k_is)))
    (case gB => as_aux_lemma => k_is)
    (case rB => as_aux_lemma => k_is)
    (case aB => as_aux_lemma => k_is)
    (case iB => as_aux_lemma => k_is)
    (case r_BadForm => (refine' My.er_BadForm KX G ?y28_eg0 ?y28_ex0 ?y28_eb0 ?y28_es0 ?y28_ee0 ?y28_et0 ?y28_ek0 ?y28_ega0 ?y28_egg0 ?y28_eh0 ?y28_ei0 ?y28_eu0 ?y28_ef0 ?y28_ey0 ?y28_el0 ?y28_ec0 ?y28_ej0; (case y28_eg0 => as_aux_lemma => k_is); (case y28_ex0 => as_aux_lemma => k_is); (case y28_eb0 => as_aux_lemma => decide +kernel); (case y28_es0 => as_aux_lemma => k_is); (case y28_ee0 => as_aux_lemma => k_is); (case y28_et0 => as_aux_lemma => k_is); (case y28_ek0 => as_aux_lemma => k_is); (case y28_ega0 => as_aux_lemma => k_is); (case y28_egg0 => as_aux_lemma => k_is); (case y28_eh0 => as_aux_lemma => k_is); (case y28_ei0 => as_aux_lemma => k_is); (case y28_eu0 => as_aux_lemma => first | rfl | k_is); (case y28_ef0 => as_aux_lemma => k_is); (case y28_ey0 => as_aux_lemma => k_is); (case y28_el0 => as_aux_lemma => k_is); (case y28_ec0 => as_aux_lemma => k_is); (case y28_ej0 => as_aux_lemma => k_is)))
    (case en0_a => as_aux_lemma => k_is)
    (case en0_b => as_aux_lemma => k_is)
    (case en0_c => as_aux_lemma => k_is)
    (case r_BadModulus => (refine' My.er_BadModulus KX G ?y29_eg1 ?y29_ex1 ?y29_eb1 ?y29_es1 ?y29_ee1 ?y29_et1 ?y29_ek1 ?y29_ega1 ?y29_egg1 ?y29_eh1 ?y29_ei1 ?y29_eu1 ?y29_ef1 ?y29_ey1 ?y29_el1 ?y29_ec1 ?y29_ej1; (case y29_eg1 => as_aux_lemma => k_is); (case y29_ex1 => as_aux_lemma => k_is); (case y29_eb1 => as_aux_lemma => decide +kernel); (case y29_es1 => as_aux_lemma => k_is); (case y29_ee1 => as_aux_lemma => k_is); (case y29_et1 => as_aux_lemma => k_is); (case y29_ek1 => as_aux_lemma => k_is); (case y29_ega1 => as_aux_lemma => k_is); (case y29_egg1 => as_aux_lemma => k_is); (case y29_eh1 => as_aux_lemma => k_is); (case y29_ei1 => as_aux_lemma => k_is); (case y29_eu1 => as_aux_lemma => first | rfl | k_is); (case y29_ef1 => as_aux_lemma => k_is); (case y29_ey1 => as_aux_lemma => k_is); (case y29_el1 => as_aux_lemma => k_is); (case y29_ec1 => as_aux_lemma => k_is); (case y29_ej1 => as_aux_lemma => k_is)))
    (case en1_modulus => as_aux_lemma => k_is)
    (case a26 => as_aux_lemma => k_is)
    (case l26 => as_aux_lemma => k_is)
    (case c26 => as_aux_lemma => k_is)
    (case k26 => as_aux_lemma => k_is)
#print axioms PySem.Challenge.cw_everyprime_k96_whole_ways_by_all_forms_holds
