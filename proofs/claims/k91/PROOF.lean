import PyProof.Rows.All
import Wide.All
import OpenK.AllK
import Wide.FinOn
import HandS.Base
import HandS.Call
import HandS.List
import HandS.Ends
import HandS.Words
import HandS.Wide
import HandS.WordsList
import HandS.Comp
import HandS.Exc
import HandS.ExcOwn
import HandS.TryOnly
import HandS.WordsExc
import HandS.ExcInit
import HandS.ExcField
import HandS.ClsMeth
import HandS.Codes
import HandS.NoneIn
import HandS.IsInst
import HandS.SortInts
import HandS.Style
import HandS.Star
import HandS.FStr
import HandS.Iter
import HandS.Dict
import HandS.Walk
import HandS.Strs
import HandS.SetBool
import HandS.SetIn
import HandS.TryMany
import HandS.More
import HandS.DictComp
import HandS.Deep
import KE.KOpsOwn
import HandS.Small
import HandS.TupAny
import KE.SortData
import HandS.SortRule
import PySem.Challenge.RW_everyprime_k91_whole_classes_are_a_group
set_option Elab.async false
set_option linter.all false
set_option maxRecDepth 100000
set_option maxHeartbeats 4000000
namespace My
section
open PySem PySem.W PyProof.Rows
set_option maxHeartbeats 0
open_top hd_top for PySem.Challenge.rw_everyprime_k91_whole_classes_are_a_group
end
end My
namespace L2
open PySem PySem.Spec PyProof.Rows
/-- one step of a reading, found by its head -/
class Stp (G : Prop) (N : outParam Prop) : Prop where
  mp : N → G
/-! ### forgetting what was made on the way -/
/-- no dict with tuple keys is tracked -/
def noT : HO -> Bool
  | .dT _ => false
  | .frz _ u => noT u
  | _ => true
def NoT (H : Hp) : Prop := ∀ a o, H a = some o → noT o = true
theorem NoT.upd {H : Hp} {p : Addr} {o : HO} (n : NoT H) (h : noT o = true) : NoT (upd H p o) := fun a u e => by
  by_cases hb : a = p
  · subst hb
    rw [upd_same] at e
    cases e
    exact h
  · rw [upd_ne hb] at e
    exact n a u e
theorem obj_back {P : Program} {w : World} {H H' : Hp} {h h' : Heap} {a : Addr} : ∀ {o : HO}, noT o = true → ObjOk P w H' h' a o → ObjOk P w H h a o → ObjOk P w H h' a o := by
  intro o
  induction o with
  | dT kvs => intro n; cases n
  | frz ob u ih =>
    intro n x y
    exact ⟨x.1, ih n x.2 y.2⟩
  | ins C dx fs =>
    intro n x y
    exact ⟨y.1, x.2⟩
  | lst xs => intro n x y; exact x
  | tup xs => intro n x y; exact x
  | dK kvs => intro n x y; exact x
  | set S m => intro n x y; exact x
  | own z => intro n x y; exact x
  | xd fs => intro n x y; exact x
  | rng lo hi => intro n x y; exact x
  | tbl ps => intro n x y; exact x
  | met f z => intro n x y; exact x
  | ext phi => intro n x y; exact x
theorem hok_back {P : Program} {w : World} {H H' : Hp} {h h' : Heap} (n : NoT H) (x : HOk P w H' h') (y : HOk P w H h) (e : Same H H') : HOk P w H h' := fun a o q =>
  obj_back (n a o q) (x a o (e a o q)) (y a o q)
theorem Inv.forget {X : Cx} {pins pins' : List (Addr × Obj)} {σ σ' : St} {H H' : Hp} {s s' : Shared} (I : Inv X pins σ H s) (J : Inv X pins' σ' H' s') (e : Same H H') (n : NoT H) : Inv X pins' σ' H s' :=
  ⟨J.ok, J.os, J.bare, ⟨J.base.keep, J.base.slot, I.base.free, J.base.there, I.base.tups, I.base.frzs, I.base.tbls⟩, J.loc, J.cell, I.free, I.freeC,
    fun p hp => let ⟨a, b, c⟩ := J.pin p hp; ⟨a, e.free b, c⟩, hok_back n J.hok I.hok e, J.len⟩
/-- an expression whose making leaves things behind that nobody asks of -/
def tPure (t : TE) : TE := fun σ H Q => NoT H ∧ t σ H fun v H' => Same H H' ∧ Q v H
def tPureT (t : TT) : TT := fun σ H Q => NoT H ∧ t σ H fun b H' => Same H H' ∧ Q b H
theorem fn_forget {P : Program} {w : World} {K : PySem.W.Frag} {mg : Str → Option Value} {base : Heap} {CX : CXT} {k : Nat} {f : Addr} {fd : FuncData} {ps : List Str} {sp : Sp} (F : FnOk P w K mg base CX k f fd ps sp) :
    FnOk P w K mg base CX k f fd ps (fun vs H Q E => NoT H ∧ sp vs H (fun v H' => Same H H' ∧ Q v H) E) := by
  refine ⟨fun vs H Q E q => F.len vs H _ E q.2, fun A outer s H args us vs Q E hr he hb hv hs => ?_⟩
  refine codeAny_mono (F.run A outer s H args us vs _ E hr he hb hv hs.2) fun r s' q => ?_
  cases r with
  | error er => exact q
  | ok fl =>
    cases fl with
    | ret u =>
      obtain ⟨v, H2, os2, bare2, un2, hok2, rv, sm, q2⟩ := q
      exact ⟨v, H, os2, bare2, ⟨un2.keep, un2.slot, fun _ _ _ n _ => n, un2.there, fun _ _ q => q, fun _ _ _ q => q, fun _ ps q => ⟨#[], by rw [q]; simp⟩⟩, hok_back hs.1 hok2 he.hok sm, rv, q2⟩
    | next => exact q
    | brk => exact q
    | cont => exact q
end L2
namespace L2
open PySem PySem.Spec PyProof.Rows
/-! ### operators in the forms that are used here -/
def CMulB (i j : Int) : Prop := CMul i j ∨ CMulW i j
theorem CMulB.ok {i j : Int} (h : CMulB i j) : IntMulOk i j := by
  rcases h with h | h
  · exact h.ok
  · exact h.ok
def CDivB (_ j : Int) : Prop := 0 < j ∧ j < 2 ^ 250 ∨ 0 < j ∧ j.natAbs < 2 ^ 9000
section
variable {X : Cx}
theorem op_mulB : OpR X (binaryOp .Mult) (rI CMulB fun i j => .int (i * j)) := opI fun _ _ _ _ _ _ _ hc q => mul_int q hc.ok
theorem CDivB.wide {i j : Int} (h : CDivB i j) : CDivW i j := by
  rcases h with ⟨h1, h2⟩ | ⟨h1, h2⟩
  · refine wide_div (b := 250) h1 ?_ (by decide) (by decide)
    have h3 : j = (j.natAbs : Int) := by omega
    have h4 : (j.natAbs : Int) < ((2 ^ 250 : Nat) : Int) := by
      rw [← h3, Int.natCast_pow]
      exact h2
    exact Int.ofNat_lt.mp h4
  · exact wide_div h1 h2 (by decide) (by decide)
theorem op_fdivB : OpR X (binaryOp .FloorDiv) (rI CDivB fun i j => .int (i / j)) := fun pins s σ H x y v u Q I rx ry ⟨i, j, e1, e2, hc, q⟩ =>
  op_fdivW pins s σ H x y v u Q I rx ry ⟨i, j, e1, e2, hc.wide, q⟩
end
/-! ### the readings, one lemma each -/
section
variable {σ : St} {H : Hp} {Q : VK} {R : Bool → Hp → Prop} {RA : List V → Hp → Prop} {K : PySem.W.Frag} {v x y z : V} {i j : Int} {ta tb tc te : TE} {tt uu : TT} {t t1 t2 u : TS} {tr : TA} {r : R2}
variable {nx : St → Hp → Prop} {rt : VK} {bk ct : St → Hp → Prop}
theorem rd_var {n : Nat} (h : σ[n]? = some (some v)) (q : Q v H) : tVar n σ H Q := ⟨v, h, q⟩
theorem rd_c (q : Q v H) : tC v σ H Q := q
instance st_c  : Stp (tC v σ H Q) (Q v H) := ⟨fun h => rd_c h⟩
theorem rd_op (h : ta σ H fun x H1 => tb σ H1 fun y H2 => r x y H2 Q) : tOp r ta tb σ H Q := h
instance st_op  : Stp (tOp r ta tb σ H Q) (ta σ H fun x H1 => tb σ H1 fun y H2 => r x y H2 Q) := ⟨fun h => rd_op h⟩
theorem rd_un {ru : V → Hp → VK → Prop} (h : ta σ H fun x H1 => ru x H1 Q) : tUn ru ta σ H Q := h
instance st_un {ru : V → Hp → VK → Prop} : Stp (tUn ru ta σ H Q) (ta σ H fun x H1 => ru x H1 Q) := ⟨fun h => rd_un h⟩
theorem rd_I {C : Int → Int → Prop} {g : Int → Int → V} (hc : C i j) (q : Q (g i j) H) : rI C g (.int i) (.int j) H Q := ⟨i, j, rfl, rfl, hc, q⟩
theorem rd_I0 {g : Int → Int → V} (q : Q (g i j) H) : rI0 g (.int i) (.int j) H Q := ⟨i, j, rfl, rfl, q⟩
instance st_I0 {g : Int → Int → V} : Stp (rI0 g (.int i) (.int j) H Q) (Q (g i j) H) := ⟨fun h => rd_I0 h⟩
theorem rd_U {g : Int → V} (q : Q (g i) H) : rU g (.int i) H Q := ⟨i, rfl, q⟩
instance st_U {g : Int → V} : Stp (rU g (.int i) H Q) (Q (g i) H) := ⟨fun h => rd_U h⟩
theorem rd_eqI (q : Q (.bl (decide (i = j))) H) : rEq (.int i) (.int j) H Q := ⟨rfl, by
  have e : decide (V.int i = V.int j) = decide (i = j) := decide_eq_decide.mpr ⟨fun z => V.int.inj z, fun z => by rw [z]⟩
  rw [e]
  exact q⟩
instance st_eqI  : Stp (rEq (.int i) (.int j) H Q) (Q (.bl (decide (i = j))) H) := ⟨fun h => rd_eqI h⟩
theorem rd_neI (q : Q (.bl (!decide (i = j))) H) : rNe (.int i) (.int j) H Q := ⟨rfl, by
  have e : decide (V.int i = V.int j) = decide (i = j) := decide_eq_decide.mpr ⟨fun z => V.int.inj z, fun z => by rw [z]⟩
  rw [e]
  exact q⟩
instance st_neI  : Stp (rNe (.int i) (.int j) H Q) (Q (.bl (!decide (i = j))) H) := ⟨fun h => rd_neI h⟩
theorem rd_eqS {i j : Str} (q : Q (.bl (decide (i = j))) H) : rEq (.str i) (.str j) H Q := ⟨rfl, by
  have e : decide (V.str i = V.str j) = decide (i = j) := decide_eq_decide.mpr ⟨fun z => V.str.inj z, fun z => by rw [z]⟩
  rw [e]
  exact q⟩
instance st_eqS {i j : Str} : Stp (rEq (.str i) (.str j) H Q) (Q (.bl (decide (i = j))) H) := ⟨fun h => rd_eqS h⟩
theorem rd_neS {i j : Str} (q : Q (.bl (!decide (i = j))) H) : rNe (.str i) (.str j) H Q := ⟨rfl, by
  have e : decide (V.str i = V.str j) = decide (i = j) := decide_eq_decide.mpr ⟨fun z => V.str.inj z, fun z => by rw [z]⟩
  rw [e]
  exact q⟩
instance st_neS {i j : Str} : Stp (rNe (.str i) (.str j) H Q) (Q (.bl (!decide (i = j))) H) := ⟨fun h => rd_neS h⟩
theorem rd_eqB {i j : Bool} (q : Q (.bl (decide (i = j))) H) : rEq (.bl i) (.bl j) H Q := ⟨rfl, by
  have e : decide (V.bl i = V.bl j) = decide (i = j) := decide_eq_decide.mpr ⟨fun z => V.bl.inj z, fun z => by rw [z]⟩
  rw [e]
  exact q⟩
instance st_eqB {i j : Bool} : Stp (rEq (.bl i) (.bl j) H Q) (Q (.bl (decide (i = j))) H) := ⟨fun h => rd_eqB h⟩
theorem rd_neB {i j : Bool} (q : Q (.bl (!decide (i = j))) H) : rNe (.bl i) (.bl j) H Q := ⟨rfl, by
  have e : decide (V.bl i = V.bl j) = decide (i = j) := decide_eq_decide.mpr ⟨fun z => V.bl.inj z, fun z => by rw [z]⟩
  rw [e]
  exact q⟩
instance st_neB {i j : Bool} : Stp (rNe (.bl i) (.bl j) H Q) (Q (.bl (!decide (i = j))) H) := ⟨fun h => rd_neB h⟩
theorem rd_test (h : te σ H fun x H' => ∃ k, x = .bl k ∧ R k H') : tTest te σ H R := h
instance st_test  : Stp (tTest te σ H R) (te σ H fun x H' => ∃ k, x = .bl k ∧ R k H') := ⟨fun h => rd_test h⟩
theorem rd_B (h : te σ H fun x H' => ∃ k, x = .bl k ∧ R k H') : tB te σ H R := h
instance st_B  : Stp (tB te σ H R) (te σ H fun x H' => ∃ k, x = .bl k ∧ R k H') := ⟨fun h => rd_B h⟩
theorem rd_k {b : Bool} {P : Bool → Prop} (q : P b) : ∃ k, V.bl b = .bl k ∧ P k := ⟨b, rfl, q⟩
instance st_k {b : Bool} {P : Bool → Prop} : Stp (∃ k, V.bl b = .bl k ∧ P k) (P b) := ⟨fun h => rd_k h⟩
theorem rd_and (h : tt σ H fun c H1 => if c = true then uu σ H1 R else R false H1) : tAnd tt uu σ H R := h
instance st_and  : Stp (tAnd tt uu σ H R) (tt σ H fun c H1 => if c = true then uu σ H1 R else R false H1) := ⟨fun h => rd_and h⟩
theorem rd_or (h : tt σ H fun c H1 => if c = true then R true H1 else uu σ H1 R) : tOr tt uu σ H R := h
instance st_or  : Stp (tOr tt uu σ H R) (tt σ H fun c H1 => if c = true then R true H1 else uu σ H1 R) := ⟨fun h => rd_or h⟩
theorem rd_not (h : tt σ H fun c H1 => R (!c) H1) : tNot tt σ H R := h
instance st_not  : Stp (tNot tt σ H R) (tt σ H fun c H1 => R (!c) H1) := ⟨fun h => rd_not h⟩
theorem rd_andV (h : ta σ H fun x H1 => ∃ c, x = .bl c ∧ if c = true then tb σ H1 Q else Q (.bl false) H1) : tAndV ta tb σ H Q := h
instance st_andV  : Stp (tAndV ta tb σ H Q) (ta σ H fun x H1 => ∃ c, x = .bl c ∧ if c = true then tb σ H1 Q else Q (.bl false) H1) := ⟨fun h => rd_andV h⟩
theorem rd_orV (h : ta σ H fun x H1 => ∃ c, x = .bl c ∧ if c = true then Q (.bl true) H1 else tb σ H1 Q) : tOrV ta tb σ H Q := h
instance st_orV  : Stp (tOrV ta tb σ H Q) (ta σ H fun x H1 => ∃ c, x = .bl c ∧ if c = true then Q (.bl true) H1 else tb σ H1 Q) := ⟨fun h => rd_orV h⟩
theorem rd_notV (h : ta σ H fun x H1 => ∃ c, x = .bl c ∧ Q (.bl (!c)) H1) : tNotV ta σ H Q := h
instance st_notV  : Stp (tNotV ta σ H Q) (ta σ H fun x H1 => ∃ c, x = .bl c ∧ Q (.bl (!c)) H1) := ⟨fun h => rd_notV h⟩
theorem rd_ifx (h : tt σ H fun c H1 => if c = true then ta σ H1 Q else tb σ H1 Q) : tIf tt ta tb σ H Q := h
instance st_ifx  : Stp (tIf tt ta tb σ H Q) (tt σ H fun c H1 => if c = true then ta σ H1 Q else tb σ H1 Q) := ⟨fun h => rd_ifx h⟩
theorem rd_chain {r' : R2} (h : ta σ H fun x H1 => tb σ H1 fun y H2 => r x y H2 fun z H3 => ∃ k, z = .bl k ∧ (if k = true then tc σ H3 fun w' H4 => r' y w' H4 Q else Q (.bl false) H3)) : tChain r r' ta tb tc σ H Q := h
instance st_chain {r' : R2} : Stp (tChain r r' ta tb tc σ H Q) (ta σ H fun x H1 => tb σ H1 fun y H2 => r x y H2 fun z H3 => ∃ k, z = .bl k ∧ (if k = true then tc σ H3 fun w' H4 => r' y w' H4 Q else Q (.bl false) H3)) := ⟨fun h => rd_chain h⟩
theorem rd_nil (q : RA [] H) : tNil σ H RA := q
instance st_nil  : Stp (tNil σ H RA) (RA [] H) := ⟨fun h => rd_nil h⟩
theorem rd_cons (h : ta σ H fun x H1 => tr σ H1 fun xs H2 => RA (x :: xs) H2) : tCons ta tr σ H RA := h
instance st_cons  : Stp (tCons ta tr σ H RA) (ta σ H fun x H1 => tr σ H1 fun xs H2 => RA (x :: xs) H2) := ⟨fun h => rd_cons h⟩
theorem rd_tup (h : tr σ H fun xs H1 => xs.length ≤ sizeLine ∧ ∀ p, H1 p = none → Q (.ref p) (upd H1 p (.tup xs))) : tTup tr σ H Q := h
instance st_tup  : Stp (tTup tr σ H Q) (tr σ H fun xs H1 => xs.length ≤ sizeLine ∧ ∀ p, H1 p = none → Q (.ref p) (upd H1 p (.tup xs))) := ⟨fun h => rd_tup h⟩
theorem rd_lst (h : tr σ H fun xs H1 => xs.length ≤ sizeLine ∧ ∀ p, H1 p = none → Q (.ref p) (upd H1 p (.lst xs))) : tLst tr σ H Q := h
instance st_lst  : Stp (tLst tr σ H Q) (tr σ H fun xs H1 => xs.length ≤ sizeLine ∧ ∀ p, H1 p = none → Q (.ref p) (upd H1 p (.lst xs))) := ⟨fun h => rd_lst h⟩
theorem rd_pure (n : NoT H) (h : te σ H fun v H' => Same H H' ∧ Q v H) : tPure te σ H Q := ⟨n, h⟩
theorem rd_pureT (n : NoT H) (h : tt σ H fun v H' => Same H H' ∧ R v H) : tPureT tt σ H R := ⟨n, h⟩
theorem rd_call {sp : Sp} {E : XK} (h : tr σ H fun vs H1 => sp vs H1 Q E) : tCall sp [] E tr σ H Q := by
  show tr σ H fun vs H1 => sp (vs ++ []) H1 Q E
  simp only [List.append_nil]
  exact h
instance st_call {sp : Sp} {E : XK} : Stp (tCall sp [] E tr σ H Q) (tr σ H fun vs H1 => sp vs H1 Q E) := ⟨fun h => rd_call h⟩
theorem rd_cb {rr : List V → Hp → VK → Prop} (h : tr σ H fun vs H1 => rr vs H1 Q) : tCB rr tr σ H Q := h
instance st_cb {rr : List V → Hp → VK → Prop} : Stp (tCB rr tr σ H Q) (tr σ H fun vs H1 => rr vs H1 Q) := ⟨fun h => rd_cb h⟩
/-! statements -/
theorem rd_seq (h : t ⟨u ⟨nx, rt, bk, ct⟩, rt, bk, ct⟩ σ H) : tSeq t u ⟨nx, rt, bk, ct⟩ σ H := h
instance st_seq  : Stp (tSeq t u ⟨nx, rt, bk, ct⟩ σ H) (t ⟨u ⟨nx, rt, bk, ct⟩, rt, bk, ct⟩ σ H) := ⟨fun h => rd_seq h⟩
theorem rd_next (q : nx σ H) : tNext ⟨nx, rt, bk, ct⟩ σ H := q
instance st_next  : Stp (tNext ⟨nx, rt, bk, ct⟩ σ H) (nx σ H) := ⟨fun h => rd_next h⟩
theorem rd_break (q : bk σ H) : tBreak ⟨nx, rt, bk, ct⟩ σ H := q
instance st_break  : Stp (tBreak ⟨nx, rt, bk, ct⟩ σ H) (bk σ H) := ⟨fun h => rd_break h⟩
theorem rd_cont (q : ct σ H) : tCont ⟨nx, rt, bk, ct⟩ σ H := q
instance st_cont  : Stp (tCont ⟨nx, rt, bk, ct⟩ σ H) (ct σ H) := ⟨fun h => rd_cont h⟩
theorem rd_ret (h : te σ H rt) : tRet te ⟨nx, rt, bk, ct⟩ σ H := h
instance st_ret  : Stp (tRet te ⟨nx, rt, bk, ct⟩ σ H) (te σ H rt) := ⟨fun h => rd_ret h⟩
theorem rd_retN (h : rt .non H) : tRetN ⟨nx, rt, bk, ct⟩ σ H := h
instance st_retN  : Stp (tRetN ⟨nx, rt, bk, ct⟩ σ H) (rt .non H) := ⟨fun h => rd_retN h⟩
theorem rd_drop (h : te σ H fun _ H1 => nx σ H1) : tDrop te ⟨nx, rt, bk, ct⟩ σ H := h
instance st_drop  : Stp (tDrop te ⟨nx, rt, bk, ct⟩ σ H) (te σ H fun _ H1 => nx σ H1) := ⟨fun h => rd_drop h⟩
theorem rd_asg {g : TG} (h : te σ H fun x H1 => g x σ H1 nx) : tAsg te g ⟨nx, rt, bk, ct⟩ σ H := h
instance st_asg {g : TG} : Stp (tAsg te g ⟨nx, rt, bk, ct⟩ σ H) (te σ H fun x H1 => g x σ H1 nx) := ⟨fun h => rd_asg h⟩
theorem rd_gname {n : Nat} {N : St → Hp → Prop} (q : N (σ.set n (some v)) H) : gName n v σ H N := q
instance st_gname {n : Nat} {N : St → Hp → Prop} : Stp (gName n v σ H N) (N (σ.set n (some v)) H) := ⟨fun h => rd_gname h⟩
theorem rd_ifS (h : tt σ H fun b H1 => if b = true then t1 ⟨nx, rt, bk, ct⟩ σ H1 else t2 ⟨nx, rt, bk, ct⟩ σ H1) : tIfS tt t1 t2 ⟨nx, rt, bk, ct⟩ σ H := h
instance st_ifS  : Stp (tIfS tt t1 t2 ⟨nx, rt, bk, ct⟩ σ H) (tt σ H fun b H1 => if b = true then t1 ⟨nx, rt, bk, ct⟩ σ H1 else t2 ⟨nx, rt, bk, ct⟩ σ H1) := ⟨fun h => rd_ifS h⟩
theorem rd_par {m n : Nat} (h : tr σ H fun vs H1 => ∃ v w, vs = [v, w] ∧ nx ((σ.set m (some v)).set n (some w)) H1) : tPar m n tr ⟨nx, rt, bk, ct⟩ σ H := h
instance st_par {m n : Nat} : Stp (tPar m n tr ⟨nx, rt, bk, ct⟩ σ H) (tr σ H fun vs H1 => ∃ v w, vs = [v, w] ∧ nx ((σ.set m (some v)).set n (some w)) H1) := ⟨fun h => rd_par h⟩
theorem rd_par2 {v w : V} {P : V → V → Prop} (q : P v w) : ∃ v' w', [v, w] = [v', w'] ∧ P v' w' := ⟨v, w, rfl, q⟩
instance st_par2 {v w : V} {P : V → V → Prop} : Stp (∃ v' w', [v, w] = [v', w'] ∧ P v' w') (P v w) := ⟨fun h => rd_par2 h⟩
theorem rd_augG {n : Nat} {x : V} {te : TE} {ti : TIp} (h : σ[n]? = some (some x)) (q : te σ H fun y H1 => ti x y H1 fun z H2 => nx (σ.set n (some z)) H2) : tAug n te ti ⟨nx, rt, bk, ct⟩ σ H := ⟨x, h, q⟩
theorem rd_ipI {f : Int → Int → Int} {i j : Int} {R : VK} (q : R (.int (f i j)) H) : ipI f (.int i) (.int j) H R := ⟨i, j, rfl, rfl, q⟩
instance st_ipI {f : Int → Int → Int} {i j : Int} {R : VK} : Stp (ipI f (.int i) (.int j) H R) (R (.int (f i j)) H) := ⟨fun h => rd_ipI h⟩
theorem rd_augC {n : Nat} {f : Int → Int → Int} (h : σ[n]? = some (some (.int i))) (q : nx (σ.set n (some (.int (f i j)))) H) : tAug n (tC (.int j)) (ipI f) ⟨nx, rt, bk, ct⟩ σ H := ⟨.int i, h, i, j, rfl, rfl, q⟩
/-! ifs -/
theorem rd_ite {p A B : Prop} [Decidable p] (h1 : p → A) (h2 : ¬ p → B) : if decide p = true then A else B := by
  by_cases h : p
  · rw [if_pos (decide_eq_true h)]
    exact h1 h
  · rw [if_neg (by rw [decide_eq_false h]; decide)]
    exact h2 h
theorem rd_iteN {p A B : Prop} [Decidable p] (h1 : ¬ p → A) (h2 : p → B) : if (!decide p) = true then A else B := by
  by_cases h : p
  · rw [if_neg (by rw [decide_eq_true h]; decide)]
    exact h2 h
  · rw [if_pos (by rw [decide_eq_false h]; decide)]
    exact h1 h
theorem rd_iteb {b : Bool} {A B : Prop} (h1 : b = true → A) (h2 : b = false → B) : if b = true then A else B := by
  cases b with
  | true => exact h1 rfl
  | false => exact h2 rfl
theorem rd_iteNT {A B : Prop} (h : B) : if (!true) = true then A else B := h
instance st_iteNT {A B : Prop} : Stp (if (!true) = true then A else B) (B) := ⟨fun h => rd_iteNT h⟩
theorem rd_iteNF {A B : Prop} (h : A) : if (!false) = true then A else B := h
instance st_iteNF {A B : Prop} : Stp (if (!false) = true then A else B) (A) := ⟨fun h => rd_iteNF h⟩
theorem rd_iteT {A B : Prop} (h : A) : if true = true then A else B := iteT h
instance st_iteT {A B : Prop} : Stp (if true = true then A else B) (A) := ⟨fun h => rd_iteT h⟩
theorem rd_iteF {A B : Prop} (h : B) : if false = true then A else B := iteF h
instance st_iteF {A B : Prop} : Stp (if false = true then A else B) (B) := ⟨fun h => rd_iteF h⟩
/-! while, for -/
def lBody (W : Nat → St → Hp → Prop) (m : Nat) (tb : TS) (nx : St → Hp → Prop) (rt : VK) : St → Hp → Prop := fun σ H =>
  ∃ N : St → Hp → Prop, (∀ σ' H', N σ' H' → ∃ m', m' < m ∧ W m' σ' H') ∧ tb ⟨N, rt, nx, N⟩ σ H
theorem rd_lBody {W : Nat → St → Hp → Prop} {m : Nat} (h : t ⟨fun σ' H' => ∃ m', m' < m ∧ W m' σ' H', rt, nx, fun σ' H' => ∃ m', m' < m ∧ W m' σ' H'⟩ σ H) : lBody W m t nx rt σ H := ⟨_, fun _ _ q => q, h⟩
instance st_lBody {W : Nat → St → Hp → Prop} {m : Nat} : Stp (lBody W m t nx rt σ H) (t ⟨fun σ' H' => ∃ m', m' < m ∧ W m' σ' H', rt, nx, fun σ' H' => ∃ m', m' < m ∧ W m' σ' H'⟩ σ H) := ⟨fun h => rd_lBody h⟩
theorem rd_while (W : Nat → St → Hp → Prop) (m0 : Nat) (h0 : W m0 σ H) (turn : ∀ m σ H, W m σ H → tt σ H fun b H1 => if b = true then lBody W m t nx rt σ H1 else nx σ H1) : tWhile tt t ⟨nx, rt, bk, ct⟩ σ H :=
  ⟨W, ⟨m0, h0⟩, fun m σ H w => turn m σ H w⟩
def fBody (J : It) (g : TG) (tb : TS) (nx : St → Hp → Prop) (rt : VK) : St → Hp → Prop := fun σ H => ∃ W : Nat → Nat → St → Hp → Prop, (∃ m, W 0 m σ H) ∧ ∀ i m σ H, W i m σ H →
  (J.stop i H ∧ nx σ H) ∨ (J.go i H ∧ ∃ N : St → Hp → Prop, (∀ σ' H', N σ' H' → ∃ m', m' < m ∧ W (i + 1) m' σ' H') ∧ ∀ x H', J.yld i H x H' → g x σ H' fun σ2 H2 => tb ⟨N, rt, nx, N⟩ σ2 H2)
theorem rd_for {wi : TI} {g : TG} (h : wi σ H fun J H1 => fBody J g t nx rt σ H1) : tFor wi g t ⟨nx, rt, bk, ct⟩ σ H := h
instance st_for {wi : TI} {g : TG} : Stp (tFor wi g t ⟨nx, rt, bk, ct⟩ σ H) (wi σ H fun J H1 => fBody J g t nx rt σ H1) := ⟨fun h => rd_for h⟩
theorem rd_forR {lo : Int} {n : Nat} {g : TG} (Pv : Nat → St → Hp → Prop) (h0 : Pv 0 σ H)
    (hs : ∀ i σ H, i < n → Pv i σ H → g (.int (lo + i)) σ H fun σ2 H2 => t ⟨Pv (i + 1), rt, nx, Pv (i + 1)⟩ σ2 H2) (hd : ∀ σ H, Pv n σ H → nx σ H) : fBody (Itr lo n) g t nx rt σ H :=
  for_range (D := ⟨nx, rt, fun _ _ => False, fun _ _ => False⟩) Pv h0 hs hd
theorem rd_forL {a : Addr} {xs : List V} {g : TG} (Pv : Nat → St → Hp → Prop) (h0 : Pv 0 σ H) (hl : ∀ i σ H, i ≤ xs.length → Pv i σ H → SqL K H a xs)
    (hs : ∀ i x σ H, xs[i]? = some x → Pv i σ H → g x σ H fun σ2 H2 => t ⟨Pv (i + 1), rt, nx, Pv (i + 1)⟩ σ2 H2) (hd : ∀ σ H, Pv xs.length σ H → nx σ H) : fBody (Itl K a) g t nx rt σ H :=
  for_list (D := ⟨nx, rt, fun _ _ => False, fun _ _ => False⟩) Pv h0 hl hs hd
theorem rd_ixL {p : Addr} {xs : List V} (h : SqL K H p xs) (ha : atI xs i = some v) (q : Q v H) : rIxL K (.ref p) (.int i) H Q := ⟨p, xs, i, v, rfl, rfl, h, ha, q⟩
theorem rd_ixT {p : Addr} {xs : List V} (h : SqT K H p xs) (ha : atI xs i = some v) (q : Q v H) : rIxT K (.ref p) (.int i) H Q := ⟨p, xs, i, v, rfl, rfl, h, ha, q⟩
end
theorem same_new {H : Hp} {p : Addr} {o : HO} (h : H p = none) : Same H (upd H p o) := fun b x e => by
  rw [upd_ne (ne_of_none e h)]
  exact e
end L2
namespace L2
open PySem PySem.Spec PyProof.Rows
section
variable {σ : St} {H : Hp} {Q : VK} {K : PySem.W.Frag} {v : V} {N : St → Hp → Prop} {S : Hp → Prop}
theorem rd_gsub {to ti : TE} {t : TSet} (h : to σ H fun o H1 => ti σ H1 fun i H2 => t o i v H2 fun H3 => N σ H3) : gSub to ti t v σ H N := h
instance st_gsub {to ti : TE} {t : TSet} : Stp (gSub to ti t v σ H N) (to σ H fun o H1 => ti σ H1 fun i H2 => t o i v H2 fun H3 => N σ H3) := ⟨fun h => rd_gsub h⟩
theorem rd_setL {p : Addr} {xs : List V} {k : Int} {j : Nat} (h : H p = some (.lst xs)) (hj : ixN xs.length k = some j) (q : S (upd H p (.lst (xs.set j v)))) : rSetL (.ref p) (.int k) v H S := ⟨p, xs, k, j, rfl, rfl, h, hj, q⟩
end
end L2
namespace L2
open PySem PySem.Spec PyProof.Rows
section
variable {σ : St} {H : Hp} {Q : VK} {K : PySem.W.Frag} {v x y : V} {N : St → Hp → Prop} {S : Hp → Prop} {p : Addr} {o : HO}
theorem rd_new {n : Nat} {F : Addr → Prop} (h : n ≤ sizeLine) (q : ∀ p, H p = none → F p) : n ≤ sizeLine ∧ ∀ p, H p = none → F p := ⟨h, q⟩
theorem rd_back {P : Prop} (hp : H p = none) (q : P) : Same H (upd H p o) ∧ P := ⟨same_new hp, q⟩
theorem rd_backR {P : Prop} (q : P) : Same H H ∧ P := ⟨Same.refl H, q⟩
instance st_backR {P : Prop} : Stp (Same H H ∧ P) (P) := ⟨fun h => rd_backR h⟩
theorem inV2 {i a b : Int} : inV (.int i) [.int a, .int b] = decide (i = a ∨ i = b) := by
  simp only [inV, eqV, List.any_cons, List.any_nil, Bool.or_false]
  by_cases h1 : i = a
  · subst h1
    simp
  · by_cases h2 : i = b
    · subst h2
      simp
    · have e1 : (a == i) = false := by simpa using Ne.symm h1
      have e2 : (b == i) = false := by simpa using Ne.symm h2
      rw [e1, e2]
      simp [h1, h2]
theorem rd_in2 {i a b : Int} (q : Q (.bl (decide (i = a ∨ i = b))) (upd H p (.tup [.int a, .int b]))) : rIn K false (.int i) (.ref p) (upd H p (.tup [.int a, .int b])) Q :=
  ⟨p, _, rfl, .inr (SqT.of upd_same), rfl, rfl, by
    show Q (.bl (inV (.int i) [.int a, .int b])) _
    rw [inV2]
    exact q⟩
instance st_in2 {i a b : Int} : Stp (rIn K false (.int i) (.ref p) (upd H p (.tup [.int a, .int b])) Q) (Q (.bl (decide (i = a ∨ i = b))) (upd H p (.tup [.int a, .int b]))) := ⟨fun h => rd_in2 h⟩
theorem rd_gtup {a : Addr} {xs : List V} {n : Nat} {t : TGs} (h : SqT K H a xs) (hn : xs.length = n) (q : t xs σ H N) : gTup K n t (.ref a) σ H N := ⟨a, xs, rfl, h, hn, q⟩
theorem rd_gcons {t : TG} {u : TGs} {xs : List V} (q : t x σ H fun σ' H' => u xs σ' H' N) : gCons t u (x :: xs) σ H N := ⟨x, xs, rfl, q⟩
instance st_gcons {t : TG} {u : TGs} {xs : List V} : Stp (gCons t u (x :: xs) σ H N) (t x σ H fun σ' H' => u xs σ' H' N) := ⟨fun h => rd_gcons h⟩
theorem rd_gnil (q : N σ H) : gNil [] σ H N := ⟨rfl, q⟩
instance st_gnil  : Stp (gNil [] σ H N) (N σ H) := ⟨fun h => rd_gnil h⟩
theorem rd_bm {T : String} {r : V → List V → Hp → VK → Prop} {to : TE} {t : TA} (h : to σ H fun x H1 => tyV K T x H1 ∧ t σ H1 fun xs H2 => r x xs H2 Q) : tBM K T r to t σ H Q := h
instance st_bm {T : String} {r : V → List V → Hp → VK → Prop} {to : TE} {t : TA} : Stp (tBM K T r to t σ H Q) (to σ H fun x H1 => tyV K T x H1 ∧ t σ H1 fun xs H2 => r x xs H2 Q) := ⟨fun h => rd_bm h⟩
theorem rd_bm0 {T : String} {r : V → List V → Hp → VK → Prop} {to : TE} (h : to σ H fun x H1 => tyV K T x H1 ∧ r x [] H1 Q) : tBM0 K T r to σ H Q := h
instance st_bm0 {T : String} {r : V → List V → Hp → VK → Prop} {to : TE} : Stp (tBM0 K T r to σ H Q) (to σ H fun x H1 => tyV K T x H1 ∧ r x [] H1 Q) := ⟨fun h => rd_bm0 h⟩
theorem rd_tyL {xs : List V} {P : Prop} (h : H p = some (.lst xs)) (q : P) : tyV K "list" (.ref p) H ∧ P := ⟨.inl ⟨rfl, _, SqL.of h⟩, q⟩
theorem rd_append {xs : List V} (h : H p = some (.lst xs)) (hl : xs.length < sizeLine) (q : Q .non (upd H p (.lst (xs ++ [y])))) : rAppend (.ref p) [y] H Q := ⟨p, xs, y, rfl, rfl, h, hl, q⟩
theorem same_upd2 {H' : Hp} {o1 : HO} (h : Same H H') (hp : H p = none) : Same H (upd H' p o1) := fun b x e => by
  rw [upd_ne (ne_of_none e hp)]
  exact h b x e
theorem upd_keep {q : Addr} {u : HO} (h : H p = some o) (hq : H q = none) : upd H q u p = some o := (upd_ne (ne_of_none h hq)).trans h
theorem upd_lst {H : Hp} {p : Addr} {a b : HO} : upd (upd H p a) p b = upd H p b := upd_upd
end
end L2
namespace L2
open PySem PySem.Spec PyProof.Rows
theorem rd_cut {σ : St} {H : Hp} {t u : TS} {nx : St → Hp → Prop} {rt : VK} {bk ct : St → Hp → Prop} (Mid : St → Hp → Prop) (h : t ⟨Mid, rt, bk, ct⟩ σ H) (q : ∀ σ' H', Mid σ' H' → u ⟨nx, rt, bk, ct⟩ σ' H') : C8.tCut t u ⟨nx, rt, bk, ct⟩ σ H := ⟨Mid, h, q⟩
/-! ### built-ins, by name -/
def rLenQ (K : PySem.W.Frag) : List V → Hp → VK → Prop := fun xs H Q => ∃ p ys, xs = [.ref p] ∧ (SqL K H p ys ∨ SqT K H p ys) ∧ Q (.int ys.length) H
def rAbs : List V → Hp → VK → Prop := fun xs H Q => ∃ i, xs = [.int i] ∧ Q (.int (if i < 0 then -i else i)) H
def rMax2 : List V → Hp → VK → Prop := fun xs H Q => ∃ i j, xs = [.int i, .int j] ∧ Q (.int (if j > i then j else i)) H
def rMin2 : List V → Hp → VK → Prop := fun xs H Q => ∃ i j, xs = [.int i, .int j] ∧ Q (.int (if j < i then j else i)) H
def rInt1 : List V → Hp → VK → Prop := fun xs H Q => (∃ i, xs = [.int i] ∧ Q (.int i) H) ∨ ∃ k, xs = [.bl k] ∧ Q (.int (if k then 1 else 0)) H
def rListOf (K : PySem.W.Frag) : List V → Hp → VK → Prop := fun xs H Q => ∃ p ys, xs = [.ref p] ∧ (SqL K H p ys ∨ SqT K H p ys) ∧ ∀ l, H l = none → Q (.ref l) (upd H l (.lst ys))
section
variable {X : Cx}
theorem c_len : CallR X (.builtin "len") (rLenQ X.K) := call_len_seq
theorem c_abs : CallR X (.builtin "abs") rAbs := call_abs
theorem c_int1 : CallR X (.type "int") rInt1 := call_int1
end
section
variable {H : Hp} {Q : VK} {K : PySem.W.Frag} {i j : Int} {p : Addr} {ys : List V}
theorem rd_abs (q : Q (.int (if i < 0 then -i else i)) H) : rAbs [.int i] H Q := ⟨i, rfl, q⟩
instance st_abs  : Stp (rAbs [.int i] H Q) (Q (.int (if i < 0 then -i else i)) H) := ⟨fun h => rd_abs h⟩
theorem rd_max2 (q : Q (.int (if j > i then j else i)) H) : rMax2 [.int i, .int j] H Q := ⟨i, j, rfl, q⟩
instance st_max2  : Stp (rMax2 [.int i, .int j] H Q) (Q (.int (if j > i then j else i)) H) := ⟨fun h => rd_max2 h⟩
theorem rd_min2 (q : Q (.int (if j < i then j else i)) H) : rMin2 [.int i, .int j] H Q := ⟨i, j, rfl, q⟩
instance st_min2  : Stp (rMin2 [.int i, .int j] H Q) (Q (.int (if j < i then j else i)) H) := ⟨fun h => rd_min2 h⟩
theorem rd_int (q : Q (.int i) H) : rInt1 [.int i] H Q := .inl ⟨i, rfl, q⟩
instance st_int  : Stp (rInt1 [.int i] H Q) (Q (.int i) H) := ⟨fun h => rd_int h⟩
theorem rd_intB {b : Bool} (q : Q (.int (if b then 1 else 0)) H) : rInt1 [.bl b] H Q := .inr ⟨b, rfl, q⟩
instance st_intB {b : Bool} : Stp (rInt1 [.bl b] H Q) (Q (.int (if b then 1 else 0)) H) := ⟨fun h => rd_intB h⟩
theorem rd_lenL (h : SqL K H p ys) (q : Q (.int ys.length) H) : rLenQ K [.ref p] H Q := ⟨p, ys, rfl, .inl h, q⟩
theorem rd_lenT (h : SqT K H p ys) (q : Q (.int ys.length) H) : rLenQ K [.ref p] H Q := ⟨p, ys, rfl, .inr h, q⟩
theorem rd_listOfL (h : SqL K H p ys) (q : ∀ l, H l = none → Q (.ref l) (upd H l (.lst ys))) : rListOf K [.ref p] H Q := ⟨p, ys, rfl, .inl h, q⟩
end
end L2
namespace L2
open PySem PySem.Spec PyProof.Rows
/-- a power with a written exponent -/
def rPowN (e : Nat) : R2 := fun x y H Q => ∃ i, x = .int i ∧ y = .int (e : Int) ∧ e ≤ 1000000 ∧ i.natAbs < 2 ^ 64 ∧ Q (.int (i ^ e)) H
theorem op_powN {X : Cx} (e : Nat) : OpR X (binaryOp .Pow) (rPowN e) := fun pins s σ H x y v u Q I rx ry ⟨i, e1, e2, h1, h2, q⟩ =>
  op_pow pins s σ H x y v u Q I rx ry ⟨i, (e : Int), e1, e2, ⟨Int.natCast_nonneg _, by omega, h2⟩, q⟩
theorem rd_powN {e : Nat} {i z : Int} {H : Hp} {Q : VK} (hz : z = (e : Int)) (h1 : e ≤ 1000000) (h2 : i.natAbs < 2 ^ 64) (q : Q (.int (i ^ e)) H) : rPowN e (.int i) (.int z) H Q := ⟨i, rfl, by rw [hz], h1, h2, q⟩
end L2
namespace L2
open PySem PySem.Spec PyProof.Rows
/-! ### a def of the text, and what it keeps -/
structure DefAt (K : PySem.W.Frag) (mg : Str → Option Value) (x : Str) (st : Stmt) (ps : List Str) : Prop where
  ex : ∃ (f : Addr) (fd : FuncData), Fun K x x st f fd ∧ mg x = some (.ref f) ∧ Binds K fd ps []
structure Def (P : Program) (w : World) (K : PySem.W.Frag) (mg : Str → Option Value) (base : Heap) (k : Nat) (x : Str) (ps : List Str) (sp : Sp) : Prop where
  ex : ∃ (f : Addr) (fd : FuncData), FnOk P w K mg base (L2.CX P w) k f fd ps sp ∧ mg x = some (.ref f) ∧ PySem.W.keepIn K (.ref f) = true ∧ Binds K fd ps []
section
variable {P : Program} {w : World} {K : PySem.W.Frag} {mg : Str → Option Value} {base : Heap}
theorem DefAt.ok {x : Str} {st : Stmt} {N ps : List Str} {k : Nat} {sp : Sp} (D : DefAt K mg x st ps) (S : FnScope N ps (defScope st)) (len : ∀ vs H Q E, sp vs H Q E → vs.length = ps.length)
    (hbody : ∀ (f : Addr) (cdv : Value) (A : Around) (outer : List Env) (s : Shared) (H : Hp) (vs : List V) (Q : VK) (E : XK), Room k (A.deeper (envOfC x (defScope st) s.heap.objs.size f cdv)) → sp vs H Q E →
      ∃ t, PSs (cxOf (L2.CX P w) P w K mg base N x (defScope st) f cdv A outer s H E) (defBody st) t ∧ t ⟨fun _ H' => Q .non H', Q, fun _ _ => False, fun _ _ => False⟩ (start N vs) H) : Def P w K mg base (k + 1) x ps sp := by
  obtain ⟨f, fd, F, g, b⟩ := D.ex
  exact ⟨f, fd, F.okX S len fun cdv A outer s H vs Q E hr h => hbody f cdv A outer s H vs Q E hr h, g, F.kp, b⟩
theorem Def.imp {k : Nat} {x : Str} {ps : List Str} {sp sp' : Sp} (D : Def P w K mg base k x ps sp) (h : ∀ vs H Q E, sp' vs H Q E → sp vs H Q E) : Def P w K mg base k x ps sp' := by
  obtain ⟨f, fd, F, g, kp, b⟩ := D.ex
  exact ⟨f, fd, F.imp h, g, kp, b⟩
theorem Def.mono {j k : Nat} {x : Str} {ps : List Str} {sp : Sp} (D : Def P w K mg base j x ps sp) (h : j ≤ k) : Def P w K mg base k x ps sp := by
  obtain ⟨f, fd, F, g, kp, b⟩ := D.ex
  exact ⟨f, fd, F.mono h, g, kp, b⟩
theorem Def.forget {k : Nat} {x : Str} {ps : List Str} {sp : Sp} (D : Def P w K mg base k x ps sp) : Def P w K mg base k x ps (fun vs H Q E => NoT H ∧ sp vs H (fun v H' => Same H H' ∧ Q v H) E) := by
  obtain ⟨f, fd, F, g, kp, b⟩ := D.ex
  exact ⟨f, fd, fn_forget F, g, kp, b⟩
end
section
variable {X : Cx}
theorem pe_d {k : Nat} {x : Str} {ps : List Str} {sp : Sp} {E : XK} {p pos : Pos} {e : Expr} {es : List Expr} {t : TA} (D : Def X.prog X.w X.K X.mg X.base k x ps sp) (hr : Room k X.A) (hx : Passes (L2.CX X.prog X.w) X E) (ha : PA X (e :: es) t) (hg : Gl X x := by rfl)
    (hd : (x == ("__debug__" : Str)) = false := by decide) (he : starEach (e :: es) X.env = (false, eval e X.env) :: starEach es X.env := by rfl) (hpl : (backTo pos (starEach es X.env)).any (·.1) = false := by rfl) :
    PE X (.Call (.Name x p) (e :: es) [] pos) (tCall sp [] E t) := by
  obtain ⟨f, fd, F, g, kp, b⟩ := D.ex
  exact pe_call F hr hg g kp b .nil hx ha hd he hpl
theorem rd_callS {sp : Sp} {W : WX} {tr : TA} {σ : St} {H : Hp} {Q : VK} (h : tr σ H fun vs H1 => sp vs H1 Q (WE W σ)) : tCallS sp (WE W) tr σ H Q := h
instance st_callS {sp : Sp} {W : WX} {tr : TA} {σ : St} {H : Hp} {Q : VK} : Stp (tCallS sp (WE W) tr σ H Q) (tr σ H fun vs H1 => sp vs H1 Q (WE W σ)) := ⟨fun h => rd_callS h⟩
end
/-! ### the program's own errors -/
/-- what the top has written of ClockError, at CC -/
structure BaseC (K : PySem.W.Frag) (mg : Str → Option Value) (CC : Addr) : Prop where
  g : mg "ClockError" = some (.ref CC)
  rd : PySem.W.readsIn K CC (.type "type") = true
  ga : PySem.W.specialIn K (.ref CC) "__getattribute__" = some (some (.builtin "type.__getattribute__"))
  ini : PySem.W.findCls K (.ref CC) (.type "type") "__init__" = some (.val (.builtin "ValueError.__init__"))
section
variable {X : Cx} {e : Expr} {es : List Expr} {ta : TA} {p1 p2 pos : Pos}
theorem pe_ceinit {pl : Sem Bool} {CC : Addr} (B : BaseC X.K X.mg CC) (ha : PA X (e :: es) ta) (hg : Gl X "ClockError" := by rfl)
    (hc : eval (.Call (.Attribute (.Name "ClockError" p1) "__init__" p2) (e :: es) [] pos) X.env = (do
      let ov ← eval (.Name "ClockError" p1) X.env
      standAt p2.atName
      let (f, first) ← holding [ov] (getMethod ov "__init__" pl)
      callWith pos f first (backTo pos (starEach (e :: es) X.env)) (backToKw pos (keywordEach [] X.env))) := by rfl)
    (he : starEach (e :: es) X.env = (false, eval e X.env) :: starEach es X.env := by rfl) (hpl : (backTo pos (starEach es X.env)).any (·.1) = false := by rfl) :
    PE X (.Call (.Attribute (.Name "ClockError" p1) "__init__" p2) (e :: es) [] pos) (tVeI X.K ta) := by
  refine ⟨fun pins s σ H Q I h => ?_⟩
  refine PySem.W.methodCall_KW (ld_glob I hg B.g ?_ (by decide)) hc
  refine PySem.W.method_cls I.kIn B.ga (PySem.W.cls_value I.kIn B.rd B.ini (by decide +kernel) ?_)
  show wpAny _ _ (callWith pos (Value.builtin "ValueError.__init__") [] (backTo pos (starEach (e :: es) X.env)) []) _ _ _
  refine PyProof.Rows.callWith_method1 (thn (ha.run pos pins _ σ H _ (I.tok _) h) fun us s1 ⟨vs, H1, I1, r1, a, C, ws, ev, hl, T, ea, q⟩ => ?_) he hpl
  subst ev
  cases r1 with
  | @cons _ u0 _ ur ra rw' =>
    obtain rfl : u0 = Value.ref a := ra
    have hlen : ur.length ≤ sizeLine := by
      rw [← Paired.length rw', sizeLine_eq]
      omega
    exact oinit_ok T I1 ea hlen fun s' J => ⟨.non, H1, J, rfl, q⟩
end
/-- __init__ of an error with fields: the values ws become fl ws -/
def spErr (C : Addr) (n : Nat) (fl : List V → List (Str × V)) : Sp := fun vs H Q _ => ∃ (a : Addr) (ws : List V), vs = .ref a :: ws ∧ ws.length = n ∧ H a = some (exo a C none) ∧
  ∀ dx, H dx = none → dx ≠ a → Q .non (upd (upd H dx (exd dx (fl ws))) a (exo a C (some dx)))
/-- a class of the program's errors: raised by its name, with n values, the fields fl -/
structure ErrC (P : Program) (w : World) (K : PySem.W.Frag) (mg : Str → Option Value) (base : Heap) (x : Str) (n : Nat) (fl : List V → List (Str × V)) (C : Addr) : Prop where
  g : mg x = some (.ref C)
  T : OexC K C
  X : XfC K C
  self : PySem.W.exmOne K (.ref C) (.ref C) = some true
  ini : ∃ (fI : Addr) (fd : FuncData) (ps : List Str), PySem.W.findIn K (.ref C) "__init__" = some (some (.ref fI)) ∧ PySem.W.typeIn K (.ref fI) = some (.type "function") ∧ FnOk P w K mg base (L2.CX P w) 1 fI fd ps (spErr C n fl) ∧ Binds K fd ps []
theorem pmk_err {X : Cx} {x : Str} {C : Addr} {n : Nat} {fl : List V → List (Str × V)} {e : Expr} {es : List Expr} {ta : TA} {p pos : Pos} (Z : ErrC X.prog X.w X.K X.mg X.base x n fl C) (hr : Room 2 X.A) (ha : PA X (e :: es) ta) (hg : Gl X x := by rfl)
    (hdb : (x == ("__debug__" : Str)) = false := by decide) (he : starEach (e :: es) X.env = (false, eval e X.env) :: starEach es X.env := by rfl) (hpl : (backTo pos (starEach es X.env)).any (·.1) = false := by rfl) :
    PMk X (.Call (.Name x p) (e :: es) [] pos) (tMkO C (spErr C n fl) [] ta) := by
  obtain ⟨fI, fd, ps, iC, tI, F, b⟩ := Z.ini
  exact pmk_oex Z.T iC tI F hr b .nil passL hg Z.g ha hdb he hpl
/-- what the raising asks -/
theorem rd_mk {C : Addr} {n : Nat} {fl : List V → List (Str × V)} {ta : TA} {σ : St} {H : Hp} {Q : XK} (h : ta σ H fun vs H1 => vs.length ≤ 1000 ∧ ∀ a, H1 a = none → spErr C n fl (.ref a :: (vs ++ [])) (upd H1 a (exo a C none))
  (fun v H2 => v = .non ∧ ∃ (d : Addr) (fs : List (Str × V)), H2 a = some (exo a C (some d)) ∧ H2 d = some (exd d fs) ∧ H1 d = none ∧ Q (.ref C) (some d) (upd (del H2 a) d (.xd fs))) (fun _ _ _ => False)) : tMkO C (spErr C n fl) [] ta σ H Q := h
instance st_mk {C : Addr} {n : Nat} {fl : List V → List (Str × V)} {ta : TA} {σ : St} {H : Hp} {Q : XK} : Stp (tMkO C (spErr C n fl) [] ta σ H Q) (ta σ H fun vs H1 => vs.length ≤ 1000 ∧ ∀ a, H1 a = none → spErr C n fl (.ref a :: (vs ++ [])) (upd H1 a (exo a C none))
  (fun v H2 => v = .non ∧ ∃ (d : Addr) (fs : List (Str × V)), H2 a = some (exo a C (some d)) ∧ H2 d = some (exd d fs) ∧ H1 d = none ∧ Q (.ref C) (some d) (upd (del H2 a) d (.xd fs))) (fun _ _ _ => False)) := ⟨fun h => rd_mk h⟩
theorem rd_mk1 {C : Addr} {n : Nat} {fl : List V → List (Str × V)} {vs : List V} {H1 : Hp} {Q : XK} (hl : vs.length = n) (hn : n ≤ 1000) (h : ∀ d, H1 d = none → Q (.ref C) (some d) (upd H1 d (.xd (fl vs)))) :
    vs.length ≤ 1000 ∧ ∀ a, H1 a = none → spErr C n fl (.ref a :: (vs ++ [])) (upd H1 a (exo a C none))
      (fun v H2 => v = .non ∧ ∃ (d : Addr) (fs : List (Str × V)), H2 a = some (exo a C (some d)) ∧ H2 d = some (exd d fs) ∧ H1 d = none ∧ Q (.ref C) (some d) (upd (del H2 a) d (.xd fs))) (fun _ _ _ => False) := by
  refine ⟨by omega, fun a na => ⟨a, vs, by rw [List.append_nil], hl, upd_same, fun dx nd ne => ⟨rfl, dx, fl vs, upd_same, ?_, ?_, ?_⟩⟩⟩
  · rw [upd_ne ne, upd_same]
  · rw [upd_ne ne] at nd
    exact nd
  · have nd' : H1 dx = none := by
      rw [upd_ne ne] at nd
      exact nd
    have z := h dx nd'
    have eq : upd (del (upd (upd (upd H1 a (exo a C none)) dx (exd dx (fl vs))) a (exo a C (some dx))) a) dx (.xd (fl vs)) = upd H1 dx (.xd (fl vs)) := by
      funext b
      by_cases hb : b = dx
      · rw [hb, upd_same, upd_same]
      · rw [upd_ne hb, upd_ne hb]
        by_cases ha : b = a
        · rw [ha, del_same, na]
        · rw [del_ne ha, upd_ne ha, upd_ne hb, upd_ne ha]
    rw [eq]
    exact z
end L2
namespace L2
open PySem PySem.Spec PyProof.Rows
/-- what the top has written of an error's class -/
structure ErrRaw (K : PySem.W.Frag) (mg : Str → Option Value) (x : Str) (C : Addr) (sI : Stmt) (qual : Str) (ps : List Str) : Prop where
  g : mg x = some (.ref C)
  T : OexC K C
  X : XfC K C
  self : PySem.W.exmOne K (.ref C) (.ref C) = some true
  ini : ∃ (fI : Addr) (fd : FuncData), PySem.W.findIn K (.ref C) "__init__" = some (some (.ref fI)) ∧ PySem.W.typeIn K (.ref fI) = some (.type "function") ∧ Fun K "__init__" qual sI fI fd ∧ Binds K fd ps []
theorem ErrC.of {P : Program} {w : World} {K : PySem.W.Frag} {mg : Str → Option Value} {base : Heap} {x : Str} {C : Addr} {sI : Stmt} {qual : Str} {ps : List Str} {n : Nat} {fl : List V → List (Str × V)} (R : ErrRaw K mg x C sI qual ps)
    (h : ∀ (fI : Addr) (fd : FuncData), Fun K "__init__" qual sI fI fd → FnOk P w K mg base (L2.CX P w) 1 fI fd ps (spErr C n fl)) : ErrC P w K mg base x n fl C := by
  obtain ⟨fI, fd, i, t, F, b⟩ := R.ini
  exact ⟨R.g, R.T, R.X, R.self, fI, fd, ps, i, t, h fI fd F, b⟩
/-- an error of the class at S is what «except S» names -/
theorem exm_self {K : PySem.W.Frag} {S : Addr} (h1 : PySem.W.subIn K (.ref S) (.type "BaseException") = some true) (h2 : PySem.W.isClsIn K S = true) (h3 : PySem.W.typeIn K (.ref S) = some (.type "type")) (h4 : PySem.W.subIn K (.ref S) (.ref S) = some true) :
    PySem.W.exmOne K (.ref S) (.ref S) = some true := by
  have e1 : (PySem.W.subIn K (.ref S) (.type "BaseException") == some true) = true := by rw [h1] <;> rfl
  have e2 : ((PySem.W.clsIn K S).isSome && PySem.W.typeIn K (.ref S) == some (.type "type")) = true := by
    have h2' : (PySem.W.clsIn K S).isSome = true := h2
    rw [h2', h3] <;> rfl
  show (if (PySem.W.subIn K (.ref S) (.type "BaseException") == some true) = true then (if ((PySem.W.clsIn K S).isSome && PySem.W.typeIn K (.ref S) == some (.type "type")) = true then PySem.W.subIn K (.ref S) (.ref S) else none) else none) = some true
  rw [if_pos e1, if_pos e2]
  exact h4
theorem NoT.only {H : Hp} (h : Only H) : NoT H := fun a o e => by
  rcases h a with z | ⟨u, xs, z⟩
  · rw [z] at e
    cases e
  · rw [z] at e
    cases e
    rfl
theorem len_3 {α : Type} {ws : List α} (h : ws.length = 3) : ∃ a b c, ws = [a, b, c] := match ws, h with | [a, b, c], _ => ⟨a, b, c, rfl⟩
/-- law's: a list of at most 63 ints is handed in, True comes out -/
def spLaw (K : PySem.W.Frag) : Sp := fun vs H Q _ => ∃ (a : Addr) (ns : List Int), vs = [.ref a] ∧ SqL K H a (ns.map V.int) ∧ ns.length ≤ 63 ∧ NoT H ∧ ∀ H', Q (.bl true) H'
end L2
namespace L2
open PySem PySem.Spec PyProof.Rows
/-! ### what is walked, by name -/
def rRng1 (S : It → Hp → Prop) (vs : List V) (H : Hp) : Prop := ∃ j : Int, vs = [.int j] ∧ -(2 ^ 62) ≤ j ∧ j < 2 ^ 62 ∧ S (Itr 0 j.toNat) H
def rRng2 (S : It → Hp → Prop) (vs : List V) (H : Hp) : Prop := ∃ i j : Int, vs = [.int i, .int j] ∧ (-(2 ^ 62) ≤ i ∧ i < 2 ^ 62 ∧ -(2 ^ 62) ≤ j ∧ j < 2 ^ 62) ∧ S (Itr i (j - i).toNat) H
def rItL (K : PySem.W.Frag) (S : It → Hp → Prop) (x : V) (H : Hp) : Prop := ∃ a, x = .ref a ∧ (∃ xs, SqL K H a xs) ∧ S (Itl K a) H
def rItT (K : PySem.W.Frag) (S : It → Hp → Prop) (x : V) (H : Hp) : Prop := ∃ a, x = .ref a ∧ (∃ xs, SqT K H a xs) ∧ S (Itt K a) H
section
variable {σ : St} {H : Hp} {Q : VK} {K : PySem.W.Frag} {v x y : V} {ta te : TE} {tt : TT} {tr : TA} {S : It → Hp → Prop}
theorem rd_iR1 (h : tr σ H (rRng1 S)) : iRng1 tr σ H S := h
instance st_iR1  : Stp (iRng1 tr σ H S) (tr σ H (rRng1 S)) := ⟨fun h => rd_iR1 h⟩
theorem rd_iR2 (h : tr σ H (rRng2 S)) : iRng2 tr σ H S := h
instance st_iR2  : Stp (iRng2 tr σ H S) (tr σ H (rRng2 S)) := ⟨fun h => rd_iR2 h⟩
theorem rd_r1 {n : Int} (h1 : -(2 ^ 62) ≤ n) (h2 : n < 2 ^ 62) (q : S (Itr 0 n.toNat) H) : rRng1 S [.int n] H := ⟨n, rfl, h1, h2, q⟩
theorem rd_r2 {m n : Int} (h1 : -(2 ^ 62) ≤ m ∧ m < 2 ^ 62 ∧ -(2 ^ 62) ≤ n ∧ n < 2 ^ 62) (q : S (Itr m (n - m).toNat) H) : rRng2 S [.int m, .int n] H := ⟨m, n, rfl, h1, q⟩
theorem rd_iL (h : ta σ H (rItL K S)) : iList K ta σ H S := h
instance st_iL  : Stp (iList K ta σ H S) (ta σ H (rItL K S)) := ⟨fun h => rd_iL h⟩
theorem rd_iT (h : ta σ H (rItT K S)) : iTup K ta σ H S := h
instance st_iT  : Stp (iTup K ta σ H S) (ta σ H (rItT K S)) := ⟨fun h => rd_iT h⟩
theorem rd_iL1 {a : Addr} {xs : List V} (h : SqL K H a xs) (q : S (Itl K a) H) : rItL K S (.ref a) H := ⟨a, rfl, ⟨xs, h⟩, q⟩
theorem rd_iT1 {a : Addr} {xs : List V} (h : SqT K H a xs) (q : S (Itt K a) H) : rItT K S (.ref a) H := ⟨a, rfl, ⟨xs, h⟩, q⟩
/-! ### list comprehensions -/
def lcB (J : It) (g : TG) (tt : TT) (te : TE) (vs : List Nat) (σ : St) (Q : VK) (H1 : Hp) : Prop := ∀ D, H1 D = none → ∃ W : Nat → Nat → Hp → Prop, (∃ m, W 0 m (upd H1 D (.lst []))) ∧ ∀ i m H, W i m H →
  (J.stop i H ∧ Q (.ref D) H) ∨ (J.go i H ∧ ∃ Nx : Hp → Prop, (∀ H', Nx H' → ∃ m', m' < m ∧ W (i + 1) m' H') ∧ ∀ x H', J.yld i H x H' → g x (wipe σ vs) H' fun σ2 H2 => wipe σ2 vs = wipe σ vs ∧ tt σ2 H2 fun b H3 =>
    if b = true then te σ2 H3 fun y H4 => ∃ acc, H4 D = some (.lst acc) ∧ acc.length < sizeLine ∧ Nx (upd H4 D (.lst (acc ++ [y]))) else Nx H3)
theorem rd_lc {wi : TI} {g : TG} {vs : List Nat} (h : wi σ H fun J H1 => lcB J g tt te vs σ Q H1) : tLc wi g tt te vs σ H Q := h
instance st_lc {wi : TI} {g : TG} {vs : List Nat} : Stp (tLc wi g tt te vs σ H Q) (wi σ H fun J H1 => lcB J g tt te vs σ Q H1) := ⟨fun h => rd_lc h⟩
theorem rd_yes {R : Bool → Hp → Prop} (q : R true H) : tYes σ H R := q
instance st_yes {R : Bool → Hp → Prop} : Stp (tYes σ H R) (R true H) := ⟨fun h => rd_yes h⟩
/-- the item that was made goes onto the list; or none does -/
def LcPut (H : Hp) (D : Addr) (l0 l1 : List V) (y : V) (H4 : Hp) : Prop := ∃ acc, H4 D = some (.lst acc) ∧ acc.length < sizeLine ∧ upd H4 D (.lst (acc ++ [y])) = upd H D (.lst l1)
def LcSkip (H : Hp) (D : Addr) (l1 : List V) (H3 : Hp) : Prop := H3 = upd H D (.lst l1)
def resR (p : Nat → Bool) (f : Nat → V) (i : Nat) : List V := ((List.range i).filter p).map f
theorem resR_len {p : Nat → Bool} {f : Nat → V} {i : Nat} : (resR p f i).length ≤ i := by
  unfold resR
  rw [List.length_map]
  have z : ((List.range i).filter p).length ≤ (List.range i).length := List.length_filter_le _ _
  rw [List.length_range] at z
  exact z
theorem put_R {D : Addr} {p : Nat → Bool} {f : Nat → V} {i : Nat} {y : V} (hi : i < 1000000) (hp : p i = true) (hy : y = f i) : LcPut H D (resR p f i) (resR p f (i + 1)) y (upd H D (.lst (resR p f i))) := by
  refine ⟨_, upd_same, Nat.lt_of_le_of_lt resR_len (Nat.lt_trans hi (by decide)), ?_⟩
  rw [upd_upd]
  unfold resR
  rw [List.range_succ, List.filter_append, List.map_append, hy]
  simp [hp]
theorem rd_lcR {lo : Int} {n : Nat} {g : TG} {vs : List Nat} (p : Nat → Bool) (f : Nat → V)
    (hs : ∀ D i, H D = none → i < n → g (.int (lo + i)) (wipe σ vs) (upd H D (.lst (resR p f i))) fun σ2 H2 => wipe σ2 vs = wipe σ vs ∧ tt σ2 H2 fun b H3 => if b = true then te σ2 H3 (LcPut H D (resR p f i) (resR p f (i + 1))) else LcSkip H D (resR p f (i + 1)) H3)
    (q : ∀ D, H D = none → Q (.ref D) (upd H D (.lst (((List.range n).filter p).map f)))) : lcB (Itr lo n) g tt te vs σ Q H := by
  intro D hD
  refine ⟨fun i m H' => m = n - i ∧ i ≤ n ∧ H' = upd H D (.lst (resR p f i)), ⟨n, by simp, Nat.zero_le _, rfl⟩, ?_⟩
  rintro i m H' ⟨rfl, hi, rfl⟩
  by_cases hlt : i < n
  · refine .inr ⟨hlt, fun H' => H' = upd H D (.lst (resR p f (i + 1))), fun H' p' => ⟨n - (i + 1), by omega, rfl, hlt, p'⟩, fun x H' y => ?_⟩
    obtain ⟨e, y⟩ := y
    subst e y
    exact hs D i hD hlt
  · have e : i = n := by omega
    subst e
    exact .inl ⟨Nat.le_refl _, q D hD⟩
/-! ### deep equality -/
theorem rd_eqD {d e : PyData} (h1 : Dp K H x d) (h2 : Dp K H y e) (s1 : SeqAt.shaped d = true) (s2 : SeqAt.shaped e = true) (q : Q (.bl (PyData.eqv d e)) H) : rEqD K x y H Q := ⟨d, e, h1, h2, s1, s2, q⟩
theorem rd_neD {d e : PyData} (h1 : Dp K H x d) (h2 : Dp K H y e) (s1 : SeqAt.shaped d = true) (s2 : SeqAt.shaped e = true) (q : Q (.bl (!PyData.eqv d e)) H) : rNeD K x y H Q := ⟨d, e, h1, h2, s1, s2, q⟩
end
section
variable {K : PySem.W.Frag} {H : Hp}
theorem dpAll_ints : ∀ ns : List Int, DpAll K H (ns.map V.int) (ns.map PyData.int)
  | [] => .nil
  | n :: r => .cons (.int n) (dpAll_ints r)
theorem dpAll_bls : ∀ ns : List Bool, DpAll K H (ns.map V.bl) (ns.map PyData.bool)
  | [] => .nil
  | n :: r => .cons (.bl n) (dpAll_bls r)
theorem dp_ints {a : Addr} {ns : List Int} (h : SqL K H a (ns.map V.int)) : Dp K H (.ref a) (.list (ns.map PyData.int)) := .lst h (dpAll_ints ns)
end
theorem eqv_ints : ∀ ns ms : List Int, PyData.eqvAll (ns.map PyData.int) (ms.map PyData.int) = decide (ns = ms)
  | [], [] => rfl
  | [], _ :: _ => rfl
  | _ :: _, [] => rfl
  | n :: r, m :: s => by
    rw [List.map_cons, List.map_cons, PyData.eqvAll, eqv_ints r s]
    by_cases h : n = m
    · subst h
      simp [PyData.eqv]
    · have : (n == m) = false := by simpa using h
      simp [PyData.eqv, this, h]
/-! ### a clause of a try -/
section
variable {σ : St} {H : Hp} {K : PySem.W.Frag} {nx : St → Hp → Prop} {rt : VK} {bk ct : St → Hp → Prop} {Q : VK} {te : TE}
def XfB (a : Addr) (cls : Value) (d : Option Addr) (C : Addr) (f : Str) (x : V) (H1 : Hp) (Q : VK) : Prop := x = .ref a ∧ cls = .ref C ∧ ∃ (dd : Addr) (fs : List (Str × V)) (v : V), d = some dd ∧ H1 dd = some (.xd fs) ∧ fs.lookup f = some v ∧ Q v H1
theorem rd_xf {a C : Addr} {cls : Value} {d : Option Addr} {f : Str} (h : te σ H fun x H1 => XfB a cls d C f x H1 Q) : tXf a cls d C f te σ H Q := h
instance st_xf {a C : Addr} {cls : Value} {d : Option Addr} {f : Str} : Stp (tXf a cls d C f te σ H Q) (te σ H fun x H1 => XfB a cls d C f x H1 Q) := ⟨fun h => rd_xf h⟩
theorem rd_xfb {a C dd : Addr} {f : Str} {fs : List (Str × V)} {v : V} (h : H dd = some (.xd fs)) (hl : fs.lookup f = some v) (q : Q v H) : XfB a (.ref C) (some dd) C f (.ref a) H Q := ⟨rfl, rfl, dd, fs, v, rfl, h, hl, q⟩
end
end L2
namespace L2
open PySem PySem.Spec PyProof.Rows
section
variable {σ : St} {H : Hp} {Q : VK} {K : PySem.W.Frag} {N : St → Hp → Prop}
theorem rd_isiII {i : Int} (q : Q (.bl true) H) : rIsi K [.int i, .ty "int"] H Q := ⟨_, _, _, _, true, rfl, .ty _, .base (.int i), kit_ty (by decide +kernel), q⟩
instance st_isiII {i : Int} : Stp (rIsi K [.int i, .ty "int"] H Q) (Q (.bl true) H) := ⟨fun h => rd_isiII h⟩
theorem rd_isiIB {i : Int} (q : Q (.bl false) H) : rIsi K [.int i, .ty "bool"] H Q := ⟨_, _, _, _, false, rfl, .ty _, .base (.int i), kit_ty (by decide +kernel), q⟩
instance st_isiIB {i : Int} : Stp (rIsi K [.int i, .ty "bool"] H Q) (Q (.bl false) H) := ⟨fun h => rd_isiIB h⟩
theorem rd_isiBB {b : Bool} (q : Q (.bl true) H) : rIsi K [.bl b, .ty "bool"] H Q := ⟨_, _, _, _, true, rfl, .ty _, .base (.bl b), kit_ty (by decide +kernel), q⟩
instance st_isiBB {b : Bool} : Stp (rIsi K [.bl b, .ty "bool"] H Q) (Q (.bl true) H) := ⟨fun h => rd_isiBB h⟩
theorem rd_unl {a : Addr} {xs : List V} {n : Nat} {t : TGs} (h : SqL K H a xs) (hn : xs.length = n) (q : t xs σ H N) : gUnl K n t (.ref a) σ H N := ⟨a, xs, rfl, h, hn, q⟩
theorem rd_slL {a : Addr} {xs : List V} {lo hi : Option Int} (h : SqL K H a xs) (q : ∀ p, H p = none → Q (.ref p) (upd H p (.lst (cutV xs lo hi)))) : rSlL K (.ref a) lo hi H Q := ⟨a, xs, rfl, h, q⟩
theorem rd_sl {r : V → Option Int → Option Int → Hp → VK → Prop} {te : TE} {tl th : TO} (h : te σ H fun x H1 => tl σ H1 fun l H2 => th σ H2 fun u H3 => r x l u H3 Q) : tSl r te tl th σ H Q := h
instance st_sl {r : V → Option Int → Option Int → Hp → VK → Prop} {te : TE} {tl th : TO} : Stp (tSl r te tl th σ H Q) (te σ H fun x H1 => tl σ H1 fun l H2 => th σ H2 fun u H3 => r x l u H3 Q) := ⟨fun h => rd_sl h⟩
theorem rd_noPart {R : Option Int → Hp → Prop} (q : R none H) : tNoPart σ H R := q
instance st_noPart {R : Option Int → Hp → Prop} : Stp (tNoPart σ H R) (R none H) := ⟨fun h => rd_noPart h⟩
def rPart (R : Option Int → Hp → Prop) (x : V) (H : Hp) : Prop := ∃ i, x = .int i ∧ R (some i) H
theorem rd_part {te : TE} {R : Option Int → Hp → Prop} (h : te σ H (rPart R)) : tPart te σ H R := h
instance st_part {te : TE} {R : Option Int → Hp → Prop} : Stp (tPart te σ H R) (te σ H (rPart R)) := ⟨fun h => rd_part h⟩
theorem rd_part1 {i : Int} {R : Option Int → Hp → Prop} (q : R (some i) H) : rPart R (.int i) H := ⟨i, rfl, q⟩
instance st_part1 {i : Int} {R : Option Int → Hp → Prop} : Stp (rPart R (.int i) H) (R (some i) H) := ⟨fun h => rd_part1 h⟩
theorem rd_cat {l b : Addr} {xs zs : List V} (h1 : H l = some (.lst xs)) (h2 : H b = some (.lst zs)) (h3 : xs.length + zs.length ≤ sizeLine) (q : ∀ p, H p = none → Q (.ref p) (upd H p (.lst (xs ++ zs)))) : rCat (.ref l) (.ref b) H Q := ⟨l, b, xs, zs, rfl, rfl, h1, h2, h3, q⟩
end
end L2
namespace L2
theorem lt_pow_of {i : Int} {k : Nat} (h1 : -(2 ^ k) < i) (h2 : i < 2 ^ k) : i.natAbs < 2 ^ k := by
  have e : ((2 ^ k : Nat) : Int) = 2 ^ k := by rw [Int.natCast_pow]; rfl
  omega
theorem CMulB.wide {i j : Int} (h1 : -(2 ^ 250) < i ∧ i < 2 ^ 250) (h2 : -(2 ^ 250) < j ∧ j < 2 ^ 250) : CMulB i j :=
  .inr (wide_mul (lt_pow_of h1.1 h1.2) (lt_pow_of h2.1 h2.2) (by decide) (by decide) (by decide))
end L2
namespace L2
open PySem PySem.Spec PyProof.Rows
section
variable {H : Hp} {Q : VK} {K : PySem.W.Frag} {p : Addr}
theorem rd_in2L {i a b : Int} (q : Q (.bl (decide (i = a ∨ i = b))) (upd H p (.lst [.int a, .int b]))) : rIn K false (.int i) (.ref p) (upd H p (.lst [.int a, .int b])) Q :=
  ⟨p, _, rfl, .inl (SqL.of upd_same), rfl, rfl, by
    show Q (.bl (inV (.int i) [.int a, .int b])) _
    rw [inV2]
    exact q⟩
instance st_in2L {i a b : Int} : Stp (rIn K false (.int i) (.ref p) (upd H p (.lst [.int a, .int b])) Q) (Q (.bl (decide (i = a ∨ i = b))) (upd H p (.lst [.int a, .int b]))) := ⟨fun h => rd_in2L h⟩
theorem rd_nin2L {i a b : Int} (q : Q (.bl (!decide (i = a ∨ i = b))) (upd H p (.lst [.int a, .int b]))) : rIn K true (.int i) (.ref p) (upd H p (.lst [.int a, .int b])) Q :=
  ⟨p, _, rfl, .inl (SqL.of upd_same), rfl, rfl, by
    show Q (.bl (!inV (.int i) [.int a, .int b])) _
    rw [inV2]
    exact q⟩
instance st_nin2L {i a b : Int} : Stp (rIn K true (.int i) (.ref p) (upd H p (.lst [.int a, .int b])) Q) (Q (.bl (!decide (i = a ∨ i = b))) (upd H p (.lst [.int a, .int b]))) := ⟨fun h => rd_nin2L h⟩
theorem rd_nin2 {i a b : Int} (q : Q (.bl (!decide (i = a ∨ i = b))) (upd H p (.tup [.int a, .int b]))) : rIn K true (.int i) (.ref p) (upd H p (.tup [.int a, .int b])) Q :=
  ⟨p, _, rfl, .inr (SqT.of upd_same), rfl, rfl, by
    show Q (.bl (!inV (.int i) [.int a, .int b])) _
    rw [inV2]
    exact q⟩
instance st_nin2 {i a b : Int} : Stp (rIn K true (.int i) (.ref p) (upd H p (.tup [.int a, .int b])) Q) (Q (.bl (!decide (i = a ∨ i = b))) (upd H p (.tup [.int a, .int b]))) := ⟨fun h => rd_nin2 h⟩
theorem beq_str {a s : Str} : (a == s) = decide (s = a) := by
  rw [Bool.beq_eq_decide_eq]
  exact decide_eq_decide.mpr eq_comm
theorem inVs4 {s a b c d : Str} : inV (.str s) [.str a, .str b, .str c, .str d] = decide (s = a ∨ s = b ∨ s = c ∨ s = d) := by
  simp only [inV, eqV, List.any_cons, List.any_nil, Bool.or_false, Bool.decide_or, beq_str]
theorem rd_ninS4 {s a b c d : Str} (q : Q (.bl (!decide (s = a ∨ s = b ∨ s = c ∨ s = d))) (upd H p (.lst [.str a, .str b, .str c, .str d]))) : rIn K true (.str s) (.ref p) (upd H p (.lst [.str a, .str b, .str c, .str d])) Q :=
  ⟨p, _, rfl, .inl (SqL.of upd_same), rfl, rfl, by
    show Q (.bl (!inV (.str s) [.str a, .str b, .str c, .str d])) _
    rw [inVs4]
    exact q⟩
instance st_ninS4 {s a b c d : Str} : Stp (rIn K true (.str s) (.ref p) (upd H p (.lst [.str a, .str b, .str c, .str d])) Q) (Q (.bl (!decide (s = a ∨ s = b ∨ s = c ∨ s = d))) (upd H p (.lst [.str a, .str b, .str c, .str d]))) := ⟨fun h => rd_ninS4 h⟩
end
end L2
namespace L2
open PySem PySem.Spec PyProof.Rows
theorem lay_all : ∀ {ds : List PyData}, (∀ d ∈ ds, d.canLay0 = true ∧ d.depth ≤ 60) → PyData.canLayAll0 ds = true ∧ PyData.depthAll ds ≤ 60
  | [], _ => ⟨rfl, Nat.zero_le _⟩
  | d :: ds, h => by
    obtain ⟨a, b⟩ := lay_all (ds := ds) fun e he => h e (List.mem_cons_of_mem _ he)
    obtain ⟨c, e⟩ := h d (List.mem_cons_self ..)
    simp only [PyData.canLayAll0, PyData.depthAll]
    exact ⟨by rw [c, a]; rfl, Nat.max_le.mpr ⟨e, b⟩⟩
theorem shaped_list {ds : List PyData} (h : ∀ d ∈ ds, d.canLay0 = true ∧ d.depth ≤ 60) : SeqAt.shaped (.list ds) = true := by
  obtain ⟨a, b⟩ := lay_all h
  unfold SeqAt.shaped
  have : (PyData.list ds).canLay0 = true := a
  rw [this, Bool.true_and, decide_eq_true_eq]
  show PyData.depthAll ds + 1 ≤ 64
  omega
theorem shaped_ints (ns : List Int) : SeqAt.shaped (.list (ns.map PyData.int)) = true := shaped_list fun d hd => by
  obtain ⟨n, _, rfl⟩ := List.mem_map.mp hd
  exact ⟨rfl, by simp [PyData.depth]⟩
section
variable {H : Hp} {Q : VK} {K : PySem.W.Frag} {a b p : Addr}
/-- two lists of whole numbers -/
theorem rd_eqInts {ns ms : List Int} (h1 : SqL K H a (ns.map V.int)) (h2 : SqL K H b (ms.map V.int)) (q : Q (.bl (decide (ns = ms))) H) : rEqD K (.ref a) (.ref b) H Q :=
  ⟨_, _, dp_ints h1, dp_ints h2, shaped_ints _, shaped_ints _, by rw [PyData.eqv, eqv_ints]; exact q⟩
theorem rd_neInts {ns ms : List Int} (h1 : SqL K H a (ns.map V.int)) (h2 : SqL K H b (ms.map V.int)) (q : Q (.bl (!decide (ns = ms))) H) : rNeD K (.ref a) (.ref b) H Q :=
  ⟨_, _, dp_ints h1, dp_ints h2, shaped_ints _, shaped_ints _, by rw [PyData.eqv, eqv_ints]; exact q⟩
theorem rd_isiL {xs : List V} (h : H a = some (.lst xs)) (q : Q (.bl true) H) : rIsi K [.ref a, .ty "list"] H Q := ⟨_, _, _, _, true, rfl, .ty _, .base (.lst h), kit_ty (by decide +kernel), q⟩
theorem rd_isiT {xs : List V} (h : H a = some (.tup xs)) (q : Q (.bl true) H) : rIsi K [.ref a, .ty "tuple"] H Q := ⟨_, _, _, _, true, rfl, .ty _, .base (.tup h), kit_ty (by decide +kernel), q⟩
end
end L2
namespace L2
open PySem PySem.Spec PyProof.Rows
theorem Same.lst {K : PySem.W.Frag} {H0 H : Hp} {a : Addr} {xs : List V} (e : Same H0 H) (h : H0 a = some (.lst xs)) : SqL K H a xs := SqL.of (e _ _ h)
end L2
namespace L2
theorem rd_neF {p A B : Prop} [Decidable p] (h : p) (q : B) : if (!decide p) = true then A else B := by
  rw [decide_eq_true h]
  exact q
theorem rd_eqT {p A B : Prop} [Decidable p] (h : p) (q : A) : if decide p = true then A else B := by
  rw [decide_eq_true h]
  exact q
end L2
namespace L2
open PySem PySem.Spec PyProof.Rows
end L2
namespace L2
open PySem PySem.Spec PyProof.Rows
section
variable {σ : St} {H : Hp} {Q : VK} {K : PySem.W.Frag} {te : TE} {tt : TT}
/-- a list comprehension over a range whose items come from what stands in the heap -/
theorem rd_lcRG {lo : Int} {n : Nat} {g : TG} {vs : List Nat} (J : Addr → Nat → List V → Hp → Prop) (h0 : ∀ D, H D = none → J D 0 [] (upd H D (.lst [])))
    (hs : ∀ D i ys H', H D = none → i < n → H' D = some (.lst ys) → J D i ys H' → g (.int (lo + i)) (wipe σ vs) H' fun σ2 H2 => wipe σ2 vs = wipe σ vs ∧ tt σ2 H2 fun b H3 => if b = true then te σ2 H3 (fun y H4 => ∃ acc, H4 D = some (.lst acc) ∧ acc.length < sizeLine ∧ ∃ ys, (upd H4 D (.lst (acc ++ [y]))) D = some (.lst ys) ∧ J D (i + 1) ys (upd H4 D (.lst (acc ++ [y])))) else ∃ ys, H3 D = some (.lst ys) ∧ J D (i + 1) ys H3)
    (q : ∀ D ys H', H D = none → H' D = some (.lst ys) → J D n ys H' → Q (.ref D) H') : lcB (Itr lo n) g tt te vs σ Q H := by
  intro D hD
  refine ⟨fun i m H' => m = n - i ∧ i ≤ n ∧ ∃ ys, H' D = some (.lst ys) ∧ J D i ys H', ⟨n, by simp, Nat.zero_le _, _, upd_same, h0 D hD⟩, ?_⟩
  rintro i m H' ⟨rfl, hi, ys, hy, hj⟩
  by_cases hlt : i < n
  · refine .inr ⟨hlt, fun H' => ∃ ys, H' D = some (.lst ys) ∧ J D (i + 1) ys H', fun H' p' => ⟨n - (i + 1), by omega, rfl, hlt, p'⟩, fun x H' y => ?_⟩
    obtain ⟨e, y⟩ := y
    subst e y
    exact hs D i ys _ hD hlt hy hj
  · have e : i = n := by omega
    subst e
    exact .inl ⟨Nat.le_refl _, q D ys H' hD hy hj⟩
theorem put_G {J : Addr → Nat → List V → Hp → Prop} {D : Addr} {i : Nat} {H4 : Hp} {acc : List V} {y : V} (h : H4 D = some (.lst acc)) (hl : acc.length < sizeLine) (j : J D (i + 1) (acc ++ [y]) (upd H4 D (.lst (acc ++ [y])))) :
    ∃ acc, H4 D = some (.lst acc) ∧ acc.length < sizeLine ∧ ∃ ys, (upd H4 D (.lst (acc ++ [y]))) D = some (.lst ys) ∧ J D (i + 1) ys (upd H4 D (.lst (acc ++ [y]))) := ⟨acc, h, hl, _, upd_same, j⟩
end
end L2
namespace L2
open PySem PySem.Spec PyProof.Rows
/-! ### classes of the text: fields, methods, making, ==, calls -/
structure MethAt (K : PySem.W.Frag) (C : Addr) (m qual : Str) (st : Stmt) (ps : List Str) : Prop where
  ex : ∃ (f : Addr) (fd : FuncData), Fun K m qual st f fd ∧ Meth K C m f ∧ Binds K fd ps []
structure MDef (P : Program) (w : World) (K : PySem.W.Frag) (mg : Str → Option Value) (base : Heap) (k : Nat) (C : Addr) (m : Str) (ps : List Str) (sp : Sp) : Prop where
  ex : ∃ (f : Addr) (fd : FuncData), FnOk P w K mg base (L2.CX P w) k f fd ps sp ∧ Meth K C m f ∧ Binds K fd ps []
structure MkAt (K : PySem.W.Frag) (mg : Str → Option Value) (x : Str) (C : Addr) (qual : Str) (st : Stmt) (ps : List Str) : Prop where
  ex : ∃ (f : Addr) (fd : FuncData), Fun K "__init__" qual st f fd ∧ Mk K C f ∧ Binds K fd ps []
  g : mg x = some (.ref C)
structure MkDef (P : Program) (w : World) (K : PySem.W.Frag) (mg : Str → Option Value) (base : Heap) (k : Nat) (x : Str) (C : Addr) (ps : List Str) (sp : Sp) : Prop where
  ex : ∃ (f : Addr) (fd : FuncData), FnOk P w K mg base (L2.CX P w) k f fd ps sp ∧ Mk K C f ∧ Binds K fd ps []
  g : mg x = some (.ref C)
section
variable {P : Program} {w : World} {K : PySem.W.Frag} {mg : Str → Option Value} {base : Heap}
theorem MethAt.ok {C : Addr} {m qual : Str} {st : Stmt} {N ps : List Str} {k : Nat} {sp : Sp} (D : MethAt K C m qual st ps) (S : FnScope N ps (defScope st)) (len : ∀ vs H Q E, sp vs H Q E → vs.length = ps.length)
    (hbody : ∀ (f : Addr) (cdv : Value) (A : Around) (outer : List Env) (s : Shared) (H : Hp) (vs : List V) (Q : VK) (E : XK), Room k (A.deeper (envOfC qual (defScope st) s.heap.objs.size f cdv)) → sp vs H Q E →
      ∃ t, PSs (cxOf (L2.CX P w) P w K mg base N qual (defScope st) f cdv A outer s H E) (defBody st) t ∧ t ⟨fun _ H' => Q .non H', Q, fun _ _ => False, fun _ _ => False⟩ (start N vs) H) : MDef P w K mg base (k + 1) C m ps sp := by
  obtain ⟨f, fd, F, g, b⟩ := D.ex
  exact ⟨f, fd, F.okX S len fun cdv A outer s H vs Q E hr h => hbody f cdv A outer s H vs Q E hr h, g, b⟩
theorem MkAt.ok {x : Str} {C : Addr} {qual : Str} {st : Stmt} {N ps : List Str} {k : Nat} {sp : Sp} (D : MkAt K mg x C qual st ps) (S : FnScope N ps (defScope st)) (len : ∀ vs H Q E, sp vs H Q E → vs.length = ps.length)
    (hbody : ∀ (f : Addr) (cdv : Value) (A : Around) (outer : List Env) (s : Shared) (H : Hp) (vs : List V) (Q : VK) (E : XK), Room k (A.deeper (envOfC qual (defScope st) s.heap.objs.size f cdv)) → sp vs H Q E →
      ∃ t, PSs (cxOf (L2.CX P w) P w K mg base N qual (defScope st) f cdv A outer s H E) (defBody st) t ∧ t ⟨fun _ H' => Q .non H', Q, fun _ _ => False, fun _ _ => False⟩ (start N vs) H) : MkDef P w K mg base (k + 1) x C ps sp := by
  obtain ⟨f, fd, F, g, b⟩ := D.ex
  exact ⟨⟨f, fd, F.okX S len fun cdv A outer s H vs Q E hr h => hbody f cdv A outer s H vs Q E hr h, g, b⟩, D.g⟩
theorem MDef.imp {k : Nat} {C : Addr} {m : Str} {ps : List Str} {sp sp' : Sp} (D : MDef P w K mg base k C m ps sp) (h : ∀ vs H Q E, sp' vs H Q E → sp vs H Q E) : MDef P w K mg base k C m ps sp' := by
  obtain ⟨f, fd, F, g, b⟩ := D.ex
  exact ⟨f, fd, F.imp h, g, b⟩
theorem MDef.mono {j k : Nat} {C : Addr} {m : Str} {ps : List Str} {sp : Sp} (D : MDef P w K mg base j C m ps sp) (h : j ≤ k) : MDef P w K mg base k C m ps sp := by
  obtain ⟨f, fd, F, g, b⟩ := D.ex
  exact ⟨f, fd, F.mono h, g, b⟩
theorem MDef.forget {k : Nat} {C : Addr} {m : Str} {ps : List Str} {sp : Sp} (D : MDef P w K mg base k C m ps sp) : MDef P w K mg base k C m ps (fun vs H Q E => NoT H ∧ sp vs H (fun v H' => Same H H' ∧ Q v H) E) := by
  obtain ⟨f, fd, F, g, b⟩ := D.ex
  exact ⟨f, fd, fn_forget F, g, b⟩
end
def tFldC (C : Addr) (ta : TE) (f : Str) : TE := fun σ H Q => ta σ H fun x H1 => ∃ a dx fs v, x = .ref a ∧ H1 a = some (.ins C dx fs) ∧ fs.lookup f = some v ∧ Q v H1
def sFldC (C : Addr) (ta tv : TE) (f : Str) : TS := fun D σ H => tv σ H fun y H1 => ta σ H1 fun x H2 => ∃ a dx fs, x = .ref a ∧ H2 a = some (.ins C dx fs) ∧ fs.length < 1000 ∧ D.nx σ (upd H2 a (.ins C dx (putF f y fs)))
def tCallC (C : Addr) (sp : Sp) (E : XK) (tf : TE) (t : TA) : TE := fun σ H Q => tf σ H fun y H1 => ∃ a, y = V.ref a ∧ t σ H1 fun vs H2 => (∃ dx fs, H2 a = some (.ins C dx fs)) ∧ sp (V.ref a :: vs) H2 Q E
def rEqO (K : PySem.W.Frag) (C : Addr) (sp : Sp) (E : XK) : R2 := fun x y H Q => ∃ a dx fs ty, x = .ref a ∧ H a = some (.ins C dx fs) ∧ TyX K H y ty ∧ PySem.W.notFirst K C ty = true ∧ sp [.ref a, y] H (fun v H' => (∃ b, v = .bl b) ∧ Q v H') E
section
variable {X : Cx} {o e value : Expr} {es : List Expr} {f : Str} {pos pos' tpos apos p : Pos} {ta tv : TE} {t : TA} {C : Addr}
theorem pe_fldC (he : PE X e ta) (c : Cls X.K C) (n : NoAttr X.K C f) (hb : attributeBase e f X.env (eval e X.env) = eval e X.env := by rfl) : PE X (.Attribute e f pos) (tFldC C ta f) := by
  refine ⟨fun pins s σ H Q I h => ?_⟩
  refine attr_of hb (thn (he.run pins s σ H _ I h) fun u s1 ⟨x, H1, I1, rx, a, dx, fs, v, ex, ea, l, q⟩ => ?_)
  subst ex
  obtain rfl : u = Value.ref a := rx
  exact getattr_ok I1 ea c n l fun u' s2 I2 ru => ⟨v, H1, I2, ru, q⟩
theorem ps_fldC (ha : PE X o ta) (hv : PE X value tv) (c : Cls X.K C) (n : NoAttr X.K C f) (hs : swapsWith value (some (.Attribute o f pos')) pos.line X.env = pure false := by rfl) : PS X (.Assign [.Attribute o f pos'] value pos) (sFldC C ta tv f) := by
  refine ⟨fun pins s σ H D I h => ?_⟩
  refine plainObj_wpAny_Assign_Attribute (thn (hv.run pins s σ H _ I h) fun u s1 ⟨y, H1, I1, ry, q⟩ => thn (ha.run pins s1 σ H1 _ I1 q) fun ov s2 ⟨x, H2, I2, rx, a, dx, fs, ex, ea, l, q2⟩ => ?_) hs
  subst ex
  obtain rfl : ov = Value.ref a := rx
  exact setattr_ok I2 ea c n l ry fun s3 I3 => ⟨σ, _, I3, q2⟩
theorem pe_md {k : Nat} {m : Str} {ps : List Str} {sp : Sp} {E : XK} {pl : Sem Bool} (D : MDef X.prog X.w X.K X.mg X.base k C m ps sp) (he : PE X o ta) (c : Cls X.K C) (hr : Room k X.A) (hx : Passes (L2.CX X.prog X.w) X E) (ha : PA X (e :: es) t)
    (hst : starEach (e :: es) X.env = (false, eval e X.env) :: starEach es X.env := by rfl) (hpl : (backTo pos (starEach es X.env)).any (·.1) = false := by rfl)
    (ht : eval (.Call (.Attribute o m apos) (e :: es) [] pos) X.env = (do
      let ov ← eval o X.env
      standAt apos.atName
      let (f, first) ← holding [ov] (getMethod ov m pl)
      callWith pos f first (backTo pos (starEach (e :: es) X.env)) (backToKw pos (keywordEach [] X.env))) := by rfl) :
    PE X (.Call (.Attribute o m apos) (e :: es) [] pos) (tMeth C m sp [] E ta t) := by
  obtain ⟨f, fd, F, g, b⟩ := D.ex
  exact pe_meth he c g F hr b .nil hx ha hst hpl ht
theorem pe_md0 {k : Nat} {m : Str} {ps : List Str} {sp : Sp} {E : XK} {pl : Sem Bool} (D : MDef X.prog X.w X.K X.mg X.base k C m ps sp) (he : PE X o ta) (c : Cls X.K C) (hr : Room k X.A) (hx : Passes (L2.CX X.prog X.w) X E)
    (ht : eval (.Call (.Attribute o m apos) [] [] pos) X.env = (do
      let ov ← eval o X.env
      standAt apos.atName
      let (f, first) ← holding [ov] (getMethod ov m pl)
      callWith pos f first (backTo pos (starEach [] X.env)) (backToKw pos (keywordEach [] X.env))) := by rfl) :
    PE X (.Call (.Attribute o m apos) [] [] pos) (tMeth C m sp [] E ta tNil) := by
  obtain ⟨f, fd, F, g, b⟩ := D.ex
  exact pe_meth0 he c g F hr b .nil hx ht
theorem pe_mkd {k : Nat} {x : Str} {ps : List Str} {sp : Sp} {E : XK} (D : MkDef X.prog X.w X.K X.mg X.base k x C ps sp) (hr : Room (k + 1) X.A) (hx : Passes (L2.CX X.prog X.w) X E) (ha : PA X (e :: es) t) (hg : Gl X x := by rfl)
    (hdb : (x == ("__debug__" : Str)) = false := by decide) (he : starEach (e :: es) X.env = (false, eval e X.env) :: starEach es X.env := by rfl) (hpl : (backTo pos (starEach es X.env)).any (·.1) = false := by rfl) :
    PE X (.Call (.Name x p) (e :: es) [] pos) (tMake C sp [] E t) := by
  obtain ⟨f, fd, F, M, b⟩ := D.ex
  exact pe_make M F hr hg D.g b .nil hx ha hdb he hpl
theorem pe_mcall {k : Nat} {ps : List Str} {sp : Sp} {E : XK} {fe : Expr} {tf : TE} (D : MDef X.prog X.w X.K X.mg X.base k C "__call__" ps sp) (fi : ∀ g, PySem.W.findIn X.K (.ref C) "__call__" = some (some (.ref g)) → PySem.W.fnIn X.K g = true) (hf : PE X fe tf) (hr : Room k X.A) (hx : Passes (L2.CX X.prog X.w) X E) (ha : PA X (e :: es) t)
    (ht : eval (.Call fe (e :: es) [] pos) X.env = (do callWith pos (← eval fe X.env) [] (backTo pos (starEach (e :: es) X.env)) (backToKw pos (keywordEach [] X.env))) := by rfl)
    (he : starEach (e :: es) X.env = (false, eval e X.env) :: starEach es X.env := by rfl) (hpl : (backTo pos (starEach es X.env)).any (·.1) = false := by rfl) :
    PE X (.Call fe (e :: es) [] pos) (tCallC C sp E tf t) := by
  obtain ⟨f, fd, F, g, b⟩ := D.ex
  refine ⟨fun pins s σ H Q I h => ?_⟩
  refine Call_ (thn (hf.run pins s σ H _ I h) fun u s1 ⟨y, H1, I1, ry, a, ey, q⟩ => ?_) ht
  subst ey
  obtain rfl : u = Value.ref a := ry
  refine StX.callO_with (thn (ha.run pos pins s1 σ H1 _ I1 q) fun us s2 ⟨vs, H2, I2, r, hi, q2⟩ => ?_) he hpl
  obtain ⟨ox, od, J, hd⟩ := StX.insC_at I2 (.inr hi)
  refine ⟨⟨C, ox, od, J, hd⟩, StX.run_callO (sp := fun vs H Q E => sp (vs ++ []) H Q E) ⟨g.at_, g.fn, fi f g.at_⟩ (F.raw b .nil) hr hx I2 (.inr hi) r ?_⟩
  rw [List.append_nil]
  exact q2
/-- x == y, x an instance of C with an own __eq__ -/
theorem op_eqO {k : Nat} {ps : List Str} {sp : Sp} {E : XK} (D : MDef X.prog X.w X.K X.mg X.base k C "__eq__" ps sp) (hr : Room k X.A) (hu : X.A.units < cLine) (hx : Passes (L2.CX X.prog X.w) X E) : OpR X (compareOp .Eq) (rEqO X.K C sp E) := by
  intro pins s σ H x y v u Q I rx ry h
  obtain ⟨f, fd, F, g, b⟩ := D.ex
  obtain ⟨a, dx, fs, ty, rfl, ha, hty, hn, hsp⟩ := h
  cases (show v = Value.ref a from rx)
  obtain ⟨mA, J, _⟩ := ins_get I.hok ha
  obtain ⟨od, J, _⟩ := J.look
  obtain ⟨m, hF⟩ := I.fr
  obtain ⟨P, Z, hp, _⟩ := kit_of I ry hty
  show wpAny (model X.prog X.w) X.A (richCompare .Eq (.ref a) u) (EP X pins σ Q) X.xe s
  refine PySem.W.cmp_K (op := .Eq) (tb := ty) hu hF I.ok.mod.kin J (Z.ty _ s.heap I.kIn hp) hn g.at_ g.fn ?_
  have hl := F.len _ _ _ _ hsp
  refine wpAny_mono (run_fn (dvs := []) (ds := []) (us := [.ref a, u]) (vs := [.ref a, y]) F hr b .nil hx I (.cons rfl (.cons ry .nil)) hsp) (fun r s' q => ?_) fun _ _ z => z
  obtain ⟨z, H', I', rz, ⟨bb, rfl⟩, q⟩ := q
  cases (show r = Value.bool bb from rz)
  exact ⟨.bl bb, H', I', rfl, q⟩
end
section
variable {σ : St} {H : Hp} {Q : VK} {C p : Addr} {ta tv : TE} {t : TA} {f m : Str} {v : V} {nx : St → Hp → Prop} {rt : VK} {bk ct : St → Hp → Prop} {sp : Sp} {E : XK}
theorem rd_fldC (h : ta σ H fun x H1 => ∃ a dx fs v, x = .ref a ∧ H1 a = some (.ins C dx fs) ∧ fs.lookup f = some v ∧ Q v H1) : tFldC C ta f σ H Q := h
instance st_fldC  : Stp (tFldC C ta f σ H Q) (ta σ H fun x H1 => ∃ a dx fs v, x = .ref a ∧ H1 a = some (.ins C dx fs) ∧ fs.lookup f = some v ∧ Q v H1) := ⟨fun h => rd_fldC h⟩
theorem rd_fld1 {dx : Addr} {fs : List (Str × V)} {S : V → Prop} (h : H p = some (.ins C dx fs)) (l : fs.lookup f = some v) (q : S v) : ∃ a dx fs v, V.ref p = .ref a ∧ H a = some (.ins C dx fs) ∧ fs.lookup f = some v ∧ S v := ⟨p, dx, fs, v, rfl, h, l, q⟩
theorem rd_sfldC (h : tv σ H fun y H1 => ta σ H1 fun x H2 => ∃ a dx fs, x = .ref a ∧ H2 a = some (.ins C dx fs) ∧ fs.length < 1000 ∧ nx σ (upd H2 a (.ins C dx (putF f y fs)))) : sFldC C ta tv f ⟨nx, rt, bk, ct⟩ σ H := h
instance st_sfldC  : Stp (sFldC C ta tv f ⟨nx, rt, bk, ct⟩ σ H) (tv σ H fun y H1 => ta σ H1 fun x H2 => ∃ a dx fs, x = .ref a ∧ H2 a = some (.ins C dx fs) ∧ fs.length < 1000 ∧ nx σ (upd H2 a (.ins C dx (putF f y fs)))) := ⟨fun h => rd_sfldC h⟩
theorem rd_sfld1 {dx : Addr} {fs : List (Str × V)} {S : Addr → Addr → List (Str × V) → Prop} (h : H p = some (.ins C dx fs)) (l : fs.length < 1000) (q : S p dx fs) : ∃ a dx fs, V.ref p = .ref a ∧ H a = some (.ins C dx fs) ∧ fs.length < 1000 ∧ S a dx fs := ⟨p, dx, fs, rfl, h, l, q⟩
theorem rd_meth (h : ta σ H fun x H1 => ∃ a dx fs, x = .ref a ∧ H1 a = some (.ins C dx fs) ∧ fs.lookup m = none ∧ t σ H1 fun vs H2 => sp (x :: vs) H2 Q E) : tMeth C m sp [] E ta t σ H Q := by
  show ta σ H fun x H1 => ∃ a dx fs, x = .ref a ∧ H1 a = some (.ins C dx fs) ∧ fs.lookup m = none ∧ t σ H1 fun vs H2 => sp (x :: (vs ++ [])) H2 Q E
  simp only [List.append_nil]
  exact h
instance st_meth  : Stp (tMeth C m sp [] E ta t σ H Q) (ta σ H fun x H1 => ∃ a dx fs, x = .ref a ∧ H1 a = some (.ins C dx fs) ∧ fs.lookup m = none ∧ t σ H1 fun vs H2 => sp (x :: vs) H2 Q E) := ⟨fun h => rd_meth h⟩
theorem rd_meth1 {dx : Addr} {fs : List (Str × V)} {S : Prop} (h : H p = some (.ins C dx fs)) (l : fs.lookup m = none) (q : S) : ∃ a dx fs, V.ref p = .ref a ∧ H a = some (.ins C dx fs) ∧ fs.lookup m = none ∧ S := ⟨p, dx, fs, rfl, h, l, q⟩
theorem rd_make (h : t σ H fun vs H1 => ∀ x dx, H1 x = none → H1 dx = none → dx ≠ x → sp (.ref x :: vs) (upd (upd H1 dx (.own x)) x (.ins C dx [])) (fun v H2 => v = .non ∧ Q (.ref x) H2) E) : tMake C sp [] E t σ H Q := by
  show t σ H fun vs H1 => ∀ x dx, H1 x = none → H1 dx = none → dx ≠ x → sp (.ref x :: (vs ++ [])) (upd (upd H1 dx (.own x)) x (.ins C dx [])) (fun v H2 => v = .non ∧ Q (.ref x) H2) E
  simp only [List.append_nil]
  exact h
instance st_make  : Stp (tMake C sp [] E t σ H Q) (t σ H fun vs H1 => ∀ x dx, H1 x = none → H1 dx = none → dx ≠ x → sp (.ref x :: vs) (upd (upd H1 dx (.own x)) x (.ins C dx [])) (fun v H2 => v = .non ∧ Q (.ref x) H2) E) := ⟨fun h => rd_make h⟩
theorem rd_callC (h : ta σ H fun y H1 => ∃ a, y = V.ref a ∧ t σ H1 fun vs H2 => (∃ dx fs, H2 a = some (.ins C dx fs)) ∧ sp (V.ref a :: vs) H2 Q E) : tCallC C sp E ta t σ H Q := h
instance st_callC : Stp (tCallC C sp E ta t σ H Q) (ta σ H fun y H1 => ∃ a, y = V.ref a ∧ t σ H1 fun vs H2 => (∃ dx fs, H2 a = some (.ins C dx fs)) ∧ sp (V.ref a :: vs) H2 Q E) := ⟨fun h => rd_callC h⟩
theorem rd_callO1 {S : Addr → Prop} (q : S p) : ∃ a, V.ref p = V.ref a ∧ S a := ⟨p, rfl, q⟩
instance st_callO1 {S : Addr → Prop} : Stp (∃ a, V.ref p = V.ref a ∧ S a) (S p) := ⟨fun q => rd_callO1 q⟩
theorem rd_callO2 {dx : Addr} {fs : List (Str × V)} {S : Prop} (h : H p = some (.ins C dx fs)) (q : S) : (∃ dx fs, H p = some (.ins C dx fs)) ∧ S := ⟨⟨dx, fs, h⟩, q⟩
theorem rd_isB {a b : Bool} (q : Q (.bl (decide (a = b))) H) : rIsB (.bl a) (.bl b) H Q := ⟨a, b, rfl, rfl, q⟩
instance st_isB {a b : Bool} : Stp (rIsB (.bl a) (.bl b) H Q) (Q (.bl (decide (a = b))) H) := ⟨fun h => rd_isB h⟩
theorem rd_notB {a b : Bool} (q : Q (.bl (!decide (a = b))) H) : rNotB (.bl a) (.bl b) H Q := ⟨a, b, rfl, rfl, q⟩
instance st_notB {a b : Bool} : Stp (rNotB (.bl a) (.bl b) H Q) (Q (.bl (!decide (a = b))) H) := ⟨fun h => rd_notB h⟩
theorem rd_isNone {x : V} (q : Q (.bl (decide (x = .non))) H) : (V.non = V.non) ∧ Q (.bl (decide (x = .non))) H := ⟨rfl, q⟩
instance st_isNone {x : V} : Stp ((V.non = V.non) ∧ Q (.bl (decide (x = .non))) H) (Q (.bl (decide (x = .non))) H) := ⟨fun h => rd_isNone h⟩
end
theorem kit_self {K : PySem.W.Frag} {C : Addr} : PySem.W.kitOne K (.ref C) (.ref C) = some true := if_pos (by simp)
theorem sub_list {K : PySem.W.Frag} {C : Addr} : PySem.W.subIn K (.type "list") (.ref C) = some false := rfl
theorem kit_list {K : PySem.W.Frag} {C : Addr} (h1 : PySem.W.isClsIn K C = true) (h2 : PySem.W.typeIn K (.ref C) = some (.type "type")) : PySem.W.kitOne K (.type "list") (.ref C) = some false := by
  have e : ((PySem.W.clsIn K C).isSome && PySem.W.typeIn K (.ref C) == some (.type "type")) = true := by
    have h1' : (PySem.W.clsIn K C).isSome = true := h1
    rw [h1', h2] <;> rfl
  show (if (Value.type "list" == Value.ref C) = true then some true else if ((PySem.W.clsIn K C).isSome && PySem.W.typeIn K (.ref C) == some (.type "type")) = true then PySem.W.subIn K (.type "list") (.ref C) else none) = some false
  rw [if_neg (by intro z; cases z), if_pos e]
  exact sub_list
theorem notFirst_list {K : PySem.W.Frag} {C : Addr} : PySem.W.notFirst K C (.type "list") = true := by
  unfold PySem.W.notFirst
  rw [sub_list]
  rfl
end L2
namespace L2
open PySem PySem.Spec PyProof.Rows
/-! ### data without bools: what == tells is equality -/
mutual
def okD : PyData → Nat → Bool
  | .none, _ => true
  | .int _, _ => true
  | .str s, _ => PyData.strOk s
  | .list xs, n => decide (0 < n) && okDs xs (n - 1)
  | .tuple xs, n => decide (0 < n) && okDs xs (n - 1)
  | .bool _, _ => false
  | .dict _, _ => false
def okDs : List PyData → Nat → Bool
  | [], _ => true
  | x :: xs, n => okD x n && okDs xs n
end
mutual
theorem okD_lay : ∀ (d : PyData) (n : Nat), okD d n = true → d.canLay0 = true ∧ d.depth ≤ n
  | .none, _, _ => ⟨rfl, by simp [PyData.depth]⟩
  | .int _, _, _ => ⟨rfl, by simp [PyData.depth]⟩
  | .str s, _, h => ⟨by simpa [okD, PyData.canLay0] using h, by simp [PyData.depth]⟩
  | .list xs, n, h => by
    simp only [okD, Bool.and_eq_true, decide_eq_true_eq] at h
    obtain ⟨a, b⟩ := okDs_lay xs (n - 1) h.2
    refine ⟨by rw [PyData.canLay0]; exact a, ?_⟩
    simp only [PyData.depth]
    omega
  | .tuple xs, n, h => by
    simp only [okD, Bool.and_eq_true, decide_eq_true_eq] at h
    obtain ⟨a, b⟩ := okDs_lay xs (n - 1) h.2
    refine ⟨by rw [PyData.canLay0]; exact a, ?_⟩
    simp only [PyData.depth]
    omega
  | .bool _, _, h => by simp [okD] at h
  | .dict _, _, h => by simp [okD] at h
theorem okDs_lay : ∀ (ds : List PyData) (n : Nat), okDs ds n = true → PyData.canLayAll0 ds = true ∧ PyData.depthAll ds ≤ n
  | [], _, _ => ⟨rfl, Nat.zero_le _⟩
  | d :: ds, n, h => by
    simp only [okDs, Bool.and_eq_true] at h
    obtain ⟨a, b⟩ := okD_lay d n h.1
    obtain ⟨c, e⟩ := okDs_lay ds n h.2
    simp only [PyData.canLayAll0, PyData.depthAll]
    exact ⟨by rw [a, c]; rfl, Nat.max_le.mpr ⟨b, e⟩⟩
end
theorem okD_shaped {d : PyData} (h : okD d 60 = true) : SeqAt.shaped d = true := by
  obtain ⟨a, b⟩ := okD_lay d 60 h
  unfold SeqAt.shaped
  rw [a, Bool.true_and, decide_eq_true_eq]
  omega
mutual
theorem okD_eqv : ∀ (d e : PyData) (n m : Nat), okD d n = true → okD e m = true → (PyData.eqv d e = true ↔ d = e)
  | .none, e, _, _, _, h => by cases e <;> simp [PyData.eqv, okD] at h ⊢
  | .int i, e, _, _, _, h => by cases e <;> simp [PyData.eqv, okD] at h ⊢
  | .str s, e, _, _, _, h => by cases e <;> simp [PyData.eqv, okD] at h ⊢
  | .list xs, e, n, m, h1, h => by
    cases e with
    | list ys =>
      simp only [okD, Bool.and_eq_true, decide_eq_true_eq] at h1 h
      rw [PyData.eqv, okDs_eqv xs ys _ _ h1.2 h.2]
      simp
    | _ => simp [PyData.eqv, okD] at h ⊢
  | .tuple xs, e, n, m, h1, h => by
    cases e with
    | tuple ys =>
      simp only [okD, Bool.and_eq_true, decide_eq_true_eq] at h1 h
      rw [PyData.eqv, okDs_eqv xs ys _ _ h1.2 h.2]
      simp
    | _ => simp [PyData.eqv, okD] at h ⊢
  | .bool _, _, _, _, h1, _ => by simp [okD] at h1
  | .dict _, _, _, _, h1, _ => by simp [okD] at h1
theorem okDs_eqv : ∀ (ds es : List PyData) (n m : Nat), okDs ds n = true → okDs es m = true → (PyData.eqvAll ds es = true ↔ ds = es)
  | [], es, _, _, _, _ => by cases es <;> simp [PyData.eqvAll]
  | d :: ds, es, n, m, h1, h2 => by
    cases es with
    | nil => simp [PyData.eqvAll]
    | cons e es =>
      simp only [okDs, Bool.and_eq_true] at h1 h2
      rw [PyData.eqvAll, Bool.and_eq_true, okD_eqv d e n m h1.1 h2.1, okDs_eqv ds es n m h1.2 h2.2]
      simp
end
theorem okD_dec {d e : PyData} [Decidable (d = e)] (h1 : okD d 60 = true) (h2 : okD e 60 = true) : PyData.eqv d e = decide (d = e) := by
  rw [Bool.eq_iff_iff, okD_eqv d e 60 60 h1 h2, decide_eq_true_iff]
theorem okDs_map {α : Type} {f : α → PyData} {n : Nat} : ∀ {l : List α}, (∀ x ∈ l, okD (f x) n = true) → okDs (l.map f) n = true
  | [], _ => rfl
  | x :: l, h => by
    rw [List.map_cons, okDs, h x (List.mem_cons_self ..), okDs_map fun y hy => h y (List.mem_cons_of_mem _ hy)]
    rfl
open Classical in
noncomputable instance decD (d e : PyData) : Decidable (d = e) := Classical.propDecidable _
section
variable {K : PySem.W.Frag} {H H' : Hp} {Q : VK} {x y : V} {d e : PyData}
theorem rd_eqP {p : Prop} [Decidable p] (h1 : Dp K H x d) (h2 : Dp K H y e) (o1 : okD d 60 = true) (o2 : okD e 60 = true) (hp : d = e ↔ p) (q : Q (.bl (decide p)) H) : rEqD K x y H Q :=
  ⟨d, e, h1, h2, okD_shaped o1, okD_shaped o2, by rw [okD_dec o1 o2, decide_eq_decide.mpr hp]; exact q⟩
theorem Same.seqT {K : PySem.W.Frag} {H H' : Hp} {a : Addr} {xs : List V} (e : Same H H') (h : SqT K H a xs) : SqT K H' a xs := by
  rcases h with (h | ⟨o, h⟩) | h
  · exact .inl (.inl (e _ _ h))
  · exact .inl (.inr ⟨o, e _ _ h⟩)
  · exact .inr h
mutual
theorem Dp.same (s : Same H H') : ∀ {v : V} {d : PyData}, Dp K H v d → Dp K H' v d
  | _, _, .non => .non
  | _, _, .bl b => .bl b
  | _, _, .int i => .int i
  | _, _, .str x => .str x
  | _, _, .lst h a => .lst (s.seq h) (DpAll.same s a)
  | _, _, .tup h a => .tup (Same.seqT s h) (DpAll.same s a)
theorem DpAll.same (s : Same H H') : ∀ {vs : List V} {ds : List PyData}, DpAll K H vs ds → DpAll K H' vs ds
  | _, _, .nil => .nil
  | _, _, .cons h a => .cons (Dp.same s h) (DpAll.same s a)
end
theorem DpAll.len : ∀ {vs : List V} {ds : List PyData}, DpAll K H vs ds → vs.length = ds.length
  | _, _, .nil => rfl
  | _, _, .cons _ a => by rw [List.length_cons, List.length_cons, DpAll.len a]
theorem DpAll.at : ∀ {vs : List V} {ds : List PyData} {i : Nat} {v : V}, DpAll K H vs ds → vs[i]? = some v → ∃ d, ds[i]? = some d ∧ Dp K H v d
  | _, _, i, _, .nil, e => by cases e
  | _, _, 0, _, .cons (d := d) h _, e => ⟨d, rfl, by cases e; exact h⟩
  | _, _, i + 1, _, .cons _ a, e => DpAll.at (i := i) a e
theorem DpAll.snoc : ∀ {vs : List V} {ds : List PyData} {v : V} {d : PyData}, DpAll K H vs ds → Dp K H v d → DpAll K H (vs ++ [v]) (ds ++ [d])
  | _, _, _, _, .nil, h => .cons h .nil
  | _, _, _, _, .cons a r, h => .cons a (DpAll.snoc r h)
end
/-! ### loops that leave the heap -/
section
variable {σ : St} {H : Hp} {K : PySem.W.Frag} {t : TS} {nx : St → Hp → Prop} {rt : VK}
theorem rd_forRs {lo : Int} {n : Nat} {g : TG} (Pv : Nat → St → Prop) (h0 : Pv 0 σ)
    (hs : ∀ i σ, i < n → Pv i σ → g (.int (lo + i)) σ H fun σ2 H2 => t ⟨fun σ' H' => H = H' ∧ Pv (i + 1) σ', rt, nx, fun σ' H' => H = H' ∧ Pv (i + 1) σ'⟩ σ2 H2) (hd : ∀ σ, Pv n σ → nx σ H) : fBody (Itr lo n) g t nx rt σ H :=
  rd_forR (fun i σ' H' => H = H' ∧ Pv i σ') ⟨rfl, h0⟩ (fun i σ' H' hi p => by obtain ⟨rfl, p⟩ := p; exact hs i σ' hi p) fun σ' H' p => by obtain ⟨rfl, p⟩ := p; exact hd σ' p
end
section
theorem rd_eqF {p A B : Prop} [Decidable p] (h : ¬ p) (q : B) : if decide p = true then A else B := by
  rw [decide_eq_false h]
  exact q
theorem rd_neT {p A B : Prop} [Decidable p] (h : ¬ p) (q : A) : if (!decide p) = true then A else B := by
  rw [decide_eq_false h]
  exact q
end
instance st_non {P : Prop} : Stp (V.non = V.non ∧ P) P := ⟨fun h => ⟨rfl, h⟩⟩
theorem non_int {k : Int} : ¬ V.int k = V.non := fun z => V.noConfusion z
theorem non_ref {k : Addr} : ¬ V.ref k = V.non := fun z => V.noConfusion z
theorem upd_at {H : Hp} {p q : Addr} {o u : HO} (h : H p = some o) (n : H p = some o → p ≠ q) : upd H q u p = some o := (upd_ne (n h)).trans h
end L2
namespace L2
open PySem PySem.Spec PyProof.Rows
/-! ### sizes of whole numbers, by bits -/
structure Bd (n : Nat) (x : Int) : Prop where
  h : x.natAbs < 2 ^ n
theorem Bd.mono {n m : Nat} {x : Int} (h : Bd n x) (hm : n ≤ m) : Bd m x := ⟨Nat.lt_of_lt_of_le h.h (Nat.pow_le_pow_right (by decide) hm)⟩
theorem Bd.mul {n m : Nat} {x y : Int} (h : Bd n x) (k : Bd m y) : Bd (n + m) (x * y) := ⟨wide_lt h.h k.h⟩
theorem Bd.neg {n : Nat} {x : Int} (h : Bd n x) : Bd n (-x) := ⟨by
  rw [Int.natAbs_neg]
  exact h.h⟩
theorem Bd.add {n m : Nat} {x y : Int} (h : Bd n x) (k : Bd m y) : Bd (max n m + 1) (x + y) := ⟨by
  have a := (Bd.mono h (Nat.le_max_left n m)).h
  have b := (Bd.mono k (Nat.le_max_right n m)).h
  have := Int.natAbs_add_le x y
  rw [Nat.pow_succ]
  omega⟩
theorem Bd.sub {n m : Nat} {x y : Int} (h : Bd n x) (k : Bd m y) : Bd (max n m + 1) (x - y) := by
  rw [Int.sub_eq_add_neg]
  exact Bd.add h k.neg
theorem Bd.lt {n : Nat} {x : Int} (h : Bd n x) : -(2 ^ n) < x ∧ x < 2 ^ n := by
  have e : ((2 ^ n : Nat) : Int) = 2 ^ n := by rw [Int.natCast_pow]; rfl
  have := h.h
  omega
theorem Bd.of {n : Nat} {x : Int} (h : -(2 ^ n) < x) (k : x < 2 ^ n) : Bd n x := ⟨by
  have e : ((2 ^ n : Nat) : Int) = 2 ^ n := by rw [Int.natCast_pow]; rfl
  omega⟩
theorem Bd.le {n : Nat} {x y : Int} (h : Bd n y) (h1 : x.natAbs ≤ y.natAbs) : Bd n x := ⟨Nat.lt_of_le_of_lt h1 h.h⟩
theorem Bd.div {n : Nat} {x y : Int} (h : Bd n x) (hy : 0 < y) : Bd (n + 1) (x / y) := by
  have l := h.lt
  have p0 : (0 : Int) < 2 ^ n := Int.pow_pos (by decide)
  have e := Int.mul_ediv_add_emod x y
  have r0 := Int.emod_nonneg x (show y ≠ 0 by omega)
  have r1 := Int.emod_lt_of_pos x hy
  refine Bd.of ?_ ?_
  · rw [Int.pow_succ]
    have : -(2 ^ n) ≤ x / y := by
      refine Int.le_ediv_of_mul_le hy ?_
      have : (2 : Int) ^ n * 1 ≤ 2 ^ n * y := Int.mul_le_mul_of_nonneg_left (by omega) (by omega)
      rw [Int.neg_mul]
      omega
    omega
  · rw [Int.pow_succ]
    by_cases hx : 0 ≤ x
    · have := Int.ediv_le_self y hx
      omega
    · have := Int.ediv_neg_of_neg_of_pos (show x < 0 by omega) hy
      omega
theorem Bd.lit {x : Int} {n : Nat} (h : x.natAbs < 2 ^ 64) (hn : 64 ≤ n) : Bd n x := Bd.mono ⟨h⟩ hn
theorem Bd.mulN {n : Nat} {x y : Int} (h : Bd (n / 2) x) (k : Bd (n / 2) y) : Bd n (x * y) := (h.mul k).mono (by omega)
theorem Bd.addN {n : Nat} {x y : Int} (h : Bd (n - 1) x) (k : Bd (n - 1) y) (hn : 0 < n) : Bd n (x + y) := (h.add k).mono (by omega)
theorem Bd.subN {n : Nat} {x y : Int} (h : Bd (n - 1) x) (k : Bd (n - 1) y) (hn : 0 < n) : Bd n (x - y) := (h.sub k).mono (by omega)
theorem CMulB.bd {x y : Int} (h : Bd 9000 x) (k : Bd 9000 y) : CMulB x y := .inr (wide_mul h.h k.h (by decide) (by decide) (by decide))
end L2
namespace L2
open PySem PySem.Spec PyProof.Rows
/-! ### texts of whole numbers, str(o) of an own __str__ -/
def txI (i : Int) : Str := Str.ofString (toString i)
theorem txI_len {i : Int} {n : Nat} (h : Bd n i) (hn : n ≤ 1000) : (txI i).length ≤ 1001 ∧ i.natAbs.log2 < 1000 := by
  have l : i.natAbs.log2 < 1000 := PySem.Flt.log2_lt_of (by decide) (h.mono hn).h
  have e := int_text_length_le (k := 1000) (by decide) l
  unfold txI
  rw [PySem.ofString_length]
  exact ⟨e, l⟩
def rStrI : List V → Hp → VK → Prop := fun xs H Q => ∃ i, xs = [.int i] ∧ i.natAbs.log2 < 1920 ∧ Q (.str (txI i)) H
section
variable {σ : St} {H : Hp} {Q : VK} {te : TE} {ts : List TE} {acc : Str} {R : Str → Hp → Prop}
def rFmt (Q : VK) : V → Hp → Prop := fun x H1 => (∃ y : Str, x = .str y ∧ y.length ≤ sizeLine ∧ Q (.str y) H1) ∨ ∃ i : Int, x = .int i ∧ i.natAbs.log2 < 1920 ∧ Q (.str (toString i)) H1
instance st_fmt : Stp (tFmt te σ H Q) (te σ H (rFmt Q)) := ⟨fun h => h⟩
theorem rd_fmtI {i : Int} (h : i.natAbs.log2 < 1920) (q : Q (.str (txI i)) H) : rFmt Q (.int i) H := .inr ⟨i, rfl, h, q⟩
instance st_jsN : Stp (tJs [] acc σ H R) (R acc H) := ⟨fun h => h⟩
def rJs (ts : List TE) (acc : Str) (σ : St) (R : Str → Hp → Prop) : V → Hp → Prop := fun x H1 => ∃ y : Str, x = .str y ∧ (acc ++ y).length ≤ sizeLine ∧ tJs ts (acc ++ y) σ H1 R
instance st_jsC : Stp (tJs (te :: ts) acc σ H R) (te σ H (rJs ts acc σ R)) := ⟨fun h => h⟩
theorem rd_strI {i : Int} (h : i.natAbs.log2 < 1920) (q : Q (.str (txI i)) H) : rStrI [.int i] H Q := ⟨i, rfl, h, q⟩
end
end L2
namespace L2
open PySem PySem.Spec PyProof.Rows
/-! ### walks of other kinds -/
section
variable {σ : St} {H : Hp} {K : PySem.W.Frag} {t : TS} {nx : St → Hp → Prop} {rt : VK} {Q : VK} {tr : TA} {te : TE} {tt : TT} {S : It → Hp → Prop} {J : It} {n : Nat} {G : Hp → Prop} {Y : Nat → Hp → V → Hp → Prop}
def rIRev (K : PySem.W.Frag) (S : It → Hp → Prop) (vs : List V) (H : Hp) : Prop := ∃ (a : Addr) (xs : List V), vs = [.ref a] ∧ SqL K H a xs ∧ S (Itv K a xs.length) H
instance st_iRev : Stp (iRev K tr σ H S) (tr σ H (rIRev K S)) := ⟨fun h => h⟩
theorem rd_iRev1 {a : Addr} {xs : List V} (h : SqL K H a xs) (q : S (Itv K a xs.length) H) : rIRev K S [.ref a] H := ⟨a, xs, rfl, h, q⟩
end
def rRevV (K : PySem.W.Frag) (Q : VK) : V → Hp → Prop := fun x H1 => ∃ a xs, x = .ref a ∧ SqL K H1 a xs ∧ ∀ p, H1 p = none → Q (.ref p) (upd H1 p (.lst xs.reverse))
instance st_revL {K : PySem.W.Frag} {te : TE} {σ : St} {H : Hp} {Q : VK} : Stp (tRevL K te σ H Q) (te σ H (rRevV K Q)) := ⟨fun h => h⟩
theorem rd_revV {K : PySem.W.Frag} {H : Hp} {Q : VK} {a : Addr} {xs : List V} (h : SqL K H a xs) (q : ∀ p, H p = none → Q (.ref p) (upd H p (.lst xs.reverse))) : rRevV K Q (.ref a) H := ⟨a, xs, rfl, h, q⟩
theorem same_upd3 {H H' : Hp} {p : Addr} {o : HO} (h : Same H H') (hp : H' p = none) : Same H (upd H' p o) := same_upd2 h (h.free hp)
section
variable {H : Hp} {Q : VK} {i : Int}
theorem rd_eqNN (q : Q (.bl true) H) : rEq .non .non H Q := ⟨rfl, by simpa using q⟩
instance st_eqNN : Stp (rEq .non .non H Q) (Q (.bl true) H) := ⟨fun h => rd_eqNN h⟩
theorem rd_neNN (q : Q (.bl false) H) : rNe .non .non H Q := ⟨rfl, by simpa using q⟩
instance st_neNN : Stp (rNe .non .non H Q) (Q (.bl false) H) := ⟨fun h => rd_neNN h⟩
theorem rd_eqNI (q : Q (.bl false) H) : rEq .non (.int i) H Q := ⟨rfl, by simpa using q⟩
instance st_eqNI : Stp (rEq .non (.int i) H Q) (Q (.bl false) H) := ⟨fun h => rd_eqNI h⟩
theorem rd_neNI (q : Q (.bl true) H) : rNe .non (.int i) H Q := ⟨rfl, by simpa using q⟩
instance st_neNI : Stp (rNe .non (.int i) H Q) (Q (.bl true) H) := ⟨fun h => rd_neNI h⟩
theorem rd_eqIN (q : Q (.bl false) H) : rEq (.int i) .non H Q := ⟨rfl, by simpa using q⟩
instance st_eqIN : Stp (rEq (.int i) .non H Q) (Q (.bl false) H) := ⟨fun h => rd_eqIN h⟩
theorem rd_neIN (q : Q (.bl true) H) : rNe (.int i) .non H Q := ⟨rfl, by simpa using q⟩
instance st_neIN : Stp (rNe (.int i) .non H Q) (Q (.bl true) H) := ⟨fun h => rd_neIN h⟩
end
end L2
namespace L2
open PySem PySem.Spec PyProof.Rows
/-! ### sets of ints -/
section
variable {X : Cx}
def setNo : Int → Bool := fun _ => false
/-- two ints in braces -/
def tSet2 (w : World) (t1 t2 : TE) : TE := fun σ H Q => ∀ D, H D = none → t1 σ (upd H D (SetO w D setNo 0)) fun x H1 => t2 σ H1 fun y H2 => ∃ i j : Int, x = .int i ∧ y = .int j ∧ H2 D = some (SetO w D setNo 0) ∧
  Q (.ref D) (upd H2 D (SetO w D (fun k => decide (k = i ∨ k = j)) (if i = j then 1 else 2)))
instance st_set2 {w : World} {t1 t2 : TE} {σ : St} {H : Hp} {Q : VK} : Stp (tSet2 w t1 t2 σ H Q) (∀ D, H D = none → t1 σ (upd H D (SetO w D setNo 0)) fun x H1 => t2 σ H1 fun y H2 => ∃ i j : Int, x = .int i ∧ y = .int j ∧ H2 D = some (SetO w D setNo 0) ∧
  Q (.ref D) (upd H2 D (SetO w D (fun k => decide (k = i ∨ k = j)) (if i = j then 1 else 2)))) := ⟨fun h => h⟩
instance st_par3 {i j l : Nat} {ta : TA} {σ : St} {H : Hp} {nx : St → Hp → Prop} {rt : VK} {bk ct : St → Hp → Prop} : Stp (tPar3 i j l ta ⟨nx, rt, bk, ct⟩ σ H) (ta σ H fun vs H1 => ∃ u v w, vs = [u, v, w] ∧ nx (((σ.set i (some u)).set j (some v)).set l (some w)) H1) := ⟨fun h => h⟩
instance st_par3e {u v w : V} {nx : V → V → V → Prop} : Stp (∃ u' v' w', [u, v, w] = [u', v', w'] ∧ nx u' v' w') (nx u v w) := ⟨fun h => ⟨u, v, w, rfl, h⟩⟩
end
end L2
namespace L2
open PySem PySem.Spec PyProof.Rows
section
variable {X : Cx}
/-- a set of whol, made by a comprehension: D the new set, Z what each turn keeps -/
def tScI (w : World) (wi : TI) (g : TG) (tt : TT) (te : TE) (vs : List Nat) : TE := fun σ H Q => wi σ H fun J H1 => ∀ D, H1 D = none → ∃ Z : Nat → Nat → Hp → Prop, (∃ m, Z 0 m (upd H1 D (SetO w D setNo 0))) ∧ ∀ i m G, Z i m G →
  (J.stop i G ∧ Q (.ref D) G) ∨ (J.go i G ∧ ∃ Y : Hp → Prop, (∀ G', Y G' → ∃ l, l < m ∧ Z (i + 1) l G') ∧ ∀ x G', J.yld i G x G' → g x (wipe σ vs) G' fun σ2 G2 => wipe σ2 vs = wipe σ vs ∧ tt σ2 G2 fun b G3 =>
    if b = true then te σ2 G3 fun y G4 => ∃ (c : Int) (S : Int → Bool) (n : Nat), y = .int c ∧ G4 D = some (SetO w D S n) ∧ n + 1 < scanBound ∧ Y (upd G4 D (SetO w D (fun j => S j || decide (j = c)) (if S c = true then n else n + 1))) else Y G3)
end
/-! ### sorted of a set of whol, of any size -/
/-! ### readings -/
section
variable {w : World} {σ : St} {H : Hp} {Q : VK} {K : PySem.W.Frag} {te : TE} {tt : TT}
def inS (l : List Int) : Int → Bool := fun k => decide (k ∈ l)
theorem inS_nil : inS [] = setNo := by
  funext k
  simp [inS, setNo]
theorem inS_snoc {l : List Int} {c : Int} : (fun j => inS l j || decide (j = c)) = inS (l ++ [c]) := by
  funext k
  simp [inS]
def scB (w : World) (J : It) (g : TG) (tt : TT) (te : TE) (vs : List Nat) (σ : St) (Q : VK) (H1 : Hp) : Prop := ∀ D, H1 D = none → ∃ Z : Nat → Nat → Hp → Prop, (∃ m, Z 0 m (upd H1 D (SetO w D setNo 0))) ∧ ∀ i m G, Z i m G →
  (J.stop i G ∧ Q (.ref D) G) ∨ (J.go i G ∧ ∃ Y : Hp → Prop, (∀ G', Y G' → ∃ l, l < m ∧ Z (i + 1) l G') ∧ ∀ x G', J.yld i G x G' → g x (wipe σ vs) G' fun σ2 G2 => wipe σ2 vs = wipe σ vs ∧ tt σ2 G2 fun b G3 =>
    if b = true then te σ2 G3 fun y G4 => ∃ (c : Int) (S : Int → Bool) (n : Nat), y = .int c ∧ G4 D = some (SetO w D S n) ∧ n + 1 < scanBound ∧ Y (upd G4 D (SetO w D (fun j => S j || decide (j = c)) (if S c = true then n else n + 1))) else Y G3)
instance st_scI {wi : TI} {g : TG} {vs : List Nat} : Stp (tScI w wi g tt te vs σ H Q) (wi σ H fun J H1 => scB w J g tt te vs σ Q H1) := ⟨fun h => h⟩
end
end L2
namespace L2
open PySem PySem.Spec PyProof.Rows
/-! ### a set of ints by a comprehension of two clauses -/
section
variable {X : Cx}
/-- the inner clause's own loop, from which Y is reached -/
def sc2_inner (w : World) (D : Addr) (g1 : TG) (tt1 : TT) (te : TE) (vs1 : List Nat) (σ2 : St) (Y : Hp → Prop) (J1 : It) (G4 : Hp) : Prop := ∃ Z1 : Nat → Nat → Hp → Prop, (∃ m, Z1 0 m G4) ∧ ∀ j k G, Z1 j k G →
  (J1.stop j G ∧ Y G) ∨ (J1.go j G ∧ ∃ Y1 : Hp → Prop, (∀ G', Y1 G' → ∃ l, l < k ∧ Z1 (j + 1) l G') ∧ ∀ x G', J1.yld j G x G' → g1 x (wipe σ2 vs1) G' fun σ3 G5 => wipe σ3 vs1 = wipe σ2 vs1 ∧ tt1 σ3 G5 fun b G6 =>
    if b = true then te σ3 G6 fun y G7 => ∃ (c : Int) (S : Int → Bool) (n : Nat), y = .int c ∧ G7 D = some (SetO w D S n) ∧ n + 1 < scanBound ∧ Y1 (upd G7 D (SetO w D (fun j => S j || decide (j = c)) (if S c = true then n else n + 1))) else Y1 G6)
def tScI2 (w : World) (wi : TI) (g : TG) (tt : TT) (wi1 : TI) (g1 : TG) (tt1 : TT) (te : TE) (vs vs1 : List Nat) : TE := fun σ H Q => wi σ H fun J H1 => ∀ D, H1 D = none → ∃ Z : Nat → Nat → Hp → Prop, (∃ m, Z 0 m (upd H1 D (SetO w D setNo 0))) ∧ ∀ i m G, Z i m G →
  (J.stop i G ∧ Q (.ref D) G) ∨ (J.go i G ∧ ∃ Y : Hp → Prop, (∀ G', Y G' → ∃ l, l < m ∧ Z (i + 1) l G') ∧ ∀ x G', J.yld i G x G' → g x (wipe σ vs) G' fun σ2 G2 => wipe σ2 vs = wipe σ vs ∧ tt σ2 G2 fun b G3 =>
    if b = true then wi1 σ2 G3 (sc2_inner w D g1 tt1 te vs1 σ2 Y) else Y G3)
end
end L2
/-! ### a set of ints as what was put in, in order -/
namespace L2
open PySem PySem.Spec PyProof.Rows
def insL (l : List Int) (c : Int) : List Int := if c ∈ l then l else l ++ [c]
def ofL (xs : List Int) : List Int := xs.foldl insL []
theorem ofL_snoc {xs : List Int} {c : Int} : ofL (xs ++ [c]) = insL (ofL xs) c := by
  unfold ofL
  rw [List.foldl_append]
  rfl
section
variable {w : World} {σ : St} {H : Hp} {Q : VK} {K : PySem.W.Frag} {te : TE} {tt : TT}
/-- the heap with the set of what stands in xs at D -/
def SetL (w : World) (H : Hp) (D : Addr) (xs : List Int) : Hp := upd H D (SetO w D (inS (ofL xs)) (ofL xs).length)
theorem SetL.at {D : Addr} {xs : List Int} : SetL w H D xs D = some (SetO w D (inS (ofL xs)) (ofL xs).length) := upd_same
theorem SetL.same {D : Addr} {xs : List Int} (h : H D = none) : Same H (SetL w H D xs) := same_new h
theorem SetL.nt {D : Addr} {xs : List Int} (h : NoT H) : NoT (SetL w H D xs) := NoT.upd h rfl
theorem SetL.nil {D : Addr} : upd H D (SetO w D setNo 0) = SetL w H D [] := by rw [← inS_nil]; rfl
theorem SetL.put {D : Addr} {xs : List Int} {c : Int} : upd (SetL w H D xs) D (SetO w D (fun j => inS (ofL xs) j || decide (j = c)) (if inS (ofL xs) c = true then (ofL xs).length else (ofL xs).length + 1)) = SetL w H D (xs ++ [c]) := by
  unfold SetL
  rw [upd_upd, ofL_snoc, inS_snoc]
  by_cases h : c ∈ ofL xs
  · have e1 : inS (ofL xs) c = true := decide_eq_true h
    have e2 : inS (ofL xs ++ [c]) = inS (ofL xs) := by
      funext k
      refine decide_eq_decide.mpr ?_
      rw [List.mem_append, List.mem_singleton]
      exact ⟨fun z => z.elim id fun e => e ▸ h, .inl⟩
    rw [if_pos e1, e2, show insL (ofL xs) c = ofL xs from if_pos h]
  · have e1 : ¬ inS (ofL xs) c = true := fun z => h (of_decide_eq_true z)
    rw [if_neg e1, show insL (ofL xs) c = ofL xs ++ [c] from if_neg h, List.length_append]
    rfl
/-- two clauses -/
def sc2B (w : World) (J : It) (g : TG) (tt : TT) (wi1 : TI) (g1 : TG) (tt1 : TT) (te : TE) (vs vs1 : List Nat) (σ : St) (Q : VK) (H1 : Hp) : Prop := ∀ D, H1 D = none → ∃ Z : Nat → Nat → Hp → Prop, (∃ m, Z 0 m (upd H1 D (SetO w D setNo 0))) ∧ ∀ i m G, Z i m G →
  (J.stop i G ∧ Q (.ref D) G) ∨ (J.go i G ∧ ∃ Y : Hp → Prop, (∀ G', Y G' → ∃ l, l < m ∧ Z (i + 1) l G') ∧ ∀ x G', J.yld i G x G' → g x (wipe σ vs) G' fun σ2 G2 => wipe σ2 vs = wipe σ vs ∧ tt σ2 G2 fun b G3 =>
    if b = true then wi1 σ2 G3 (sc2_inner w D g1 tt1 te vs1 σ2 Y) else Y G3)
instance st_scI2 {wi wi1 : TI} {g g1 : TG} {tt1 : TT} {vs vs1 : List Nat} : Stp (tScI2 w wi g tt wi1 g1 tt1 te vs vs1 σ H Q) (wi σ H fun J H1 => sc2B w J g tt wi1 g1 tt1 te vs vs1 σ Q H1) := ⟨fun h => h⟩
end
end L2
namespace L2
open PySem PySem.Spec PyProof.Rows
/-! ### list comprehensions over a list of ints -/
end L2
namespace L2
open PySem PySem.Spec PyProof.Rows
/-! ### making and methods within a try -/
section
variable {X : Cx} {k : Nat} {f C : Addr} {fd : FuncData} {ps : List PySem.Str} {sp : Sp} {x m : PySem.Str} {p pos apos : Pos} {e o : Expr} {es : List Expr} {ta : TE} {t : TA} {W : WX}
def tMakeT (C : Addr) (sp : Sp) (E : St → XK) (t : TA) : TE := fun σ H Q => t σ H fun vs H1 => ∀ x dx, H1 x = none → H1 dx = none → dx ≠ x → sp (.ref x :: vs) (upd (upd H1 dx (.own x)) x (.ins C dx [])) (fun v H2 => v = .non ∧ Q (.ref x) H2) (E σ)
instance st_makeS {σ : St} {H : Hp} {Q : VK} {E : St → XK} : Stp (tMakeT C sp E t σ H Q) (t σ H fun vs H1 => ∀ x dx, H1 x = none → H1 dx = none → dx ≠ x → sp (.ref x :: vs) (upd (upd H1 dx (.own x)) x (.ins C dx [])) (fun v H2 => v = .non ∧ Q (.ref x) H2) (E σ)) := ⟨fun h => h⟩
/-- o.m(e, ..) within a try -/
def tMethT (C : Addr) (m : PySem.Str) (sp : Sp) (E : St → XK) (ta : TE) (t : TA) : TE := fun σ H Q => ta σ H fun x H1 => ∃ a dx fs, x = .ref a ∧ H1 a = some (.ins C dx fs) ∧ fs.lookup m = none ∧ t σ H1 fun vs H2 => sp (x :: vs) H2 Q (E σ)
instance st_methT {σ : St} {H : Hp} {Q : VK} {E : St → XK} : Stp (tMethT C m sp E ta t σ H Q) (ta σ H fun x H1 => ∃ a dx fs, x = .ref a ∧ H1 a = some (.ins C dx fs) ∧ fs.lookup m = none ∧ t σ H1 fun vs H2 => sp (x :: vs) H2 Q (E σ)) := ⟨fun h => h⟩
end
end L2
namespace L2
open PySem PySem.Spec PyProof.Rows
section
variable {H : Hp} {Q : VK} {K : PySem.W.Frag} {a : Addr}
theorem rd_sortedI {ns : List Int} (h : SqL K H a (ns.map V.int)) (q : ∀ (ms : List Int) (p : Addr), ms.Perm ns → ms.Pairwise (· ≤ ·) → H p = none → Q (.ref p) (upd H p (.lst (ms.map V.int)))) : rSortedI K [.ref a] H Q := ⟨a, ns, rfl, h, q⟩
end
end L2
namespace L2
open PySem PySem.Spec PyProof.Rows
/-! ### dicts with ints as keys -/
section
variable {σ : St} {H : Hp} {Q : VK} {K : PySem.W.Frag} {v x y : V} {td ty tv : TE} {a : Addr} {i : Int} {kvs : List (Key × V)} {nx : St → Hp → Prop} {rt : VK} {bk ct : St → Hp → Prop}
instance st_dnewK : Stp (tDNewK σ H Q) (∀ p, H p = none → Q (.ref p) (upd H p (.dK []))) := ⟨fun h => h⟩
def rDGetV (Q : VK) : V → V → Hp → Prop := fun x y H => ∃ a v, x = .ref a ∧ DGet H a y (some v) ∧ Q v H
def rDInV (Q : VK) : V → V → Hp → Prop := fun x y H => ∃ a o, x = .ref a ∧ DGet H a y o ∧ Q (.bl o.isSome) H
def rDNinV (Q : VK) : V → V → Hp → Prop := fun x y H => ∃ a o, x = .ref a ∧ DGet H a y o ∧ Q (.bl (!o.isSome)) H
def rDPutV (S : Hp → Prop) : V → V → V → Hp → Prop := fun x y v H => ∃ a H4, x = .ref a ∧ DPut H a y v H4 ∧ S H4
instance st_dget : Stp (tDGet td ty σ H Q) (td σ H fun x H1 => ty σ H1 fun y H2 => rDGetV Q x y H2) := ⟨fun h => h⟩
instance st_din : Stp (tDIn ty td σ H Q) (ty σ H fun y H1 => td σ H1 fun x H2 => rDInV Q x y H2) := ⟨fun h => h⟩
instance st_dnotin : Stp (tDNotIn ty td σ H Q) (ty σ H fun y H1 => td σ H1 fun x H2 => rDNinV Q x y H2) := ⟨fun h => h⟩
instance st_dput : Stp (sDPut td ty tv ⟨nx, rt, bk, ct⟩ σ H) (tv σ H fun v H1 => td σ H1 fun x H2 => ty σ H2 fun y H3 => rDPutV (nx σ) x y v H3) := ⟨fun h => h⟩
theorem rd_din1 {b : Bool} (h : H a = some (.dK kvs)) (hb : (valV kvs (.inl i)).isSome = b) (q : Q (.bl b) H) : rDInV Q (.ref a) (.int i) H := ⟨a, _, rfl, DGet.k (k := .inl i) h, by rw [hb]; exact q⟩
theorem rd_dnotin1 {b : Bool} (h : H a = some (.dK kvs)) (hb : (valV kvs (.inl i)).isSome = b) (q : Q (.bl (!b)) H) : rDNinV Q (.ref a) (.int i) H := ⟨a, _, rfl, DGet.k (k := .inl i) h, by rw [hb]; exact q⟩
/-! dicts of flags: {k: True for ..}; ks the keys, in order -/
def dFl (ks : List Int) : List (Key × V) := ks.map fun k => (.inl k, .bl true)
abbrev DFl (ks : List Int) : HO := .dK (dFl ks)
theorem dFl_val {i : Int} : ∀ {ks : List Int}, (valV (dFl ks) (.inl i)).isSome = decide (i ∈ ks)
  | [] => by simp [dFl, valV]
  | k :: ks => by
    have ih := dFl_val (i := i) (ks := ks)
    by_cases e : k = i
    · subst e
      have : valV (dFl (k :: ks)) (.inl k) = some (.bl true) := valV_pos (p := ((Sum.inl k : Key), V.bl true)) (r := dFl ks) (k := Sum.inl k) rfl
      rw [this]
      simp
    · have : valV (dFl (k :: ks)) (.inl i) = valV (dFl ks) (.inl i) := valV_neg (p := ((Sum.inl k : Key), V.bl true)) (r := dFl ks) (k := Sum.inl i) fun z => e (Sum.inl.inj z)
      rw [this, ih]
      refine decide_eq_decide.mpr ?_
      rw [List.mem_cons]
      exact ⟨.inr, fun z => z.elim (fun z => absurd z.symm e) id⟩
theorem dFl_keys {ks : List Int} : ((dFl ks).map fun kv => kV kv.1) = ks.map V.int := by
  unfold dFl
  rw [List.map_map]
  rfl
theorem rd_dinF {ks : List Int} (h : H a = some (DFl ks)) (q : Q (.bl (decide (i ∈ ks))) H) : rDInV Q (.ref a) (.int i) H := rd_din1 h dFl_val q
theorem rd_dnotinF {ks : List Int} (h : H a = some (DFl ks)) (q : Q (.bl (!decide (i ∈ ks))) H) : rDNinV Q (.ref a) (.int i) H := rd_dnotin1 h dFl_val q
def rListDo : List V → Hp → VK → Prop := fun xs H Q => ∃ (a : Addr) (kvs : List (Key × V)), xs = [.ref a] ∧ Rd H a (.dK kvs) ∧ ∀ p, H p = none → Q (.ref p) (upd H p (.lst (kvs.map fun kv => kV kv.1)))
theorem rd_listF {ks : List Int} (h : H a = some (DFl ks)) (q : ∀ p, H p = none → Q (.ref p) (upd H p (.lst (ks.map V.int)))) : rListDo [.ref a] H Q := ⟨a, dFl ks, rfl, .inl h, by rw [dFl_keys]; exact q⟩
end
end L2
namespace L2
open PySem PySem.Spec PyProof.Rows
theorem room65 {k : Nat} {A : Around} (r : Room k A) : A.units + 65 < cLine := by
  have := r.un
  omega
end L2
namespace L2
open PySem PySem.Spec PyProof.Rows
/-! ### two roads for one expression -/
/-! ### operators of own classes -/
/-- an own instance's truth -/
def rTruO (C : Addr) (sp : Sp) (E : XK) (R : Bool → Hp → Prop) (x : V) (H : Hp) : Prop := ∃ a dx fs, x = .ref a ∧ H a = some (.ins C dx fs) ∧ sp [.ref a] H (fun v H' => ∃ b, v = .bl b ∧ R b H') E
section
variable {X : Cx} {k : Nat} {C : Addr} {ps : List PySem.Str} {sp : Sp} {E : XK} {m : PySem.Str}
variable {a : Expr} {ta : TE} {pos : Pos}
/-- an instance as a test -/
def tTruO (C : Addr) (sp : Sp) (E : XK) (ta : TE) : TT := fun σ H R => ta σ H (rTruO C sp E R)
/-- not of an instance, as a value -/
def tNotO (C : Addr) (sp : Sp) (E : XK) (ta : TE) : TE := fun σ H Q => ta σ H (rTruO C sp E fun b H' => Q (.bl (!b)) H')
end
section
variable {σ : St} {H : Hp} {Q : VK} {R : Bool → Hp → Prop} {C a b dx dy : Addr} {fs gs : List (PySem.Str × V)} {sp : Sp} {E : XK} {x : V} {ta te : TE} {t u : TE}
instance st_tTruO : Stp (tTruO C sp E ta σ H R) (ta σ H (rTruO C sp E R)) := ⟨fun h => h⟩
instance st_tNotO : Stp (tNotO C sp E ta σ H Q) (ta σ H (rTruO C sp E fun b H' => Q (.bl (!b)) H')) := ⟨fun h => h⟩
end
/-! ### bool(o) -/
/-! ### classmethods -/
structure CMAt (K : PySem.W.Frag) (C : Addr) (m qual : PySem.Str) (st : Stmt) : Prop where
  ex : ∃ (mc : Value) (p g : Addr) (fd : FuncData), ClX.CRead K C mc ∧ ClX.CMet K C mc m p g ∧ Fun K m qual st g fd
structure CMDef (P : Program) (w : World) (K : PySem.W.Frag) (mg : PySem.Str → Option Value) (base : Heap) (k : Nat) (C : Addr) (m : PySem.Str) (sp : Sp) : Prop where
  ex : ∃ (mc : Value) (p g : Addr), ClX.CRead K C mc ∧ ClX.CMet K C mc m p g ∧ FnR P w K mg base (L2.CX P w) k g sp
section
variable {P : Program} {w : World} {K : PySem.W.Frag} {mg : PySem.Str → Option Value} {base : Heap}
theorem CMDef.imp {k : Nat} {C : Addr} {m : PySem.Str} {sp sp' : Sp} (D : CMDef P w K mg base k C m sp) (h : ∀ vs H Q E, sp' vs H Q E → sp vs H Q E) : CMDef P w K mg base k C m sp' := by
  obtain ⟨mc, p, g, a, b, F⟩ := D.ex
  exact ⟨mc, p, g, a, b, F.imp h⟩
theorem FnR.forget {k : Nat} {f : Addr} {sp : Sp} (F : FnR P w K mg base (L2.CX P w) k f sp) : FnR P w K mg base (L2.CX P w) k f (fun vs H Q E => NoT H ∧ sp vs H (fun v H' => Same H H' ∧ Q v H) E) := by
  intro A outer s H us vs Q E hr he r q
  refine codeAny_mono (F A outer s H us vs _ E hr he r q.2) fun res t done => ?_
  cases res with
  | error er => exact done
  | ok fl =>
    cases fl with
    | ret u =>
      obtain ⟨v, H2, os2, bare2, un2, hok2, rv, sm, q2⟩ := done
      exact ⟨v, H, os2, bare2, ⟨un2.keep, un2.slot, fun _ _ _ n _ => n, un2.there, fun _ _ q => q, fun _ _ _ q => q, fun _ ps q => ⟨#[], by rw [q]; simp⟩⟩, hok_back q.1 hok2 he.hok sm, rv, q2⟩
    | next => exact done
    | brk => exact done
    | cont => exact done
theorem CMDef.forget {k : Nat} {C : Addr} {m : PySem.Str} {sp : Sp} (D : CMDef P w K mg base k C m sp) : CMDef P w K mg base k C m (fun vs H Q E => NoT H ∧ sp vs H (fun v H' => Same H H' ∧ Q v H) E) := by
  obtain ⟨mc, p, g, a, b, F⟩ := D.ex
  exact ⟨mc, p, g, a, b, FnR.forget F⟩
/-- a classmethod with plain parameters -/
theorem CMAt.ok {C : Addr} {m qual : PySem.Str} {st : Stmt} {N ps : List PySem.Str} {k : Nat} {sp : Sp} (D : CMAt K C m qual st) (S : FnScope N ps (defScope st)) (len : ∀ vs H Q E, sp vs H Q E → vs.length = ps.length)
    (binds : ∀ (f : Addr) (fd : FuncData), Fun K m qual st f fd → Binds K fd ps [])
    (hbody : ∀ (f : Addr) (cdv : Value) (A : Around) (outer : List Env) (s : Shared) (H : Hp) (vs : List V) (Q : VK) (E : XK), Room k (A.deeper (envOfC qual (defScope st) s.heap.objs.size f cdv)) → sp vs H Q E →
      ∃ t, PSs (cxOf (L2.CX P w) P w K mg base N qual (defScope st) f cdv A outer s H E) (defBody st) t ∧ t ⟨fun _ H' => Q .non H', Q, fun _ _ => False, fun _ _ => False⟩ (start N vs) H) : CMDef P w K mg base (k + 1) C m sp := by
  obtain ⟨mc, p, g, fd, a, b, F⟩ := D.ex
  refine ⟨mc, p, g, a, b, FnR.imp (FnOk.raw (F.okX S len fun cdv A outer s H vs Q E hr h => hbody g cdv A outer s H vs Q E hr h) (binds g fd F) .nil) fun vs H Q E h => ?_⟩
  rw [List.append_nil]
  exact h
end
section
variable {X : Cx} {k : Nat} {C : Addr} {m : PySem.Str} {sp : Sp} {E : XK} {o e : Expr} {es : List Expr} {ta : TE} {t : TA} {pos apos : Pos}
instance st_cm {σ : St} {H : Hp} {Q : VK} : Stp (ClX.tCMeth C sp E ta t σ H Q) (ta σ H fun x H1 => x = .ref C ∧ t σ H1 fun vs H2 => sp (.ref C :: vs) H2 Q E) := ⟨fun h => h⟩
instance st_cm1 {P : Prop} : Stp (V.ref C = V.ref C ∧ P) P := ⟨fun h => ⟨rfl, h⟩⟩
/-- cls(..), the class in a name -/
def tMakeL (C : Addr) (sp : Sp) (E : XK) (tf : TE) (t : TA) : TE := fun σ H Q => tf σ H fun y H1 => y = .ref C ∧ t σ H1 fun vs H2 => ∀ x dx, H2 x = none → H2 dx = none → dx ≠ x → sp (.ref x :: vs) (upd (upd H2 dx (.own x)) x (.ins C dx [])) (fun v H3 => v = .non ∧ Q (.ref x) H3) E
instance st_makeL {σ : St} {H : Hp} {Q : VK} {tf : TE} : Stp (tMakeL C sp E tf t σ H Q) (tf σ H fun y H1 => y = .ref C ∧ t σ H1 fun vs H2 => ∀ x dx, H2 x = none → H2 dx = none → dx ≠ x → sp (.ref x :: vs) (upd (upd H2 dx (.own x)) x (.ins C dx [])) (fun v H3 => v = .non ∧ Q (.ref x) H3) E) := ⟨fun h => h⟩
end
end L2
namespace L2
open PySem PySem.Spec PyProof.Rows
/-! ### bool(t), a tuple -/
end L2
namespace L2
open PySem PySem.Spec PyProof.Rows
/-! ### a def under a second name -/
structure DefAtA (K : PySem.W.Frag) (mg : PySem.Str → Option Value) (y x : PySem.Str) (st : Stmt) (ps : List PySem.Str) : Prop where
  ex : ∃ (f : Addr) (fd : FuncData), Fun K x x st f fd ∧ mg y = some (.ref f) ∧ Binds K fd ps []
theorem DefAtA.ok {P : Program} {w : World} {K : PySem.W.Frag} {mg : PySem.Str → Option Value} {base : Heap} {y x : PySem.Str} {st : Stmt} {N ps : List PySem.Str} {k : Nat} {sp : Sp} (D : DefAtA K mg y x st ps) (S : FnScope N ps (defScope st)) (len : ∀ vs H Q E, sp vs H Q E → vs.length = ps.length)
    (body : ∀ (f : Addr) (cdv : Value) (A : Around) (outer : List Env) (s : Shared) (H : Hp) (vs : List V) (Q : VK) (E : XK), Room k (A.deeper (envOfC x (defScope st) s.heap.objs.size f cdv)) → sp vs H Q E →
      ∃ t, PSs (cxOf (L2.CX P w) P w K mg base N x (defScope st) f cdv A outer s H E) (defBody st) t ∧ t ⟨fun _ H' => Q .non H', Q, fun _ _ => False, fun _ _ => False⟩ (start N vs) H) : Def P w K mg base (k + 1) y ps sp := by
  obtain ⟨f, fd, F, g, b⟩ := D.ex
  exact ⟨f, fd, F.okX S len fun cdv A outer s H vs Q E hr h => body f cdv A outer s H vs Q E hr h, g, F.kp, b⟩
/-! ### {k: v for ..} given to a name -/
/-- {x: True for x in xs}, xs a list or tuple of ints -/
def dcB (J : It) (g : TG) (tt : TT) (tk tv : TE) (vs : List Nat) (σ : St) (Q : VK) (H1 : Hp) : Prop := ∀ D, H1 D = none → ∃ W : Nat → Nat → Hp → Prop, (∃ m, W 0 m (upd H1 D (.dK []))) ∧ ∀ i m H, W i m H →
  (J.stop i H ∧ Q (.ref D) H) ∨ (J.go i H ∧ ∃ Nx : Hp → Prop, (∀ H', Nx H' → ∃ m', m' < m ∧ W (i + 1) m' H') ∧ ∀ x H', J.yld i H x H' → g x (wipe σ vs) H' fun σ2 H2 => wipe σ2 vs = wipe σ vs ∧ tt σ2 H2 fun b H3 =>
    if b = true then tk σ2 H3 fun y H4 => tv σ2 H4 fun z H5 => ∃ kvs k, y = kV k ∧ H5 D = some (.dK kvs) ∧ kvs.length < sizeLine ∧ Nx (upd H5 D (.dK (putK kvs k z))) else Nx H3)
section
variable {σ : St} {H : Hp} {Q : VK} {K : PySem.W.Frag} {tk tv : TE} {tt : TT}
instance st_dc {wi : TI} {g : TG} {vs : List Nat} : Stp (tDc wi g tt tk tv vs σ H Q) (wi σ H fun J H1 => dcB J g tt tk tv vs σ Q H1) := ⟨fun h => h⟩
end
end L2
namespace L2
open PySem PySem.Spec PyProof.Rows
end L2
namespace PySem.W
open PySem PySem.Spec PySem.Calls PyProof.Rows
end PySem.W
namespace L2
open PySem PySem.Spec PyProof.Rows
end L2
namespace L2
open PySem PySem.Spec PyProof.Rows
end L2
namespace L2
open PySem PySem.Spec PyProof.Rows
/-! ### a view of the heap: what is kept of an earlier one, what is ours to change, what stands besides, what no list decides -/
def rigid : HO → Bool
  | .ins _ _ _ => true
  | .tup _ => true
  | _ => false
/-- all that is no list, dict or the like still stands -/
def Keeps (G G' : Hp) : Prop := ∀ b o, rigid o = true → G b = some o → G' b = some o
theorem Keeps.refl (G : Hp) : Keeps G G := fun _ _ _ h => h
theorem Keeps.trans {G G' G'' : Hp} (a : Keeps G G') (b : Keeps G' G'') : Keeps G G'' := fun c o r h => b c o r (a c o r h)
theorem Keeps.of {G G' : Hp} (s : Same G G') : Keeps G G' := fun b o _ h => s b o h
theorem Keeps.put {G : Hp} {x : Addr} {o u : HO} (h : G x = some o) (r : rigid o = false) : Keeps G (upd G x u) := fun b v rv hb => by
  by_cases e : b = x
  · subst e
    rw [h] at hb
    cases hb
    rw [r] at rv
    cases rv
  · rw [upd_ne e]
    exact hb
def Rig (P : Hp → Prop) (G : Hp) : Prop := ∀ G', Keeps G G' → P G'
structure Hv (X : Addr → Prop) (H : Hp) (M L : List (Addr × HO)) (Z : List (Hp → Prop)) (G : Hp) : Prop where
  old : ∀ b o, ¬ X b → H b = some o → G b = some o
  nt : NoT G
  m : ∀ q ∈ M, G q.1 = some q.2 ∧ (X q.1 ∨ H q.1 = none) ∧ rigid q.2 = false
  l : ∀ q ∈ L, G q.1 = some q.2
  nd : M.Pairwise fun q r => q.1 ≠ r.1
  ml : ∀ q ∈ M, ∀ r ∈ L, q.1 ≠ r.1
  z : ∀ P ∈ Z, Rig P G
def noX : Addr → Prop := fun _ => False
/-- nothing but x has changed -/
def But (x : Addr) (H H' : Hp) : Prop := ∀ b o, b ≠ x → H b = some o → H' b = some o
theorem But.of {x : Addr} {H H' : Hp} (h : Same H H') : But x H H' := fun b o _ e => h b o e
theorem But.new {x p : Addr} {H G : Hp} {o : HO} (h : But x H G) (hp : G p = none) : But x H (upd G p o) := fun b o1 n e => upd_keep (h b o1 n e) hp
theorem But.put {x : Addr} {H G : Hp} {o : HO} (h : But x H G) : But x H (upd G x o) := fun b o1 n e => by
  rw [upd_ne n]
  exact h b o1 n e
theorem But.refl {x : Addr} {H : Hp} : But x H H := fun _ _ _ e => e
theorem But.trans {x : Addr} {H G L : Hp} (a : But x H G) (b : But x G L) : But x H L := fun c o n e => b c o n (a c o n e)
theorem But.same {x : Addr} {H G L : Hp} (a : But x H G) (b : Same G L) : But x H L := fun c o n e => b c o (a c o n e)
/-- what stood ahead of x still stands -/
theorem But.old {x : Addr} {H0 H G : Hp} (a : But x H G) (s : Same H0 H) (f : H0 x = none) : Same H0 G := fun c o e => a c o (fun z => by
  rw [z, f] at e
  cases e) (s c o e)
theorem But.fresh {x D : Addr} {H G : Hp} {o : HO} (h : But x H G) (f : H D = none) : But x H (upd G D o) := fun b o1 n e => by
  rw [upd_ne (ne_of_none e f)]
  exact h b o1 n e
section
variable {X : Addr → Prop} {H G G' : Hp} {M L : List (Addr × HO)} {Z : List (Hp → Prop)} {a b D p x y : Addr} {o u v : HO} {P : Hp → Prop} {xs : List V}
theorem Hv.start (nt : NoT H) : Hv noX H [] [] [] H := ⟨fun _ _ _ h => h, nt, fun _ h => absurd h List.not_mem_nil, fun _ h => absurd h List.not_mem_nil, List.Pairwise.nil, fun _ h => absurd h List.not_mem_nil, fun _ h => absurd h List.not_mem_nil⟩
theorem Hv.pool (nt : NoT H) (h : H p = some (.lst xs)) : Hv (· = p) H [(p, .lst xs)] [] [] H := ⟨fun _ _ _ h => h, nt, fun q hq => by
  rw [List.mem_singleton.mp hq]
  exact ⟨h, .inl rfl, rfl⟩, fun _ h => absurd h List.not_mem_nil, List.pairwise_singleton .., fun _ _ _ h => absurd h List.not_mem_nil, fun _ h => absurd h List.not_mem_nil⟩
theorem Hv.same (B : Hv noX H M L Z G) : Same H G := fun b o h => B.old b o id h
theorem Hv.but1 (B : Hv (· = p) H M L Z G) : But p H G := fun b o n h => B.old b o n h
theorem Hv.mAt (B : Hv X H M L Z G) (h : (a, o) ∈ M) : G a = some o := (B.m _ h).1
theorem Hv.lAt (B : Hv X H M L Z G) (h : (a, o) ∈ L) : G a = some o := B.l _ h
theorem Hv.zAt (B : Hv X H M L Z G) (h : P ∈ Z) : P G := B.z P h G (Keeps.refl G)
theorem Hv.oAt (B : Hv noX H M L Z G) (h : H a = some o) : G a = some o := B.old a o id h
theorem Hv.oAtX (B : Hv (· = p) H M L Z G) (h : H a = some o) (n : a ≠ p) : G a = some o := B.old a o n h
theorem Hv.fr (B : Hv noX H M L Z G) (h : (a, o) ∈ M) : H a = none := (B.m _ h).2.1.elim False.elim id
theorem Hv.free (B : Hv noX H M L Z G) (h : G D = none) : H D = none := B.same.free h
theorem Hv.freeX (B : Hv (· = p) H ((p, o) :: M) L Z G) (h : G D = none) : H D = none := by
  have hp := (B.m _ List.mem_cons_self).1
  cases e : H D with
  | none => rfl
  | some u =>
    have n : D ≠ p := fun z => by
      subst z
      rw [h] at hp
      cases hp
    rw [B.old D u n e] at h
    cases h
theorem Hv.away (B : Hv X H M L Z G) (h : G D = none) : ∀ q ∈ M, q.1 ≠ D := fun q hq e => by
  have := (B.m q hq).1
  rw [e, h] at this
  cases this
theorem Hv.next (B : Hv X H M L Z G) (s : Same G G') (n : NoT G') : Hv X H M L Z G' := ⟨fun b o h e => s b o (B.old b o h e), n, fun q hq => ⟨s _ _ (B.m q hq).1, (B.m q hq).2⟩, fun q hq => s _ _ (B.l q hq), B.nd, B.ml, fun P hP G2 k => B.z P hP G2 ((Keeps.of s).trans k)⟩
theorem Hv.newG (B : Hv X H M L Z G) (h : G D = none) (f : X D ∨ H D = none) (r : rigid o = false) (hn : noT o = true) : Hv X H ((D, o) :: M) L Z (upd G D o) := by
  have C := B.next (same_new (o := o) h) (NoT.upd B.nt hn)
  refine ⟨C.old, C.nt, fun q hq => ?_, C.l, List.pairwise_cons.mpr ⟨fun q hq => (B.away h q hq).symm, C.nd⟩, fun q hq q2 h2 => ?_, C.z⟩
  · rcases List.mem_cons.mp hq with e | hq
    · subst e
      exact ⟨upd_same, f, r⟩
    · exact C.m q hq
  · rcases List.mem_cons.mp hq with e | hq
    · subst e
      exact fun e => by
        have := B.l q2 h2
        rw [← e, h] at this
        cases this
    · exact C.ml q hq q2 h2
/-- a new thing, ours -/
theorem Hv.new (B : Hv noX H M L Z G) (h : G D = none) (r : rigid o = false := by rfl) (hn : noT o = true := by rfl) : Hv noX H ((D, o) :: M) L Z (upd G D o) := B.newG h (.inr (B.free h)) r hn
theorem Hv.newX (B : Hv (· = p) H ((p, u) :: M) L Z G) (h : G D = none) (r : rigid o = false := by rfl) (hn : noT o = true := by rfl) : Hv (· = p) H ((p, u) :: (D, o) :: M) L Z (upd G D o) := by
  have C := B.newG (o := o) h (.inr (B.freeX h)) r hn
  refine ⟨C.old, C.nt, fun q hq => C.m q ?_, C.l, ?_, fun q hq => C.ml q ?_, C.z⟩
  · simp only [List.mem_cons] at hq ⊢
    exact hq.elim (fun e => .inr (.inl e)) fun e => e.elim .inl fun e => .inr (.inr e)
  · obtain ⟨h1, h2⟩ := List.pairwise_cons.mp C.nd
    obtain ⟨h3, h4⟩ := List.pairwise_cons.mp h2
    exact List.pairwise_cons.mpr ⟨fun q hq => (List.mem_cons.mp hq).elim (fun e => by rw [e]; exact (h1 _ List.mem_cons_self).symm) (h3 q), List.pairwise_cons.mpr ⟨fun q hq => h1 q (List.mem_cons_of_mem _ hq), h4⟩⟩
  · simp only [List.mem_cons] at hq ⊢
    exact hq.elim (fun e => .inr (.inl e)) fun e => e.elim .inl fun e => .inr (.inr e)
/-- a new thing that stays as it is -/
theorem Hv.newL (B : Hv X H M L Z G) (h : G D = none) (hn : noT o = true := by rfl) : Hv X H M ((D, o) :: L) Z (upd G D o) := by
  have C := B.next (same_new (o := o) h) (NoT.upd B.nt hn)
  refine ⟨C.old, C.nt, C.m, fun q hq => ?_, C.nd, fun q hq q2 h2 => ?_, C.z⟩
  · rcases List.mem_cons.mp hq with e | hq
    · subst e
      exact upd_same
    · exact C.l q hq
  · rcases List.mem_cons.mp h2 with e | h2
    · subst e
      exact B.away h q hq
    · exact C.ml q hq q2 h2
/-- what stands besides -/
theorem Hv.add (B : Hv X H M L Z G) (h : G a = some o) (n : ∀ q ∈ M, q.1 ≠ a) : Hv X H M ((a, o) :: L) Z G := ⟨B.old, B.nt, B.m, fun q hq => (List.mem_cons.mp hq).elim (fun e => by rw [e]; exact h) (B.l q), B.nd, fun q hq q2 h2 => (List.mem_cons.mp h2).elim (fun e => by rw [e]; exact n q hq) (B.ml q hq q2), B.z⟩
/-- what a call has made: at D, free ahead of it -/
theorem Hv.got (B : Hv X H M L Z G) (s : Same G G') (n : NoT G') (f : G D = none) (h : G' D = some o) : Hv X H M ((D, o) :: L) Z G' := (B.next s n).add h (B.away f)
/-- rigid things -/
theorem Hv.rig (B : Hv X H M L Z G) (h : Rig P G) : Hv X H M L (P :: Z) G := ⟨B.old, B.nt, B.m, B.l, B.nd, B.ml, fun Q hQ => (List.mem_cons.mp hQ).elim (fun e => by rw [e]; exact h) (B.z Q)⟩
/-- ours has changed -/
theorem Hv.but (B : Hv X H ((p, o) :: M) L Z G) (b : But p G G') (n : NoT G') (h : G' p = some u) (r : rigid u = false := by rfl) : Hv X H ((p, u) :: M) L Z G' := by
  obtain ⟨h1, h2, h3⟩ := B.m _ List.mem_cons_self
  obtain ⟨n1, n2⟩ := List.pairwise_cons.mp B.nd
  refine ⟨fun c w hc e => ?_, n, fun q hq => ?_, fun q hq => b _ _ (fun e => B.ml _ List.mem_cons_self q hq e.symm) (B.l q hq), List.pairwise_cons.mpr ⟨fun q hq => n1 q hq, n2⟩, fun q hq q2 k2 => ?_, fun P hP G2 k => B.z P hP G2 (Keeps.trans (fun c w rw hc => ?_) k)⟩
  · by_cases e2 : c = p
    · subst e2
      exact (h2.elim hc fun z => by rw [z] at e; cases e).elim
    · exact b c w e2 (B.old c w hc e)
  · rcases List.mem_cons.mp hq with e | hq
    · subst e
      exact ⟨h, h2, r⟩
    · obtain ⟨k1, k2⟩ := B.m q (List.mem_cons_of_mem _ hq)
      exact ⟨b _ _ (fun e => n1 q hq e.symm) k1, k2⟩
  · rcases List.mem_cons.mp hq with e | hq
    · subst e
      exact B.ml _ List.mem_cons_self q2 k2
    · exact B.ml _ (List.mem_cons_of_mem _ hq) q2 k2
  · refine b c w (fun e => ?_) hc
    subst e
    have : some o = some w := h1.symm.trans hc
    cases this
    have h3' : rigid o = false := h3
    rw [h3'] at rw
    cases rw
theorem Hv.put (B : Hv X H ((x, o) :: M) L Z G) (r : rigid u = false := by rfl) (hn : noT u = true := by rfl) : Hv X H ((x, u) :: M) L Z (upd G x u) := B.but (fun b w n e => by rw [upd_ne n]; exact e) (NoT.upd B.nt hn) upd_same r
theorem Hv.perm {M' : List (Addr × HO)} (B : Hv X H M L Z G) (h : ∀ q ∈ M', q ∈ M) (n : M'.Pairwise fun q r => q.1 ≠ r.1) : Hv X H M' L Z G := ⟨B.old, B.nt, fun q hq => B.m q (h q hq), B.l, n, fun q hq => B.ml q (h q hq), B.z⟩
theorem Hv.swap {q r : Addr × HO} (B : Hv X H (q :: r :: M) L Z G) : Hv X H (r :: q :: M) L Z G := by
  obtain ⟨h1, h2⟩ := List.pairwise_cons.mp B.nd
  obtain ⟨h3, h4⟩ := List.pairwise_cons.mp h2
  refine B.perm (fun k hk => ?_) (List.pairwise_cons.mpr ⟨fun k hk => (List.mem_cons.mp hk).elim (fun e => by rw [e]; exact (h1 _ List.mem_cons_self).symm) (h3 k), List.pairwise_cons.mpr ⟨fun k hk => h1 k (List.mem_cons_of_mem _ hk), h4⟩⟩)
  simp only [List.mem_cons] at hk ⊢
  exact hk.elim (fun e => .inr (.inl e)) fun e => e.elim .inl fun e => .inr (.inr e)
/-- the second of ours to the front, the third -/
theorem Hv.put1 {q : Addr × HO} (B : Hv X H (q :: (x, o) :: M) L Z G) (r : rigid u = false := by rfl) (hn : noT u = true := by rfl) : Hv X H (q :: (x, u) :: M) L Z (upd G x u) := (B.swap.put r hn).swap
theorem sub_nil {α : Type _} {L : List α} : ∀ q ∈ ([] : List α), q ∈ L := fun _ h => absurd h List.not_mem_nil
theorem sub_cons {α : Type _} {a : α} {L L' : List α} (h : a ∈ L) (k : ∀ q ∈ L', q ∈ L) : ∀ q ∈ a :: L', q ∈ L := fun q hq => (List.mem_cons.mp hq).elim (fun e => by rw [e]; exact h) (k q)
theorem Hv.sub {L' : List (Addr × HO)} {Z' : List (Hp → Prop)} (B : Hv X H M L Z G) (h : ∀ q ∈ L', q ∈ L) (k : ∀ q ∈ Z', q ∈ Z) : Hv X H M L' Z' G := ⟨B.old, B.nt, B.m, fun q hq => B.l q (h q hq), B.nd, fun q hq r hr => B.ml q hq r (h r hr), fun P hP => B.z P (k P hP)⟩
/-- the heap by a letter -/
@[elab_as_elim] theorem Hv.gen {motive : Hp → Prop} (B : Hv X H M L Z G) (k : ∀ G', Hv X H M L Z G' → motive G') : motive G := k G B
end
/-- tuple(xs) -/
abbrev rTupOf (K : PySem.W.Frag) : List V → Hp → VK → Prop := fun xs H Q => ∃ p ys, xs = [.ref p] ∧ ((SqL K H p ys ∧ ∀ l, H l = none → Q (.ref l) (upd H l (.tup ys))) ∨ (SqT K H p ys ∧ Q (.ref p) H))
theorem call_tupN {X : Cx} : CallR X (.type "tuple") (rTupOf X.K) := call_tuple_of
section
variable {K : PySem.W.Frag} {H : Hp} {p : Addr} {ys : List V} {Q : VK}
theorem rd_tupL (h : SqL K H p ys) (q : ∀ l, H l = none → Q (.ref l) (upd H l (.tup ys))) : rTupOf K [.ref p] H Q := ⟨p, ys, rfl, .inl ⟨h, q⟩⟩
theorem rd_tupT (h : SqT K H p ys) (q : Q (.ref p) H) : rTupOf K [.ref p] H Q := ⟨p, ys, rfl, .inr ⟨h, q⟩⟩
end
end L2
namespace L2
open PySem PySem.Spec PyProof.Rows
section
variable {K : PySem.W.Frag} {σ : St} {H : Hp} {Q : VK} {tt : TT} {te : TE}
/-- a comprehension over a list; each turn makes new things, of which something is known -/
theorem rd_lcPH {a : Addr} {xs : List V} {g : TG} {vs : List Nat} (P : Addr → Nat → List V → Hp → Prop) (hS : SqL K H a xs) (nt : NoT H) (h0 : ∀ D, H D = none → P D 0 [] (upd H D (.lst [])))
    (hs : ∀ D i ys x H', xs[i]? = some x → Same H H' → NoT H' → H D = none → H' D = some (.lst ys) → P D i ys H' → g x (wipe σ vs) H' fun σ2 H2 => wipe σ2 vs = wipe σ vs ∧ tt σ2 H2 fun b H3 =>
      if b = true then te σ2 H3 (fun y H4 => ∃ acc, H4 D = some (.lst acc) ∧ acc.length < sizeLine ∧ ∃ ys, upd H4 D (.lst (acc ++ [y])) D = some (.lst ys) ∧ Same H (upd H4 D (.lst (acc ++ [y]))) ∧ NoT (upd H4 D (.lst (acc ++ [y]))) ∧ P D (i + 1) ys (upd H4 D (.lst (acc ++ [y]))))
      else ∃ ys, H3 D = some (.lst ys) ∧ Same H H3 ∧ NoT H3 ∧ P D (i + 1) ys H3)
    (q : ∀ D ys H', H D = none → H' D = some (.lst ys) → Same H H' → NoT H' → P D xs.length ys H' → Q (.ref D) H') : lcB (Itl K a) g tt te vs σ Q H := by
  intro D hD
  refine lc_it (walk_list (K := K) (a := a) (xs := xs)) (fun i H' => ∃ ys, H' D = some (.lst ys) ∧ Same H H' ∧ NoT H' ∧ P D i ys H') ⟨[], upd_same, same_new hD, NoT.upd nt rfl, h0 D hD⟩ (fun i H' _ ⟨ys, _, s, _⟩ => s.seq hS) ?_ (fun H' ⟨ys, h1, s, n, p⟩ => q D ys H' hD h1 s n p)
  rintro i x H' H'' hi ⟨ys, h1, s, n, p⟩ ⟨rfl, hx⟩
  exact hs D i ys x _ hx s n hD h1 p
theorem put_PH {P : List V → Hp → Prop} {D : Addr} {H H4 : Hp} {acc : List V} {y : V} (h : H4 D = some (.lst acc)) (hl : acc.length < sizeLine) (sm : Same H H4) (hD : H D = none) (n : NoT H4) (p : P (acc ++ [y]) (upd H4 D (.lst (acc ++ [y])))) :
    ∃ acc, H4 D = some (.lst acc) ∧ acc.length < sizeLine ∧ ∃ ys, upd H4 D (.lst (acc ++ [y])) D = some (.lst ys) ∧ Same H (upd H4 D (.lst (acc ++ [y]))) ∧ NoT (upd H4 D (.lst (acc ++ [y]))) ∧ P ys (upd H4 D (.lst (acc ++ [y]))) :=
  ⟨acc, h, hl, _, upd_same, same_upd2 sm hD, NoT.upd n rfl, p⟩
end
end L2
/-! ### defs with a star parameter -/
namespace L2
open PySem PySem.Spec PyProof.Rows
/-- a def by its positional promise -/
structure DefR (P : Program) (w : World) (K : PySem.W.Frag) (mg : PySem.Str → Option Value) (base : Heap) (k : Nat) (x : PySem.Str) (sp : Sp) : Prop where
  ex : ∃ f : Addr, FnR P w K mg base (L2.CX P w) k f sp ∧ mg x = some (.ref f) ∧ PySem.W.keepIn K (.ref f) = true
section
variable {P : Program} {w : World} {K : PySem.W.Frag} {mg : PySem.Str → Option Value} {base : Heap}
theorem DefR.imp {k : Nat} {x : PySem.Str} {sp sp' : Sp} (D : DefR P w K mg base k x sp) (h : ∀ vs H Q E, sp' vs H Q E → sp vs H Q E) : DefR P w K mg base k x sp' := by
  obtain ⟨f, F, a, b⟩ := D.ex
  exact ⟨f, F.imp h, a, b⟩
theorem DefR.forget {k : Nat} {x : PySem.Str} {sp : Sp} (D : DefR P w K mg base k x sp) : DefR P w K mg base k x (fun vs H Q E => NoT H ∧ sp vs H (fun v H' => Same H H' ∧ Q v H) E) := by
  obtain ⟨f, F, a, b⟩ := D.ex
  exact ⟨f, FnR.forget F, a, b⟩
end
/-! ### comprehensions with two fors -/
/-- the inner for -/
def lc2I (J1 : It) (g1 : TG) (tt1 : TT) (te : TE) (vs1 : List Nat) (D : Addr) (Nx : Hp → Prop) (σ2 : St) (H4 : Hp) : Prop := ∃ W1 : Nat → Nat → Hp → Prop, (∃ m, W1 0 m H4) ∧ ∀ j k H, W1 j k H →
      (J1.stop j H ∧ Nx H) ∨ (J1.go j H ∧ ∃ Nx1 : Hp → Prop, (∀ H', Nx1 H' → ∃ k', k' < k ∧ W1 (j + 1) k' H') ∧ ∀ x H', J1.yld j H x H' → g1 x (wipe σ2 vs1) H' fun σ3 H5 => wipe σ3 vs1 = wipe σ2 vs1 ∧ tt1 σ3 H5 fun b H6 =>
        if b = true then te σ3 H6 fun y H7 => ∃ acc, H7 D = some (.lst acc) ∧ acc.length < sizeLine ∧ Nx1 (upd H7 D (.lst (acc ++ [y]))) else Nx1 H6)
def lc2B (J : It) (g : TG) (tt : TT) (wi1 : TI) (g1 : TG) (tt1 : TT) (te : TE) (vs vs1 : List Nat) (σ : St) (Q : VK) (H1 : Hp) : Prop := ∀ D, H1 D = none → ∃ W : Nat → Nat → Hp → Prop, (∃ m, W 0 m (upd H1 D (.lst []))) ∧ ∀ i m H, W i m H →
  (J.stop i H ∧ Q (.ref D) H) ∨ (J.go i H ∧ ∃ Nx : Hp → Prop, (∀ H', Nx H' → ∃ m', m' < m ∧ W (i + 1) m' H') ∧ ∀ x H', J.yld i H x H' → g x (wipe σ vs) H' fun σ2 H2 => wipe σ2 vs = wipe σ vs ∧ tt σ2 H2 fun b H3 =>
    if b = true then wi1 σ2 H3 fun J1 H4 => lc2I J1 g1 tt1 te vs1 D Nx σ2 H4 else Nx H3)
instance st_lc2 {wi : TI} {g : TG} {tt : TT} {wi1 : TI} {g1 : TG} {tt1 : TT} {te : TE} {vs vs1 : List Nat} {σ : St} {H : Hp} {Q : VK} : Stp (tLc2 wi g tt wi1 g1 tt1 te vs vs1 σ H Q) (wi σ H fun J H1 => lc2B J g tt wi1 g1 tt1 te vs vs1 σ Q H1) := ⟨fun h => h⟩
end L2
/-! ### sorted(xs) of lists of ints -/
namespace L2
open PySem PySem.Spec PyProof.Rows
def encZ (b : List Int) : PyData := .list (b.map PyData.int)
/-- addresses and the lists of ints that lie there -/
def EachZ (H : Hp) : List Addr → List (List Int) → Prop
  | [], [] => True
  | a :: as, r :: rs => H a = some (.lst (r.map V.int)) ∧ EachZ H as rs
  | _, _ => False
def sortZ (bs : List (List Int)) : List (List Int) := bs.mergeSort (PySem.W.dataLe false encZ)
def rSortedZ (K : PySem.W.Frag) : List V → Hp → VK → Prop := fun vs H Q => ∃ (a : Addr) (as : List Addr) (bs : List (List Int)), vs = [.ref a] ∧ SqL K H a (as.map V.ref) ∧ EachZ H as bs ∧ (∀ b ∈ bs, b.length ≤ 100) ∧ ∀ (as' : List Addr) p, EachZ H as' (sortZ bs) → (∀ b ∈ as', b ∈ as) → H p = none → Q (.ref p) (upd H p (.lst (as'.map V.ref)))
theorem dpAllI {K : PySem.W.Frag} {H : Hp} : ∀ ns : List Int, DpAll K H (ns.map V.int) (ns.map PyData.int)
  | [] => .nil
  | n :: ns => .cons (.int n) (dpAllI ns)
section
variable {X : Cx}
theorem eachZ_vals {pins : List (Addr × Obj)} {s : Shared} {σ : St} {H : Hp} (I : Inv X pins σ H s) : ∀ {as : List Addr} {bs : List (List Int)}, EachZ H as bs → PySem.W.EachIs (fun v b => ∃ a, v = Value.ref a ∧ a ∈ as ∧ H a = some (.lst (b.map V.int))) (as.map Value.ref) bs ∧ PySem.W.EachIs (fun v b => ∃ ws, Reads s.heap v (encZ b) ws) (as.map Value.ref) bs
  | [], [], _ => ⟨.nil, .nil⟩
  | a :: as, b :: bs, h => by
    obtain ⟨e1, e2⟩ := eachZ_vals I (as := as) (bs := bs) h.2
    refine ⟨.cons ⟨a, rfl, List.mem_cons_self, h.1⟩ (PySem.W.EachIs.mono (fun v b ⟨x, e, m, k⟩ => ⟨x, e, List.mem_cons_of_mem _ m, k⟩) e1), .cons ?_ e2⟩
    exact Dp.reads I (encZ b) (.ref a) (.ref a) (.lst (SqL.of h.1) (dpAllI b)) rfl
  | [], _ :: _, h => h.elim
  | _ :: _, [], h => h.elim
theorem vals_refs : ∀ {as : List Addr} {us : List Value}, Vals (as.map V.ref) us → us = as.map Value.ref
  | [], _, h => by cases h; rfl
  | a :: as, _, h => by
    cases h with
    | cons r t =>
      rename_i u us
      have e : u = Value.ref a := r
      rw [vals_refs t, e]
      rfl
theorem refs_valsZ : ∀ as : List Addr, Vals (as.map V.ref) (as.map Value.ref)
  | [] => .nil
  | _ :: as => .cons rfl (refs_valsZ as)
theorem eachZ_out {H : Hp} {as : List Addr} : ∀ {out : List Value} {bs : List (List Int)}, PySem.W.EachIs (fun v b => ∃ a, v = Value.ref a ∧ a ∈ as ∧ H a = some (.lst (b.map V.int))) out bs → ∃ as', out = as'.map Value.ref ∧ EachZ H as' bs ∧ ∀ b ∈ as', b ∈ as
  | _, _, .nil => ⟨[], rfl, trivial, fun _ h => absurd h List.not_mem_nil⟩
  | _, _, .cons ⟨a, e, m, k⟩ t => by
    obtain ⟨as', e2, z, n⟩ := eachZ_out t
    exact ⟨a :: as', by rw [e, e2]; rfl, ⟨k, z⟩, fun b hb => (List.mem_cons.mp hb).elim (fun q => q ▸ m) (n b)⟩
theorem encZ_depth (b : List Int) : (encZ b).depth ≤ 2 := by
  have go : ∀ ns : List Int, PyData.depthAll (ns.map PyData.int) ≤ 1 := fun ns => by
    induction ns with
    | nil => simp [PyData.depthAll]
    | cons n ns ih => simp only [List.map_cons, PyData.depthAll, PyData.depth]; omega
  have := go b
  simp only [encZ, PyData.depth]
  omega
theorem alikeZ (bs : List (List Int)) : PySem.W.AllAlike (bs.map encZ) := PySem.W.AllAlike.of fun b c => by
  have := PySem.W.alike_ints b c
  simpa [encZ, PySem.W.alike] using this
theorem cr_sortedZ (hu : X.A.units + 65 < cLine) : CallR X (.builtin "sorted") (rSortedZ X.K) := by
  intro pins s σ H vs us Q I r h
  obtain ⟨a, as, bs, rfl, hs, hz, hb, q⟩ := h
  obtain ⟨its, rv, hl, hzz⟩ := I.list hs
  obtain ⟨u, rfl, ru⟩ := vals1 r
  obtain rfl : u = Value.ref a := ru
  have ei := vals_refs rv
  subst ei
  obtain ⟨e1, e2⟩ := eachZ_vals I hz
  have ln := e1.length
  refine PySem.W.sorted_data (R := fun v b => ∃ x, v = Value.ref x ∧ x ∈ as ∧ H x = some (.lst (b.map V.int))) (enc := encZ) (bs := bs) hl.isList e1 e2 (alikeZ bs) (.inr fun d hd => ?_) (by rw [← ln, List.length_map, ← List.length_map (f := V.ref)]; exact hzz) (fun b _ => by have := encZ_depth b; omega) fun out ol eo => ?_
  · obtain ⟨b, _, rfl⟩ := List.mem_map.mp hd
    exact ⟨(fun z => by cases z), fun xs z => by cases z⟩
  · obtain ⟨as', eo', z, mm⟩ := eachZ_out eo
    subst eo'
    obtain ⟨ep, he'⟩ := PyProof.Rows.sortedAll_at s.heap (as.map Value.ref) (as'.map Value.ref).toArray
    refine ⟨.ref _, upd H (s.heap.objs.size + 1) (.lst (as'.map V.ref)), I.laid (t' := s.toks) (fun _ _ => PyProof.Rows.sortedAll_old) (Nat.le_succ _) ⟨?_, as'.map Value.ref, ep, refs_valsZ as', he'⟩, rfl, q as' _ z mm (I.hok.fresh (Nat.le_succ _))⟩
    rw [List.length_map, ← List.length_map (f := Value.ref), ol, ← ln, List.length_map, ← List.length_map (f := V.ref)]
    exact hzz
end
theorem rd_sortZ {K : PySem.W.Frag} {H : Hp} {Q : VK} {a : Addr} {as : List Addr} {bs : List (List Int)} (h : SqL K H a (as.map V.ref)) (z : EachZ H as bs) (l : ∀ b ∈ bs, b.length ≤ 100) (q : ∀ (as' : List Addr) p, EachZ H as' (sortZ bs) → (∀ b ∈ as', b ∈ as) → H p = none → Q (.ref p) (upd H p (.lst (as'.map V.ref)))) : rSortedZ K [.ref a] H Q := ⟨a, as, bs, rfl, h, z, l, q⟩
theorem sortZ_le : (PySem.W.dataLe false encZ) = fun p q : List Int => decide (p ≤ q) := PySem.W.dataLe_rows (β := List Int) id
theorem sortZ_of {bs T : List (List Int)} (p : bs.Perm T) (s : T.Pairwise (· ≤ ·)) : sortZ bs = T := by
  have tr : ∀ a b c : List Int, decide (a ≤ b) = true → decide (b ≤ c) = true → decide (a ≤ c) = true := fun a b c h k => decide_eq_true (List.le_trans (of_decide_eq_true h) (of_decide_eq_true k))
  have to : ∀ a b : List Int, (decide (a ≤ b) || decide (b ≤ a)) = true := fun a b => by
    rcases List.le_total a b with h | h <;> simp [h]
  have q : (sortZ bs).Pairwise (· ≤ ·) := by
    unfold sortZ
    rw [sortZ_le]
    exact (List.pairwise_mergeSort tr to bs).imp fun h => of_decide_eq_true h
  have pm : (sortZ bs).Perm T := (List.mergeSort_perm bs _).trans p
  exact List.Perm.eq_of_pairwise (fun a b _ _ h k => List.le_antisymm h k) q s pm
end L2
namespace My
open PySem PySem.Spec PyProof.Rows L2
/-! one step of a reading, by its head -/
local macro_rules | `(tactic| wtm_at "r") => `(tactic| first
  | (with_reducible refine rd_var rfl ?_)
  | (with_reducible refine Stp.mp ?_)
  | (with_reducible first
    | refine rd_I ?_ ?_
    | refine rd_augC rfl ?_
    | refine rd_augG rfl ?_
    | refine rd_r1 ?_ ?_ ?_
    | refine rd_r2 ?_ ?_
    | refine rd_pure ?_ ?_
    | refine rd_pureT ?_ ?_
    | refine rd_back (by assumption) ?_
    | fail)
  | fail)
/-! branch -/
local macro_rules | `(tactic| wtm_at "i") => `(tactic| (with_reducible first
  | refine rd_ite (fun _ => ?_) (fun _ => ?_)
  | refine rd_iteN (fun _ => ?_) (fun _ => ?_)
  | refine rd_iteb (fun _ => ?_) (fun _ => ?_)))
/-! the view of the heap (PreS): membership -/
local macro_rules | `(tactic| wtm_at "mem") => `(tactic| first
  | (with_reducible exact List.mem_cons_self)
  | ((with_reducible refine List.mem_cons_of_mem _ ?_); wtm_at "mem")
  | fail)
local macro_rules | `(tactic| wtm_at "vsub") => `(tactic| first
  | (with_reducible exact sub_nil)
  | ((with_reducible refine sub_cons ?h1 ?h2); (case h1 => wtm_at "mem"); (case h2 => wtm_at "vsub"))
  | fail)
/-! where something stands in the heap; two places differ -/
local macro_rules | `(tactic| wtm_at "ne") => `(tactic| with_reducible first
  | assumption
  | exact Ne.symm (by assumption)
  | exact ne_of_none (by assumption) (by assumption)
  | exact Ne.symm (ne_of_none (by assumption) (by assumption))
  | fail)
local macro_rules | `(tactic| wtm_at "h") => `(tactic| first
  | with_reducible assumption
  | with_reducible exact upd_same
  | ((with_reducible rw [upd_upd]); wtm_at "h")
  | ((with_reducible refine upd_at ?h1 ?h2); (case h1 => wtm_at "h"); (case h2 => intro hh; first | with_reducible exact ne_of_none hh (by assumption) | wtm_at "ne" | fail))
  | (with_reducible exact Hv.mAt (by assumption) (by wtm_at "mem"))
  | (with_reducible exact Hv.lAt (by assumption) (by wtm_at "mem"))
  | (with_reducible exact Hv.oAt (by assumption) (by assumption))
  | (with_reducible exact Hv.oAtX (by assumption) (by assumption) (by wtm_at "ne"))
  | fail)
/-! what was tracked stands -/
local macro_rules | `(tactic| wtm_at "sm") => `(tactic| first
  | with_reducible assumption
  | (with_reducible exact Same.refl _)
  | ((with_reducible refine same_upd3 ?_ (by with_reducible assumption)); wtm_at "sm")
  | ((with_reducible refine same_upd2 ?_ (by with_reducible assumption)); wtm_at "sm")
  | (refine same_upd2 ?_ (by first | with_reducible assumption | (refine Same.free ?_ (by with_reducible assumption); wtm_at "sm") | fail); wtm_at "sm")
  | (refine Same.trans ?_ (by with_reducible assumption); wtm_at "sm")
  | (refine Same.trans (by with_reducible assumption) ?_; wtm_at "sm")
  | (with_reducible exact Hv.same (by assumption))
  | fail)
local macro_rules | `(tactic| wtm_at "q") => `(tactic| first
  | with_reducible assumption
  | ((with_reducible refine SqL.of ?h1); (case h1 => wtm_at "h"))
  | ((with_reducible refine SqT.of ?h1); (case h1 => wtm_at "h"))
  | ((with_reducible refine Same.seq ?_ (by assumption)); wtm_at "sm")
  | ((with_reducible refine Same.seqT ?_ (by assumption)); wtm_at "sm")
  | ((with_reducible refine Same.lst ?_ (by assumption)); wtm_at "sm")
  | assumption
  | fail)
/-! data, read off the heap -/
local macro_rules | `(tactic| wtm_at "dp") => `(tactic| first
  | with_reducible assumption
  | exact Dp.int _
  | exact Dp.bl _
  | exact Dp.str _
  | exact Dp.non
  | exact DpAll.nil
  | (with_reducible exact dpAll_ints _)
  | (with_reducible exact dpAll_bls _)
  | ((with_reducible refine DpAll.cons (d := ?d) (ds := ?ds) ?h1 ?h2); (case h1 => wtm_at "dp"); (case h2 => wtm_at "dp"))
  | ((with_reducible refine Dp.lst (xs := ?xs) (ds := ?ds) ?h1 ?h2); (case h1 => wtm_at "q"); (case h2 => wtm_at "dp"))
  | ((with_reducible refine Dp.tup (xs := ?xs) (ds := ?ds) ?h1 ?h2); (case h1 => wtm_at "q"); (case h2 => wtm_at "dp"))
  | ((with_reducible refine Dp.same ?_ (by assumption)); wtm_at "sm")
  | fail)
/-! no dict with tuple keys -/
local macro_rules | `(tactic| wtm_at "nt") => `(tactic| first
  | with_reducible assumption
  | ((with_reducible refine NoT.upd ?_ rfl); wtm_at "nt")
  | (with_reducible exact Hv.nt (by assumption))
  | fail)
/-! what is asked on the side -/
local macro_rules | `(tactic| wtm_at "s") => `(tactic| first
  | ((with_reducible show NoT _); wtm_at "nt")
  | ((with_reducible show (_ : Int) < _); omega)
  | ((with_reducible show CMulB _ _); assumption)
  | ((with_reducible show CMulB _ _); exact Or.inl (Or.inl ⟨by omega, by omega⟩))
  | ((with_reducible show CMulB _ _); exact Or.inl (Or.inr ⟨by omega, by omega⟩))
  | ((with_reducible show CMulB _ _); exact CMulB.wide ⟨by omega, by omega⟩ ⟨by omega, by omega⟩)
  | ((with_reducible show CDivB _ _); first | exact .inl ⟨by omega, by omega⟩ | exact .inr ⟨by omega, (show Bd 9000 _ by wtm_at "bd").h⟩)
  | ((with_reducible refine rd_powN ?h1 ?h2 ?h3 ?_); (case h1 => rfl); (case h2 => decide); (case h3 => first | decide | omega))
  | ((with_reducible refine rd_setL (xs := ?xs) (j := ?j) ?h1 ?h2 ?_); (case h1 => wtm_at "h"); (case h2 => rfl))
  | ((with_reducible refine rd_ixL (xs := ?xs) (v := ?v) ?h1 ?h2 ?_); (case h1 => wtm_at "q"); (case h2 => rfl))
  | ((with_reducible refine rd_ixT (xs := ?xs) (v := ?v) ?h1 ?h2 ?_); (case h1 => wtm_at "q"); (case h2 => rfl))
  | ((with_reducible show -2 ^ 62 ≤ (_ : Int)); omega)
  | ((with_reducible show (_ : Int) ≤ _); omega)
  | ((with_reducible show (_ : Int) ≤ _ ∧ _); exact ⟨by omega, by omega, by omega, by omega⟩)
  | ((with_reducible refine rd_iL1 (xs := ?xs) ?h1 ?_); (case h1 => wtm_at "q"))
  | ((with_reducible refine rd_iT1 (xs := ?xs) ?h1 ?_); (case h1 => wtm_at "q"))
  | ((with_reducible refine rd_eqD (d := ?d) (e := ?e) ?h1 ?h2 ?h3 ?h4 ?_); (case h1 => wtm_at "dp"); (case h2 => wtm_at "dp"); (case h3 => rfl); (case h4 => rfl))
  | ((with_reducible refine rd_neD (d := ?d) (e := ?e) ?h1 ?h2 ?h3 ?h4 ?_); (case h1 => wtm_at "dp"); (case h2 => wtm_at "dp"); (case h3 => rfl); (case h4 => rfl))
  | ((with_reducible refine rd_xfb (fs := ?fs) (v := ?v) ?h1 ?h2 ?_); (case h1 => wtm_at "h"); (case h2 => rfl))
  | ((with_reducible refine rd_append (xs := ?xs) ?h1 ?h2 ?_); (case h1 => wtm_at "h"); (case h2 => first | assumption | exact Nat.le_of_ble_eq_true rfl | (refine Nat.lt_of_le_of_lt (m := 1000000) ?_ (by decide); omega)))
  | ((with_reducible refine rd_lenL (ys := ?ys) ?h1 ?_); (case h1 => wtm_at "q"))
  | ((with_reducible refine rd_lenT (ys := ?ys) ?h1 ?_); (case h1 => wtm_at "q"))
  | ((with_reducible refine rd_new ?h1 ?_); (case h1 => exact Nat.le_of_ble_eq_true rfl); intro p hp)
  | ((with_reducible refine rd_tyL (xs := ?xs) ?h1 ?_); (case h1 => wtm_at "h"))
  | ((with_reducible refine rd_gtup (xs := ?xs) ?h1 ?h2 ?_); (case h1 => wtm_at "q"); (case h2 => rfl))
  | ((with_reducible refine rd_unl (xs := ?xs) ?h1 ?h2 ?_); (case h1 => wtm_at "q"); (case h2 => rfl))
  | ((with_reducible refine rd_slL (xs := ?xs) ?h1 ?_); (case h1 => wtm_at "q"); intro p hp)
  | ((with_reducible refine rd_cat (xs := ?xs) (zs := ?zs) ?h1 ?h2 ?h3 ?_); (case h1 => wtm_at "h"); (case h2 => wtm_at "h"); (case h3 => first | assumption | exact Nat.le_of_ble_eq_true rfl); intro p hp)
  | ((with_reducible refine rd_isiL (xs := ?xs) ?h1 ?_); (case h1 => wtm_at "h"))
  | ((with_reducible refine rd_isiT (xs := ?xs) ?h1 ?_); (case h1 => wtm_at "h"))
  | ((with_reducible refine rd_mk1 ?h1 ?h2 ?_); (case h1 => rfl); (case h2 => decide)))
local macro_rules | `(tactic| wtm_at "s") => `(tactic| first
  | ((with_reducible refine rd_neF ?h1 ?_); (case h1 => first | with_reducible rfl | assumption | fail))
  | ((with_reducible refine rd_eqT ?h1 ?_); (case h1 => first | with_reducible rfl | assumption | fail))
  | ((with_reducible refine rd_neT ?h1 ?_); (case h1 => first | assumption | exact non_int | exact non_ref | exact Bool.false_ne_true | exact Bool.false_ne_true.symm | fail))
  | ((with_reducible refine rd_eqF ?h1 ?_); (case h1 => first | assumption | exact non_int | exact non_ref | exact Bool.false_ne_true | exact Bool.false_ne_true.symm | fail))
  | fail)
local macro_rules | `(tactic| wtm_at "bd") => `(tactic| first
  | with_reducible assumption
  | exact Bd.mono (by with_reducible assumption) (by decide)
  | exact Bd.lit (by decide) (by decide)
  | ((with_reducible refine Bd.mulN ?_ ?_) <;> wtm_at "bd")
  | ((with_reducible refine Bd.addN ?h1 ?h2 ?h3); (case h1 => wtm_at "bd"); (case h2 => wtm_at "bd"); (case h3 => decide))
  | ((with_reducible refine Bd.subN ?h1 ?h2 ?h3); (case h1 => wtm_at "bd"); (case h2 => wtm_at "bd"); (case h3 => decide))
  | ((with_reducible refine Bd.neg ?h1); (case h1 => wtm_at "bd"))
  | fail)
local macro_rules | `(tactic| wtm_at "s") => `(tactic| first
  | ((with_reducible refine rd_fld1 (dx := ?dx) (fs := ?fs) (v := ?v) ?h1 ?h2 ?_); (case h1 => wtm_at "h"); (case h2 => rfl))
  | ((with_reducible refine rd_meth1 (dx := ?dx) (fs := ?fs) ?h1 ?h2 ?_); (case h1 => wtm_at "h"); (case h2 => rfl))
  | ((with_reducible refine rd_sfld1 (dx := ?dx) (fs := ?fs) ?h1 ?h2 ?_); (case h1 => wtm_at "h"); (case h2 => exact Nat.le_of_ble_eq_true rfl))
  | ((with_reducible refine rd_fmtI ?h1 ?_); (case h1 => exact Nat.lt_trans (txI_len (n := 1000) (by wtm_at "bd") (Nat.le_refl _)).2 (by decide)))
  | ((with_reducible refine rd_strI ?h1 ?_); (case h1 => exact Nat.lt_trans (txI_len (n := 1000) (by wtm_at "bd") (Nat.le_refl _)).2 (by decide)))
  | ((with_reducible refine rd_eqInts (ns := ?ns) (ms := ?ms) ?h1 ?h2 ?_); (case h1 => wtm_at "q"); (case h2 => wtm_at "q"))
  | ((with_reducible refine rd_neInts (ns := ?ns) (ms := ?ms) ?h1 ?h2 ?_); (case h1 => wtm_at "q"); (case h2 => wtm_at "q"))
  | ((with_reducible refine rd_listOfL (ys := ?ys) ?h1 ?_); (case h1 => wtm_at "q"); intro l hl)
  | ((with_reducible refine rd_revV (xs := ?xs) ?h1 ?_); (case h1 => wtm_at "q"); intro p hp)
  | ((with_reducible refine rd_iRev1 (xs := ?xs) ?h1 ?_); (case h1 => wtm_at "q"))
  | ((with_reducible refine rd_callO2 (dx := ?dx) (fs := ?fs) ?h1 ?_); (case h1 => wtm_at "h"))
  | ((with_reducible show CMulB _ _); refine CMulB.bd ?_ ?_ <;> wtm_at "bd")
  | fail)
local macro_rules | `(tactic| wtm_at "s") => `(tactic| first
  | ((with_reducible refine rd_dinF (ks := ?ks) ?h1 ?_); (case h1 => wtm_at "h"))
  | ((with_reducible refine rd_dnotinF (ks := ?ks) ?h1 ?_); (case h1 => wtm_at "h"))
  | ((with_reducible refine rd_listF (ks := ?ks) ?h1 ?_); (case h1 => wtm_at "h"); intro l hl)
  | ((with_reducible refine rd_sortedI (ns := ?ns) ?h1 ?_); (case h1 => wtm_at "q"))
  | fail)
local macro_rules | `(tactic| wtm_at "tp") => `(tactic| first
  | ((with_reducible refine rd_tupL (ys := ?ys) ?h1 ?_); (case h1 => wtm_at "q"); intro l hl)
  | ((with_reducible refine rd_tupT (ys := ?ys) ?h1 ?_); (case h1 => wtm_at "q"))
  | fail)
/-! a test that omega answers -/
local macro_rules | `(tactic| wtm_at "o") => `(tactic| first
  | ((with_reducible refine rd_neF ?h1 ?_); (case h1 => omega))
  | ((with_reducible refine rd_eqT ?h1 ?_); (case h1 => omega))
  | ((with_reducible refine rd_neT ?h1 ?_); (case h1 => omega))
  | ((with_reducible refine rd_eqF ?h1 ?_); (case h1 => omega))
  | fail)
/-! steps while there is one way -/
local macro_rules | `(tactic| wtm_at "rs") => `(tactic| repeat' (first | wtm_at "r" | wtm_at "s" | fail))
/-! all ways -/
local macro_rules | `(tactic| wtm_at "ra") => `(tactic| repeat' (first | wtm_at "r" | wtm_at "s" | wtm_at "i" | fail))
local macro_rules | `(tactic| wtm_at "ro") => `(tactic| repeat' (first | wtm_at "r" | wtm_at "s" | wtm_at "o" | fail))
local macro_rules | `(tactic| wtm_at "rao") => `(tactic| repeat' (first | wtm_at "r" | wtm_at "s" | wtm_at "o" | wtm_at "i" | fail))
/-! ## mathematics -/
/-! part m_pool -/
/-- a pool of draws, at most j of them made -/
def PoolAt (H : Hp) (p : Addr) (j : Int) : Prop := ∃ c k b, H p = some (.lst [.int c, .int k, .bl b]) ∧ 0 ≤ k ∧ k ≤ j
theorem PoolAt.new {H : Hp} {p : Addr} {n : Int} {b : Bool} : PoolAt (upd H p (.lst [.int n, .int 0, .bl b])) p 0 := ⟨_, _, _, upd_same, by omega, by omega⟩
/-! part m_rows -/
/-- the list that a list of tuples holds -/
def RowsAt (H : Hp) : List Addr → List (List V) → Prop
  | [], [] => True
  | t :: ts, l :: ls => H t = some (.tup l) ∧ RowsAt H ts ls
  | _, _ => False
theorem RowsAt.mono {H H' : Hp} (s : Same H H') : ∀ {ts : List Addr} {ls : List (List V)}, RowsAt H ts ls → RowsAt H' ts ls
  | [], [], _ => trivial
  | _ :: _, _ :: _, h => ⟨s _ _ h.1, RowsAt.mono s h.2⟩
  | [], _ :: _, h => h.elim
  | _ :: _, [], h => h.elim
theorem RowsAt.len {H : Hp} : ∀ {ts : List Addr} {ls : List (List V)}, RowsAt H ts ls → ts.length = ls.length
  | [], [], _ => rfl
  | _ :: _, _ :: _, h => by rw [List.length_cons, List.length_cons, RowsAt.len h.2]
  | [], _ :: _, h => h.elim
  | _ :: _, [], h => h.elim
theorem RowsAt.snoc {H : Hp} {t : Addr} {l : List V} (ht : H t = some (.tup l)) : ∀ {ts : List Addr} {ls : List (List V)}, RowsAt H ts ls → RowsAt H (ts ++ [t]) (ls ++ [l])
  | [], [], _ => ⟨ht, trivial⟩
  | _ :: _, _ :: _, h => ⟨h.1, RowsAt.snoc ht h.2⟩
  | [], _ :: _, h => h.elim
  | _ :: _, [], h => h.elim
theorem RowsAt.at {H : Hp} : ∀ {ts : List Addr} {ls : List (List V)} {i : Nat} {v : V}, RowsAt H ts ls → (ts.map V.ref)[i]? = some v → ∃ (t : Addr) (l : List V), v = .ref t ∧ H t = some (.tup l) ∧ ls[i]? = some l
  | t :: ts, l :: ls, 0, v, h, e => ⟨t, l, (Option.some.inj e).symm, h.1, rfl⟩
  | t :: ts, l :: ls, i + 1, v, h, e => RowsAt.at h.2 (i := i) e
  | [], _, _, _, _, e => by cases e
  | _ :: _, [], _, _, h, _ => h.elim
theorem RowsAt.rig {H : Hp} {ts : List Addr} {ls : List (List V)} (h : RowsAt H ts ls) : Rig (fun G => RowsAt G ts ls) H := fun G k => by
  induction ts generalizing ls with
  | nil => cases ls with
    | nil => trivial
    | cons l ls => exact h.elim
  | cons t ts ih => cases ls with
    | nil => exact h.elim
    | cons l ls => exact ⟨k _ _ rfl h.1, ih h.2⟩
/-! part m_but -/
/-! part m_gcd -/
theorem gcd_turn {x y : Int} (hx : 0 ≤ x) (hy : 0 < y) : Int.gcd y (x % y) = Int.gcd x y := by
  obtain ⟨m, rfl⟩ : ∃ m : Nat, x = m := ⟨x.toNat, by omega⟩
  obtain ⟨n, rfl⟩ : ∃ n : Nat, y = n := ⟨y.toNat, by omega⟩
  rw [← Int.natCast_emod, Int.gcd_natCast_natCast, Int.gcd_natCast_natCast, Nat.gcd_comm m n, Nat.gcd_rec n m, Nat.gcd_comm]
theorem gcd_abs (a b : Int) : Int.gcd (if a < 0 then -a else a) (if b < 0 then -b else b) = Int.gcd a b := by
  split <;> split <;> simp [Int.gcd_neg, Int.neg_gcd]
/-! part m_form -/
/-- a form's three numbers -/
structure Fm where
  a : Int
  b : Int
  c : Int
deriving DecidableEq
def Fm.D (f : Fm) : Int := f.b * f.b - 4 * f.a * f.c
def Fm.ok (f : Fm) : Prop := 1 ≤ f.a ∧ f.D < 0
def Fm.at (f : Fm) (x y : Int) : Int := f.a * x * x + f.b * x * y + f.c * y * y
def Fm.st (f : Fm) (k : Int) : Fm := if k = 0 then ⟨f.c, -f.b, f.a⟩ else ⟨f.a, f.b + 2 * f.a * k, f.a * k * k + f.b * k + f.c⟩
def Fm.turn (f : Fm) (ks : List Int) : Fm := ks.foldl Fm.st f
def Fm.nx (f : Fm) : Option Int := if ¬ (-f.a < f.b ∧ f.b ≤ f.a) then some ((f.a - f.b) / (2 * f.a)) else if f.c < f.a ∨ f.a = f.c ∧ f.b < 0 then some 0 else none
def Fm.bd (n : Nat) (f : Fm) : Prop := Bd n f.a ∧ Bd n f.b ∧ Bd n f.c
theorem Fm.st_zero (f : Fm) : f.st 0 = ⟨f.c, -f.b, f.a⟩ := if_pos rfl
theorem Fm.st_ne {f : Fm} {k : Int} (h : k ≠ 0) : f.st k = ⟨f.a, f.b + 2 * f.a * k, f.a * k * k + f.b * k + f.c⟩ := if_neg h
theorem Fm.st_D (f : Fm) (k : Int) : (f.st k).D = f.D := by
  unfold Fm.st Fm.D
  split
  · simp only [Int.neg_mul_neg]
    grind
  · grind
theorem sq_nonneg (x : Int) : 0 ≤ x * x := by
  rcases Int.le_total 0 x with h | h
  · exact Int.mul_nonneg h h
  · have := Int.mul_nonneg (show 0 ≤ -x by omega) (show 0 ≤ -x by omega)
    rw [Int.neg_mul_neg] at this
    exact this
theorem Fm.ok.c_pos {f : Fm} (h : f.ok) : 1 ≤ f.c := by
  obtain ⟨h1, h2⟩ := h
  unfold Fm.D at h2
  have := sq_nonneg f.b
  rcases Int.lt_or_le f.c 1 with z | z
  · exfalso
    have : 4 * f.a * f.c ≤ 4 * f.a * 0 := Int.mul_le_mul_of_nonneg_left (by omega) (by omega)
    omega
  · exact z
theorem Fm.at_D (f : Fm) (x y : Int) : 4 * f.a * f.at x y = (2 * f.a * x + f.b * y) * (2 * f.a * x + f.b * y) - f.D * (y * y) := by
  unfold Fm.at Fm.D
  grind
theorem Fm.ok.st {f : Fm} (h : f.ok) (k : Int) : (f.st k).ok := by
  refine ⟨?_, by rw [Fm.st_D]; exact h.2⟩
  unfold Fm.st
  split
  · exact h.c_pos
  · exact h.1
theorem Fm.bd.mono {n m : Nat} {f : Fm} (h : Fm.bd n f) (hm : n ≤ m) : Fm.bd m f := ⟨h.1.mono hm, h.2.1.mono hm, h.2.2.mono hm⟩
theorem Fm.turn_snoc (f : Fm) (ks : List Int) (k : Int) : f.turn (ks ++ [k]) = (f.turn ks).st k := by
  unfold Fm.turn
  rw [List.foldl_append]
  rfl
theorem Fm.turn_D (f : Fm) : ∀ ks : List Int, (f.turn ks).D = f.D
  | [] => rfl
  | k :: ks => by
    show ((f.st k).turn ks).D = f.D
    rw [Fm.turn_D (f.st k) ks, Fm.st_D]
theorem Fm.ok.turn {f : Fm} (h : f.ok) : ∀ ks : List Int, (f.turn ks).ok
  | [] => h
  | k :: ks => Fm.ok.turn (h.st k) ks
theorem sq_le {x y : Int} (h : x.natAbs ≤ y.natAbs) : x * x ≤ y * y := by
  have e : ∀ z : Int, z * z = (z.natAbs : Int) * z.natAbs := fun z => by
    rw [← Int.natCast_mul, Int.natAbs_mul_self]
  rw [e x, e y]
  exact Int.mul_le_mul (by omega) (by omega) (by omega) (by omega)
/-! part m_vopt -/
def vOpt : Option Int → V
  | some z => .int z
  | none => .non
/-! part m_red -/
def Fm.norm (f : Fm) : Prop := -f.a < f.b ∧ f.b ≤ f.a
instance (f : Fm) : Decidable f.norm := inferInstanceAs (Decidable (_ ∧ _))
/-- reduced -/
def Fm.red (f : Fm) : Prop := f.norm ∧ f.a ≤ f.c ∧ (f.a = f.c → 0 ≤ f.b)
theorem Fm.nx_none {f : Fm} : f.nx = none ↔ f.red := by
  unfold Fm.nx Fm.red
  by_cases h : -f.a < f.b ∧ f.b ≤ f.a
  · rw [if_neg (by simpa using h)]
    split
    · simp only [reduceCtorEq, false_iff]
      rintro ⟨_, h2, h3⟩
      omega
    · simp only [true_iff]
      exact ⟨h, by omega, by omega⟩
  · rw [if_pos h]
    simp only [reduceCtorEq, false_iff]
    rintro ⟨h2, _⟩
    exact h h2
/-- what a shift does -/
theorem Fm.shift {f : Fm} (h : 1 ≤ f.a) (hn : ¬ f.norm) : f.nx = some ((f.a - f.b) / (2 * f.a)) ∧ (f.a - f.b) / (2 * f.a) ≠ 0 ∧ (f.st ((f.a - f.b) / (2 * f.a))).a = f.a ∧ (f.st ((f.a - f.b) / (2 * f.a))).norm := by
  have e := Int.mul_ediv_add_emod (f.a - f.b) (2 * f.a)
  have r0 := Int.emod_nonneg (f.a - f.b) (show 2 * f.a ≠ 0 by omega)
  have r1 := Int.emod_lt_of_pos (f.a - f.b) (show 0 < 2 * f.a by omega)
  generalize hk : (f.a - f.b) / (2 * f.a) = k at *
  have nz : k ≠ 0 := by
    intro z
    rw [z, Int.mul_zero] at e
    exact hn ⟨by omega, by omega⟩
  refine ⟨by unfold Fm.nx; rw [if_pos (show ¬ (-f.a < f.b ∧ f.b ≤ f.a) from hn), hk], nz, ?_, ?_⟩
  · rw [Fm.st_ne nz]
  · rw [Fm.st_ne nz]
    exact ⟨by dsimp only; omega, by dsimp only; omega⟩
theorem Fm.swap {f : Fm} (hn : f.norm) (h : ¬ f.red) : f.nx = some 0 ∧ (f.c < f.a ∨ f.a = f.c ∧ f.b < 0) := by
  have h2 : f.c < f.a ∨ f.a = f.c ∧ f.b < 0 := by
    unfold Fm.red at h
    rcases Int.lt_or_le f.c f.a with z | z
    · exact .inl z
    · refine .inr ?_
      by_cases e : f.a = f.c
      · refine ⟨e, ?_⟩
        rcases Int.lt_or_le f.b 0 with y | y
        · exact y
        · exact absurd ⟨hn, z, fun _ => y⟩ h
      · exact absurd ⟨hn, z, fun y => absurd y e⟩ h
  refine ⟨?_, h2⟩
  unfold Fm.nx
  rw [if_neg (show ¬ ¬ (-f.a < f.b ∧ f.b ≤ f.a) from fun z => z hn), if_pos h2]
def Fm.mu (f : Fm) : Nat := (4 * f.a).toNat + if f.norm then (if f.b < 0 then 1 else 0) else 2
theorem Fm.mu_lt {f : Fm} (ho : f.ok) {k : Int} (h : f.nx = some k) : (f.st k).mu < f.mu := by
  have h1 := ho.1
  have hc := ho.c_pos
  by_cases hn : f.norm
  · by_cases hr : f.red
    · rw [Fm.nx_none.mpr hr] at h
      cases h
    · obtain ⟨e, h2⟩ := Fm.swap hn hr
      rw [e] at h
      cases h
      rw [Fm.st_zero]
      have m1 : Fm.mu ⟨f.c, -f.b, f.a⟩ ≤ (4 * f.c).toNat + 2 := by
        unfold Fm.mu
        dsimp only
        split
        · split <;> omega
        · omega
      rcases h2 with h2 | ⟨h2, h3⟩
      · have : (4 * f.a).toNat ≤ f.mu := Nat.le_add_right _ _
        omega
      · have e1 : f.mu = (4 * f.a).toNat + 1 := by
          unfold Fm.mu
          rw [if_pos hn, if_pos h3]
        have hn2 : Fm.norm ⟨f.c, -f.b, f.a⟩ := ⟨by dsimp only; have := hn.1; omega, by dsimp only; have := hn.1; omega⟩
        have e2 : Fm.mu ⟨f.c, -f.b, f.a⟩ = (4 * f.c).toNat + 0 := by
          unfold Fm.mu
          rw [if_pos hn2]
          dsimp only
          rw [if_neg (by omega)]
        omega
  · obtain ⟨e, nz, ha, hn2⟩ := Fm.shift h1 hn
    rw [e] at h
    cases h
    have e1 : f.mu = (4 * f.a).toNat + 2 := by
      unfold Fm.mu
      rw [if_neg hn]
    have e2 : (f.st ((f.a - f.b) / (2 * f.a))).mu ≤ (4 * f.a).toNat + 1 := by
      unfold Fm.mu
      rw [if_pos hn2, ha]
      split <;> omega
    omega
def stepsN : Nat → Fm → List Int
  | 0, _ => []
  | n + 1, f => match f.nx with
    | none => []
    | some k => k :: stepsN n (f.st k)
def stepsF (f : Fm) : List Int := stepsN f.mu f
theorem stepsN_eq : ∀ (n m : Nat) (f : Fm), f.ok → f.mu ≤ n → f.mu ≤ m → stepsN n f = stepsN m f
  | 0, 0, _, _, _, _ => rfl
  | 0, m + 1, f, ho, h, _ => by
    unfold stepsN
    cases e : f.nx with
    | none => rfl
    | some k => have := Fm.mu_lt ho e; omega
  | n + 1, 0, f, ho, _, h => by
    unfold stepsN
    cases e : f.nx with
    | none => rfl
    | some k => have := Fm.mu_lt ho e; omega
  | n + 1, m + 1, f, ho, h, h' => by
    unfold stepsN
    cases e : f.nx with
    | none => rfl
    | some k =>
      have := Fm.mu_lt ho e
      dsimp only
      rw [stepsN_eq n m (f.st k) (ho.st k) (by omega) (by omega)]
theorem stepsF_none {f : Fm} (h : f.nx = none) : stepsF f = [] := by
  unfold stepsF
  cases e : f.mu with
  | zero => rfl
  | succ n => unfold stepsN; rw [h]
theorem stepsF_some {f : Fm} (ho : f.ok) {k : Int} (h : f.nx = some k) : stepsF f = k :: stepsF (f.st k) := by
  have := Fm.mu_lt ho h
  unfold stepsF
  obtain ⟨n, e⟩ : ∃ n, f.mu = n + 1 := ⟨f.mu - 1, by omega⟩
  rw [e]
  conv => lhs; unfold stepsN
  rw [h]
  dsimp only
  rw [stepsN_eq n (f.st k).mu _ (ho.st k) (by omega) (Nat.le_refl _)]
def redF (f : Fm) : Fm := f.turn (stepsF f)
theorem redF_red : ∀ (n : Nat) (f : Fm), f.ok → f.mu ≤ n → (redF f).red
  | 0, f, ho, h => by
    cases e : f.nx with
    | none =>
      unfold redF
      rw [stepsF_none e]
      exact Fm.nx_none.mp e
    | some k => have := Fm.mu_lt ho e; omega
  | n + 1, f, ho, h => by
    cases e : f.nx with
    | none =>
      unfold redF
      rw [stepsF_none e]
      exact Fm.nx_none.mp e
    | some k =>
      have := Fm.mu_lt ho e
      have ih := redF_red n (f.st k) (ho.st k) (by omega)
      unfold redF at ih ⊢
      rw [stepsF_some ho e]
      exact ih
/-- sizes: the outer numbers stay below A -/
def Fm.lo (A : Int) (f : Fm) : Prop := f.a ≤ A ∧ f.c ≤ A
theorem Fm.lo_st {A : Int} {f : Fm} (ho : f.ok) (hl : f.lo A) {k : Int} (h : f.nx = some k) : (f.st k).lo A := by
  have h1 := ho.1
  by_cases hn : f.norm
  · by_cases hr : f.red
    · rw [Fm.nx_none.mpr hr] at h
      cases h
    · obtain ⟨e, _⟩ := Fm.swap hn hr
      rw [e] at h
      cases h
      rw [Fm.st_zero]
      exact ⟨hl.2, hl.1⟩
  · obtain ⟨e, nz, ha, hn2⟩ := Fm.shift h1 hn
    rw [e] at h
    cases h
    generalize (f.a - f.b) / (2 * f.a) = k at *
    refine ⟨by rw [ha]; exact hl.1, ?_⟩
    have hD := Fm.st_D f k
    unfold Fm.D at hD
    rw [ha] at hD
    have hb : (f.st k).b.natAbs ≤ f.b.natAbs := by
      have n1 := hn2.1
      have n2 := hn2.2
      rw [ha] at n1 n2
      unfold Fm.norm at hn
      omega
    have := sq_le hb
    have h4 : 4 * f.a * (f.st k).c ≤ 4 * f.a * f.c := by omega
    have := Int.le_of_mul_le_mul_left h4 (by omega)
    have := hl.2
    omega
theorem Fm.lo_b {A : Int} {f : Fm} (ho : f.ok) (hl : f.lo A) : -(2 * A) < f.b ∧ f.b < 2 * A := by
  obtain ⟨h1, h2⟩ := ho
  have hc := Fm.ok.c_pos ⟨h1, h2⟩
  unfold Fm.D at h2
  have m1 : 4 * f.a * f.c ≤ (2 * A) * (2 * A) := by
    have a1 : f.a * f.c ≤ A * A := Int.mul_le_mul hl.1 hl.2 (by omega) (by have := hl.1; omega)
    have e1 : 4 * f.a * f.c = 4 * (f.a * f.c) := by rw [Int.mul_assoc]
    have e2 : (2 * A) * (2 * A) = 4 * (A * A) := by grind
    omega
  have hA : 1 ≤ A := by have := hl.1; omega
  rcases Int.lt_or_le f.b (2 * A) with z | z
  · refine ⟨?_, z⟩
    rcases Int.lt_or_le (-(2 * A)) f.b with y | y
    · exact y
    · have := sq_le (x := 2 * A) (y := f.b) (by omega)
      omega
  · have := sq_le (x := 2 * A) (y := f.b) (by omega)
    omega
theorem Fm.lo_bd {n : Nat} {f : Fm} (ho : f.ok) (hl : f.lo (2 ^ n)) : Fm.bd (n + 1) f := by
  have hb := Fm.lo_b ho hl
  have h1 := ho.1
  have hc := ho.c_pos
  have e : (2 : Int) ^ (n + 1) = 2 * 2 ^ n := by rw [Int.pow_succ, Int.mul_comm]
  have p0 : (0 : Int) < 2 ^ n := Int.pow_pos (by decide)
  have := hl.1
  have := hl.2
  exact ⟨Bd.of (by omega) (by omega), Bd.of (by omega) (by omega), Bd.of (by omega) (by omega)⟩
theorem Fm.bd_lo {n : Nat} {f : Fm} (hb : Fm.bd n f) : f.lo (2 ^ n) := by
  have := hb.1.lt
  have := hb.2.2.lt
  exact ⟨by omega, by omega⟩
theorem Fm.nx_bd {n : Nat} {f : Fm} (ho : f.ok) (hb : Fm.bd n f) {k : Int} (h : f.nx = some k) : Bd (n + 2) k := by
  have h1 := ho.1
  by_cases hn : f.norm
  · by_cases hr : f.red
    · rw [Fm.nx_none.mpr hr] at h
      cases h
    · obtain ⟨e, _⟩ := Fm.swap hn hr
      rw [e] at h
      cases h
      have p : (0 : Int) < 2 ^ (n + 2) := Int.pow_pos (by decide)
      exact Bd.of (by omega) p
  · obtain ⟨e, nz, ha, hn2⟩ := Fm.shift h1 hn
    rw [e] at h
    cases h
    have := (hb.1.sub hb.2.1).div (show 0 < 2 * f.a by omega)
    rw [Nat.max_self] at this
    exact this
/-- all the way down: sizes -/
theorem stepsF_bd {N : Nat} : ∀ (n : Nat) (f : Fm), f.ok → f.mu ≤ n → f.lo (2 ^ N) → (∀ k ∈ stepsF f, Bd (N + 3) k) ∧ ∀ i, i ≤ (stepsF f).length → Fm.bd (N + 1) (f.turn ((stepsF f).take i))
  | n, f, ho, h, hl => by
    cases e : f.nx with
    | none =>
      rw [stepsF_none e]
      refine ⟨fun k hk => absurd hk List.not_mem_nil, fun i hi => ?_⟩
      rw [List.take_nil]
      exact Fm.lo_bd ho hl
    | some k =>
      have hlt := Fm.mu_lt ho e
      match n with
      | 0 => omega
      | n + 1 =>
        obtain ⟨g1, g2⟩ := stepsF_bd n (f.st k) (ho.st k) (by omega) (Fm.lo_st ho hl e)
        rw [stepsF_some ho e]
        refine ⟨fun j hj => ?_, fun i hi => ?_⟩
        · rcases List.mem_cons.mp hj with rfl | hj
          · exact Fm.nx_bd ho (Fm.lo_bd ho hl) e
          · exact g1 j hj
        · cases i with
          | zero => exact Fm.lo_bd ho hl
          | succ i => exact g2 i (by simpa using hi)
/-! part m_eqv -/
def Fm.act (f : Fm) (p q r s : Int) : Fm := ⟨f.a * p * p + f.b * p * r + f.c * r * r, 2 * f.a * p * q + f.b * (p * s + q * r) + 2 * f.c * r * s, f.a * q * q + f.b * q * s + f.c * s * s⟩
def Fm.eqv (f g : Fm) : Prop := ∃ p q r s : Int, p * s - q * r = 1 ∧ g = f.act p q r s
theorem Fm.ext' {f g : Fm} (h1 : f.a = g.a) (h2 : f.b = g.b) (h3 : f.c = g.c) : f = g := by
  cases f
  cases g
  simp_all
theorem Fm.eqv.refl (f : Fm) : f.eqv f := ⟨1, 0, 0, 1, by decide, Fm.ext' (by simp [Fm.act]) (by simp [Fm.act]) (by simp [Fm.act])⟩
theorem Fm.eqv.trans {f g h : Fm} (h1 : f.eqv g) (h2 : g.eqv h) : f.eqv h := by
  obtain ⟨p, q, r, s, d, rfl⟩ := h1
  obtain ⟨p', q', r', s', d', rfl⟩ := h2
  refine ⟨p * p' + q * r', p * q' + q * s', r * p' + s * r', r * q' + s * s', by grind, Fm.ext' ?_ ?_ ?_⟩
  · simp only [Fm.act]; grind
  · simp only [Fm.act]; grind
  · simp only [Fm.act]; grind
theorem Fm.eqv.symm {f g : Fm} (h : f.eqv g) : g.eqv f := by
  obtain ⟨p, q, r, s, d, rfl⟩ := h
  refine ⟨s, -q, -r, p, by grind, Fm.ext' ?_ ?_ ?_⟩
  · have e : f.a = f.a * ((p * s - q * r) * (p * s - q * r)) := by rw [d]; simp
    simp only [Fm.act]
    grind
  · have e : f.b = f.b * ((p * s - q * r) * (p * s - q * r)) := by rw [d]; simp
    simp only [Fm.act]
    grind
  · have e : f.c = f.c * ((p * s - q * r) * (p * s - q * r)) := by rw [d]; simp
    simp only [Fm.act]
    grind
theorem Fm.st_eqv (f : Fm) (k : Int) : f.eqv (f.st k) := by
  by_cases hk : k = 0
  · subst hk
    rw [Fm.st_zero]
    exact ⟨0, -1, 1, 0, by decide, Fm.ext' (by simp [Fm.act]) (by simp [Fm.act]) (by simp [Fm.act])⟩
  · rw [Fm.st_ne hk]
    exact ⟨1, k, 0, 1, by simp, Fm.ext' (by simp [Fm.act]) (by simp [Fm.act]; omega) (by simp [Fm.act])⟩
theorem Fm.turn_eqv (f : Fm) : ∀ ks : List Int, f.eqv (f.turn ks)
  | [] => Fm.eqv.refl f
  | k :: ks => (Fm.st_eqv f k).trans (Fm.turn_eqv (f.st k) ks)
theorem Fm.act_at (f : Fm) (p q r s x y : Int) : (f.act p q r s).at x y = f.at (p * x + q * y) (r * x + s * y) := by
  simp only [Fm.act, Fm.at]
  grind
theorem Fm.act_D (f : Fm) (p q r s : Int) : (f.act p q r s).D = f.D * ((p * s - q * r) * (p * s - q * r)) := by
  simp only [Fm.act, Fm.D]
  grind
theorem Fm.eqv.D {f g : Fm} (h : f.eqv g) : g.D = f.D := by
  obtain ⟨p, q, r, s, d, rfl⟩ := h
  rw [Fm.act_D, d]
  simp
theorem mul_abs_le {x y : Int} : -((x.natAbs : Int) * y.natAbs) ≤ x * y := by
  have := Int.natAbs_mul x y
  have e : (((x * y).natAbs : Nat) : Int) = (x.natAbs : Int) * y.natAbs := by rw [this, Int.natCast_mul]
  rw [← e]
  omega
/-- off the first axis a reduced form is at least c -/
theorem Fm.red.ge_c {f : Fm} (h : f.red) (ha : 1 ≤ f.a) {x y : Int} (hy : y ≠ 0) : f.c ≤ f.at x y := by
  obtain ⟨⟨n1, n2⟩, hac, _⟩ := h
  have hx2 : x * x = (x.natAbs : Int) * x.natAbs := by rw [← Int.natCast_mul, Int.natAbs_mul_self]
  have hy2 : y * y = (y.natAbs : Int) * y.natAbs := by rw [← Int.natCast_mul, Int.natAbs_mul_self]
  have hY1 : 1 ≤ (y.natAbs : Int) := by omega
  have hX0 : 0 ≤ (x.natAbs : Int) := by omega
  have hb1 : (f.b.natAbs : Int) ≤ f.a := by omega
  have hxy : ((x * y).natAbs : Int) = (x.natAbs : Int) * y.natAbs := by rw [Int.natAbs_mul, Int.natCast_mul]
  have hm := mul_abs_le (x := f.b) (y := x * y)
  rw [hxy] at hm
  generalize (x.natAbs : Int) = X at *
  generalize (y.natAbs : Int) = Y at *
  have hXY : 0 ≤ X * Y := Int.mul_nonneg hX0 (by omega)
  have hb : -(f.a * (X * Y)) ≤ f.b * (x * y) := by
    have : (f.b.natAbs : Int) * (X * Y) ≤ f.a * (X * Y) := Int.mul_le_mul_of_nonneg_right hb1 hXY
    omega
  have e : f.at x y = f.a * (X * X) + f.b * (x * y) + f.c * (Y * Y) := by
    rw [← hx2, ← hy2]
    unfold Fm.at
    grind
  have low : f.a * (X * X) - f.a * (X * Y) + f.c * (Y * Y) ≤ f.at x y := by
    rw [e]
    omega
  refine Int.le_trans ?_ low
  have hYY : Y * 1 ≤ Y * Y := Int.mul_le_mul_of_nonneg_left hY1 (by omega)
  rcases Int.lt_or_le X Y with z | z
  · have t1 : 0 ≤ (f.c - f.a) * (X * (Y - X)) := Int.mul_nonneg (by omega) (Int.mul_nonneg hX0 (by omega))
    have t2 : 1 ≤ X * X + Y * (Y - X) := by
      have : 0 ≤ X * X := Int.mul_nonneg hX0 hX0
      have : Y * 1 ≤ Y * (Y - X) := Int.mul_le_mul_of_nonneg_left (by omega) (by omega)
      omega
    have t3 : f.c * 1 ≤ f.c * (X * X + Y * (Y - X)) := Int.mul_le_mul_of_nonneg_left t2 (by omega)
    have t4 : f.a * (X * X) - f.a * (X * Y) + f.c * (Y * Y) = f.c * (X * X + Y * (Y - X)) + (f.c - f.a) * (X * (Y - X)) := by grind
    omega
  · have t1 : 0 ≤ f.a * (X * (X - Y)) := Int.mul_nonneg (by omega) (Int.mul_nonneg hX0 (by omega))
    have t2 : f.c * 1 ≤ f.c * (Y * Y) := Int.mul_le_mul_of_nonneg_left (by omega) (by omega)
    have t4 : f.a * (X * X) - f.a * (X * Y) = f.a * (X * (X - Y)) := by grind
    omega
theorem Fm.at_y0 (f : Fm) (x : Int) : f.at x 0 = f.a * (x * x) := by
  unfold Fm.at
  grind
theorem Fm.red.ge_a {f : Fm} (h : f.red) (ha : 1 ≤ f.a) {x y : Int} (hxy : x ≠ 0 ∨ y ≠ 0) : f.a ≤ f.at x y := by
  by_cases hy : y = 0
  · subst hy
    rw [Fm.at_y0]
    have : 1 ≤ x * x := by
      have := sq_le (x := 1) (y := x) (by omega)
      omega
    have := Int.mul_le_mul_of_nonneg_left this (show 0 ≤ f.a by omega)
    omega
  · exact Int.le_trans h.2.1 (h.ge_c ha hy)
/-- the first number of a reduced form is the least value of the class -/
theorem Fm.eqv.min {f g : Fm} (h : f.eqv g) (hr : g.red) (ha : 1 ≤ g.a) {x y : Int} (hxy : x ≠ 0 ∨ y ≠ 0) : g.a ≤ f.at x y := by
  obtain ⟨p, q, r, s, d, e⟩ := h.symm
  rw [e, Fm.act_at]
  refine hr.ge_a ha ?_
  refine Classical.byContradiction fun hn => ?_
  have h1 : p * x + q * y = 0 := Classical.byContradiction fun z => hn (.inl z)
  have h2 : r * x + s * y = 0 := Classical.byContradiction fun z => hn (.inr z)
  have hx : x = (p * s - q * r) * x := by rw [d]; simp
  have hy : y = (p * s - q * r) * y := by rw [d]; simp
  have hx0 : x = s * (p * x + q * y) - q * (r * x + s * y) := by rw [hx]; grind
  have hy0 : y = p * (r * x + s * y) - r * (p * x + q * y) := by rw [hy]; grind
  rw [h1, h2] at hx0 hy0
  simp at hx0 hy0
  omega
/-- one reduced form a class -/
theorem Fm.eqv.uniq1 {g h : Fm} (e : g.eqv h) (hg : g.red) (hh : h.red) (ga : 1 ≤ g.a) (ha : 1 ≤ h.a) (hlt : g.a < g.c) : h = g := by
  have ea : h.a = g.a := by
    have h1 := e.min hh ha (x := 1) (y := 0) (.inl (by decide))
    have h2 := e.symm.min hg ga (x := 1) (y := 0) (.inl (by decide))
    rw [Fm.at_y0] at h1 h2
    omega
  have hD := e.D
  obtain ⟨p, q, r, s, d, eh⟩ := e
  have hv : h.a = g.at p r := by
    rw [eh]
    simp only [Fm.act, Fm.at]
  have r0 : r = 0 := Classical.byContradiction fun z => by
    have := hg.ge_c ga (x := p) z
    omega
  subst r0
  rw [Int.mul_zero, Int.sub_zero] at d
  have hp : p = 1 ∧ s = 1 ∨ p = -1 ∧ s = -1 := by
    have h1 : p.natAbs * s.natAbs = 1 := by rw [← Int.natAbs_mul, d]; rfl
    have h2 := Nat.eq_one_of_mul_eq_one_right h1
    have h3 := Nat.eq_one_of_mul_eq_one_left h1
    rcases (show p = 1 ∨ p = -1 by omega) with rfl | rfl
    · exact .inl ⟨rfl, by omega⟩
    · exact .inr ⟨rfl, by omega⟩
  have hb : ∃ n, h.b = g.b + 2 * (g.a * n) := by
    rcases hp with ⟨rfl, rfl⟩ | ⟨rfl, rfl⟩
    · exact ⟨q, by rw [eh]; simp only [Fm.act]; grind⟩
    · exact ⟨-q, by rw [eh]; simp only [Fm.act]; grind⟩
  obtain ⟨n, hb⟩ := hb
  have n0 : n = 0 := by
    have h1 := hg.1
    have h2 := hh.1
    unfold Fm.norm at h1 h2
    rcases Int.lt_trichotomy n 0 with z | z | z
    · have : g.a * n ≤ g.a * -1 := Int.mul_le_mul_of_nonneg_left (by omega) (by omega)
      omega
    · exact z
    · have : g.a * 1 ≤ g.a * n := Int.mul_le_mul_of_nonneg_left (by omega) (by omega)
      omega
  have eb : h.b = g.b := by
    rw [hb, n0]
    simp
  refine Fm.ext' ea eb ?_
  unfold Fm.D at hD
  rw [ea, eb] at hD
  have : 4 * g.a * h.c = 4 * g.a * g.c := by omega
  exact Int.eq_of_mul_eq_mul_left (by omega) this
theorem Fm.eqv.uniq {g h : Fm} (e : g.eqv h) (hg : g.red) (hh : h.red) (ga : 1 ≤ g.a) (ha : 1 ≤ h.a) : h = g := by
  rcases Int.lt_or_le g.a g.c with z | z
  · exact e.uniq1 hg hh ga ha z
  · rcases Int.lt_or_le h.a h.c with y | y
    · exact (e.symm.uniq1 hh hg ha ga y).symm
    · have ea : h.a = g.a := by
        have h1 := e.min hh ha (x := 1) (y := 0) (.inl (by decide))
        have h2 := e.symm.min hg ga (x := 1) (y := 0) (.inl (by decide))
        rw [Fm.at_y0] at h1 h2
        omega
      have g1 := hg.2.1
      have g2 := hg.2.2 (by omega)
      have h1 := hh.2.1
      have h2 := hh.2.2 (by omega)
      have hD := e.D
      unfold Fm.D at hD
      have ec : h.c = g.c := by omega
      rw [ea, ec] at hD
      have hb : h.b * h.b = g.b * g.b := by omega
      refine Fm.ext' ea ?_ ec
      have e1 : h.b.natAbs * h.b.natAbs = g.b.natAbs * g.b.natAbs := by
        have := congrArg Int.natAbs hb
        rw [Int.natAbs_mul, Int.natAbs_mul] at this
        exact this
      rcases Nat.lt_trichotomy h.b.natAbs g.b.natAbs with w | w | w
      · have := Nat.mul_lt_mul'' w w
        omega
      · omega
      · have := Nat.mul_lt_mul'' w w
        omega
theorem redF_eqv (f : Fm) : f.eqv (redF f) := Fm.turn_eqv f _
theorem redF_turn {f : Fm} (ho : f.ok) (ks : List Int) : redF (f.turn ks) = redF f := by
  have h1 : (redF f).eqv (redF (f.turn ks)) := (redF_eqv f).symm.trans ((Fm.turn_eqv f ks).trans (redF_eqv _))
  refine h1.uniq (redF_red _ f ho (Nat.le_refl _)) (redF_red _ _ (ho.turn ks) (Nat.le_refl _)) (ho.turn _).1 ((ho.turn ks).turn _).1
/-! how many steps -/
theorem len_red {f : Fm} (h : f.red) : stepsF f = [] := stepsF_none (Fm.nx_none.mpr h)
theorem len_norm : ∀ (n : Nat) (f : Fm), f.ok → f.norm → f.a < 2 ^ n → (stepsF f).length ≤ 2 * n + 3
  | 0, f, ho, _, h => by
    have := ho.1
    simp at h
    omega
  | n + 1, f, ho, hn, h => by
    by_cases hr : f.red
    · rw [len_red hr]
      exact Nat.zero_le _
    · have h1 := ho.1
      have hc := ho.c_pos
      obtain ⟨e, h2⟩ := Fm.swap hn hr
      obtain ⟨n1, n2⟩ := hn
      rw [stepsF_some ho e, List.length_cons]
      have ho2 := ho.st 0
      rw [Fm.st_zero] at ho2 ⊢
      rcases h2 with h2 | ⟨h2, h3⟩
      · by_cases hg : Fm.norm ⟨f.c, -f.b, f.a⟩
        · rw [len_red (f := ⟨f.c, -f.b, f.a⟩) ⟨hg, by dsimp only; omega, fun z => by dsimp only at z; omega⟩]
          simp
        · obtain ⟨e3, nz, ha3, hn3⟩ := Fm.shift (f := ⟨f.c, -f.b, f.a⟩) hc hg
          rw [stepsF_some ho2 e3, List.length_cons]
          have ho3 := ho2.st ((f.c - -f.b) / (2 * f.c))
          dsimp only at ha3 hn3 e3 ⊢
          by_cases hh : 2 * f.c ≤ f.a
          · have := len_norm n _ ho3 hn3 (by rw [ha3, Int.pow_succ] at *; omega)
            omega
          · have hk : (f.c - -f.b) / (2 * f.c) = 1 ∨ (f.c - -f.b) / (2 * f.c) = -1 := by
              have d1 := Int.mul_ediv_add_emod (f.c - -f.b) (2 * f.c)
              have d2 := Int.emod_nonneg (f.c - -f.b) (show 2 * f.c ≠ 0 by omega)
              have d3 := Int.emod_lt_of_pos (f.c - -f.b) (show 0 < 2 * f.c by omega)
              generalize (f.c - -f.b) / (2 * f.c) = k at *
              rcases Int.lt_trichotomy k 0 with z | z | z
              · right
                rcases Int.lt_or_le k (-1) with y | y
                · have : 2 * f.c * k ≤ 2 * f.c * -2 := Int.mul_le_mul_of_nonneg_left (by omega) (by omega)
                  omega
                · omega
              · exact absurd z nz
              · left
                rcases Int.lt_or_le 1 k with y | y
                · have : 2 * f.c * 2 ≤ 2 * f.c * k := Int.mul_le_mul_of_nonneg_left (by omega) (by omega)
                  omega
                · omega
            have hcc : f.c ≤ (Fm.st ⟨f.c, -f.b, f.a⟩ ((f.c - -f.b) / (2 * f.c))).c := by
              rcases hk with hk | hk <;> rw [hk, Fm.st_ne (by decide)] <;> dsimp only <;> omega
            generalize Fm.st ⟨f.c, -f.b, f.a⟩ ((f.c - -f.b) / (2 * f.c)) = g at *
            by_cases hg2 : g.red
            · rw [len_red hg2]
              simp
            · obtain ⟨e4, h4⟩ := Fm.swap hn3 hg2
              have h5 : g.a = g.c ∧ g.b < 0 := by omega
              rw [stepsF_some ho3 e4, List.length_cons, Fm.st_zero, len_red (f := ⟨g.c, -g.b, g.a⟩) ⟨⟨by dsimp only; have := hn3.1; omega, by dsimp only; have := hn3.1; omega⟩, by dsimp only; omega, fun _ => by dsimp only; omega⟩]
              simp
      · rw [len_red (f := ⟨f.c, -f.b, f.a⟩) ⟨⟨by dsimp only; omega, by dsimp only; omega⟩, by dsimp only; omega, fun _ => by dsimp only; omega⟩]
        simp
theorem len_any {n : Nat} {f : Fm} (ho : f.ok) (h : f.a < 2 ^ n) : (stepsF f).length ≤ 2 * n + 4 := by
  by_cases hn : f.norm
  · have := len_norm n f ho hn h
    omega
  · obtain ⟨e, nz, ha, hn2⟩ := Fm.shift ho.1 hn
    have := len_norm n _ (ho.st _) hn2 (by rw [ha]; exact h)
    rw [stepsF_some ho e, List.length_cons]
    omega
/-! part m_rfl -/
/-- a form of the discriminant d with these first two numbers, reduced and without a common divisor -/
def goodB (d a b : Int) : Option Fm := if (b * b - d) % (4 * a) = 0 ∧ (a < (b * b - d) / (4 * a) ∨ (b * b - d) / (4 * a) = a ∧ 0 ≤ b) ∧ Int.gcd ((Int.gcd a b : Nat) : Int) ((b * b - d) / (4 * a)) = 1 then some ⟨a, b, (b * b - d) / (4 * a)⟩ else none
def rfTo (d a : Int) (j : Nat) : List Fm := (List.range j).filterMap fun i : Nat => goodB d a (1 - a + i)
def rfRow (d a : Int) : List Fm := rfTo d a (2 * a).toNat
def rfN (d : Int) (n : Nat) : List Fm := (List.range n).flatMap fun i : Nat => rfRow d (i + 1)
def rfL (d : Int) : List Fm := if d < 0 then rfN d 19 else []
theorem rfTo_succ {d a : Int} {j : Nat} : rfTo d a (j + 1) = rfTo d a j ++ (goodB d a (1 - a + j)).toList := by
  unfold rfTo
  rw [List.range_succ, List.filterMap_append]
  congr 1
theorem rfN_succ {d : Int} {n : Nat} : rfN d (n + 1) = rfN d n ++ rfRow d (n + 1) := by
  unfold rfN
  rw [List.range_succ, List.flatMap_append]
  simp
theorem goodB_D {d a b : Int} {f : Fm} (ha : 1 ≤ a) (h : goodB d a b = some f) : f.D = d ∧ f.a = a ∧ f.b = b ∧ (a < f.c ∨ f.c = a ∧ 0 ≤ b) ∧ Int.gcd ((Int.gcd f.a f.b : Nat) : Int) f.c = 1 := by
  unfold goodB at h
  split at h
  · rename_i c
    obtain ⟨c1, c2, c3⟩ := c
    cases h
    refine ⟨?_, rfl, rfl, c2, c3⟩
    unfold Fm.D
    dsimp only
    have := Int.mul_ediv_add_emod (b * b - d) (4 * a)
    rw [c1] at this
    omega
  · cases h
theorem goodB_red {d a b : Int} {f : Fm} (ha : 1 ≤ a) (h1 : -a < b) (h2 : b ≤ a) (h : goodB d a b = some f) : f.red := by
  obtain ⟨_, e1, e2, e3, _⟩ := goodB_D ha h
  exact ⟨⟨by rw [e1, e2]; exact h1, by rw [e1, e2]; exact h2⟩, by rw [e1]; omega, by rw [e1, e2]; omega⟩
theorem red_3 {f : Fm} (h : f.red) (ha : 1 ≤ f.a) : 3 * f.a * f.a ≤ -f.D := by
  obtain ⟨⟨h1, h2⟩, h3, _⟩ := h
  have a1 : f.b * f.b ≤ f.a * f.a := sq_le (by omega)
  have a2 : f.a * f.a ≤ f.a * f.c := Int.mul_le_mul_of_nonneg_left h3 (by omega)
  unfold Fm.D
  have e1 : 3 * f.a * f.a = 3 * (f.a * f.a) := Int.mul_assoc ..
  have e2 : 4 * f.a * f.c = 4 * (f.a * f.c) := Int.mul_assoc ..
  omega
theorem mem_rfTo {d a : Int} {j : Nat} {f : Fm} : f ∈ rfTo d a j ↔ ∃ i : Nat, i < j ∧ goodB d a (1 - a + i) = some f := by
  unfold rfTo
  simp [List.mem_filterMap]
theorem mem_rfL {d : Int} (h0 : d < 0) (h1 : -1000 ≤ d) {f : Fm} : f ∈ rfL d ↔ f.D = d ∧ f.ok ∧ f.red ∧ Int.gcd ((Int.gcd f.a f.b : Nat) : Int) f.c = 1 := by
  unfold rfL
  rw [if_pos h0]
  unfold rfN
  rw [List.mem_flatMap]
  constructor
  · rintro ⟨i, _, hi⟩
    obtain ⟨j, hj, e⟩ := mem_rfTo.mp hi
    obtain ⟨e1, e2, e3, e4, e5⟩ := goodB_D (by omega) e
    exact ⟨e1, ⟨by omega, by omega⟩, goodB_red (by omega) (by omega) (by omega) e, e5⟩
  · rintro ⟨e1, ⟨o1, o2⟩, hr, hg⟩
    have l3 := red_3 hr o1
    have a19 : f.a < 19 := by
      rcases Int.lt_or_le f.a 19 with z | z
      · exact z
      · exfalso
        have : 19 * 19 ≤ f.a * f.a := sq_le (x := 19) (by omega)
        rw [Int.mul_assoc] at l3
        omega
    obtain ⟨⟨h3, h4⟩, h5, h6⟩ := hr
    refine ⟨(f.a - 1).toNat, List.mem_range.mpr (by omega), mem_rfTo.mpr ⟨(f.b + f.a - 1).toNat, by omega, ?_⟩⟩
    rw [show (((f.a - 1).toNat : Nat) : Int) + 1 = f.a by omega, show 1 - f.a + (((f.b + f.a - 1).toNat : Nat) : Int) = f.b by omega]
    have key : f.b * f.b - d = 4 * f.a * f.c := by
      unfold Fm.D at e1
      omega
    unfold goodB
    rw [key, Int.mul_emod_right, Int.mul_ediv_cancel_left _ (by omega : 4 * f.a ≠ 0), if_pos ⟨rfl, by omega, hg⟩]
theorem rf_main {d : Int} (h0 : d < 0) (h1 : -1000 ≤ d) (h4 : d % 4 = 0 ∨ d % 4 = 1) : rfL d ≠ [] := by
  rcases h4 with h4 | h4
  · have : (⟨1, 0, -d / 4⟩ : Fm) ∈ rfL d := (mem_rfL h0 h1).mpr ⟨by unfold Fm.D; dsimp only; omega, ⟨by dsimp only; omega, by unfold Fm.D; dsimp only; omega⟩, ⟨⟨by dsimp only; omega, by dsimp only; omega⟩, by dsimp only; omega, by dsimp only; omega⟩, by simp⟩
    intro e
    rw [e] at this
    cases this
  · have : (⟨1, 1, (1 - d) / 4⟩ : Fm) ∈ rfL d := (mem_rfL h0 h1).mpr ⟨by unfold Fm.D; dsimp only; omega, ⟨by dsimp only; omega, by unfold Fm.D; dsimp only; omega⟩, ⟨⟨by dsimp only; omega, by dsimp only; omega⟩, by dsimp only; omega, by dsimp only; omega⟩, by simp⟩
    intro e
    rw [e] at this
    cases this
theorem rfTo_len {d a : Int} {j : Nat} : (rfTo d a j).length ≤ j := by
  unfold rfTo
  exact Nat.le_trans (List.length_filterMap_le _ _) (by simp)
theorem rfN_len {d : Int} : ∀ {n : Nat}, (rfN d n).length ≤ n * (2 * n)
  | 0 => by simp [rfN]
  | n + 1 => by
    rw [rfN_succ, List.length_append]
    have a := rfN_len (d := d) (n := n)
    have b : (rfRow d (n + 1)).length ≤ 2 * (n + 1) := Nat.le_trans rfTo_len (by omega)
    have c : n * (2 * n) ≤ n * (2 * (n + 1)) := Nat.mul_le_mul_left _ (by omega)
    have e : (n + 1) * (2 * (n + 1)) = n * (2 * (n + 1)) + 2 * (n + 1) := Nat.succ_mul ..
    omega
/-- the common divisor of a form's numbers stays -/
theorem gcd3_dvd {k : Nat} {f : Fm} : k ∣ Int.gcd ((Int.gcd f.a f.b : Nat) : Int) f.c ↔ (k : Int) ∣ f.a ∧ (k : Int) ∣ f.b ∧ (k : Int) ∣ f.c := by
  rw [Int.dvd_gcd_iff, Int.natCast_dvd_natCast, Int.dvd_gcd_iff, and_assoc]
theorem gcd3_act {f : Fm} {p q r s : Int} {k : Nat} (h : k ∣ Int.gcd ((Int.gcd f.a f.b : Nat) : Int) f.c) : k ∣ Int.gcd ((Int.gcd (f.act p q r s).a (f.act p q r s).b : Nat) : Int) (f.act p q r s).c := by
  obtain ⟨⟨u, hu⟩, ⟨v, hv⟩, ⟨w, hw⟩⟩ := gcd3_dvd.mp h
  refine gcd3_dvd.mpr ⟨⟨u * p * p + v * p * r + w * r * r, ?_⟩, ⟨2 * u * p * q + v * (p * s + q * r) + 2 * w * r * s, ?_⟩, ⟨u * q * q + v * q * s + w * s * s, ?_⟩⟩ <;> (unfold Fm.act; dsimp only; rw [hu, hv, hw]; grind)
theorem gcd3_eqv {f g : Fm} (h : f.eqv g) : Int.gcd ((Int.gcd f.a f.b : Nat) : Int) f.c = Int.gcd ((Int.gcd g.a g.b : Nat) : Int) g.c := by
  refine Nat.dvd_antisymm ?_ ?_
  · obtain ⟨p, q, r, s, _, rfl⟩ := h
    exact gcd3_act (Nat.dvd_refl _)
  · obtain ⟨p, q, r, s, _, e⟩ := h.symm
    have : Int.gcd ((Int.gcd g.a g.b : Nat) : Int) g.c ∣ Int.gcd ((Int.gcd (g.act p q r s).a (g.act p q r s).b : Nat) : Int) (g.act p q r s).c := gcd3_act (Nat.dvd_refl _)
    rwa [← e] at this
theorem rf_small {d : Int} (h0 : d < 0) (h1 : -1000 ≤ d) {f : Fm} (h : f ∈ rfL d) : f.a ≤ 18 ∧ -18 ≤ f.b ∧ f.b ≤ 18 ∧ 1 ≤ f.c ∧ f.c ≤ 400 := by
  obtain ⟨e, ok, hr, _⟩ := (mem_rfL h0 h1).mp h
  have hc := ok.c_pos
  have l3 := red_3 hr ok.1
  obtain ⟨o1, _⟩ := ok
  obtain ⟨⟨h3, h4⟩, h5, _⟩ := hr
  have a18 : f.a ≤ 18 := by
    rcases Int.lt_or_le f.a 19 with z | z
    · omega
    · exfalso
      have : 19 * 19 ≤ f.a * f.a := sq_le (x := 19) (by omega)
      rw [Int.mul_assoc] at l3
      omega
  have bb : f.b * f.b ≤ 18 * 18 := sq_le (by omega)
  have b0 := sq_nonneg f.b
  have ac : 1 * f.c ≤ f.a * f.c := Int.mul_le_mul_of_nonneg_right o1 (by omega)
  have e4 : 4 * f.a * f.c = 4 * (f.a * f.c) := Int.mul_assoc ..
  unfold Fm.D at e
  exact ⟨a18, by omega, by omega, hc, by omega⟩
/-! part m_row -/
def Fm.ns (f : Fm) : List Int := [f.a, f.b, f.c]
abbrev Fm.row (f : Fm) : List V := f.ns.map V.int
/-! part m_lsat -/
/-- the lists of a list of lists -/
def LsAt (H : Hp) : List Addr → List Fm → Prop
  | [], [] => True
  | y :: ys, f :: fs => H y = some (.lst f.row) ∧ LsAt H ys fs
  | _, _ => False
theorem LsAt.mono {H G : Hp} (s : Same H G) : ∀ {ys : List Addr} {fs : List Fm}, LsAt H ys fs → LsAt G ys fs
  | [], [], _ => trivial
  | _ :: _, _ :: _, h => ⟨s _ _ h.1, LsAt.mono s h.2⟩
  | [], _ :: _, h => h.elim
  | _ :: _, [], h => h.elim
theorem LsAt.other {H : Hp} {D : Addr} {o : HO} : ∀ {ys : List Addr} {fs : List Fm}, D ∉ ys → LsAt H ys fs → LsAt (upd H D o) ys fs
  | [], [], _, _ => trivial
  | y :: ys, _ :: _, n, h => ⟨by
      rw [upd_ne (fun e => n (by rw [e]; exact List.mem_cons_self))]
      exact h.1, LsAt.other (fun m => n (List.mem_cons_of_mem _ m)) h.2⟩
  | [], _ :: _, _, h => h.elim
  | _ :: _, [], _, h => h.elim
theorem LsAt.len {H : Hp} : ∀ {ys : List Addr} {fs : List Fm}, LsAt H ys fs → ys.length = fs.length
  | [], [], _ => rfl
  | _ :: _, _ :: _, h => by rw [List.length_cons, List.length_cons, LsAt.len h.2]
  | [], _ :: _, h => h.elim
  | _ :: _, [], h => h.elim
theorem LsAt.snoc {H : Hp} {y : Addr} {f : Fm} (hy : H y = some (.lst f.row)) : ∀ {ys : List Addr} {fs : List Fm}, LsAt H ys fs → LsAt H (ys ++ [y]) (fs ++ [f])
  | [], [], _ => ⟨hy, trivial⟩
  | _ :: _, _ :: _, h => ⟨h.1, LsAt.snoc hy h.2⟩
  | [], _ :: _, h => h.elim
  | _ :: _, [], h => h.elim
theorem LsAt.at {H : Hp} : ∀ {ys : List Addr} {fs : List Fm} {i : Nat} {y : Addr}, LsAt H ys fs → ys[i]? = some y → ∃ f : Fm, fs[i]? = some f ∧ H y = some (.lst f.row)
  | _ :: _, f :: _, 0, _, h, e => ⟨f, rfl, by cases e; exact h.1⟩
  | _ :: _, _ :: _, i + 1, _, h, e => LsAt.at (i := i) h.2 (by simpa using e)
  | [], _, _, _, _, e => by cases e
  | _ :: _, [], _, _, h, _ => h.elim
theorem LsAt.mem {H : Hp} {ys : List Addr} {fs : List Fm} {y : Addr} (h : LsAt H ys fs) (m : y ∈ ys) : ∃ f : Fm, H y = some (.lst f.row) := by
  obtain ⟨i, hi, e⟩ := List.mem_iff_getElem.mp m
  obtain ⟨f, _, hf⟩ := h.at (i := i) (by rw [List.getElem?_eq_getElem hi, e])
  exact ⟨f, hf⟩
theorem LsAt.but {p : Addr} {H G : Hp} (b : But p H G) : ∀ {ys : List Addr} {fs : List Fm}, p ∉ ys → LsAt H ys fs → LsAt G ys fs
  | [], [], _, _ => trivial
  | y :: ys, _ :: _, n, h => ⟨b _ _ (fun e => n (by rw [e]; exact List.mem_cons_self)) h.1, LsAt.but b (fun m => n (List.mem_cons_of_mem _ m)) h.2⟩
  | [], _ :: _, _, h => h.elim
  | _ :: _, [], _, h => h.elim
theorem LsAt.nmem {p : Addr} {H : Hp} {ys : List Addr} {fs : List Fm} (h : LsAt H ys fs) (f : H p = none) : p ∉ ys := fun m => by
  obtain ⟨g, hg⟩ := h.mem m
  rw [f] at hg
  cases hg
/-! part m_rowz -/
/-! lists of ints in a list, away from an address -/
def RowsZ (p : Addr) (H : Hp) : List Addr → List (List Int) → Prop
  | [], [] => True
  | a :: as, r :: rs => a ≠ p ∧ H a = some (.lst (r.map V.int)) ∧ RowsZ p H as rs
  | _, _ => False
theorem RowsZ.len {p : Addr} {H : Hp} : ∀ {as : List Addr} {rs : List (List Int)}, RowsZ p H as rs → as.length = rs.length
  | [], [], _ => rfl
  | _ :: as, _ :: rs, h => by simp [RowsZ.len h.2.2]
theorem RowsZ.but {p : Addr} {H G : Hp} (b : But p H G) : ∀ {as : List Addr} {rs : List (List Int)}, RowsZ p H as rs → RowsZ p G as rs
  | [], [], _ => trivial
  | _ :: _, _ :: _, h => ⟨h.1, b _ _ h.1 h.2.1, RowsZ.but b h.2.2⟩
theorem RowsZ.mono {p : Addr} {H G : Hp} (s : Same H G) {as : List Addr} {rs : List (List Int)} (h : RowsZ p H as rs) : RowsZ p G as rs := h.but (But.of s)
theorem RowsZ.app {p : Addr} {H : Hp} : ∀ {as bs : List Addr} {rs ss : List (List Int)}, RowsZ p H as rs → RowsZ p H bs ss → RowsZ p H (as ++ bs) (rs ++ ss)
  | [], _, [], _, _, k => k
  | _ :: _, _, _ :: _, _, h, k => ⟨h.1, h.2.1, RowsZ.app h.2.2 k⟩
theorem RowsZ.snoc {p a : Addr} {H : Hp} {as : List Addr} {rs : List (List Int)} {r : List Int} (h : RowsZ p H as rs) (n : a ≠ p) (e : H a = some (.lst (r.map V.int))) : RowsZ p H (as ++ [a]) (rs ++ [r]) := h.app ⟨n, e, trivial⟩
theorem RowsZ.re {p q : Addr} {H : Hp} : ∀ {as : List Addr} {rs : List (List Int)}, RowsZ p H as rs → (∀ a ∈ as, a ≠ q) → RowsZ q H as rs
  | [], [], _, _ => trivial
  | a :: _, _ :: _, h, n => ⟨n a List.mem_cons_self, h.2.1, RowsZ.re h.2.2 fun b hb => n b (List.mem_cons_of_mem _ hb)⟩
theorem RowsZ.ex {p : Addr} {H : Hp} : ∀ {as : List Addr} {rs : List (List Int)}, RowsZ p H as rs → ∀ a ∈ as, H a ≠ none
  | [], [], _, _, h => absurd h List.not_mem_nil
  | b :: _, _ :: _, h, a, ha => by
    rcases List.mem_cons.mp ha with e | e
    · rw [e, h.2.1]
      intro z
      cases z
    · exact RowsZ.ex h.2.2 a e
theorem RowsZ.free {p q : Addr} {H : Hp} {as : List Addr} {rs : List (List Int)} (h : RowsZ p H as rs) (f : H q = none) : RowsZ q H as rs := h.re fun a ha e => h.ex a ha (e ▸ f)
theorem RowsZ.at {p : Addr} {H : Hp} : ∀ {as : List Addr} {rs : List (List Int)} {i : Nat} {v : V}, RowsZ p H as rs → (as.map V.ref)[i]? = some v → ∃ a r, v = .ref a ∧ as[i]? = some a ∧ rs[i]? = some r ∧ a ≠ p ∧ H a = some (.lst (r.map V.int))
  | [], [], i, v, _, h => by simp at h
  | a :: _, r :: _, 0, v, k, h => ⟨a, r, by simpa using h.symm, rfl, rfl, k.1, k.2.1⟩
  | _ :: _, _ :: _, i + 1, v, k, h => RowsZ.at (i := i) k.2.2 (by simpa using h)
/-! part m_back -/
/-! part m_turn -/
theorem Fm.st_bd {n : Nat} {f : Fm} {k : Int} (hb : Fm.bd n f) (hk : Bd 3 k) : Fm.bd (n + 10) (f.st k) := by
  obtain ⟨ba, bb, bc⟩ := hb
  unfold Fm.st
  split
  · exact ⟨bc.mono (by omega), bb.neg.mono (by omega), ba.mono (by omega)⟩
  · have b2 : Bd 3 2 := ⟨by decide⟩
    exact ⟨ba.mono (by omega), (bb.add ((b2.mul ba).mul hk)).mono (by omega), ((((ba.mul hk).mul hk).add (bb.mul hk)).add bc).mono (by omega)⟩
theorem Fm.turn_bd {n : Nat} {f : Fm} (hb : Fm.bd n f) : ∀ {ks : List Int}, (∀ k ∈ ks, Bd 3 k) → Fm.bd (n + 10 * ks.length) (f.turn ks)
  | [], _ => hb
  | k :: ks, h => by
    have := Fm.turn_bd (Fm.st_bd hb (h k (List.mem_cons_self ..))) (ks := ks) fun j hj => h j (List.mem_cons_of_mem _ hj)
    exact Fm.bd.mono this (by rw [List.length_cons]; omega)
theorem Fm.turn_bds {n : Nat} {f : Fm} (hb : Fm.bd n f) {ks : List Int} (h : ∀ k ∈ ks, Bd 3 k) (i : Nat) (hi : i ≤ ks.length) : Fm.bd (n + 10 * ks.length) (f.turn (ks.take i)) :=
  Fm.bd.mono (Fm.turn_bd hb fun k hk => h k (List.mem_of_mem_take hk)) (by rw [List.length_take]; omega)
/-! part m_prime -/
namespace QR
def Pm (p : Int) : Prop := 2 ≤ p ∧ ∀ d : Int, 2 ≤ d → d < p → ¬ d ∣ p
/-- an odd prime -/
def OP (n : Int) : Prop := Pm n ∧ n % 2 = 1
theorem pm_two : Pm 2 := ⟨by omega, fun d h1 h2 => by omega⟩
theorem pm_odd {n : Int} (h : Pm n) (h3 : 3 ≤ n) : n % 2 = 1 := by
  rcases Int.emod_two_eq n with z | z
  · exact absurd (Int.dvd_of_emod_eq_zero z) (h.2 2 (by omega) (by omega))
  · exact z
open Classical in
noncomputable instance decPm (n : Int) : Decidable (Pm n) := Classical.propDecidable _
noncomputable instance decOP (n : Int) : Decidable (OP n) := instDecidableAnd
end QR
/-! part m_side -/
/-! part m_ways -/
def lexlt (r s : Int × Int) : Prop := r.1 < s.1 ∨ r.1 = s.1 ∧ r.2 < s.2
/-- all points of this value, each once -/
structure WaySet (f : Fm) (m : Int) (rs : List (Int × Int)) : Prop where
  mem : ∀ r, r ∈ rs ↔ f.at r.1 r.2 = m
  nd : rs.Nodup
/-- in order -/
structure WaysOf (f : Fm) (m : Int) (rs : List (Int × Int)) : Prop where
  mem : ∀ r, r ∈ rs ↔ f.at r.1 r.2 = m
  inc : rs.Pairwise lexlt
theorem WaysOf.set {f : Fm} {m : Int} {rs : List (Int × Int)} (h : WaysOf f m rs) : WaySet f m rs := ⟨h.mem, h.inc.imp fun h e => by
  subst e
  unfold lexlt at h
  omega⟩
theorem lex_uniq : ∀ {a b : List (Int × Int)}, a.Pairwise lexlt → b.Pairwise lexlt → (∀ k, k ∈ a ↔ k ∈ b) → a = b
  | [], [], _, _, _ => rfl
  | [], y :: b, _, _, h => absurd ((h y).mpr List.mem_cons_self) List.not_mem_nil
  | x :: a, [], _, _, h => absurd ((h x).mp List.mem_cons_self) List.not_mem_nil
  | x :: a, y :: b, ha, hb, h => by
    obtain ⟨a1, a2⟩ := List.pairwise_cons.mp ha
    obtain ⟨b1, b2⟩ := List.pairwise_cons.mp hb
    have irr : ∀ {u v : Int × Int}, lexlt u v → lexlt v u → False := fun h k => by
      unfold lexlt at h k
      omega
    have irr1 : ∀ {u : Int × Int}, lexlt u u → False := fun h => irr h h
    have e : x = y := by
      rcases List.mem_cons.mp ((h x).mp List.mem_cons_self) with e | m1
      · exact e
      · rcases List.mem_cons.mp ((h y).mpr List.mem_cons_self) with e | m2
        · exact e.symm
        · exact (irr (b1 x m1) (a1 y m2)).elim
    subst e
    rw [lex_uniq a2 b2 fun k => ?_]
    constructor
    · intro hk
      rcases List.mem_cons.mp ((h k).mp (List.mem_cons_of_mem _ hk)) with e | z
      · rw [e] at hk
        exact (irr1 (a1 x hk)).elim
      · exact z
    · intro hk
      rcases List.mem_cons.mp ((h k).mpr (List.mem_cons_of_mem _ hk)) with e | z
      · rw [e] at hk
        exact (irr1 (b1 x hk)).elim
      · exact z
theorem WaysOf.uniq {f : Fm} {m : Int} {rs ss : List (Int × Int)} (h : WaysOf f m rs) (k : WaysOf f m ss) : rs = ss := lex_uniq h.inc k.inc fun r => by rw [h.mem, k.mem]
theorem nodup_len : ∀ {l s : List (Int × Int)}, l.Nodup → (∀ k ∈ l, k ∈ s) → l.length ≤ s.length
  | [], s, _, _ => Nat.zero_le _
  | k :: l, s, h, hs => by
    have hk := hs k List.mem_cons_self
    obtain ⟨h1, h2⟩ := List.nodup_cons.mp h
    have := nodup_len (l := l) (s := s.erase k) h2 fun j hj => (List.mem_erase_of_ne fun (e : j = k) => h1 (e ▸ hj)).mpr (hs j (List.mem_cons_of_mem _ hj))
    rw [List.length_erase_of_mem hk] at this
    have := List.length_pos_of_mem hk
    rw [List.length_cons]
    omega
theorem WaySet.len {f : Fm} {m : Int} {rs ss : List (Int × Int)} (h : WaySet f m rs) (k : WaySet f m ss) : rs.length = ss.length :=
  Nat.le_antisymm (nodup_len h.nd fun r hr => (k.mem r).mpr ((h.mem r).mp hr)) (nodup_len k.nd fun r hr => (h.mem r).mpr ((k.mem r).mp hr))
/-! ### looking along all y -/
structure PlainSo (f : Fm) (m y : Int) (rs : List (Int × Int)) : Prop where
  mem : ∀ r, r ∈ rs ↔ f.at r.1 r.2 = m ∧ -y < r.2 ∧ r.2 < y
  nd : rs.Nodup
  len : (rs.length : Int) ≤ 4 * y
structure PlainIn (f : Fm) (rs0 ps rs : List (Int × Int)) : Prop where
  mem : ∀ r, r ∈ rs ↔ r ∈ rs0 ∨ (2 * f.a * r.1 + f.b * r.2, r.2) ∈ ps
  nd : rs.Nodup
  len : rs.length ≤ rs0.length + ps.length
section
variable {f : Fm} {m y : Int} {rs rs0 ps : List (Int × Int)} {u h : Int}
theorem PlainIn.nil (n : rs0.Nodup) : PlainIn f rs0 [] rs0 := ⟨fun r => by simp, n, by simp⟩
theorem ediv_key {a n x : Int} (ha : 1 ≤ a) (h : n % (2 * a) = 0) : 2 * a * x = n ↔ x = n / (2 * a) := by
  have e := Int.mul_ediv_add_emod n (2 * a)
  rw [h] at e
  constructor
  · intro z
    rw [← z]
    exact (Int.mul_ediv_cancel_left _ (by omega)).symm
  · intro z
    subst z
    omega
theorem PlainIn.put (p : PlainIn f rs0 ps rs) (ha : 1 ≤ f.a) (hd : (u - f.b * h) % (2 * f.a) = 0) (hn : ((u - f.b * h) / (2 * f.a), h) ∉ rs) : PlainIn f rs0 (ps ++ [(u, h)]) (rs ++ [((u - f.b * h) / (2 * f.a), h)]) := by
  refine ⟨fun r => ?_, List.nodup_append.mpr ⟨p.nd, by simp, fun a ha b hb e => hn ?_⟩, by simp only [List.length_append, List.length_singleton]; have := p.len; omega⟩
  · rw [List.mem_append, p.mem, List.mem_append, List.mem_singleton, List.mem_singleton, or_assoc]
    refine or_congr Iff.rfl (or_congr Iff.rfl ?_)
    obtain ⟨x, z⟩ := r
    have := ediv_key (x := x) ha hd
    simp only [Prod.mk.injEq]
    constructor
    · rintro ⟨rfl, rfl⟩
      exact ⟨by have := (ediv_key (x := (u - f.b * z) / (2 * f.a)) ha hd).mpr rfl; omega, rfl⟩
    · rintro ⟨e, rfl⟩
      exact ⟨this.mp (by omega), rfl⟩
  · rw [List.mem_singleton.mp hb] at e
    rw [← e]
    exact ha
/-- a new pair is no old point -/
theorem PlainIn.fresh (p : PlainIn f rs0 ps rs) (ha : 1 ≤ f.a) (hd : (u - f.b * h) % (2 * f.a) = 0) (h0 : ∀ r ∈ rs0, r.2 ≠ h) (hp : (u, h) ∉ ps) : ((u - f.b * h) / (2 * f.a), h) ∉ rs := by
  rw [p.mem]
  rintro (z | z)
  · exact h0 _ z rfl
  · dsimp only at z
    rw [(ediv_key ha hd).mpr rfl, show u - f.b * h + f.b * h = u by omega] at z
    exact hp z
/-- a row done -/
theorem PlainSo.next (s : PlainSo f m y rs0) (p : PlainIn f rs0 ps rs) (ha : 1 ≤ f.a) (y0 : 0 ≤ y) (l4 : ps.length ≤ 4) (hps : ∀ u h, (u, h) ∈ ps ↔ u * u = 4 * f.a * m + f.D * (y * y) ∧ (h = y ∨ h = -y)) : PlainSo f m (y + 1) rs := by
  refine ⟨fun r => ?_, p.nd, by have := p.len; have := s.len; omega⟩
  rw [p.mem, s.mem, hps]
  have key : (2 * f.a * r.1 + f.b * r.2) * (2 * f.a * r.1 + f.b * r.2) = 4 * f.a * m + f.D * (r.2 * r.2) ↔ f.at r.1 r.2 = m := by
    have e := Fm.at_D f r.1 r.2
    constructor
    · intro z
      have : 4 * f.a * f.at r.1 r.2 = 4 * f.a * m := by omega
      exact Int.eq_of_mul_eq_mul_left (by omega) this
    · intro z
      rw [← z]
      omega
  constructor
  · rintro (⟨h1, h2, h3⟩ | ⟨h1, h2⟩)
    · exact ⟨h1, by omega, by omega⟩
    · have e : r.2 * r.2 = y * y := by
        rcases h2 with h2 | h2
        · rw [h2]
        · rw [h2, Int.neg_mul_neg]
      rw [← e] at h1
      exact ⟨key.mp h1, by omega, by omega⟩
  · rintro ⟨h1, h2, h3⟩
    by_cases c : -y < r.2 ∧ r.2 < y
    · exact .inl ⟨h1, c.1, c.2⟩
    · have h4 : r.2 = y ∨ r.2 = -y := by omega
      have e : r.2 * r.2 = y * y := by
        rcases h4 with h4 | h4
        · rw [h4]
        · rw [h4, Int.neg_mul_neg]
      refine .inr ⟨?_, h4⟩
      rw [← e]
      exact key.mpr h1
end
/-! part m_sortp -/
/-! part m_ways2 -/
/-! part m_cut -/
/-! part m_path -/
/-- what a comprehension of draws has made -/
def PathOk (r : Int) (i : Nat) (ys : List V) : Prop := ∃ ks : List Int, ys = ks.map V.int ∧ ks.length = i ∧ ∀ k ∈ ks, -r ≤ k ∧ k ≤ r
theorem PathOk.nil {r : Int} : PathOk r 0 [] := ⟨[], rfl, rfl, fun k hk => absurd hk List.not_mem_nil⟩
theorem PathOk.snoc {r : Int} {i : Nat} {ks : List Int} {z : Int} (h1 : ks.length = i) (h2 : ∀ k ∈ ks, -r ≤ k ∧ k ≤ r) (hz : -r ≤ z ∧ z ≤ r) : PathOk r (i + 1) (ks.map V.int ++ [.int z]) :=
  ⟨ks ++ [z], by rw [List.map_append]; rfl, by rw [List.length_append]; simp [h1], fun k hk => by
    rcases List.mem_append.mp hk with hk | hk
    · exact h2 k hk
    · rw [List.mem_singleton.mp hk]
      exact hz⟩
/-! part m_k95 -/
/-- a path that keeps the numbers of a form small enough -/
structure PathSm (f : Fm) (ks : List Int) : Prop where
  bds : ∀ i, i ≤ ks.length → Fm.bd 200 (f.turn (ks.take i))
  kb : ∀ k ∈ ks, Bd 60 k
  len : ks.length ≤ 7
theorem PathSm.all {f : Fm} {ks : List Int} (h : PathSm f ks) : Fm.bd 200 (f.turn ks) := by
  have := h.bds ks.length (Nat.le_refl _)
  rwa [List.take_length] at this
/-! part m_signs -/
/-! part m_qr -/
namespace QR
/-- the sign of the absolutely least rest, to the modulus 2 h + 1 -/
def sg (h : Nat) (a : Int) : Int :=
  if a % (2 * h + 1) = 0 then 0 else if a % (2 * h + 1) ≤ h then 1 else -1
theorem small_dvd {m x : Int} (hd : m ∣ x) (h1 : -m < x) (h2 : x < m) : x = 0 := by
  rcases Int.lt_trichotomy x 0 with h | h | h
  · have := Int.le_of_dvd (show 0 < -x by omega) (Int.dvd_neg.mpr hd)
    omega
  · exact h
  · have := Int.le_of_dvd h hd
    omega
theorem cop_dvd {b m : Int} (hc : Int.gcd b m = 1) {x : Int} (hd : m ∣ b * x) : m ∣ x := by
  have h1 : m.natAbs ∣ b.natAbs * x.natAbs := by
    rw [← Int.natAbs_mul]
    exact Int.natAbs_dvd_natAbs.mpr hd
  have h2 : m.natAbs.Coprime b.natAbs := by
    unfold Nat.Coprime
    rw [Nat.gcd_comm]
    exact hc
  exact Int.natAbs_dvd_natAbs.mp (h2.dvd_of_dvd_mul_left h1)
end QR
/-! part m_euler -/
namespace QR
theorem Pm.cop {p : Int} (hp : Pm p) {x : Int} (hx : ¬ p ∣ x) : Int.gcd x p = 1 := by
  have hd := Int.gcd_dvd_right x p
  have hl := Int.gcd_dvd_left x p
  have h2 := hp.1
  have hle := Int.le_of_dvd (by omega) hd
  generalize hg : Int.gcd x p = g at *
  by_cases h1 : (g : Int) = p
  · rw [h1] at hl
    exact absurd hl hx
  · by_cases h0 : g = 0
    · rw [h0] at hd
      have := Int.zero_dvd.mp hd
      omega
    · have := hp.2 g
      by_cases hz : g = 1
      · exact hz
      · exact absurd hd (this (by omega) (by omega))
theorem Pm.dvd_mul {p : Int} (hp : Pm p) {x y : Int} (h : p ∣ x * y) : p ∣ x ∨ p ∣ y := by
  by_cases hx : p ∣ x
  · exact .inl hx
  · exact .inr (cop_dvd (hp.cop hx) h)
section
variable {h : Nat} (hp : Pm (2 * h + 1))
include hp
theorem uniq {a x y z : Int} (hx : ¬ (2 * (h : Int) + 1) ∣ x) (h1 : (2 * (h : Int) + 1) ∣ x * y - a) (h2 : (2 * (h : Int) + 1) ∣ x * z - a) (hy : 0 < y ∧ y ≤ 2 * h) (hz : 0 < z ∧ z ≤ 2 * h) : y = z := by
  obtain ⟨u, hu⟩ := h1
  obtain ⟨v, hv⟩ := h2
  have := small_dvd (cop_dvd (x := y - z) (hp.cop hx) ⟨u - v, by grind⟩) (by omega) (by omega)
  omega
end
end QR
/-! part m_cop -/
namespace QR
theorem exists_pm : ∀ (n : Nat), 2 ≤ n → ∃ p : Int, Pm p ∧ p ∣ (n : Int) := by
  intro n
  induction n using Nat.strongRecOn with
  | _ n ih =>
    intro h2
    by_cases hp : Pm (n : Int)
    · exact ⟨n, hp, Int.dvd_refl _⟩
    · have : ∃ d : Int, 2 ≤ d ∧ d < n ∧ d ∣ (n : Int) := Classical.byContradiction fun h => hp ⟨by omega, fun d a b c => h ⟨d, a, b, c⟩⟩
      obtain ⟨d, a, b, c⟩ := this
      obtain ⟨p, q1, q2⟩ := ih d.toNat (by omega) (by omega)
      rw [show ((d.toNat : Nat) : Int) = d by omega] at q2
      exact ⟨p, q1, Int.dvd_trans q2 c⟩
theorem dvd_gcd {d x m : Int} (h : d ∣ x) (k : d ∣ m) : d ∣ ((Int.gcd x m : Nat) : Int) := Int.dvd_coe_gcd h k
/-- coprime: no prime divides both -/
theorem cop_iff {x m : Int} : Int.gcd x m = 1 ↔ ∀ p : Int, Pm p → p ∣ x → ¬ p ∣ m := by
  constructor
  · intro h p hp a b
    have := dvd_gcd a b
    rw [h] at this
    have := Int.le_of_dvd (by decide) this
    have := hp.1
    omega
  · intro h
    rcases Nat.lt_or_ge (Int.gcd x m) 2 with z | z
    · rcases Nat.lt_or_ge 0 (Int.gcd x m) with y | y
      · omega
      · exfalso
        have e : Int.gcd x m = 0 := by omega
        obtain ⟨e1, e2⟩ := Int.gcd_eq_zero_iff.mp e
        subst e1 e2
        exact h 2 pm_two (Int.dvd_zero 2) (Int.dvd_zero 2)
    · obtain ⟨p, hp, hd⟩ := exists_pm _ z
      exact absurd (Int.dvd_trans hd (Int.gcd_dvd_right ..)) (h p hp (Int.dvd_trans hd (Int.gcd_dvd_left ..)))
theorem cop_dvd_right {x m n : Int} (h : Int.gcd x m = 1) (d : n ∣ m) : Int.gcd x n = 1 := cop_iff.mpr fun p hp a b => cop_iff.mp h p hp a (Int.dvd_trans b d)
theorem cop_congr {x y m : Int} (h : m ∣ x - y) : Int.gcd x m = 1 ↔ Int.gcd y m = 1 := by
  have key : ∀ x y : Int, m ∣ x - y → Int.gcd x m = 1 → Int.gcd y m = 1 := fun x y h hx => cop_iff.mpr fun p hp a b => cop_iff.mp hx p hp (by
    have := Int.dvd_add (Int.dvd_trans b h) a
    rwa [Int.sub_add_cancel] at this) b
  refine ⟨key x y h, key y x ?_⟩
  obtain ⟨k, hk⟩ := h
  exact ⟨-k, by rw [Int.mul_neg, ← hk]; omega⟩
theorem dvd_sub_emod (x m : Int) : m ∣ x - x % m := ⟨x / m, by have := Int.mul_ediv_add_emod x m; omega⟩
theorem cop_emod {x m : Int} : Int.gcd (x % m) m = 1 ↔ Int.gcd x m = 1 := (cop_congr (dvd_sub_emod x m)).symm
theorem cop_mul {x m n : Int} (h : Int.gcd x m = 1) (k : Int.gcd x n = 1) : Int.gcd x (m * n) = 1 := cop_iff.mpr fun p hp a b => (Pm.dvd_mul hp b).elim (cop_iff.mp h p hp a) (cop_iff.mp k p hp a)
theorem dvd_of_emod_eq {x y m : Int} (h : x % m = y % m) : m ∣ x - y := Int.dvd_of_emod_eq_zero (Int.emod_eq_emod_iff_emod_sub_eq_zero.mp h)
theorem pm_cop {p m : Int} (hp : Pm p) : Int.gcd p m = 1 ↔ ¬ p ∣ m := by
  constructor
  · intro h d
    exact cop_iff.mp h p hp (Int.dvd_refl p) d
  · intro h
    refine cop_iff.mpr fun q hq a b => ?_
    have q2 := hq.1
    have hle := Int.le_of_dvd (by have := hp.1; omega) a
    rcases Int.lt_or_eq_of_le hle with z | z
    · exact hp.2 q q2 z a
    · exact h (z ▸ b)
end QR
/-- the ints from 0 on below m coprime to it -/
def uL (m : Int) : List Int := ((List.range m.toNat).map (fun i : Nat => (i : Int))).filter (fun r => decide (Int.gcd r m = 1))
theorem mem_uL {m k : Int} : k ∈ uL m ↔ 0 ≤ k ∧ k < m ∧ Int.gcd k m = 1 := by
  unfold uL
  rw [List.mem_filter, decide_eq_true_iff, List.mem_map]
  constructor
  · rintro ⟨⟨i, hi, rfl⟩, h⟩
    rw [List.mem_range] at hi
    exact ⟨by omega, by omega, h⟩
  · rintro ⟨a, b, h⟩
    exact ⟨⟨k.toNat, List.mem_range.mpr (by omega), by omega⟩, h⟩
/-! part m_factors -/
def prodF : List (Int × Nat) → Int
  | [] => 1
  | x :: l => x.1 ^ x.2 * prodF l
/-- the primes of a number with their exponents -/
structure FacOk (n : Int) (fs : List (Int × Nat)) : Prop where
  prod : prodF fs = n
  prime : ∀ x, x ∈ fs → QR.Pm x.1 ∧ 1 ≤ x.2
  asc : fs.Pairwise fun a b => a.1 < b.1
theorem prodF_snoc (x : Int × Nat) : ∀ fs : List (Int × Nat), prodF (fs ++ [x]) = prodF fs * x.1 ^ x.2
  | [] => by simp [prodF]
  | y :: l => by
    simp only [List.cons_append, prodF]
    rw [prodF_snoc x l, Int.mul_assoc]
theorem prodF_big : ∀ fs : List (Int × Nat), (∀ x, x ∈ fs → QR.Pm x.1 ∧ 1 ≤ x.2) → (2 : Int) ^ fs.length ≤ prodF fs
  | [], _ => by simp [prodF]
  | x :: l, h => by
    have hx := h x (List.mem_cons_self ..)
    have ih := prodF_big l fun y hy => h y (List.mem_cons_of_mem _ hy)
    have h2 := hx.1.1
    obtain ⟨e, he⟩ : ∃ e, x.2 = e + 1 := ⟨x.2 - 1, by omega⟩
    have p1 : (1 : Int) ≤ x.1 ^ e := Int.pow_pos (by omega)
    have p0 : (0 : Int) < 2 ^ l.length := Int.pow_pos (by decide)
    simp only [prodF, List.length_cons]
    rw [he, Int.pow_succ, Int.pow_succ, Int.mul_comm (2 ^ l.length) 2]
    have p2 : 2 ≤ x.1 ^ e * x.1 := by
      have : 1 * x.1 ≤ x.1 ^ e * x.1 := Int.mul_le_mul_of_nonneg_right p1 (by omega)
      omega
    have a1 : 2 * 2 ^ l.length ≤ (x.1 ^ e * x.1) * 2 ^ l.length := Int.mul_le_mul_of_nonneg_right p2 (by omega)
    have a2 : (x.1 ^ e * x.1) * 2 ^ l.length ≤ (x.1 ^ e * x.1) * prodF l := Int.mul_le_mul_of_nonneg_left ih (by omega)
    omega
/-- while the factors are found: fs so far, n left, d next -/
structure FacInv (n0 n d : Int) (fs : List (Int × Nat)) : Prop where
  pos : 1 ≤ n
  two : 2 ≤ d
  prod : prodF fs * n = n0
  prime : ∀ x, x ∈ fs → QR.Pm x.1 ∧ 1 ≤ x.2 ∧ x.1 < d
  asc : fs.Pairwise fun a b => a.1 < b.1
  none : ∀ e : Int, 2 ≤ e → e < d → ¬ e ∣ n
theorem FacInv.len {n0 n d : Int} {fs : List (Int × Nat)} (h : FacInv n0 n d fs) (hn : n0 < 2 ^ 100) : fs.length < 100 := by
  have a := prodF_big fs fun x hx => ⟨(h.prime x hx).1, (h.prime x hx).2.1⟩
  have p0 : (0 : Int) < 2 ^ fs.length := Int.pow_pos (by decide)
  have b : prodF fs * 1 ≤ prodF fs * n := Int.mul_le_mul_of_nonneg_left h.pos (by omega)
  rw [h.prod] at b
  rcases Nat.lt_or_ge fs.length 100 with z | z
  · exact z
  · exfalso
    have : (2 : Int) ^ 100 ≤ 2 ^ fs.length := by
      have := Nat.pow_le_pow_right (show 0 < 2 by decide) z
      exact_mod_cast this
    omega
theorem FacInv.next {n0 n d m : Int} {e : Nat} {fs : List (Int × Nat)} (h : FacInv n0 n d fs) (he : 0 < e) (hm : m * d ^ e = n) (hm0 : 1 ≤ m) (hd : ¬ d ∣ m) : FacInv n0 m (d + 1) (fs ++ [(d, e)]) := by
  have h2 := h.two
  have dn : d ∣ n := by
    obtain ⟨k, rfl⟩ : ∃ k, e = k + 1 := ⟨e - 1, by omega⟩
    exact ⟨m * d ^ k, by rw [← hm, Int.pow_succ]; grind⟩
  have mn : m ∣ n := ⟨d ^ e, hm.symm⟩
  refine ⟨hm0, by omega, ?_, ?_, ?_, ?_⟩
  · rw [prodF_snoc, ← h.prod, ← hm]
    grind
  · intro x hx
    rcases List.mem_append.mp hx with hx | hx
    · exact ⟨(h.prime x hx).1, (h.prime x hx).2.1, by have := (h.prime x hx).2.2; omega⟩
    · rw [List.mem_singleton.mp hx]
      refine ⟨⟨h2, fun c c1 c2 c3 => h.none c c1 c2 (Int.dvd_trans c3 dn)⟩, he, ?_⟩
      show d < d + 1
      omega
  · rw [List.pairwise_append]
    refine ⟨h.asc, List.pairwise_singleton .., fun a ha b hb => ?_⟩
    rw [List.mem_singleton.mp hb]
    exact (h.prime a ha).2.2
  · intro c c1 c2 c3
    by_cases hc : c = d
    · rw [hc] at c3
      exact hd c3
    · exact h.none c c1 (by omega) (Int.dvd_trans c3 mn)
/-! part m_germ -/
/-- rests modulo m tell no less modulo s -/
def Lv (m : Int) (R : List Int) (s : Int) : Prop := ∀ x y : Int, Int.gcd x m = 1 → Int.gcd y m = 1 → s ∣ x - y → (x % m ∈ R ↔ y % m ∈ R)
/-- the same told by a smaller modulus -/
structure Sub (m : Int) (R : List Int) (m' : Int) (R' : List Int) : Prop where
  dvd : m' ∣ m
  same : ∀ x : Int, Int.gcd x m = 1 → (x % m' ∈ R' ↔ x % m ∈ R)
theorem Sub.refl (m : Int) (R : List Int) : Sub m R m R := ⟨Int.dvd_refl m, fun _ _ => Iff.rfl⟩
theorem Sub.trans {m m1 m2 : Int} {R R1 R2 : List Int} (a : Sub m R m1 R1) (b : Sub m1 R1 m2 R2) : Sub m R m2 R2 := ⟨Int.dvd_trans b.dvd a.dvd, fun x h => (b.same x (QR.cop_dvd_right h a.dvd)).trans (a.same x h)⟩
structure Desc (m : Int) (R S : List Int) : Prop where
  pos : 1 ≤ m
  rests : ∀ r ∈ R, 0 ≤ r ∧ r < m ∧ Int.gcd r m = 1
  singles : ∀ p ∈ S, QR.OP p
def toldP (m : Int) (R : List Int) (p : Int) : Prop := ¬ p ∣ m ∧ p % m ∈ R
instance (m : Int) (R : List Int) (p : Int) : Decidable (toldP m R p) := inferInstanceAs (Decidable (¬ p ∣ m ∧ p % m ∈ R))
def memP (m : Int) (R S : List Int) (p : Int) : Prop := ¬ (toldP m R p ↔ p ∈ S)
instance (m : Int) (R S : List Int) (p : Int) : Decidable (memP m R S p) := inferInstanceAs (Decidable (¬ (toldP m R p ↔ p ∈ S)))
/-- what shortening shows -/
structure Short (m : Int) (R : List Int) (s : Int) (L : List Int) : Prop where
  inc : L.Pairwise (· < ·)
  mem : ∀ k ∈ L, k ∈ uL s
  same : ∀ x : Int, Int.gcd x m = 1 → (x % s ∈ L ↔ x % m ∈ R)
def liftsL (r s q : Int) : List Int := (List.range q.toNat).map fun k : Nat => r + (0 + (k : Int)) * s
def lftL (m r s q : Int) : List Int := (liftsL r s q).filter fun l => decide (Int.gcd l m = 1)
section
variable {m s q r : Int} {R : List Int}
theorem mem_lifts {l : Int} : l ∈ liftsL r s q ↔ ∃ k : Int, 0 ≤ k ∧ k < q ∧ l = r + k * s := by
  unfold liftsL
  rw [List.mem_map]
  constructor
  · rintro ⟨k, hk, rfl⟩
    rw [List.mem_range] at hk
    exact ⟨k, by omega, by omega, by rw [Int.zero_add]⟩
  · rintro ⟨k, a, b, rfl⟩
    exact ⟨k.toNat, List.mem_range.mpr (by omega), by rw [Int.zero_add, show ((k.toNat : Nat) : Int) = k by omega]⟩
theorem lift_bound {k : Int} (hs : 0 < s) (hm : m = s * q) (r0 : 0 ≤ r) (r1 : r < s) (k0 : 0 ≤ k) (k1 : k < q) : 0 ≤ r + k * s ∧ r + k * s < m := by
  have a : 0 ≤ k * s := Int.mul_nonneg k0 (by omega)
  have b : k * s ≤ (q - 1) * s := Int.mul_le_mul_of_nonneg_right (by omega) (by omega)
  have c : (q - 1) * s = s * q - s := by grind
  omega
theorem lift_mod {k : Int} (r0 : 0 ≤ r) (r1 : r < s) : (r + k * s) % s = r := by
  rw [Int.add_mul_emod_self_right, Int.emod_eq_of_lt r0 r1]
/-- a coprime lift there is -/
theorem lft_ne (hq : QR.Pm q) (hs : 0 < s) (hm : m = s * q) (hr : r ∈ uL s) : lftL m r s q ≠ [] := by
  obtain ⟨r0, r1, rc⟩ := mem_uL.mp hr
  have q2 := hq.1
  have c0 : ∀ k : Int, Int.gcd (r + k * s) s = 1 := fun k => (QR.cop_congr (y := r) ⟨k, by rw [Int.mul_comm]; omega⟩).mpr rc
  have : ∃ k : Int, 0 ≤ k ∧ k < q ∧ Int.gcd (r + k * s) m = 1 := by
    by_cases a : q ∣ r
    · refine ⟨1, by omega, by omega, ?_⟩
      rw [hm]
      refine QR.cop_mul (c0 1) (QR.cop_iff.mpr fun p hp b c => ?_)
      have pq : p = q := by
        rcases Int.lt_or_eq_of_le (Int.le_of_dvd (by omega) c) with z | z
        · exact absurd c (hq.2 p hp.1 z)
        · exact z
      subst pq
      have d : p ∣ s := by
        have := Int.dvd_sub b a
        rwa [Int.one_mul, Int.add_comm, Int.add_sub_cancel] at this
      exact QR.cop_iff.mp rc p hp a d
    · refine ⟨0, by omega, by omega, ?_⟩
      rw [hm, Int.zero_mul, Int.add_zero]
      refine QR.cop_mul rc (QR.cop_iff.mpr fun p hp b c => ?_)
      have pq : p = q := by
        rcases Int.lt_or_eq_of_le (Int.le_of_dvd (by omega) c) with z | z
        · exact absurd c (hq.2 p hp.1 z)
        · exact z
      exact a (pq ▸ b)
  obtain ⟨k, k0, k1, kc⟩ := this
  intro e
  have : r + k * s ∈ lftL m r s q := List.mem_filter.mpr ⟨mem_lifts.mpr ⟨k, k0, k1, rfl⟩, decide_eq_true kc⟩
  rw [e] at this
  cases this
theorem lft_prop (hs : 0 < s) (hm : m = s * q) (hr : r ∈ uL s) {l : Int} (hl : l ∈ lftL m r s q) : Int.gcd l m = 1 ∧ l % m = l ∧ l % s = r := by
  obtain ⟨r0, r1, rc⟩ := mem_uL.mp hr
  obtain ⟨a, b⟩ := List.mem_filter.mp hl
  obtain ⟨k, k0, k1, rfl⟩ := mem_lifts.mp a
  obtain ⟨b0, b1⟩ := lift_bound hs hm r0 r1 k0 k1
  exact ⟨of_decide_eq_true b, Int.emod_eq_of_lt b0 b1, lift_mod r0 r1⟩
/-- kept so far: of the units in us -/
structure Kept (m : Int) (R : List Int) (s : Int) (us L : List Int) : Prop where
  inc : L.Pairwise (· < ·)
  mem : ∀ k ∈ L, k ∈ us
  same : ∀ x : Int, Int.gcd x m = 1 → x % s ∈ us → (x % s ∈ L ↔ x % m ∈ R)
theorem Kept.nil : Kept m R s [] [] := ⟨List.Pairwise.nil, fun _ h => absurd h List.not_mem_nil, fun _ _ h => absurd h List.not_mem_nil⟩
theorem Kept.put {us L : List Int} (h : Kept m R s us L) (hlt : ∀ k ∈ us, k < r) (hall : ∀ x : Int, Int.gcd x m = 1 → x % s = r → x % m ∈ R) : Kept m R s (us ++ [r]) (L ++ [r]) := by
  refine ⟨List.pairwise_append.mpr ⟨h.inc, List.pairwise_singleton .., fun a ha b hb => by rw [List.mem_singleton.mp hb]; exact hlt a (h.mem a ha)⟩, fun k hk => ?_, fun x hx hu => ?_⟩
  · rcases List.mem_append.mp hk with hk | hk
    · exact List.mem_append_left _ (h.mem k hk)
    · exact List.mem_append_right _ hk
  · rcases List.mem_append.mp hu with hu | hu
    · rw [List.mem_append, ← h.same x hx hu, List.mem_singleton]
      refine ⟨fun z => z.elim id fun e => ?_, .inl⟩
      have := hlt _ hu
      omega
    · have e := List.mem_singleton.mp hu
      exact ⟨fun _ => hall x hx e, fun _ => List.mem_append_right _ hu⟩
theorem Short.sub {L : List Int} (h : Short m R s L) (hd : s ∣ m) : Sub m R s L := ⟨hd, h.same⟩
/-- what stays told no less by a divisor stays so ahead of a shortening -/
theorem Lv.up {m' s' : Int} {R' : List Int} (h : Sub m R m' R') (l : Lv m' R' s') (hd : s' ∣ s) : Lv m R s := fun x y hx hy d => by
  rw [← h.same x hx, ← h.same y hy]
  exact l x y (QR.cop_dvd_right hx h.dvd) (QR.cop_dvd_right hy h.dvd) (Int.dvd_trans hd d)
end
/-- a single prime changes sides -/
def togL (S : List Int) (p : Int) : List Int := if p ∈ S then S.filter (fun o => !decide (o = p)) else S ++ [p]
theorem mem_tog {S : List Int} {p k : Int} : k ∈ togL S p ↔ if k = p then p ∉ S else k ∈ S := by
  unfold togL
  by_cases h : p ∈ S
  · rw [if_pos h]
    by_cases e : k = p
    · subst e
      simp [h]
    · simp [e]
  · rw [if_neg h]
    by_cases e : k = p
    · subst e
      simp [h]
    · simp [e]
theorem tog_nodup {S : List Int} {p : Int} (h : S.Nodup) : (togL S p).Nodup := by
  unfold togL
  split
  · exact h.filter _
  · rename_i hp
    refine List.nodup_append.mpr ⟨h, by simp, fun a ha b hb e => hp ?_⟩
    rw [List.mem_singleton] at hb
    rw [← hb, ← e]
    exact ha
theorem tog_len {S : List Int} {p : Int} : (togL S p).length ≤ S.length + 1 := by
  unfold togL
  split
  · exact Nat.le_succ_of_le (List.length_filter_le _ _)
  · simp
/-- the singles behind a shortening by q -/
def nextS (m : Int) (L S : List Int) (q : Int) : List Int := if q ≠ 2 ∧ toldP m L q then togL S q else S
/-- an odd prime, or coprime to the modulus -/
def PrOk (m p : Int) : Prop := QR.OP p ∨ (2 ≤ p ∧ Int.gcd p m = 1)
theorem PrOk.two {m p : Int} (h : PrOk m p) : 2 ≤ p := h.elim (fun h => h.1.1) (·.1)
theorem PrOk.cop {m p : Int} (h : PrOk m p) (d : ¬ p ∣ m) : Int.gcd p m = 1 := h.elim (fun h => (QR.pm_cop h.1).mpr d) (·.2)
theorem PrOk.dvd {m m' p : Int} (h : PrOk m p) (d : m' ∣ m) : PrOk m' p := h.imp_right fun h => ⟨h.1, QR.cop_dvd_right h.2 d⟩
theorem PrOk.ndvd {m p : Int} (h2 : 2 ≤ p) (h : Int.gcd p m = 1) : ¬ p ∣ m := fun d => by
  have e := QR.dvd_gcd (Int.dvd_refl p) d
  rw [h] at e
  have := Int.le_of_dvd (by decide) e
  omega
theorem memP_next {m q : Int} {R L S : List Int} (hq : QR.Pm q) (hs : 1 ≤ m / q) (hd : q ∣ m) (h : Short m R (m / q) L) {p : Int} (hp : PrOk m p) : memP (m / q) L (nextS (m / q) L S q) p ↔ memP m R S p := by
  have hm : m = m / q * q := (Int.ediv_mul_cancel hd).symm
  unfold memP nextS
  by_cases e : p = q
  · subst e
    have op : QR.OP p := hp.elim id fun z => absurd hd (PrOk.ndvd z.1 z.2)
    have p2 : p ≠ 2 := fun z => by have := op.2; omega
    have t0 : ¬ toldP m R p := fun z => z.1 hd
    by_cases t : toldP (m / p) L p
    · rw [if_pos ⟨p2, t⟩, mem_tog, if_pos rfl]
      simp [t, t0]
    · rw [if_neg fun z => t z.2]
      simp [t, t0]
  · have td : p ∣ m ↔ p ∣ m / q := by
      constructor
      · intro z
        rcases hp with hp | hp
        · rw [hm] at z
          rcases QR.Pm.dvd_mul hp.1 z with z | z
          · exact z
          · exfalso
            have p2 := hp.1.1
            rcases Int.lt_or_eq_of_le (Int.le_of_dvd (by have := hq.1; omega) z) with y | y
            · exact hq.2 p p2 y z
            · exact e y
        · exact absurd z (PrOk.ndvd hp.1 hp.2)
      · intro z
        rw [hm]
        exact Int.dvd_mul_of_dvd_left z
    have t : toldP (m / q) L p ↔ toldP m R p := by
      unfold toldP
      rw [td]
      by_cases z : p ∣ m / q
      · simp [z]
      · have := h.same p (hp.cop fun y => z (td.mp y))
        simp [z, this]
    rw [t]
    have s : p ∈ (if q ≠ 2 ∧ toldP (m / q) L q then togL S q else S) ↔ p ∈ S := by
      split
      · rw [mem_tog, if_neg e]
      · exact Iff.rfl
    rw [s]
/-! part m_facs -/
theorem pow_dvd {p q : Int} (hp : QR.Pm p) (hq : QR.Pm q) : ∀ e : Nat, p ∣ q ^ e → p = q
  | 0, h => by
    rw [Int.pow_zero] at h
    have := Int.le_of_dvd (by decide) h
    have := hp.1
    omega
  | e + 1, h => by
    rw [Int.pow_succ] at h
    rcases QR.Pm.dvd_mul hp h with h | h
    · exact pow_dvd hp hq e h
    · rcases Int.lt_or_eq_of_le (Int.le_of_dvd (by have := hq.1; omega) h) with z | z
      · exact absurd h (hq.2 p hp.1 z)
      · exact z
theorem prodF_dvd {p : Int} (hp : QR.Pm p) : ∀ {fs : List (Int × Nat)}, (∀ x, x ∈ fs → QR.Pm x.1 ∧ 1 ≤ x.2) → (p ∣ prodF fs ↔ ∃ x ∈ fs, x.1 = p)
  | [], _ => by
    constructor
    · intro h
      have := Int.le_of_dvd (by simp [prodF]) h
      have := hp.1
      simp [prodF] at *
      omega
    · rintro ⟨x, h, _⟩
      cases h
  | y :: fs, h => by
    have ih := prodF_dvd hp (fs := fs) fun x hx => h x (List.mem_cons_of_mem _ hx)
    obtain ⟨y1, y2⟩ := h y List.mem_cons_self
    constructor
    · intro d
      rcases QR.Pm.dvd_mul hp (show p ∣ y.1 ^ y.2 * prodF fs from d) with d | d
      · exact ⟨y, List.mem_cons_self, (pow_dvd hp y1 _ d).symm⟩
      · obtain ⟨x, hx, e⟩ := ih.mp d
        exact ⟨x, List.mem_cons_of_mem _ hx, e⟩
    · rintro ⟨x, hx, e⟩
      show p ∣ y.1 ^ y.2 * prodF fs
      rcases List.mem_cons.mp hx with rfl | hx
      · refine Int.dvd_mul_of_dvd_left ?_
        rw [e]
        obtain ⟨k, hk⟩ : ∃ k, x.2 = k + 1 := ⟨x.2 - 1, by omega⟩
        rw [hk, Int.pow_succ]
        exact Int.dvd_mul_left _ _
      · exact Int.dvd_mul_of_dvd_right (ih.mpr ⟨x, hx, e⟩)
theorem FacOk.mem {n p : Int} {fs : List (Int × Nat)} (h : FacOk n fs) : (∃ x ∈ fs, x.1 = p) ↔ QR.Pm p ∧ p ∣ n := by
  constructor
  · rintro ⟨x, hx, rfl⟩
    have hp := (h.prime x hx).1
    exact ⟨hp, by rw [← h.prod]; exact (prodF_dvd hp h.prime).mpr ⟨x, hx, rfl⟩⟩
  · rintro ⟨hp, d⟩
    rw [← h.prod] at d
    exact (prodF_dvd hp h.prime).mp d
theorem FacOk.len {n : Int} {fs : List (Int × Nat)} (h : FacOk n fs) (hn : n < 2 ^ 99) : fs.length < 100 := by
  have := prodF_big fs h.prime
  rw [h.prod] at this
  rcases Nat.lt_or_ge fs.length 100 with z | z
  · exact z
  · exfalso
    have a : (2 : Nat) ^ 100 ≤ 2 ^ fs.length := Nat.pow_le_pow_right (by decide) z
    have b : ((2 ^ fs.length : Nat) : Int) = 2 ^ fs.length := by rw [Int.natCast_pow]; rfl
    have c : (2 : Int) ^ 99 < ((2 ^ 100 : Nat) : Int) := by decide
    omega
/-! part m_least -/
structure LeastOk (m : Int) (R S : List Int) (m' : Int) (R' S' : List Int) : Prop where
  desc : Desc m' R' S'
  sub : Sub m R m' R'
  rn : R'.Nodup
  sn : S'.Nodup
  mem : ∀ p, PrOk m p → (memP m' R' S' p ↔ memP m R S p)
  len : m' * 2 ^ S'.length ≤ m * 2 ^ S.length
  src : ∀ p ∈ S', p ∈ S ∨ p ∣ m
/-- no divisor of the modulus by one of its primes tells as much -/
def LowAt (m : Int) (R : List Int) (q : Int) : Prop := q ∣ m → ¬ Lv m R (m / q)
theorem LeastOk.refl {m : Int} {R S : List Int} (h : Desc m R S) (rn : R.Nodup) (sn : S.Nodup) : LeastOk m R S m R S := ⟨h, Sub.refl m R, rn, sn, fun _ _ => Iff.rfl, Int.le_refl _, fun _ h => .inl h⟩
section
variable {m m' q : Int} {R S R' S' L : List Int}
theorem div_pos_of {m q : Int} (hm : 1 ≤ m) (hq : 2 ≤ q) (hd : q ∣ m) : 1 ≤ m / q ∧ m / q + 1 ≤ m := by
  have e := Int.ediv_mul_cancel hd
  have a : 1 ≤ m / q := by
    rcases Int.lt_or_le 0 (m / q) with z | z
    · exact z
    · have := Int.mul_le_mul_of_nonneg_right z (show 0 ≤ q by omega)
      omega
  refine ⟨a, ?_⟩
  have := Int.mul_le_mul_of_nonneg_left hq (show 0 ≤ m / q by omega)
  omega
theorem pow2_mono {a b : Nat} (h : a ≤ b) : (2 : Int) ^ a ≤ 2 ^ b := by
  have := Nat.pow_le_pow_right (show 0 < 2 by decide) h
  exact_mod_cast this
theorem LeastOk.next (h : LeastOk m R S m' R' S') (hq : QR.Pm q) (hd : q ∣ m') (k : Short m' R' (m' / q) L) : LeastOk m R S (m' / q) L (nextS (m' / q) L S' q) := by
  have q2 := hq.1
  obtain ⟨s1, s2⟩ := div_pos_of h.desc.pos q2 hd
  refine ⟨⟨s1, fun r hr => ?_, fun p hp => ?_⟩, h.sub.trans (k.sub ⟨q, (Int.ediv_mul_cancel hd).symm⟩), k.inc.imp fun h => by omega, ?_, fun p hp => (memP_next hq s1 hd k (hp.dvd h.sub.dvd)).trans (h.mem p hp), ?_, fun p hp => ?_⟩
  · exact mem_uL.mp (k.mem r hr)
  · unfold nextS at hp
    split at hp
    · rename_i z
      rw [mem_tog] at hp
      by_cases e : p = q
      · exact ⟨e ▸ hq, QR.pm_odd (e ▸ hq) (by omega)⟩
      · rw [if_neg e] at hp
        exact h.desc.singles p hp
    · exact h.desc.singles p hp
  · unfold nextS
    split
    · exact tog_nodup h.sn
    · exact h.sn
  · refine Int.le_trans ?_ h.len
    have a : (2 : Int) ^ (nextS (m' / q) L S' q).length ≤ 2 ^ S'.length * 2 := by
      rw [← Int.pow_succ]
      refine pow2_mono ?_
      unfold nextS
      split
      · exact tog_len
      · omega
    refine Int.le_trans (Int.mul_le_mul_of_nonneg_left a (by omega)) ?_
    rw [Int.mul_comm (2 ^ S'.length), ← Int.mul_assoc]
    refine Int.mul_le_mul_of_nonneg_right ?_ (Int.pow_nonneg (by decide))
    have := Int.mul_le_mul_of_nonneg_left q2 (show 0 ≤ m' / q by omega)
    rw [Int.ediv_mul_cancel hd] at this
    exact this
  · unfold nextS at hp
    split at hp
    · rw [mem_tog] at hp
      by_cases e : p = q
      · exact .inr (e ▸ Int.dvd_trans hd h.sub.dvd)
      · rw [if_neg e] at hp
        exact h.src p hp
    · exact h.src p hp
theorem LowAt.next {q0 : Int} (l : LowAt m' R' q0) (hq : QR.Pm q) (hq0 : QR.Pm q0) (p1 : 1 ≤ m') (hd : q ∣ m') (k : Short m' R' (m' / q) L) : LowAt (m' / q) L q0 := by
  intro d z
  have e := (Int.ediv_mul_cancel hd)
  have d' : q0 ∣ m' := by rw [← e]; exact Int.dvd_mul_of_dvd_left d
  have q2 := hq0.1
  have e2 := Int.ediv_mul_cancel d
  have e3 : m' = m' / q / q0 * q * q0 := by rw [Int.mul_assoc, Int.mul_comm q q0, ← Int.mul_assoc, e2, e]
  exact l d' (Lv.up (k.sub ⟨q, e.symm⟩) z ⟨q, Int.ediv_eq_of_eq_mul_left (by omega) e3⟩)
end
def SameL (a b : List Int) : Prop := ∀ k, k ∈ a ↔ k ∈ b
theorem Lv.congr {m : Int} {R R' : List Int} {s : Int} (h : SameL R R') : Lv m R s ↔ Lv m R' s := by
  unfold Lv
  exact ⟨fun l x y a b c => by rw [← h, ← h]; exact l x y a b c, fun l x y a b c => by rw [h, h]; exact l x y a b c⟩
/-- a unit of a divisor comes from a unit -/
theorem unit_lift : ∀ (n : Nat) {m s r : Int}, 0 < s → m = s * n → 0 < n → r ∈ uL s → ∃ x, Int.gcd x m = 1 ∧ x % s = r := by
  intro n
  induction n using Nat.strongRecOn with
  | _ n ih =>
    intro m s r hs hm hn hr
    rcases Nat.lt_or_ge n 2 with h | h
    · obtain ⟨r0, r1, rc⟩ := mem_uL.mp hr
      have : n = 1 := by omega
      subst this
      refine ⟨r, ?_, Int.emod_eq_of_lt r0 r1⟩
      rw [hm, show s * ((1 : Nat) : Int) = s by simp]
      exact rc
    · obtain ⟨q, hq, hd⟩ := QR.exists_pm n h
      have q2 := hq.1
      obtain ⟨l, hl⟩ := List.exists_mem_of_ne_nil _ (lft_ne (m := s * q) hq hs rfl hr)
      obtain ⟨c, e1, e2⟩ := lft_prop hs rfl hr hl
      obtain ⟨k, hk⟩ := hd
      have sq : 0 < s * q := Int.mul_pos hs (by omega)
      have k0 : 0 < k := by
        rcases Int.lt_or_le 0 k with z | z
        · exact z
        · have := Int.mul_le_mul_of_nonneg_left z (show 0 ≤ q by omega)
          omega
      have hu : l ∈ uL (s * q) := mem_uL.mpr ⟨by rw [← e1]; exact Int.emod_nonneg _ (by omega), by rw [← e1]; exact Int.emod_lt_of_pos _ sq, c⟩
      have kn : k.toNat < n := by
        have := Int.mul_le_mul_of_nonneg_right q2 (show 0 ≤ k by omega)
        omega
      obtain ⟨x, x1, x2⟩ := ih k.toNat kn sq (show m = s * q * ((k.toNat : Nat) : Int) by rw [hm, hk, show ((k.toNat : Nat) : Int) = k by omega, Int.mul_assoc, Int.mul_comm q k]) (by omega) hu
      refine ⟨x, x1, ?_⟩
      have : x % (s * q) % s = x % s := Int.emod_emod_of_dvd x ⟨q, rfl⟩
      rw [← this, x2, e2]
/-! part m_can -/
theorem bez : ∀ (b a : Nat), ∃ u v : Int, (a : Int) * u + b * v = (Nat.gcd a b : Nat) := by
  intro b
  induction b using Nat.strongRecOn with
  | _ b ih =>
    intro a
    rcases Nat.eq_zero_or_pos b with h | h
    · subst h
      exact ⟨1, 0, by simp⟩
    · obtain ⟨u, v, e⟩ := ih (a % b) (Nat.mod_lt _ h) b
      refine ⟨v, u - (a / b : Nat) * v, ?_⟩
      have g : Nat.gcd a b = Nat.gcd b (a % b) := by rw [Nat.gcd_comm a b, Nat.gcd_rec b a, Nat.gcd_comm]
      rw [g, ← e]
      have d : (a : Int) = b * (a / b : Nat) + (a % b : Nat) := by
        have := Nat.div_add_mod a b
        omega
      generalize ((a / b : Nat) : Int) = q at *
      generalize ((a % b : Nat) : Int) = r at *
      rw [d]
      grind
theorem crt {s t x y : Int} (hs : 0 ≤ s) (ht : 0 ≤ t) (h : ((Int.gcd s t : Nat) : Int) ∣ x - y) : ∃ z, s ∣ z - x ∧ t ∣ z - y := by
  obtain ⟨u, v, e⟩ := bez t.toNat s.toNat
  obtain ⟨k, hk⟩ := h
  have g : Nat.gcd s.toNat t.toNat = Int.gcd s t := by
    rw [Int.gcd]
    congr 1 <;> omega
  rw [g, show ((s.toNat : Nat) : Int) = s by omega, show ((t.toNat : Nat) : Int) = t by omega] at e
  rw [← e] at hk
  exact ⟨x - s * u * k, ⟨-(u * k), by grind⟩, ⟨v * k, by grind⟩⟩
theorem lift_of_dvd {m L z : Int} (m1 : 1 ≤ m) (L0 : 0 ≤ L) (d : L ∣ m) (h : Int.gcd z L = 1) : ∃ w, Int.gcd w m = 1 ∧ L ∣ w - z := by
  obtain ⟨k, hk⟩ := d
  have L1 : 0 < L := by
    rcases Int.lt_or_eq_of_le L0 with c | c
    · exact c
    · rw [← c, Int.zero_mul] at hk
      omega
  have k0 : 0 < k := by
    rcases Int.lt_or_le 0 k with c | c
    · exact c
    · have := Int.mul_le_mul_of_nonneg_left c (show 0 ≤ L by omega)
      omega
  obtain ⟨w, w1, w2⟩ := unit_lift k.toNat (m := m) (r := z % L) L1 (by rw [hk, show ((k.toNat : Nat) : Int) = k by omega]) (by omega) (mem_uL.mpr ⟨Int.emod_nonneg _ (by omega), Int.emod_lt_of_pos _ L1, QR.cop_emod.mpr h⟩)
  exact ⟨w, w1, QR.dvd_of_emod_eq w2⟩
section
variable {m s t : Int} {R : List Int}
/-- a unit of the whole with given rests, where they agree -/
theorem meet {x y : Int} (m1 : 1 ≤ m) (s1 : 1 ≤ s) (t1 : 1 ≤ t) (hs : s ∣ m) (ht : t ∣ m) (hx : Int.gcd x m = 1) (hy : Int.gcd y m = 1) (d : ((Int.gcd s t : Nat) : Int) ∣ x - y) : ∃ z, Int.gcd z m = 1 ∧ s ∣ z - x ∧ t ∣ z - y := by
  obtain ⟨z, zx, zy⟩ := crt (by omega) (by omega) d
  have hL : ((Int.lcm s t : Nat) : Int) ∣ m := Int.coe_lcm_dvd hs ht
  have sL : s ∣ ((Int.lcm s t : Nat) : Int) := Int.dvd_lcm_left ..
  have tL : t ∣ ((Int.lcm s t : Nat) : Int) := Int.dvd_lcm_right ..
  have Lst : ((Int.lcm s t : Nat) : Int) ∣ s * t := Int.coe_lcm_dvd (Int.dvd_mul_right ..) (Int.dvd_mul_left ..)
  have lcm0 : (0 : Int) ≤ ((Int.lcm s t : Nat) : Int) := by omega
  generalize ((Int.lcm s t : Nat) : Int) = L at *
  have cz : Int.gcd z L = 1 := QR.cop_iff.mpr fun p hp a b => by
    rcases QR.Pm.dvd_mul hp (Int.dvd_trans b Lst) with c | c
    · refine QR.cop_iff.mp hx p hp ?_ (Int.dvd_trans c hs)
      have := Int.dvd_sub a (Int.dvd_trans c zx)
      rwa [show z - (z - x) = x by omega] at this
    · refine QR.cop_iff.mp hy p hp ?_ (Int.dvd_trans c ht)
      have := Int.dvd_sub a (Int.dvd_trans c zy)
      rwa [show z - (z - y) = y by omega] at this
  obtain ⟨w, w1, w2⟩ := lift_of_dvd m1 lcm0 hL cz
  refine ⟨w, w1, ?_, ?_⟩
  · have := Int.dvd_add (Int.dvd_trans sL w2) zx
    rwa [show w - z + (z - x) = w - x by omega] at this
  · have := Int.dvd_add (Int.dvd_trans tL w2) zy
    rwa [show w - z + (z - y) = w - y by omega] at this
/-- what two divisors tell, their common divisor tells -/
theorem Lv.gcd (m1 : 1 ≤ m) (s1 : 1 ≤ s) (t1 : 1 ≤ t) (hs : s ∣ m) (ht : t ∣ m) (a : Lv m R s) (b : Lv m R t) : Lv m R ((Int.gcd s t : Nat) : Int) := by
  intro x y hx hy d
  obtain ⟨w, w1, w2, w3⟩ := meet m1 s1 t1 hs ht hx hy d
  exact (a w x w1 hx w2).symm.trans (b w y w1 hy w3)
theorem Lv.mono (h : Lv m R s) (d : s ∣ t) : Lv m R t := fun x y hx hy e => h x y hx hy (Int.dvd_trans d e)
end
/-! part m_comp -/
/-! forms multiplied -/
/-- what of N is coprime to a -/
theorem cop_part (a : Int) : ∀ (k : Nat) (N : Int), N ≠ 0 → N.natAbs ≤ k → ∃ V : Int, V ≠ 0 ∧ V ∣ N ∧ Int.gcd V a = 1 ∧ ∀ q, QR.Pm q → q ∣ N → ¬ q ∣ a → q ∣ V := by
  intro k
  induction k with
  | zero => intro N h0 h; omega
  | succ k ih =>
    intro N h0 hk
    by_cases g : Int.gcd N a = 1
    · exact ⟨N, h0, Int.dvd_refl N, g, fun q _ hd _ => hd⟩
    · have gd : ((Int.gcd N a : Nat) : Int) ∣ N := Int.gcd_dvd_left ..
      have ga : ((Int.gcd N a : Nat) : Int) ∣ a := Int.gcd_dvd_right ..
      have g0 : Int.gcd N a ≠ 0 := fun z => h0 (Int.gcd_eq_zero_iff.mp z).1
      obtain ⟨M, hM⟩ := gd
      have M0 : M ≠ 0 := fun z => h0 (by rw [hM, z, Int.mul_zero])
      have ab := congrArg Int.natAbs hM
      rw [Int.natAbs_mul, Int.natAbs_natCast] at ab
      have : 2 * M.natAbs ≤ Int.gcd N a * M.natAbs := Nat.mul_le_mul_right _ (by omega)
      obtain ⟨V, v0, vd, vc, vq⟩ := ih M M0 (by omega)
      refine ⟨V, v0, Int.dvd_trans vd ⟨_, hM.trans (Int.mul_comm ..)⟩, vc, fun q hq hd ha => vq q hq ?_ ha⟩
      rw [hM] at hd
      exact (QR.Pm.dvd_mul hq hd).resolve_left fun z => ha (Int.dvd_trans z ga)
def Fm.prim (f : Fm) : Prop := Int.gcd ((Int.gcd f.a f.b : Nat) : Int) f.c = 1
theorem Fm.prim.not {f : Fm} (h : f.prim) {q : Int} (hq : QR.Pm q) (a : q ∣ f.a) (b : q ∣ f.b) (c : q ∣ f.c) : False := by
  have := (gcd3_dvd (k := q.toNat) (f := f)).mpr (by
    have := hq.1
    rw [show ((q.toNat : Nat) : Int) = q by omega]
    exact ⟨a, b, c⟩)
  unfold Fm.prim at h
  rw [h] at this
  have := Nat.le_of_dvd (by decide) this
  have := hq.1
  omega
theorem Fm.prim.eqv {f g : Fm} (h : f.prim) (e : f.eqv g) : g.prim := (gcd3_eqv e).symm.trans h
/-- a point with a value coprime to N -/
theorem Fm.prim.point {f : Fm} (h : f.prim) {N : Int} (hN : N ≠ 0) : ∃ x y : Int, Int.gcd x y = 1 ∧ Int.gcd (f.at x y) N = 1 := by
  obtain ⟨V, v0, vd, vc, vq⟩ := cop_part f.a N.natAbs N hN (Nat.le_refl _)
  obtain ⟨W, w0, wd, wc, wq⟩ := cop_part V N.natAbs N hN (Nat.le_refl _)
  obtain ⟨U, u0, ud, uc, uq⟩ := cop_part f.c W.natAbs W w0 (Nat.le_refl _)
  have cuv : ∀ q, QR.Pm q → q ∣ U → ¬ q ∣ V := fun q hq a b => QR.cop_iff.mp wc q hq (Int.dvd_trans a ud) b
  refine ⟨U, V, QR.cop_iff.mpr cuv, QR.cop_iff.mpr fun q hq hd hn => ?_⟩
  unfold Fm.at at hd
  by_cases ha : q ∣ f.a
  · have nV : ¬ q ∣ V := fun z => QR.cop_iff.mp vc q hq z ha
    have hW : q ∣ W := wq q hq hn nV
    by_cases hc : q ∣ f.c
    · have nU : ¬ q ∣ U := fun z => QR.cop_iff.mp uc q hq z hc
      have nb : ¬ q ∣ f.b := fun z => h.not hq ha z hc
      have d1 : q ∣ f.a * U * U := Int.dvd_mul_of_dvd_left (Int.dvd_mul_of_dvd_left ha)
      have d2 : q ∣ f.c * V * V := Int.dvd_mul_of_dvd_left (Int.dvd_mul_of_dvd_left hc)
      have d3 : q ∣ f.b * U * V := by
        have := Int.dvd_sub (Int.dvd_sub hd d1) d2
        rwa [show f.a * U * U + f.b * U * V + f.c * V * V - f.a * U * U - f.c * V * V = f.b * U * V by omega] at this
      rcases QR.Pm.dvd_mul hq d3 with z | z
      · rcases QR.Pm.dvd_mul hq z with z | z
        · exact nb z
        · exact nU z
      · exact nV z
    · have hU : q ∣ U := uq q hq hW hc
      have d1 : q ∣ f.a * U * U := Int.dvd_mul_of_dvd_right hU
      have d2 : q ∣ f.b * U * V := Int.dvd_mul_of_dvd_left (Int.dvd_mul_of_dvd_right hU)
      have d3 : q ∣ f.c * V * V := by
        have := Int.dvd_sub (Int.dvd_sub hd d1) d2
        rwa [show f.a * U * U + f.b * U * V + f.c * V * V - f.a * U * U - f.b * U * V = f.c * V * V by omega] at this
      rcases QR.Pm.dvd_mul hq d3 with z | z
      · rcases QR.Pm.dvd_mul hq z with z | z
        · exact hc z
        · exact nV z
      · exact nV z
  · have hV : q ∣ V := vq q hq hn ha
    have nU : ¬ q ∣ U := fun z => cuv q hq z hV
    have d2 : q ∣ f.b * U * V := Int.dvd_mul_of_dvd_right hV
    have d3 : q ∣ f.c * V * V := Int.dvd_mul_of_dvd_right hV
    have d1 : q ∣ f.a * U * U := by
      have := Int.dvd_sub (Int.dvd_sub hd d3) d2
      rwa [show f.a * U * U + f.b * U * V + f.c * V * V - f.c * V * V - f.b * U * V = f.a * U * U by omega] at this
    rcases QR.Pm.dvd_mul hq d1 with z | z
    · rcases QR.Pm.dvd_mul hq z with z | z
      · exact ha z
      · exact nU z
    · exact nU z
theorem bezI {x y : Int} (h : Int.gcd x y = 1) : ∃ u v : Int, x * u + y * v = 1 := by
  obtain ⟨u, v, e⟩ := bez y.natAbs x.natAbs
  rw [show Nat.gcd x.natAbs y.natAbs = 1 from h] at e
  rcases Int.natAbs_eq x with a | a <;> rcases Int.natAbs_eq y with b | b
  · exact ⟨u, v, by rw [a, b]; exact e⟩
  · exact ⟨u, -v, by rw [a, b, Int.neg_mul_neg]; exact e⟩
  · exact ⟨-u, v, by rw [a, b, Int.neg_mul_neg]; exact e⟩
  · exact ⟨-u, -v, by rw [a, b, Int.neg_mul_neg, Int.neg_mul_neg]; exact e⟩
/-- a form whose first number is a value at coprime integers -/
theorem Fm.eqv_at (f : Fm) {x y : Int} (h : Int.gcd x y = 1) : ∃ g : Fm, f.eqv g ∧ g.a = f.at x y := by
  obtain ⟨u, v, e⟩ := bezI h
  exact ⟨f.act x (-v) y u, ⟨x, -v, y, u, by grind, rfl⟩, rfl⟩
theorem Fm.at_pos {f : Fm} (h : f.ok) {x y : Int} (hxy : x ≠ 0 ∨ y ≠ 0) : 1 ≤ f.at x y := by
  have e := f.at_D x y
  have a1 := h.1
  have d := h.2
  refine Classical.byContradiction fun n => ?_
  have l : 4 * f.a * f.at x y ≤ 0 := by
    have : f.at x y ≤ 0 := by omega
    have := Int.mul_le_mul_of_nonneg_left this (show 0 ≤ 4 * f.a by omega)
    omega
  have s1 := sq_nonneg (2 * f.a * x + f.b * y)
  have s2 := sq_nonneg y
  have s3 : 0 ≤ -f.D * (y * y) := Int.mul_nonneg (by omega) s2
  have e2 : -f.D * (y * y) = -(f.D * (y * y)) := by grind
  have z1 : (2 * f.a * x + f.b * y) * (2 * f.a * x + f.b * y) = 0 := by omega
  have z2 : -f.D * (y * y) = 0 := by omega
  have y0 : y = 0 := by
    rcases Int.mul_eq_zero.mp z2 with z | z
    · omega
    · rcases Int.mul_eq_zero.mp z with z | z <;> exact z
  have x0 : x = 0 := by
    rw [y0] at z1
    have : 2 * f.a * x + f.b * 0 = 0 := by rcases Int.mul_eq_zero.mp z1 with z | z <;> exact z
    have : 2 * f.a * x = 0 := by omega
    rcases Int.mul_eq_zero.mp this with z | z
    · omega
    · exact z
  rcases hxy with z | z
  · exact z x0
  · exact z y0
theorem Fm.prim.rep {f : Fm} (h : f.prim) (ho : f.ok) {N : Int} (hN : N ≠ 0) : ∃ g : Fm, f.eqv g ∧ 1 ≤ g.a ∧ Int.gcd g.a N = 1 := by
  obtain ⟨x, y, hxy, hc⟩ := h.point hN
  obtain ⟨g, e, ha⟩ := f.eqv_at hxy
  refine ⟨g, e, ?_, by rw [ha]; exact hc⟩
  rw [ha]
  refine Fm.at_pos ho ?_
  by_cases x0 : x = 0
  · right
    intro y0
    rw [x0, y0] at hxy
    exact absurd hxy (by decide)
  · exact .inl x0
theorem Fm.shift_eqv (f : Fm) (t : Int) : f.eqv ⟨f.a, f.b + 2 * f.a * t, f.a * t * t + f.b * t + f.c⟩ := ⟨1, t, 0, 1, by omega, Fm.ext' (by simp [Fm.act]) (by simp [Fm.act]; omega) (by simp [Fm.act])⟩
/-- the same class by another middle number -/
theorem Fm.mid_eqv {f : Fm} (ha : f.a ≠ 0) {B : Int} (h : 2 * f.a ∣ B - f.b) : ∃ C, f.eqv ⟨f.a, B, C⟩ ∧ B * B - 4 * f.a * C = f.D := by
  obtain ⟨t, ht⟩ := h
  have eB : B = f.b + 2 * f.a * t := by omega
  refine ⟨f.a * t * t + f.b * t + f.c, by rw [eB]; exact f.shift_eqv t, ?_⟩
  rw [eB]
  unfold Fm.D
  grind
theorem Fm.D_par (f : Fm) : (2 : Int) ∣ f.D - f.b := by
  have e : f.D - f.b = f.b * (f.b - 1) - 2 * (2 * f.a * f.c) := by unfold Fm.D; grind
  rw [e]
  refine Int.dvd_sub ?_ (Int.dvd_mul_right ..)
  rcases Int.emod_two_eq f.b with z | z
  · exact Int.dvd_mul_of_dvd_left (Int.dvd_of_emod_eq_zero z)
  · exact Int.dvd_mul_of_dvd_right (Int.dvd_of_emod_eq_zero (by omega))
theorem gcd_two_mul {n m : Int} (h : Int.gcd n m = 1) : Int.gcd (2 * n) (2 * m) = 2 := by
  rw [Int.gcd_mul_left, h]
  rfl
/-- a middle number for two -/
theorem mid_two {n m b e : Int} (h0 : 1 ≤ n) (h1 : 1 ≤ m) (h : Int.gcd n m = 1) (p : (2 : Int) ∣ b - e) : ∃ B, 2 * n ∣ B - b ∧ 2 * m ∣ B - e := by
  obtain ⟨z, hz⟩ := crt (s := 2 * n) (t := 2 * m) (x := b) (y := e) (by omega) (by omega) (by rw [gcd_two_mul h]; exact p)
  exact ⟨z, hz⟩
/-- two forms side by side -/
theorem Fm.two {f g : Fm} (hD : f.D = g.D) (fa : 1 ≤ f.a) (ga : 1 ≤ g.a) (hc : Int.gcd f.a g.a = 1) : ∃ B c : Int, f.eqv ⟨f.a, B, g.a * c⟩ ∧ g.eqv ⟨g.a, B, f.a * c⟩ := by
  have p : (2 : Int) ∣ f.b - g.b := by
    have := Int.dvd_sub g.D_par f.D_par
    rw [hD] at this
    rwa [show g.D - g.b - (g.D - f.b) = f.b - g.b by omega] at this
  obtain ⟨B, h1, h2⟩ := mid_two fa ga hc p
  obtain ⟨C1, e1, d1⟩ := Fm.mid_eqv (f := f) (by omega) h1
  obtain ⟨C2, e2, d2⟩ := Fm.mid_eqv (f := g) (by omega) h2
  have e : f.a * C1 = g.a * C2 := by
    have : 4 * f.a * C1 = 4 * (f.a * C1) := by grind
    have : 4 * g.a * C2 = 4 * (g.a * C2) := by grind
    omega
  obtain ⟨c, hc1⟩ : g.a ∣ C1 := QR.cop_dvd hc ⟨C2, e⟩
  refine ⟨B, c, by rw [← hc1]; exact e1, ?_⟩
  have : C2 = f.a * c := by
    rw [hc1] at e
    have e3 : g.a * (f.a * c) = g.a * C2 := by rw [← e]; grind
    exact (Int.eq_of_mul_eq_mul_left (by omega) e3).symm
  rw [← this]
  exact e2
/-- one factor changed -/
theorem eqv_swap {n m k B c e : Int} (h0 : m ≠ 0) (h1 : Int.gcd n m = 1) (h : (⟨n, B, m * c⟩ : Fm).eqv ⟨k, B, m * e⟩) : (⟨n * m, B, c⟩ : Fm).eqv ⟨k * m, B, e⟩ := by
  obtain ⟨p, q, r, s, dt, hg⟩ := h
  have ea : k = n * p * p + B * p * r + m * c * r * r := congrArg Fm.a hg
  have eb : B = 2 * n * p * q + B * (p * s + q * r) + 2 * (m * c) * r * s := congrArg Fm.b hg
  have ec : m * e = n * q * q + B * q * s + m * c * s * s := congrArg Fm.c hg
  have k1 : n * p * q + B * q * r + m * c * r * s = 0 := by
    have : p * s + q * r = 1 + 2 * (q * r) := by omega
    rw [this] at eb
    have e2 : 2 * (n * p * q + B * q * r + m * c * r * s) = 0 := by grind
    omega
  have k2 : n * q = m * (s * (-(c * r * s)) - r * (e - c * s * s)) := by
    have : n * q = n * q * (p * s - q * r) := by rw [dt, Int.mul_one]
    rw [this]
    have a1 : n * p * q + B * q * r = -(m * c * r * s) := by omega
    have a2 : n * q * q + B * q * s = m * e - m * c * s * s := by omega
    have : n * q * (p * s - q * r) = s * (n * p * q + B * q * r) - r * (n * q * q + B * q * s) := by grind
    rw [this, a1, a2]
    grind
  obtain ⟨t, ht⟩ : m ∣ q := QR.cop_dvd h1 ⟨_, k2⟩
  refine ⟨p, t, m * r, s, by rw [← dt, ht]; grind, Fm.ext' ?_ ?_ ?_⟩
  · simp only [Fm.act]
    rw [ea]
    grind
  · simp only [Fm.act]
    rw [eb, ht]
    grind
  · simp only [Fm.act]
    refine Int.eq_of_mul_eq_mul_left h0 ?_
    rw [ec, ht]
    grind
/-- a product of two forms -/
def Fm.cmp (f g h : Fm) : Prop := ∃ n m B c : Int, 1 ≤ n ∧ 1 ≤ m ∧ Int.gcd n m = 1 ∧ f.eqv ⟨n, B, m * c⟩ ∧ g.eqv ⟨m, B, n * c⟩ ∧ h.eqv ⟨n * m, B, c⟩
theorem gcd_c {a b : Int} : Int.gcd a b = Int.gcd b a := Int.gcd_comm a b
theorem Fm.cmp.symm {f g h : Fm} (x : f.cmp g h) : g.cmp f h := by
  obtain ⟨n, m, B, c, h1, h2, h3, h4, h5, h6⟩ := x
  exact ⟨m, n, B, c, h2, h1, by rw [gcd_c]; exact h3, h5, h4, by rw [Int.mul_comm]; exact h6⟩
theorem Fm.cmp.congr {f g h f' g' h' : Fm} (x : f.cmp g h) (a : f'.eqv f) (b : g'.eqv g) (c : h'.eqv h) : f'.cmp g' h' := by
  obtain ⟨n, m, B, e, h1, h2, h3, h4, h5, h6⟩ := x
  exact ⟨n, m, B, e, h1, h2, h3, a.trans h4, b.trans h5, c.trans h6⟩
theorem Fm.cmp.D {f g h : Fm} (x : f.cmp g h) : f.D = h.D ∧ g.D = h.D := by
  obtain ⟨n, m, B, e, h1, h2, h3, h4, h5, h6⟩ := x
  rw [← h4.D, ← h5.D, ← h6.D]
  unfold Fm.D
  exact ⟨by grind, by grind⟩
theorem mid_all {n m k B b c : Int} {f' : Fm} (n1 : 1 ≤ n) (m1 : 1 ≤ m) (k1 : 1 ≤ k) (hk : f'.a = k) (hc : Int.gcd k (n * m) = 1) (hD : f'.D = B * B - 4 * (n * m) * c) :
    ∃ B' c', 2 * (n * m) ∣ B' - B ∧ 2 * k ∣ B' - f'.b ∧ f'.eqv ⟨k, B', m * (n * c')⟩ ∧ (⟨n, B, m * c⟩ : Fm).eqv ⟨n, B', m * (k * c')⟩ ∧ (⟨m, B, n * c⟩ : Fm).eqv ⟨m, B', k * (n * c')⟩ ∧ (⟨n * m, B, c⟩ : Fm).eqv ⟨n * m, B', k * c'⟩ := by
  have nm : 1 ≤ n * m := Int.mul_pos (show 0 < n by omega) (show 0 < m by omega)
  have D1 : (⟨n * m, B, c⟩ : Fm).D = f'.D := by rw [hD]; rfl
  have p : (2 : Int) ∣ f'.b - B := by
    have := Int.dvd_sub (Fm.D_par ⟨n * m, B, c⟩) f'.D_par
    rw [D1] at this
    rwa [show f'.D - B - (f'.D - f'.b) = f'.b - B by omega] at this
  obtain ⟨B', h2, h1⟩ := mid_two k1 nm hc p
  obtain ⟨C1, e1, d1⟩ := Fm.mid_eqv (f := ⟨n, B, m * c⟩) (B := B') (show n ≠ 0 by omega) (Int.dvd_trans ⟨m, by grind⟩ h1)
  obtain ⟨C2, e2, d2⟩ := Fm.mid_eqv (f := ⟨m, B, n * c⟩) (B := B') (show m ≠ 0 by omega) (Int.dvd_trans ⟨n, by grind⟩ h1)
  obtain ⟨C3, e3, d3⟩ := Fm.mid_eqv (f := ⟨n * m, B, c⟩) (B := B') (show n * m ≠ 0 by omega) h1
  obtain ⟨C4, e4, d4⟩ := Fm.mid_eqv (f := f') (B := B') (by rw [hk]; omega) (by rw [hk]; exact h2)
  replace e1 : (⟨n, B, m * c⟩ : Fm).eqv ⟨n, B', C1⟩ := e1
  replace e2 : (⟨m, B, n * c⟩ : Fm).eqv ⟨m, B', C2⟩ := e2
  replace e3 : (⟨n * m, B, c⟩ : Fm).eqv ⟨n * m, B', C3⟩ := e3
  rw [hk] at e4 d4
  replace d1 : B' * B' - 4 * n * C1 = B * B - 4 * n * (m * c) := d1
  replace d2 : B' * B' - 4 * m * C2 = B * B - 4 * m * (n * c) := d2
  replace d3 : B' * B' - 4 * (n * m) * C3 = B * B - 4 * (n * m) * c := d3
  rw [hD] at d4
  have e : k * C4 = n * m * C3 := by
    have : 4 * (k * C4) = 4 * (n * m * C3) := by grind
    omega
  obtain ⟨c', hc3⟩ : k ∣ C3 := QR.cop_dvd (b := n * m) (by rw [gcd_c]; exact hc) ⟨C4, e.symm⟩
  have x1 : C1 = m * (k * c') := by
    refine Int.eq_of_mul_eq_mul_left (show n ≠ 0 by omega) ?_
    rw [hc3] at d3
    have : 4 * (n * C1) = 4 * (n * (m * (k * c'))) := by grind
    omega
  have x2 : C2 = k * (n * c') := by
    refine Int.eq_of_mul_eq_mul_left (show m ≠ 0 by omega) ?_
    rw [hc3] at d3
    have : 4 * (m * C2) = 4 * (m * (k * (n * c'))) := by grind
    omega
  have x4 : C4 = m * (n * c') := by
    refine Int.eq_of_mul_eq_mul_left (show k ≠ 0 by omega) ?_
    rw [e, hc3]
    grind
  rw [x1] at e1
  rw [x2] at e2
  rw [hc3] at e3
  rw [x4] at e4
  exact ⟨B', c', h1, h2, e4, e1, e2, e3⟩
/-- a product by another factor in the first place -/
theorem Fm.cmp_change {f g h : Fm} {n m B c : Int} (n1 : 1 ≤ n) (m1 : 1 ≤ m) (hc : Int.gcd n m = 1) (hf : f.eqv ⟨n, B, m * c⟩) (hg : g.eqv ⟨m, B, n * c⟩) (hh : h.eqv ⟨n * m, B, c⟩) {f' : Fm} (k1 : 1 ≤ f'.a) (e : f.eqv f') (kn : Int.gcd f'.a (n * m) = 1) :
    ∃ B' c' : Int, 2 * m ∣ B' - B ∧ 2 * f'.a ∣ B' - f'.b ∧ f.eqv ⟨f'.a, B', m * c'⟩ ∧ g.eqv ⟨m, B', f'.a * c'⟩ ∧ h.eqv ⟨f'.a * m, B', c'⟩ := by
  obtain ⟨B', c', a1, a2, a3, a4, a5, a6⟩ := mid_all (f' := f') (k := f'.a) (n := n) (m := m) (B := B) (c := c) (b := 0) n1 m1 k1 rfl kn (by rw [e.D, ← hf.D]; unfold Fm.D; grind)
  refine ⟨B', n * c', Int.dvd_trans ⟨n, by grind⟩ a1, a2, e.trans a3, hg.trans a5, hh.trans (a6.trans ?_)⟩
  exact eqv_swap (by omega) hc ((a4.symm.trans hf.symm).trans (e.trans a3))
theorem gcd_mul_l {a b c : Int} (h : Int.gcd a (b * c) = 1) : Int.gcd a b = 1 := QR.cop_dvd_right h (Int.dvd_mul_right ..)
theorem gcd_mul_r {a b c : Int} (h : Int.gcd a (b * c) = 1) : Int.gcd a c = 1 := QR.cop_dvd_right h (Int.dvd_mul_left ..)
theorem Fm.same_mid {h h' : Fm} {N B B' c c' : Int} (hN : 1 ≤ N) (hD : h.D = h'.D) (a : h.eqv ⟨N, B, c⟩) (b : h'.eqv ⟨N, B', c'⟩) (d : 2 * N ∣ B' - B) : h.eqv h' := by
  obtain ⟨C, e, dd⟩ := Fm.mid_eqv (f := ⟨N, B, c⟩) (B := B') (show N ≠ 0 by omega) d
  replace e : (⟨N, B, c⟩ : Fm).eqv ⟨N, B', C⟩ := e
  have d1 : (⟨N, B', c'⟩ : Fm).D = (⟨N, B', C⟩ : Fm).D := by rw [b.D, e.D, a.D, hD]
  have : c' = C := by
    unfold Fm.D at d1
    dsimp only at d1
    refine Int.eq_of_mul_eq_mul_left (show N ≠ 0 by omega) ?_
    have : 4 * (N * c') = 4 * (N * C) := by grind
    omega
  rw [← this] at e
  exact a.trans (e.trans b.symm)
/-- the product does not depend on the choices -/
theorem Fm.cmp.uniq {f g h h' : Fm} (fo : f.ok) (go : g.ok) (fp : f.prim) (gp : g.prim) (x : f.cmp g h) (y : f.cmp g h') : h.eqv h' := by
  have hD : h.D = h'.D := x.D.1.symm.trans y.D.1
  obtain ⟨n, m, B, c, n1, m1, nm, x1, x2, x3⟩ := x
  obtain ⟨n', m', B', c', n1', m1', nm', y1, y2, y3⟩ := y
  obtain ⟨f1, ef, f1a, f1c⟩ := fp.rep fo (N := n * m * (n' * m')) (fun z => by
    rcases Int.mul_eq_zero.mp z with z | z <;> rcases Int.mul_eq_zero.mp z with z | z <;> omega)
  obtain ⟨B1, c1, p1, p2, p3, p4, p5⟩ := Fm.cmp_change n1 m1 nm x1 x2 x3 f1a ef (gcd_mul_l f1c)
  obtain ⟨B2, c2, q1, q2, q3, q4, q5⟩ := Fm.cmp_change n1' m1' nm' y1 y2 y3 f1a ef (gcd_mul_r f1c)
  have c1m : Int.gcd f1.a m = 1 := gcd_mul_r (gcd_mul_l f1c)
  have c1m' : Int.gcd f1.a m' = 1 := gcd_mul_r (gcd_mul_r f1c)
  obtain ⟨g1, eg, g1a, g1c⟩ := gp.rep go (N := f1.a * (m * m')) (fun z => by
    rcases Int.mul_eq_zero.mp z with z | z
    · omega
    · rcases Int.mul_eq_zero.mp z with z | z <;> omega)
  have g2 : Int.gcd g1.a (m * f1.a) = 1 := QR.cop_mul (gcd_mul_l (gcd_mul_r g1c)) (gcd_mul_l g1c)
  have g3 : Int.gcd g1.a (m' * f1.a) = 1 := QR.cop_mul (gcd_mul_r (gcd_mul_r g1c)) (gcd_mul_l g1c)
  obtain ⟨B3, c3, r1, r2, r3, r4, r5⟩ := Fm.cmp_change m1 f1a (by rw [gcd_c]; exact c1m) p4 p3 (by rw [Int.mul_comm]; exact p5) g1a eg g2
  obtain ⟨B4, c4, s1, s2, s3, s4, s5⟩ := Fm.cmp_change m1' f1a (by rw [gcd_c]; exact c1m') q4 q3 (by rw [Int.mul_comm]; exact q5) g1a eg g3
  refine Fm.same_mid (Int.mul_pos (show 0 < g1.a by omega) (show 0 < f1.a by omega)) hD r5 s5 ?_
  have d1 : 2 * g1.a ∣ B4 - B3 := by
    have := Int.dvd_sub s2 r2
    rwa [show B4 - g1.b - (B3 - g1.b) = B4 - B3 by omega] at this
  have d2 : 2 * f1.a ∣ B4 - B3 := by
    have := Int.dvd_sub (Int.dvd_add s1 q2) (Int.dvd_add r1 p2)
    rwa [show B4 - B2 + (B2 - f1.b) - (B3 - B1 + (B1 - f1.b)) = B4 - B3 by omega] at this
  obtain ⟨u, hu⟩ := d1
  have d3 : f1.a ∣ g1.a * u := by
    obtain ⟨v, hv⟩ := d2
    refine ⟨v, ?_⟩
    have : 2 * (g1.a * u) = 2 * (f1.a * v) := by grind
    omega
  obtain ⟨v, hv⟩ := QR.cop_dvd (gcd_mul_l g1c) d3
  exact ⟨v, by rw [hu, hv]; grind⟩
/-- there is a product -/
theorem Fm.cmp.ex {f g : Fm} (fo : f.ok) (go : g.ok) (gp : g.prim) (hD : f.D = g.D) : ∃ h : Fm, f.cmp g h ∧ h.ok := by
  obtain ⟨g1, eg, g1a, g1c⟩ := gp.rep go (N := f.a) (by have := fo.1; omega)
  obtain ⟨B, c, e1, e2⟩ := Fm.two (f := f) (g := g1) (hD.trans eg.D.symm) fo.1 g1a (by rw [gcd_c]; exact g1c)
  refine ⟨⟨f.a * g1.a, B, c⟩, ⟨f.a, g1.a, B, c, fo.1, g1a, by rw [gcd_c]; exact g1c, e1, eg.trans e2, Fm.eqv.refl _⟩, Int.mul_pos (show 0 < f.a from by have := fo.1; omega) (show 0 < g1.a by omega), ?_⟩
  have : (⟨f.a * g1.a, B, c⟩ : Fm).D = f.D := by rw [← e1.D]; unfold Fm.D; grind
  rw [this]
  exact fo.2
/-! part m_comp2 -/
/-! the classes of forms: products of values, three factors, the unit, the opposite -/
theorem Fm.eqv.at {f g : Fm} (e : f.eqv g) (x y : Int) : ∃ u v, g.at u v = f.at x y := by
  obtain ⟨p, q, r, s, _, hf⟩ := e.symm
  exact ⟨p * x + q * y, r * x + s * y, by rw [hf, Fm.act_at]⟩
theorem two_at (n m B c x y z w : Int) : (⟨n * m, B, c⟩ : Fm).at (x * z - c * y * w) (n * x * w + m * y * z + B * y * w) = (⟨n, B, m * c⟩ : Fm).at x y * (⟨m, B, n * c⟩ : Fm).at z w := by
  simp only [Fm.at]
  grind
/-- values multiply -/
theorem Fm.cmp.at {f g h : Fm} (e : f.cmp g h) (x y z w : Int) : ∃ u v, h.at u v = f.at x y * g.at z w := by
  obtain ⟨n, m, B, c, _, _, _, e1, e2, e3⟩ := e
  obtain ⟨x', y', h1⟩ := e1.at x y
  obtain ⟨z', w', h2⟩ := e2.at z w
  obtain ⟨u, v, h3⟩ := e3.symm.at (x' * z' - c * y' * w') (n * x' * w' + m * y' * z' + B * y' * w')
  exact ⟨u, v, by rw [h3, two_at, h1, h2]⟩
theorem Fm.prim.of {f : Fm} (h : ∀ q, QR.Pm q → q ∣ f.a → q ∣ f.b → ¬ q ∣ f.c) : f.prim :=
  QR.cop_iff.mpr fun q hq hd hc => h q hq (Int.dvd_trans hd (Int.gcd_dvd_left ..)) (Int.dvd_trans hd (Int.gcd_dvd_right ..)) hc
theorem Fm.cmp.prim {f g h : Fm} (fp : f.prim) (gp : g.prim) (x : f.cmp g h) : h.prim := by
  obtain ⟨n, m, B, c, _, _, _, x1, x2, x3⟩ := x
  refine Fm.prim.eqv (f := ⟨n * m, B, c⟩) (Fm.prim.of fun q hq ha hb hc => ?_) x3.symm
  dsimp only at ha hb hc
  rcases QR.Pm.dvd_mul hq ha with z | z
  · exact (fp.eqv x1).not hq z hb (Int.dvd_mul_of_dvd_right hc)
  · exact (gp.eqv x2).not hq z hb (Int.dvd_mul_of_dvd_right hc)
theorem Fm.eqv.ok {f g : Fm} (e : f.eqv g) (h : f.ok) : g.ok := by
  refine ⟨?_, by rw [e.D]; exact h.2⟩
  obtain ⟨p, q, r, s, dt, hg⟩ := e
  have ea : g.a = f.at p r := by rw [hg]; simp [Fm.act, Fm.at]
  rw [ea]
  refine Fm.at_pos h ?_
  by_cases p0 : p = 0
  · right
    intro r0
    rw [p0, r0] at dt
    simp at dt
  · exact .inl p0
theorem Fm.cmp.ok {f g h : Fm} (fo : f.ok) (x : f.cmp g h) : h.ok := by
  have hD := x.D.1
  obtain ⟨n, m, B, c, n1, m1, _, x1, x2, x3⟩ := x
  refine x3.symm.ok ⟨Int.mul_pos (show 0 < n by omega) (show 0 < m by omega), ?_⟩
  rw [x3.D, ← hD]
  exact fo.2
/-- three factors -/
theorem Fm.assoc {f g h x y z w : Fm} (fo : f.ok) (go : g.ok) (ho : h.ok) (fp : f.prim) (gp : g.prim) (hp : h.prim) (e1 : f.cmp g x) (e2 : x.cmp h y) (e3 : g.cmp h z) (e4 : f.cmp z w) : y.eqv w := by
  have hD1 : f.D = g.D := e1.D.1.trans e1.D.2.symm
  have hD2 : h.D = g.D := e3.D.2.trans e3.D.1.symm
  obtain ⟨g1, eg, g1a, g1c⟩ := gp.rep go (N := f.a) (by have := fo.1; omega)
  obtain ⟨B, c, a1, a2⟩ := Fm.two (f := f) (g := g1) (hD1.trans eg.D.symm) fo.1 g1a (by rw [gcd_c]; exact g1c)
  obtain ⟨n, hn⟩ : ∃ n, n = f.a := ⟨_, rfl⟩
  obtain ⟨m, hm⟩ : ∃ m, m = g1.a := ⟨_, rfl⟩
  have n1 : 1 ≤ n := by rw [hn]; exact fo.1
  have m1 : 1 ≤ m := by rw [hm]; exact g1a
  have nm : Int.gcd n m = 1 := by rw [hn, hm, gcd_c]; exact g1c
  rw [← hn, ← hm] at a1 a2
  obtain ⟨h1, eh, h1a, h1c⟩ := hp.rep ho (N := n * m) (fun z => by rcases Int.mul_eq_zero.mp z with z | z <;> omega)
  obtain ⟨B', c', b1, b2, b3, b4, b5, b6⟩ := mid_all (f' := h1) (k := h1.a) (n := n) (m := m) (B := B) (c := c) (b := 0) n1 m1 h1a rfl h1c (by
    rw [eh.D, hD2, ← hD1, ← a1.D]; unfold Fm.D; grind)
  obtain ⟨k, hk⟩ : ∃ k, k = h1.a := ⟨_, rfl⟩
  rw [← hk] at h1a h1c b2 b3 b4 b5 b6
  have kn : Int.gcd k n = 1 := gcd_mul_l h1c
  have km : Int.gcd k m = 1 := gcd_mul_r h1c
  have f1 : f.eqv ⟨n, B', m * (k * c')⟩ := a1.trans b4
  have g2 : g.eqv ⟨m, B', n * (k * c')⟩ := eg.trans (a2.trans (by rw [show n * (k * c') = k * (n * c') by grind]; exact b5))
  have h2 : h.eqv ⟨k, B', m * (n * c')⟩ := eh.trans b3
  have x1 : f.cmp g ⟨n * m, B', k * c'⟩ := ⟨n, m, B', k * c', n1, m1, nm, f1, g2, Fm.eqv.refl _⟩
  have ex := Fm.cmp.uniq fo go fp gp e1 x1
  have nm1 : 1 ≤ n * m := Int.mul_pos (show 0 < n by omega) (show 0 < m by omega)
  have y1 : x.cmp h ⟨n * m * k, B', c'⟩ := ⟨n * m, k, B', c', nm1, h1a, by rw [gcd_c]; exact h1c, ex, by rw [show n * m * c' = m * (n * c') by grind]; exact h2, Fm.eqv.refl _⟩
  have ey := Fm.cmp.uniq (e1.ok fo) ho (e1.prim fp gp) hp e2 y1
  have mk1 : 1 ≤ m * k := Int.mul_pos (show 0 < m by omega) (show 0 < k by omega)
  have z1 : g.cmp h ⟨m * k, B', n * c'⟩ := ⟨m, k, B', n * c', m1, h1a, by rw [gcd_c]; exact km, by rw [show k * (n * c') = n * (k * c') by grind]; exact g2, h2, Fm.eqv.refl _⟩
  have ez := Fm.cmp.uniq go ho gp hp e3 z1
  have w1 : f.cmp z ⟨n * (m * k), B', c'⟩ := ⟨n, m * k, B', c', n1, mk1, QR.cop_mul nm (by rw [gcd_c]; exact kn), by rw [show m * k * c' = m * (k * c') by grind]; exact f1, ez, Fm.eqv.refl _⟩
  have ew := Fm.cmp.uniq fo (e3.ok go) fp (e3.prim gp hp) e4 w1
  rw [show n * m * k = n * (m * k) by grind] at ey
  exact ey.trans ew.symm
/-- the main form -/
def mainF (d : Int) : Fm := if d % 4 = 0 then ⟨1, 0, -d / 4⟩ else ⟨1, 1, (1 - d) / 4⟩
theorem mainF_D {d : Int} (h : d % 4 = 0 ∨ d % 4 = 1) : (mainF d).D = d ∧ (mainF d).a = 1 := by
  unfold mainF
  split
  · refine ⟨?_, rfl⟩
    unfold Fm.D
    dsimp only
    omega
  · refine ⟨?_, rfl⟩
    unfold Fm.D
    dsimp only
    omega
theorem Fm.D_mod (f : Fm) : f.D % 4 = 0 ∨ f.D % 4 = 1 := by
  have e : f.D = f.b * f.b - 4 * (f.a * f.c) := by unfold Fm.D; grind
  have : f.b * f.b % 4 = 0 ∨ f.b * f.b % 4 = 1 := by
    rcases (show f.b % 4 = 0 ∨ f.b % 4 = 1 ∨ f.b % 4 = 2 ∨ f.b % 4 = 3 by omega) with z | z | z | z <;> rw [Int.mul_emod, z] <;> decide
  rw [e]
  omega
theorem mainF_ok {d : Int} (h0 : d < 0) (h : d % 4 = 0 ∨ d % 4 = 1) : (mainF d).ok := ⟨by rw [(mainF_D h).2]; decide, by rw [(mainF_D h).1]; exact h0⟩
theorem prim_one {f : Fm} (h : f.a = 1) : f.prim := by
  unfold Fm.prim
  rw [h]
  simp
theorem mainF_prim {d : Int} (h : d % 4 = 0 ∨ d % 4 = 1) : (mainF d).prim := prim_one (mainF_D h).2
theorem mainF_red {d : Int} (h0 : d < 0) (h : d % 4 = 0 ∨ d % 4 = 1) : (mainF d).red := by
  unfold mainF Fm.red Fm.norm
  split <;> dsimp only <;> omega
/-- a form with the first number 1 is in the class of the main form -/
theorem one_main {f g : Fm} (ha : f.a = 1) (hg : g.a = 1) (hD : f.D = g.D) : f.eqv g := by
  have p : (2 : Int) ∣ f.b - g.b := by
    have := Int.dvd_sub g.D_par f.D_par
    rw [hD] at this
    rwa [show g.D - g.b - (g.D - f.b) = f.b - g.b by omega] at this
  refine Fm.same_mid (N := 1) (by decide) hD (h := f) (h' := g) (B := f.b) (c := f.c) (B' := g.b) (c' := g.c) ?_ ?_ (by omega)
  · rw [← ha]; exact Fm.eqv.refl f
  · rw [← hg]; exact Fm.eqv.refl g
/-- the unit -/
theorem Fm.cmp_one {e f : Fm} (he : e.a = 1) (fo : f.ok) (hD : e.D = f.D) : e.cmp f f := by
  refine ⟨1, f.a, f.b, f.c, by decide, fo.1, by simp, ?_, ?_, ?_⟩
  · refine one_main he rfl ?_
    rw [hD]
    unfold Fm.D
    grind
  · rw [Int.one_mul]; exact Fm.eqv.refl f
  · rw [Int.one_mul]; exact Fm.eqv.refl f
def Fm.opp (f : Fm) : Fm := ⟨f.a, -f.b, f.c⟩
theorem Fm.opp_opp (f : Fm) : f.opp.opp = f := by simp [Fm.opp]
theorem Fm.opp_D (f : Fm) : f.opp.D = f.D := by simp [Fm.opp, Fm.D, Int.neg_mul_neg]
theorem Fm.ok.opp {f : Fm} (h : f.ok) : f.opp.ok := ⟨h.1, by rw [Fm.opp_D]; exact h.2⟩
theorem Fm.eqv.opp {f g : Fm} (h : f.eqv g) : f.opp.eqv g.opp := by
  obtain ⟨p, q, r, s, dt, hg⟩ := h
  refine ⟨p, -q, -r, s, by rw [← dt]; grind, ?_⟩
  rw [hg]
  refine Fm.ext' ?_ ?_ ?_ <;> simp only [Fm.act, Fm.opp] <;> grind
theorem Fm.prim.opp {f : Fm} (h : f.prim) : f.opp.prim := Fm.prim.of fun q hq ha hb hc => h.not hq ha (Int.dvd_neg.mp hb) hc
theorem Fm.opp_swap (f : Fm) : f.opp.eqv ⟨f.c, f.b, f.a⟩ := ⟨0, -1, 1, 0, by decide, Fm.ext' (by simp [Fm.act, Fm.opp]) (by simp [Fm.act, Fm.opp]) (by simp [Fm.act, Fm.opp])⟩
/-- a form of the class whose outer numbers are coprime -/
theorem Fm.prim.outer {f : Fm} (h : f.prim) (ho : f.ok) : ∃ g : Fm, f.eqv g ∧ 1 ≤ g.a ∧ Int.gcd g.a g.c = 1 := by
  obtain ⟨g, e, g1, gc⟩ := h.rep ho (N := f.D) (by have := ho.2; omega)
  have gb : Int.gcd g.b g.a = 1 := QR.cop_iff.mpr fun q hq hd ha => by
    refine QR.cop_iff.mp gc q hq ha ?_
    rw [← e.D]
    unfold Fm.D
    exact Int.dvd_sub (Int.dvd_mul_of_dvd_left hd) (Int.dvd_mul_of_dvd_left (Int.dvd_mul_of_dvd_right ha))
  obtain ⟨u, v, huv⟩ := bezI gb
  refine ⟨_, e.trans (g.shift_eqv (u * (1 - g.c))), g1, ?_⟩
  dsimp only
  refine QR.cop_iff.mpr fun q hq hd hc => ?_
  have d1 : q ∣ g.a * (u * (1 - g.c)) * (u * (1 - g.c)) := Int.dvd_mul_of_dvd_left (Int.dvd_mul_of_dvd_left hd)
  have d2 : q ∣ g.b * (u * (1 - g.c)) + g.c := by
    have := Int.dvd_sub hc d1
    rwa [show g.a * (u * (1 - g.c)) * (u * (1 - g.c)) + g.b * (u * (1 - g.c)) + g.c - g.a * (u * (1 - g.c)) * (u * (1 - g.c)) = g.b * (u * (1 - g.c)) + g.c by omega] at this
  have d3 : q ∣ g.a * v * (1 - g.c) := Int.dvd_mul_of_dvd_left (Int.dvd_mul_of_dvd_left hd)
  have e1 : g.b * (u * (1 - g.c)) + g.c + g.a * v * (1 - g.c) = 1 := by
    have : g.b * (u * (1 - g.c)) + g.a * v * (1 - g.c) = (g.b * u + g.a * v) * (1 - g.c) := by grind
    rw [huv] at this
    omega
  have := Int.dvd_add d2 d3
  rw [e1] at this
  have := Int.le_of_dvd (by decide) this
  have := hq.1
  omega
/-- a form times its opposite -/
theorem Fm.cmp_opp {f e : Fm} (h : f.prim) (ho : f.ok) (he : e.a = 1) (hD : e.D = f.D) : f.cmp f.opp e := by
  obtain ⟨g, eg, g1, gc⟩ := h.outer ho
  have go := eg.ok ho
  have c1 := go.c_pos
  refine ⟨g.a, g.c, g.b, 1, g1, c1, gc, by rw [Int.mul_one]; exact eg, by rw [Int.mul_one]; exact eg.opp.trans g.opp_swap, ?_⟩
  have s : (⟨g.a * g.c, g.b, 1⟩ : Fm).eqv ⟨1, -g.b, g.a * g.c⟩ := ⟨0, -1, 1, 0, by decide, Fm.ext' (by simp [Fm.act]) (by simp [Fm.act]) (by simp [Fm.act])⟩
  refine Fm.eqv.trans (one_main he rfl ?_) s.symm
  rw [hD, ← eg.D]
  unfold Fm.D
  dsimp only
  grind
/-- the document's way to a product -/
theorem Fm.compose_ok {f g : Fm} {B : Int} (fa : 1 ≤ f.a) (ga : 1 ≤ g.a) (hD : f.D = g.D) (hc : Int.gcd f.a g.a = 1) (h1 : 2 * f.a ∣ B - f.b) (h2 : 2 * g.a ∣ B - g.b) : f.cmp g ⟨f.a * g.a, B, (B * B - f.D) / (4 * (f.a * g.a))⟩ := by
  obtain ⟨C1, e1, d1⟩ := Fm.mid_eqv (f := f) (by omega) h1
  obtain ⟨C2, e2, d2⟩ := Fm.mid_eqv (f := g) (by omega) h2
  have e : f.a * C1 = g.a * C2 := by
    have : 4 * f.a * C1 = 4 * (f.a * C1) := by grind
    have : 4 * g.a * C2 = 4 * (g.a * C2) := by grind
    omega
  obtain ⟨c, hc1⟩ : g.a ∣ C1 := QR.cop_dvd hc ⟨C2, e⟩
  have ec : (B * B - f.D) / (4 * (f.a * g.a)) = c := by
    have : B * B - f.D = 4 * (f.a * g.a) * c := by rw [← d1, hc1]; grind
    rw [this]
    refine Int.mul_ediv_cancel_left _ ?_
    have := Int.mul_pos (show 0 < f.a by omega) (show 0 < g.a by omega)
    omega
  rw [ec]
  refine ⟨f.a, g.a, B, c, fa, ga, hc, by rw [← hc1]; exact e1, ?_, Fm.eqv.refl _⟩
  have : C2 = f.a * c := by
    rw [hc1] at e
    have e3 : g.a * (f.a * c) = g.a * C2 := by rw [← e]; grind
    exact (Int.eq_of_mul_eq_mul_left (by omega) e3).symm
  rw [← this]
  exact e2
/-- the middle number by an inverse -/
theorem mid_ok {a b m e r t : Int} (p : (2 : Int) ∣ e - b) (hr : m ∣ a * r - 1) (ht : t = (e - b) / 2 * r % m) : 2 * m ∣ b + 2 * a * t - e := by
  obtain ⟨h, hh⟩ := p
  have e1 : (e - b) / 2 = h := by omega
  rw [e1] at ht
  obtain ⟨c1, h1⟩ := hr
  obtain ⟨c2, h2⟩ : m ∣ h * r - h * r % m := QR.dvd_sub_emod ..
  rw [← ht] at h2
  refine ⟨h * c1 - a * c2, ?_⟩
  have : t = h * r - m * c2 := by omega
  rw [this, show b + 2 * a * (h * r - m * c2) - e = 2 * (h * (a * r - 1)) - 2 * (a * (m * c2)) + (b + 2 * h - e) by grind, h1]
  have : b + 2 * h - e = 0 := by omega
  rw [this]
  grind
/-- a small point whose value is coprime to a number -/
def PtB (f : Fm) (N : Int) : Prop := ∃ X Y : Int, 0 ≤ X ∧ 0 ≤ Y ∧ 1 ≤ X + Y ∧ X + Y < 2 ^ 60 ∧ Int.gcd X Y = 1 ∧ Int.gcd (f.at X Y) N = 1
/-! part m_bez -/
/-! the steps to common divisors, with the factors -/
/-- the steps: a row is (value, factor of A, factor of B) -/
structure CombInv (A B x0 x1 x2 y0 y1 y2 : Int) : Prop where
  hx : 0 ≤ x0
  hy : 0 ≤ y0
  sum : 0 < x0 ∨ 0 < y0 ∨ (A = 0 ∧ B = 0)
  ex : x0 = x1 * A + x2 * B
  ey : y0 = y1 * A + y2 * B
  g : Int.gcd x0 y0 = Int.gcd A B
  sg : ∃ s u v u2 v2 : Int, (s = 1 ∨ s = -1) ∧ 0 ≤ u ∧ 0 ≤ v ∧ 0 ≤ u2 ∧ 0 ≤ v2 ∧ x1 = s * u ∧ y1 = -s * v ∧ x2 = -s * u2 ∧ y2 = s * v2 ∧ x0 * v + y0 * u = B ∧ x0 * v2 + y0 * u2 = A ∧ u ≤ B + 1 ∧ u2 ≤ A + 1 ∧ (x0 = 0 → v ≤ 1 ∧ v2 ≤ 1)
  le : x0 ≤ A ∨ x0 ≤ B
theorem comb_start {A B : Int} (hA : 0 ≤ A) (hB : 0 ≤ B) : CombInv A B A 1 0 B 0 1 :=
  ⟨hA, hB, by omega, by omega, by omega, rfl, ⟨1, 1, 0, 0, 1, .inl rfl, by omega, by omega, by omega, by omega, rfl, rfl, rfl, rfl, by omega, by omega, by omega, by omega, fun _ => ⟨by omega, by omega⟩⟩, .inl (Int.le_refl _)⟩
theorem comb_turn {A B x0 x1 x2 y0 y1 y2 : Int} (h : CombInv A B x0 x1 x2 y0 y1 y2) (h0 : 0 < y0) :
    CombInv A B y0 y1 y2 (x0 - x0 / y0 * y0) (x1 - x0 / y0 * y1) (x2 - x0 / y0 * y2) ∧ (x0 - x0 / y0 * y0).toNat < y0.toNat := by
  obtain ⟨s, u, v, u2, v2, hs, hu, hv, hu2, hv2, e1, e2, e3, e4, e5, e6, b1, b2, b0⟩ := h.sg
  have em : x0 - x0 / y0 * y0 = x0 % y0 := by
    have := Int.mul_ediv_add_emod x0 y0
    rw [Int.mul_comm (x0 / y0) y0]
    omega
  have m0 := Int.emod_nonneg x0 (show y0 ≠ 0 by omega)
  have m1 := Int.emod_lt_of_pos x0 h0
  have hq : 0 ≤ x0 / y0 := Int.ediv_nonneg h.hx h.hy
  generalize x0 / y0 = t at *
  have ex := h.ex
  have ey := h.ey
  refine ⟨⟨h.hy, by omega, .inl h0, ey, by grind, ?_, ⟨-s, v, u + t * v, v2, u2 + t * v2, by omega, hv, ?_, hv2, ?_, by grind, by grind, by grind, by grind, by grind, by grind, ?_, ?_, fun z => by omega⟩, ?_⟩, by omega⟩
  · rw [em, gcd_turn h.hx h0, h.g]
  · have := Int.mul_nonneg hq hv
    omega
  · have := Int.mul_nonneg hq hv2
    omega
  · have hx := h.hx
    have p3 := Int.mul_nonneg (show 0 ≤ y0 by omega) hu
    rcases Int.lt_or_le 0 x0 with hx' | hx'
    · have q1 : 1 * v ≤ x0 * v := Int.mul_le_mul_of_nonneg_right (by omega) hv
      omega
    · have := b0 (by omega)
      have hB : 0 ≤ B := by
        have := Int.mul_nonneg hx hv
        omega
      omega
  · have hx := h.hx
    have p3 := Int.mul_nonneg (show 0 ≤ y0 by omega) hu2
    rcases Int.lt_or_le 0 x0 with hx' | hx'
    · have q1 : 1 * v2 ≤ x0 * v2 := Int.mul_le_mul_of_nonneg_right (by omega) hv2
      omega
    · have := b0 (by omega)
      have hA : 0 ≤ A := by
        have := Int.mul_nonneg hx hv2
        omega
      omega
  · have hx := h.hx
    have p1 := Int.mul_nonneg hx hv
    have p2 := Int.mul_nonneg hx hv2
    rcases Int.lt_or_le 0 u with hu' | hu'
    · right
      have : y0 * 1 ≤ y0 * u := Int.mul_le_mul_of_nonneg_left (by omega) (by omega)
      omega
    · rcases Int.lt_or_le 0 u2 with hu2' | hu2'
      · left
        have : y0 * 1 ≤ y0 * u2 := Int.mul_le_mul_of_nonneg_left (by omega) (by omega)
        omega
      · exfalso
        have z1 : u = 0 := by omega
        have z2 : u2 = 0 := by omega
        rw [z1, Int.mul_zero] at e1
        rw [z2, Int.mul_zero] at e3
        have z : x0 = 0 := by rw [ex, e1, e3]; omega
        have w1 : B = 0 := by rw [← e5, z, z1]; omega
        have w2 : A = 0 := by rw [← e6, z, z2]; omega
        have : y0 = 0 := by rw [ey, w1, w2]; omega
        omega
/-- the factors stay below A + B -/
theorem comb_bound {A B x0 x1 x2 y0 y1 y2 : Int} (h : CombInv A B x0 x1 x2 y0 y1 y2) (hA : 0 ≤ A) (hB : 0 ≤ B) (h0 : 0 < y0) : x0 / y0 ≤ A + B ∧ 0 ≤ x0 / y0 ∧ y0 ≤ A + B ∧ (x0 = 0 ∨ ((-B ≤ y1 ∧ y1 ≤ B) ∧ (-A ≤ y2 ∧ y2 ≤ A))) := by
  obtain ⟨s, u, v, u2, v2, hs, hu, hv, hu2, hv2, e1, e2, e3, e4, e5, e6, b1, b2, b0⟩ := h.sg
  have hx := h.hx
  have p1 := Int.mul_nonneg hx hv
  have p2 := Int.mul_nonneg hx hv2
  have p3 := Int.mul_nonneg (show 0 ≤ y0 by omega) hu
  have p4 := Int.mul_nonneg (show 0 ≤ y0 by omega) hu2
  have hq : 0 ≤ x0 / y0 := Int.ediv_nonneg h.hx h.hy
  have hqx : x0 / y0 ≤ x0 := Int.ediv_le_self _ hx
  have hle := h.le
  refine ⟨by omega, hq, ?_, ?_⟩
  · rcases Int.lt_or_le 0 u with hu' | hu'
    · have : y0 * 1 ≤ y0 * u := Int.mul_le_mul_of_nonneg_left (by omega) (by omega)
      omega
    · rcases Int.lt_or_le 0 u2 with hu2' | hu2'
      · have : y0 * 1 ≤ y0 * u2 := Int.mul_le_mul_of_nonneg_left (by omega) (by omega)
        omega
      · have z1 : u = 0 := by omega
        have z2 : u2 = 0 := by omega
        rw [z1, Int.mul_zero] at e1
        rw [z2, Int.mul_zero] at e3
        have ex := h.ex
        have ey := h.ey
        have z : x0 = 0 := by rw [ex, e1, e3]; omega
        have w1 : B = 0 := by rw [← e5, z, z1]; omega
        have w2 : A = 0 := by rw [← e6, z, z2]; omega
        have : y0 = 0 := by rw [ey, w1, w2]; omega
        omega
  · rcases Int.lt_or_le 0 x0 with hx' | hx'
    · right
      have q1 : 1 * v ≤ x0 * v := Int.mul_le_mul_of_nonneg_right (by omega) hv
      have q2 : 1 * v2 ≤ x0 * v2 := Int.mul_le_mul_of_nonneg_right (by omega) hv2
      rcases hs with rfl | rfl <;> constructor <;> constructor <;> omega
    · left
      omega
/-! part m_cl -/
/-! the classes of a discriminant as a group -/
/-- a form of the discriminant without a common divisor -/
structure Cl (d : Int) (f : Fm) : Prop where
  ok : f.ok
  D : f.D = d
  pr : f.prim
theorem Cl.eqv {d : Int} {f g : Fm} (h : Cl d f) (e : f.eqv g) : Cl d g := ⟨e.ok h.ok, e.D.trans h.D, h.pr.eqv e⟩
theorem Cl.d4 {d : Int} {f : Fm} (h : Cl d f) : d % 4 = 0 ∨ d % 4 = 1 := h.D ▸ f.D_mod
theorem Cl.neg {d : Int} {f : Fm} (h : Cl d f) : d < 0 := h.D ▸ h.ok.2
theorem Cl.main {d : Int} {f : Fm} (h : Cl d f) : Cl d (mainF d) := ⟨mainF_ok h.neg h.d4, (mainF_D h.d4).1, mainF_prim h.d4⟩
theorem Cl.opp {d : Int} {f : Fm} (h : Cl d f) : Cl d f.opp := ⟨h.ok.opp, by rw [Fm.opp_D]; exact h.D, h.pr.opp⟩
theorem Cl.rd {d : Int} {f : Fm} (h : Cl d f) : Cl d (redF f) := h.eqv (redF_eqv f)
theorem red_id {f : Fm} (h : f.red) : redF f = f := by
  unfold redF
  rw [len_red h]
  rfl
theorem redF_ok {f : Fm} (h : f.ok) : (redF f).red := redF_red _ _ h (Nat.le_refl _)
theorem red_eq {f g : Fm} (fo : f.ok) (go : g.ok) (e : f.eqv g) (fr : f.red) (gr : g.red) : f = g := (e.uniq fr gr fo.1 go.1).symm
open Classical in
noncomputable def mulF (f g : Fm) : Fm := if h : ∃ r, f.cmp g r ∧ r.ok ∧ r.red then h.choose else f
section
variable {d : Int} {f g h : Fm}
theorem Cl.mul (F : Cl d f) (G : Cl d g) : f.cmp g (mulF f g) ∧ (mulF f g).ok ∧ (mulF f g).red := by
  obtain ⟨r, c, ro⟩ := Fm.cmp.ex F.ok G.ok G.pr (F.D.trans G.D.symm)
  have ex : ∃ r, f.cmp g r ∧ r.ok ∧ r.red := ⟨_, c.congr (Fm.eqv.refl f) (Fm.eqv.refl g) (redF_eqv r).symm, (redF_eqv r).ok ro, redF_ok ro⟩
  unfold mulF
  rw [dif_pos ex]
  exact ex.choose_spec
theorem Cl.mulC (F : Cl d f) (G : Cl d g) : Cl d (mulF f g) := ⟨(F.mul G).2.1, (F.mul G).1.D.1.symm.trans F.D, (F.mul G).1.prim F.pr G.pr⟩
theorem Cl.mul_eq (F : Cl d f) (G : Cl d g) (c : f.cmp g h) (ho : h.ok) (hr : h.red) : h = mulF f g :=
  red_eq ho (F.mul G).2.1 (Fm.cmp.uniq F.ok G.ok F.pr G.pr c (F.mul G).1) hr (F.mul G).2.2
theorem Cl.comm (F : Cl d f) (G : Cl d g) : mulF f g = mulF g f := G.mul_eq F (F.mul G).1.symm (F.mul G).2.1 (F.mul G).2.2
theorem Cl.congr {f' g' : Fm} (F : Cl d f) (G : Cl d g) (a : f.eqv f') (b : g.eqv g') : mulF f g = mulF f' g' :=
  (F.eqv a).mul_eq (G.eqv b) ((F.mul G).1.congr a.symm b.symm (Fm.eqv.refl _)) (F.mul G).2.1 (F.mul G).2.2
theorem Cl.assoc (F : Cl d f) (G : Cl d g) (K : Cl d h) : mulF (mulF f g) h = mulF f (mulF g h) :=
  red_eq ((F.mulC G).mul K).2.1 (F.mul (G.mulC K)).2.1 (Fm.assoc F.ok G.ok K.ok F.pr G.pr K.pr (F.mul G).1 ((F.mulC G).mul K).1 (G.mul K).1 (F.mul (G.mulC K)).1) ((F.mulC G).mul K).2.2 (F.mul (G.mulC K)).2.2
theorem Cl.one (F : Cl d f) : mulF (mainF d) f = redF f :=
  (F.main.mul_eq F ((Fm.cmp_one (mainF_D F.d4).2 F.ok ((mainF_D F.d4).1.trans F.D.symm)).congr (Fm.eqv.refl _) (Fm.eqv.refl _) (redF_eqv f).symm) ((redF_eqv f).ok F.ok) (redF_ok F.ok)).symm
theorem Cl.one' (F : Cl d f) : mulF f (mainF d) = redF f := (F.comm F.main).trans F.one
theorem Cl.inv (F : Cl d f) : mulF f f.opp = mainF d :=
  (F.mul_eq F.opp (Fm.cmp_opp F.pr F.ok (mainF_D F.d4).2 ((mainF_D F.d4).1.trans F.D.symm)) F.main.ok (mainF_red F.neg F.d4)).symm
/-- the powers of a form -/
noncomputable def pwF (d : Int) (f : Fm) : Nat → Fm
  | 0 => mainF d
  | k + 1 => mulF (pwF d f k) f
theorem Cl.pw (F : Cl d f) : ∀ k, Cl d (pwF d f k) ∧ (pwF d f k).red
  | 0 => ⟨F.main, mainF_red F.neg F.d4⟩
  | k + 1 => ⟨(F.pw k).1.mulC F, ((F.pw k).1.mul F).2.2⟩
theorem Cl.pw_add (F : Cl d f) (m : Nat) : ∀ n, mulF (pwF d f m) (pwF d f n) = pwF d f (m + n)
  | 0 => ((F.pw m).1.one').trans (red_id (F.pw m).2)
  | n + 1 => by
    show mulF (pwF d f m) (mulF (pwF d f n) f) = mulF (pwF d f (m + n)) f
    rw [← (F.pw m).1.assoc (F.pw n).1 F, F.pw_add m n]
theorem Cl.pw_congr (F : Cl d f) (e : f.eqv g) : ∀ k, pwF d f k = pwF d g k
  | 0 => rfl
  | k + 1 => by
    show mulF (pwF d f k) f = mulF (pwF d g k) g
    rw [← F.pw_congr e k]
    exact (F.pw k).1.congr F (Fm.eqv.refl _) e
theorem Cl.pw_mul (F : Cl d f) (m : Nat) : ∀ n, pwF d (pwF d f m) n = pwF d f (m * n)
  | 0 => rfl
  | n + 1 => by
    show mulF (pwF d (pwF d f m) n) (pwF d f m) = pwF d f (m * (n + 1))
    rw [F.pw_mul m n, F.pw_add, Nat.mul_succ]
theorem Cl.cancel {x y : Fm} (X : Cl d x) (Y : Cl d y) (F : Cl d f) (xr : x.red) (yr : y.red) (e : mulF x f = mulF y f) : x = y := by
  have h1 : mulF (mulF x f) f.opp = x := by rw [X.assoc F F.opp, F.inv, X.one', red_id xr]
  have h2 : mulF (mulF y f) f.opp = y := by rw [Y.assoc F F.opp, F.inv, Y.one', red_id yr]
  rw [← h1, ← h2, e]
def Fm.lt (f g : Fm) : Prop := f.a < g.a ∨ f.a = g.a ∧ f.b < g.b
theorem rfTo_lt {a : Int} (ha : 1 ≤ a) : ∀ j, (rfTo d a j).Pairwise Fm.lt ∧ ∀ f ∈ rfTo d a j, f.a = a ∧ f.b < 1 - a + j
  | 0 => ⟨List.Pairwise.nil, fun f h => absurd h (by simp [rfTo])⟩
  | j + 1 => by
    obtain ⟨i1, i2⟩ := rfTo_lt ha j
    rw [rfTo_succ]
    cases hg : goodB d a (1 - a + j) with
    | none =>
      simp only [Option.toList, List.append_nil]
      exact ⟨i1, fun f h => by have := i2 f h; push_cast; omega⟩
    | some g =>
      obtain ⟨_, e1, e2, _⟩ := goodB_D ha hg
      simp only [Option.toList]
      refine ⟨List.pairwise_append.mpr ⟨i1, List.pairwise_singleton .., fun f hf k hk => ?_⟩, fun f hf => ?_⟩
      · rw [List.mem_singleton.mp hk]
        have := i2 f hf
        exact .inr ⟨by omega, by omega⟩
      · rcases List.mem_append.mp hf with h | h
        · have := i2 f h
          push_cast
          omega
        · rw [List.mem_singleton.mp h]
          push_cast
          omega
theorem rfN_lt : ∀ n, (rfN d n).Pairwise Fm.lt ∧ ∀ f ∈ rfN d n, f.a ≤ n
  | 0 => ⟨List.Pairwise.nil, fun f h => absurd h (by simp [rfN])⟩
  | n + 1 => by
    obtain ⟨i1, i2⟩ := rfN_lt n
    rw [rfN_succ]
    obtain ⟨j1, j2⟩ := rfTo_lt (d := d) (a := (n : Int) + 1) (by omega) (2 * ((n : Int) + 1)).toNat
    refine ⟨List.pairwise_append.mpr ⟨i1, j1, fun f hf k hk => ?_⟩, fun f hf => ?_⟩
    · have := i2 f hf
      have := (j2 k hk).1
      exact .inl (by omega)
    · rcases List.mem_append.mp hf with h | h
      · have := i2 f h
        push_cast
        omega
      · have := (j2 f h).1
        push_cast
        omega
theorem rfL_lt : (rfL d).Pairwise Fm.lt := by
  unfold rfL
  split
  · exact (rfN_lt 19).1
  · exact List.Pairwise.nil
theorem rfL_nodup : (rfL d).Nodup := rfL_lt.imp fun h e => by
  subst e
  rcases h with h | h <;> omega
theorem permF {β : Type} [BEq β] [LawfulBEq β] : ∀ (l k : List β), l.Nodup → (∀ x, x ∈ l → x ∈ k) → k.length ≤ l.length → l.Perm k
  | [], k, _, _, hl => by
    have : k = [] := List.eq_nil_of_length_eq_zero (by simpa using hl)
    rw [this]
  | x :: l, k, hn, hs, hl => by
    have hx : x ∈ k := hs x (by simp)
    have hp := List.perm_cons_erase hx
    have hn' := List.nodup_cons.mp hn
    refine List.Perm.trans (List.Perm.cons x (permF l (k.erase x) hn'.2 (fun y hy => ?_) ?_)) hp.symm
    · have hne : y ≠ x := fun e => hn'.1 (e ▸ hy)
      exact (List.mem_erase_of_ne hne).mpr (hs y (List.mem_cons_of_mem _ hy))
    · have := hp.length_eq
      simp at this hl
      omega
theorem mem_cl (d1 : d < 0) (d0 : -1000 ≤ d) : f ∈ rfL d ↔ Cl d f ∧ f.red := by
  rw [mem_rfL d1 d0]
  exact ⟨fun ⟨a, b, c, e⟩ => ⟨⟨b, a, e⟩, c⟩, fun ⟨⟨a, b, c⟩, e⟩ => ⟨b, a, e, c⟩⟩
/-- the products with all forms of the list are these forms -/
theorem Cl.perm (F : Cl d f) (d0 : -1000 ≤ d) : ((rfL d).map (mulF f)).Perm (rfL d) := by
  have me := fun g => mem_cl (f := g) F.neg d0
  refine permF _ _ ?_ (fun x hx => ?_) (by rw [List.length_map]; exact Nat.le_refl _)
  · refine List.pairwise_map.mpr (rfL_nodup.imp_of_mem fun {x y} hx hy ne e => ne ?_)
    obtain ⟨X, xr⟩ := (me x).mp hx
    obtain ⟨Y, yr⟩ := (me y).mp hy
    exact Cl.cancel X Y F xr yr (by rw [X.comm F, Y.comm F, e])
  · obtain ⟨g, hg, rfl⟩ := List.mem_map.mp hx
    obtain ⟨G, _⟩ := (me g).mp hg
    exact (me _).mpr ⟨F.mulC G, (F.mul G).2.2⟩
/-- the order of a form -/
structure OrdF (d : Int) (f : Fm) (k : Nat) : Prop where
  pos : 1 ≤ k
  one : pwF d f k = mainF d
  least : ∀ j, 1 ≤ j → j < k → pwF d f j ≠ mainF d
theorem OrdF.mod (F : Cl d f) {k : Nat} (o : OrdF d f k) (n : Nat) : pwF d f n = pwF d f (n % k) := by
  have e : pwF d f (k * (n / k)) = mainF d := by
    rw [← F.pw_mul, o.one]
    have M := F.main
    have r := mainF_red F.neg F.d4
    have : ∀ j, pwF d (mainF d) j = mainF d := fun j => by
      induction j with
      | zero => rfl
      | succ j ih =>
        show mulF (pwF d (mainF d) j) (mainF d) = mainF d
        rw [ih, M.one, red_id r]
    exact this _
  have := F.pw_add (k * (n / k)) (n % k)
  rw [e, (F.pw _).1.one, red_id (F.pw _).2, Nat.div_add_mod] at this
  exact this.symm
theorem OrdF.dvd (F : Cl d f) {k n : Nat} (o : OrdF d f k) (e : pwF d f n = mainF d) : k ∣ n := by
  rw [o.mod F] at e
  have := Nat.mod_lt n (show 0 < k by have := o.pos; omega)
  refine Nat.dvd_of_mod_eq_zero ?_
  rcases Nat.eq_zero_or_pos (n % k) with z | z
  · exact z
  · exact absurd e (o.least _ z this)
theorem OrdF.uniq {k j : Nat} (a : OrdF d f k) (b : OrdF d f j) : k = j := by
  rcases Nat.lt_trichotomy k j with z | z | z
  · exact absurd a.one (b.least k a.pos z)
  · exact z
  · exact absurd b.one (a.least j b.pos z)
theorem OrdF.congr (F : Cl d f) (e : f.eqv g) {k : Nat} (o : OrdF d f k) : OrdF d g k := ⟨o.pos, by rw [← F.pw_congr e]; exact o.one, fun j a b => by rw [← F.pw_congr e]; exact o.least j a b⟩
end
/-! part m_sieve -/
/-! a small point whose value is coprime to a number of up to 122 bits: a sieve -/
section
open Classical
noncomputable def cN (P : Int → Prop) : Nat → Int
  | 0 => 0
  | n + 1 => cN P n + if P (n : Int) then 1 else 0
theorem cN_pos {P : Int → Prop} : ∀ {L : Nat}, 0 < cN P L → ∃ u : Nat, u < L ∧ P u
  | 0, h => absurd h (by simp [cN])
  | L + 1, h => by
    by_cases z : P (L : Int)
    · exact ⟨L, by omega, z⟩
    · rw [cN, if_neg z] at h
      obtain ⟨u, a, b⟩ := cN_pos (P := P) (L := L) (by omega)
      exact ⟨u, by omega, b⟩
theorem cN_congr {P R : Int → Prop} (h : ∀ u, P u ↔ R u) : ∀ L, cN P L = cN R L
  | 0 => rfl
  | L + 1 => by
    rw [cN, cN, cN_congr h L]
    by_cases z : P (L : Int)
    · rw [if_pos z, if_pos ((h _).mp z)]
    · rw [if_neg z, if_neg fun w => z ((h _).mpr w)]
theorem cN_sub {X Y Z : Int → Prop} (h : ∀ u, X u ↔ Y u ∧ ¬ Z u) : ∀ L, cN X L = cN Y L - cN (fun u => Z u ∧ Y u) L
  | 0 => by simp [cN]
  | L + 1 => by
    have ih := cN_sub h L
    rw [cN, cN, cN, ih]
    by_cases y : Y (L : Int) <;> by_cases z : Z (L : Int)
    · rw [if_neg fun w => ((h _).mp w).2 z, if_pos y, if_pos ⟨z, y⟩]; omega
    · rw [if_pos ((h _).mpr ⟨y, z⟩), if_pos y, if_neg fun w => z w.1]; omega
    · rw [if_neg fun w => y ((h _).mp w).1, if_neg y, if_neg fun w => y w.2]; omega
    · rw [if_neg fun w => y ((h _).mp w).1, if_neg y, if_neg fun w => y w.2]; omega
theorem cN_or {A B Y : Int → Prop} (h : ∀ u, ¬ (A u ∧ B u)) : ∀ L, cN (fun u => (A u ∨ B u) ∧ Y u) L = cN (fun u => A u ∧ Y u) L + cN (fun u => B u ∧ Y u) L
  | 0 => by simp [cN]
  | L + 1 => by
    have ih := cN_or (Y := Y) h L
    rw [cN, cN, cN, ih]
    have n := h (L : Int)
    by_cases a : A (L : Int) <;> by_cases b : B (L : Int) <;> by_cases y : Y (L : Int)
    · exact absurd ⟨a, b⟩ n
    · exact absurd ⟨a, b⟩ n
    · simp [a, b, y] <;> omega
    · simp [a, b, y] <;> omega
    · simp [a, b, y] <;> omega
    · simp [a, b, y] <;> omega
    · simp [a, b, y] <;> omega
    · simp [a, b, y] <;> omega
/-- how many of the first L are r modulo p -/
noncomputable def cl (p r : Int) (L : Nat) : Nat := match L with
  | 0 => 0
  | L + 1 => cl p r L + if (L : Int) % p = r then 1 else 0
theorem cl_le {p r : Int} (r0 : 0 ≤ r) (r1 : r < p) : ∀ L : Nat, (L : Int) ≤ p * (cl p r L : Int) + r ∧ p * (cl p r L : Int) + r < L + p
  | 0 => by simp [cl]; omega
  | L + 1 => by
    obtain ⟨a, b⟩ := cl_le r0 r1 L
    have e : (p * (cl p r L : Int) + r) % p = r := by
      rw [Int.add_comm, Int.add_mul_emod_self_left]
      exact Int.emod_eq_of_lt r0 r1
    by_cases z : (L : Int) % p = r
    · rw [cl, if_pos z]
      have d : p ∣ p * (cl p r L : Int) + r - L := Int.dvd_of_emod_eq_zero (Int.emod_eq_emod_iff_emod_sub_eq_zero.mp (e.trans z.symm))
      obtain ⟨c, hc⟩ := d
      have c0 : c = 0 := by
        rcases Int.lt_trichotomy c 0 with w | w | w
        · have : p * c ≤ p * -1 := Int.mul_le_mul_of_nonneg_left (by omega) (by omega)
          omega
        · exact w
        · have : p * 1 ≤ p * c := Int.mul_le_mul_of_nonneg_left (by omega) (by omega)
          omega
      rw [c0] at hc
      have e2 : p * ((cl p r L + 1 : Nat) : Int) = p * (cl p r L : Int) + p := by push_cast; grind
      omega
    · rw [cl, if_neg z]
      have : (L : Int) ≠ p * (cl p r L : Int) + r := fun w => z (by rw [w]; exact e)
      simp only [Nat.add_zero]
      omega
theorem cl_at {p r : Int} (r0 : 0 ≤ r) (r1 : r < p) {L : Nat} (z : (L : Int) % p = r) : (L : Int) = r + p * (cl p r L : Int) := by
  obtain ⟨a, b⟩ := cl_le r0 r1 L
  have e : (p * (cl p r L : Int) + r) % p = r := by
    rw [Int.add_comm, Int.add_mul_emod_self_left]
    exact Int.emod_eq_of_lt r0 r1
  obtain ⟨c, hc⟩ : p ∣ p * (cl p r L : Int) + r - L := Int.dvd_of_emod_eq_zero (Int.emod_eq_emod_iff_emod_sub_eq_zero.mp (e.trans z.symm))
  have c0 : c = 0 := by
    rcases Int.lt_trichotomy c 0 with w | w | w
    · have : p * c ≤ p * -1 := Int.mul_le_mul_of_nonneg_left (by omega) (by omega)
      omega
    · exact w
    · have : p * 1 ≤ p * c := Int.mul_le_mul_of_nonneg_left (by omega) (by omega)
      omega
  rw [c0] at hc
  omega
/-- the sum along one class -/
theorem cN_class {p r : Int} (r0 : 0 ≤ r) (r1 : r < p) (Y : Int → Prop) : ∀ L : Nat, cN (fun u => u % p = r ∧ Y u) L = cN (fun v => Y (r + p * v)) (cl p r L)
  | 0 => rfl
  | L + 1 => by
    have ih := cN_class r0 r1 Y L
    rw [cN, ih]
    by_cases z : (L : Int) % p = r
    · have e := cl_at r0 r1 z
      rw [cl, if_pos z, cN, ← e]
      by_cases y : Y (L : Int)
      · rw [if_pos ⟨z, y⟩, if_pos y]
      · rw [if_neg fun w => y w.2, if_neg y]
    · rw [cl, if_neg z, if_neg fun w => z w.1]
      simp
end
/-- coprime to the product, so to say -/
def Gd (A B C : Int) (qs : List Int) (t : Int) : Prop := ∀ q ∈ qs, ¬ q ∣ A + B * t + C * t * t
def prL : List Int → Int
  | [] => 1
  | q :: qs => q * prL qs
def phL : List Int → Int
  | [] => 1
  | q :: qs => (q - 2) * phL qs
/-- at most two roots -/
theorem roots2 {p A B C : Int} (hp : QR.Pm p) (n : ¬ (p ∣ A ∧ p ∣ B ∧ p ∣ C)) : (∀ t, ¬ p ∣ A + B * t + C * t * t) ∨ (∃ b, ∀ t, p ∣ A + B * t + C * t * t ↔ p ∣ t - b) ∨ ∃ b c, ¬ p ∣ b - c ∧ ∀ t, p ∣ A + B * t + C * t * t ↔ p ∣ t - b ∨ p ∣ t - c := by
  have cg : ∀ s t, p ∣ s - t → (p ∣ A + B * s + C * s * s ↔ p ∣ A + B * t + C * t * t) := fun s t h => by
    have d : p ∣ (A + B * s + C * s * s) - (A + B * t + C * t * t) := by
      obtain ⟨c, hc⟩ := h
      refine ⟨c * (B + C * (s + t)), ?_⟩
      have : (A + B * s + C * s * s) - (A + B * t + C * t * t) = (s - t) * (B + C * (s + t)) := by grind
      rw [this, hc]
      grind
    constructor
    · intro k
      have := Int.dvd_sub k d
      rwa [show A + B * s + C * s * s - (A + B * s + C * s * s - (A + B * t + C * t * t)) = A + B * t + C * t * t by omega] at this
    · intro k
      have := Int.dvd_add d k
      rwa [show A + B * s + C * s * s - (A + B * t + C * t * t) + (A + B * t + C * t * t) = A + B * s + C * s * s by omega] at this
  have two : ∀ s t, p ∣ A + B * s + C * s * s → p ∣ A + B * t + C * t * t → ¬ p ∣ s - t → p ∣ B + C * (s + t) := fun s t h k z => by
    have d : p ∣ (s - t) * (B + C * (s + t)) := by
      have := Int.dvd_sub h k
      rwa [show (A + B * s + C * s * s) - (A + B * t + C * t * t) = (s - t) * (B + C * (s + t)) by grind] at this
    exact (QR.Pm.dvd_mul hp d).resolve_left z
  by_cases h0 : ∃ b, p ∣ A + B * b + C * b * b
  · obtain ⟨b, hb⟩ := h0
    by_cases h1 : ∃ c, p ∣ A + B * c + C * c * c ∧ ¬ p ∣ b - c
    · obtain ⟨c, hc, nbc⟩ := h1
      refine .inr (.inr ⟨b, c, nbc, fun t => ⟨fun ht => ?_, fun h => h.elim (fun z => (cg t b z).mpr hb) fun z => (cg t c z).mpr hc⟩⟩)
      refine Classical.byContradiction fun no => n ?_
      have n1 : ¬ p ∣ t - b := fun z => no (.inl z)
      have n2 : ¬ p ∣ t - c := fun z => no (.inr z)
      have e1 := two t b ht hb n1
      have e2 := two t c ht hc n2
      have dC : p ∣ C := by
        have := Int.dvd_sub e1 e2
        rw [show B + C * (t + b) - (B + C * (t + c)) = (b - c) * C by grind] at this
        exact (QR.Pm.dvd_mul hp this).resolve_left nbc
      have dB : p ∣ B := by
        have := Int.dvd_sub e1 (Int.dvd_mul_of_dvd_left dC (c := t + b))
        rwa [show B + C * (t + b) - C * (t + b) = B by omega] at this
      have dA : p ∣ A := by
        have := Int.dvd_sub (Int.dvd_sub hb (Int.dvd_mul_of_dvd_left dB (c := b))) (Int.dvd_mul_of_dvd_left (Int.dvd_mul_of_dvd_left dC (c := b)) (c := b))
        rwa [show A + B * b + C * b * b - B * b - C * b * b = A by omega] at this
      exact ⟨dA, dB, dC⟩
    · refine .inr (.inl ⟨b, fun t => ⟨fun ht => ?_, fun z => (cg t b z).mpr hb⟩⟩)
      refine Classical.byContradiction fun no => h1 ⟨t, ht, fun z => no ?_⟩
      have := Int.dvd_neg.mpr z
      rwa [show -(b - t) = t - b by omega] at this
  · exact .inl fun t ht => h0 ⟨t, ht⟩
theorem prL_pos : ∀ {qs : List Int}, (∀ q ∈ qs, 3 ≤ q) → 1 ≤ prL qs
  | [], _ => Int.le_refl _
  | q :: qs, h => by
    have h1 := h q (by simp)
    have h2 := prL_pos (qs := qs) fun x hx => h x (List.mem_cons_of_mem _ hx)
    exact Int.mul_pos (show 0 < q by omega) (show 0 < prL qs by omega)
theorem pow3_pos (k : Nat) : (1 : Int) ≤ 3 ^ k := Int.pow_pos (by decide)
theorem abs_mul {p a c : Int} (hp : 0 ≤ p) (h : -c ≤ a ∧ a ≤ c) : -(p * c) ≤ p * a ∧ p * a ≤ p * c := by
  have h1 := Int.mul_le_mul_of_nonneg_left h.1 hp
  have h2 := Int.mul_le_mul_of_nonneg_left h.2 hp
  rw [Int.mul_neg] at h1
  exact ⟨h1, h2⟩
/-- an inverse that leads to a class -/
theorem class_of {p s M b : Int} (hp : QR.Pm p) (hM : ¬ p ∣ M) : ∃ r, 0 ≤ r ∧ r < p ∧ ∀ u, p ∣ s + M * u - b ↔ u % p = r := by
  have g : Int.gcd M p = 1 := by
    rw [gcd_c]
    exact (QR.pm_cop hp).mpr hM
  obtain ⟨x, y, e⟩ := bezI g
  have p0 := hp.1
  refine ⟨x * (b - s) % p, Int.emod_nonneg _ (by omega), Int.emod_lt_of_pos _ (by omega), fun u => ?_⟩
  have key : p ∣ u - x * (b - s) ↔ p ∣ s + M * u - b := by
    constructor
    · rintro ⟨c, hc⟩
      refine ⟨M * c - y * (b - s), ?_⟩
      have : u = x * (b - s) + p * c := by omega
      rw [this]
      have : M * (x * (b - s) + p * c) = (M * x + p * y) * (b - s) - p * y * (b - s) + p * (M * c) := by grind
      rw [show s + M * (x * (b - s) + p * c) - b = M * (x * (b - s) + p * c) - (b - s) by omega, this, e]
      grind
    · rintro ⟨c, hc⟩
      refine ⟨x * c + y * u, ?_⟩
      have : u = (M * x + p * y) * u := by rw [e, Int.one_mul]
      have e2 : x * (M * u) = x * (b - s) + x * (p * c) := by
        have : M * u = b - s + p * c := by omega
        rw [this]
        grind
      have e3 : (M * x + p * y) * u = x * (M * u) + p * (y * u) := by grind
      rw [e3, e2] at this
      grind
  rw [← key]
  exact (Int.emod_eq_emod_iff_emod_sub_eq_zero.trans ⟨fun h => Int.dvd_of_emod_eq_zero h, fun h => Int.emod_eq_zero_of_dvd h⟩).symm
theorem phL_pos : ∀ {qs : List Int}, (∀ q ∈ qs, 3 ≤ q) → 1 ≤ phL qs
  | [], _ => Int.le_refl _
  | q :: qs, h => by
    have h1 := h q (by simp)
    have h2 := phL_pos (qs := qs) fun x hx => h x (List.mem_cons_of_mem _ hx)
    exact Int.mul_pos (show 0 < q - 2 by omega) (show 0 < phL qs by omega)
/-- one class of p, counted -/
theorem one_class {A B C p P' Φ' E : Int} {qs : List Int} (hp : QR.Pm p) (hq : ∀ q ∈ qs, QR.Pm q ∧ q ≠ p) (P1 : 0 ≤ P') (F0 : 0 ≤ Φ') (F1 : Φ' ≤ P') (ih : ∀ (s M : Int) (L : Nat), (∀ q ∈ qs, ¬ q ∣ M) → -(P' * (E - 1)) ≤ P' * cN (fun u => Gd A B C qs (s + M * u)) L - L * Φ' ∧ P' * cN (fun u => Gd A B C qs (s + M * u)) L - L * Φ' ≤ P' * (E - 1)) {s M b : Int} {L : Nat} (hM : ∀ q ∈ p :: qs, ¬ q ∣ M) :
    -(p * P' * E) ≤ p * P' * cN (fun u => p ∣ s + M * u - b ∧ Gd A B C qs (s + M * u)) L - L * Φ' ∧ p * P' * cN (fun u => p ∣ s + M * u - b ∧ Gd A B C qs (s + M * u)) L - L * Φ' ≤ p * P' * E := by
  obtain ⟨r, r0, r1, hr⟩ := class_of (s := s) (b := b) hp (hM p (by simp))
  have p0 := hp.1
  rw [cN_congr (R := fun u => u % p = r ∧ Gd A B C qs (s + M * u)) fun u => and_congr_left' (hr u), cN_class r0 r1 (fun u => Gd A B C qs (s + M * u)), cN_congr (R := fun v => Gd A B C qs (s + M * r + M * p * v)) fun v => by
    rw [show s + M * (r + p * v) = s + M * r + M * p * v by grind]]
  have h := ih (s + M * r) (M * p) (cl p r L) fun q h d => by
    rcases QR.Pm.dvd_mul (hq q h).1 d with z | z
    · exact hM q (List.mem_cons_of_mem _ h) z
    · rcases Int.lt_or_eq_of_le (Int.le_of_dvd (by omega) z) with w | w
      · exact hp.2 q (hq q h).1.1 w z
      · exact (hq q h).2 w
  have h2 := abs_mul (show 0 ≤ p by omega) h
  obtain ⟨l1, l2⟩ := cl_le r0 r1 L
  generalize cN (fun v => Gd A B C qs (s + M * r + M * p * v)) (cl p r L) = c at *
  generalize (cl p r L : Int) = k at *
  have e1 : p * P' * c - L * Φ' = p * (P' * c - k * Φ') + (p * k - L) * Φ' := by grind
  have e2 : p * (P' * (E - 1)) = p * P' * E - p * P' := by grind
  have h3 : -(p * P') ≤ (p * k - L) * Φ' ∧ (p * k - L) * Φ' ≤ p * P' := by
    have a1 : (p * k - L) * Φ' ≤ p * Φ' := Int.mul_le_mul_of_nonneg_right (by omega) F0
    have a2 : -p * Φ' ≤ (p * k - L) * Φ' := Int.mul_le_mul_of_nonneg_right (by omega) F0
    have a3 : p * Φ' ≤ p * P' := Int.mul_le_mul_of_nonneg_left F1 (by omega)
    rw [Int.neg_mul] at a2
    omega
  rw [e1]
  omega
theorem sieve {A B C : Int} : ∀ (qs : List Int), qs.Nodup → (∀ q ∈ qs, QR.Pm q ∧ 3 ≤ q ∧ ¬ (q ∣ A ∧ q ∣ B ∧ q ∣ C)) → ∃ Φ : Int, phL qs ≤ Φ ∧ Φ ≤ prL qs ∧ ∀ (s M : Int) (L : Nat), (∀ q ∈ qs, ¬ q ∣ M) → -(prL qs * (3 ^ qs.length - 1)) ≤ prL qs * cN (fun u => Gd A B C qs (s + M * u)) L - L * Φ ∧ prL qs * cN (fun u => Gd A B C qs (s + M * u)) L - L * Φ ≤ prL qs * (3 ^ qs.length - 1)
  | [], _, _ => by
    refine ⟨1, Int.le_refl _, Int.le_refl _, fun s M L _ => ?_⟩
    have e : ∀ L, cN (fun u => Gd A B C [] (s + M * u)) L = L := fun L => by
      induction L with
      | zero => rfl
      | succ L ih =>
        rw [cN, ih, if_pos (show Gd A B C [] _ from fun q h => absurd h List.not_mem_nil)]
        push_cast
        rfl
    rw [e]
    simp [prL]
  | p :: qs, nd, h => by
    obtain ⟨nm, nd'⟩ := List.nodup_cons.mp nd
    have h' : ∀ q ∈ qs, QR.Pm q ∧ 3 ≤ q ∧ ¬ (q ∣ A ∧ q ∣ B ∧ q ∣ C) := fun q hq => h q (List.mem_cons_of_mem _ hq)
    obtain ⟨Φ', f1, f2, ih⟩ := sieve qs nd' h'
    obtain ⟨hp, p3, np⟩ := h p (by simp)
    have P1 := prL_pos (qs := qs) fun q hq => (h' q hq).2.1
    have F1 := phL_pos (qs := qs) fun q hq => (h' q hq).2.1
    have hq : ∀ q ∈ qs, QR.Pm q ∧ q ≠ p := fun q m => ⟨(h' q m).1, fun e => nm (e ▸ m)⟩
    have E1 := pow3_pos qs.length
    have eE : (3 : Int) ^ (p :: qs).length - 1 = 3 * 3 ^ qs.length - 1 := by
      rw [List.length_cons, Int.pow_succ, Int.mul_comm]
    rw [eE]
    generalize (3 : Int) ^ qs.length = E at *
    show ∃ Φ, (p - 2) * phL qs ≤ Φ ∧ Φ ≤ p * prL qs ∧ ∀ (s M : Int) (L : Nat), (∀ q ∈ p :: qs, ¬ q ∣ M) → -(p * prL qs * (3 * E - 1)) ≤ p * prL qs * cN (fun u => Gd A B C (p :: qs) (s + M * u)) L - L * Φ ∧ p * prL qs * cN (fun u => Gd A B C (p :: qs) (s + M * u)) L - L * Φ ≤ p * prL qs * (3 * E - 1)
    have lo : (p - 2) * phL qs ≤ (p - 2) * Φ' := Int.mul_le_mul_of_nonneg_left f1 (by omega)
    have hi : p * Φ' ≤ p * prL qs := Int.mul_le_mul_of_nonneg_left f2 (by omega)
    have TE : p * prL qs ≤ p * prL qs * E := by
      have : p * prL qs * 1 ≤ p * prL qs * E := Int.mul_le_mul_of_nonneg_left E1 (Int.mul_nonneg (by omega) (by omega))
      omega
    have e3 : p * prL qs * (3 * E - 1) = 3 * (p * prL qs * E) - p * prL qs := by grind
    have T0 : 0 ≤ p * prL qs := Int.mul_nonneg (by omega) (by omega)
    have cons : ∀ t, Gd A B C (p :: qs) t ↔ Gd A B C qs t ∧ ¬ p ∣ A + B * t + C * t * t := fun t => by
      unfold Gd
      rw [List.forall_mem_cons]
      exact And.comm
    have main : ∀ (s M : Int) (L : Nat), (∀ q ∈ p :: qs, ¬ q ∣ M) → -(p * prL qs * E - p * prL qs) ≤ p * prL qs * cN (fun u => Gd A B C qs (s + M * u)) L - L * (p * Φ') ∧ p * prL qs * cN (fun u => Gd A B C qs (s + M * u)) L - L * (p * Φ') ≤ p * prL qs * E - p * prL qs := fun s M L hM => by
      have := abs_mul (show 0 ≤ p by omega) (ih s M L fun q m => hM q (List.mem_cons_of_mem _ m))
      have e1 : p * (prL qs * (E - 1)) = p * prL qs * E - p * prL qs := by grind
      have e2 : p * (prL qs * cN (fun u => Gd A B C qs (s + M * u)) L - L * Φ') = p * prL qs * cN (fun u => Gd A B C qs (s + M * u)) L - L * (p * Φ') := by grind
      rw [e1, e2] at this
      exact this
    have pe1 : (p - 1) * Φ' = p * Φ' - Φ' := by grind
    have pe2 : (p - 2) * Φ' = p * Φ' - 2 * Φ' := by grind
    rcases roots2 hp np with r0 | ⟨b, r1⟩ | ⟨b, c, bc, r2⟩
    · refine ⟨p * Φ', by omega, hi, fun s M L hM => ?_⟩
      rw [cN_congr (R := fun u => Gd A B C qs (s + M * u)) fun u => ⟨fun z => ((cons _).mp z).1, fun z => (cons _).mpr ⟨z, r0 _⟩⟩]
      have := main s M L hM
      omega
    · refine ⟨(p - 1) * Φ', by omega, by omega, fun s M L hM => ?_⟩
      rw [cN_sub (Y := fun u => Gd A B C qs (s + M * u)) (Z := fun u => p ∣ s + M * u - b) fun u => (cons _).trans (and_congr_right' (not_congr (r1 _)))]
      have m1 := main s M L hM
      have m2 := one_class hp hq (by omega) (by omega) f2 ih (b := b) (s := s) (L := L) hM
      generalize cN (fun u => Gd A B C qs (s + M * u)) L = y at *
      generalize cN (fun u => p ∣ s + M * u - b ∧ Gd A B C qs (s + M * u)) L = z at *
      have e4 : p * prL qs * (y - z) - L * ((p - 1) * Φ') = (p * prL qs * y - L * (p * Φ')) - (p * prL qs * z - L * Φ') := by grind
      rw [e4]
      omega
    · refine ⟨(p - 2) * Φ', by omega, by omega, fun s M L hM => ?_⟩
      rw [cN_sub (Y := fun u => Gd A B C qs (s + M * u)) (Z := fun u => p ∣ s + M * u - b ∨ p ∣ s + M * u - c) fun u => (cons _).trans (and_congr_right' (not_congr (r2 _))), cN_or fun u z => bc (by
        have := Int.dvd_sub z.2 z.1
        rwa [show s + M * u - c - (s + M * u - b) = b - c by omega] at this)]
      have m1 := main s M L hM
      have m2 := one_class hp hq (by omega) (by omega) f2 ih (b := b) (s := s) (L := L) hM
      have m3 := one_class hp hq (by omega) (by omega) f2 ih (b := c) (s := s) (L := L) hM
      generalize cN (fun u => Gd A B C qs (s + M * u)) L = y at *
      generalize cN (fun u => p ∣ s + M * u - b ∧ Gd A B C qs (s + M * u)) L = z at *
      generalize cN (fun u => p ∣ s + M * u - c ∧ Gd A B C qs (s + M * u)) L = w at *
      have e4 : p * prL qs * (y - (z + w)) - L * ((p - 2) * Φ') = (p * prL qs * y - L * (p * Φ')) - (p * prL qs * z - L * Φ') - (p * prL qs * w - L * Φ') := by grind
      rw [e4]
      omega
theorem phL_low : ∀ (qs : List Int) (j : Nat), qs.Pairwise (· < ·) → (∀ q ∈ qs, q % 2 = 1 ∧ 2 * (j : Int) + 3 ≤ q) → prL qs * (2 * j + 1) ≤ phL qs * (2 * (j + qs.length) + 1)
  | [], j, _, _ => by simp [prL, phL]
  | q :: qs, j, s, h => by
    obtain ⟨s1, s2⟩ := List.pairwise_cons.mp s
    obtain ⟨h1, h2⟩ := h q (by simp)
    have h' : ∀ x ∈ qs, x % 2 = 1 ∧ 2 * ((j + 1 : Nat) : Int) + 3 ≤ x := fun x hx => by
      have a := s1 x hx
      have b := h x (List.mem_cons_of_mem _ hx)
      push_cast
      omega
    have ih := phL_low qs (j + 1) s2 h'
    have p1 := prL_pos (qs := qs) fun x hx => by have := (h' x hx).2; push_cast at this; omega
    have a1 : (q - 2) * (prL qs * (2 * ((j + 1 : Nat) : Int) + 1)) ≤ (q - 2) * (phL qs * (2 * (((j + 1 : Nat) : Int) + qs.length) + 1)) := Int.mul_le_mul_of_nonneg_left ih (by omega)
    have a2 : prL qs * (q * (2 * j + 1)) ≤ prL qs * ((q - 2) * (2 * ((j + 1 : Nat) : Int) + 1)) := by
      refine Int.mul_le_mul_of_nonneg_left ?_ (by omega)
      have : (q - 2) * (2 * ((j + 1 : Nat) : Int) + 1) = q * (2 * j + 1) + 2 * (q - (2 * j + 3)) := by push_cast; grind
      omega
    show q * prL qs * (2 * j + 1) ≤ (q - 2) * phL qs * (2 * (j + ((qs.length + 1 : Nat) : Int)) + 1)
    have e1 : q * prL qs * (2 * (j : Int) + 1) = prL qs * (q * (2 * j + 1)) := by grind
    have e2 : (q - 2) * phL qs * (2 * ((j : Int) + ((qs.length + 1 : Nat) : Int)) + 1) = (q - 2) * (phL qs * (2 * (((j + 1 : Nat) : Int) + qs.length) + 1)) := by push_cast; grind
    have e3 : prL qs * ((q - 2) * (2 * ((j + 1 : Nat) : Int) + 1)) = (q - 2) * (prL qs * (2 * ((j + 1 : Nat) : Int) + 1)) := by grind
    omega
def df : Nat → Nat → Int
  | _, 0 => 1
  | j, k + 1 => (2 * j + 3) * df (j + 1) k
theorem df_pos : ∀ (k j : Nat), 1 ≤ df j k
  | 0, _ => Int.le_refl _
  | k + 1, j => Int.mul_pos (show 0 < 2 * (j : Int) + 3 by omega) (show 0 < df (j + 1) k by have := df_pos k (j + 1); omega)
theorem prL_df : ∀ (qs : List Int) (j n : Nat), n ≤ qs.length → qs.Pairwise (· < ·) → (∀ q ∈ qs, q % 2 = 1 ∧ 2 * (j : Int) + 3 ≤ q) → df j n ≤ prL qs
  | qs, j, 0, _, _, h => prL_pos fun q hq => by have := (h q hq).2; omega
  | [], _, n + 1, l, _, _ => absurd l (by simp)
  | q :: qs, j, n + 1, l, s, h => by
    obtain ⟨s1, s2⟩ := List.pairwise_cons.mp s
    obtain ⟨h1, h2⟩ := h q (by simp)
    have h' : ∀ x ∈ qs, x % 2 = 1 ∧ 2 * ((j + 1 : Nat) : Int) + 3 ≤ x := fun x hx => by
      have a := s1 x hx
      have b := h x (List.mem_cons_of_mem _ hx)
      push_cast
      omega
    have ih := prL_df qs (j + 1) n (by simpa using l) s2 h'
    have d := df_pos n (j + 1)
    show (2 * (j : Int) + 3) * df (j + 1) n ≤ q * prL qs
    exact Int.mul_le_mul h2 ih (by omega) (by omega)
theorem prL_dvd : ∀ {qs : List Int} {N : Int}, qs.Nodup → (∀ q ∈ qs, QR.Pm q ∧ q ∣ N) → prL qs ∣ N
  | [], N, _, _ => ⟨N, (Int.one_mul N).symm⟩
  | q :: qs, N, nd, h => by
    obtain ⟨n1, n2⟩ := List.nodup_cons.mp nd
    obtain ⟨hq, M, hM⟩ := h q (by simp)
    have ih : prL qs ∣ M := prL_dvd n2 fun x hx => by
      obtain ⟨xp, xd⟩ := h x (List.mem_cons_of_mem _ hx)
      refine ⟨xp, ?_⟩
      rw [hM] at xd
      refine (QR.Pm.dvd_mul xp xd).resolve_left fun z => ?_
      rcases Int.lt_or_eq_of_le (Int.le_of_dvd (by have := hq.1; omega) z) with w | w
      · exact hq.2 x xp.1 w z
      · exact n1 (w ▸ hx)
    rw [hM]
    exact Int.mul_dvd_mul (Int.dvd_refl q) ih
open Classical in
/-- a number of up to 122 bits: an odd t is found below 2 ^ 50 -/
theorem sieve_ex {A B C N : Int} (N0 : N ≠ 0) (hN : N.natAbs < 2 ^ 122) (h : ∀ q, QR.Pm q → q % 2 = 1 → q ∣ N → ¬ (q ∣ A ∧ q ∣ B ∧ q ∣ C)) (s : Int) : ∃ u : Nat, u < 2 ^ 50 ∧ ∀ q, QR.Pm q → q % 2 = 1 → q ∣ N → ¬ q ∣ A + B * (s + 2 * u) + C * (s + 2 * u) * (s + 2 * u) := by
  obtain ⟨qs, eqs⟩ : ∃ qs, qs = ((List.range (N.natAbs + 1)).map fun i : Nat => (i : Int)).filter fun q => decide (QR.Pm q ∧ q % 2 = 1 ∧ q ∣ N) := ⟨_, rfl⟩
  have mem : ∀ q, q ∈ qs ↔ QR.Pm q ∧ q % 2 = 1 ∧ q ∣ N := fun q => by
    rw [eqs, List.mem_filter, decide_eq_true_iff]
    refine ⟨fun z => z.2, fun z => ⟨List.mem_map.mpr ⟨q.toNat, List.mem_range.mpr ?_, by have := z.1.1; omega⟩, z⟩⟩
    have := Nat.le_of_dvd (by omega) (Int.natAbs_dvd_natAbs.mpr z.2.2)
    have := z.1.1
    omega
  have srt : qs.Pairwise (· < ·) := by
    rw [eqs]
    refine List.Pairwise.filter _ ?_
    rw [List.pairwise_map]
    exact List.pairwise_lt_range.imp fun h => by omega
  have nd : qs.Nodup := srt.imp fun h => Int.ne_of_lt h
  have od : ∀ q ∈ qs, q % 2 = 1 ∧ 2 * ((0 : Nat) : Int) + 3 ≤ q := fun q hq => by
    obtain ⟨a, b, _⟩ := (mem q).mp hq
    have := a.1
    refine ⟨b, ?_⟩
    omega
  have q3 : ∀ q ∈ qs, 3 ≤ q := fun q hq => by have := (od q hq).2; omega
  have P1 := prL_pos q3
  have dv : prL qs ∣ N := prL_dvd nd fun q hq => ⟨((mem q).mp hq).1, ((mem q).mp hq).2.2⟩
  have Pl : prL qs ≤ N.natAbs := by
    have := Nat.le_of_dvd (by omega) (Int.natAbs_dvd_natAbs.mpr dv)
    omega
  have k26 : qs.length ≤ 26 := by
    rcases Nat.lt_or_ge 26 qs.length with z | z
    · have := prL_df qs 0 27 z srt od
      have e : (2 : Int) ^ 122 < df 0 27 := by decide +kernel
      have : (N.natAbs : Int) < 2 ^ 122 := by
        have := Int.ofNat_lt.mpr hN
        rwa [Int.natCast_pow] at this
      omega
    · exact z
  have lo := phL_low qs 0 srt od
  obtain ⟨Φ, f1, f2, hs⟩ := sieve (A := A) (B := B) (C := C) qs nd fun q hq => by
    obtain ⟨a, b, c⟩ := (mem q).mp hq
    exact ⟨a, q3 q hq, h q a b c⟩
  obtain ⟨L, hL⟩ : ∃ L : Nat, L = (2 * qs.length + 1) * 3 ^ qs.length := ⟨_, rfl⟩
  have L50 : L ≤ 53 * 3 ^ 26 := by
    rw [hL]
    exact Nat.mul_le_mul (by omega) (Nat.pow_le_pow_right (by decide) k26)
  have hb := (hs s 2 L fun q hq z => by
    have := Int.le_of_dvd (by decide) z
    have := q3 q hq
    omega).1
  have E1 := pow3_pos qs.length
  have LP : prL qs * 3 ^ qs.length ≤ L * Φ := by
    have e1 : (L : Int) * Φ = Φ * (2 * qs.length + 1) * 3 ^ qs.length := by
      rw [hL]
      push_cast
      grind
    rw [e1]
    refine Int.mul_le_mul_of_nonneg_right ?_ (by omega)
    have a1 : phL qs * (2 * qs.length + 1) ≤ Φ * (2 * qs.length + 1) := Int.mul_le_mul_of_nonneg_right f1 (by omega)
    have e2 : prL qs * (2 * ((0 : Nat) : Int) + 1) = prL qs := by simp
    have e3 : phL qs * (2 * (((0 : Nat) : Int) + qs.length) + 1) = phL qs * (2 * qs.length + 1) := by simp
    rw [e2, e3] at lo
    omega
  have pos : 0 < cN (fun u => Gd A B C qs (s + 2 * u)) L := by
    refine Classical.byContradiction fun z => ?_
    have c0 : prL qs * cN (fun u => Gd A B C qs (s + 2 * u)) L ≤ prL qs * 0 := Int.mul_le_mul_of_nonneg_left (by omega) (by omega)
    have e4 : prL qs * (3 ^ qs.length - 1) = prL qs * 3 ^ qs.length - prL qs := by grind
    omega
  obtain ⟨u, hu, g⟩ := cN_pos pos
  exact ⟨u, Nat.lt_of_lt_of_le hu (Nat.le_trans L50 (by decide)), fun q a b c => g q ((mem q).mpr ⟨a, b, c⟩)⟩
theorem ptB_122 {f : Fm} {N : Int} (fp : f.prim) (N0 : N ≠ 0) (hN : N.natAbs < 2 ^ 122) : PtB f N := by
  have fin : ∀ (x s : Int), (x = 1 ∨ x = 2) → (s = 0 ∨ s = 1) → (x = 2 → s = 1) → (∀ t : Int, t % 2 = s → f.at x t % 2 = 1) → PtB f N := fun x s hx hs1 hxs par => by
    obtain ⟨u, hu, g⟩ := sieve_ex (A := f.a * x * x) (B := f.b * x) (C := f.c) N0 hN (fun q hq o d z => by
      have nx : ¬ q ∣ x := fun w => by
        have := Int.le_of_dvd (by omega) w
        have := hq.1
        have : q = 2 := by omega
        omega
      have e2 : q ∣ f.a := (QR.Pm.dvd_mul hq ((QR.Pm.dvd_mul hq z.1).resolve_right nx)).resolve_right nx
      have e3 : q ∣ f.b := (QR.Pm.dvd_mul hq z.2.1).resolve_right nx
      exact fp.not hq e2 e3 z.2.2) s
    have tm : (s + 2 * (u : Int)) % 2 = s := by omega
    refine ⟨x, s + 2 * u, by omega, by omega, by omega, by omega, ?_, QR.cop_iff.mpr fun q hq hd hn => ?_⟩
    · rcases hx with e | e
      · rw [e]; simp
      · rw [e]
        have pm2 : QR.Pm 2 := ⟨by decide, fun d a b => by omega⟩
        refine (QR.pm_cop pm2).mpr fun z => ?_
        have := hxs e
        omega
    · by_cases q2 : q = 2
      · have := par _ tm
        rw [q2] at hd
        omega
      · have o : q % 2 = 1 := by
          rcases Int.emod_two_eq q with z | z
          · exfalso
            exact hq.2 2 (by decide) (by have := hq.1; omega) (Int.dvd_of_emod_eq_zero z)
          · exact z
        refine g q hq o hn ?_
        unfold Fm.at at hd
        exact hd
  have sq : ∀ t : Int, t * t % 2 = t % 2 := fun t => by
    rcases Int.emod_two_eq t with z | z <;> rw [Int.mul_emod, z] <;> decide
  rcases Int.emod_two_eq f.c with c | c
  · rcases Int.emod_two_eq f.a with a | a
    · have b : f.b % 2 = 1 := by
        rcases Int.emod_two_eq f.b with b | b
        · exfalso
          have pm2 : QR.Pm 2 := ⟨by decide, fun d a b => by omega⟩
          exact fp.not pm2 (Int.dvd_of_emod_eq_zero a) (Int.dvd_of_emod_eq_zero b) (Int.dvd_of_emod_eq_zero c)
        · exact b
      refine fin 1 1 (.inl rfl) (.inr rfl) (by omega) fun t ht => ?_
      unfold Fm.at
      have e1 : f.b * 1 * t % 2 = 1 := by rw [Int.mul_one, Int.mul_emod, b, ht]; rfl
      have e2 : f.c * t * t % 2 = 0 := by rw [Int.mul_assoc, Int.mul_emod, c]; simp
      omega
    · refine fin 1 0 (.inl rfl) (.inl rfl) (by omega) fun t ht => ?_
      unfold Fm.at
      have e1 : f.b * 1 * t % 2 = 0 := by rw [Int.mul_one, Int.mul_emod, ht]; simp
      have e2 : f.c * t * t % 2 = 0 := by rw [Int.mul_assoc, Int.mul_emod, c]; simp
      omega
  · refine fin 2 1 (.inr rfl) (.inr rfl) (by omega) fun t ht => ?_
    unfold Fm.at
    have e1 : f.b * 2 * t % 2 = 0 := by rw [show f.b * 2 * t = 2 * (f.b * t) by grind]; exact Int.mul_emod_right ..
    have e0 : f.a * 2 * 2 % 2 = 0 := Int.mul_emod_left ..
    have e2 : f.c * t * t % 2 = 1 := by rw [Int.mul_assoc, Int.mul_emod, c, sq, ht]; rfl
    omega
/-! part m_pt12 -/
/-! a point below 12 whose value is coprime to a number up to 18 -/
def pt12 (a A B C : Nat) : Bool := Nat.gcd A (Nat.gcd B (Nat.gcd C a)) != 1 || (List.range 12).any fun x => (List.range 12).any fun y => Nat.gcd x y == 1 && Nat.gcd (A * x * x + B * x * y + C * y * y) a == 1
def all12 (a : Nat) : Bool := (List.range a).all fun A => (List.range a).all fun B => (List.range a).all fun C => pt12 a A B C
theorem all12_1 : all12 1 = true := by decide +kernel
theorem all12_2 : all12 2 = true := by decide +kernel
theorem all12_3 : all12 3 = true := by decide +kernel
theorem all12_4 : all12 4 = true := by decide +kernel
theorem all12_5 : all12 5 = true := by decide +kernel
theorem all12_6 : all12 6 = true := by decide +kernel
theorem all12_7 : all12 7 = true := by decide +kernel
theorem all12_8 : all12 8 = true := by decide +kernel
theorem all12_9 : all12 9 = true := by decide +kernel
theorem all12_10 : all12 10 = true := by decide +kernel
theorem all12_11 : all12 11 = true := by decide +kernel
theorem all12_12 : all12 12 = true := by decide +kernel
theorem all12_13 : all12 13 = true := by decide +kernel
theorem all12_14 : all12 14 = true := by decide +kernel
theorem all12_15 : all12 15 = true := by decide +kernel
theorem all12_16 : all12 16 = true := by decide +kernel
theorem all12_17 : all12 17 = true := by decide +kernel
theorem all12_18 : all12 18 = true := by decide +kernel
theorem all12_ok : ∀ a : Nat, 1 ≤ a → a ≤ 18 → all12 a = true := by
  intro a h1 h2
  have : a = 1 ∨ a = 2 ∨ a = 3 ∨ a = 4 ∨ a = 5 ∨ a = 6 ∨ a = 7 ∨ a = 8 ∨ a = 9 ∨ a = 10 ∨ a = 11 ∨ a = 12 ∨ a = 13 ∨ a = 14 ∨ a = 15 ∨ a = 16 ∨ a = 17 ∨ a = 18 := by omega
  rcases this with h | h | h | h | h | h | h | h | h | h | h | h | h | h | h | h | h | h <;> subst h
  · exact all12_1
  · exact all12_2
  · exact all12_3
  · exact all12_4
  · exact all12_5
  · exact all12_6
  · exact all12_7
  · exact all12_8
  · exact all12_9
  · exact all12_10
  · exact all12_11
  · exact all12_12
  · exact all12_13
  · exact all12_14
  · exact all12_15
  · exact all12_16
  · exact all12_17
  · exact all12_18
theorem gcd_nat (x y : Nat) : Int.gcd (x : Int) (y : Int) = Nat.gcd x y := rfl
theorem pt12_ex {f : Fm} (fp : f.prim) {a : Int} (a1 : 1 ≤ a) (a2 : a ≤ 18) : ∃ x y : Nat, x < 12 ∧ y < 12 ∧ Int.gcd (x : Int) (y : Int) = 1 ∧ Int.gcd (f.at x y) a = 1 := by
  obtain ⟨n, rfl⟩ : ∃ n : Nat, a = n := ⟨a.toNat, by omega⟩
  have md : ∀ z : Int, ∃ A : Nat, A < n ∧ (n : Int) ∣ z - A := fun z => by
    have h0 := Int.emod_nonneg z (show (n : Int) ≠ 0 by omega)
    have h1 := Int.emod_lt_of_pos z (show (0 : Int) < n by omega)
    refine ⟨(z % n).toNat, by omega, ?_⟩
    rw [Int.toNat_of_nonneg h0]
    exact QR.dvd_sub_emod z n
  obtain ⟨A, hA, dA⟩ := md f.a
  obtain ⟨B, hB, dB⟩ := md f.b
  obtain ⟨C, hC, dC⟩ := md f.c
  have h := all12_ok n (by omega) (by omega)
  unfold all12 at h
  have h := List.all_eq_true.mp (List.all_eq_true.mp (List.all_eq_true.mp h A (List.mem_range.mpr hA)) B (List.mem_range.mpr hB)) C (List.mem_range.mpr hC)
  unfold pt12 at h
  have g1 : Nat.gcd A (Nat.gcd B (Nat.gcd C n)) = 1 := by
    rw [← gcd_nat]
    refine QR.cop_iff.mpr fun q hq d1 d2 => ?_
    have e2 : q ∣ ((Nat.gcd B (Nat.gcd C n) : Nat) : Int) := d2
    have d3 : q ∣ (B : Int) := Int.dvd_trans e2 (Int.ofNat_dvd.mpr (Nat.gcd_dvd_left ..))
    have e3 : q ∣ ((Nat.gcd C n : Nat) : Int) := Int.dvd_trans e2 (Int.ofNat_dvd.mpr (Nat.gcd_dvd_right ..))
    have d4 : q ∣ (C : Int) := Int.dvd_trans e3 (Int.ofNat_dvd.mpr (Nat.gcd_dvd_left ..))
    have d5 : q ∣ (n : Int) := Int.dvd_trans e3 (Int.ofNat_dvd.mpr (Nat.gcd_dvd_right ..))
    have up : ∀ {z : Int} {X : Nat}, (n : Int) ∣ z - X → q ∣ (X : Int) → q ∣ z := fun {z X} h k => by
      have := Int.dvd_add (Int.dvd_trans d5 h) k
      rwa [show z - (X : Int) + X = z by omega] at this
    exact fp.not hq (up dA d1) (up dB d3) (up dC d4)
  rw [g1] at h
  simp only [bne_self_eq_false, Bool.false_or, List.any_eq_true, List.mem_range, Bool.and_eq_true, beq_iff_eq] at h
  obtain ⟨x, hx, y, hy, gxy, gv⟩ := h
  refine ⟨x, y, hx, hy, gxy, ?_⟩
  rw [← gcd_nat] at gv
  refine (QR.cop_congr ?_).mpr gv
  obtain ⟨u, hu⟩ := dA
  obtain ⟨v, hv⟩ := dB
  obtain ⟨w, hw⟩ := dC
  refine ⟨u * x * x + v * x * y + w * y * y, ?_⟩
  unfold Fm.at
  push_cast
  have e1 : f.a = A + n * u := by omega
  have e2 : f.b = B + n * v := by omega
  have e3 : f.c = C + n * w := by omega
  rw [e1, e2, e3]
  grind
def tw12 (x y : Nat) : Bool := Nat.gcd x y != 1 || (List.range 25).any fun z => (List.range 25).any fun w => (x : Int) * (-12 + (w : Int)) - y * (-12 + (z : Int)) == 1
theorem tw12_all : ((List.range 12).all fun x => (List.range 12).all fun y => tw12 x y) = true := by decide +kernel
theorem tw12_ex {x y : Nat} (hx : x < 12) (hy : y < 12) (g : Int.gcd (x : Int) (y : Int) = 1) : ∃ z w : Nat, z < 25 ∧ w < 25 ∧ (x : Int) * (-12 + (w : Int)) - y * (-12 + (z : Int)) = 1 := by
  have h := List.all_eq_true.mp (List.all_eq_true.mp tw12_all x (List.mem_range.mpr hx)) y (List.mem_range.mpr hy)
  unfold tw12 at h
  rw [gcd_nat] at g
  rw [g] at h
  simp only [bne_self_eq_false, Bool.false_or, List.any_eq_true, List.mem_range, beq_iff_eq] at h
  obtain ⟨z, hz, w, hw, e⟩ := h
  exact ⟨z, w, hz, hw, e⟩
/-! part m_sq -/
/-! part m_rowd -/
/-! lists of lists of ints, compared and looked up -/
section
open PySem
def zD (r : List Int) : PyData := .list (r.map PyData.int)
def zsD (rs : List (List Int)) : PyData := .list (rs.map zD)
theorem okDs_ints {n : Nat} (r : List Int) : okDs (r.map PyData.int) (n + 1) = true := okDs_map fun _ _ => by simp [okD]
theorem zD_ok {r : List Int} {n : Nat} : okD (zD r) (n + 2) = true := by simp [zD, okD, okDs_ints]
theorem zsD_ok {rs : List (List Int)} : okD (zsD rs) 60 = true := by
  have : okDs (rs.map zD) 59 = true := okDs_map fun r _ => zD_ok
  simp [zsD, okD, this]
theorem zD_inj {r s : List Int} : zD r = zD s ↔ r = s := by
  unfold zD
  constructor
  · intro h
    exact (List.map_inj_right (f := PyData.int) fun x y e => PyData.int.inj e).mp (by injection h)
  · intro h
    rw [h]
theorem zsD_inj {rs ss : List (List Int)} : zsD rs = zsD ss ↔ rs = ss := by
  unfold zsD
  constructor
  · intro h
    exact (List.map_inj_right fun x y e => zD_inj.mp e).mp (by injection h)
  · intro h
    rw [h]
variable {K : PySem.W.Frag} {H : Hp} {Q : VK} {a b t p q : Addr} {as bs : List Addr} {rs ss : List (List Int)} {r : List Int}
theorem z_dp (h : SqL K H t (r.map V.int)) : Dp K H (.ref t) (zD r) := .lst h (dpAll_ints r)
theorem rowsz_dpA {K : PySem.W.Frag} {H : Hp} {p : Addr} : ∀ {as : List Addr} {rs : List (List Int)}, RowsZ p H as rs → DpAll K H (as.map V.ref) (rs.map zD)
  | [], [], _ => .nil
  | _ :: _, _ :: _, h => .cons (z_dp (SqL.of h.2.1)) (rowsz_dpA h.2.2)
  | [], _ :: _, h => h.elim
  | _ :: _, [], h => h.elim
theorem rowsz_dp (hS : SqL K H a (as.map V.ref)) (hR : RowsZ p H as rs) : Dp K H (.ref a) (zsD rs) := .lst hS (rowsz_dpA hR)
theorem rd_eqZs (h1 : Dp K H (.ref a) (zsD rs)) (h2 : Dp K H (.ref b) (zsD ss)) (q : Q (.bl (decide (rs = ss))) H) : rEqD K (.ref a) (.ref b) H Q := rd_eqP h1 h2 zsD_ok zsD_ok zsD_inj q
theorem any_z : (rs.map zD).any (fun z => PyData.eqv z (zD r)) = decide (r ∈ rs) := by
  rw [Bool.eq_iff_iff, List.any_eq_true, decide_eq_true_iff]
  constructor
  · rintro ⟨z, hz, e⟩
    obtain ⟨s, hs, rfl⟩ := List.mem_map.mp hz
    rw [okD_dec (zD_ok (n := 58)) (zD_ok (n := 58)), decide_eq_true_iff, zD_inj] at e
    rw [← e]
    exact hs
  · intro h
    refine ⟨zD r, List.mem_map.mpr ⟨r, h, rfl⟩, ?_⟩
    rw [okD_dec (zD_ok (n := 58)) (zD_ok (n := 58))]
    exact decide_eq_true rfl
theorem rd_ninZ (hS : SqL K H a (as.map V.ref)) (hR : RowsZ p H as rs) (hp : SqL K H t (r.map V.int)) (q : Q (.bl (!decide (r ∈ rs))) H) : rNotInD K (.ref t) (.ref a) H Q := by
  refine ⟨zD r, rs.map zD, z_dp hp, rowsz_dp hS hR, okD_shaped (zD_ok (n := 58)), okD_shaped zsD_ok, ?_⟩
  rw [any_z]
  exact q
end
/-! ## the text by places -/
def topS (i : Nat) : Stmt := PySem.Challenge.pw_everyprime_k91_whole_classes_are_a_group.main.body.getD i (.Pass ⟨0, 0, 0, 0⟩)
abbrev s_law_take : Stmt := topS 17
theorem sc_law_take : FnScope ["_law_pool_here", "_law_limit", "_law_drawn", "_law_mixed"] ["_law_pool_here", "_law_limit"] (defScope s_law_take) := ⟨rfl, rfl, rfl, by decide +kernel, rfl, by decide +kernel, by decide +kernel⟩
abbrev s_law_discriminant : Stmt := topS 20
theorem sc_law_discriminant : FnScope ["_law_pool_here", "_law_reach", "_law_d"] ["_law_pool_here", "_law_reach"] (defScope s_law_discriminant) := ⟨rfl, rfl, rfl, by decide +kernel, rfl, by decide +kernel, by decide +kernel⟩
abbrev s_law_common : Stmt := topS 19
theorem sc_law_common : FnScope ["_law_a", "_law_b", "_law_first", "_law_second"] ["_law_a", "_law_b"] (defScope s_law_common) := ⟨rfl, rfl, rfl, by decide +kernel, rfl, by decide +kernel, by decide +kernel⟩
abbrev s_law_listed : Stmt := topS 21
theorem sc_law_listed : FnScope ["_law_d", "_law_rows", "_law_a", "_law_b", "_law_whole", "_law_row_here", "_law_fits"] ["_law_d"] (defScope s_law_listed) := ⟨rfl, rfl, rfl, by decide +kernel, rfl, by decide +kernel, by decide +kernel⟩
abbrev s_Form_init : Stmt := inClass (topS 6) 0
theorem sc_Form_init : FnScope ["self", "a", "b", "c"] ["self", "a", "b", "c"] (defScope s_Form_init) := ⟨rfl, rfl, rfl, by decide +kernel, rfl, by decide +kernel, by decide +kernel⟩
abbrev s_Form_stepped : Stmt := inClass (topS 6) 4
theorem sc_Form_stepped : FnScope ["self", "k"] ["self", "k"] (defScope s_Form_stepped) := ⟨rfl, rfl, rfl, by decide +kernel, rfl, by decide +kernel, by decide +kernel⟩
abbrev s_Form_turned : Stmt := inClass (topS 6) 5
theorem sc_Form_turned : FnScope ["self", "steps", "form", "k"] ["self", "steps"] (defScope s_Form_turned) := ⟨rfl, rfl, rfl, by decide +kernel, rfl, by decide +kernel, by decide +kernel⟩
abbrev s_law_form : Stmt := topS 22
theorem sc_law_form : FnScope ["_law_pool_here", "_law_rows", "_law_row_here", "_law_form_here", "_law_k"] ["_law_pool_here", "_law_rows"] (defScope s_law_form) := ⟨rfl, rfl, rfl, by decide +kernel, rfl, by decide +kernel, by decide +kernel⟩
abbrev s_Form_call : Stmt := inClass (topS 6) 1
theorem sc_Form_call : FnScope ["self", "x", "y"] ["self", "x", "y"] (defScope s_Form_call) := ⟨rfl, rfl, rfl, by decide +kernel, rfl, by decide +kernel, by decide +kernel⟩
abbrev s_common : Stmt := topS 4
theorem sc_common : FnScope ["a", "b", "first", "second"] ["a", "b"] (defScope s_common) := ⟨rfl, rfl, rfl, by decide +kernel, rfl, by decide +kernel, by decide +kernel⟩
abbrev s_coprime_point : Stmt := topS 11
theorem sc_coprime_point : FnScope ["form", "a", "total", "y", "x"] ["form", "a"] (defScope s_coprime_point) := ⟨rfl, rfl, rfl, by decide +kernel, rfl, by decide +kernel, by decide +kernel⟩
abbrev s_bezout : Stmt := topS 10
theorem sc_bezout : FnScope ["x", "y", "first", "second", "times", "rest", "k"] ["x", "y"] (defScope s_bezout) := ⟨rfl, rfl, rfl, by decide +kernel, rfl, by decide +kernel, by decide +kernel⟩
abbrev s_with_coprime_number : Stmt := topS 12
theorem sc_with_coprime_number : FnScope ["form", "a", "x", "y", "w", "minus_z", "z", "middle"] ["form", "a"] (defScope s_with_coprime_number) := ⟨rfl, rfl, rfl, by decide +kernel, rfl, by decide +kernel, by decide +kernel⟩
abbrev s_inverse_rest : Stmt := topS 13
theorem sc_inverse_rest : FnScope ["a", "f"] ["a", "f"] (defScope s_inverse_rest) := ⟨rfl, rfl, rfl, by decide +kernel, rfl, by decide +kernel, by decide +kernel⟩
abbrev s_Form_next_step : Stmt := inClass (topS 6) 6
theorem sc_Form_next_step : FnScope ["self"] ["self"] (defScope s_Form_next_step) := ⟨rfl, rfl, rfl, by decide +kernel, rfl, by decide +kernel, by decide +kernel⟩
abbrev s_Form_steps : Stmt := inClass (topS 6) 7
theorem sc_Form_steps : FnScope ["self", "found", "form", "k"] ["self"] (defScope s_Form_steps) := ⟨rfl, rfl, rfl, by decide +kernel, rfl, by decide +kernel, by decide +kernel⟩
abbrev s_Form_reduced : Stmt := inClass (topS 6) 8
theorem sc_Form_reduced : FnScope ["self"] ["self"] (defScope s_Form_reduced) := ⟨rfl, rfl, rfl, by decide +kernel, rfl, by decide +kernel, by decide +kernel⟩
abbrev s_compose : Stmt := topS 14
theorem sc_compose : FnScope ["first", "second", "a", "b", "other", "t", "middle", "whole"] ["first", "second"] (defScope s_compose) := ⟨rfl, rfl, rfl, by decide +kernel, rfl, by decide +kernel, by decide +kernel⟩
abbrev s_main_form : Stmt := topS 8
theorem sc_main_form : FnScope ["d"] ["d"] (defScope s_main_form) := ⟨rfl, rfl, rfl, by decide +kernel, rfl, by decide +kernel, by decide +kernel⟩
abbrev s_opposite : Stmt := topS 9
theorem sc_opposite : FnScope ["form"] ["form"] (defScope s_opposite) := ⟨rfl, rfl, rfl, by decide +kernel, rfl, by decide +kernel, by decide +kernel⟩
abbrev s_law_pool : Stmt := topS 16
theorem sc_law_pool : FnScope ["_law_cell_here"] ["_law_cell_here"] (defScope s_law_pool) := ⟨rfl, rfl, rfl, by decide +kernel, rfl, by decide +kernel, by decide +kernel⟩
abbrev s_law_turning : Stmt := topS 25
theorem sc_law_turning : FnScope ["_law_x", "_law_y", "_law_z", "_law_w"] ["_law_x", "_law_y"] (defScope s_law_turning) := ⟨rfl, rfl, rfl, by decide +kernel, rfl, by decide +kernel, by decide +kernel⟩
abbrev s_law_with_coprime : Stmt := topS 26
theorem sc_law_with_coprime : FnScope ["_law_row_here", "_law_number", "_law_first", "_law_second", "_law_third", "_law_x", "_law_y", "_law_f", "_law_z", "_law_w", "_law_cross"] ["_law_row_here", "_law_number"] (defScope s_law_with_coprime) := ⟨rfl, rfl, rfl, by decide +kernel, rfl, by decide +kernel, by decide +kernel⟩
abbrev s_law_reduced : Stmt := topS 24
theorem sc_law_reduced : FnScope ["_law_row_here", "_law_a", "_law_b", "_law_c", "_law_count", "_law_k"] ["_law_row_here"] (defScope s_law_reduced) := ⟨rfl, rfl, rfl, by decide +kernel, rfl, by decide +kernel, by decide +kernel⟩
abbrev s_law_product : Stmt := topS 27
theorem sc_law_product : FnScope ["_law_first", "_law_second", "_law_d", "_law_a", "_law_b", "_law_c", "_law_pair", "_law_f", "_law_g", "_law_k", "_law_whole"] ["_law_first", "_law_second", "_law_d"] (defScope s_law_product) := ⟨rfl, rfl, rfl, by decide +kernel, rfl, by decide +kernel, by decide +kernel⟩
abbrev s_law_row : Stmt := topS 23
theorem sc_law_row : FnScope ["_law_form_here"] ["_law_form_here"] (defScope s_law_row) := ⟨rfl, rfl, rfl, by decide +kernel, rfl, by decide +kernel, by decide +kernel⟩
abbrev s_Form_eq : Stmt := inClass (topS 6) 2
theorem sc_Form_eq : FnScope ["self", "other"] ["self", "other"] (defScope s_Form_eq) := ⟨rfl, rfl, rfl, by decide +kernel, rfl, by decide +kernel, by decide +kernel⟩
abbrev s_law_cell : Stmt := topS 18
theorem sc_law_cell : FnScope ["_law_script", "_law_k"] ["_law_script", "_law_k"] (defScope s_law_cell) := ⟨rfl, rfl, rfl, by decide +kernel, rfl, by decide +kernel, by decide +kernel⟩
abbrev s_law : Stmt := topS 28
theorem sc_law : FnScope ["_law_script", "_law_pool_here", "_law_d", "_law_rows", "_law_forms", "_law_kept", "_law_first", "_law_second", "_law_third", "_law_told", "_law_far", "_law_main", "_law_due", "_law_found", "_law_k", "_law_form_here", "_law_row_here"] ["_law_script"] (defScope s_law) := ⟨rfl, rfl, rfl, by decide +kernel, rfl, by decide +kernel, by decide +kernel⟩
abbrev s_BadForm_init : Stmt := inClass (topS 2) 0
/-- the addresses of the classes -/
structure Adr where
  c_BadForm : Addr
  c_Form : Addr
  c_base : Addr
structure Txt (K : PySem.W.Frag) (mg : Str → Option Value) (Ad : Adr) : Prop where
  b_abs : mg "abs" = none
  b_int : mg "int" = none
  b_isinstance : mg "isinstance" = none
  b_len : mg "len" = none
  b_range : mg "range" = none
  b_sorted : mg "sorted" = none
  b_tuple : mg "tuple" = none
  d_law_take : DefAt K mg "_law_take" s_law_take ["_law_pool_here", "_law_limit"]
  d_law_discriminant : DefAt K mg "_law_discriminant" s_law_discriminant ["_law_pool_here", "_law_reach"]
  d_law_common : DefAt K mg "_law_common" s_law_common ["_law_a", "_law_b"]
  d_law_listed : DefAt K mg "_law_listed" s_law_listed ["_law_d"]
  d_Form_init : MkAt K mg "Form" Ad.c_Form "Form.__init__" s_Form_init ["self", "a", "b", "c"]
  d_Form_stepped : MethAt K Ad.c_Form "stepped" "Form.stepped" s_Form_stepped ["self", "k"]
  d_Form_turned : MethAt K Ad.c_Form "turned" "Form.turned" s_Form_turned ["self", "steps"]
  d_law_form : DefAt K mg "_law_form" s_law_form ["_law_pool_here", "_law_rows"]
  d_Form_call : MethAt K Ad.c_Form "__call__" "Form.__call__" s_Form_call ["self", "x", "y"]
  d_common : DefAt K mg "common" s_common ["a", "b"]
  d_coprime_point : DefAt K mg "coprime_point" s_coprime_point ["form", "a"]
  d_bezout : DefAt K mg "bezout" s_bezout ["x", "y"]
  d_with_coprime_number : DefAt K mg "with_coprime_number" s_with_coprime_number ["form", "a"]
  d_inverse_rest : DefAt K mg "inverse_rest" s_inverse_rest ["a", "f"]
  d_Form_next_step : MethAt K Ad.c_Form "next_step" "Form.next_step" s_Form_next_step ["self"]
  d_Form_steps : MethAt K Ad.c_Form "steps" "Form.steps" s_Form_steps ["self"]
  d_Form_reduced : MethAt K Ad.c_Form "reduced" "Form.reduced" s_Form_reduced ["self"]
  d_compose : DefAt K mg "compose" s_compose ["first", "second"]
  d_main_form : DefAt K mg "main_form" s_main_form ["d"]
  d_opposite : DefAt K mg "opposite" s_opposite ["form"]
  d_law_pool : DefAt K mg "_law_pool" s_law_pool ["_law_cell_here"]
  d_law_turning : DefAt K mg "_law_turning" s_law_turning ["_law_x", "_law_y"]
  d_law_with_coprime : DefAt K mg "_law_with_coprime" s_law_with_coprime ["_law_row_here", "_law_number"]
  d_law_reduced : DefAt K mg "_law_reduced" s_law_reduced ["_law_row_here"]
  d_law_product : DefAt K mg "_law_product" s_law_product ["_law_first", "_law_second", "_law_d"]
  d_law_row : DefAt K mg "_law_row" s_law_row ["_law_form_here"]
  d_Form_eq : MethAt K Ad.c_Form "__eq__" "Form.__eq__" s_Form_eq ["self", "other"]
  d_law_cell : DefAt K mg "_law_cell" s_law_cell ["_law_script", "_law_k"]
  g_Form : mg "Form" = some (.ref Ad.c_Form)
  cl_Form : Cls K Ad.c_Form
  ty_Form : ∀ (H : Hp) (a dx : Addr) (fs : List (Str × V)), H a = some (.ins Ad.c_Form dx fs) → TyX K H (.ref a) (.ref Ad.c_Form)
  ki_Form : PySem.W.kitOne K (.ref Ad.c_Form) (.ref Ad.c_Form) = some true
  kl_Form : PySem.W.kitOne K (.type "list") (.ref Ad.c_Form) = some false
  nl_Form : PySem.W.notFirst K Ad.c_Form (.type "list") = true
  fi_Form : ∀ g, PySem.W.findIn K (.ref Ad.c_Form) "__call__" = some (some (.ref g)) → PySem.W.fnIn K g = true
  nf_Form_a : NoAttr K Ad.c_Form "a"
  nf_Form_b : NoAttr K Ad.c_Form "b"
  nf_Form_c : NoAttr K Ad.c_Form "c"
  nf_Form_discriminant : NoAttr K Ad.c_Form "discriminant"
  base : BaseC K mg Ad.c_base
  r_BadForm : ErrRaw K mg "BadForm" Ad.c_BadForm s_BadForm_init "BadForm.__init__" ["self", "a", "b", "c"]
  no_BadForm_a : PySem.W.findIn K (.ref Ad.c_BadForm) "a" = some none
  no_BadForm_b : PySem.W.findIn K (.ref Ad.c_BadForm) "b" = some none
  no_BadForm_c : PySem.W.findIn K (.ref Ad.c_BadForm) "c" = some none
  triv : True
section
variable {P : Program} {w : World} {K : PySem.W.Frag} {mg : Str → Option Value} {base : Heap} {Ad : Adr}
def fl_BadForm (ws : List V) : List (Str × V) := match ws with | [v0, v1, v2] => [("c", v2), ("b", v1), ("a", v0)] | _ => []
theorem sc_BadForm_init : FnScope ["self", "a", "b", "c"] ["self", "a", "b", "c"] (defScope s_BadForm_init) := ⟨rfl, rfl, rfl, by decide +kernel, rfl, by decide +kernel, by decide +kernel⟩
theorem Txt.err_BadForm (T : Txt K mg Ad) : ErrC P w K mg base "BadForm" 3 fl_BadForm Ad.c_BadForm := by
  refine ErrC.of T.r_BadForm fun fI fd F => ?_
  refine F.okX sc_BadForm_init (fun vs H Q E h => ?_) (fun cdv A outer s H vs Q E hr h => ?_)
  · obtain ⟨a, ws, rfl, hl, _⟩ := h
    simp [hl]
  · obtain ⟨a, ws, rfl, hl, ha, q⟩ := h
    obtain ⟨v0, v1, v2, rfl⟩ := len_3 hl
    refine ⟨_, pss_cons (ps_expr (pe_ceinit T.base (pa_cons (pv 0) (pa_cons pe_str pa_nil)))) (pss_cons (ps_ost (pv 0) (pv 1)) (pss_cons (ps_ost (pv 0) (pv 2)) (pss_one (ps_ost (pv 0) (pv 3))))), ?_⟩
    refine ⟨.ref a, rfl, a, Ad.c_BadForm, [.str _], rfl, by show 1 ≤ 1000; decide, T.r_BadForm.T, ha, ?_⟩
    refine ⟨v0, rfl, .ref a, rfl, a, Ad.c_BadForm, rfl, T.r_BadForm.T, T.no_BadForm_a, .inl ⟨ha, fun dx nd ne => ?_⟩⟩
    refine ⟨v1, rfl, .ref a, rfl, a, Ad.c_BadForm, rfl, T.r_BadForm.T, T.no_BadForm_b, .inr ⟨dx, [("a", v0)], ?_, ?_, by show 1 ≤ 900; decide, ?_⟩⟩
    · repeat (first | exact upd_same | rw [upd_ne (Ne.symm ne)])
    · repeat (first | exact upd_same | rw [upd_ne ne])
    refine ⟨v2, rfl, .ref a, rfl, a, Ad.c_BadForm, rfl, T.r_BadForm.T, T.no_BadForm_c, .inr ⟨dx, [("b", v1), ("a", v0)], ?_, ?_, by show 2 ≤ 900; decide, ?_⟩⟩
    · repeat (first | exact upd_same | rw [upd_ne (Ne.symm ne)])
    · repeat (first | exact upd_same | rw [upd_ne ne])
    have z := q dx nd ne
    have e : ∀ (o1 o2 o3 o4 : HO), True := fun _ _ _ _ => trivial
    refine Eq.mp (congrArg (Q V.non) ?_) z
    funext b
    by_cases hb : b = dx
    · subst hb
      repeat (first | rw [upd_same] | rw [upd_ne ne])
      rfl
    · by_cases ha2 : b = a
      · subst ha2
        repeat (first | rw [upd_same] | rw [upd_ne hb])
      · repeat (first | rw [upd_ne hb] | rw [upd_ne ha2])
/-! ### _law_take -/
def spTake : Sp := fun vs H Q _ => ∃ (p : Addr) (c k lim : Int) (b : Bool), vs = [.ref p, .int lim] ∧ H p = some (.lst [.int c, .int k, .bl b]) ∧ 0 < lim ∧ lim < 2 ^ 240 ∧ 0 ≤ k ∧ k ≤ 1000000 ∧
  ∀ c' r : Int, 0 ≤ r → r < lim → Q (.int r) (upd H p (.lst [.int c', .int (k + 1), .bl b]))
theorem ok_law_take (T : Txt K mg Ad) : Def P w K mg base 1 "_law_take" ["_law_pool_here", "_law_limit"] spTake := by
  refine T.d_law_take.ok sc_law_take (fun vs H Q E h => ?_) (fun f cdv A outer s H vs Q E hr h => ?_)
  · obtain ⟨p, c, k, lim, b, rfl, _⟩ := h
    rfl
  · obtain ⟨p, c, k, lim, b, rfl, hp, l0, l1, k0, k1, q⟩ := h
    refine ⟨_, (pss_cons (ps_asg (pe_op op_add (pe_ix ix_list (pv 0) pe_int (fun _ _ => rfl)) pe_int) (pg_sub (pv 0) pe_int set_list))
      (pss_cons (ps_if (pt_val (pe_ix ix_list (pv 0) pe_int (fun _ _ => rfl))) (pss_cons (ps_set (i := 2) sc_law_take.nd rfl (Or.inl rfl) (pe_op op_mod (pe_callTy c_int1 (by rfl) T.b_int (by decide +kernel) (pa_cons (pe_ix ix_list (pv 0) pe_int (fun _ _ => rfl)) pa_nil)) (pv 1)))
      (pss_cons (ps_asg (pe_op op_fdivB (pe_callTy c_int1 (by rfl) T.b_int (by decide +kernel) (pa_cons (pe_ix ix_list (pv 0) pe_int (fun _ _ => rfl)) pa_nil)) (pv 1)) (pg_sub (pv 0) pe_int set_list))
      (pss_one (ps_ret (pv 2))))) pss_nil)
      (pss_cons (ps_set (i := 3) sc_law_take.nd rfl (Or.inl rfl) (pe_op op_mod (pe_callTy c_int1 (by rfl) T.b_int (by decide +kernel) (pa_cons (pe_op op_add (pe_op op_add (pe_op op_mulB (pe_ix ix_list (pv 0) pe_int (fun _ _ => rfl)) pe_int) (pe_op op_mulB (pe_ix ix_list (pv 0) pe_int (fun _ _ => rfl)) pe_int)) pe_int) pa_nil)) pe_int))
      (pss_one (ps_ret (pe_op op_mod (pe_op op_fdivB (pe_callTy c_int1 (by rfl) T.b_int (by decide +kernel) (pa_cons (pe_op op_mod (pe_op (op_powN 5) (pv 3) pe_int) pe_int) pa_nil)) pe_int) (pv 1))))))), ?_⟩
    try dsimp only [cxOf]
    wtm_at "ra"
    · rw [upd_lst]
      exact q (c / lim) (c % lim) (Int.emod_nonneg _ (by omega)) (Int.emod_lt_of_pos _ l0)
    · exact q c _ (Int.emod_nonneg _ (by omega)) (Int.emod_lt_of_pos _ l0)
theorem use_take {p : Addr} {c k lim : Int} {b : Bool} {H : Hp} {Q : VK} {E : XK} (hp : H p = some (.lst [.int c, .int k, .bl b])) (l0 : 0 < lim) (l1 : lim < 2 ^ 240) (k0 : 0 ≤ k) (k1 : k ≤ 1000000)
    (q : ∀ c' r : Int, 0 ≤ r → r < lim → Q (.int r) (upd H p (.lst [.int c', .int (k + 1), .bl b]))) : spTake [.ref p, .int lim] H Q E := ⟨p, c, k, lim, b, rfl, hp, l0, l1, k0, k1, q⟩
local macro_rules | `(tactic| wtm_at "s") => `(tactic| ((with_reducible refine use_take (c := ?c) (k := ?k) (b := ?b) ?h1 ?h2 ?h3 ?h4 ?h5 ?_); (case h1 => wtm_at "h"); (case h2 => omega); (case h3 => omega); (case h4 => omega); (case h5 => omega); intro c' r hr0 hr1))
/-! ### _law_discriminant -/
def spDisc : Sp := fun vs H Q _ => ∃ (p : Addr) (j R : Int), vs = [.ref p, .int R] ∧ PoolAt H p j ∧ j ≤ 1000 ∧ 0 < R ∧ R ≤ 1000 ∧ ∀ (d : Int) us, d ≤ -3 → -(R + 4) ≤ d → (d % 4 = 0 ∨ d % 4 = 1) → PoolAt (upd H p (.lst us)) p (j + 1) → Q (.int d) (upd H p (.lst us))
theorem use_Disc {p : Addr} {j R : Int} {H : Hp} {Q : VK} {E : XK} (hp : PoolAt H p j) (hj : j ≤ 1000) (R0 : 0 < R) (R1 : R ≤ 1000) (q : ∀ (d : Int) us, d ≤ -3 → -(R + 4) ≤ d → (d % 4 = 0 ∨ d % 4 = 1) → PoolAt (upd H p (.lst us)) p (j + 1) → Q (.int d) (upd H p (.lst us))) : spDisc [.ref p, .int R] H Q E := ⟨p, j, R, rfl, hp, hj, R0, R1, q⟩
theorem ok_law_discriminant (T : Txt K mg Ad) : Def P w K mg base 2 "_law_discriminant" ["_law_pool_here", "_law_reach"] spDisc := by
  refine T.d_law_discriminant.ok sc_law_discriminant (fun vs H Q E h => ?_) (fun f cdv A outer s H vs Q E hr h => ?_)
  · obtain ⟨p, j, R, rfl, _⟩ := h
    rfl
  · obtain ⟨p, j, R, rfl, ⟨c, k, b, hp, k0, k1⟩, hj, hR, hR2, q⟩ := h
    refine ⟨_, (pss_cons (ps_set (i := 2) sc_law_discriminant.nd rfl (Or.inl rfl) (pe_op op_sub (pe_un un_neg pe_int) (pe_d (ok_law_take T) (hr.mono (by decide)) (passes_call (takes_of rfl rfl rfl rfl) (fun _ _ _ _ h => h)) (pa_cons (pv 0) (pa_cons (pv 1) pa_nil)))))
      (pss_cons (ps_while (passes_of rfl) (pt_cmpR op_gt (pe_op op_mod (pe_callTy c_int1 (by rfl) T.b_int (by decide +kernel) (pa_cons (pv 2) pa_nil)) pe_int) pe_int (nomark _)) (pss_one (ps_set (i := 2) sc_law_discriminant.nd rfl (Or.inl rfl) (pe_op op_sub (pv 2) pe_int))))
      (pss_one (ps_ret (pv 2))))), ?_⟩
    try dsimp only [cxOf]
    wtm_at "rs"
    rename_i c1 r1 r10 r11
    generalize hG : upd H p (.lst [.int c1, .int (k + 1), .bl b]) = G at *
    have hGp : G p = some (.lst [.int c1, .int (k + 1), .bl b]) := by rw [← hG]; exact upd_same
    refine rd_while (fun μ σ H' => ∃ (d : Int), μ = (d % 4).toNat ∧ σ = [some (.ref p), some (.int R), some (.int d)] ∧ H' = G ∧ d ≤ -3 ∧ -(R + 4) ≤ d ∧ (d % 4 = 2 → -(R + 3) ≤ d) ∧ (d % 4 = 3 → -(R + 2) ≤ d)) _
      ⟨-3 - r1, rfl, rfl, rfl, by omega, by omega, by omega, by omega⟩ ?_
    rintro μ σ H' ⟨d, rfl, rfl, rfl, d3, dl, dl2, dl3⟩
    wtm_at "rs"
    wtm_at "i"
    · wtm_at "rs"
      exact ⟨_, by omega, d - 1, rfl, rfl, rfl, by omega, by omega, by omega, by omega⟩
    · wtm_at "rs"
      rw [← hG]
      exact q d _ d3 (by omega) (by omega) ⟨c1, k + 1, b, upd_same, by omega, by omega⟩
/-! ### _law_common -/
def spLawCommon : Sp := fun vs H Q _ => ∃ a b : Int, vs = [.int a, .int b] ∧ Q (.int ((Int.gcd a b : Nat) : Int)) H
theorem ok_law_common (T : Txt K mg Ad) : Def P w K mg base 1 "_law_common" ["_law_a", "_law_b"] spLawCommon := by
  refine T.d_law_common.ok sc_law_common (fun vs H Q E h => ?_) (fun f cdv A outer s H vs Q E hr h => ?_)
  · obtain ⟨a, b, rfl, _⟩ := h
    rfl
  · obtain ⟨a, b, rfl, q⟩ := h
    refine ⟨_, (pss_cons (ps_par (i := 2) (j := 3) rfl sc_law_common.nd rfl rfl (by decide) rfl rfl (pa_cons (pe_callB c_abs (by rfl) T.b_abs (by decide +kernel) (pa_cons (pv 0) pa_nil)) (pa_cons (pe_callB c_abs (by rfl) T.b_abs (by decide +kernel) (pa_cons (pv 1) pa_nil)) pa_nil)) (by rfl))
      (pss_cons (ps_while (passes_of rfl) (pt_cmpR op_gt (pv 3) pe_int (nomark _)) (pss_one (ps_par (i := 2) (j := 3) rfl sc_law_common.nd rfl rfl (by decide) rfl rfl (pa_cons (pv 3) (pa_cons (pe_op op_mod (pv 2) (pv 3)) pa_nil)) (by rfl))))
      (pss_one (ps_ret (pv 2))))), ?_⟩
    try dsimp only [cxOf]
    wtm_at "rs"
    refine rd_while (fun μ σ H' => ∃ x y : Int, μ = y.toNat ∧ σ = [some (.int a), some (.int b), some (.int x), some (.int y)] ∧ H = H' ∧ 0 ≤ x ∧ 0 ≤ y ∧ Int.gcd x y = Int.gcd a b) (if b < 0 then -b else b).toNat
      ⟨_, _, rfl, rfl, rfl, by split <;> omega, by split <;> omega, gcd_abs a b⟩ ?_
    rintro μ σ H' ⟨x, y, rfl, rfl, rfl, hx, hy, hg⟩
    wtm_at "ra"
    · rename_i h0
      have m0 := Int.emod_nonneg x (show y ≠ 0 by omega)
      have m1 := Int.emod_lt_of_pos x h0
      exact ⟨_, by omega, y, x % y, rfl, rfl, rfl, hy, m0, by rw [gcd_turn hx h0, hg]⟩
    · rename_i h0
      have e : y = 0 := by omega
      subst e
      rw [← hg] at q
      rw [Int.gcd_zero_right] at q
      rw [show x = (x.natAbs : Int) by omega]
      exact q
theorem use_law_common {a b : Int} {H : Hp} {Q : VK} {E : XK} (q : Q (.int ((Int.gcd a b : Nat) : Int)) H) : spLawCommon [.int a, .int b] H Q E := ⟨a, b, rfl, q⟩
local macro_rules | `(tactic| wtm_at "s") => `(tactic| (with_reducible refine use_law_common ?_))
/-! ### _law_listed -/
def spLListed : Sp := fun vs H Q E => ∃ d : Int, vs = [.int d] ∧ -1000 ≤ d ∧ d < 0 ∧ NoT H ∧ ∀ (D : Addr) (ys : List Addr) (H' : Hp), Same H H' → NoT H' → H D = none → H' D = some (.lst (ys.map V.ref)) → LsAt H' ys (rfL d) → Q (.ref D) H'
theorem ok_law_listed (T : Txt K mg Ad) : Def P w K mg base 2 "_law_listed" ["_law_d"] spLListed := by
  refine T.d_law_listed.ok sc_law_listed (fun vs H Q E h => ?_) (fun f cdv A outer s H vs Q E hr h => ?_)
  · obtain ⟨d, rfl, _⟩ := h
    rfl
  · obtain ⟨d, rfl, d0, d1, nt, q⟩ := h
    refine ⟨_, (pss_cons (ps_set (i := 1) sc_law_listed.nd rfl (Or.inl rfl) (pe_lst pa_nil))
      (pss_cons (ps_for (passes_of rfl) rfl (pi_range2 (by rfl) T.b_range (pa_cons pe_int (pa_cons pe_int pa_nil))) (pg_name (i := 2) sc_law_listed.nd rfl (Or.inl rfl)) (pss_one (ps_for (passes_of rfl) rfl (pi_range2 (by rfl) T.b_range (pa_cons (pe_op op_sub pe_int (pv 2)) (pa_cons (pe_op op_add (pv 2) pe_int) pa_nil))) (pg_name (i := 3) sc_law_listed.nd rfl (Or.inl rfl)) (pss_cons (ps_set (i := 4) sc_law_listed.nd rfl (Or.inl rfl) (pe_op op_sub (pe_op op_mulB (pv 3) (pv 3)) (pv 0)))
      (pss_one (ps_if (pt_cmpR op_eq (pe_op op_mod (pe_callTy c_int1 (by rfl) T.b_int (by decide +kernel) (pa_cons (pv 4) pa_nil)) (pe_op op_mulB pe_int (pv 2))) pe_int (nomark _)) (pss_cons (ps_set (i := 5) sc_law_listed.nd rfl (Or.inl rfl) (pe_lst (pa_cons (pv 2) (pa_cons (pv 3) (pa_cons (pe_op op_fdivB (pv 4) (pe_op op_mulB pe_int (pv 2))) pa_nil)))))
      (pss_cons (ps_set (i := 6) sc_law_listed.nd rfl (Or.inl rfl) (pe_or (pe_cmpR op_lt (pv 2) (pe_ix ix_list (pv 5) pe_int (fun _ _ => rfl)) (nomark _)) (pe_one (pe_and (pe_cmpR op_eq (pv 2) (pe_ix ix_list (pv 5) pe_int (fun _ _ => rfl)) (nomark _)) (pe_one (pe_cmpR op_ge (pv 3) pe_int (nomark _)))))))
      (pss_one (ps_if (PW.pt (pw_and (pt_val (pv 6)) (pw_and1 (pt_cmpR op_eq (pe_d (ok_law_common T) (hr.mono (by decide)) (passes_call (takes_of rfl rfl rfl rfl) (fun _ _ _ _ h => h)) (pa_cons (pe_d (ok_law_common T) (hr.mono (by decide)) (passes_call (takes_of rfl rfl rfl rfl) (fun _ _ _ _ h => h)) (pa_cons (pv 2) (pa_cons (pv 3) pa_nil))) (pa_cons (pe_ix ix_list (pv 5) pe_int (fun _ _ => rfl)) pa_nil))) pe_int (nomark _))))) (pss_one (ps_expr (pe_bm PySem.F.plainAttrs_list PySem.F.slot_list_append PySem.F.type_list_append mt_append (pv 1) (pa_cons (pv 5) pa_nil)))) pss_nil)))) pss_nil))))))
      (pss_one (ps_ret (pv 1))))), ?_⟩
    try dsimp only [cxOf]
    have B := Hv.start nt
    wtm_at "rs"
    rename_i D hD
    have B := B.new (o := .lst []) hD
    refine rd_forR (fun n σ H' => ∃ (ys : List Addr) (v2 v3 v4 v5 v6 : Option V), σ = [some (.int d), some (.ref D), v2, v3, v4, v5, v6] ∧ Hv noX H [(D, .lst (ys.map V.ref))] [] [] H' ∧ LsAt H' ys (rfN d n) ∧ D ∉ ys) ⟨[], none, none, none, none, none, rfl, B, trivial, List.not_mem_nil⟩ ?_ ?_
    · clear B hD
      rintro n σ H' hn ⟨ys, v2, v3, v4, v5, v6, rfl, B, hl, nD⟩
      have hn2 : n ≤ 18 := by omega
      generalize ha : 1 + (n : Int) = a at *
      wtm_at "rs"
      refine rd_forR (fun i σ H' => ∃ (ys : List Addr) (v3 v4 v5 v6 : Option V), σ = [some (.int d), some (.ref D), some (.int a), v3, v4, v5, v6] ∧ Hv noX H [(D, .lst (ys.map V.ref))] [] [] H' ∧ LsAt H' ys (rfN d n ++ rfTo d a i) ∧ D ∉ ys) ⟨ys, v3, v4, v5, v6, rfl, B, ?_, nD⟩ ?_ ?_
      · rw [show rfTo d a 0 = [] from rfl, List.append_nil]
        exact hl
      · clear B hl nD
        rintro i σ H' hi ⟨ys, v3, v4, v5, v6, rfl, B, hl, nD⟩
        have hlen := LsAt.len hl
        have l1 := rfN_len (d := d) (n := n)
        have l2 := rfTo_len (d := d) (a := a) (j := i)
        have l3 : n * (2 * n) ≤ 18 * 36 := Nat.mul_le_mul (by omega) (by omega)
        rw [List.length_append] at hlen
        have ll : (ys.map V.ref).length < 1000000 := by
          rw [List.length_map]
          omega
        generalize hb : 1 - a + (i : Int) = b at *
        have b1 : -a < b ∧ b ≤ a := by omega
        have bb0 := sq_nonneg b
        have bb1 : b * b ≤ 20 * 20 := sq_le (by omega)
        have es := rfTo_succ (d := d) (a := a) (j := i)
        rw [hb] at es
        have stay : goodB d a b = none → ∀ G w3 w4 w5 w6, Hv noX H [(D, .lst (ys.map V.ref))] [] [] G → Same H' G → ∃ (ys : List Addr) (v3 v4 v5 v6 : Option V), [some (.int d), some (.ref D), some (.int a), w3, w4, w5, w6] = [some (.int d), some (.ref D), some (.int a), v3, v4, v5, v6] ∧ Hv noX H [(D, .lst (ys.map V.ref))] [] [] G ∧ LsAt G ys (rfN d n ++ rfTo d a (i + 1)) ∧ D ∉ ys := fun e G w3 w4 w5 w6 BG sm => ⟨ys, w3, w4, w5, w6, rfl, BG, by
          rw [es, e]
          simpa using hl.mono sm, nD⟩
        unfold goodB at es stay
        wtm_at "rs"
        by_cases e1 : (b * b - d) % (4 * a) = 0
        · rw [if_pos (decide_eq_true e1)]
          wtm_at "rs"
          rename_i R0 hR0
          have B := B.newL (o := .lst [.int a, .int b, .int ((b * b - d) / (4 * a))]) hR0
          have sm := same_new (o := .lst [.int a, .int b, .int ((b * b - d) / (4 * a))]) hR0
          have c0' : 0 ≤ (b * b - d) / (4 * a) := Int.ediv_nonneg (by omega) (by omega)
          have hRa : upd H' R0 (.lst [.int a, .int b, .int ((b * b - d) / (4 * a))]) R0 = some (.lst [.int a, .int b, .int ((b * b - d) / (4 * a))]) := upd_same
          have cc : ((Int.gcd ((Int.gcd a b : Nat) : Int) ((b * b - d) / (4 * a)) : Nat) : Int) = 1 ↔ Int.gcd ((Int.gcd a b : Nat) : Int) ((b * b - d) / (4 * a)) = 1 := by omega
          generalize hc : (b * b - d) / (4 * a) = c at *
          have nDR : D ≠ R0 := fun z => by
            subst z
            have h1 := HO.lst.inj (Option.some.inj ((B.mAt (a := D) List.mem_cons_self).symm.trans hRa))
            cases ys with
            | nil => cases h1
            | cons y ys => exact V.noConfusion (List.cons.inj h1).1
          have B : Hv noX H [(D, .lst (ys.map V.ref))] [] [] _ := B.sub sub_nil sub_nil
          wtm_at "ra"
          all_goals first
            | (refine stay (if_neg fun z => ?_) _ _ _ _ _ B sm
               have z1 := z.2.1
               have z2 := z.2.2
               omega)
            | (rw [if_pos ⟨e1, by omega, cc.mp (by assumption)⟩] at es
               rw [show ys.map V.ref ++ [V.ref R0] = (ys ++ [R0]).map V.ref by simp]
               refine ⟨ys ++ [R0], _, _, _, _, rfl, B.put, ?_, ?_⟩
               · rw [es, ← List.append_assoc]
                 exact LsAt.snoc (by rw [upd_ne nDR.symm]; exact hRa) (LsAt.other nD (hl.mono sm))
               · intro h
                 rcases List.mem_append.mp h with h | h
                 · exact nD h
                 · exact nDR (List.mem_singleton.mp h))
        · rw [if_neg (by rw [decide_eq_true_iff]; exact e1)]
          wtm_at "rs"
          exact stay (if_neg fun z => e1 z.1) _ _ _ _ _ B (Same.refl _)
      · clear B hl nD
        rintro σ H' ⟨ys, v3, v4, v5, v6, rfl, B, hl, nD⟩
        wtm_at "rs"
        refine ⟨ys, _, _, _, _, _, rfl, B, ?_, nD⟩
        rw [rfN_succ, show (n : Int) + 1 = a by omega]
        unfold rfRow
        rw [show (2 * a).toNat = (a + 1 - (1 - a)).toNat by omega]
        exact hl
    · clear B
      rintro σ H' ⟨ys, v2, v3, v4, v5, v6, rfl, B, hl, nD⟩
      wtm_at "rs"
      refine q D ys H' B.same B.nt (B.fr List.mem_cons_self) (by wtm_at "h") ?_
      unfold rfL
      rw [if_pos (by omega)]
      exact hl
/-! ### Form.__init__ -/
def ffl (f : Fm) : List (Str × V) := [("a", .int f.a), ("b", .int f.b), ("c", .int f.c), ("discriminant", .int f.D)]
theorem nab : ¬ (("a" : Str) = "b") := by decide +kernel
theorem nac : ¬ (("a" : Str) = "c") := by decide +kernel
theorem nad : ¬ (("a" : Str) = "discriminant") := by decide +kernel
theorem nbc : ¬ (("b" : Str) = "c") := by decide +kernel
theorem nbd : ¬ (("b" : Str) = "discriminant") := by decide +kernel
theorem ncd : ¬ (("c" : Str) = "discriminant") := by decide +kernel
theorem ffl_put (a b c d : V) : putF "discriminant" d (putF "c" c (putF "b" b (putF "a" a []))) = ([("a", a), ("b", b), ("c", c), ("discriminant", d)] : List (Str × V)) := by
  simp only [putF, if_neg nab, if_neg nac, if_neg nad, if_neg nbc, if_neg nbd, if_neg ncd]
def spFI (C CE : Addr) : Sp := fun vs H Q E => ∃ (x dx : Addr) (f : Fm), vs = [.ref x, .int f.a, .int f.b, .int f.c] ∧ H x = some (.ins C dx []) ∧ Fm.bd 4400 f ∧
  (¬ f.ok → ∀ d, H d = none → E (.ref CE) (some d) (upd H d (.xd [("c", .int f.c), ("b", .int f.b), ("a", .int f.a)]))) ∧ (f.ok → Q .non (upd H x (.ins C dx (ffl f))))
theorem ok_Form_init (T : Txt K mg Ad) : MkDef P w K mg base 3 "Form" Ad.c_Form ["self", "a", "b", "c"] (spFI Ad.c_Form Ad.c_BadForm) := by
  refine T.d_Form_init.ok sc_Form_init (fun vs H Q E h => ?_) (fun f cdv A outer s H vs Q E hr h => ?_)
  · obtain ⟨x, dx, f, rfl, _⟩ := h
    rfl
  · obtain ⟨x, dx, ⟨a, b, c⟩, rfl, hx, ⟨ba, bb, bc⟩, qe, qo⟩ := h
    dsimp only at ba bb bc qe
    refine ⟨_, (pss_cons (ps_if (PW.pt (pw_or (pt_cmpR op_lt (pv 1) pe_int (nomark _)) (pw_or1 (pt_cmpR op_ge (pe_op op_sub (pe_op op_mulB (pv 2) (pv 2)) (pe_op op_mulB (pe_op op_mulB pe_int (pv 1)) (pv 3))) pe_int (nomark _))))) (pss_one (ps_raise rfl (takes_of rfl rfl rfl rfl) (pmk_err (T.err_BadForm) (hr.mono (by decide)) (pa_cons (pv 1) (pa_cons (pv 2) (pa_cons (pv 3) pa_nil)))))) pss_nil)
      (pss_cons (ps_fldC (pv 0) (pv 1) T.cl_Form T.nf_Form_a)
      (pss_cons (ps_fldC (pv 0) (pv 2) T.cl_Form T.nf_Form_b)
      (pss_cons (ps_fldC (pv 0) (pv 3) T.cl_Form T.nf_Form_c)
      (pss_one (ps_fldC (pv 0) (pe_op op_sub (pe_op op_mulB (pv 2) (pv 2)) (pe_op op_mulB (pe_op op_mulB pe_int (pv 1)) (pv 3))) T.cl_Form T.nf_Form_discriminant)))))), ?_⟩
    try dsimp only [cxOf]
    wtm_at "ra"
    · exact qe (fun z => by have := z.1; dsimp only at this; omega)
    · exact qe (fun z => by have := z.2; unfold Fm.D at this; dsimp only at this; omega)
    · have z := qo ⟨by dsimp only; omega, by unfold Fm.D; dsimp only; omega⟩
      rw [upd_upd, upd_upd, upd_upd, ffl_put]
      exact z
def IsF (C : Addr) (H : Hp) (p : Addr) (f : Fm) : Prop := ∃ dx, H p = some (.ins C dx (ffl f))
theorem IsF.mono {C : Addr} {H H' : Hp} {p : Addr} {f : Fm} (h : IsF C H p f) (s : Same H H') : IsF C H' p f := let ⟨dx, h⟩ := h; ⟨dx, s _ _ h⟩
theorem IsF.keeps {C : Addr} {H G : Hp} {p : Addr} {f : Fm} (h : IsF C H p f) (k : Keeps H G) : IsF C G p f := let ⟨dx, e⟩ := h; ⟨dx, k _ _ rfl e⟩
theorem IsF.rig {C : Addr} {H : Hp} {p : Addr} {f : Fm} (h : IsF C H p f) : Rig (fun G => IsF C G p f) H := fun G k => h.keeps k
theorem use_FI {C CE : Addr} {f : Fm} {H1 : Hp} {R : Addr → Hp → Prop} {E : XK} {a b c : Int} (hf : f = ⟨a, b, c⟩) (hb : Fm.bd 4400 f) (ho : f.ok) (nt : NoT H1) (q : ∀ x H', Same H1 H' → NoT H' → H1 x = none → IsF C H' x f → R x H') :
    ∀ x dx, H1 x = none → H1 dx = none → dx ≠ x → spFI C CE [.ref x, .int a, .int b, .int c] (upd (upd H1 dx (.own x)) x (.ins C dx [])) (fun v H2 => v = .non ∧ R x H2) E := by
  subst hf
  intro x dx nx nd ne
  refine ⟨x, dx, ⟨a, b, c⟩, rfl, upd_same, hb, fun z => absurd ho z, fun _ => ⟨rfl, ?_⟩⟩
  rw [upd_upd]
  exact q x _ (same_upd2 (same_new nd) nx) (NoT.upd (NoT.upd nt rfl) rfl) nx ⟨dx, upd_same⟩
/-! ### Form.stepped -/
def spFStep (C : Addr) : Sp := fun vs H Q E => ∃ (p : Addr) (f : Fm) (k : Int), vs = [.ref p, .int k] ∧ IsF C H p f ∧ f.ok ∧ Fm.bd 1090 f ∧ Bd 1090 k ∧ NoT H ∧ ∀ x H', Same H H' → NoT H' → H x = none → IsF C H' x (f.st k) → Q (.ref x) H'
theorem ok_Form_stepped (T : Txt K mg Ad) : MDef P w K mg base 5 Ad.c_Form "stepped" ["self", "k"] (spFStep Ad.c_Form) := by
  refine T.d_Form_stepped.ok sc_Form_stepped (fun vs H Q E h => ?_) (fun f cdv A outer s H vs Q E hr h => ?_)
  · obtain ⟨p, f, k, rfl, _⟩ := h
    rfl
  · obtain ⟨p, f, k, rfl, ⟨dx, hp⟩, ho, ⟨ba, bb, bc⟩, bk, nt, q⟩ := h
    refine ⟨_, (pss_cons (ps_if (pt_cmpR op_eq (pv 1) pe_int (nomark _)) (pss_one (ps_ret (pe_mkd (ok_Form_init T) (hr.mono (by decide)) (passes_call (takes_of rfl rfl rfl rfl) (fun _ _ _ _ h => h)) (pa_cons (pe_fldC (pv 0) T.cl_Form T.nf_Form_c) (pa_cons (pe_un un_neg (pe_fldC (pv 0) T.cl_Form T.nf_Form_b)) (pa_cons (pe_fldC (pv 0) T.cl_Form T.nf_Form_a) pa_nil)))))) pss_nil)
      (pss_one (ps_ret (pe_mkd (ok_Form_init T) (hr.mono (by decide)) (passes_call (takes_of rfl rfl rfl rfl) (fun _ _ _ _ h => h)) (pa_cons (pe_fldC (pv 0) T.cl_Form T.nf_Form_a) (pa_cons (pe_op op_add (pe_fldC (pv 0) T.cl_Form T.nf_Form_b) (pe_op op_mulB (pe_op op_mulB pe_int (pe_fldC (pv 0) T.cl_Form T.nf_Form_a)) (pv 1))) (pa_cons (pe_op op_add (pe_op op_add (pe_op op_mulB (pe_op op_mulB (pe_fldC (pv 0) T.cl_Form T.nf_Form_a) (pv 1)) (pv 1)) (pe_op op_mulB (pe_fldC (pv 0) T.cl_Form T.nf_Form_b) (pv 1))) (pe_fldC (pv 0) T.cl_Form T.nf_Form_c)) pa_nil))))))), ?_⟩
    try dsimp only [cxOf]
    wtm_at "ra"
    · rename_i hk
      subst hk
      have e := f.st_zero
      exact use_FI e (by rw [e]; exact ⟨bc.mono (by decide), bb.neg.mono (by decide), ba.mono (by decide)⟩) (ho.st 0) nt q
    · rename_i hk
      have e := Fm.st_ne (f := f) hk
      exact use_FI e (by rw [e]; exact ⟨ba.mono (by decide), by dsimp only; wtm_at "bd", by dsimp only; wtm_at "bd"⟩) (ho.st k) nt q
theorem use_FStep {C : Addr} {p : Addr} {f : Fm} {k : Int} {H : Hp} {Q : VK} {E : XK} (h : IsF C H p f) (ho : f.ok) (hb : Fm.bd 1090 f) (hk : Bd 1090 k) (nt : NoT H) (q : ∀ x H', Same H H' → NoT H' → H x = none → IsF C H' x (f.st k) → Q (.ref x) H') : spFStep C [.ref p, .int k] H Q E := ⟨p, f, k, rfl, h, ho, hb, hk, nt, q⟩
/-! ### Form.turned -/
def spFTurn (K : PySem.W.Frag) (C : Addr) : Sp := fun vs H Q E => ∃ (p s : Addr) (f : Fm) (ks : List Int), vs = [.ref p, .ref s] ∧ IsF C H p f ∧ f.ok ∧ SqL K H s (ks.map V.int) ∧ (∀ i, i ≤ ks.length → Fm.bd 1090 (f.turn (ks.take i))) ∧ (∀ k ∈ ks, Bd 1090 k) ∧ NoT H ∧
  ∀ x H', Same H H' → NoT H' → IsF C H' x (f.turn ks) → Q (.ref x) H'
theorem ok_Form_turned (T : Txt K mg Ad) : MDef P w K mg base 6 Ad.c_Form "turned" ["self", "steps"] (spFTurn K Ad.c_Form) := by
  refine T.d_Form_turned.ok sc_Form_turned (fun vs H Q E h => ?_) (fun f cdv A outer s H vs Q E hr h => ?_)
  · obtain ⟨p, s, f, ks, rfl, _⟩ := h
    rfl
  · obtain ⟨p, s, f, ks, rfl, hp, ho, hs, hb, hk, nt, q⟩ := h
    refine ⟨_, (pss_cons (ps_set (i := 2) sc_Form_turned.nd rfl (Or.inl rfl) (pv 0))
      (pss_cons (ps_for (passes_of rfl) rfl (pi_list (pv 1)) (pg_name (i := 3) sc_Form_turned.nd rfl (Or.inl rfl)) (pss_one (ps_set (i := 2) sc_Form_turned.nd rfl (Or.inl rfl) (pe_md (ok_Form_stepped T) (pv 2) T.cl_Form (hr.mono (by decide)) (passes_call (takes_of rfl rfl rfl rfl) (fun _ _ _ _ h => h)) (pa_cons (pv 3) pa_nil)))))
      (pss_one (ps_ret (pv 2))))), ?_⟩
    try dsimp only [cxOf]
    wtm_at "rs"
    refine rd_forL (xs := ks.map V.int) (fun i σ H' => ∃ (x : Addr) (v3 : Option V), σ = [some (.ref p), some (.ref s), some (.ref x), v3] ∧ Same H H' ∧ NoT H' ∧ IsF Ad.c_Form H' x (f.turn (ks.take i))) ⟨p, none, rfl, Same.refl _, nt, hp⟩ (fun i σ H' _ ⟨_, _, _, sm, _⟩ => sm.seq hs) ?_ ?_
    · rintro i y σ H' hi ⟨x, v3, rfl, sm, nt', ⟨dx, hx⟩⟩
      rw [List.getElem?_map] at hi
      obtain ⟨k, hy, rfl⟩ := Option.map_eq_some_iff.mp hi
      have hlt := (List.getElem?_eq_some_iff.mp hy).1
      wtm_at "rs"
      refine ⟨x, _, k, rfl, ⟨dx, hx⟩, ho.turn _, hb i (by omega), hk k (List.mem_of_getElem? hy), nt', fun x' H2 sm2 nt2 hn h2 => ?_⟩
      wtm_at "rs"
      refine ⟨x', _, rfl, sm.trans sm2, nt2, ?_⟩
      rw [List.take_add_one, hy]
      show IsF _ _ _ (f.turn (ks.take i ++ [k]))
      rw [Fm.turn_snoc]
      exact h2
    · rintro σ H' ⟨x, v3, rfl, sm, nt', hx⟩
      rw [List.length_map, List.take_length] at hx
      wtm_at "rs"
      exact q x H' sm nt' hx
theorem use_FTurn {C : Addr} {p s : Addr} {f : Fm} {ks : List Int} {H : Hp} {Q : VK} {E : XK} (h : IsF C H p f) (ho : f.ok) (hs : SqL K H s (ks.map V.int)) (hb : ∀ i, i ≤ ks.length → Fm.bd 1090 (f.turn (ks.take i))) (hk : ∀ k ∈ ks, Bd 1090 k) (nt : NoT H) (q : ∀ x H', Same H H' → NoT H' → IsF C H' x (f.turn ks) → Q (.ref x) H') :
    spFTurn K C [.ref p, .ref s] H Q E := ⟨p, s, f, ks, rfl, h, ho, hs, hb, hk, nt, q⟩
/-! ### _law_form -/
/-- forms, one behind the other -/
def FmA (C : Addr) (H : Hp) : List Addr → List Fm → Prop
  | [], [] => True
  | y :: ys, f :: fs => IsF C H y f ∧ FmA C H ys fs
  | _, _ => False
theorem FmA.keeps {C : Addr} {H G : Hp} (k : Keeps H G) : ∀ {ys : List Addr} {fs : List Fm}, FmA C H ys fs → FmA C G ys fs
  | [], [], _ => trivial
  | _ :: _, _ :: _, h => ⟨h.1.keeps k, FmA.keeps k h.2⟩
  | [], _ :: _, h => h.elim
  | _ :: _, [], h => h.elim
theorem FmA.rig {C : Addr} {H : Hp} {ys : List Addr} {fs : List Fm} (h : FmA C H ys fs) : Rig (fun G => FmA C G ys fs) H := fun G k => h.keeps k
theorem FmA.mono {C : Addr} {H G : Hp} {ys : List Addr} {fs : List Fm} (h : FmA C H ys fs) (s : Same H G) : FmA C G ys fs := h.keeps (Keeps.of s)
theorem FmA.len {C : Addr} {H : Hp} : ∀ {ys : List Addr} {fs : List Fm}, FmA C H ys fs → ys.length = fs.length
  | [], [], _ => rfl
  | _ :: _, _ :: _, h => by rw [List.length_cons, List.length_cons, FmA.len h.2]
  | [], _ :: _, h => h.elim
  | _ :: _, [], h => h.elim
theorem FmA.snoc {C : Addr} {H : Hp} {y : Addr} {f : Fm} (hy : IsF C H y f) : ∀ {ys : List Addr} {fs : List Fm}, FmA C H ys fs → FmA C H (ys ++ [y]) (fs ++ [f])
  | [], [], _ => ⟨hy, trivial⟩
  | _ :: _, _ :: _, h => ⟨h.1, FmA.snoc hy h.2⟩
  | [], _ :: _, h => h.elim
  | _ :: _, [], h => h.elim
theorem FmA.at {C : Addr} {H : Hp} : ∀ {ys : List Addr} {fs : List Fm} {i : Nat} {y : Addr}, FmA C H ys fs → ys[i]? = some y → ∃ f, fs[i]? = some f ∧ IsF C H y f
  | _ :: _, f :: _, 0, _, h, e => ⟨f, rfl, by cases e; exact h.1⟩
  | _ :: _, _ :: _, i + 1, _, h, e => FmA.at (i := i) h.2 (by simpa using e)
  | [], _, _, _, _, e => by cases e
  | _ :: _, [], _, _, h, _ => h.elim
theorem LsAt.rowsZ {p : Addr} {H : Hp} : ∀ {ys : List Addr} {fs : List Fm}, LsAt H ys fs → p ∉ ys → RowsZ p H ys (fs.map Fm.ns)
  | [], [], _, _ => trivial
  | y :: ys, f :: fs, h, n => ⟨fun e => n (by rw [e]; exact List.mem_cons_self), h.1, LsAt.rowsZ h.2 fun m => n (List.mem_cons_of_mem _ m)⟩
  | [], _ :: _, h, _ => h.elim
  | _ :: _, [], h, _ => h.elim
theorem Fm.st_bd4 {n : Nat} {f : Fm} {k : Int} (hb : Fm.bd n f) (h1 : -3 ≤ k) (h2 : k ≤ 3) : Fm.bd (n + 4) (f.st k) := by
  obtain ⟨⟨ba⟩, ⟨bb⟩, ⟨bc⟩⟩ := hb
  have e : 2 ^ (n + 4) = 16 * 2 ^ n := by rw [Nat.pow_add]; omega
  unfold Fm.st
  split
  · exact ⟨⟨by dsimp only; omega⟩, ⟨by dsimp only; omega⟩, ⟨by dsimp only; omega⟩⟩
  · rcases (show k = -3 ∨ k = -2 ∨ k = -1 ∨ k = 0 ∨ k = 1 ∨ k = 2 ∨ k = 3 by omega) with z | z | z | z | z | z | z <;> subst z <;> exact ⟨⟨by dsimp only; omega⟩, ⟨by dsimp only; omega⟩, ⟨by dsimp only; omega⟩⟩
theorem Fm.turn_bd4 : ∀ {ks : List Int} {n : Nat} {f : Fm}, Fm.bd n f → (∀ k ∈ ks, -3 ≤ k ∧ k ≤ 3) → Fm.bd (n + 4 * ks.length) (f.turn ks)
  | [], n, f, hb, _ => hb
  | k :: ks, n, f, hb, h => by
    have h1 := h k (by simp)
    have := Fm.turn_bd4 (ks := ks) (Fm.st_bd4 hb h1.1 h1.2) fun x hx => h x (List.mem_cons_of_mem _ hx)
    show Fm.bd (n + 4 * (ks.length + 1)) ((f.st k).turn ks)
    exact this.mono (by omega)
/-- a form of the discriminant, behind small steps -/
structure Drawn (d : Int) (f : Fm) : Prop where
  ok : f.ok
  D : f.D = d
  pr : f.prim
  bd : Fm.bd 40 f
  bs : Fm.bd 21 f
  cl : ∃ g ∈ rfL d, g.eqv f
def spLFm (C : Addr) : Sp := fun vs H Q _ => ∃ (p a : Addr) (j d : Int) (ys : List Addr), vs = [.ref p, .ref a] ∧ PoolAt H p j ∧ j ≤ 1000 ∧ a ≠ p ∧ H a = some (.lst (ys.map V.ref)) ∧ LsAt H ys (rfL d) ∧ p ∉ ys ∧ -1000 ≤ d ∧ d < 0 ∧ rfL d ≠ [] ∧ NoT H ∧ ∀ x f G, Drawn d f → But p H G → NoT G → IsF C G x f → Q (.ref x) G
theorem use_LFm {C p a : Addr} {j d : Int} {ys : List Addr} {H : Hp} {Q : VK} {E : XK} (hp : PoolAt H p j) (hj : j ≤ 1000) (ap : a ≠ p) (ha : H a = some (.lst (ys.map V.ref))) (ls : LsAt H ys (rfL d)) (np : p ∉ ys) (d0 : -1000 ≤ d) (d1 : d < 0) (rn : rfL d ≠ []) (nt : NoT H) (q : ∀ x f G, Drawn d f → But p H G → NoT G → IsF C G x f → Q (.ref x) G) : spLFm C [.ref p, .ref a] H Q E := ⟨p, a, j, d, ys, rfl, hp, hj, ap, ha, ls, np, d0, d1, rn, nt, q⟩
theorem ok_law_form (T : Txt K mg Ad) : Def P w K mg base 7 "_law_form" ["_law_pool_here", "_law_rows"] (spLFm Ad.c_Form) := by
  refine T.d_law_form.ok sc_law_form (fun vs H Q E h => ?_) (fun f cdv A outer s H vs Q E hr h => ?_)
  · obtain ⟨p, a, j, d, ys, rfl, _⟩ := h
    rfl
  · obtain ⟨p, a, j, d, ys, rfl, ⟨c, k, b, hp, k0, k1⟩, hj, ap, ha, ls, np, d0, d1, rn, nt, q⟩ := h
    refine ⟨_, (pss_cons (ps_set (i := 2) sc_law_form.nd rfl (Or.inl rfl) (pe_ix ix_list (pv 1) (pe_d (ok_law_take T) (hr.mono (by decide)) (passes_call (takes_of rfl rfl rfl rfl) (fun _ _ _ _ h => h)) (pa_cons (pv 0) (pa_cons (pe_callB c_len (by rfl) T.b_len PySem.boot_len (pa_cons (pv 1) pa_nil)) pa_nil))) (fun _ _ => rfl)))
      (pss_cons (ps_set (i := 3) sc_law_form.nd rfl (Or.inl rfl) (pe_mkd (ok_Form_init T) (hr.mono (by decide)) (passes_call (takes_of rfl rfl rfl rfl) (fun _ _ _ _ h => h)) (pa_cons (pe_ix ix_list (pv 2) pe_int (fun _ _ => rfl)) (pa_cons (pe_ix ix_list (pv 2) pe_int (fun _ _ => rfl)) (pa_cons (pe_ix ix_list (pv 2) pe_int (fun _ _ => rfl)) pa_nil)))))
      (pss_one (ps_ret (pe_md (ok_Form_turned T) (pv 3) T.cl_Form (hr.mono (by decide)) (passes_call (takes_of rfl rfl rfl rfl) (fun _ _ _ _ h => h)) (pa_cons (pe_lc (own := [("_law_k", 4)])  (te := (tOp (rI0 fun i j => .int (i - j)) (tCall (spTake) [] E0 (tCons (tVar 0) (tCons (tC (.int 7)) tNil))) (tC (.int 3)))) rfl sc_law_form.nd  (pi_range1 (by rfl) T.b_range (pa_cons (pe_d (ok_law_take T) (hr.mono (by decide)) (passes_call (takes_of rfl rfl rfl rfl) (fun _ _ _ _ h => h)) (pa_cons (pv 0) (pa_cons pe_int pa_nil))) pa_nil)) (blkOk_by (own := [("_law_k", 4)]) (N := ["_law_pool_here", "_law_rows", "_law_row_here", "_law_form_here", "_law_k"]) (sc := defScope s_law_form) (by decide +kernel)) (fun _ _ _ _ _ => (pg_name (i := 4) sc_law_form.nd rfl (Or.inl rfl))) (fun _ _ _ _ _ => pts_nil) (fun _ _ _ _ _ => (pe_op op_sub (pe_d (E := E0) (ok_law_take T) (hr.mono (by decide)) passL (pa_cons (pv 0) (pa_cons pe_int pa_nil))) pe_int))) pa_nil)))))), ?_⟩
    try dsimp only [cxOf]
    have yl := ls.len
    have y0 : 0 < ys.length := by
      rw [yl]
      exact List.length_pos_iff.mpr rn
    have B := Hv.pool nt hp
    have rl := rfN_len (d := d) (n := 19)
    have rlen : (rfL d).length ≤ 19 * (2 * 19) := by
      unfold rfL
      rw [if_pos d1]
      exact rl
    wtm_at "rs"
    rw [List.length_map]
    refine use_take hp (by omega) (Int.lt_of_lt_of_le (show _ < (1000 : Int) by omega) (by decide)) (by omega) (by omega) fun c1 r1 r10 r11 => ?_
    obtain ⟨y, hy⟩ : ∃ y, ys[r1.toNat]? = some y := ⟨_, List.getElem?_eq_getElem (by omega)⟩
    obtain ⟨f0, hf0, hyr⟩ := ls.at hy
    have fm : f0 ∈ rfL d := List.mem_of_getElem? hf0
    have ym : y ∈ ys := List.mem_of_getElem? hy
    have yp : y ≠ p := fun e => np (e ▸ ym)
    obtain ⟨fD, fo, fr, fg⟩ := (mem_rfL d1 d0).mp fm
    obtain ⟨s1, s2, s3, s4, s5⟩ := rf_small d1 d0 fm
    have fb : Fm.bd 10 f0 := ⟨Bd.of (by have := fo.1; omega) (by omega), Bd.of (by omega) (by omega), Bd.of (by omega) (by omega)⟩
    replace B := B.put (u := .lst [.int c1, .int (k + 1), .bl b])
    have ha2 := B.oAtX ha ap
    have hy2 : _ = some (HO.lst [.int f0.a, .int f0.b, .int f0.c]) := B.oAtX hyr yp
    refine rd_ixL (SqL.of ha2) (v := .ref y) (by
      rw [show r1 = ((r1.toNat : Nat) : Int) by omega]
      exact atI_nat (by rw [List.getElem?_map, hy]; rfl)) ?_
    revert ha2 hy2
    refine B.gen fun G B ha2 hy2 => ?_
    wtm_at "rs"
    refine use_FI (f := f0) rfl (fb.mono (by decide)) fo B.nt fun x G2 s2 n2 f2 i2 => ?_
    replace B := (B.next s2 n2).rig i2.rig
    clear ha2 hy2 s2 n2 f2 i2
    refine B.gen fun G B => ?_
    obtain ⟨dx, i2⟩ := B.zAt (P := fun G => IsF Ad.c_Form G x f0) (by wtm_at "mem")
    wtm_at "rs"
    rename_i c2 r2 r20 r21
    replace B := B.put (u := .lst [.int c2, .int (k + 1 + 1), .bl b])
    refine B.gen fun G B => ?_
    wtm_at "rs"
    refine rd_lcRG (fun Dz i ys G => ∃ (c k : Int) (R : List Int), ys = R.map V.int ∧ R.length = i ∧ (∀ o ∈ R, -3 ≤ o ∧ o ≤ 3) ∧ 0 ≤ k ∧ k ≤ 2000 + i ∧ Hv (· = p) H [(p, .lst [.int c, .int k, .bl b]), (Dz, .lst ys)] [] [fun G => IsF Ad.c_Form G x f0] G) (fun D hD => ⟨_, _, [], rfl, rfl, fun o h => absurd h List.not_mem_nil, by omega, by omega, B.newX hD⟩) ?_ ?_
    · clear B
      rintro D j ys G hD hj hG ⟨c, k, R, rfl, rfl, hR, k0, k1, B⟩
      have hj6 : R.length < 4 := by omega
      wtm_at "r"
      refine ⟨rfl, ?_⟩
      wtm_at "rs"
      rename_i c5 e5 e50 e51
      have B := B.put (u := .lst [.int c5, .int (k + 1), .bl b])
      refine put_G (J := fun Dz i ys G => ∃ (c k : Int) (R : List Int), ys = R.map V.int ∧ R.length = i ∧ (∀ o ∈ R, -3 ≤ o ∧ o ≤ 3) ∧ 0 ≤ k ∧ k ≤ 2000 + i ∧ Hv (· = p) H [(p, .lst [.int c, .int k, .bl b]), (Dz, .lst ys)] [] [fun G => IsF Ad.c_Form G x f0] G) (B.mAt (a := D) (by wtm_at "mem")) (by rw [List.length_map]; exact Nat.lt_of_lt_of_le hj6 (by decide)) ?_
      refine ⟨c5, k + 1, R ++ [e5 - 3], by rw [List.map_append]; rfl, by simp, fun o ho => ?_, by omega, by omega, B.put1⟩
      rcases List.mem_append.mp ho with ho | ho
      · exact hR o ho
      · rw [List.mem_singleton.mp ho]
        exact ⟨by omega, by omega⟩
    · clear B
      rintro D ys G hD hG ⟨c, k, R, rfl, lR, hR, k0, k1, B⟩
      have lR3 : R.length ≤ 3 := by omega
      have hk : ∀ k ∈ R, Bd 3 k := fun k h => by
        have := hR k h
        exact Bd.of (by omega) (by omega)
      obtain ⟨dx, i2⟩ := B.zAt (P := fun G => IsF Ad.c_Form G x f0) (by wtm_at "mem")
      wtm_at "rs"
      refine use_FTurn ⟨dx, i2⟩ fo (SqL.of hG) (fun i hi => (Fm.turn_bds fb hk i hi).mono (by omega)) (fun k h => (hk k h).mono (by decide)) B.nt fun z G3 s3 n3 i3 => ?_
      have tb := Fm.turn_bds fb hk R.length (Nat.le_refl _)
      rw [List.take_length] at tb
      have e := Fm.turn_eqv f0 R
      exact q z (f0.turn R) G3 ⟨fo.turn R, by rw [Fm.turn_D]; exact fD, Fm.prim.eqv fg e, tb.mono (by omega), (Fm.turn_bd4 (n := 9) ⟨Bd.of (by have := fo.1; omega) (by omega), Bd.of (by omega) (by omega), Bd.of (by omega) (by omega)⟩ hR).mono (by omega), f0, fm, e⟩ (fun b o n h => s3 b o (B.old b o n h)) n3 i3
/-! ### Form.__call__ -/
def spFCall (C : Addr) : Sp := fun vs H Q E => ∃ (p : Addr) (f : Fm) (x y : Int), vs = [.ref p, .int x, .int y] ∧ IsF C H p f ∧ Fm.bd 1000 f ∧ Bd 1000 x ∧ Bd 1000 y ∧ Q (.int (f.at x y)) H
theorem ok_Form_call (T : Txt K mg Ad) : MDef P w K mg base 1 Ad.c_Form "__call__" ["self", "x", "y"] (spFCall Ad.c_Form) := by
  refine T.d_Form_call.ok sc_Form_call (fun vs H Q E h => ?_) (fun f cdv A outer s H vs Q E hr h => ?_)
  · obtain ⟨p, f, x, y, rfl, _⟩ := h
    rfl
  · obtain ⟨p, f, x, y, rfl, ⟨dx, hp⟩, ⟨ba, bb, bc⟩, bx, by', q⟩ := h
    refine ⟨_, (pss_one (ps_ret (pe_op op_add (pe_op op_add (pe_op op_mulB (pe_op op_mulB (pe_fldC (pv 0) T.cl_Form T.nf_Form_a) (pv 1)) (pv 1)) (pe_op op_mulB (pe_op op_mulB (pe_fldC (pv 0) T.cl_Form T.nf_Form_b) (pv 1)) (pv 2))) (pe_op op_mulB (pe_op op_mulB (pe_fldC (pv 0) T.cl_Form T.nf_Form_c) (pv 2)) (pv 2))))), ?_⟩
    try dsimp only [cxOf]
    wtm_at "rs"
    exact q
theorem use_FCall {C : Addr} {p : Addr} {f : Fm} {x y : Int} {H : Hp} {Q : VK} {E : XK} (h : IsF C H p f) (hb : Fm.bd 1000 f) (bx : Bd 1000 x) (b2 : Bd 1000 y) (q : Q (.int (f.at x y)) H) : spFCall C [.ref p, .int x, .int y] H Q E := ⟨p, f, x, y, rfl, h, hb, bx, b2, q⟩
/-! ### common -/
def spCommon : Sp := fun vs H Q _ => ∃ a b : Int, vs = [.int a, .int b] ∧ Q (.int ((Int.gcd a b : Nat) : Int)) H
theorem ok_common (T : Txt K mg Ad) : Def P w K mg base 1 "common" ["a", "b"] spCommon := by
  refine T.d_common.ok sc_common (fun vs H Q E h => ?_) (fun f cdv A outer s H vs Q E hr h => ?_)
  · obtain ⟨a, b, rfl, _⟩ := h
    rfl
  · obtain ⟨a, b, rfl, q⟩ := h
    refine ⟨_, (pss_cons (ps_par (i := 2) (j := 3) rfl sc_common.nd rfl rfl (by decide) rfl rfl (pa_cons (pe_callB c_abs (by rfl) T.b_abs (by decide +kernel) (pa_cons (pv 0) pa_nil)) (pa_cons (pe_callB c_abs (by rfl) T.b_abs (by decide +kernel) (pa_cons (pv 1) pa_nil)) pa_nil)) (by rfl))
      (pss_cons (ps_while (passes_of rfl) (pt_cmpR op_gt (pv 3) pe_int (nomark _)) (pss_one (ps_par (i := 2) (j := 3) rfl sc_common.nd rfl rfl (by decide) rfl rfl (pa_cons (pv 3) (pa_cons (pe_op op_mod (pv 2) (pv 3)) pa_nil)) (by rfl))))
      (pss_one (ps_ret (pv 2))))), ?_⟩
    try dsimp only [cxOf]
    wtm_at "rs"
    refine rd_while (fun μ σ H' => ∃ x y : Int, μ = y.toNat ∧ σ = [some (.int a), some (.int b), some (.int x), some (.int y)] ∧ H = H' ∧ 0 ≤ x ∧ 0 ≤ y ∧ Int.gcd x y = Int.gcd a b) (if b < 0 then -b else b).toNat
      ⟨_, _, rfl, rfl, rfl, by split <;> omega, by split <;> omega, gcd_abs a b⟩ ?_
    rintro μ σ H' ⟨x, y, rfl, rfl, rfl, hx, hy, hg⟩
    wtm_at "ra"
    · rename_i h0
      have m0 := Int.emod_nonneg x (show y ≠ 0 by omega)
      have m1 := Int.emod_lt_of_pos x h0
      exact ⟨_, by omega, y, x % y, rfl, rfl, rfl, hy, m0, by rw [gcd_turn hx h0, hg]⟩
    · rename_i h0
      have e : y = 0 := by omega
      subst e
      rw [← hg] at q
      rw [Int.gcd_zero_right] at q
      rw [show x = (x.natAbs : Int) by omega]
      exact q
theorem use_common {a b : Int} {H : Hp} {Q : VK} {E : XK} (q : Q (.int ((Int.gcd a b : Nat) : Int)) H) : spCommon [.int a, .int b] H Q E := ⟨a, b, rfl, q⟩
local macro_rules | `(tactic| wtm_at "s") => `(tactic| (with_reducible refine use_common ?_))
/-! ### coprime_point -/
def spCP (C : Addr) : Sp := fun vs H Q _ => ∃ (p : Addr) (f : Fm) (N : Int), vs = [.ref p, .int N] ∧ IsF C H p f ∧ Fm.bd 140 f ∧ PtB f N ∧ NoT H ∧ ∀ (x y : Int) t G, 0 ≤ x → 0 ≤ y → Bd 60 x → Bd 60 y → Int.gcd x y = 1 → Int.gcd (f.at x y) N = 1 → Same H G → NoT G → H t = none → G t = some (.tup [.int x, .int y]) → Q (.ref t) G
theorem use_CP {C : Addr} {p : Addr} {f : Fm} {N : Int} {H : Hp} {Q : VK} {E : XK} (h : IsF C H p f) (hb : Fm.bd 140 f) (fp : PtB f N) (nt : NoT H) (q : ∀ (x y : Int) t G, 0 ≤ x → 0 ≤ y → Bd 60 x → Bd 60 y → Int.gcd x y = 1 → Int.gcd (f.at x y) N = 1 → Same H G → NoT G → H t = none → G t = some (.tup [.int x, .int y]) → Q (.ref t) G) : spCP C [.ref p, .int N] H Q E := ⟨p, f, N, rfl, h, hb, fp, nt, q⟩
theorem ok_coprime_point (T : Txt K mg Ad) : Def P w K mg base 2 "coprime_point" ["form", "a"] (spCP Ad.c_Form) := by
  refine T.d_coprime_point.ok sc_coprime_point (fun vs H Q E h => ?_) (fun f cdv A outer s H vs Q E hr h => ?_)
  · obtain ⟨p, f, N, rfl, _⟩ := h
    rfl
  · obtain ⟨p, f, N, rfl, hp, fb, fp, nt, q⟩ := h
    refine ⟨_, (pss_cons (ps_set (i := 2) sc_coprime_point.nd rfl (Or.inl rfl) pe_int)
      (pss_one (ps_while (passes_of rfl) (pt_val pe_bl) (pss_cons (ps_for (passes_of rfl) rfl (pi_range1 (by rfl) T.b_range (pa_cons (pe_op op_add (pv 2) pe_int) pa_nil)) (pg_name (i := 3) sc_coprime_point.nd rfl (Or.inl rfl)) (pss_cons (ps_set (i := 4) sc_coprime_point.nd rfl (Or.inl rfl) (pe_op op_sub (pv 2) (pv 3)))
      (pss_one (ps_if (PW.pt (pw_and (pt_cmpR op_eq (pe_d (ok_common T) (hr.mono (by decide)) (passes_call (takes_of rfl rfl rfl rfl) (fun _ _ _ _ h => h)) (pa_cons (pv 4) (pa_cons (pv 3) pa_nil))) pe_int (nomark _)) (pw_and1 (pt_cmpR op_eq (pe_d (ok_common T) (hr.mono (by decide)) (passes_call (takes_of rfl rfl rfl rfl) (fun _ _ _ _ h => h)) (pa_cons (pe_mcall (ok_Form_call T) T.fi_Form (pv 0) (hr.mono (by decide)) (passes_call (takes_of rfl rfl rfl rfl) (fun _ _ _ _ h => h)) (pa_cons (pv 4) (pa_cons (pv 3) pa_nil))) (pa_cons (pv 1) pa_nil))) pe_int (nomark _))))) (pss_one (ps_ret (pe_tup (pa_cons (pv 4) (pa_cons (pv 3) pa_nil))))) pss_nil))))
      (pss_one (ps_aug (i := 2) sc_coprime_point.nd rfl (Or.inl rfl) pe_int ip_add)))))), ?_⟩
    try dsimp only [cxOf]
    obtain ⟨X, Y, X1, Y1, XY, Xl, gXY, gN⟩ := fp
    obtain ⟨dp, hp'⟩ := id hp
    wtm_at "rs"
    refine rd_while (fun μ σ H' => ∃ (t : Int) (v3 v4 : Option V), μ = (X + Y - t).toNat ∧ σ = [some (.ref p), some (.int N), some (.int t), v3, v4] ∧ H' = H ∧ 1 ≤ t ∧ t ≤ X + Y) _
      ⟨1, none, none, rfl, rfl, rfl, by omega, by omega⟩ ?_
    rintro μ σ H' ⟨t, v3, v4, rfl, rfl, rfl, t1, tl⟩
    wtm_at "rs"
    refine rd_forRs (fun i σ => ∃ v3 v4 : Option V, σ = [some (.ref p), some (.int N), some (.int t), v3, v4] ∧ ∀ j : Nat, j < i → ¬ (Int.gcd (t - j) (j : Int) = 1 ∧ Int.gcd (f.at (t - j) j) N = 1)) ⟨v3, v4, rfl, fun j hj => absurd hj (Nat.not_lt_zero _)⟩ ?_ ?_
    · rintro i σ hi ⟨v3, v4, rfl, no⟩
      have hi2 : (i : Int) ≤ t := by omega
      have b1 : Bd 60 (t - (i : Int)) := Bd.of (by omega) (by omega)
      have b2 : Bd 60 (i : Int) := Bd.of (by omega) (by omega)
      have e0 : (0 : Int) + (i : Int) = (i : Int) := by omega
      rw [e0]
      have step : ¬ (Int.gcd (t - i) (i : Int) = 1 ∧ Int.gcd (f.at (t - i) i) N = 1) → ∀ j : Nat, j < i + 1 → ¬ (Int.gcd (t - j) (j : Int) = 1 ∧ Int.gcd (f.at (t - j) j) N = 1) := fun z j hj => by
        rcases Nat.lt_or_ge j i with h | h
        · exact no j h
        · have : j = i := by omega
          rw [this]
          exact z
      wtm_at "rs"
      by_cases g1 : Int.gcd (t - (i : Int)) (i : Int) = 1
      · rw [if_pos (decide_eq_true (by omega))]
        wtm_at "rs"
        refine use_FCall ⟨dp, hp'⟩ (fb.mono (by decide)) (b1.mono (by decide)) (b2.mono (by decide)) ?_
        wtm_at "rs"
        by_cases g2 : Int.gcd (f.at (t - (i : Int)) (i : Int)) N = 1
        · rw [if_pos (decide_eq_true (by omega))]
          wtm_at "rs"
          rename_i R hR
          exact q _ _ R _ (by omega) (by omega) b1 b2 g1 g2 (same_new hR) (NoT.upd nt rfl) hR upd_same
        · rw [if_neg (by rw [decide_eq_true_iff]; omega)]
          wtm_at "rs"
          exact ⟨rfl, _, _, rfl, step fun z => g2 z.2⟩
      · rw [if_neg (by rw [decide_eq_true_iff]; omega)]
        wtm_at "rs"
        exact ⟨rfl, _, _, rfl, step fun z => g1 z.1⟩
    · rintro σ ⟨v3, v4, rfl, no⟩
      have tY : t ≠ X + Y := fun z => no Y.toNat (by omega) (by
        rw [show ((Y.toNat : Nat) : Int) = Y by omega, show t - Y = X by omega]
        exact ⟨gXY, gN⟩)
      wtm_at "rs"
      exact ⟨_, by omega, t + 1, _, _, rfl, rfl, rfl, by omega, by omega⟩
/-! ### bezout -/
def spBez : Sp := fun vs H Q _ => ∃ x y : Int, vs = [.int x, .int y] ∧ NoT H ∧ 0 ≤ x ∧ 0 ≤ y ∧ Bd 1000 x ∧ Bd 1000 y ∧ Int.gcd x y = 1 ∧ ∀ (u v : Int) t G, u * x + v * y = 1 → u.natAbs ≤ y.natAbs + 1 → v.natAbs ≤ x.natAbs + 1 → Same H G → NoT G → H t = none → G t = some (.tup [.int u, .int v]) → Q (.ref t) G
theorem use_bez {x y : Int} {H : Hp} {Q : VK} {E : XK} (nt : NoT H) (x0 : 0 ≤ x) (y0 : 0 ≤ y) (bx : Bd 1000 x) (by' : Bd 1000 y) (g : Int.gcd x y = 1) (q : ∀ (u v : Int) t G, u * x + v * y = 1 → u.natAbs ≤ y.natAbs + 1 → v.natAbs ≤ x.natAbs + 1 → Same H G → NoT G → H t = none → G t = some (.tup [.int u, .int v]) → Q (.ref t) G) : spBez [.int x, .int y] H Q E := ⟨x, y, rfl, nt, x0, y0, bx, by', g, q⟩
theorem ok_bezout (T : Txt K mg Ad) : Def P w K mg base 1 "bezout" ["x", "y"] spBez := by
  refine T.d_bezout.ok sc_bezout (fun vs H Q E h => ?_) (fun f cdv A outer s H vs Q E hr h => ?_)
  · obtain ⟨x, y, rfl, _⟩ := h
    rfl
  · obtain ⟨A, B, rfl, nt, hA, hB, bA, bB, hg, q⟩ := h
    refine ⟨_, (pss_cons (ps_set (i := 2) sc_bezout.nd rfl (Or.inr rfl) (pe_tup (pa_cons (pv 0) (pa_cons pe_int (pa_cons pe_int pa_nil)))))
      (pss_cons (ps_set (i := 3) sc_bezout.nd rfl (Or.inr rfl) (pe_tup (pa_cons (pv 1) (pa_cons pe_int (pa_cons pe_int pa_nil)))))
      (pss_cons (ps_while (passes_of rfl) (pt_cmpR op_gt (pe_ix ix_tup (pv 3) pe_int (fun _ _ => rfl)) pe_int (nomark _)) (pss_cons (ps_set (i := 4) sc_bezout.nd rfl (Or.inr rfl) (pe_op op_fdivB (pe_ix ix_tup (pv 2) pe_int (fun _ _ => rfl)) (pe_ix ix_tup (pv 3) pe_int (fun _ _ => rfl))))
      (pss_cons (ps_set (i := 5) sc_bezout.nd rfl (Or.inl rfl) (pe_callTy call_tupN (by rfl) T.b_tuple (by decide +kernel) (pa_cons (pe_lc (own := [("k", 6)])  (te := (tOp (rI0 fun i j => .int (i - j)) (tOp (rIxT K) (tVar 2) (tVar 6)) (tOp (rI CMulB fun i j => .int (i * j)) (tVar 4) (tOp (rIxT K) (tVar 3) (tVar 6))))) rfl sc_bezout.nd  (pi_range1 (by rfl) T.b_range (pa_cons pe_int pa_nil)) (blkOk_by (own := [("k", 6)]) (N := ["x", "y", "first", "second", "times", "rest", "k"]) (sc := defScope s_bezout) (by decide +kernel)) (fun _ _ _ _ _ => (pg_name (i := 6) sc_bezout.nd rfl (Or.inl rfl))) (fun _ _ _ _ _ => pts_nil) (fun _ _ _ _ _ => (pe_op op_sub (pe_ix ix_tup (pv 2) (pv 6) (fun _ _ => rfl)) (pe_op op_mulB (pv 4) (pe_ix ix_tup (pv 3) (pv 6) (fun _ _ => rfl)))))) pa_nil)))
      (pss_one (ps_asg (pe_tup (pa_cons (pv 3) (pa_cons (pv 5) pa_nil))) (pg_tup rfl (pgs_cons (pg_name (i := 2) sc_bezout.nd rfl (Or.inr rfl)) (pgs_cons (pg_name (i := 3) sc_bezout.nd rfl (Or.inr rfl)) pgs_nil))))))))
      (pss_one (ps_ret (pe_tup (pa_cons (pe_ix ix_tup (pv 2) pe_int (fun _ _ => rfl)) (pa_cons (pe_ix ix_tup (pv 2) pe_int (fun _ _ => rfl)) pa_nil)))))))), ?_⟩
    try dsimp only [cxOf]
    have Bv := Hv.start nt
    wtm_at "rs"
    rename_i p0 np0 p1 np1
    replace Bv := (Bv.newL (o := .tup [.int A, .int 1, .int 0]) np0).newL (o := .tup [.int B, .int 0, .int 1]) np1
    clear np0 np1
    refine Bv.gen fun G Bv => ?_
    refine rd_while (fun μ σ H' => ∃ (p0 p1 : Addr) (x0 x1 x2 y0 y1 y2 : Int) (v4 v5 v6 : Option V), μ = y0.toNat ∧ σ = [some (.int A), some (.int B), some (.ref p0), some (.ref p1), v4, v5, v6] ∧ Hv noX H [] [(p0, .tup [.int x0, .int x1, .int x2]), (p1, .tup [.int y0, .int y1, .int y2])] [] H' ∧ CombInv A B x0 x1 x2 y0 y1 y2) _
      ⟨p0, p1, A, 1, 0, B, 0, 1, none, none, none, rfl, rfl, Bv.sub (by wtm_at "vsub") (by wtm_at "vsub"), comb_start hA hB⟩ ?_
    clear Bv
    rintro μ σ H' ⟨p0, p1, x0, x1, x2, y0, y1, y2, v4, v5, v6, rfl, rfl, Bv, inv⟩
    have h0' : H' p0 = some (.tup [.int x0, .int x1, .int x2]) := Bv.lAt (by wtm_at "mem")
    have h1' : H' p1 = some (.tup [.int y0, .int y1, .int y2]) := Bv.lAt (by wtm_at "mem")
    wtm_at "rs"
    wtm_at "i"
    · rename_i h0
      obtain ⟨c1, c2, c3, b4⟩ := comb_bound inv hA hB h0
      have tn := comb_turn inv h0
      have lA := bA.lt
      have lB := bB.lt
      have b0 : Bd 1001 (x0 / y0) := Bd.of (by omega) (by omega)
      have b1 : Bd 1001 y0 := Bd.of (by omega) (by omega)
      have hm : ∀ z : Int, (x0 = 0 ∨ (-(A + B) ≤ z ∧ z ≤ A + B)) → CMulB (x0 / y0) z := fun z hz => by
        rcases hz with z0 | z1
        · rw [z0, Int.zero_ediv]
          exact Or.inl (Or.inl ⟨by omega, by omega⟩)
        · exact CMulB.bd (b0.mono (by decide)) ((Bd.of (n := 1001) (by omega) (by omega)).mono (by decide))
      have hm0 := hm y0 (.inr ⟨by omega, by omega⟩)
      have hm1 := hm y1 (b4.imp id fun z => by omega)
      have hm2 := hm y2 (b4.imp id fun z => by omega)
      wtm_at "rs"
      generalize x0 / y0 = t at *
      refine rd_lcR (fun _ => true) (fun i => .int ([x0 - t * y0, x1 - t * y1, x2 - t * y2].getD i 0)) ?_ ?_
      · intro D i hD hi
        have hi3 : i = 0 ∨ i = 1 ∨ i = 2 := by
          have : i < 3 := hi
          omega
        rcases hi3 with rfl | rfl | rfl
        all_goals
          wtm_at "r"
          refine ⟨rfl, ?_⟩
          wtm_at "rs"
          exact put_R (by decide) rfl rfl
      · intro D hD
        replace Bv := Bv.newL (o := .lst [.int (x0 - t * y0), .int (x1 - t * y1), .int (x2 - t * y2)]) hD
        wtm_at "rs"
        refine rd_tupL (SqL.of (upd_same : upd H' D (.lst [.int (x0 - t * y0), .int (x1 - t * y1), .int (x2 - t * y2)]) D = _)) fun R hR => ?_
        replace Bv := Bv.newL (o := .tup [.int (x0 - t * y0), .int (x1 - t * y1), .int (x2 - t * y2)]) hR
        wtm_at "rs"
        rename_i P2 hP2
        replace Bv := Bv.newL (o := .tup [.ref p1, .ref R]) hP2
        exact ⟨_, tn.2, p1, R, y0, y1, y2, x0 - t * y0, x1 - t * y1, x2 - t * y2, _, _, _, rfl, rfl, Bv.sub (L' := [(p1, .tup [.int y0, .int y1, .int y2]), (R, .tup [.int (x0 - t * y0), .int (x1 - t * y1), .int (x2 - t * y2)])]) (by wtm_at "vsub") (by wtm_at "vsub"), tn.1⟩
    · rename_i h0
      have z : y0 = 0 := by
        have := inv.hy
        omega
      subst z
      have e0 : x0 = 1 := by
        have g := inv.g
        rw [Int.gcd_zero_right, hg] at g
        have := inv.hx
        omega
      subst e0
      have ex := inv.ex
      obtain ⟨s, u, v, u2, v2, hs, hu, hv, hu2, hv2, e1, e2, e3, e4, e5, e6, b1, b2, b0⟩ := inv.sg
      wtm_at "rs"
      rename_i R hR
      have sR := same_new (o := .tup [.int x1, .int x2]) hR
      refine q x1 x2 R _ ex.symm ?_ ?_ (Bv.same.trans sR) (NoT.upd Bv.nt rfl) (Bv.free hR) upd_same
      · rcases hs with rfl | rfl <;> omega
      · rcases hs with rfl | rfl <;> omega
/-! ### with_coprime_number -/
def spWCN (C : Addr) : Sp := fun vs H Q _ => ∃ (p : Addr) (f : Fm) (N : Int), vs = [.ref p, .int N] ∧ IsF C H p f ∧ Fm.bd 140 f ∧ f.ok ∧ PtB f N ∧ NoT H ∧ ∀ (g : Fm) t G, f.eqv g → g.ok → Int.gcd g.a N = 1 → Fm.bd 280 g → Same H G → NoT G → H t = none → IsF C G t g → Q (.ref t) G
theorem use_WCN {C : Addr} {p : Addr} {f : Fm} {N : Int} {H : Hp} {Q : VK} {E : XK} (h : IsF C H p f) (hb : Fm.bd 140 f) (fo : f.ok) (fp : PtB f N) (nt : NoT H) (q : ∀ (g : Fm) t G, f.eqv g → g.ok → Int.gcd g.a N = 1 → Fm.bd 280 g → Same H G → NoT G → H t = none → IsF C G t g → Q (.ref t) G) : spWCN C [.ref p, .int N] H Q E := ⟨p, f, N, rfl, h, hb, fo, fp, nt, q⟩
theorem ok_with_coprime_number (T : Txt K mg Ad) : Def P w K mg base 5 "with_coprime_number" ["form", "a"] (spWCN Ad.c_Form) := by
  refine T.d_with_coprime_number.ok sc_with_coprime_number (fun vs H Q E h => ?_) (fun f cdv A outer s H vs Q E hr h => ?_)
  · obtain ⟨p, f, N, rfl, _⟩ := h
    rfl
  · obtain ⟨p, f, N, rfl, hp, fb, fo, fp, nt, q⟩ := h
    refine ⟨_, (pss_cons (ps_asg (pe_d (ok_coprime_point T) (hr.mono (by decide)) (passes_call (takes_of rfl rfl rfl rfl) (fun _ _ _ _ h => h)) (pa_cons (pv 0) (pa_cons (pv 1) pa_nil))) (pg_tup rfl (pgs_cons (pg_name (i := 2) sc_with_coprime_number.nd rfl (Or.inl rfl)) (pgs_cons (pg_name (i := 3) sc_with_coprime_number.nd rfl (Or.inl rfl)) pgs_nil))))
      (pss_cons (ps_asg (pe_d (ok_bezout T) (hr.mono (by decide)) (passes_call (takes_of rfl rfl rfl rfl) (fun _ _ _ _ h => h)) (pa_cons (pv 2) (pa_cons (pv 3) pa_nil))) (pg_tup rfl (pgs_cons (pg_name (i := 4) sc_with_coprime_number.nd rfl (Or.inl rfl)) (pgs_cons (pg_name (i := 5) sc_with_coprime_number.nd rfl (Or.inl rfl)) pgs_nil))))
      (pss_cons (ps_set (i := 6) sc_with_coprime_number.nd rfl (Or.inl rfl) (pe_un un_neg (pv 5)))
      (pss_cons (ps_set (i := 7) sc_with_coprime_number.nd rfl (Or.inl rfl) (pe_op op_add (pe_op op_add (pe_op op_mulB (pe_op op_mulB (pe_op op_mulB pe_int (pe_fldC (pv 0) T.cl_Form T.nf_Form_a)) (pv 2)) (pv 6)) (pe_op op_mulB (pe_fldC (pv 0) T.cl_Form T.nf_Form_b) (pe_op op_add (pe_op op_mulB (pv 2) (pv 4)) (pe_op op_mulB (pv 3) (pv 6))))) (pe_op op_mulB (pe_op op_mulB (pe_op op_mulB pe_int (pe_fldC (pv 0) T.cl_Form T.nf_Form_c)) (pv 3)) (pv 4))))
      (pss_one (ps_ret (pe_mkd (ok_Form_init T) (hr.mono (by decide)) (passes_call (takes_of rfl rfl rfl rfl) (fun _ _ _ _ h => h)) (pa_cons (pe_mcall (ok_Form_call T) T.fi_Form (pv 0) (hr.mono (by decide)) (passes_call (takes_of rfl rfl rfl rfl) (fun _ _ _ _ h => h)) (pa_cons (pv 2) (pa_cons (pv 3) pa_nil))) (pa_cons (pv 7) (pa_cons (pe_mcall (ok_Form_call T) T.fi_Form (pv 0) (hr.mono (by decide)) (passes_call (takes_of rfl rfl rfl rfl) (fun _ _ _ _ h => h)) (pa_cons (pv 6) (pa_cons (pv 4) pa_nil))) pa_nil)))))))))), ?_⟩
    try dsimp only [cxOf]
    have B := Hv.start nt
    obtain ⟨dp, hp'⟩ := id hp
    wtm_at "rs"
    refine use_CP hp fb fp nt fun x y t G x0 y0 bx by' gxy gN s1 n1 f1 ht => ?_
    replace B := B.next s1 n1
    wtm_at "rs"
    have lx := bx.lt
    have ly := by'.lt
    refine use_bez n1 x0 y0 (bx.mono (by decide)) (by'.mono (by decide)) gxy fun u v t2 G2 e bu bv s2 n2 f2 ht2 => ?_
    replace B := B.next s2 n2
    have bw : Bd 62 u := Bd.of (by omega) (by omega)
    have bz : Bd 62 (-v) := Bd.of (by omega) (by omega)
    have isf := hp.mono B.same
    obtain ⟨dq, hq⟩ := id isf
    obtain ⟨ba, bb, bc⟩ := id fb
    wtm_at "rs"
    refine use_FCall ⟨dq, hq⟩ (fb.mono (by decide)) (bx.mono (by decide)) (by'.mono (by decide)) ?_
    wtm_at "rs"
    refine use_FCall ⟨dq, hq⟩ (fb.mono (by decide)) (bz.mono (by decide)) (bw.mono (by decide)) ?_
    wtm_at "rs"
    have ef : f.act x (-v) y u = ⟨f.at x y, 2 * f.a * x * -v + f.b * (x * u + y * -v) + 2 * f.c * y * u, f.at (-v) u⟩ := Fm.ext' rfl (by simp only [Fm.act]; grind) rfl
    have ee : f.eqv (f.act x (-v) y u) := ⟨x, -v, y, u, by grind, rfl⟩
    have bp : Fm.bd 280 (f.act x (-v) y u) := by
      rw [ef]
      have q1 : ∀ {s t : Int}, Bd 62 s → Bd 62 t → Bd 270 (f.at s t) := fun {s t} hs ht => by
        unfold Fm.at
        exact ((((ba.mul hs).mul hs).add ((bb.mul hs).mul ht)).add ((bc.mul ht).mul ht)).mono (by decide)
      refine ⟨(q1 (bx.mono (by decide)) (by'.mono (by decide))).mono (by decide), ?_, (q1 bz bw).mono (by decide)⟩
      have h2 : Bd 2 2 := ⟨by decide⟩
      exact (((((h2.mul ba).mul bx).mul bz).add (bb.mul ((bx.mul bw).add (by'.mul bz)))).add (((h2.mul bc).mul by').mul bw)).mono (by decide)
    exact use_FI (f := f.act x (-v) y u) ef (bp.mono (by decide)) (ee.ok fo) B.nt fun z G3 s3 n3 f3 i3 => q _ z G3 ee (ee.ok fo) (by rw [ef]; exact gN) bp (B.same.trans s3) n3 (B.free f3) i3
/-! ### inverse_rest -/
def spInvR : Sp := fun vs H Q _ => ∃ a f : Int, vs = [.int a, .int f] ∧ NoT H ∧ 1 ≤ f ∧ Bd 1000 f ∧ Int.gcd a f = 1 ∧ ∀ (r : Int) G, 0 ≤ r → r < f → f ∣ a * r - 1 → Same H G → NoT G → Q (.int r) G
theorem use_invR {a f : Int} {H : Hp} {Q : VK} {E : XK} (nt : NoT H) (f1 : 1 ≤ f) (bf : Bd 1000 f) (g : Int.gcd a f = 1) (q : ∀ (r : Int) G, 0 ≤ r → r < f → f ∣ a * r - 1 → Same H G → NoT G → Q (.int r) G) : spInvR [.int a, .int f] H Q E := ⟨a, f, rfl, nt, f1, bf, g, q⟩
theorem ok_inverse_rest (T : Txt K mg Ad) : Def P w K mg base 2 "inverse_rest" ["a", "f"] spInvR := by
  refine T.d_inverse_rest.ok sc_inverse_rest (fun vs H Q E h => ?_) (fun f cdv A outer s H vs Q E hr h => ?_)
  · obtain ⟨a, f, rfl, _⟩ := h
    rfl
  · obtain ⟨a, f, rfl, nt, f1, bf, hg, q⟩ := h
    refine ⟨_, (pss_one (ps_ret (pe_op op_mod (pe_ix ix_tup (pe_d (ok_bezout T) (hr.mono (by decide)) (passes_call (takes_of rfl rfl rfl rfl) (fun _ _ _ _ h => h)) (pa_cons (pe_op op_mod (pv 0) (pv 1)) (pa_cons (pv 1) pa_nil))) pe_int (fun _ _ => rfl)) (pv 1)))), ?_⟩
    try dsimp only [cxOf]
    have m0 := Int.emod_nonneg a (show f ≠ 0 by omega)
    have m1 := Int.emod_lt_of_pos a (show 0 < f by omega)
    have lf := bf.lt
    wtm_at "rs"
    refine use_bez nt m0 (by omega) (Bd.of (by omega) (by omega)) bf (by rw [QR.cop_emod]; exact hg) fun u v t G e b1 b2 s1 n1 ht hG => ?_
    wtm_at "rs"
    refine q (u % f) G (Int.emod_nonneg _ (by omega)) (Int.emod_lt_of_pos _ (by omega)) ?_ s1 n1
    have d1 : f ∣ a - a % f := QR.dvd_sub_emod ..
    have d2 : f ∣ u - u % f := QR.dvd_sub_emod ..
    obtain ⟨c1, h1⟩ := d1
    obtain ⟨c2, h2⟩ := d2
    exact ⟨u * c1 - a * c2 - v, by grind⟩
/-! ### Form.next_step -/
def spFNext (C : Addr) : Sp := fun vs H Q E => ∃ (p : Addr) (f : Fm), vs = [.ref p] ∧ IsF C H p f ∧ f.ok ∧ Fm.bd 1080 f ∧ Q (vOpt f.nx) H
theorem ok_Form_next_step (T : Txt K mg Ad) : MDef P w K mg base 1 Ad.c_Form "next_step" ["self"] (spFNext Ad.c_Form) := by
  refine T.d_Form_next_step.ok sc_Form_next_step (fun vs H Q E h => ?_) (fun f cdv A outer s H vs Q E hr h => ?_)
  · obtain ⟨p, f, rfl, _⟩ := h
    rfl
  · obtain ⟨p, f, rfl, ⟨dx, hp⟩, ho, ⟨ba, bb, bc⟩, q⟩ := h
    have la := ba.lt
    have h1 := ho.1
    refine ⟨_, (pss_cons (ps_if (pt_not (pt_chain op_lt op_le (pe_un un_neg (pe_fldC (pv 0) T.cl_Form T.nf_Form_a)) (pe_fldC (pv 0) T.cl_Form T.nf_Form_b) (pe_fldC (pv 0) T.cl_Form T.nf_Form_a))) (pss_one (ps_ret (pe_op op_fdivB (pe_op op_sub (pe_fldC (pv 0) T.cl_Form T.nf_Form_a) (pe_fldC (pv 0) T.cl_Form T.nf_Form_b)) (pe_op op_mulB pe_int (pe_fldC (pv 0) T.cl_Form T.nf_Form_a))))) pss_nil)
      (pss_cons (ps_if (PW.pt (pw_or (pt_cmpR op_gt (pe_fldC (pv 0) T.cl_Form T.nf_Form_a) (pe_fldC (pv 0) T.cl_Form T.nf_Form_c) (nomark _)) (pw_or1 (PW.pt (pw_and (pt_cmpR op_eq (pe_fldC (pv 0) T.cl_Form T.nf_Form_a) (pe_fldC (pv 0) T.cl_Form T.nf_Form_c) (nomark _)) (pw_and1 (pt_cmpR op_lt (pe_fldC (pv 0) T.cl_Form T.nf_Form_b) pe_int (nomark _)))))))) (pss_one (ps_ret pe_int)) pss_nil)
      (pss_one (ps_ret pe_non)))), ?_⟩
    try dsimp only [cxOf]
    unfold Fm.nx at q
    wtm_at "ra"
    all_goals
      first
        | (rw [if_pos (by omega)] at q; exact q)
        | (rw [if_neg (by omega), if_pos (by omega)] at q; exact q)
        | (rw [if_neg (by omega), if_neg (by omega)] at q; exact q)
theorem use_FNext {C : Addr} {p : Addr} {f : Fm} {H : Hp} {Q : VK} {E : XK} (h : IsF C H p f) (ho : f.ok) (hb : Fm.bd 1080 f) (q : Q (vOpt f.nx) H) : spFNext C [.ref p] H Q E := ⟨p, f, rfl, h, ho, hb, q⟩
/-! ### Form.steps -/
def spFSteps (C : Addr) : Sp := fun vs H Q E => ∃ (p : Addr) (f : Fm), vs = [.ref p] ∧ IsF C H p f ∧ f.ok ∧ Fm.bd 1070 f ∧ (stepsF f).length ≤ 1000000 ∧ NoT H ∧ ∀ l H', Same H H' → NoT H' → H l = none → H' l = some (.lst ((stepsF f).map V.int)) → Q (.ref l) H'
theorem ok_Form_steps (T : Txt K mg Ad) : MDef P w K mg base 6 Ad.c_Form "steps" ["self"] (spFSteps Ad.c_Form) := by
  refine T.d_Form_steps.ok sc_Form_steps (fun vs H Q E h => ?_) (fun f cdv A outer s H vs Q E hr h => ?_)
  · obtain ⟨p, f, rfl, _⟩ := h
    rfl
  · obtain ⟨p, f, rfl, hp, ho, hb, hlen, nt, q⟩ := h
    refine ⟨_, (pss_cons (ps_set (i := 1) sc_Form_steps.nd rfl (Or.inl rfl) (pe_lst pa_nil))
      (pss_cons (ps_set (i := 2) sc_Form_steps.nd rfl (Or.inl rfl) (pv 0))
      (pss_cons (ps_set (i := 3) sc_Form_steps.nd rfl (Or.inl rfl) (pe_md0 (ok_Form_next_step T) (pv 2) T.cl_Form (hr.mono (by decide)) (passes_call (takes_of rfl rfl rfl rfl) (fun _ _ _ _ h => h))))
      (pss_cons (ps_while (passes_of rfl) (pt_cmpR op_notN (pv 3) pe_non (nomark _)) (pss_cons (ps_expr (pe_bm PySem.F.plainAttrs_list PySem.F.slot_list_append PySem.F.type_list_append mt_append (pv 1) (pa_cons (pv 3) pa_nil)))
      (pss_cons (ps_set (i := 2) sc_Form_steps.nd rfl (Or.inl rfl) (pe_md (ok_Form_stepped T) (pv 2) T.cl_Form (hr.mono (by decide)) (passes_call (takes_of rfl rfl rfl rfl) (fun _ _ _ _ h => h)) (pa_cons (pv 3) pa_nil)))
      (pss_one (ps_set (i := 3) sc_Form_steps.nd rfl (Or.inl rfl) (pe_md0 (ok_Form_next_step T) (pv 2) T.cl_Form (hr.mono (by decide)) (passes_call (takes_of rfl rfl rfl rfl) (fun _ _ _ _ h => h))))))))
      (pss_one (ps_ret (pv 1))))))), ?_⟩
    try dsimp only [cxOf]
    wtm_at "rs"
    rename_i l hl
    obtain ⟨dx, hp'⟩ := hp
    wtm_at "rs"
    refine use_FNext ⟨dx, by wtm_at "h"⟩ ho (hb.mono (by decide)) ?_
    wtm_at "rs"
    refine rd_while (fun μ σ H' => ∃ (x : Addr) (g : Fm) (xs : List Int), μ = g.mu ∧ σ = [some (.ref p), some (.ref l), some (.ref x), some (vOpt g.nx)] ∧ Same H H' ∧ NoT H' ∧ H' l = some (.lst (xs.map V.int)) ∧ IsF Ad.c_Form H' x g ∧ g.ok ∧ g.lo (2 ^ 1070) ∧ xs ++ stepsF g = stepsF f) _
      ⟨p, f, [], rfl, rfl, same_new hl, NoT.upd nt rfl, upd_same, ⟨dx, by wtm_at "h"⟩, ho, Fm.bd_lo hb, rfl⟩ ?_
    rintro μ σ H' ⟨x, g, xs, rfl, rfl, sm, nt', hl', ⟨dy, hx⟩, go, glo, hs⟩
    cases e : g.nx with
    | none =>
      rw [stepsF_none e, List.append_nil] at hs
      subst hs
      simp only [vOpt]
      wtm_at "rs"
      exact q l H' sm nt' hl hl'
    | some k =>
      have gb := Fm.lo_bd go glo
      have kb := Fm.nx_bd go gb e
      have xl : xs.length < 1000000 := by
        rw [stepsF_some go e] at hs
        have := congrArg List.length hs
        simp at this
        omega
      have xl' : (xs.map V.int).length < 1000000 := by rw [List.length_map]; exact xl
      simp only [vOpt]
      wtm_at "rs"
      have hx' : IsF Ad.c_Form (upd H' l (.lst (xs.map V.int ++ [.int k]))) x g := ⟨dy, by rw [upd_ne (ne_of hx hl' (by intro z; cases z))]; exact hx⟩
      obtain ⟨dz, hx''⟩ := id hx'
      wtm_at "rs"
      refine use_FStep hx' go (gb.mono (by decide)) (kb.mono (by decide)) (by wtm_at "nt") fun x2 H2 sm2 nt2 hn2 h2 => ?_
      wtm_at "rs"
      obtain ⟨dw, h2'⟩ := id h2
      wtm_at "rs"
      refine use_FNext h2 (go.st k) (Fm.bd.mono (Fm.lo_bd (go.st k) (Fm.lo_st go glo e)) (by decide)) ?_
      wtm_at "rs"
      refine ⟨_, Fm.mu_lt go e, x2, g.st k, xs ++ [k], rfl, rfl, ?_, nt2, ?_, h2, go.st k, Fm.lo_st go glo e, ?_⟩
      · exact (same_upd2 sm hl).trans sm2
      · rw [sm2 _ _ upd_same, List.map_append]
        rfl
      · rw [← hs, stepsF_some go e, List.append_assoc]
        rfl
theorem use_FSteps {C : Addr} {p : Addr} {f : Fm} {H : Hp} {Q : VK} {E : XK} (h : IsF C H p f) (ho : f.ok) (hb : Fm.bd 1070 f) (hl : (stepsF f).length ≤ 1000000) (nt : NoT H) (q : ∀ l H', Same H H' → NoT H' → H l = none → H' l = some (.lst ((stepsF f).map V.int)) → Q (.ref l) H') : spFSteps C [.ref p] H Q E := ⟨p, f, rfl, h, ho, hb, hl, nt, q⟩
/-! ### Form.reduced -/
def spFRed (C : Addr) : Sp := fun vs H Q E => ∃ (p : Addr) (f : Fm), vs = [.ref p] ∧ IsF C H p f ∧ f.ok ∧ Fm.bd 1070 f ∧ (stepsF f).length ≤ 1000000 ∧ NoT H ∧ ∀ x H', Same H H' → NoT H' → IsF C H' x (redF f) → Q (.ref x) H'
theorem ok_Form_reduced (T : Txt K mg Ad) : MDef P w K mg base 7 Ad.c_Form "reduced" ["self"] (spFRed Ad.c_Form) := by
  refine T.d_Form_reduced.ok sc_Form_reduced (fun vs H Q E h => ?_) (fun f cdv A outer s H vs Q E hr h => ?_)
  · obtain ⟨p, f, rfl, _⟩ := h
    rfl
  · obtain ⟨p, f, rfl, ⟨dx, hp⟩, ho, hb, hlen, nt, q⟩ := h
    refine ⟨_, (pss_one (ps_ret (pe_md (ok_Form_turned T) (pv 0) T.cl_Form (hr.mono (by decide)) (passes_call (takes_of rfl rfl rfl rfl) (fun _ _ _ _ h => h)) (pa_cons (pe_md0 (ok_Form_steps T) (pv 0) T.cl_Form (hr.mono (by decide)) (passes_call (takes_of rfl rfl rfl rfl) (fun _ _ _ _ h => h))) pa_nil)))), ?_⟩
    try dsimp only [cxOf]
    wtm_at "rs"
    refine use_FSteps ⟨dx, hp⟩ ho hb hlen nt fun l H' sm nt' hn hl => ?_
    wtm_at "rs"
    obtain ⟨g1, g2⟩ := stepsF_bd f.mu f ho (Nat.le_refl _) (Fm.bd_lo hb)
    exact use_FTurn (IsF.mono ⟨dx, hp⟩ sm) ho (SqL.of hl) (fun i hi => (g2 i hi).mono (by decide)) (fun k hk => (g1 k hk).mono (by decide)) nt' fun x H2 sm2 nt2 hx => q x H2 (sm.trans sm2) nt2 hx
theorem use_FRed {C : Addr} {p : Addr} {f : Fm} {H : Hp} {Q : VK} {E : XK} (h : IsF C H p f) (ho : f.ok) (hb : Fm.bd 1070 f) (hl : (stepsF f).length ≤ 1000000) (nt : NoT H) (q : ∀ x H', Same H H' → NoT H' → IsF C H' x (redF f) → Q (.ref x) H') : spFRed C [.ref p] H Q E := ⟨p, f, rfl, h, ho, hb, hl, nt, q⟩
/-! ### compose -/
def spCmp (C CE : Addr) : Sp := fun vs H Q E => ∃ (p q : Addr) (f g : Fm), vs = [.ref p, .ref q] ∧ IsF C H p f ∧ IsF C H q g ∧ Fm.bd 140 f ∧ Fm.bd 140 g ∧ f.ok ∧ g.ok ∧ NoT H ∧
  (f.D ≠ g.D → ∀ d H', Same H H' → NoT H' → H' d = none → E (.ref CE) (some d) (upd H' d (.xd [("c", .int g.c), ("b", .int g.b), ("a", .int g.a)]))) ∧
  (f.D = g.D → PtB g f.a ∧ ∀ (h : Fm) t G, f.cmp g h → h.red → h.ok → Same H G → NoT G → IsF C G t h → Q (.ref t) G)
theorem use_Cmp {C CE p q : Addr} {f g : Fm} {H : Hp} {Q : VK} {E : XK} (h1 : IsF C H p f) (h2 : IsF C H q g) (b1 : Fm.bd 140 f) (b2 : Fm.bd 140 g) (fo : f.ok) (go : g.ok) (nt : NoT H) (hD : f.D = g.D) (gp : PtB g f.a) (k : ∀ (h : Fm) t G, f.cmp g h → h.red → h.ok → Same H G → NoT G → IsF C G t h → Q (.ref t) G) : spCmp C CE [.ref p, .ref q] H Q E := ⟨p, q, f, g, rfl, h1, h2, b1, b2, fo, go, nt, fun z => absurd hD z, fun _ => ⟨gp, k⟩⟩
theorem ok_compose (T : Txt K mg Ad) : Def P w K mg base 8 "compose" ["first", "second"] (spCmp Ad.c_Form Ad.c_BadForm) := by
  refine T.d_compose.ok sc_compose (fun vs H Q E h => ?_) (fun f cdv A outer s H vs Q E hr h => ?_)
  · obtain ⟨p, q, f, g, rfl, _⟩ := h
    rfl
  · obtain ⟨p, q, f, g, rfl, hp, hq, fb, gb, fo, go, nt, qe, qo⟩ := h
    refine ⟨_, (pss_cons (ps_if (pt_cmpR op_ne (pe_fldC (pv 0) T.cl_Form T.nf_Form_discriminant) (pe_fldC (pv 1) T.cl_Form T.nf_Form_discriminant) (nomark _)) (pss_one (ps_raise rfl (takes_of rfl rfl rfl rfl) (pmk_err (T.err_BadForm) (hr.mono (by decide)) (pa_cons (pe_fldC (pv 1) T.cl_Form T.nf_Form_a) (pa_cons (pe_fldC (pv 1) T.cl_Form T.nf_Form_b) (pa_cons (pe_fldC (pv 1) T.cl_Form T.nf_Form_c) pa_nil)))))) pss_nil)
      (pss_cons (ps_par (i := 2) (j := 3) rfl sc_compose.nd rfl rfl (by decide) rfl rfl (pa_cons (pe_fldC (pv 0) T.cl_Form T.nf_Form_a) (pa_cons (pe_fldC (pv 0) T.cl_Form T.nf_Form_b) pa_nil)) (by rfl))
      (pss_cons (ps_set (i := 4) sc_compose.nd rfl (Or.inl rfl) (pe_d (ok_with_coprime_number T) (hr.mono (by decide)) (passes_call (takes_of rfl rfl rfl rfl) (fun _ _ _ _ h => h)) (pa_cons (pv 1) (pa_cons (pv 2) pa_nil))))
      (pss_cons (ps_set (i := 5) sc_compose.nd rfl (Or.inl rfl) pe_int)
      (C8.pss_cut (ps_if (pt_cmpR op_gt (pe_fldC (pv 4) T.cl_Form T.nf_Form_a) pe_int (nomark _)) (pss_one (ps_set (i := 5) sc_compose.nd rfl (Or.inl rfl) (pe_op op_mod (pe_op op_mulB (pe_op op_fdivB (pe_op op_sub (pe_fldC (pv 4) T.cl_Form T.nf_Form_b) (pv 3)) pe_int) (pe_d (ok_inverse_rest T) (hr.mono (by decide)) (passes_call (takes_of rfl rfl rfl rfl) (fun _ _ _ _ h => h)) (pa_cons (pv 2) (pa_cons (pe_fldC (pv 4) T.cl_Form T.nf_Form_a) pa_nil)))) (pe_fldC (pv 4) T.cl_Form T.nf_Form_a)))) pss_nil)
      (pss_cons (ps_set (i := 6) sc_compose.nd rfl (Or.inl rfl) (pe_op op_add (pv 3) (pe_op op_mulB (pe_op op_mulB pe_int (pv 2)) (pv 5))))
      (pss_cons (ps_set (i := 7) sc_compose.nd rfl (Or.inl rfl) (pe_op op_mulB (pv 2) (pe_fldC (pv 4) T.cl_Form T.nf_Form_a)))
      (pss_one (ps_ret (pe_md0 (ok_Form_reduced T) (pe_mkd (ok_Form_init T) (hr.mono (by decide)) (passes_call (takes_of rfl rfl rfl rfl) (fun _ _ _ _ h => h)) (pa_cons (pv 7) (pa_cons (pv 6) (pa_cons (pe_op op_fdivB (pe_op op_sub (pe_op op_mulB (pv 6) (pv 6)) (pe_fldC (pv 0) T.cl_Form T.nf_Form_discriminant)) (pe_op op_mulB pe_int (pv 7))) pa_nil)))) T.cl_Form (hr.mono (by decide)) (passes_call (takes_of rfl rfl rfl rfl) (fun _ _ _ _ h => h)))))))))))), ?_⟩
    try dsimp only [cxOf]
    have B := (Hv.start nt).rig hp.rig |>.rig hq.rig
    obtain ⟨dp, hp'⟩ := id hp
    obtain ⟨dq, hq'⟩ := id hq
    wtm_at "rs"
    by_cases hD : f.D = g.D
    · obtain ⟨gp, qo⟩ := qo hD
      rw [if_neg (by simp [hD])]
      wtm_at "rs"
      refine use_WCN hq gb go gp nt fun g1 q1 G eg g1o g1c g1b s1 n1 f1 i1 => ?_
      have lD : f.D = g1.D := hD.trans eg.D.symm
      have g1a := g1o.1
      have fa := fo.1
      replace B := (B.next s1 n1).rig i1.rig
      have hD2 : (2 : Int) ∣ g1.b - f.b := by
        have := Int.dvd_sub f.D_par g1.D_par
        rw [lD] at this
        rwa [show g1.D - f.b - (g1.D - g1.b) = g1.b - f.b by omega] at this
      obtain ⟨ba, bb, bc⟩ := id fb
      obtain ⟨ca, cb, cc⟩ := id g1b
      clear s1 n1 f1 i1 hp' hq'
      refine B.gen fun G B => ?_
      obtain ⟨d1, i1⟩ := B.zAt (P := fun G => IsF Ad.c_Form G q1 g1) (by wtm_at "mem")
      wtm_at "rs"
      refine rd_cut (fun σ2 G2 => ∃ t : Int, σ2 = [some (.ref p), some (.ref q), some (.int f.a), some (.int f.b), some (.ref q1), some (.int t), none, none] ∧ Hv noX H [] [] [fun G => IsF Ad.c_Form G q1 g1, fun G => IsF Ad.c_Form G q g, fun G => IsF Ad.c_Form G p f] G2 ∧ 2 * g1.a ∣ f.b + 2 * f.a * t - g1.b ∧ Bd 280 t) ?_ ?_
      · wtm_at "rs"
        by_cases ga2 : 1 < g1.a
        · rw [if_pos (decide_eq_true ga2)]
          have bq : Bd 300 ((g1.b - f.b) / 2) := ((cb.sub bb).div (by decide)).mono (by decide)
          wtm_at "rs"
          refine use_invR B.nt (by omega) (ca.mono (by decide)) (by rw [gcd_c]; exact g1c) fun r G2 r0 r1 hr s2 n2 => ?_
          replace B := B.next s2 n2
          obtain ⟨d1, i1⟩ := B.zAt (P := fun G => IsF Ad.c_Form G q1 g1) (by wtm_at "mem")
          have br : Bd 280 r := Bd.le ca (by omega)
          wtm_at "rs"
          have m0 := Int.emod_nonneg ((g1.b - f.b) / 2 * r) (show g1.a ≠ 0 by omega)
          have m1 := Int.emod_lt_of_pos ((g1.b - f.b) / 2 * r) (show 0 < g1.a by omega)
          exact ⟨_, rfl, B, mid_ok hD2 hr rfl, Bd.le ca (by omega)⟩
        · rw [if_neg (by rw [decide_eq_true_iff]; exact ga2)]
          wtm_at "rs"
          refine ⟨0, rfl, B, ?_, ⟨by decide⟩⟩
          obtain ⟨c, hc⟩ := hD2
          refine ⟨-c, ?_⟩
          have : g1.a = 1 := by omega
          rw [this]
          omega
      · clear B d1 i1
        rintro σ2 G ⟨t, rfl, B, ht, bt⟩
        obtain ⟨d1, i1⟩ := B.zAt (P := fun G => IsF Ad.c_Form G q1 g1) (by wtm_at "mem")
        obtain ⟨d2, i2⟩ := B.zAt (P := fun G => IsF Ad.c_Form G p f) (by wtm_at "mem")
        have wp : 0 < f.a * g1.a := Int.mul_pos (by omega) (by omega)
        have cm := Fm.compose_ok (B := f.b + 2 * f.a * t) fa g1a lD (by rw [gcd_c]; exact g1c) ⟨t, by grind⟩ ht
        have cm2 : f.cmp g _ := cm.congr (Fm.eqv.refl f) eg (Fm.eqv.refl _)
        have ho := cm.ok fo
        have bB : Bd 470 (f.b + 2 * f.a * t) := (bb.add ((Bd.mul (n := 2) ⟨by decide⟩ ba).mul bt)).mono (by decide)
        have bD : Bd 290 f.D := by
          unfold Fm.D
          exact ((bb.mul bb).sub ((Bd.mul (n := 3) ⟨by decide⟩ ba).mul bc)).mono (by decide)
        have hb : Fm.bd 1000 ⟨f.a * g1.a, f.b + 2 * f.a * t, ((f.b + 2 * f.a * t) * (f.b + 2 * f.a * t) - f.D) / (4 * (f.a * g1.a))⟩ := ⟨(ba.mul ca).mono (by decide), bB.mono (by decide), (((bB.mul bB).sub bD).div (by omega)).mono (by decide)⟩
        wtm_at "rs"
        refine use_FI rfl (hb.mono (by decide)) ho B.nt fun x G2 s2 n2 f2 i2 => ?_
        replace B := B.next s2 n2
        obtain ⟨dx, i3⟩ := id i2
        wtm_at "rs"
        refine use_FRed i2 ho (hb.mono (by decide)) (Nat.le_trans (len_any ho (n := 1000) hb.1.lt.2) (by decide)) B.nt fun y G3 s3 n3 i4 => ?_
        exact qo _ y G3 (cm2.congr (Fm.eqv.refl f) (Fm.eqv.refl g) (redF_eqv _).symm) (redF_red _ _ ho (Nat.le_refl _)) ((redF_eqv _).ok ho) (B.same.trans s3) n3 i4
    · rw [if_pos (by simp [hD])]
      wtm_at "rs"
      exact fun d hd => qe hD d H (Same.refl _) nt hd
/-- a form that may be multiplied -/
structure Mul (d : Int) (f : Fm) : Prop where
  cl : Cl d f
  d0 : -1000 ≤ d
  bd : Fm.bd 130 f
  lo : f.a < 2 ^ 122
theorem Mul.red {d : Int} {f : Fm} (F : Cl d f) (d0 : -1000 ≤ d) (r : f.red) : Mul d f := by
  obtain ⟨s1, s2, s3, s4, s5⟩ := rf_small F.neg d0 ((mem_cl F.neg d0).mpr ⟨F, r⟩)
  have := F.ok.1
  exact ⟨F, d0, ⟨Bd.of (by omega) (by omega), Bd.of (by omega) (by omega), Bd.of (by omega) (by omega)⟩, by omega⟩
theorem Mul.pt {d : Int} {f g : Fm} (F : Mul d f) (G : Mul d g) : PtB g f.a := by
  have := F.cl.ok.1
  have := F.lo
  exact ptB_122 G.cl.pr (by omega) (by omega)
theorem use_CmpM {C CE p q : Addr} {d : Int} {f g : Fm} {H : Hp} {Q : VK} {E : XK} (h1 : IsF C H p f) (h2 : IsF C H q g) (F : Mul d f) (G : Mul d g) (nt : NoT H) (k : ∀ t G, Mul d (mulF f g) → Same H G → NoT G → IsF C G t (mulF f g) → Q (.ref t) G) : spCmp C CE [.ref p, .ref q] H Q E :=
  use_Cmp h1 h2 (F.bd.mono (by decide)) (G.bd.mono (by decide)) F.cl.ok G.cl.ok nt (F.cl.D.trans G.cl.D.symm) (F.pt G) fun h t G2 c hr ho s n i => by
    have e := F.cl.mul_eq G.cl c ho hr
    subst e
    exact k t G2 (Mul.red (F.cl.mulC G.cl) F.d0 hr) s n i
theorem great_mul {d : Int} {f : Fm} (C1 : Cl d f) (d0 : -1000 ≤ d) (bs : Fm.bd 21 f) {K : Int} (k0 : 1 ≤ K) (k1 : K < 2 ^ 50) : Mul d (f.turn [K, 0]) ∧ ∀ i, i ≤ 2 → Fm.bd 1090 (f.turn ([K, 0].take i)) := by
  obtain ⟨ba, bb, bc⟩ := id bs
  have bK : Bd 50 K := Bd.of (by omega) k1
  have e1 : f.st K = ⟨f.a, f.b + 2 * f.a * K, f.a * K * K + f.b * K + f.c⟩ := Fm.st_ne (by omega)
  have e2 : f.turn [K, 0] = ⟨f.a * K * K + f.b * K + f.c, -(f.b + 2 * f.a * K), f.a⟩ := by
    show (f.st K).st 0 = _
    rw [Fm.st_zero, e1]
  have b1 : Bd 121 (f.a * K * K) := (ba.mul bK).mul bK
  have b2 : Bd 71 (f.b * K) := bb.mul bK
  have b3 : Bd 75 (f.b + 2 * f.a * K) := (bb.add ((Bd.mul (n := 2) ⟨by decide⟩ ba).mul bK)).mono (by decide)
  have b4 : Bd 125 (f.a * K * K + f.b * K + f.c) := ((b1.add b2).add bc).mono (by decide)
  refine ⟨⟨C1.eqv (Fm.turn_eqv f _), d0, ?_, ?_⟩, fun i hi => ?_⟩
  · rw [e2]
    exact ⟨b4.mono (by decide), b3.neg.mono (by decide), ba.mono (by decide)⟩
  · rw [e2]
    have := b1.lt
    have := b2.lt
    have := bc.lt
    dsimp only
    omega
  · rcases (show i = 0 ∨ i = 1 ∨ i = 2 by omega) with z | z | z
    · rw [z]
      exact bs.mono (by decide)
    · rw [z, show f.turn ([K, 0].take 1) = f.st K from rfl, e1]
      exact ⟨ba.mono (by decide), b3.mono (by decide), b4.mono (by decide)⟩
    · rw [z, show [K, 0].take 2 = [K, 0] from rfl, e2]
      exact ⟨b4.mono (by decide), b3.neg.mono (by decide), ba.mono (by decide)⟩
/-! ### main_form -/
def spMF (C : Addr) : Sp := fun vs H Q _ => ∃ d : Int, vs = [.int d] ∧ d < 0 ∧ (d % 4 = 0 ∨ d % 4 = 1) ∧ -(2 ^ 300) < d ∧ NoT H ∧ ∀ x G, Same H G → NoT G → H x = none → IsF C G x (mainF d) → Q (.ref x) G
theorem use_MF {C : Addr} {d : Int} {H : Hp} {Q : VK} {E : XK} (d1 : d < 0) (d4 : d % 4 = 0 ∨ d % 4 = 1) (d0 : -(2 ^ 300) < d) (nt : NoT H) (q : ∀ x G, Same H G → NoT G → H x = none → IsF C G x (mainF d) → Q (.ref x) G) : spMF C [.int d] H Q E := ⟨d, rfl, d1, d4, d0, nt, q⟩
theorem ok_main_form (T : Txt K mg Ad) : Def P w K mg base 5 "main_form" ["d"] (spMF Ad.c_Form) := by
  refine T.d_main_form.ok sc_main_form (fun vs H Q E h => ?_) (fun f cdv A outer s H vs Q E hr h => ?_)
  · obtain ⟨d, rfl, _⟩ := h
    rfl
  · obtain ⟨d, rfl, d1, d4, d0, nt, q⟩ := h
    refine ⟨_, (pss_cons (ps_if (pt_cmpR op_eq (pe_op op_mod (pv 0) pe_int) pe_int (nomark _)) (pss_one (ps_ret (pe_mkd (ok_Form_init T) (hr.mono (by decide)) (passes_call (takes_of rfl rfl rfl rfl) (fun _ _ _ _ h => h)) (pa_cons pe_int (pa_cons pe_int (pa_cons (pe_op op_fdivB (pe_un un_neg (pv 0)) pe_int) pa_nil)))))) pss_nil)
      (pss_one (ps_ret (pe_mkd (ok_Form_init T) (hr.mono (by decide)) (passes_call (takes_of rfl rfl rfl rfl) (fun _ _ _ _ h => h)) (pa_cons pe_int (pa_cons pe_int (pa_cons (pe_op op_fdivB (pe_op op_sub pe_int (pv 0)) pe_int) pa_nil))))))), ?_⟩
    try dsimp only [cxOf]
    have ok := mainF_ok d1 d4
    have bd : Fm.bd 302 (mainF d) := by
      unfold mainF
      split
      · exact ⟨Bd.mono (n := 1) ⟨by simp⟩ (by decide), Bd.mono (n := 1) ⟨by simp⟩ (by decide), Bd.of (by dsimp only; omega) (by dsimp only; omega)⟩
      · exact ⟨Bd.mono (n := 1) ⟨by simp⟩ (by decide), Bd.mono (n := 1) ⟨by simp⟩ (by decide), Bd.of (by dsimp only; omega) (by dsimp only; omega)⟩
    wtm_at "rs"
    by_cases z : d % 4 = 0
    · refine rd_eqT z ?_
      wtm_at "rs"
      exact use_FI (f := mainF d) (by unfold mainF; rw [if_pos z]) (bd.mono (by decide)) ok nt q
    · refine rd_eqF z ?_
      wtm_at "rs"
      exact use_FI (f := mainF d) (by unfold mainF; rw [if_neg z]) (bd.mono (by decide)) ok nt q
/-! ### opposite -/
def spOpp (C : Addr) : Sp := fun vs H Q _ => ∃ (p : Addr) (f : Fm), vs = [.ref p] ∧ IsF C H p f ∧ f.ok ∧ Fm.bd 1000 f ∧ NoT H ∧ ∀ x G, Same H G → NoT G → IsF C G x (redF f.opp) → Q (.ref x) G
theorem use_Opp {C p : Addr} {f : Fm} {H : Hp} {Q : VK} {E : XK} (h : IsF C H p f) (fo : f.ok) (fb : Fm.bd 1000 f) (nt : NoT H) (q : ∀ x G, Same H G → NoT G → IsF C G x (redF f.opp) → Q (.ref x) G) : spOpp C [.ref p] H Q E := ⟨p, f, rfl, h, fo, fb, nt, q⟩
theorem ok_opposite (T : Txt K mg Ad) : Def P w K mg base 8 "opposite" ["form"] (spOpp Ad.c_Form) := by
  refine T.d_opposite.ok sc_opposite (fun vs H Q E h => ?_) (fun f cdv A outer s H vs Q E hr h => ?_)
  · obtain ⟨p, f, rfl, _⟩ := h
    rfl
  · obtain ⟨p, f, rfl, hp, fo, fb, nt, q⟩ := h
    refine ⟨_, (pss_one (ps_ret (pe_md0 (ok_Form_reduced T) (pe_mkd (ok_Form_init T) (hr.mono (by decide)) (passes_call (takes_of rfl rfl rfl rfl) (fun _ _ _ _ h => h)) (pa_cons (pe_fldC (pv 0) T.cl_Form T.nf_Form_a) (pa_cons (pe_un un_neg (pe_fldC (pv 0) T.cl_Form T.nf_Form_b)) (pa_cons (pe_fldC (pv 0) T.cl_Form T.nf_Form_c) pa_nil)))) T.cl_Form (hr.mono (by decide)) (passes_call (takes_of rfl rfl rfl rfl) (fun _ _ _ _ h => h))))), ?_⟩
    try dsimp only [cxOf]
    obtain ⟨dp, hp'⟩ := id hp
    obtain ⟨ba, bb, bc⟩ := id fb
    have ob : Fm.bd 1000 f.opp := ⟨ba, bb.neg, bc⟩
    have oo := fo.opp
    wtm_at "rs"
    refine use_FI (f := f.opp) rfl (ob.mono (by decide)) oo nt fun x G s1 n1 f1 i1 => ?_
    obtain ⟨dx, i2⟩ := id i1
    wtm_at "rs"
    exact use_FRed i1 oo (ob.mono (by decide)) (Nat.le_trans (len_any oo (n := 1000) ba.lt.2) (by decide)) n1 fun y G2 s2 n2 i3 => q y G2 (s1.trans s2) n2 i3
/-! ### _law_pool -/
def spPool : Sp := fun vs H Q _ => ∃ n : Int, vs = [.int n] ∧ ∀ p, H p = none → Q (.ref p) (upd H p (.lst [.int n, .int 0, .bl (decide (10 ^ 18 ≤ n))]))
theorem ok_law_pool (T : Txt K mg Ad) : Def P w K mg base 1 "_law_pool" ["_law_cell_here"] spPool := by
  refine T.d_law_pool.ok sc_law_pool (fun vs H Q E h => ?_) (fun f cdv A outer s H vs Q E hr h => ?_)
  · obtain ⟨n, rfl, _⟩ := h
    rfl
  · obtain ⟨n, rfl, q⟩ := h
    refine ⟨_, (pss_one (ps_ret (pe_lst (pa_cons (pv 0) (pa_cons pe_int (pa_cons (pe_cmpR op_ge (pv 0) (pe_op (op_powN 18) pe_int pe_int) (nomark _)) pa_nil)))))), ?_⟩
    try dsimp only [cxOf]
    wtm_at "rs"
    exact q _ (by assumption)
theorem use_pool {n : Int} {H : Hp} {Q : VK} {E : XK} (q : ∀ p, H p = none → Q (.ref p) (upd H p (.lst [.int n, .int 0, .bl (decide (10 ^ 18 ≤ n))]))) : spPool [.int n] H Q E := ⟨n, rfl, q⟩
local macro_rules | `(tactic| wtm_at "s") => `(tactic| ((with_reducible refine use_pool ?_); intro p hp))
/-! ### _law_turning -/
def spLTrn : Sp := fun vs H Q _ => ∃ x y : Nat, vs = [.int (x : Int), .int (y : Int)] ∧ x < 12 ∧ y < 12 ∧ Int.gcd (x : Int) (y : Int) = 1 ∧ ∀ (z w : Int) L, -12 ≤ z → z ≤ 12 → -12 ≤ w → w ≤ 12 → x * w - y * z = 1 → H L = none → Q (.ref L) (upd H L (.lst [.int z, .int w]))
theorem ok_law_turning (T : Txt K mg Ad) : Def P w K mg base 1 "_law_turning" ["_law_x", "_law_y"] spLTrn := by
  refine T.d_law_turning.ok sc_law_turning (fun vs H Q E h => ?_) (fun f cdv A outer s H vs Q E hr h => ?_)
  · obtain ⟨x, y, rfl, _⟩ := h
    rfl
  · obtain ⟨x, y, rfl, x12, y12, g, q⟩ := h
    refine ⟨_, (pss_cons (ps_for (passes_of rfl) rfl (pi_range2 (by rfl) T.b_range (pa_cons (pe_un un_neg pe_int) (pa_cons pe_int pa_nil))) (pg_name (i := 2) sc_law_turning.nd rfl (Or.inl rfl)) (pss_one (ps_for (passes_of rfl) rfl (pi_range2 (by rfl) T.b_range (pa_cons (pe_un un_neg pe_int) (pa_cons pe_int pa_nil))) (pg_name (i := 3) sc_law_turning.nd rfl (Or.inl rfl)) (pss_one (ps_if (pt_cmpR op_eq (pe_op op_sub (pe_op op_mulB (pv 0) (pv 3)) (pe_op op_mulB (pv 1) (pv 2))) pe_int (nomark _)) (pss_one (ps_ret (pe_lst (pa_cons (pv 2) (pa_cons (pv 3) pa_nil))))) pss_nil)))))
      (pss_one (ps_ret (pe_lst (pa_cons pe_int (pa_cons pe_int pa_nil)))))), ?_⟩
    try dsimp only [cxOf]
    obtain ⟨z0, w0, hz0, hw0, e0⟩ := tw12_ex x12 y12 g
    wtm_at "rs"
    refine rd_forRs (fun i σ => ∃ v2 v3 : Option V, σ = [some (.int (x : Int)), some (.int (y : Int)), v2, v3] ∧ i ≤ z0) ⟨_, _, rfl, Nat.zero_le _⟩ ?_ ?_
    · rintro i σ hi ⟨v2, v3, rfl, iz⟩
      wtm_at "rs"
      refine rd_forRs (fun j σ => ∃ v3 : Option V, σ = [some (.int (x : Int)), some (.int (y : Int)), some (.int (-12 + (i : Int))), v3] ∧ ∀ j' : Nat, j' < j → (x : Int) * (-12 + (j' : Int)) - y * (-12 + (i : Int)) ≠ 1) ⟨_, rfl, fun j' h => absurd h (Nat.not_lt_zero _)⟩ ?_ ?_
      · rintro j σ hj ⟨v3, rfl, no⟩
        have bx : Bd 10 (x : Int) := Bd.of (by omega) (by omega)
        have by' : Bd 10 (y : Int) := Bd.of (by omega) (by omega)
        have bi : Bd 10 (-12 + (i : Int)) := Bd.of (by omega) (by omega)
        have bj : Bd 10 (-12 + (j : Int)) := Bd.of (by omega) (by omega)
        wtm_at "rs"
        by_cases e : (x : Int) * (-12 + (j : Int)) - y * (-12 + (i : Int)) = 1
        · refine rd_eqT e ?_
          wtm_at "rs"
          rename_i L hL
          exact q _ _ L (by omega) (by omega) (by omega) (by omega) e hL
        · refine rd_eqF e ?_
          wtm_at "rs"
          refine ⟨rfl, _, rfl, fun j' h => ?_⟩
          rcases Nat.lt_or_ge j' j with z | z
          · exact no j' z
          · rw [show j' = j by omega]
            exact e
      · rintro σ ⟨v3, rfl, no⟩
        wtm_at "rs"
        refine ⟨rfl, _, _, rfl, ?_⟩
        have : i ≠ z0 := fun z => no w0 hw0 (by rw [z]; exact e0)
        omega
    · rintro σ ⟨v2, v3, rfl, iz⟩
      have : (13 - -12 : Int).toNat ≤ z0 := iz
      omega
/-! ### _law_with_coprime -/
def spLWC (K : PySem.W.Frag) : Sp := fun vs H Q _ => ∃ (l : Addr) (g : Fm) (n : Int), vs = [.ref l, .int n] ∧ SqL K H l [.int g.a, .int g.b, .int g.c] ∧ g.ok ∧ g.prim ∧ Fm.bd 10 g ∧ 1 ≤ n ∧ n ≤ 18 ∧ NoT H ∧ ∀ (k : Fm) L G, g.eqv k → Int.gcd k.a n = 1 → 1 ≤ k.a → Fm.bd 30 k → Same H G → NoT G → H L = none → G L = some (.lst [.int k.a, .int k.b]) → Q (.ref L) G
theorem ok_law_with_coprime (T : Txt K mg Ad) : Def P w K mg base 2 "_law_with_coprime" ["_law_row_here", "_law_number"] (spLWC K) := by
  refine T.d_law_with_coprime.ok sc_law_with_coprime (fun vs H Q E h => ?_) (fun f cdv A outer s H vs Q E hr h => ?_)
  · obtain ⟨l, g, n, rfl, _⟩ := h
    rfl
  · obtain ⟨l, g, n, rfl, hl, go, gp, gb, n1, n2, nt, q⟩ := h
    refine ⟨_, (pss_cons (ps_asg (pv 0) (pg_unl rfl (pgs_cons (pg_name (i := 2) sc_law_with_coprime.nd rfl (Or.inl rfl)) (pgs_cons (pg_name (i := 3) sc_law_with_coprime.nd rfl (Or.inl rfl)) (pgs_cons (pg_name (i := 4) sc_law_with_coprime.nd rfl (Or.inl rfl)) pgs_nil)))))
      (pss_cons (ps_for (passes_of rfl) rfl (pi_range1 (by rfl) T.b_range (pa_cons pe_int pa_nil)) (pg_name (i := 5) sc_law_with_coprime.nd rfl (Or.inl rfl)) (pss_one (ps_for (passes_of rfl) rfl (pi_range1 (by rfl) T.b_range (pa_cons pe_int pa_nil)) (pg_name (i := 6) sc_law_with_coprime.nd rfl (Or.inl rfl)) (pss_cons (ps_set (i := 7) sc_law_with_coprime.nd rfl (Or.inl rfl) (pe_op op_add (pe_op op_add (pe_op op_mulB (pe_op op_mulB (pv 2) (pv 5)) (pv 5)) (pe_op op_mulB (pe_op op_mulB (pv 3) (pv 5)) (pv 6))) (pe_op op_mulB (pe_op op_mulB (pv 4) (pv 6)) (pv 6))))
      (pss_one (ps_if (PW.pt (pw_and (pt_cmpR op_eq (pe_d (ok_law_common T) (hr.mono (by decide)) (passes_call (takes_of rfl rfl rfl rfl) (fun _ _ _ _ h => h)) (pa_cons (pv 5) (pa_cons (pv 6) pa_nil))) pe_int (nomark _)) (pw_and1 (pt_cmpR op_eq (pe_d (ok_law_common T) (hr.mono (by decide)) (passes_call (takes_of rfl rfl rfl rfl) (fun _ _ _ _ h => h)) (pa_cons (pv 7) (pa_cons (pv 1) pa_nil))) pe_int (nomark _))))) (pss_cons (ps_asg (pe_d (ok_law_turning T) (hr.mono (by decide)) (passes_call (takes_of rfl rfl rfl rfl) (fun _ _ _ _ h => h)) (pa_cons (pv 5) (pa_cons (pv 6) pa_nil))) (pg_unl rfl (pgs_cons (pg_name (i := 8) sc_law_with_coprime.nd rfl (Or.inl rfl)) (pgs_cons (pg_name (i := 9) sc_law_with_coprime.nd rfl (Or.inl rfl)) pgs_nil))))
      (pss_cons (ps_set (i := 10) sc_law_with_coprime.nd rfl (Or.inl rfl) (pe_op op_mulB (pv 3) (pe_op op_add (pe_op op_mulB (pv 5) (pv 9)) (pe_op op_mulB (pv 6) (pv 8)))))
      (pss_one (ps_ret (pe_lst (pa_cons (pv 7) (pa_cons (pe_op op_add (pe_op op_add (pe_op op_mulB (pe_op op_mulB (pe_op op_mulB pe_int (pv 2)) (pv 5)) (pv 8)) (pv 10)) (pe_op op_mulB (pe_op op_mulB (pe_op op_mulB pe_int (pv 4)) (pv 6)) (pv 9))) pa_nil))))))) pss_nil))))))
      (pss_one (ps_ret pe_non)))), ?_⟩
    try dsimp only [cxOf]
    obtain ⟨x0, y0, hx0, hy0, gxy, gv⟩ := pt12_ex gp n1 n2
    obtain ⟨ba, bb, bc⟩ := id gb
    wtm_at "rs"
    refine rd_forRs (fun i σ => ∃ v5 v6 v7 v8 v9 v10 : Option V, σ = [some (.ref l), some (.int n), some (.int g.a), some (.int g.b), some (.int g.c), v5, v6, v7, v8, v9, v10] ∧ i ≤ x0) ⟨_, _, _, _, _, _, rfl, Nat.zero_le _⟩ ?_ ?_
    · rintro i σ hi ⟨v5, v6, v7, v8, v9, v10, rfl, ix⟩
      wtm_at "rs"
      refine rd_forRs (fun j σ => ∃ v6 v7 v8 v9 v10 : Option V, σ = [some (.ref l), some (.int n), some (.int g.a), some (.int g.b), some (.int g.c), some (.int (0 + (i : Int))), v6, v7, v8, v9, v10] ∧ ∀ j' : Nat, j' < j → ¬ (Int.gcd (i : Int) (j' : Int) = 1 ∧ Int.gcd (g.at i j') n = 1)) ⟨_, _, _, _, _, rfl, fun j' h => absurd h (Nat.not_lt_zero _)⟩ ?_ ?_
      · rintro j σ hj ⟨v6, v7, v8, v9, v10, rfl, no⟩
        have ei : (0 : Int) + (i : Int) = i := by omega
        have ej : (0 : Int) + (j : Int) = j := by omega
        rw [ei, ej]
        have bi : Bd 4 (i : Int) := Bd.of (by omega) (by omega)
        have bj : Bd 4 (j : Int) := Bd.of (by omega) (by omega)
        have step : ¬ (Int.gcd (i : Int) (j : Int) = 1 ∧ Int.gcd (g.at i j) n = 1) → ∀ j' : Nat, j' < j + 1 → ¬ (Int.gcd (i : Int) (j' : Int) = 1 ∧ Int.gcd (g.at i j') n = 1) := fun z j' h => by
          rcases Nat.lt_or_ge j' j with y | y
          · exact no j' y
          · rw [show j' = j by omega]
            exact z
        wtm_at "rs"
        rw [show g.a * (i : Int) * i + g.b * i * j + g.c * j * j = g.at i j from rfl]
        by_cases g1 : Int.gcd (i : Int) (j : Int) = 1
        · rw [if_pos (decide_eq_true (by omega))]
          wtm_at "rs"
          by_cases g2 : Int.gcd (g.at i j) n = 1
          · rw [if_pos (decide_eq_true (by omega))]
            wtm_at "rs"
            refine ⟨i, j, rfl, by omega, by omega, g1, fun z w L z0 z1 w0 w1 e hL => ?_⟩
            have bz : Bd 4 z := Bd.of (by omega) (by omega)
            have bw : Bd 4 w := Bd.of (by omega) (by omega)
            have hL2 : upd H L (.lst [.int z, .int w]) L = some (.lst [.int z, .int w]) := upd_same
            have B := (Hv.start nt).newL (o := .lst [.int z, .int w]) hL
            clear hL
            revert hL2
            refine B.gen fun G B hL2 => ?_
            wtm_at "rs"
            rename_i R hR
            have ek : g.act i z j w = ⟨g.at i j, 2 * g.a * i * z + g.b * (i * w + j * z) + 2 * g.c * j * w, g.at z w⟩ := Fm.ext' rfl (by simp only [Fm.act]; grind) rfl
            have ee : g.eqv (g.act i z j w) := ⟨i, z, j, w, by grind, rfl⟩
            refine q (g.act i z j w) R _ ee (by rw [ek]; exact g2) (ee.ok go).1 ?_ (B.same.trans (same_new hR)) (NoT.upd B.nt rfl) (B.free hR) (by rw [ek]; exact upd_same)
            have q1 : ∀ {s t : Int}, Bd 4 s → Bd 4 t → Bd 20 (g.at s t) := fun {s t} hs ht => by
              unfold Fm.at
              exact ((((ba.mul hs).mul hs).add ((bb.mul hs).mul ht)).add ((bc.mul ht).mul ht)).mono (by decide)
            rw [ek]
            have h2 : Bd 2 2 := ⟨by decide⟩
            exact ⟨(q1 bi bj).mono (by decide), (((((h2.mul ba).mul bi).mul bz).add (bb.mul ((bi.mul bw).add (bj.mul bz)))).add (((h2.mul bc).mul bj).mul bw)).mono (by decide), (q1 bz bw).mono (by decide)⟩
          · rw [if_neg (by rw [decide_eq_true_iff]; omega)]
            wtm_at "rs"
            exact ⟨rfl, _, _, _, _, _, rfl, step fun z => g2 z.2⟩
        · rw [if_neg (by rw [decide_eq_true_iff]; omega)]
          wtm_at "rs"
          exact ⟨rfl, _, _, _, _, _, rfl, step fun z => g1 z.1⟩
      · rintro σ ⟨v6, v7, v8, v9, v10, rfl, no⟩
        wtm_at "rs"
        refine ⟨rfl, _, _, _, _, _, _, rfl, ?_⟩
        have : i ≠ x0 := fun z => no y0 hy0 (by rw [z]; exact ⟨gxy, gv⟩)
        omega
    · rintro σ ⟨v5, v6, v7, v8, v9, v10, rfl, ix⟩
      have : (12 : Int).toNat ≤ x0 := ix
      omega
/-! ### _law_reduced -/
def spLRdd (K : PySem.W.Frag) : Sp := fun vs H Q _ => ∃ (l : Addr) (f : Fm), vs = [.ref l] ∧ SqL K H l [.int f.a, .int f.b, .int f.c] ∧ f.ok ∧ Fm.bd 100 f ∧ (stepsF f).length ≤ 300 ∧ NoT H ∧ ∀ L G, Same H G → NoT G → H L = none → G L = some (.lst (redF f).row) → Q (.ref L) G
theorem use_LRdd {K : PySem.W.Frag} {l : Addr} {f : Fm} {H : Hp} {Q : VK} {E : XK} (h : SqL K H l [.int f.a, .int f.b, .int f.c]) (fo : f.ok) (fb : Fm.bd 100 f) (sl : (stepsF f).length ≤ 300) (nt : NoT H) (q : ∀ L G, Same H G → NoT G → H L = none → G L = some (.lst (redF f).row) → Q (.ref L) G) : spLRdd K [.ref l] H Q E := ⟨l, f, rfl, h, fo, fb, sl, nt, q⟩
/-- shifted, so that it is normal -/
theorem norm_shift {f : Fm} (fo : f.ok) : ∃ k, (f.a - f.b) / (2 * f.a) = k ∧ (⟨f.a, f.b + 2 * f.a * k, f.a * k * k + f.b * k + f.c⟩ : Fm).norm ∧ (⟨f.a, f.b + 2 * f.a * k, f.a * k * k + f.b * k + f.c⟩ : Fm).ok ∧ redF f = redF ⟨f.a, f.b + 2 * f.a * k, f.a * k * k + f.b * k + f.c⟩ ∧ (stepsF ⟨f.a, f.b + 2 * f.a * k, f.a * k * k + f.b * k + f.c⟩).length ≤ (stepsF f).length ∧ (f.lo (2 ^ 100) → (⟨f.a, f.b + 2 * f.a * k, f.a * k * k + f.b * k + f.c⟩ : Fm).lo (2 ^ 100)) := by
  have a1 := fo.1
  by_cases hn : f.norm
  · refine ⟨0, ?_, ?_⟩
    · obtain ⟨n1, n2⟩ := hn
      exact Int.ediv_eq_zero_of_lt (by omega) (by omega)
    · have e : (⟨f.a, f.b + 2 * f.a * 0, f.a * 0 * 0 + f.b * 0 + f.c⟩ : Fm) = f := Fm.ext' rfl (by simp) (by simp)
      rw [e]
      exact ⟨hn, fo, rfl, Nat.le_refl _, id⟩
  · obtain ⟨h1, h2, h3, h4⟩ := Fm.shift a1 hn
    refine ⟨_, rfl, ?_⟩
    have e := Fm.st_ne (f := f) h2
    rw [← e]
    have s := stepsF_some fo h1
    refine ⟨h4, fo.st _, ?_, ?_, fun l => Fm.lo_st fo l h1⟩
    · have := redF_turn fo [(f.a - f.b) / (2 * f.a)]
      exact this.symm
    · rw [s]
      simp
theorem swap_step {g : Fm} (go : g.ok) (hn : g.norm) (nr : ¬ g.red) : redF g = redF ⟨g.c, -g.b, g.a⟩ ∧ (⟨g.c, -g.b, g.a⟩ : Fm).ok ∧ (stepsF ⟨g.c, -g.b, g.a⟩).length < (stepsF g).length ∧ (g.lo (2 ^ 100) → (⟨g.c, -g.b, g.a⟩ : Fm).lo (2 ^ 100)) := by
  obtain ⟨h1, _⟩ := Fm.swap hn nr
  have e := g.st_zero
  have s := stepsF_some go h1
  rw [e] at s
  refine ⟨?_, by rw [← e]; exact go.st 0, by rw [s]; simp, fun l => ⟨l.2, l.1⟩⟩
  have := redF_turn go [0]
  rw [← e]
  exact this.symm
theorem ok_law_reduced (T : Txt K mg Ad) : Def P w K mg base 1 "_law_reduced" ["_law_row_here"] (spLRdd K) := by
  refine T.d_law_reduced.ok sc_law_reduced (fun vs H Q E h => ?_) (fun f cdv A outer s H vs Q E hr h => ?_)
  · obtain ⟨l, f, rfl, _⟩ := h
    rfl
  · obtain ⟨l, f, rfl, hl, fo, fb, sl, nt, q⟩ := h
    refine ⟨_, (pss_cons (ps_asg (pv 0) (pg_unl rfl (pgs_cons (pg_name (i := 1) sc_law_reduced.nd rfl (Or.inl rfl)) (pgs_cons (pg_name (i := 2) sc_law_reduced.nd rfl (Or.inl rfl)) (pgs_cons (pg_name (i := 3) sc_law_reduced.nd rfl (Or.inl rfl)) pgs_nil)))))
      (pss_cons (ps_for (passes_of rfl) rfl (pi_range1 (by rfl) T.b_range (pa_cons pe_int pa_nil)) (pg_name (i := 4) sc_law_reduced.nd rfl (Or.inl rfl)) (pss_cons (ps_set (i := 5) sc_law_reduced.nd rfl (Or.inl rfl) (pe_op op_fdivB (pe_callTy c_int1 (by rfl) T.b_int (by decide +kernel) (pa_cons (pe_op op_sub (pv 1) (pv 2)) pa_nil)) (pe_op op_mulB pe_int (pv 1))))
      (pss_cons (ps_set (i := 3) sc_law_reduced.nd rfl (Or.inl rfl) (pe_op op_add (pe_op op_add (pe_op op_mulB (pe_op op_mulB (pv 1) (pv 5)) (pv 5)) (pe_op op_mulB (pv 2) (pv 5))) (pv 3)))
      (pss_cons (ps_set (i := 2) sc_law_reduced.nd rfl (Or.inl rfl) (pe_op op_add (pv 2) (pe_op op_mulB (pe_op op_mulB pe_int (pv 1)) (pv 5))))
      (pss_cons (ps_if (PW.pt (pw_or (pt_cmpR op_lt (pv 1) (pv 3) (nomark _)) (pw_or1 (PW.pt (pw_and (pt_cmpR op_eq (pv 1) (pv 3) (nomark _)) (pw_and1 (pt_cmpR op_ge (pv 2) pe_int (nomark _)))))))) (pss_one (ps_ret (pe_lst (pa_cons (pv 1) (pa_cons (pv 2) (pa_cons (pv 3) pa_nil)))))) pss_nil)
      (pss_one (ps_par3 (i := 1) (j := 2) (l := 3) rfl sc_law_reduced.nd rfl rfl rfl (by decide) (by decide) (by decide) rfl rfl rfl (pa_cons (pv 3) (pa_cons (pe_un un_neg (pv 2)) (pa_cons (pv 1) pa_nil))) (by rfl))))))))
      (pss_one (ps_ret (pe_lst (pa_cons (pv 1) (pa_cons (pv 2) (pa_cons (pv 3) pa_nil)))))))), ?_⟩
    try dsimp only [cxOf]
    have B := Hv.start nt
    wtm_at "rs"
    refine rd_forR (fun i σ G => ∃ (h : Fm) (v4 v5 : Option V), σ = [some (.ref l), some (.int h.a), some (.int h.b), some (.int h.c), v4, v5] ∧ Hv noX H [] [] [] G ∧ h.ok ∧ h.lo (2 ^ 100) ∧ redF h = redF f ∧ (stepsF h).length + i ≤ 300) ⟨f, _, _, rfl, B, fo, Fm.bd_lo fb, rfl, by omega⟩ ?_ ?_
    · clear B
      rintro i σ G hi ⟨h, v4, v5, rfl, B, ho, hlo, hr, hs⟩
      obtain ⟨k, ek, gn, go, gr, gs, glo⟩ := norm_shift ho
      have hb := Fm.lo_bd ho hlo
      obtain ⟨ba, bb, bc⟩ := id hb
      have a1 := ho.1
      have bq : Bd 110 ((h.a - h.b) / (2 * h.a)) := ((ba.sub bb).div (by omega)).mono (by decide)
      wtm_at "rs"
      rw [ek]
      generalize hB : h.b + 2 * h.a * k = B' at *
      generalize hC : h.a * k * k + h.b * k + h.c = C' at *
      have nm := gn
      unfold Fm.norm at nm
      dsimp only at nm
      have stay : (⟨h.a, B', C'⟩ : Fm).red → ∀ L, G L = none → Q (.ref L) (upd G L (.lst [.int h.a, .int B', .int C'])) := fun gr' L hL => by
        refine q L _ (B.same.trans (same_new hL)) (NoT.upd B.nt rfl) (B.free hL) ?_
        rw [← hr, gr, red_id gr']
        exact upd_same
      have go2 : ¬ (⟨h.a, B', C'⟩ : Fm).red → redF ⟨C', -B', h.a⟩ = redF f ∧ (⟨C', -B', h.a⟩ : Fm).ok ∧ (stepsF ⟨C', -B', h.a⟩).length + (i + 1) ≤ 300 ∧ (⟨C', -B', h.a⟩ : Fm).lo (2 ^ 100) := fun n => by
        obtain ⟨s1, s2, s3, s4⟩ := swap_step go gn n
        exact ⟨s1.symm.trans (gr.symm.trans hr), s2, by dsimp only at s3; omega, s4 (glo hlo)⟩
      wtm_at "ra"
      all_goals first
        | exact stay ⟨gn, by dsimp only; omega, by dsimp only; omega⟩ _ (by assumption)
        | (obtain ⟨s1, s2, s3, s4⟩ := go2 fun z => by
             have z1 := z.2.1
             have z2 := z.2.2
             dsimp only at z1 z2
             omega
           exact ⟨⟨C', -B', h.a⟩, _, _, rfl, B, s2, s4, s1, s3⟩)
    · rintro σ G ⟨h, v4, v5, rfl, B, ho, hlo, hr, hs⟩
      have hs : (stepsF h).length + 400 ≤ 300 := hs
      omega
/-! ### _law_product -/
theorem bd_10 {d : Int} {f : Fm} (d1 : d < 0) (d0 : -1000 ≤ d) (h : f ∈ rfL d) : Fm.bd 10 f := by
  obtain ⟨s1, s2, s3, s4, s5⟩ := rf_small d1 d0 h
  have := ((mem_rfL d1 d0).mp h).2.1.1
  exact ⟨Bd.of (by omega) (by omega), Bd.of (by omega) (by omega), Bd.of (by omega) (by omega)⟩
def spLPr (K : PySem.W.Frag) : Sp := fun vs H Q _ => ∃ (l m : Addr) (f g : Fm) (d : Int), vs = [.ref l, .ref m, .int d] ∧ SqL K H l [.int f.a, .int f.b, .int f.c] ∧ SqL K H m [.int g.a, .int g.b, .int g.c] ∧ d < 0 ∧ -1000 ≤ d ∧ f ∈ rfL d ∧ g ∈ rfL d ∧ NoT H ∧ ∀ L G, Same H G → NoT G → H L = none → G L = some (.lst (mulF f g).row) → Q (.ref L) G
theorem ok_law_product (T : Txt K mg Ad) : Def P w K mg base 3 "_law_product" ["_law_first", "_law_second", "_law_d"] (spLPr K) := by
  refine T.d_law_product.ok sc_law_product (fun vs H Q E h => ?_) (fun f cdv A outer s H vs Q E hr h => ?_)
  · obtain ⟨l, m, f, g, d, rfl, _⟩ := h
    rfl
  · obtain ⟨l, m, f, g, d, rfl, hl, hm, d1, d0, fm, gm, nt, q⟩ := h
    refine ⟨_, (pss_cons (ps_asg (pv 0) (pg_unl rfl (pgs_cons (pg_name (i := 3) sc_law_product.nd rfl (Or.inl rfl)) (pgs_cons (pg_name (i := 4) sc_law_product.nd rfl (Or.inl rfl)) (pgs_cons (pg_name (i := 5) sc_law_product.nd rfl (Or.inl rfl)) pgs_nil)))))
      (pss_cons (ps_set (i := 6) sc_law_product.nd rfl (Or.inl rfl) (pe_d (ok_law_with_coprime T) (hr.mono (by decide)) (passes_call (takes_of rfl rfl rfl rfl) (fun _ _ _ _ h => h)) (pa_cons (pv 1) (pa_cons (pv 3) pa_nil))))
      (pss_cons (ps_if (pt_cmpR op_isN (pv 6) pe_non (nomark _)) (pss_one (ps_ret pe_non)) pss_nil)
      (pss_cons (ps_asg (pv 6) (pg_unl rfl (pgs_cons (pg_name (i := 7) sc_law_product.nd rfl (Or.inl rfl)) (pgs_cons (pg_name (i := 8) sc_law_product.nd rfl (Or.inl rfl)) pgs_nil))))
      (pss_cons (ps_for (passes_of rfl) rfl (pi_range1 (by rfl) T.b_range (pa_cons (pv 7) pa_nil)) (pg_name (i := 9) sc_law_product.nd rfl (Or.inl rfl)) (pss_cons (ps_set (i := 10) sc_law_product.nd rfl (Or.inl rfl) (pe_op op_add (pv 4) (pe_op op_mulB (pe_op op_mulB pe_int (pv 3)) (pv 9))))
      (pss_one (ps_if (pt_cmpR op_eq (pe_op op_mod (pe_callTy c_int1 (by rfl) T.b_int (by decide +kernel) (pa_cons (pe_op op_sub (pv 10) (pv 8)) pa_nil)) (pe_op op_mulB pe_int (pv 7))) pe_int (nomark _)) (pss_one (ps_ret (pe_d (ok_law_reduced T) (hr.mono (by decide)) (passes_call (takes_of rfl rfl rfl rfl) (fun _ _ _ _ h => h)) (pa_cons (pe_lst (pa_cons (pe_op op_mulB (pv 3) (pv 7)) (pa_cons (pv 10) (pa_cons (pe_op op_fdivB (pe_op op_sub (pe_op op_mulB (pv 10) (pv 10)) (pv 2)) (pe_op op_mulB (pe_op op_mulB pe_int (pv 3)) (pv 7))) pa_nil)))) pa_nil)))) pss_nil))))
      (pss_one (ps_ret pe_non))))))), ?_⟩
    try dsimp only [cxOf]
    obtain ⟨F, fr⟩ := (mem_cl d1 d0).mp fm
    obtain ⟨Gc, gr⟩ := (mem_cl d1 d0).mp gm
    obtain ⟨s1, s2, s3, s4, s5⟩ := rf_small d1 d0 fm
    have fb := bd_10 d1 d0 fm
    obtain ⟨ba, bb, bc⟩ := id fb
    have fa := F.ok.1
    have B := Hv.start nt
    wtm_at "rs"
    refine ⟨m, g, f.a, rfl, hm, Gc.ok, Gc.pr, bd_10 d1 d0 gm, fa, s1, nt, fun k L G ek kc ka kb s1' n1 hL0 hL => ?_⟩
    replace B := B.got s1' n1 hL0 hL
    clear s1' n1 hL0 hL
    refine B.gen fun G B => ?_
    have hL : G L = some (.lst [.int k.a, .int k.b]) := B.lAt (by wtm_at "mem")
    obtain ⟨kl, kl2⟩ := kb.1.lt
    wtm_at "rs"
    have lD : f.D = k.D := F.D.trans (Gc.D.symm.trans ek.D.symm)
    have h2 : (2 : Int) ∣ k.b - f.b := by
      have := Int.dvd_sub f.D_par k.D_par
      rw [lD] at this
      rwa [show k.D - f.b - (k.D - k.b) = k.b - f.b by omega] at this
    obtain ⟨t0, t00, t01, ht0⟩ : ∃ t : Int, 0 ≤ t ∧ t < k.a ∧ 2 * k.a ∣ f.b + 2 * f.a * t - k.b := by
      obtain ⟨u, v, e⟩ := bezI (show Int.gcd f.a k.a = 1 by rw [gcd_c]; exact kc)
      exact ⟨_, Int.emod_nonneg _ (by omega), Int.emod_lt_of_pos _ (by omega), mid_ok h2 (r := u) ⟨-v, by grind⟩ rfl⟩
    obtain ⟨n0, rfl⟩ : ∃ n : Nat, t0 = n := ⟨t0.toNat, by omega⟩
    refine rd_forR (fun i σ G' => ∃ v9 v10 : Option V, σ = [some (.ref l), some (.ref m), some (.int d), some (.int f.a), some (.int f.b), some (.int f.c), some (.ref L), some (.int k.a), some (.int k.b), v9, v10] ∧ G' = G ∧ i ≤ n0) ⟨_, _, rfl, rfl, Nat.zero_le _⟩ ?_ ?_
    · rintro i σ G' hi ⟨v9, v10, rfl, rfl, iz⟩
      have ei : (0 : Int) + (i : Int) = i := by omega
      rw [ei]
      have bi : Bd 30 (i : Int) := Bd.of (by omega) (by omega)
      have bW : Bd 44 (f.b + 2 * f.a * i) := (bb.add ((Bd.mul (n := 2) ⟨by decide⟩ ba).mul bi)).mono (by decide)
      have bd' : Bd 20 d := Bd.of (by omega) (by omega)
      wtm_at "rs"
      by_cases e : (f.b + 2 * f.a * i - k.b) % (2 * k.a) = 0
      · refine rd_eqT e ?_
        have wp : 0 < f.a * k.a := Int.mul_pos (by omega) (by omega)
        have cm := Fm.compose_ok (B := f.b + 2 * f.a * i) fa ka lD (by rw [gcd_c]; exact kc) ⟨i, by grind⟩ (Int.dvd_of_emod_eq_zero e)
        rw [F.D] at cm
        have cm2 := cm.congr (Fm.eqv.refl f) ek (Fm.eqv.refl _)
        have ho := cm.ok F.ok
        have em : 4 * f.a * k.a = 4 * (f.a * k.a) := by grind
        have hb : Fm.bd 100 ⟨f.a * k.a, f.b + 2 * f.a * i, ((f.b + 2 * f.a * i) * (f.b + 2 * f.a * i) - d) / (4 * (f.a * k.a))⟩ := ⟨(ba.mul kb.1).mono (by decide), bW.mono (by decide), (((bW.mul bW).sub bd').div (by omega)).mono (by decide)⟩
        have hd : 0 < 4 * f.a * k.a := by rw [em]; omega
        obtain ⟨bka, bkb, bkc⟩ := id kb
        wtm_at "rs"
        rename_i R hR
        rw [em]
        refine use_LRdd (f := ⟨f.a * k.a, f.b + 2 * f.a * i, ((f.b + 2 * f.a * i) * (f.b + 2 * f.a * i) - d) / (4 * (f.a * k.a))⟩) (SqL.of upd_same) ho hb (Nat.le_trans (len_any ho (n := 100) hb.1.lt.2) (by decide)) (NoT.upd B.nt rfl) fun L2 G2 s2 n2 f2 g2 => ?_
        refine q L2 G2 (B.same.trans ((same_new hR).trans s2)) n2 (B.free ((same_new hR).free f2)) ?_
        rw [g2, ← F.mul_eq Gc (cm2.congr (Fm.eqv.refl f) (Fm.eqv.refl g) (redF_eqv _).symm) ((redF_eqv _).ok ho) (redF_ok ho)]
      · refine rd_eqF e ?_
        wtm_at "rs"
        refine ⟨_, _, rfl, rfl, ?_⟩
        have : i ≠ n0 := fun z => e (by rw [z]; exact Int.emod_eq_zero_of_dvd ht0)
        omega
    · rintro σ G' ⟨v9, v10, rfl, rfl, iz⟩
      have : k.a.toNat ≤ n0 := iz
      omega
/-! ### _law_row -/
def spLRow (C : Addr) : Sp := fun vs H Q E => ∃ (p : Addr) (f : Fm), vs = [.ref p] ∧ IsF C H p f ∧ ∀ x, H x = none → Q (.ref x) (upd H x (.lst f.row))
theorem ok_law_row (T : Txt K mg Ad) : Def P w K mg base 1 "_law_row" ["_law_form_here"] (spLRow Ad.c_Form) := by
  refine T.d_law_row.ok sc_law_row (fun vs H Q E h => ?_) (fun f cdv A outer s H vs Q E hr h => ?_)
  · obtain ⟨p, f, rfl, _⟩ := h
    rfl
  · obtain ⟨p, f, rfl, ⟨dx, hp⟩, q⟩ := h
    refine ⟨_, (pss_one (ps_ret (pe_lst (pa_cons (pe_fldC (pv 0) T.cl_Form T.nf_Form_a) (pa_cons (pe_fldC (pv 0) T.cl_Form T.nf_Form_b) (pa_cons (pe_fldC (pv 0) T.cl_Form T.nf_Form_c) pa_nil)))))), ?_⟩
    try dsimp only [cxOf]
    wtm_at "rs"
    exact q _ (by assumption)
theorem use_LRow {C : Addr} {p : Addr} {f : Fm} {H : Hp} {Q : VK} {E : XK} (h : IsF C H p f) (q : ∀ x, H x = none → Q (.ref x) (upd H x (.lst f.row))) : spLRow C [.ref p] H Q E := ⟨p, f, rfl, h, q⟩
/-! ### Form.__eq__ -/
def spFEq (C : Addr) : Sp := fun vs H Q E => ∃ (p : Addr) (f : Fm) (y : V), vs = [.ref p, y] ∧ IsF C H p f ∧ NoT H ∧ ((∃ q g, y = .ref q ∧ IsF C H q g ∧ Q (.bl (decide (f = g))) H) ∨ ∃ l xs, y = .ref l ∧ H l = some (.lst xs) ∧ Q (.bl false) H)
theorem fm_tup {f g : Fm} : (PyData.tuple [.int f.a, .int f.b, .int f.c] = .tuple [.int g.a, .int g.b, .int g.c]) ↔ f = g := by
  cases f
  cases g
  simp
theorem ok_Form_eq0 (T : Txt K mg Ad) : MDef P w K mg base 1 Ad.c_Form "__eq__" ["self", "other"] (fun vs H Q E => ∃ (p : Addr) (f : Fm) (y : V), vs = [.ref p, y] ∧ IsF Ad.c_Form H p f ∧ ((∃ q g, y = .ref q ∧ IsF Ad.c_Form H q g ∧ ∀ H', Same H H' → Q (.bl (decide (f = g))) H') ∨ ∃ l xs, y = .ref l ∧ H l = some (.lst xs) ∧ Q (.bl false) H)) := by
  refine T.d_Form_eq.ok sc_Form_eq (fun vs H Q E h => ?_) (fun f cdv A outer s H vs Q E hr h => ?_)
  · obtain ⟨p, f, y, rfl, _⟩ := h
    rfl
  · obtain ⟨p, f, y, rfl, ⟨dx, hp⟩, h⟩ := h
    rcases h with ⟨q, g, rfl, ⟨dy, hq⟩, qo⟩ | ⟨l, xs, rfl, hl, qo⟩
    · refine ⟨_, (pss_one (ps_ret (pe_and (pe_callB call_isi (by rfl) T.b_isinstance (by decide +kernel) (pa_cons (pv 1) (pa_cons (pe_glob (v := .ref Ad.c_Form) rfl T.g_Form rfl) pa_nil))) (pe_one (pe_cmpR (op_eqD hr.units) (pe_tup (pa_cons (pe_fldC (pv 0) T.cl_Form T.nf_Form_a) (pa_cons (pe_fldC (pv 0) T.cl_Form T.nf_Form_b) (pa_cons (pe_fldC (pv 0) T.cl_Form T.nf_Form_c) pa_nil)))) (pe_tup (pa_cons (pe_fldC (pv 1) T.cl_Form T.nf_Form_a) (pa_cons (pe_fldC (pv 1) T.cl_Form T.nf_Form_b) (pa_cons (pe_fldC (pv 1) T.cl_Form T.nf_Form_c) pa_nil)))) (nomark _)))))), ?_⟩
      try dsimp only [cxOf]
      wtm_at "rs"
      refine ⟨_, _, _, _, true, rfl, .own _, T.ty_Form _ _ _ _ hq, T.ki_Form, ?_⟩
      wtm_at "rs"
      rename_i t1 h1 t2 h2
      rw [okD_dec rfl rfl, decide_eq_decide.mpr fm_tup]
      exact qo _ (by wtm_at "sm")
    · refine ⟨_, (pss_one (ps_ret (pe_and (pe_callB call_isi (by rfl) T.b_isinstance (by decide +kernel) (pa_cons (pv 1) (pa_cons (pe_glob (v := .ref Ad.c_Form) rfl T.g_Form rfl) pa_nil))) (pe_one (pe_cmpR (op_eqD hr.units) (pe_tup (pa_cons (pe_fldC (pv 0) T.cl_Form T.nf_Form_a) (pa_cons (pe_fldC (pv 0) T.cl_Form T.nf_Form_b) (pa_cons (pe_fldC (pv 0) T.cl_Form T.nf_Form_c) pa_nil)))) (pe_tup (pa_cons (pe_fldC (pv 1) T.cl_Form T.nf_Form_a) (pa_cons (pe_fldC (pv 1) T.cl_Form T.nf_Form_b) (pa_cons (pe_fldC (pv 1) T.cl_Form T.nf_Form_c) pa_nil)))) (nomark _)))))), ?_⟩
      try dsimp only [cxOf]
      wtm_at "rs"
      refine ⟨_, _, _, _, false, rfl, .own _, .base (.lst hl), T.kl_Form, ?_⟩
      wtm_at "rs"
      exact qo
theorem ok_Form_eq (T : Txt K mg Ad) : MDef P w K mg base 1 Ad.c_Form "__eq__" ["self", "other"] (spFEq Ad.c_Form) :=
  (ok_Form_eq0 T).forget.imp fun vs H Q E ⟨p, f, y, e, hp, nt, h⟩ => ⟨nt, p, f, y, e, hp, h.elim (fun ⟨q, g, e, hq, q'⟩ => .inl ⟨q, g, e, hq, fun H' s => ⟨s, q'⟩⟩) fun ⟨l, xs, e, hl, q'⟩ => .inr ⟨l, xs, e, hl, Same.refl _, q'⟩⟩
theorem use_FEq (T : Txt K mg Ad) {p q : Addr} {f g : Fm} {H : Hp} {Q : VK} {E : XK} (hp : IsF Ad.c_Form H p f) (hq : IsF Ad.c_Form H q g) (nt : NoT H) (qo : Q (.bl (decide (f = g))) H) : rEqO K Ad.c_Form (spFEq Ad.c_Form) E (.ref p) (.ref q) H Q := by
  obtain ⟨dx, h1⟩ := hp
  obtain ⟨dy, h2⟩ := hq
  exact ⟨p, dx, _, _, rfl, h1, T.ty_Form _ _ _ _ h2, by unfold PySem.W.notFirst; simp, p, f, _, rfl, ⟨dx, h1⟩, nt, .inl ⟨q, g, rfl, ⟨dy, h2⟩, ⟨_, rfl⟩, qo⟩⟩
/-! ### _law_cell -/
theorem getD_at {ns : List Int} {i : Nat} (h : i < ns.length) : atI (ns.map V.int) (i : Int) = some (.int (ns.getD i 0)) := by
  refine atI_nat ?_
  rw [List.getElem?_map, List.getElem?_eq_getElem h, List.getD_eq_getElem?_getD, List.getElem?_eq_getElem h]
  rfl
theorem getD_out {ns : List Int} {i : Nat} (h : ¬ i < ns.length) : ns.getD i 0 = 0 := by
  rw [List.getD_eq_getElem?_getD, List.getElem?_eq_none (by omega)]
  rfl
def spCell (K : PySem.W.Frag) : Sp := fun vs H Q _ => ∃ (a : Addr) (ns : List Int) (i : Nat), vs = [.ref a, .int i] ∧ SqL K H a (ns.map V.int) ∧ Q (.int (ns.getD i 0)) H
theorem ok_law_cell (T : Txt K mg Ad) : Def P w K mg base 1 "_law_cell" ["_law_script", "_law_k"] (spCell K) := by
  refine T.d_law_cell.ok sc_law_cell (fun vs H Q E h => ?_) (fun f cdv A outer s H vs Q E hr h => ?_)
  · obtain ⟨a, ns, i, rfl, _⟩ := h
    rfl
  · obtain ⟨a, ns, i, rfl, hS, q⟩ := h
    refine ⟨_, (pss_cons (ps_if (pt_cmpR op_lt (pv 1) (pe_callB c_len (by rfl) T.b_len PySem.boot_len (pa_cons (pv 0) pa_nil)) (nomark _)) (pss_one (ps_ret (pe_ix ix_list (pv 0) (pv 1) (fun _ _ => rfl)))) pss_nil)
      (pss_one (ps_ret pe_int))), ?_⟩
    try dsimp only [cxOf]
    wtm_at "rs"
    wtm_at "i"
    · rename_i h
      rw [List.length_map] at h
      wtm_at "rs"
      exact rd_ixL hS (getD_at (by omega)) q
    · rename_i h
      rw [List.length_map] at h
      rw [getD_out (by omega)] at q
      wtm_at "rs"
      exact q
theorem use_cell {a : Addr} {ns : List Int} {i : Nat} {H : Hp} {Q : VK} {E : XK} {z : Int} (hS : SqL K H a (ns.map V.int)) (hz : z = (i : Int)) (q : Q (.int (ns.getD i 0)) H) : spCell K [.ref a, .int z] H Q E :=
  ⟨a, ns, i, by rw [hz], hS, q⟩
local macro_rules | `(tactic| wtm_at "s") => `(tactic| ((with_reducible refine use_cell (ns := ?ns) (i := ?i) ?h1 ?h2 ?_); (case h1 => wtm_at "q"); (case h2 => first | rfl | exact (Int.zero_add _) | exact (Int.natCast_succ _).symm)))
/-! ### law -/
theorem redF_congr {f g : Fm} (fo : f.ok) (e : f.eqv g) : redF f = redF g := red_eq ((redF_eqv f).ok fo) ((redF_eqv g).ok (e.ok fo)) (((redF_eqv f).symm.trans e).trans (redF_eqv g)) (redF_ok fo) (redF_ok (e.ok fo))
theorem each91 {p : Addr} {H : Hp} : ∀ {as : List Addr} {rs : List (List Int)}, RowsZ p H as rs → EachZ H as rs
  | [], [], _ => trivial
  | _ :: _, _ :: _, h => ⟨h.2.1, each91 h.2.2⟩
theorem rows91 {p : Addr} {H : Hp} : ∀ {as : List Addr} {rs : List (List Int)}, EachZ H as rs → (∀ a ∈ as, a ≠ p) → RowsZ p H as rs
  | [], [], _, _ => trivial
  | a :: _, _ :: _, h, n => ⟨n a List.mem_cons_self, h.1, rows91 h.2 fun b hb => n b (List.mem_cons_of_mem _ hb)⟩
theorem ns_le {f g : Fm} (h : Fm.lt f g) : f.ns ≤ g.ns := by
  unfold Fm.ns
  rcases h with h | ⟨h1, h2⟩
  · exact List.cons_le_cons_iff.mpr (.inl h)
  · exact List.cons_le_cons_iff.mpr (.inr ⟨h1, List.cons_le_cons_iff.mpr (.inl h2)⟩)
theorem sort91 {d : Int} {f : Fm} (C : Cl d f) (d0 : -1000 ≤ d) : sortZ ((rfL d).map fun g => (mulF f g).ns) = (rfL d).map Fm.ns := by
  refine sortZ_of ?_ (List.pairwise_map.mpr (rfL_lt.imp ns_le))
  have := (C.perm d0).map Fm.ns
  rwa [List.map_map] at this
theorem ok_law {f : Addr} {fd : FuncData} (F : Fun K "law" "law" s_law f fd) (T : Txt K mg Ad) : FnOk P w K mg base (L2.CX P w) 9 f fd ["_law_script"] (spLaw K) := by
  refine F.okX sc_law (fun vs H Q E h => ?_) (fun cdv A outer s H vs Q E hr h => ?_)
  · obtain ⟨a, ns, rfl, _⟩ := h
    rfl
  · obtain ⟨a, ns, rfl, hS, hlen, nt, kq⟩ := h
    refine ⟨_, (pss_cons (ps_set (i := 1) sc_law.nd rfl (Or.inl rfl) (pe_d (ok_law_pool T) (hr.mono (by decide)) (passes_call (takes_of rfl rfl rfl rfl) (fun _ _ _ _ h => h)) (pa_cons (pe_d (ok_law_cell T) (hr.mono (by decide)) (passes_call (takes_of rfl rfl rfl rfl) (fun _ _ _ _ h => h)) (pa_cons (pv 0) (pa_cons pe_int pa_nil))) pa_nil)))
      (pss_cons (ps_set (i := 2) sc_law.nd rfl (Or.inl rfl) (pe_d (ok_law_discriminant T) (hr.mono (by decide)) (passes_call (takes_of rfl rfl rfl rfl) (fun _ _ _ _ h => h)) (pa_cons (pv 1) (pa_cons pe_int pa_nil))))
      (C8.pss_cut (ps_if (pt_cmpR op_eq (pe_d (ok_law_take T) (hr.mono (by decide)) (passes_call (takes_of rfl rfl rfl rfl) (fun _ _ _ _ h => h)) (pa_cons (pv 1) (pa_cons pe_int pa_nil))) pe_int (nomark _)) (pss_one (ps_set (i := 2) sc_law.nd rfl (Or.inl rfl) (pe_d (ok_law_discriminant T) (hr.mono (by decide)) (passes_call (takes_of rfl rfl rfl rfl) (fun _ _ _ _ h => h)) (pa_cons (pv 1) (pa_cons pe_int pa_nil))))) pss_nil)
      (pss_cons (ps_set (i := 3) sc_law.nd rfl (Or.inr rfl) (pe_d (ok_law_listed T) (hr.mono (by decide)) (passes_call (takes_of rfl rfl rfl rfl) (fun _ _ _ _ h => h)) (pa_cons (pv 2) pa_nil)))
      (pss_cons (ps_setLc (i := 4) (own := [("_law_k", 14)])  (te := (tCall ((spLFm Ad.c_Form)) [] E0 (tCons (tCall (spPool) [] E0 (tCons (tCall ((spCell K)) [] E0 (tCons (tVar 0) (tCons (tVar 14) tNil))) tNil)) (tCons (tVar 3) tNil)))) rfl sc_law.nd rfl rfl (sw_true rfl rfl rfl (by decide +kernel)) (pi_range1 (by rfl) T.b_range (pa_cons pe_int pa_nil)) (blkOk_by (own := [("_law_k", 14)]) (N := ["_law_script", "_law_pool_here", "_law_d", "_law_rows", "_law_forms", "_law_kept", "_law_first", "_law_second", "_law_third", "_law_told", "_law_far", "_law_main", "_law_due", "_law_found", "_law_k", "_law_form_here", "_law_row_here"]) (sc := defScope s_law) (by decide +kernel)) (fun _ _ _ _ _ => (pg_name (i := 14) sc_law.nd rfl (Or.inl rfl))) (fun _ _ _ _ _ => pts_nil) (fun _ _ _ _ _ => (pe_d (E := E0) (ok_law_form T) (hr.mono (by decide)) passL (pa_cons (pe_d (E := E0) (ok_law_pool T) (hr.mono (by decide)) passL (pa_cons (pe_d (E := E0) (ok_law_cell T) (hr.mono (by decide)) passL (pa_cons (pv 0) (pa_cons (pv 14) pa_nil))) pa_nil)) (pa_cons (pv 3) pa_nil)))))
      (pss_cons (ps_setLc (i := 5) (own := [("_law_form_here", 15)])  (te := (tCall ((spLRow Ad.c_Form)) [] E0 (tCons (tVar 15) tNil))) rfl sc_law.nd rfl rfl (sw_true rfl rfl rfl (by decide +kernel)) (pi_list (pv 4)) (blkOk_by (own := [("_law_form_here", 15)]) (N := ["_law_script", "_law_pool_here", "_law_d", "_law_rows", "_law_forms", "_law_kept", "_law_first", "_law_second", "_law_third", "_law_told", "_law_far", "_law_main", "_law_due", "_law_found", "_law_k", "_law_form_here", "_law_row_here"]) (sc := defScope s_law) (by decide +kernel)) (fun _ _ _ _ _ => (pg_name (i := 15) sc_law.nd rfl (Or.inl rfl))) (fun _ _ _ _ _ => pts_nil) (fun _ _ _ _ _ => (pe_d (E := E0) (ok_law_row T) (hr.mono (by decide)) passL (pa_cons (pv 15) pa_nil))))
      (pss_cons (ps_asg (pv 4) (pg_unl rfl (pgs_cons (pg_name (i := 6) sc_law.nd rfl (Or.inr rfl)) (pgs_cons (pg_name (i := 7) sc_law.nd rfl (Or.inl rfl)) (pgs_cons (pg_name (i := 8) sc_law.nd rfl (Or.inl rfl)) pgs_nil)))))
      (pss_cons (ps_set (i := 9) sc_law.nd rfl (Or.inl rfl) (pe_d (ok_compose T) (hr.mono (by decide)) (passes_call (takes_of rfl rfl rfl rfl) (fun _ _ _ _ h => h)) (pa_cons (pv 6) (pa_cons (pv 7) pa_nil))))
      (pss_cons (ps_if (PW.pt (pw_or (pt_cmpR (op_notInD (room65 hr)) (pe_d (ok_law_row T) (hr.mono (by decide)) (passes_call (takes_of rfl rfl rfl rfl) (fun _ _ _ _ h => h)) (pa_cons (pv 9) pa_nil)) (pv 3) (by rfl)) (pw_or1 (pt_not (pt_cmpR (op_eqO (ok_Form_eq T) (hr.mono (by decide)) (Nat.lt_of_succ_lt (hu_of hr)) (passes_call (takes_of rfl rfl rfl rfl) (fun _ _ _ _ h => h))) (pv 9) (pe_d (ok_compose T) (hr.mono (by decide)) (passes_call (takes_of rfl rfl rfl rfl) (fun _ _ _ _ h => h)) (pa_cons (pv 7) (pa_cons (pv 6) pa_nil))) (nomark _)))))) (pss_one (ps_ret pe_bl)) pss_nil)
      (pss_cons (ps_if (pt_cmpR (op_neD hr.units) (pe_d (ok_law_row T) (hr.mono (by decide)) (passes_call (takes_of rfl rfl rfl rfl) (fun _ _ _ _ h => h)) (pa_cons (pv 9) pa_nil)) (pe_d (ok_law_product T) (hr.mono (by decide)) (passes_call (takes_of rfl rfl rfl rfl) (fun _ _ _ _ h => h)) (pa_cons (pe_d (ok_law_row T) (hr.mono (by decide)) (passes_call (takes_of rfl rfl rfl rfl) (fun _ _ _ _ h => h)) (pa_cons (pe_md0 (ok_Form_reduced T) (pv 6) T.cl_Form (hr.mono (by decide)) (passes_call (takes_of rfl rfl rfl rfl) (fun _ _ _ _ h => h))) pa_nil)) (pa_cons (pe_d (ok_law_row T) (hr.mono (by decide)) (passes_call (takes_of rfl rfl rfl rfl) (fun _ _ _ _ h => h)) (pa_cons (pe_md0 (ok_Form_reduced T) (pv 7) T.cl_Form (hr.mono (by decide)) (passes_call (takes_of rfl rfl rfl rfl) (fun _ _ _ _ h => h))) pa_nil)) (pa_cons (pv 2) pa_nil)))) (nomark _)) (pss_one (ps_ret pe_bl)) pss_nil)
      (pss_cons (ps_set (i := 10) sc_law.nd rfl (Or.inl rfl) (pe_md (ok_Form_turned T) (pv 6) T.cl_Form (hr.mono (by decide)) (passes_call (takes_of rfl rfl rfl rfl) (fun _ _ _ _ h => h)) (pa_cons (pe_lst (pa_cons (pe_op op_add (pe_op (op_powN 15) pe_int pe_int) (pe_d (ok_law_take T) (hr.mono (by decide)) (passes_call (takes_of rfl rfl rfl rfl) (fun _ _ _ _ h => h)) (pa_cons (pv 1) (pa_cons pe_int pa_nil)))) (pa_cons pe_int pa_nil))) pa_nil)))
      (pss_cons (ps_if (PW.pt (pw_or (pt_not (pt_cmpR (op_eqO (ok_Form_eq T) (hr.mono (by decide)) (Nat.lt_of_succ_lt (hu_of hr)) (passes_call (takes_of rfl rfl rfl rfl) (fun _ _ _ _ h => h))) (pe_d (ok_compose T) (hr.mono (by decide)) (passes_call (takes_of rfl rfl rfl rfl) (fun _ _ _ _ h => h)) (pa_cons (pv 10) (pa_cons (pv 7) pa_nil))) (pv 9) (nomark _))) (pw_or1 (pt_not (pt_cmpR (op_eqO (ok_Form_eq T) (hr.mono (by decide)) (Nat.lt_of_succ_lt (hu_of hr)) (passes_call (takes_of rfl rfl rfl rfl) (fun _ _ _ _ h => h))) (pe_d (ok_opposite T) (hr.mono (by decide)) (passes_call (takes_of rfl rfl rfl rfl) (fun _ _ _ _ h => h)) (pa_cons (pv 10) pa_nil)) (pe_d (ok_opposite T) (hr.mono (by decide)) (passes_call (takes_of rfl rfl rfl rfl) (fun _ _ _ _ h => h)) (pa_cons (pv 6) pa_nil)) (nomark _)))))) (pss_one (ps_ret pe_bl)) pss_nil)
      (pss_cons (ps_if (pt_not (pt_cmpR (op_eqO (ok_Form_eq T) (hr.mono (by decide)) (Nat.lt_of_succ_lt (hu_of hr)) (passes_call (takes_of rfl rfl rfl rfl) (fun _ _ _ _ h => h))) (pe_d (ok_compose T) (hr.mono (by decide)) (passes_call (takes_of rfl rfl rfl rfl) (fun _ _ _ _ h => h)) (pa_cons (pv 9) (pa_cons (pv 8) pa_nil))) (pe_d (ok_compose T) (hr.mono (by decide)) (passes_call (takes_of rfl rfl rfl rfl) (fun _ _ _ _ h => h)) (pa_cons (pv 6) (pa_cons (pe_d (ok_compose T) (hr.mono (by decide)) (passes_call (takes_of rfl rfl rfl rfl) (fun _ _ _ _ h => h)) (pa_cons (pv 7) (pa_cons (pv 8) pa_nil))) pa_nil))) (nomark _))) (pss_one (ps_ret pe_bl)) pss_nil)
      (pss_cons (ps_if (pt_not (pt_cmpR (op_eqO (ok_Form_eq T) (hr.mono (by decide)) (Nat.lt_of_succ_lt (hu_of hr)) (passes_call (takes_of rfl rfl rfl rfl) (fun _ _ _ _ h => h))) (pe_d (ok_compose T) (hr.mono (by decide)) (passes_call (takes_of rfl rfl rfl rfl) (fun _ _ _ _ h => h)) (pa_cons (pe_md0 (ok_Form_reduced T) (pv 6) T.cl_Form (hr.mono (by decide)) (passes_call (takes_of rfl rfl rfl rfl) (fun _ _ _ _ h => h))) (pa_cons (pe_md0 (ok_Form_reduced T) (pv 7) T.cl_Form (hr.mono (by decide)) (passes_call (takes_of rfl rfl rfl rfl) (fun _ _ _ _ h => h))) pa_nil))) (pv 9) (nomark _))) (pss_one (ps_ret pe_bl)) pss_nil)
      (pss_cons (ps_set (i := 11) sc_law.nd rfl (Or.inl rfl) (pe_d (ok_main_form T) (hr.mono (by decide)) (passes_call (takes_of rfl rfl rfl rfl) (fun _ _ _ _ h => h)) (pa_cons (pv 2) pa_nil)))
      (pss_cons (ps_set (i := 12) sc_law.nd rfl (Or.inl rfl) (pe_lst (pa_cons pe_int (pa_cons pe_int (pa_cons (pe_op op_fdivB (pe_un un_neg (pv 2)) pe_int) pa_nil)))))
      (C8.pss_cut (ps_if (pt_cmpR op_eq (pe_op op_mod (pe_callTy c_int1 (by rfl) T.b_int (by decide +kernel) (pa_cons (pv 2) pa_nil)) pe_int) pe_int (nomark _)) (pss_one (ps_set (i := 12) sc_law.nd rfl (Or.inl rfl) (pe_lst (pa_cons pe_int (pa_cons pe_int (pa_cons (pe_op op_fdivB (pe_op op_sub pe_int (pv 2)) pe_int) pa_nil)))))) pss_nil)
      (pss_cons (ps_if (PW.pt (pw_or (pt_cmpR (op_neD hr.units) (pe_d (ok_law_row T) (hr.mono (by decide)) (passes_call (takes_of rfl rfl rfl rfl) (fun _ _ _ _ h => h)) (pa_cons (pv 11) pa_nil)) (pv 12) (nomark _)) (pw_or1 (pt_cmpR (op_notInD (room65 hr)) (pe_d (ok_law_row T) (hr.mono (by decide)) (passes_call (takes_of rfl rfl rfl rfl) (fun _ _ _ _ h => h)) (pa_cons (pv 11) pa_nil)) (pv 3) (by rfl))))) (pss_one (ps_ret pe_bl)) pss_nil)
      (pss_cons (ps_if (PW.pt (pw_or (pt_not (pt_cmpR (op_eqO (ok_Form_eq T) (hr.mono (by decide)) (Nat.lt_of_succ_lt (hu_of hr)) (passes_call (takes_of rfl rfl rfl rfl) (fun _ _ _ _ h => h))) (pe_d (ok_compose T) (hr.mono (by decide)) (passes_call (takes_of rfl rfl rfl rfl) (fun _ _ _ _ h => h)) (pa_cons (pv 6) (pa_cons (pv 11) pa_nil))) (pe_md0 (ok_Form_reduced T) (pv 6) T.cl_Form (hr.mono (by decide)) (passes_call (takes_of rfl rfl rfl rfl) (fun _ _ _ _ h => h))) (nomark _))) (pw_or1 (pt_not (pt_cmpR (op_eqO (ok_Form_eq T) (hr.mono (by decide)) (Nat.lt_of_succ_lt (hu_of hr)) (passes_call (takes_of rfl rfl rfl rfl) (fun _ _ _ _ h => h))) (pe_d (ok_compose T) (hr.mono (by decide)) (passes_call (takes_of rfl rfl rfl rfl) (fun _ _ _ _ h => h)) (pa_cons (pv 11) (pa_cons (pv 7) pa_nil))) (pe_md0 (ok_Form_reduced T) (pv 7) T.cl_Form (hr.mono (by decide)) (passes_call (takes_of rfl rfl rfl rfl) (fun _ _ _ _ h => h))) (nomark _)))))) (pss_one (ps_ret pe_bl)) pss_nil)
      (pss_cons (ps_if (PW.pt (pw_or (pt_not (pt_cmpR (op_eqO (ok_Form_eq T) (hr.mono (by decide)) (Nat.lt_of_succ_lt (hu_of hr)) (passes_call (takes_of rfl rfl rfl rfl) (fun _ _ _ _ h => h))) (pe_d (ok_compose T) (hr.mono (by decide)) (passes_call (takes_of rfl rfl rfl rfl) (fun _ _ _ _ h => h)) (pa_cons (pv 6) (pa_cons (pe_d (ok_opposite T) (hr.mono (by decide)) (passes_call (takes_of rfl rfl rfl rfl) (fun _ _ _ _ h => h)) (pa_cons (pv 6) pa_nil)) pa_nil))) (pv 11) (nomark _))) (pw_or1 (pt_cmpR (op_notInD (room65 hr)) (pe_d (ok_law_row T) (hr.mono (by decide)) (passes_call (takes_of rfl rfl rfl rfl) (fun _ _ _ _ h => h)) (pa_cons (pe_d (ok_opposite T) (hr.mono (by decide)) (passes_call (takes_of rfl rfl rfl rfl) (fun _ _ _ _ h => h)) (pa_cons (pv 7) pa_nil)) pa_nil)) (pv 3) (by rfl))))) (pss_one (ps_ret pe_bl)) pss_nil)
      (pss_cons (ps_if (pt_not (pt_cmpR (op_eqO (ok_Form_eq T) (hr.mono (by decide)) (Nat.lt_of_succ_lt (hu_of hr)) (passes_call (takes_of rfl rfl rfl rfl) (fun _ _ _ _ h => h))) (pe_d (ok_opposite T) (hr.mono (by decide)) (passes_call (takes_of rfl rfl rfl rfl) (fun _ _ _ _ h => h)) (pa_cons (pe_d (ok_opposite T) (hr.mono (by decide)) (passes_call (takes_of rfl rfl rfl rfl) (fun _ _ _ _ h => h)) (pa_cons (pv 8) pa_nil)) pa_nil)) (pe_md0 (ok_Form_reduced T) (pv 8) T.cl_Form (hr.mono (by decide)) (passes_call (takes_of rfl rfl rfl rfl) (fun _ _ _ _ h => h))) (nomark _))) (pss_one (ps_ret pe_bl)) pss_nil)
      (pss_cons (ps_setLc (i := 13) (own := [("_law_row_here", 16)])  (te := (tCall ((spLRow Ad.c_Form)) [] E0 (tCons (tCall ((spCmp Ad.c_Form Ad.c_BadForm)) [] E0 (tCons (tVar 6) (tCons (tMake Ad.c_Form ((spFI Ad.c_Form Ad.c_BadForm)) [] E0 (tCons (tOp (rIxL K) (tVar 16) (tC (.int 0))) (tCons (tOp (rIxL K) (tVar 16) (tC (.int 1))) (tCons (tOp (rIxL K) (tVar 16) (tC (.int 2))) tNil)))) tNil))) tNil))) rfl sc_law.nd rfl rfl (sw_true rfl rfl rfl (by decide +kernel)) (pi_list (pv 3)) (blkOk_by (own := [("_law_row_here", 16)]) (N := ["_law_script", "_law_pool_here", "_law_d", "_law_rows", "_law_forms", "_law_kept", "_law_first", "_law_second", "_law_third", "_law_told", "_law_far", "_law_main", "_law_due", "_law_found", "_law_k", "_law_form_here", "_law_row_here"]) (sc := defScope s_law) (by decide +kernel)) (fun _ _ _ _ _ => (pg_name (i := 16) sc_law.nd rfl (Or.inl rfl))) (fun _ _ _ _ _ => pts_nil) (fun _ _ _ _ _ => (pe_d (E := E0) (ok_law_row T) (hr.mono (by decide)) passL (pa_cons (pe_d (E := E0) (ok_compose T) (hr.mono (by decide)) passL (pa_cons (pv 6) (pa_cons (pe_mkd (E := E0) (ok_Form_init T) (hr.mono (by decide)) passL (pa_cons (pe_ix ix_list (pv 16) pe_int (fun _ _ => rfl)) (pa_cons (pe_ix ix_list (pv 16) pe_int (fun _ _ => rfl)) (pa_cons (pe_ix ix_list (pv 16) pe_int (fun _ _ => rfl)) pa_nil)))) pa_nil))) pa_nil))))
      (pss_one (ps_ret (pe_and (pe_cmpR (op_eqD hr.units) (pe_callB (cr_sortedZ (room65 hr)) (by rfl) T.b_sorted (by decide +kernel) (pa_cons (pv 13) pa_nil)) (pv 3) (nomark _)) (pe_one (pe_cmpR (op_eqD hr.units) (pe_lc (own := [("_law_form_here", 15)])  (te := (tCall ((spLRow Ad.c_Form)) [] E0 (tCons (tVar 15) tNil))) rfl sc_law.nd  (pi_list (pv 4)) (blkOk_by (own := [("_law_form_here", 15)]) (N := ["_law_script", "_law_pool_here", "_law_d", "_law_rows", "_law_forms", "_law_kept", "_law_first", "_law_second", "_law_third", "_law_told", "_law_far", "_law_main", "_law_due", "_law_found", "_law_k", "_law_form_here", "_law_row_here"]) (sc := defScope s_law) (by decide +kernel)) (fun _ _ _ _ _ => (pg_name (i := 15) sc_law.nd rfl (Or.inl rfl))) (fun _ _ _ _ _ => pts_nil) (fun _ _ _ _ _ => (pe_d (E := E0) (ok_law_row T) (hr.mono (by decide)) passL (pa_cons (pv 15) pa_nil)))) (pv 5) (nomark _)))))))))))))))))))))))))))), ?_⟩
    try dsimp only [cxOf]
    have B := Hv.start nt
    wtm_at "rs"
    rename_i p hp
    replace B := B.new (o := .lst [.int (ns.getD 0 0), .int 0, .bl (decide (10 ^ 18 ≤ ns.getD 0 0))]) hp
    clear hp
    refine use_Disc PoolAt.new (by decide) (by decide) (by decide) fun dz us d3z dlz d4z pz => ?_
    replace B := B.put (u := .lst us)
    obtain ⟨c0, k0, b0, hpz, k00, k01⟩ := pz
    rw [upd_same] at hpz
    cases hpz
    refine B.gen fun G B => ?_
    wtm_at "rs"
    refine rd_cut (fun σ2 G => ∃ (d c k : Int) (b : Bool), σ2 = [some (.ref a), some (.ref p), some (.int d), none, none, none, none, none, none, none, none, none, none, none, none, none, none] ∧ Hv noX H [(p, .lst [.int c, .int k, .bl b])] [] [] G ∧ 0 ≤ k ∧ k ≤ 10 ∧ d < 0 ∧ -1000 ≤ d ∧ (d % 4 = 0 ∨ d % 4 = 1)) ?_ ?_
    · wtm_at "rs"
      rename_i c1 e1 e10 e11
      replace B := B.put (u := .lst [.int c1, .int (k0 + 1), .bl b0])
      refine B.gen fun G B => ?_
      by_cases z : e1 = 1
      · refine rd_eqT z ?_
        wtm_at "rs"
        refine use_Disc (j := 5) ⟨c1, k0 + 1, b0, B.mAt (a := p) (by wtm_at "mem"), by omega, by omega⟩ (by decide) (by decide) (by decide) fun d us d3 dl d4 pz => ?_
        replace B := B.put (u := .lst us)
        obtain ⟨c2, k2, b2, hpz, k20, k21⟩ := pz
        rw [upd_same] at hpz
        cases hpz
        wtm_at "rs"
        exact ⟨d, _, _, _, rfl, B, by omega, by omega, by omega, by omega, d4⟩
      · refine rd_eqF z ?_
        wtm_at "rs"
        exact ⟨dz, c1, k0 + 1, _, rfl, B, by omega, by omega, by omega, by omega, d4z⟩
    · clear B
      rintro σ2 G ⟨d, c, k, bb, rfl, B, k0', k1', d1, d0, d4⟩
      wtm_at "rs"
      refine ⟨d, rfl, d0, d1, B.nt, fun D ys G2 s2 n2 f2 hD ls => ?_⟩
      replace B := B.next s2 n2
      have hpG := B.mAt (a := p) (by wtm_at "mem")
      have Dp : D ≠ p := fun e => by
        rw [e] at hD
        have := HO.lst.inj (Option.some.inj (hD.symm.trans hpG))
        have e0 := congrArg (fun l : List V => l[0]?) this
        cases ys with
        | nil => cases this
        | cons y ys => cases e0
      have np : p ∉ ys := fun m => by
        obtain ⟨g, hg⟩ := ls.mem m
        have := HO.lst.inj (Option.some.inj (hg.symm.trans hpG))
        have e0 := congrArg (fun l : List V => l[2]?) this
        cases e0
      have hS' := B.same.seq hS
      have rn := rf_main d1 d0 d4
      have nt2 := B.nt
      clear B s2 f2
      have B := Hv.start nt2
      wtm_at "rs"
      refine rd_lcRG (fun D2 i ys' G' => ∃ (xs : List Addr) (fs : List Fm), ys' = xs.map V.ref ∧ fs.length = i ∧ Hv noX G2 [(D2, .lst ys')] [] [fun G => FmA Ad.c_Form G xs fs] G' ∧ ∀ f ∈ fs, Drawn d f) (fun D2 hD2 => ⟨[], [], rfl, rfl, (B.new (o := .lst []) hD2).rig (P := fun G => FmA Ad.c_Form G [] []) fun _ _ => trivial, fun f h => absurd h List.not_mem_nil⟩) ?_ ?_
      · clear B
        rintro D2 i ys' G' hD2 hi hG ⟨xs, fs, rfl, fl, B, hfs⟩
        have hS2 := B.same.seq hS'
        have hFm := B.zAt (P := fun G => FmA Ad.c_Form G xs fs) (by wtm_at "mem")
        have xl := hFm.len
        wtm_at "r"
        refine ⟨rfl, ?_⟩
        wtm_at "rs"
        rename_i p1 hp1
        have hD1 := B.oAt hD
        have ls1 := ls.mono B.same
        refine use_LFm PoolAt.new (by decide) (fun e => by rw [e, hp1] at hD1; cases hD1) (same_new hp1 _ _ hD1) (ls1.mono (same_new hp1)) (ls1.nmem hp1) d0 d1 rn (NoT.upd B.nt rfl) fun x1 f1 G3 r1 b3 n3 i3 => ?_
        have s3 := But.old b3 (same_new hp1) hp1
        replace B := B.next s3 n3
        have P2 := (B.zAt (P := fun G => FmA Ad.c_Form G xs fs) (by wtm_at "mem")).snoc i3
        refine put_G (J := fun D2 i ys' G' => ∃ (xs : List Addr) (fs : List Fm), ys' = xs.map V.ref ∧ fs.length = i ∧ Hv noX G2 [(D2, .lst ys')] [] [fun G => FmA Ad.c_Form G xs fs] G' ∧ ∀ f ∈ fs, Drawn d f) (B.mAt (a := D2) (by wtm_at "mem")) (by rw [List.length_map, xl, fl]; exact Nat.lt_of_lt_of_le hi (by decide)) ?_
        refine ⟨xs ++ [x1], fs ++ [f1], by rw [List.map_append]; rfl, by simp [fl], ((B.rig P2.rig).sub (by wtm_at "vsub") (by wtm_at "vsub")).put, fun f hf => ?_⟩
        rcases List.mem_append.mp hf with h | h
        · exact hfs f h
        · rw [List.mem_singleton.mp h]
          exact r1
      · clear B
        rintro Fo ys' G3 _ hFo ⟨xs, fs, rfl, fl, B, hfs⟩
        obtain ⟨f1, f2, f3, rfl⟩ : ∃ f1 f2 f3, fs = [f1, f2, f3] := by
          match fs, fl with
          | [f1, f2, f3], _ => exact ⟨f1, f2, f3, rfl⟩
        have hFm := B.zAt (P := fun G => FmA Ad.c_Form G xs [f1, f2, f3]) (by wtm_at "mem")
        obtain ⟨x1, x2, x3, rfl⟩ : ∃ x1 x2 x3, xs = [x1, x2, x3] := by
          have xl := hFm.len
          match xs, xl with
          | [x1, x2, x3], _ => exact ⟨x1, x2, x3, rfl⟩
        obtain ⟨i1, i2, i3, _⟩ := hFm
        have r1 := hfs f1 (by simp)
        have r2 := hfs f2 (by simp)
        have r3 := hfs f3 (by simp)
        have hD3 := B.oAt hD
        have ls3 := ls.mono B.same
        have hp3 := B.oAt hpG
        have n3 := B.nt
        have hFm := B.zAt (P := fun G => FmA Ad.c_Form G [x1, x2, x3] [f1, f2, f3]) (by wtm_at "mem")
        have B := Hv.start n3
        wtm_at "rs"
        refine rd_lcPH (xs := [x1, x2, x3].map V.ref) (fun D j ys H' => ∃ bs : List Addr, ys = bs.map V.ref ∧ RowsZ D H' bs (([f1, f2, f3].map Fm.ns).take j)) (SqL.of hFo) n3 (fun D hD => ⟨[], rfl, trivial⟩) (fun D j ys x H' hx sm n1 hD hys Pz => ?_) fun Kp ys H' hKp hys sm n1 Pz => ?_
        · obtain ⟨bs, rfl, rb⟩ := Pz
          rw [List.getElem?_map] at hx
          obtain ⟨xi, hxi, rfl⟩ := Option.map_eq_some_iff.mp hx
          obtain ⟨fi, hfi, ii⟩ := hFm.at hxi
          have j3 := (List.getElem?_eq_some_iff.mp hxi).1
          have bl := rb.len
          rw [List.length_take] at bl
          have bl3 : bs.length ≤ 3 := by rw [bl]; exact Nat.le_trans (Nat.min_le_left ..) (by simp at j3; omega)
          wtm_at "r"
          refine ⟨rfl, ?_⟩
          wtm_at "rs"
          refine use_LRow (ii.mono sm) fun X hX => ?_
          have s4 := same_new (o := .lst fi.row) hX
          have XD : X ≠ D := fun e => by rw [← e, hX] at hys; cases hys
          refine put_PH (P := fun ys H' => ∃ bs : List Addr, ys = bs.map V.ref ∧ RowsZ D H' bs (([f1, f2, f3].map Fm.ns).take (j + 1))) (s4 _ _ hys) (by rw [List.length_map]; exact Nat.lt_of_le_of_lt bl3 (by decide)) (sm.trans s4) hD (NoT.upd n1 rfl) ⟨bs ++ [X], by simp, ?_⟩
          rw [List.take_add_one, List.getElem?_map, hfi]
          exact ((rb.but (But.of s4)).but (But.put But.refl)).snoc XD (by rw [upd_ne XD]; exact upd_same)
        · obtain ⟨bs, rfl, rb⟩ := Pz
          rw [show ([f1, f2, f3].map Fm.ns).take ([x1, x2, x3].map V.ref).length = [f1.ns, f2.ns, f3.ns] from rfl] at rb
          have hD4 := sm _ _ hD3
          have ls4 := ls3.mono sm
          have hp4 := sm _ _ hp3
          have hFo4 := sm _ _ hFo
          have hKp4 := hys
          have i1 := i1.mono sm
          have i2 := i2.mono sm
          have i3 := i3.mono sm
          have hFm := hFm.mono sm
          have npb : p ∉ bs := fun m => by
            obtain ⟨i, hi, e⟩ := List.mem_iff_getElem.mp m
            obtain ⟨a0, r0, e1, ha0, hr0, _, e2⟩ := rb.at (i := i) (v := .ref p) (by rw [List.getElem?_map, List.getElem?_eq_getElem hi, e]; rfl)
            cases e1
            have := HO.lst.inj (Option.some.inj (e2.symm.trans hp4))
            have hm := List.mem_of_getElem? hr0
            have e0 := congrArg (fun l : List V => l[2]?) this
            simp only [List.mem_cons, List.not_mem_nil, or_false] at hm
            rcases hm with h | h | h <;> rw [h] at e0 <;> cases e0
          have Kpp : Kp ≠ p := fun e => by rw [e, hp3] at hKp; cases hKp
          have Fop : Fo ≠ p := fun e => by
            rw [e] at hFo4
            have := HO.lst.inj (Option.some.inj (hFo4.symm.trans hp4))
            have e0 := congrArg (fun l : List V => l[0]?) this
            cases e0
          clear B sm hFo hp3 ls3 hD3 hKp
          have B := ((((Hv.pool n1 hp4).rig hFm.rig).rig i3.rig).rig i2.rig).rig i1.rig
          have C1 : Cl d f1 := ⟨r1.ok, r1.D, r1.pr⟩
          have C2 : Cl d f2 := ⟨r2.ok, r2.D, r2.pr⟩
          have C3 : Cl d f3 := ⟨r3.ok, r3.D, r3.pr⟩
          have M1 : Mul d f1 := ⟨C1, d0, r1.bd.mono (by decide), by have := r1.bd.1.lt; omega⟩
          have M2 : Mul d f2 := ⟨C2, d0, r2.bd.mono (by decide), by have := r2.bd.1.lt; omega⟩
          have M3 : Mul d f3 := ⟨C3, d0, r3.bd.mono (by decide), by have := r3.bd.1.lt; omega⟩
          clear hFm i1 i2 i3
          have hFo4 : H' Fo = some (.lst [.ref x1, .ref x2, .ref x3]) := hFo4
          wtm_at "rs"
          have mem_row : ∀ {g : Fm}, Cl d g → g.red → g.ns ∈ (rfL d).map Fm.ns := fun {g} c r => List.mem_map_of_mem ((mem_cl d1 d0).mpr ⟨c, r⟩)
          refine use_CmpM (B.zAt (P := fun G => IsF Ad.c_Form G x1 f1) (by wtm_at "mem")) (B.zAt (P := fun G => IsF Ad.c_Form G x2 f2) (by wtm_at "mem")) M1 M2 B.nt fun t G M12 s2 n2' i2 => ?_
          replace B := (B.next s2 n2').rig i2.rig
          clear s2 n2' i2
          have C12 := C1.mulC C2
          have c12r := (C1.mul C2).2.2
          refine B.gen fun G B => ?_
          wtm_at "rs"
          refine use_LRow (B.zAt (P := fun G => IsF Ad.c_Form G t (mulF f1 f2)) (by wtm_at "mem")) fun R hR => ?_
          replace B := B.newL (o := .lst (mulF f1 f2).row) hR
          wtm_at "rs"
          refine rd_ninZ (r := (mulF f1 f2).ns) (SqL.of (B.oAtX hD4 Dp)) ((ls4.but B.but1 np).rowsZ np) (SqL.of (B.lAt (a := R) (o := .lst (mulF f1 f2).row) (by wtm_at "mem"))) ?_
          rw [decide_eq_true (mem_row C12 c12r)]
          wtm_at "rs"
          refine use_CmpM (B.zAt (P := fun G => IsF Ad.c_Form G x2 f2) (by wtm_at "mem")) (B.zAt (P := fun G => IsF Ad.c_Form G x1 f1) (by wtm_at "mem")) M2 M1 B.nt fun t2 G2' _ s2 n2' i2 => ?_
          replace B := (B.next s2 n2').rig i2.rig
          refine use_FEq T (B.zAt (P := fun G => IsF Ad.c_Form G t (mulF f1 f2)) (by wtm_at "mem")) i2 B.nt ?_
          rw [decide_eq_true (C1.comm C2)]
          clear s2 n2' i2
          replace B := B.sub (L' := []) (Z' := [fun G => IsF Ad.c_Form G t (mulF f1 f2), fun G => IsF Ad.c_Form G x1 f1, fun G => IsF Ad.c_Form G x2 f2, fun G => IsF Ad.c_Form G x3 f3, fun G => FmA Ad.c_Form G [x1, x2, x3] [f1, f2, f3]]) (by wtm_at "vsub") (by wtm_at "vsub")
          refine B.gen fun G B => ?_
          wtm_at "rs"
          refine use_LRow (B.zAt (P := fun G => IsF Ad.c_Form G t (mulF f1 f2)) (by wtm_at "mem")) fun R hR => ?_
          replace B := B.newL (o := .lst (mulF f1 f2).row) hR
          clear hR
          refine B.gen fun G B => ?_
          obtain ⟨dx1, j1⟩ := (B.zAt (P := fun G => IsF Ad.c_Form G x1 f1) (by wtm_at "mem"))
          wtm_at "rs"
          refine use_FRed ⟨dx1, j1⟩ C1.ok (r1.bd.mono (by decide)) (Nat.le_trans (len_any C1.ok (n := 40) r1.bd.1.lt.2) (by decide)) B.nt fun y1 G2' s2 n2' i2 => ?_
          replace B := (B.next s2 n2').rig i2.rig
          wtm_at "rs"
          refine use_LRow i2 fun R1 hR1 => ?_
          replace B := B.newL (o := .lst (redF f1).row) hR1
          clear s2 n2' i2 hR1 j1
          refine B.gen fun G B => ?_
          obtain ⟨dx2, j2⟩ := (B.zAt (P := fun G => IsF Ad.c_Form G x2 f2) (by wtm_at "mem"))
          wtm_at "rs"
          refine use_FRed ⟨dx2, j2⟩ C2.ok (r2.bd.mono (by decide)) (Nat.le_trans (len_any C2.ok (n := 40) r2.bd.1.lt.2) (by decide)) B.nt fun y2 G2' s2 n2' i2 => ?_
          replace B := (B.next s2 n2').rig i2.rig
          wtm_at "rs"
          refine use_LRow i2 fun R2 hR2 => ?_
          replace B := B.newL (o := .lst (redF f2).row) hR2
          clear s2 n2' i2 hR2 j2
          refine B.gen fun G B => ?_
          wtm_at "rs"
          refine ⟨R1, R2, redF f1, redF f2, d, rfl, SqL.of (B.lAt (a := R1) (o := .lst (redF f1).row) (by wtm_at "mem")), SqL.of (B.lAt (a := R2) (o := .lst (redF f2).row) (by wtm_at "mem")), d1, d0, (mem_cl d1 d0).mpr ⟨C1.rd, redF_ok C1.ok⟩, (mem_cl d1 d0).mpr ⟨C2.rd, redF_ok C2.ok⟩, B.nt, fun L G2' s2 n2' f2' hL => ?_⟩
          replace B := B.got s2 n2' f2' hL
          have er : mulF (redF f1) (redF f2) = mulF f1 f2 := (C1.congr C2 (redF_eqv f1) (redF_eqv f2)).symm
          refine rd_neInts (ns := (mulF f1 f2).ns) (ms := (mulF (redF f1) (redF f2)).ns) (SqL.of (B.lAt (a := R) (o := .lst (mulF f1 f2).row) (by wtm_at "mem"))) (SqL.of (B.lAt (a := L) (o := .lst (mulF (redF f1) (redF f2)).row) (by wtm_at "mem"))) ?_
          refine ⟨false, by rw [er]; simp, ?_⟩
          rw [if_neg (by decide)]
          clear s2 n2' f2' hL
          replace B := B.sub (L' := []) (Z' := [fun G => IsF Ad.c_Form G t (mulF f1 f2), fun G => IsF Ad.c_Form G x1 f1, fun G => IsF Ad.c_Form G x2 f2, fun G => IsF Ad.c_Form G x3 f3, fun G => FmA Ad.c_Form G [x1, x2, x3] [f1, f2, f3]]) (by wtm_at "vsub") (by wtm_at "vsub")
          refine B.gen fun G B => ?_
          obtain ⟨dx1, j1⟩ := (B.zAt (P := fun G => IsF Ad.c_Form G x1 f1) (by wtm_at "mem"))
          wtm_at "rs"
          rename_i c3 e3 e30 e31 L0 hL0
          have eK : (10 : Int) ^ 15 = 1000000000000000 := by decide
          rw [eK]
          generalize hK : (1000000000000000 : Int) + e3 = K0 at *
          replace B := (B.put (u := .lst [.int c3, .int (k + 1), .bl bb])).newL (o := .lst ([K0, 0].map V.int)) hL0
          obtain ⟨MG, bg⟩ := great_mul C1 d0 r1.bs (K := K0) (by omega) (by omega)
          have eG := Fm.turn_eqv f1 [K0, 0]
          refine use_FTurn (ks := [K0, 0]) (B.zAt (P := fun G => IsF Ad.c_Form G x1 f1) (by wtm_at "mem")) C1.ok (SqL.of (B.lAt (a := L0) (by wtm_at "mem"))) bg (fun k hk => by
            simp only [List.mem_cons, List.not_mem_nil, or_false] at hk
            rcases hk with e | e <;> rw [e]
            · exact Bd.mono (n := 50) (Bd.of (by omega) (by omega)) (by decide)
            · exact Bd.mono (n := 1) ⟨by decide⟩ (by decide)) B.nt fun xg G2' s2 n2' ig => ?_
          generalize f1.turn [K0, 0] = g1 at *
          replace B := ((B.next s2 n2').rig ig.rig).sub (L' := []) (Z' := [fun G => IsF Ad.c_Form G xg g1, fun G => IsF Ad.c_Form G t (mulF f1 f2), fun G => IsF Ad.c_Form G x1 f1, fun G => IsF Ad.c_Form G x2 f2, fun G => IsF Ad.c_Form G x3 f3, fun G => FmA Ad.c_Form G [x1, x2, x3] [f1, f2, f3]]) (by wtm_at "vsub") (by wtm_at "vsub")
          clear s2 n2' ig j1 hL0 bg
          refine B.gen fun G B => ?_
          wtm_at "rs"
          refine use_CmpM (B.zAt (P := fun G => IsF Ad.c_Form G xg g1) (by wtm_at "mem")) (B.zAt (P := fun G => IsF Ad.c_Form G x2 f2) (by wtm_at "mem")) MG M2 B.nt fun t2 G2' _ s2 n2' i2 => ?_
          replace B := B.next s2 n2'
          wtm_at "rs"
          refine use_FEq T i2 (B.zAt (P := fun G => IsF Ad.c_Form G t (mulF f1 f2)) (by wtm_at "mem")) B.nt ?_
          rw [decide_eq_true (C1.congr C2 eG (Fm.eqv.refl f2)).symm]
          clear s2 n2' i2
          refine B.gen fun G B => ?_
          wtm_at "rs"
          refine use_Opp (B.zAt (P := fun G => IsF Ad.c_Form G xg g1) (by wtm_at "mem")) MG.cl.ok (MG.bd.mono (by decide)) B.nt fun t2 G2' s2 n2' i2 => ?_
          replace B := (B.next s2 n2').rig i2.rig
          wtm_at "rs"
          refine use_Opp (B.zAt (P := fun G => IsF Ad.c_Form G x1 f1) (by wtm_at "mem")) C1.ok (r1.bd.mono (by decide)) B.nt fun t3 G3' s3 n3' i3 => ?_
          replace B := B.next s3 n3'
          refine use_FEq T (B.zAt (P := fun G => IsF Ad.c_Form G t2 (redF g1.opp)) (by wtm_at "mem")) i3 B.nt ?_
          rw [decide_eq_true (redF_congr C1.opp.ok eG.opp).symm]
          clear s2 n2' i2 s3 n3' i3
          replace B := B.sub (L' := []) (Z' := [fun G => IsF Ad.c_Form G t (mulF f1 f2), fun G => IsF Ad.c_Form G x1 f1, fun G => IsF Ad.c_Form G x2 f2, fun G => IsF Ad.c_Form G x3 f3, fun G => FmA Ad.c_Form G [x1, x2, x3] [f1, f2, f3]]) (by wtm_at "vsub") (by wtm_at "vsub")
          refine B.gen fun G B => ?_
          wtm_at "rs"
          refine use_CmpM (B.zAt (P := fun G => IsF Ad.c_Form G t (mulF f1 f2)) (by wtm_at "mem")) (B.zAt (P := fun G => IsF Ad.c_Form G x3 f3) (by wtm_at "mem")) M12 M3 B.nt fun u1 G2' _ s2 n2' i2 => ?_
          replace B := (B.next s2 n2').rig i2.rig
          wtm_at "rs"
          refine use_CmpM (B.zAt (P := fun G => IsF Ad.c_Form G x2 f2) (by wtm_at "mem")) (B.zAt (P := fun G => IsF Ad.c_Form G x3 f3) (by wtm_at "mem")) M2 M3 B.nt fun u2 G3' M23 s3 n3' i3 => ?_
          replace B := (B.next s3 n3').rig i3.rig
          wtm_at "rs"
          refine use_CmpM (B.zAt (P := fun G => IsF Ad.c_Form G x1 f1) (by wtm_at "mem")) (B.zAt (P := fun G => IsF Ad.c_Form G u2 (mulF f2 f3)) (by wtm_at "mem")) M1 M23 B.nt fun u3 G4' _ s4 n4' i4 => ?_
          replace B := B.next s4 n4'
          refine use_FEq T (B.zAt (P := fun G => IsF Ad.c_Form G u1 (mulF (mulF f1 f2) f3)) (by wtm_at "mem")) i4 B.nt ?_
          rw [decide_eq_true (C1.assoc C2 C3)]
          clear s2 n2' i2 s3 n3' i3 s4 n4' i4
          replace B := B.sub (L' := []) (Z' := [fun G => IsF Ad.c_Form G t (mulF f1 f2), fun G => IsF Ad.c_Form G x1 f1, fun G => IsF Ad.c_Form G x2 f2, fun G => IsF Ad.c_Form G x3 f3, fun G => FmA Ad.c_Form G [x1, x2, x3] [f1, f2, f3]]) (by wtm_at "vsub") (by wtm_at "vsub")
          refine B.gen fun G B => ?_
          obtain ⟨dd, jj⟩ := (B.zAt (P := fun G => IsF Ad.c_Form G x1 f1) (by wtm_at "mem"))
          wtm_at "rs"
          refine use_FRed ⟨dd, jj⟩ C1.ok (r1.bd.mono (by decide)) (Nat.le_trans (len_any C1.ok (n := 40) r1.bd.1.lt.2) (by decide)) B.nt fun y1 G2' s2 n2' i2 => ?_
          replace B := (B.next s2 n2').rig i2.rig
          clear s2 n2' jj
          obtain ⟨dd, jj⟩ := (B.zAt (P := fun G => IsF Ad.c_Form G x2 f2) (by wtm_at "mem"))
          wtm_at "rs"
          refine use_FRed ⟨dd, jj⟩ C2.ok (r2.bd.mono (by decide)) (Nat.le_trans (len_any C2.ok (n := 40) r2.bd.1.lt.2) (by decide)) B.nt fun y2 G2' s2 n2' i2 => ?_
          replace B := (B.next s2 n2').rig i2.rig
          clear s2 n2' jj
          wtm_at "rs"
          refine use_CmpM (B.zAt (P := fun G => IsF Ad.c_Form G y1 (redF f1)) (by wtm_at "mem")) (B.zAt (P := fun G => IsF Ad.c_Form G y2 (redF f2)) (by wtm_at "mem")) (Mul.red C1.rd d0 (redF_ok C1.ok)) (Mul.red C2.rd d0 (redF_ok C2.ok)) B.nt fun u1 G2' _ s2 n2' i2 => ?_
          replace B := B.next s2 n2'
          wtm_at "rs"
          refine use_FEq T i2 (B.zAt (P := fun G => IsF Ad.c_Form G t (mulF f1 f2)) (by wtm_at "mem")) B.nt ?_
          rw [decide_eq_true er]
          clear s2 n2' i2
          replace B := B.sub (L' := []) (Z' := [fun G => IsF Ad.c_Form G t (mulF f1 f2), fun G => IsF Ad.c_Form G x1 f1, fun G => IsF Ad.c_Form G x2 f2, fun G => IsF Ad.c_Form G x3 f3, fun G => FmA Ad.c_Form G [x1, x2, x3] [f1, f2, f3]]) (by wtm_at "vsub") (by wtm_at "vsub")
          refine B.gen fun G B => ?_
          wtm_at "rs"
          refine use_MF d1 d4 (by omega) B.nt fun xm G2' s2 n2' f2' i2 => ?_
          replace B := (B.next s2 n2').rig i2.rig
          clear s2 n2' f2' i2
          refine B.gen fun G B => ?_
          wtm_at "rs"
          rename_i L1 hL1
          replace B := B.newL (o := .lst ([1, 0, -d / 4].map V.int)) hL1
          clear hL1
          refine B.gen fun G B => ?_
          refine rd_cut (fun σ2 G => ∃ Du, σ2 = [some (.ref a), some (.ref p), some (.int d), some (.ref D), some (.ref Fo), some (.ref Kp), some (.ref x1), some (.ref x2), some (.ref x3), some (.ref t), some (.ref xg), some (.ref xm), some (.ref Du), none, none, none, none] ∧ Hv (· = p) H' [(p, .lst [.int c3, .int (k + 1), .bl bb])] [(Du, .lst (mainF d).row)] [fun G => IsF Ad.c_Form G xm (mainF d), fun G => IsF Ad.c_Form G t (mulF f1 f2), fun G => IsF Ad.c_Form G x1 f1, fun G => IsF Ad.c_Form G x2 f2, fun G => IsF Ad.c_Form G x3 f3, fun G => FmA Ad.c_Form G [x1, x2, x3] [f1, f2, f3]] G) ?_ ?_
          · wtm_at "rs"
            by_cases z : d % 4 = 1
            · refine rd_eqT z ?_
              wtm_at "rs"
              rename_i L2 hL2
              replace B := B.newL (o := .lst ([1, 1, (1 - d) / 4].map V.int)) hL2
              refine ⟨L2, rfl, ?_⟩
              rw [show (mainF d).row = [1, 1, (1 - d) / 4].map V.int by unfold mainF; rw [if_neg (by omega)]; rfl]
              exact B.sub (by wtm_at "vsub") (by wtm_at "vsub")
            · refine rd_eqF z ?_
              wtm_at "rs"
              refine ⟨L1, rfl, ?_⟩
              rw [show (mainF d).row = [1, 0, -d / 4].map V.int by unfold mainF; rw [if_pos (by omega)]; rfl]
              exact B.sub (by wtm_at "vsub") (by wtm_at "vsub")
          clear B
          rintro σ2 G ⟨Du, rfl, B⟩
          wtm_at "rs"
          have CM := C1.main
          have mr := mainF_red d1 d4
          have MM := Mul.red CM d0 mr
          refine use_LRow (B.zAt (P := fun G => IsF Ad.c_Form G xm (mainF d)) (by wtm_at "mem")) fun R hR => ?_
          replace B := B.newL (o := .lst (mainF d).row) hR
          wtm_at "rs"
          clear hR
          refine B.gen fun G B => ?_
          refine use_LRow (B.zAt (P := fun G => IsF Ad.c_Form G xm (mainF d)) (by wtm_at "mem")) fun R2 hR2 => ?_
          replace B := B.newL (o := .lst (mainF d).row) hR2
          wtm_at "rs"
          refine rd_ninZ (r := (mainF d).ns) (SqL.of (B.oAtX hD4 Dp)) ((ls4.but B.but1 np).rowsZ np) (SqL.of (B.lAt (a := R2) (o := .lst (mainF d).row) (by wtm_at "mem"))) ?_
          rw [decide_eq_true (mem_row CM mr)]
          clear hR2
          replace B := B.sub (L' := []) (Z' := [fun G => IsF Ad.c_Form G xm (mainF d), fun G => IsF Ad.c_Form G x1 f1, fun G => IsF Ad.c_Form G x2 f2, fun G => IsF Ad.c_Form G x3 f3, fun G => FmA Ad.c_Form G [x1, x2, x3] [f1, f2, f3]]) (by wtm_at "vsub") (by wtm_at "vsub")
          refine B.gen fun G B => ?_
          wtm_at "rs"
          refine use_CmpM (B.zAt (P := fun G => IsF Ad.c_Form G x1 f1) (by wtm_at "mem")) (B.zAt (P := fun G => IsF Ad.c_Form G xm (mainF d)) (by wtm_at "mem")) M1 MM B.nt fun u1 G2' _ s2 n2' i2 => ?_
          replace B := (B.next s2 n2').rig i2.rig
          obtain ⟨dd, jj⟩ := (B.zAt (P := fun G => IsF Ad.c_Form G x1 f1) (by wtm_at "mem"))
          wtm_at "rs"
          refine use_FRed ⟨dd, jj⟩ C1.ok (r1.bd.mono (by decide)) (Nat.le_trans (len_any C1.ok (n := 40) r1.bd.1.lt.2) (by decide)) B.nt fun y1 G2' s3 n3' i3 => ?_
          replace B := (B.next s3 n3').rig i3.rig
          refine use_FEq T (B.zAt (P := fun G => IsF Ad.c_Form G u1 (mulF f1 (mainF d))) (by wtm_at "mem")) i3 B.nt ?_
          rw [decide_eq_true C1.one']
          clear s2 n2' i2 s3 n3' i3 jj
          replace B := B.sub (L' := []) (Z' := [fun G => IsF Ad.c_Form G xm (mainF d), fun G => IsF Ad.c_Form G x1 f1, fun G => IsF Ad.c_Form G x2 f2, fun G => IsF Ad.c_Form G x3 f3, fun G => FmA Ad.c_Form G [x1, x2, x3] [f1, f2, f3]]) (by wtm_at "vsub") (by wtm_at "vsub")
          refine B.gen fun G B => ?_
          wtm_at "rs"
          refine use_CmpM (B.zAt (P := fun G => IsF Ad.c_Form G xm (mainF d)) (by wtm_at "mem")) (B.zAt (P := fun G => IsF Ad.c_Form G x2 f2) (by wtm_at "mem")) MM M2 B.nt fun u1 G2' _ s2 n2' i2 => ?_
          replace B := (B.next s2 n2').rig i2.rig
          obtain ⟨dd, jj⟩ := (B.zAt (P := fun G => IsF Ad.c_Form G x2 f2) (by wtm_at "mem"))
          wtm_at "rs"
          refine use_FRed ⟨dd, jj⟩ C2.ok (r2.bd.mono (by decide)) (Nat.le_trans (len_any C2.ok (n := 40) r2.bd.1.lt.2) (by decide)) B.nt fun y2 G2' s3 n3' i3 => ?_
          replace B := (B.next s3 n3').rig i3.rig
          refine use_FEq T (B.zAt (P := fun G => IsF Ad.c_Form G u1 (mulF (mainF d) f2)) (by wtm_at "mem")) i3 B.nt ?_
          rw [decide_eq_true C2.one]
          clear s2 n2' i2 s3 n3' i3 jj
          replace B := B.sub (L' := []) (Z' := [fun G => IsF Ad.c_Form G xm (mainF d), fun G => IsF Ad.c_Form G x1 f1, fun G => IsF Ad.c_Form G x2 f2, fun G => IsF Ad.c_Form G x3 f3, fun G => FmA Ad.c_Form G [x1, x2, x3] [f1, f2, f3]]) (by wtm_at "vsub") (by wtm_at "vsub")
          refine B.gen fun G B => ?_
          wtm_at "rs"
          refine use_Opp (B.zAt (P := fun G => IsF Ad.c_Form G x1 f1) (by wtm_at "mem")) C1.ok (r1.bd.mono (by decide)) B.nt fun u1 G2' s2 n2' i2 => ?_
          replace B := (B.next s2 n2').rig i2.rig
          have O1 := Mul.red C1.opp.rd d0 (redF_ok C1.opp.ok)
          wtm_at "rs"
          refine use_CmpM (B.zAt (P := fun G => IsF Ad.c_Form G x1 f1) (by wtm_at "mem")) (B.zAt (P := fun G => IsF Ad.c_Form G u1 (redF f1.opp)) (by wtm_at "mem")) M1 O1 B.nt fun u2 G3' _ s3 n3' i3 => ?_
          replace B := B.next s3 n3'
          wtm_at "rs"
          refine use_FEq T i3 (B.zAt (P := fun G => IsF Ad.c_Form G xm (mainF d)) (by wtm_at "mem")) B.nt ?_
          rw [decide_eq_true ((C1.congr C1.opp (Fm.eqv.refl f1) (redF_eqv f1.opp)).symm.trans C1.inv)]
          clear s2 n2' i2 s3 n3' i3
          replace B := B.sub (L' := []) (Z' := [fun G => IsF Ad.c_Form G xm (mainF d), fun G => IsF Ad.c_Form G x1 f1, fun G => IsF Ad.c_Form G x2 f2, fun G => IsF Ad.c_Form G x3 f3, fun G => FmA Ad.c_Form G [x1, x2, x3] [f1, f2, f3]]) (by wtm_at "vsub") (by wtm_at "vsub")
          refine B.gen fun G B => ?_
          wtm_at "rs"
          refine use_Opp (B.zAt (P := fun G => IsF Ad.c_Form G x2 f2) (by wtm_at "mem")) C2.ok (r2.bd.mono (by decide)) B.nt fun u1 G2' s2 n2' i2 => ?_
          replace B := (B.next s2 n2').rig i2.rig
          wtm_at "rs"
          refine use_LRow i2 fun R hR => ?_
          replace B := B.newL (o := .lst (redF f2.opp).row) hR
          wtm_at "rs"
          refine rd_ninZ (r := (redF f2.opp).ns) (SqL.of (B.oAtX hD4 Dp)) ((ls4.but B.but1 np).rowsZ np) (SqL.of (B.lAt (a := R) (o := .lst (redF f2.opp).row) (by wtm_at "mem"))) ?_
          rw [decide_eq_true (mem_row C2.opp.rd (redF_ok C2.opp.ok))]
          clear s2 n2' i2 hR
          replace B := B.sub (L' := []) (Z' := [fun G => IsF Ad.c_Form G xm (mainF d), fun G => IsF Ad.c_Form G x1 f1, fun G => IsF Ad.c_Form G x2 f2, fun G => IsF Ad.c_Form G x3 f3, fun G => FmA Ad.c_Form G [x1, x2, x3] [f1, f2, f3]]) (by wtm_at "vsub") (by wtm_at "vsub")
          refine B.gen fun G B => ?_
          wtm_at "rs"
          refine use_Opp (B.zAt (P := fun G => IsF Ad.c_Form G x3 f3) (by wtm_at "mem")) C3.ok (r3.bd.mono (by decide)) B.nt fun u1 G2' s2 n2' i2 => ?_
          replace B := (B.next s2 n2').rig i2.rig
          have O3 := Mul.red C3.opp.rd d0 (redF_ok C3.opp.ok)
          wtm_at "rs"
          refine use_Opp (B.zAt (P := fun G => IsF Ad.c_Form G u1 (redF f3.opp)) (by wtm_at "mem")) O3.cl.ok (O3.bd.mono (by decide)) B.nt fun u2 G4' s4 n4' i4 => ?_
          replace B := (B.next s4 n4').rig i4.rig
          obtain ⟨dd, jj⟩ := (B.zAt (P := fun G => IsF Ad.c_Form G x3 f3) (by wtm_at "mem"))
          wtm_at "rs"
          refine use_FRed ⟨dd, jj⟩ C3.ok (r3.bd.mono (by decide)) (Nat.le_trans (len_any C3.ok (n := 40) r3.bd.1.lt.2) (by decide)) B.nt fun y3 G2' s3 n3' i3 => ?_
          replace B := (B.next s3 n3').rig i3.rig
          refine use_FEq T (B.zAt (P := fun G => IsF Ad.c_Form G u2 (redF (redF f3.opp).opp)) (by wtm_at "mem")) i3 B.nt ?_
          rw [decide_eq_true (redF_congr C3.ok (by
            have := (redF_eqv f3.opp).opp
            rwa [Fm.opp_opp] at this)).symm]
          clear s2 n2' i2 s3 n3' i3 s4 n4' i4 jj
          replace B := B.sub (L' := []) (Z' := [fun G => IsF Ad.c_Form G xm (mainF d), fun G => IsF Ad.c_Form G x1 f1, fun G => IsF Ad.c_Form G x2 f2, fun G => IsF Ad.c_Form G x3 f3, fun G => FmA Ad.c_Form G [x1, x2, x3] [f1, f2, f3]]) (by wtm_at "vsub") (by wtm_at "vsub")
          refine B.gen fun G B => ?_
          wtm_at "rs"
          have hDG := B.oAtX hD4 Dp
          have lsG := ls4.but B.but1 np
          have rlen : (rfL d).length ≤ 19 * (2 * 19) := by
            unfold rfL
            rw [if_pos d1]
            exact rfN_len (d := d) (n := 19)
          have yl := lsG.len
          refine rd_lcPH (xs := ys.map V.ref) (fun D j zs H2 => ∃ bs : List Addr, zs = bs.map V.ref ∧ RowsZ D H2 bs (((rfL d).take j).map fun g => (mulF f1 g).ns)) (SqL.of hDG) B.nt (fun D hD => ⟨[], rfl, trivial⟩) (fun D5 j zs x H2 hx sm n1 hD5 hys Pz => ?_) fun Fd zs H2 hFd hys sm n1 Pz => ?_
          · obtain ⟨cs, rfl, rb2⟩ := Pz
            rw [List.getElem?_map] at hx
            obtain ⟨y, hy, rfl⟩ := Option.map_eq_some_iff.mp hx
            obtain ⟨g, hg, hyr⟩ := lsG.at hy
            have gm := List.mem_of_getElem? hg
            obtain ⟨Cg, gr⟩ := (mem_cl d1 d0).mp gm
            have j3 := (List.getElem?_eq_some_iff.mp hy).1
            have bl := rb2.len
            rw [List.length_map, List.length_take] at bl
            have bl3 : cs.length ≤ j := by rw [bl]; exact Nat.min_le_left ..
            have hy2 : H2 y = some (.lst [.int g.a, .int g.b, .int g.c]) := sm _ _ hyr
            have k1 := (B.zAt (P := fun G => IsF Ad.c_Form G x1 f1) (by wtm_at "mem")).mono sm
            have gb := Mul.red Cg d0 gr
            wtm_at "r"
            refine ⟨rfl, ?_⟩
            wtm_at "rs"
            refine use_FI (f := g) rfl (gb.bd.mono (by decide)) Cg.ok n1 fun z1 H3 s3 n3' f3' i3 => ?_
            wtm_at "rs"
            refine use_CmpM (k1.mono s3) i3 M1 gb n3' fun z2 H4 _ s4 n4' i4 => ?_
            wtm_at "rs"
            refine use_LRow i4 fun X hX => ?_
            have s5 := (s3.trans s4).trans (same_new (o := .lst (mulF f1 g).row) hX)
            have XD : X ≠ D5 := fun e => by
              have := (s3.trans s4) _ _ hys
              rw [← e, hX] at this
              cases this
            refine put_PH (P := fun zs H2 => ∃ bs : List Addr, zs = bs.map V.ref ∧ RowsZ D5 H2 bs (((rfL d).take (j + 1)).map fun g => (mulF f1 g).ns)) (s5 _ _ hys) (by rw [List.length_map]; exact Nat.lt_of_lt_of_le (show cs.length < 1000 by omega) (by decide)) (sm.trans s5) hD5 (NoT.upd n4' rfl) ⟨cs ++ [X], by simp, ?_⟩
            rw [List.take_add_one, hg, List.map_append]
            exact ((rb2.but (But.of s5)).but (But.put But.refl)).snoc XD (by rw [upd_ne XD]; exact upd_same)
          · obtain ⟨cs, rfl, rb2⟩ := Pz
            rw [List.length_map, yl, List.take_length] at rb2
            replace B := B.next sm n1
            wtm_at "rs"
            refine rd_sortZ (SqL.of hys) (each91 rb2) (fun b hb => by
              obtain ⟨g, _, rfl⟩ := List.mem_map.mp hb
              exact (by decide : 3 ≤ 100)) fun as' q5 ez hm hq => ?_
            rw [sort91 C1 d0] at ez
            have s5 := same_new (o := .lst (as'.map V.ref)) hq
            have nq : ∀ a ∈ as', a ≠ q5 := fun a ha e => rb2.ex a (hm a ha) (e ▸ hq)
            replace B := B.newL (o := .lst (as'.map V.ref)) hq
            wtm_at "rs"
            refine rd_eqZs (rowsz_dp (SqL.of (B.lAt (a := q5) (by wtm_at "mem"))) ((rows91 ez nq).mono s5)) (rowsz_dp (SqL.of (B.oAtX hD4 Dp)) ((ls4.but B.but1 np).rowsZ np)) ?_
            refine ⟨_, rfl, ?_⟩
            rw [if_pos (decide_eq_true rfl)]
            clear ez rb2 hm hq sm n1 hFd hys s5
            refine B.gen fun G B => ?_
            wtm_at "rs"
            have hFoG := B.oAtX hFo4 Fop
            have hFmG := B.zAt (P := fun G => FmA Ad.c_Form G [x1, x2, x3] [f1, f2, f3]) (by wtm_at "mem")
            refine rd_lcPH (xs := [x1, x2, x3].map V.ref) (fun D j ys H' => ∃ bs : List Addr, ys = bs.map V.ref ∧ RowsZ D H' bs (([f1, f2, f3].map Fm.ns).take j)) (SqL.of hFoG) B.nt (fun D hD => ⟨[], rfl, trivial⟩) (fun D j ys x H' hx sm n1 hD hys Pz => ?_) fun Kq ys H6 hKq hys sm n1 Pz => ?_
            · obtain ⟨bs, rfl, rb⟩ := Pz
              rw [List.getElem?_map] at hx
              obtain ⟨xi, hxi, rfl⟩ := Option.map_eq_some_iff.mp hx
              obtain ⟨fi, hfi, ii⟩ := hFmG.at hxi
              have j3 := (List.getElem?_eq_some_iff.mp hxi).1
              have bl := rb.len
              rw [List.length_take] at bl
              have bl3 : bs.length ≤ 3 := by rw [bl]; exact Nat.le_trans (Nat.min_le_left ..) (by simp at j3; omega)
              wtm_at "r"
              refine ⟨rfl, ?_⟩
              wtm_at "rs"
              refine use_LRow (ii.mono sm) fun X hX => ?_
              have s4 := same_new (o := .lst fi.row) hX
              have XD : X ≠ D := fun e => by rw [← e, hX] at hys; cases hys
              refine put_PH (P := fun ys H' => ∃ bs : List Addr, ys = bs.map V.ref ∧ RowsZ D H' bs (([f1, f2, f3].map Fm.ns).take (j + 1))) (s4 _ _ hys) (by rw [List.length_map]; exact Nat.lt_of_le_of_lt bl3 (by decide)) (sm.trans s4) hD (NoT.upd n1 rfl) ⟨bs ++ [X], by simp, ?_⟩
              rw [List.take_add_one, List.getElem?_map, hfi]
              exact ((rb.but (But.of s4)).but (But.put But.refl)).snoc XD (by rw [upd_ne XD]; exact upd_same)
            · obtain ⟨ds, rfl, rd⟩ := Pz
              rw [show ([f1, f2, f3].map Fm.ns).take ([x1, x2, x3].map V.ref).length = [f1.ns, f2.ns, f3.ns] from rfl] at rd
              replace B := B.next sm n1
              wtm_at "rs"
              refine rd_eqZs (rowsz_dp (SqL.of hys) rd) (rowsz_dp (SqL.of (B.oAtX hKp4 Kpp)) ((rb.re (q := p) fun a ha e => npb (by rw [← e]; exact ha)).but B.but1)) ?_
              rw [decide_eq_true rfl]
              exact kq _
end
/-! ## what the top has left, and the end -/
structure ClsH (K : PySem.W.Frag) (C : Addr) : Prop where
  opg : PySem.W.plainGet K C Str.empty = true
  ohd : PySem.W.hasDictIn K C = true
  opo : PySem.W.plainOver K C = true
  osa : PySem.W.findIn K (.ref C) "__setattr__" = some (some (.builtin "object.__setattr__"))
  omk : PySem.W.makesIn K C = true
  okc : PySem.W.keepIn K (.ref C) = true
  oha : PySem.W.findIn K (.ref C) "__class__" = some (some (.builtin "object.__class__"))
  ohn : PySem.W.specialIn K (.builtin "object.__class__") "__get__" = some (some (.builtin "getset_descriptor.__get__"))
  otk : PySem.W.takesIn K (.builtin "object.__class__") = some true
  omr : PySem.W.mroIn K C (.type "object") = some true
  oci : PySem.W.isClsIn K C = true
  oct : PySem.W.typeIn K (.ref C) = some (.type "type")
theorem at_law_take {K : PySem.W.Frag} {h : Heap} {mg : Str → Option Value} (X : K.In h) (G : h.Ns mainGlobals mg) {f0 : Addr} {od0 an0 : Option Addr} {sl0 : Array (Option Value)} {oc0 kV0 dc0 pm0 cd0 ct0 : Value} (a0 : PySem.W.nsIn K mainGlobals "_law_take" = some (some (.ref f0))) (l0 : K.lookup f0 = some ⟨oc0, od0, .func (PySem.W.fnOf "_law_take" "_law_take" (defArgs s_law_take) (defBody s_law_take) (defScope s_law_take) .none kV0 dc0 pm0 an0 cd0 ct0), sl0⟩) (c0 : PySem.W.codeIn K cd0 "_law_take" = true) (k0 : PySem.W.keepIn K (.ref f0) = true) : DefAt K mg "_law_take" s_law_take ["_law_pool_here", "_law_limit"] := by
  have F := fun_mk (st := s_law_take) l0 c0 k0
  have b := F.binds (ps := ["_law_pool_here", "_law_limit"]) fun _ _ _ _ _ _ us hl => match us, hl with | [_, _], _ => rfl
  exact ⟨_, _, F, PySem.W.mg_of X G a0, b⟩
theorem at_law_discriminant {K : PySem.W.Frag} {h : Heap} {mg : Str → Option Value} (X : K.In h) (G : h.Ns mainGlobals mg) {f1 : Addr} {od1 an1 : Option Addr} {sl1 : Array (Option Value)} {oc1 kV1 dc1 pm1 cd1 ct1 : Value} (a1 : PySem.W.nsIn K mainGlobals "_law_discriminant" = some (some (.ref f1))) (l1 : K.lookup f1 = some ⟨oc1, od1, .func (PySem.W.fnOf "_law_discriminant" "_law_discriminant" (defArgs s_law_discriminant) (defBody s_law_discriminant) (defScope s_law_discriminant) .none kV1 dc1 pm1 an1 cd1 ct1), sl1⟩) (c1 : PySem.W.codeIn K cd1 "_law_discriminant" = true) (k1 : PySem.W.keepIn K (.ref f1) = true) : DefAt K mg "_law_discriminant" s_law_discriminant ["_law_pool_here", "_law_reach"] := by
  have F := fun_mk (st := s_law_discriminant) l1 c1 k1
  have b := F.binds (ps := ["_law_pool_here", "_law_reach"]) fun _ _ _ _ _ _ us hl => match us, hl with | [_, _], _ => rfl
  exact ⟨_, _, F, PySem.W.mg_of X G a1, b⟩
theorem at_law_common {K : PySem.W.Frag} {h : Heap} {mg : Str → Option Value} (X : K.In h) (G : h.Ns mainGlobals mg) {f2 : Addr} {od2 an2 : Option Addr} {sl2 : Array (Option Value)} {oc2 kV2 dc2 pm2 cd2 ct2 : Value} (a2 : PySem.W.nsIn K mainGlobals "_law_common" = some (some (.ref f2))) (l2 : K.lookup f2 = some ⟨oc2, od2, .func (PySem.W.fnOf "_law_common" "_law_common" (defArgs s_law_common) (defBody s_law_common) (defScope s_law_common) .none kV2 dc2 pm2 an2 cd2 ct2), sl2⟩) (c2 : PySem.W.codeIn K cd2 "_law_common" = true) (k2 : PySem.W.keepIn K (.ref f2) = true) : DefAt K mg "_law_common" s_law_common ["_law_a", "_law_b"] := by
  have F := fun_mk (st := s_law_common) l2 c2 k2
  have b := F.binds (ps := ["_law_a", "_law_b"]) fun _ _ _ _ _ _ us hl => match us, hl with | [_, _], _ => rfl
  exact ⟨_, _, F, PySem.W.mg_of X G a2, b⟩
theorem at_law_listed {K : PySem.W.Frag} {h : Heap} {mg : Str → Option Value} (X : K.In h) (G : h.Ns mainGlobals mg) {f3 : Addr} {od3 an3 : Option Addr} {sl3 : Array (Option Value)} {oc3 kV3 dc3 pm3 cd3 ct3 : Value} (a3 : PySem.W.nsIn K mainGlobals "_law_listed" = some (some (.ref f3))) (l3 : K.lookup f3 = some ⟨oc3, od3, .func (PySem.W.fnOf "_law_listed" "_law_listed" (defArgs s_law_listed) (defBody s_law_listed) (defScope s_law_listed) .none kV3 dc3 pm3 an3 cd3 ct3), sl3⟩) (c3 : PySem.W.codeIn K cd3 "_law_listed" = true) (k3 : PySem.W.keepIn K (.ref f3) = true) : DefAt K mg "_law_listed" s_law_listed ["_law_d"] := by
  have F := fun_mk (st := s_law_listed) l3 c3 k3
  have b := F.binds (ps := ["_law_d"]) fun _ _ _ _ _ _ us hl => match us, hl with | [_], _ => rfl
  exact ⟨_, _, F, PySem.W.mg_of X G a3, b⟩
theorem at_Form_init {K : PySem.W.Frag} {h : Heap} {mg : Str → Option Value} (X : K.In h) (G : h.Ns mainGlobals mg) {CO : Addr} (og : PySem.W.nsIn K mainGlobals "Form" = some (some (.ref CO))) (hc : ClsH K CO) {f4 : Addr} {od4 an4 : Option Addr} {sl4 : Array (Option Value)} {oc4 kV4 dc4 pm4 cd4 ct4 : Value} (a4 : PySem.W.findIn K (.ref CO) "__init__" = some (some (.ref f4))) (i4 : PySem.W.isFn K (.ref f4) = true) (l4 : K.lookup f4 = some ⟨oc4, od4, .func (PySem.W.fnOf "__init__" "Form.__init__" (defArgs s_Form_init) (defBody s_Form_init) (defScope s_Form_init) .none kV4 dc4 pm4 an4 cd4 ct4), sl4⟩) (c4 : PySem.W.codeIn K cd4 "Form.__init__" = true) (k4 : PySem.W.keepIn K (.ref f4) = true) : MkAt K mg "Form" CO "Form.__init__" s_Form_init ["self", "a", "b", "c"] := by
  have F := fun_mk (st := s_Form_init) l4 c4 k4
  have b := F.binds (ps := ["self", "a", "b", "c"]) fun _ _ _ _ _ _ us hl => match us, hl with | [_, _, _, _], _ => rfl
  exact ⟨⟨_, _, F, ⟨hc.omk, a4, i4, hc.okc⟩, b⟩, PySem.W.mg_of X G og⟩
theorem at_Form_stepped {K : PySem.W.Frag} {CO : Addr} {f5 : Addr} {od5 an5 : Option Addr} {sl5 : Array (Option Value)} {oc5 kV5 dc5 pm5 cd5 ct5 : Value} (a5 : PySem.W.findIn K (.ref CO) "stepped" = some (some (.ref f5))) (i5 : PySem.W.isFn K (.ref f5) = true) (l5 : K.lookup f5 = some ⟨oc5, od5, .func (PySem.W.fnOf "stepped" "Form.stepped" (defArgs s_Form_stepped) (defBody s_Form_stepped) (defScope s_Form_stepped) .none kV5 dc5 pm5 an5 cd5 ct5), sl5⟩) (c5 : PySem.W.codeIn K cd5 "Form.stepped" = true) (k5 : PySem.W.keepIn K (.ref f5) = true) : MethAt K CO "stepped" "Form.stepped" s_Form_stepped ["self", "k"] := by
  have F := fun_mk (st := s_Form_stepped) l5 c5 k5
  have b := F.binds (ps := ["self", "k"]) fun _ _ _ _ _ _ us hl => match us, hl with | [_, _], _ => rfl
  exact ⟨_, _, F, ⟨a5, i5, k5⟩, b⟩
theorem at_Form_turned {K : PySem.W.Frag} {CO : Addr} {f6 : Addr} {od6 an6 : Option Addr} {sl6 : Array (Option Value)} {oc6 kV6 dc6 pm6 cd6 ct6 : Value} (a6 : PySem.W.findIn K (.ref CO) "turned" = some (some (.ref f6))) (i6 : PySem.W.isFn K (.ref f6) = true) (l6 : K.lookup f6 = some ⟨oc6, od6, .func (PySem.W.fnOf "turned" "Form.turned" (defArgs s_Form_turned) (defBody s_Form_turned) (defScope s_Form_turned) .none kV6 dc6 pm6 an6 cd6 ct6), sl6⟩) (c6 : PySem.W.codeIn K cd6 "Form.turned" = true) (k6 : PySem.W.keepIn K (.ref f6) = true) : MethAt K CO "turned" "Form.turned" s_Form_turned ["self", "steps"] := by
  have F := fun_mk (st := s_Form_turned) l6 c6 k6
  have b := F.binds (ps := ["self", "steps"]) fun _ _ _ _ _ _ us hl => match us, hl with | [_, _], _ => rfl
  exact ⟨_, _, F, ⟨a6, i6, k6⟩, b⟩
theorem at_law_form {K : PySem.W.Frag} {h : Heap} {mg : Str → Option Value} (X : K.In h) (G : h.Ns mainGlobals mg) {f7 : Addr} {od7 an7 : Option Addr} {sl7 : Array (Option Value)} {oc7 kV7 dc7 pm7 cd7 ct7 : Value} (a7 : PySem.W.nsIn K mainGlobals "_law_form" = some (some (.ref f7))) (l7 : K.lookup f7 = some ⟨oc7, od7, .func (PySem.W.fnOf "_law_form" "_law_form" (defArgs s_law_form) (defBody s_law_form) (defScope s_law_form) .none kV7 dc7 pm7 an7 cd7 ct7), sl7⟩) (c7 : PySem.W.codeIn K cd7 "_law_form" = true) (k7 : PySem.W.keepIn K (.ref f7) = true) : DefAt K mg "_law_form" s_law_form ["_law_pool_here", "_law_rows"] := by
  have F := fun_mk (st := s_law_form) l7 c7 k7
  have b := F.binds (ps := ["_law_pool_here", "_law_rows"]) fun _ _ _ _ _ _ us hl => match us, hl with | [_, _], _ => rfl
  exact ⟨_, _, F, PySem.W.mg_of X G a7, b⟩
theorem at_Form_call {K : PySem.W.Frag} {CO : Addr} {f8 : Addr} {od8 an8 : Option Addr} {sl8 : Array (Option Value)} {oc8 kV8 dc8 pm8 cd8 ct8 : Value} (a8 : PySem.W.findIn K (.ref CO) "__call__" = some (some (.ref f8))) (i8 : PySem.W.isFn K (.ref f8) = true) (l8 : K.lookup f8 = some ⟨oc8, od8, .func (PySem.W.fnOf "__call__" "Form.__call__" (defArgs s_Form_call) (defBody s_Form_call) (defScope s_Form_call) .none kV8 dc8 pm8 an8 cd8 ct8), sl8⟩) (c8 : PySem.W.codeIn K cd8 "Form.__call__" = true) (k8 : PySem.W.keepIn K (.ref f8) = true) : MethAt K CO "__call__" "Form.__call__" s_Form_call ["self", "x", "y"] := by
  have F := fun_mk (st := s_Form_call) l8 c8 k8
  have b := F.binds (ps := ["self", "x", "y"]) fun _ _ _ _ _ _ us hl => match us, hl with | [_, _, _], _ => rfl
  exact ⟨_, _, F, ⟨a8, i8, k8⟩, b⟩
theorem fi_Form {K : PySem.W.Frag} {CO f : Addr} (a : PySem.W.findIn K (.ref CO) "__call__" = some (some (.ref f))) (v : PySem.W.fnIn K f = true) : ∀ g, PySem.W.findIn K (.ref CO) "__call__" = some (some (.ref g)) → PySem.W.fnIn K g = true := fun g h => by have z := h.symm.trans a; cases z; exact v
theorem at_common {K : PySem.W.Frag} {h : Heap} {mg : Str → Option Value} (X : K.In h) (G : h.Ns mainGlobals mg) {f9 : Addr} {od9 an9 : Option Addr} {sl9 : Array (Option Value)} {oc9 kV9 dc9 pm9 cd9 ct9 : Value} (a9 : PySem.W.nsIn K mainGlobals "common" = some (some (.ref f9))) (l9 : K.lookup f9 = some ⟨oc9, od9, .func (PySem.W.fnOf "common" "common" (defArgs s_common) (defBody s_common) (defScope s_common) .none kV9 dc9 pm9 an9 cd9 ct9), sl9⟩) (c9 : PySem.W.codeIn K cd9 "common" = true) (k9 : PySem.W.keepIn K (.ref f9) = true) : DefAt K mg "common" s_common ["a", "b"] := by
  have F := fun_mk (st := s_common) l9 c9 k9
  have b := F.binds (ps := ["a", "b"]) fun _ _ _ _ _ _ us hl => match us, hl with | [_, _], _ => rfl
  exact ⟨_, _, F, PySem.W.mg_of X G a9, b⟩
theorem at_coprime_point {K : PySem.W.Frag} {h : Heap} {mg : Str → Option Value} (X : K.In h) (G : h.Ns mainGlobals mg) {f10 : Addr} {od10 an10 : Option Addr} {sl10 : Array (Option Value)} {oc10 kV10 dc10 pm10 cd10 ct10 : Value} (a10 : PySem.W.nsIn K mainGlobals "coprime_point" = some (some (.ref f10))) (l10 : K.lookup f10 = some ⟨oc10, od10, .func (PySem.W.fnOf "coprime_point" "coprime_point" (defArgs s_coprime_point) (defBody s_coprime_point) (defScope s_coprime_point) .none kV10 dc10 pm10 an10 cd10 ct10), sl10⟩) (c10 : PySem.W.codeIn K cd10 "coprime_point" = true) (k10 : PySem.W.keepIn K (.ref f10) = true) : DefAt K mg "coprime_point" s_coprime_point ["form", "a"] := by
  have F := fun_mk (st := s_coprime_point) l10 c10 k10
  have b := F.binds (ps := ["form", "a"]) fun _ _ _ _ _ _ us hl => match us, hl with | [_, _], _ => rfl
  exact ⟨_, _, F, PySem.W.mg_of X G a10, b⟩
theorem at_bezout {K : PySem.W.Frag} {h : Heap} {mg : Str → Option Value} (X : K.In h) (G : h.Ns mainGlobals mg) {f11 : Addr} {od11 an11 : Option Addr} {sl11 : Array (Option Value)} {oc11 kV11 dc11 pm11 cd11 ct11 : Value} (a11 : PySem.W.nsIn K mainGlobals "bezout" = some (some (.ref f11))) (l11 : K.lookup f11 = some ⟨oc11, od11, .func (PySem.W.fnOf "bezout" "bezout" (defArgs s_bezout) (defBody s_bezout) (defScope s_bezout) .none kV11 dc11 pm11 an11 cd11 ct11), sl11⟩) (c11 : PySem.W.codeIn K cd11 "bezout" = true) (k11 : PySem.W.keepIn K (.ref f11) = true) : DefAt K mg "bezout" s_bezout ["x", "y"] := by
  have F := fun_mk (st := s_bezout) l11 c11 k11
  have b := F.binds (ps := ["x", "y"]) fun _ _ _ _ _ _ us hl => match us, hl with | [_, _], _ => rfl
  exact ⟨_, _, F, PySem.W.mg_of X G a11, b⟩
theorem at_with_coprime_number {K : PySem.W.Frag} {h : Heap} {mg : Str → Option Value} (X : K.In h) (G : h.Ns mainGlobals mg) {f12 : Addr} {od12 an12 : Option Addr} {sl12 : Array (Option Value)} {oc12 kV12 dc12 pm12 cd12 ct12 : Value} (a12 : PySem.W.nsIn K mainGlobals "with_coprime_number" = some (some (.ref f12))) (l12 : K.lookup f12 = some ⟨oc12, od12, .func (PySem.W.fnOf "with_coprime_number" "with_coprime_number" (defArgs s_with_coprime_number) (defBody s_with_coprime_number) (defScope s_with_coprime_number) .none kV12 dc12 pm12 an12 cd12 ct12), sl12⟩) (c12 : PySem.W.codeIn K cd12 "with_coprime_number" = true) (k12 : PySem.W.keepIn K (.ref f12) = true) : DefAt K mg "with_coprime_number" s_with_coprime_number ["form", "a"] := by
  have F := fun_mk (st := s_with_coprime_number) l12 c12 k12
  have b := F.binds (ps := ["form", "a"]) fun _ _ _ _ _ _ us hl => match us, hl with | [_, _], _ => rfl
  exact ⟨_, _, F, PySem.W.mg_of X G a12, b⟩
theorem at_inverse_rest {K : PySem.W.Frag} {h : Heap} {mg : Str → Option Value} (X : K.In h) (G : h.Ns mainGlobals mg) {f13 : Addr} {od13 an13 : Option Addr} {sl13 : Array (Option Value)} {oc13 kV13 dc13 pm13 cd13 ct13 : Value} (a13 : PySem.W.nsIn K mainGlobals "inverse_rest" = some (some (.ref f13))) (l13 : K.lookup f13 = some ⟨oc13, od13, .func (PySem.W.fnOf "inverse_rest" "inverse_rest" (defArgs s_inverse_rest) (defBody s_inverse_rest) (defScope s_inverse_rest) .none kV13 dc13 pm13 an13 cd13 ct13), sl13⟩) (c13 : PySem.W.codeIn K cd13 "inverse_rest" = true) (k13 : PySem.W.keepIn K (.ref f13) = true) : DefAt K mg "inverse_rest" s_inverse_rest ["a", "f"] := by
  have F := fun_mk (st := s_inverse_rest) l13 c13 k13
  have b := F.binds (ps := ["a", "f"]) fun _ _ _ _ _ _ us hl => match us, hl with | [_, _], _ => rfl
  exact ⟨_, _, F, PySem.W.mg_of X G a13, b⟩
theorem at_Form_next_step {K : PySem.W.Frag} {CO : Addr} {f14 : Addr} {od14 an14 : Option Addr} {sl14 : Array (Option Value)} {oc14 kV14 dc14 pm14 cd14 ct14 : Value} (a14 : PySem.W.findIn K (.ref CO) "next_step" = some (some (.ref f14))) (i14 : PySem.W.isFn K (.ref f14) = true) (l14 : K.lookup f14 = some ⟨oc14, od14, .func (PySem.W.fnOf "next_step" "Form.next_step" (defArgs s_Form_next_step) (defBody s_Form_next_step) (defScope s_Form_next_step) .none kV14 dc14 pm14 an14 cd14 ct14), sl14⟩) (c14 : PySem.W.codeIn K cd14 "Form.next_step" = true) (k14 : PySem.W.keepIn K (.ref f14) = true) : MethAt K CO "next_step" "Form.next_step" s_Form_next_step ["self"] := by
  have F := fun_mk (st := s_Form_next_step) l14 c14 k14
  have b := F.binds (ps := ["self"]) fun _ _ _ _ _ _ us hl => match us, hl with | [_], _ => rfl
  exact ⟨_, _, F, ⟨a14, i14, k14⟩, b⟩
theorem at_Form_steps {K : PySem.W.Frag} {CO : Addr} {f15 : Addr} {od15 an15 : Option Addr} {sl15 : Array (Option Value)} {oc15 kV15 dc15 pm15 cd15 ct15 : Value} (a15 : PySem.W.findIn K (.ref CO) "steps" = some (some (.ref f15))) (i15 : PySem.W.isFn K (.ref f15) = true) (l15 : K.lookup f15 = some ⟨oc15, od15, .func (PySem.W.fnOf "steps" "Form.steps" (defArgs s_Form_steps) (defBody s_Form_steps) (defScope s_Form_steps) .none kV15 dc15 pm15 an15 cd15 ct15), sl15⟩) (c15 : PySem.W.codeIn K cd15 "Form.steps" = true) (k15 : PySem.W.keepIn K (.ref f15) = true) : MethAt K CO "steps" "Form.steps" s_Form_steps ["self"] := by
  have F := fun_mk (st := s_Form_steps) l15 c15 k15
  have b := F.binds (ps := ["self"]) fun _ _ _ _ _ _ us hl => match us, hl with | [_], _ => rfl
  exact ⟨_, _, F, ⟨a15, i15, k15⟩, b⟩
theorem at_Form_reduced {K : PySem.W.Frag} {CO : Addr} {f16 : Addr} {od16 an16 : Option Addr} {sl16 : Array (Option Value)} {oc16 kV16 dc16 pm16 cd16 ct16 : Value} (a16 : PySem.W.findIn K (.ref CO) "reduced" = some (some (.ref f16))) (i16 : PySem.W.isFn K (.ref f16) = true) (l16 : K.lookup f16 = some ⟨oc16, od16, .func (PySem.W.fnOf "reduced" "Form.reduced" (defArgs s_Form_reduced) (defBody s_Form_reduced) (defScope s_Form_reduced) .none kV16 dc16 pm16 an16 cd16 ct16), sl16⟩) (c16 : PySem.W.codeIn K cd16 "Form.reduced" = true) (k16 : PySem.W.keepIn K (.ref f16) = true) : MethAt K CO "reduced" "Form.reduced" s_Form_reduced ["self"] := by
  have F := fun_mk (st := s_Form_reduced) l16 c16 k16
  have b := F.binds (ps := ["self"]) fun _ _ _ _ _ _ us hl => match us, hl with | [_], _ => rfl
  exact ⟨_, _, F, ⟨a16, i16, k16⟩, b⟩
theorem at_compose {K : PySem.W.Frag} {h : Heap} {mg : Str → Option Value} (X : K.In h) (G : h.Ns mainGlobals mg) {f17 : Addr} {od17 an17 : Option Addr} {sl17 : Array (Option Value)} {oc17 kV17 dc17 pm17 cd17 ct17 : Value} (a17 : PySem.W.nsIn K mainGlobals "compose" = some (some (.ref f17))) (l17 : K.lookup f17 = some ⟨oc17, od17, .func (PySem.W.fnOf "compose" "compose" (defArgs s_compose) (defBody s_compose) (defScope s_compose) .none kV17 dc17 pm17 an17 cd17 ct17), sl17⟩) (c17 : PySem.W.codeIn K cd17 "compose" = true) (k17 : PySem.W.keepIn K (.ref f17) = true) : DefAt K mg "compose" s_compose ["first", "second"] := by
  have F := fun_mk (st := s_compose) l17 c17 k17
  have b := F.binds (ps := ["first", "second"]) fun _ _ _ _ _ _ us hl => match us, hl with | [_, _], _ => rfl
  exact ⟨_, _, F, PySem.W.mg_of X G a17, b⟩
theorem at_main_form {K : PySem.W.Frag} {h : Heap} {mg : Str → Option Value} (X : K.In h) (G : h.Ns mainGlobals mg) {f18 : Addr} {od18 an18 : Option Addr} {sl18 : Array (Option Value)} {oc18 kV18 dc18 pm18 cd18 ct18 : Value} (a18 : PySem.W.nsIn K mainGlobals "main_form" = some (some (.ref f18))) (l18 : K.lookup f18 = some ⟨oc18, od18, .func (PySem.W.fnOf "main_form" "main_form" (defArgs s_main_form) (defBody s_main_form) (defScope s_main_form) .none kV18 dc18 pm18 an18 cd18 ct18), sl18⟩) (c18 : PySem.W.codeIn K cd18 "main_form" = true) (k18 : PySem.W.keepIn K (.ref f18) = true) : DefAt K mg "main_form" s_main_form ["d"] := by
  have F := fun_mk (st := s_main_form) l18 c18 k18
  have b := F.binds (ps := ["d"]) fun _ _ _ _ _ _ us hl => match us, hl with | [_], _ => rfl
  exact ⟨_, _, F, PySem.W.mg_of X G a18, b⟩
theorem at_opposite {K : PySem.W.Frag} {h : Heap} {mg : Str → Option Value} (X : K.In h) (G : h.Ns mainGlobals mg) {f19 : Addr} {od19 an19 : Option Addr} {sl19 : Array (Option Value)} {oc19 kV19 dc19 pm19 cd19 ct19 : Value} (a19 : PySem.W.nsIn K mainGlobals "opposite" = some (some (.ref f19))) (l19 : K.lookup f19 = some ⟨oc19, od19, .func (PySem.W.fnOf "opposite" "opposite" (defArgs s_opposite) (defBody s_opposite) (defScope s_opposite) .none kV19 dc19 pm19 an19 cd19 ct19), sl19⟩) (c19 : PySem.W.codeIn K cd19 "opposite" = true) (k19 : PySem.W.keepIn K (.ref f19) = true) : DefAt K mg "opposite" s_opposite ["form"] := by
  have F := fun_mk (st := s_opposite) l19 c19 k19
  have b := F.binds (ps := ["form"]) fun _ _ _ _ _ _ us hl => match us, hl with | [_], _ => rfl
  exact ⟨_, _, F, PySem.W.mg_of X G a19, b⟩
theorem at_law_pool {K : PySem.W.Frag} {h : Heap} {mg : Str → Option Value} (X : K.In h) (G : h.Ns mainGlobals mg) {f20 : Addr} {od20 an20 : Option Addr} {sl20 : Array (Option Value)} {oc20 kV20 dc20 pm20 cd20 ct20 : Value} (a20 : PySem.W.nsIn K mainGlobals "_law_pool" = some (some (.ref f20))) (l20 : K.lookup f20 = some ⟨oc20, od20, .func (PySem.W.fnOf "_law_pool" "_law_pool" (defArgs s_law_pool) (defBody s_law_pool) (defScope s_law_pool) .none kV20 dc20 pm20 an20 cd20 ct20), sl20⟩) (c20 : PySem.W.codeIn K cd20 "_law_pool" = true) (k20 : PySem.W.keepIn K (.ref f20) = true) : DefAt K mg "_law_pool" s_law_pool ["_law_cell_here"] := by
  have F := fun_mk (st := s_law_pool) l20 c20 k20
  have b := F.binds (ps := ["_law_cell_here"]) fun _ _ _ _ _ _ us hl => match us, hl with | [_], _ => rfl
  exact ⟨_, _, F, PySem.W.mg_of X G a20, b⟩
theorem at_law_turning {K : PySem.W.Frag} {h : Heap} {mg : Str → Option Value} (X : K.In h) (G : h.Ns mainGlobals mg) {f21 : Addr} {od21 an21 : Option Addr} {sl21 : Array (Option Value)} {oc21 kV21 dc21 pm21 cd21 ct21 : Value} (a21 : PySem.W.nsIn K mainGlobals "_law_turning" = some (some (.ref f21))) (l21 : K.lookup f21 = some ⟨oc21, od21, .func (PySem.W.fnOf "_law_turning" "_law_turning" (defArgs s_law_turning) (defBody s_law_turning) (defScope s_law_turning) .none kV21 dc21 pm21 an21 cd21 ct21), sl21⟩) (c21 : PySem.W.codeIn K cd21 "_law_turning" = true) (k21 : PySem.W.keepIn K (.ref f21) = true) : DefAt K mg "_law_turning" s_law_turning ["_law_x", "_law_y"] := by
  have F := fun_mk (st := s_law_turning) l21 c21 k21
  have b := F.binds (ps := ["_law_x", "_law_y"]) fun _ _ _ _ _ _ us hl => match us, hl with | [_, _], _ => rfl
  exact ⟨_, _, F, PySem.W.mg_of X G a21, b⟩
theorem at_law_with_coprime {K : PySem.W.Frag} {h : Heap} {mg : Str → Option Value} (X : K.In h) (G : h.Ns mainGlobals mg) {f22 : Addr} {od22 an22 : Option Addr} {sl22 : Array (Option Value)} {oc22 kV22 dc22 pm22 cd22 ct22 : Value} (a22 : PySem.W.nsIn K mainGlobals "_law_with_coprime" = some (some (.ref f22))) (l22 : K.lookup f22 = some ⟨oc22, od22, .func (PySem.W.fnOf "_law_with_coprime" "_law_with_coprime" (defArgs s_law_with_coprime) (defBody s_law_with_coprime) (defScope s_law_with_coprime) .none kV22 dc22 pm22 an22 cd22 ct22), sl22⟩) (c22 : PySem.W.codeIn K cd22 "_law_with_coprime" = true) (k22 : PySem.W.keepIn K (.ref f22) = true) : DefAt K mg "_law_with_coprime" s_law_with_coprime ["_law_row_here", "_law_number"] := by
  have F := fun_mk (st := s_law_with_coprime) l22 c22 k22
  have b := F.binds (ps := ["_law_row_here", "_law_number"]) fun _ _ _ _ _ _ us hl => match us, hl with | [_, _], _ => rfl
  exact ⟨_, _, F, PySem.W.mg_of X G a22, b⟩
theorem at_law_reduced {K : PySem.W.Frag} {h : Heap} {mg : Str → Option Value} (X : K.In h) (G : h.Ns mainGlobals mg) {f23 : Addr} {od23 an23 : Option Addr} {sl23 : Array (Option Value)} {oc23 kV23 dc23 pm23 cd23 ct23 : Value} (a23 : PySem.W.nsIn K mainGlobals "_law_reduced" = some (some (.ref f23))) (l23 : K.lookup f23 = some ⟨oc23, od23, .func (PySem.W.fnOf "_law_reduced" "_law_reduced" (defArgs s_law_reduced) (defBody s_law_reduced) (defScope s_law_reduced) .none kV23 dc23 pm23 an23 cd23 ct23), sl23⟩) (c23 : PySem.W.codeIn K cd23 "_law_reduced" = true) (k23 : PySem.W.keepIn K (.ref f23) = true) : DefAt K mg "_law_reduced" s_law_reduced ["_law_row_here"] := by
  have F := fun_mk (st := s_law_reduced) l23 c23 k23
  have b := F.binds (ps := ["_law_row_here"]) fun _ _ _ _ _ _ us hl => match us, hl with | [_], _ => rfl
  exact ⟨_, _, F, PySem.W.mg_of X G a23, b⟩
theorem at_law_product {K : PySem.W.Frag} {h : Heap} {mg : Str → Option Value} (X : K.In h) (G : h.Ns mainGlobals mg) {f24 : Addr} {od24 an24 : Option Addr} {sl24 : Array (Option Value)} {oc24 kV24 dc24 pm24 cd24 ct24 : Value} (a24 : PySem.W.nsIn K mainGlobals "_law_product" = some (some (.ref f24))) (l24 : K.lookup f24 = some ⟨oc24, od24, .func (PySem.W.fnOf "_law_product" "_law_product" (defArgs s_law_product) (defBody s_law_product) (defScope s_law_product) .none kV24 dc24 pm24 an24 cd24 ct24), sl24⟩) (c24 : PySem.W.codeIn K cd24 "_law_product" = true) (k24 : PySem.W.keepIn K (.ref f24) = true) : DefAt K mg "_law_product" s_law_product ["_law_first", "_law_second", "_law_d"] := by
  have F := fun_mk (st := s_law_product) l24 c24 k24
  have b := F.binds (ps := ["_law_first", "_law_second", "_law_d"]) fun _ _ _ _ _ _ us hl => match us, hl with | [_, _, _], _ => rfl
  exact ⟨_, _, F, PySem.W.mg_of X G a24, b⟩
theorem at_law_row {K : PySem.W.Frag} {h : Heap} {mg : Str → Option Value} (X : K.In h) (G : h.Ns mainGlobals mg) {f25 : Addr} {od25 an25 : Option Addr} {sl25 : Array (Option Value)} {oc25 kV25 dc25 pm25 cd25 ct25 : Value} (a25 : PySem.W.nsIn K mainGlobals "_law_row" = some (some (.ref f25))) (l25 : K.lookup f25 = some ⟨oc25, od25, .func (PySem.W.fnOf "_law_row" "_law_row" (defArgs s_law_row) (defBody s_law_row) (defScope s_law_row) .none kV25 dc25 pm25 an25 cd25 ct25), sl25⟩) (c25 : PySem.W.codeIn K cd25 "_law_row" = true) (k25 : PySem.W.keepIn K (.ref f25) = true) : DefAt K mg "_law_row" s_law_row ["_law_form_here"] := by
  have F := fun_mk (st := s_law_row) l25 c25 k25
  have b := F.binds (ps := ["_law_form_here"]) fun _ _ _ _ _ _ us hl => match us, hl with | [_], _ => rfl
  exact ⟨_, _, F, PySem.W.mg_of X G a25, b⟩
theorem at_Form_eq {K : PySem.W.Frag} {CO : Addr} {f26 : Addr} {od26 an26 : Option Addr} {sl26 : Array (Option Value)} {oc26 kV26 dc26 pm26 cd26 ct26 : Value} (a26 : PySem.W.findIn K (.ref CO) "__eq__" = some (some (.ref f26))) (i26 : PySem.W.isFn K (.ref f26) = true) (l26 : K.lookup f26 = some ⟨oc26, od26, .func (PySem.W.fnOf "__eq__" "Form.__eq__" (defArgs s_Form_eq) (defBody s_Form_eq) (defScope s_Form_eq) .none kV26 dc26 pm26 an26 cd26 ct26), sl26⟩) (c26 : PySem.W.codeIn K cd26 "Form.__eq__" = true) (k26 : PySem.W.keepIn K (.ref f26) = true) : MethAt K CO "__eq__" "Form.__eq__" s_Form_eq ["self", "other"] := by
  have F := fun_mk (st := s_Form_eq) l26 c26 k26
  have b := F.binds (ps := ["self", "other"]) fun _ _ _ _ _ _ us hl => match us, hl with | [_, _], _ => rfl
  exact ⟨_, _, F, ⟨a26, i26, k26⟩, b⟩
theorem at_law_cell {K : PySem.W.Frag} {h : Heap} {mg : Str → Option Value} (X : K.In h) (G : h.Ns mainGlobals mg) {f27 : Addr} {od27 an27 : Option Addr} {sl27 : Array (Option Value)} {oc27 kV27 dc27 pm27 cd27 ct27 : Value} (a27 : PySem.W.nsIn K mainGlobals "_law_cell" = some (some (.ref f27))) (l27 : K.lookup f27 = some ⟨oc27, od27, .func (PySem.W.fnOf "_law_cell" "_law_cell" (defArgs s_law_cell) (defBody s_law_cell) (defScope s_law_cell) .none kV27 dc27 pm27 an27 cd27 ct27), sl27⟩) (c27 : PySem.W.codeIn K cd27 "_law_cell" = true) (k27 : PySem.W.keepIn K (.ref f27) = true) : DefAt K mg "_law_cell" s_law_cell ["_law_script", "_law_k"] := by
  have F := fun_mk (st := s_law_cell) l27 c27 k27
  have b := F.binds (ps := ["_law_script", "_law_k"]) fun _ _ _ _ _ _ us hl => match us, hl with | [_, _], _ => rfl
  exact ⟨_, _, F, PySem.W.mg_of X G a27, b⟩
theorem er_BadForm {K : PySem.W.Frag} {h : Heap} {mg : Str → Option Value} (X : K.In h) (G : h.Ns mainGlobals mg) {C0 g0 N0 : Addr} {nm0 qq0 : Str} {bs0 bm0 : List Value} {sn0 : List Str} {sub0 : List Value} {ab0 : Bool} {col0 : Option Bool} {dd0 : Option Addr} {m00 m10 m20 m30 m50 : Option Value} {odE0 anE0 : Option Addr} {slE0 : Array (Option Value)} {ocE0 kVE0 dcE0 pmE0 cdE0 ctE0 : Value} (eg0 : PySem.W.nsIn K mainGlobals "BadForm" = some (some (.ref C0))) (ex0 : K.lookup C0 = some (excClassObj nm0 qq0 C0 N0 bs0 bm0 true sn0 sub0 ab0 col0 dd0 m00 m10 m20 m30 m50 "ValueError.__new__")) (eb0 : PySem.HandSPX.refsVE bm0 = true) (es0 : PySem.W.findIn K (.ref C0) "__setattr__" = some (some (.builtin "object.__setattr__"))) (ee0 : PySem.W.subIn K (.ref C0) (.type "BaseException") = some true) (et0 : PySem.W.typeIn K (.ref C0) = some (.type "type")) (ek0 : PySem.W.keepIn K (.ref C0) = true) (ega0 : PySem.W.findIn K (.ref C0) "__getattribute__" = some (some (.builtin "BaseException.__getattribute__"))) (egg0 : PySem.W.findIn K (.ref C0) "__getattr__" = some none) (eh0 : PySem.W.hasDictIn K C0 = true) (ei0 : PySem.W.isClsIn K C0 = true) (eu0 : PySem.W.subIn K (.ref C0) (.ref C0) = some true) (ef0 : PySem.W.findIn K (.ref C0) "__init__" = some (some (.ref g0))) (ey0 : PySem.W.typeIn K (.ref g0) = some (.type "function")) (el0 : K.lookup g0 = some ⟨ocE0, odE0, .func (PySem.W.fnOf "__init__" "BadForm.__init__" (defArgs s_BadForm_init) (defBody s_BadForm_init) (defScope s_BadForm_init) .none kVE0 dcE0 pmE0 anE0 cdE0 ctE0), slE0⟩) (ec0 : PySem.W.codeIn K cdE0 "BadForm.__init__" = true) (ej0 : PySem.W.keepIn K (.ref g0) = true) : ErrRaw K mg "BadForm" C0 s_BadForm_init "BadForm.__init__" ["self", "a", "b", "c"] := by
  have F := fun_mk (st := s_BadForm_init) el0 ec0 ej0
  have b := F.binds (ps := ["self", "a", "b", "c"]) fun _ _ _ _ _ _ us hl => match us, hl with | [_, _, _, _], _ => rfl
  exact ⟨PySem.W.mg_of X G eg0, ⟨⟨_, _, _, _, _, _, _, _, _, _, _, _, _, _, _, ex0, eb0⟩, es0, ee0, et0, ek0⟩, ⟨ega0, egg0, ee0, eh0⟩, exm_self ee0 ei0 et0 eu0, ⟨_, _, ef0, ey0, F, b⟩⟩
theorem txt_mk {K : PySem.W.Frag} {h : Heap} {mg : Str → Option Value} (X : K.In h) (G : h.Ns mainGlobals mg) {C0 CO_Form : Addr} {CB : Addr} 
    (z_abs : PySem.W.nsIn K mainGlobals "abs" = some none)
    (z_int : PySem.W.nsIn K mainGlobals "int" = some none)
    (z_isinstance : PySem.W.nsIn K mainGlobals "isinstance" = some none)
    (z_len : PySem.W.nsIn K mainGlobals "len" = some none)
    (z_range : PySem.W.nsIn K mainGlobals "range" = some none)
    (z_sorted : PySem.W.nsIn K mainGlobals "sorted" = some none)
    (z_tuple : PySem.W.nsIn K mainGlobals "tuple" = some none)
    (og_Form : PySem.W.nsIn K mainGlobals "Form" = some (some (.ref CO_Form)))
    (hc_Form : ClsH K CO_Form)
    (onf_Form_a : PySem.W.findIn K (.ref CO_Form) "a" = some none)
    (onf_Form_b : PySem.W.findIn K (.ref CO_Form) "b" = some none)
    (onf_Form_c : PySem.W.findIn K (.ref CO_Form) "c" = some none)
    (onf_Form_discriminant : PySem.W.findIn K (.ref CO_Form) "discriminant" = some none)
    (d_law_take : DefAt K mg "_law_take" s_law_take ["_law_pool_here", "_law_limit"])
    (d_law_discriminant : DefAt K mg "_law_discriminant" s_law_discriminant ["_law_pool_here", "_law_reach"])
    (d_law_common : DefAt K mg "_law_common" s_law_common ["_law_a", "_law_b"])
    (d_law_listed : DefAt K mg "_law_listed" s_law_listed ["_law_d"])
    (d_Form_init : MkAt K mg "Form" CO_Form "Form.__init__" s_Form_init ["self", "a", "b", "c"])
    (d_Form_stepped : MethAt K CO_Form "stepped" "Form.stepped" s_Form_stepped ["self", "k"])
    (d_Form_turned : MethAt K CO_Form "turned" "Form.turned" s_Form_turned ["self", "steps"])
    (d_law_form : DefAt K mg "_law_form" s_law_form ["_law_pool_here", "_law_rows"])
    (fi_Form : ∀ g, PySem.W.findIn K (.ref CO_Form) "__call__" = some (some (.ref g)) → PySem.W.fnIn K g = true)
    (d_Form_call : MethAt K CO_Form "__call__" "Form.__call__" s_Form_call ["self", "x", "y"])
    (d_common : DefAt K mg "common" s_common ["a", "b"])
    (d_coprime_point : DefAt K mg "coprime_point" s_coprime_point ["form", "a"])
    (d_bezout : DefAt K mg "bezout" s_bezout ["x", "y"])
    (d_with_coprime_number : DefAt K mg "with_coprime_number" s_with_coprime_number ["form", "a"])
    (d_inverse_rest : DefAt K mg "inverse_rest" s_inverse_rest ["a", "f"])
    (d_Form_next_step : MethAt K CO_Form "next_step" "Form.next_step" s_Form_next_step ["self"])
    (d_Form_steps : MethAt K CO_Form "steps" "Form.steps" s_Form_steps ["self"])
    (d_Form_reduced : MethAt K CO_Form "reduced" "Form.reduced" s_Form_reduced ["self"])
    (d_compose : DefAt K mg "compose" s_compose ["first", "second"])
    (d_main_form : DefAt K mg "main_form" s_main_form ["d"])
    (d_opposite : DefAt K mg "opposite" s_opposite ["form"])
    (d_law_pool : DefAt K mg "_law_pool" s_law_pool ["_law_cell_here"])
    (d_law_turning : DefAt K mg "_law_turning" s_law_turning ["_law_x", "_law_y"])
    (d_law_with_coprime : DefAt K mg "_law_with_coprime" s_law_with_coprime ["_law_row_here", "_law_number"])
    (d_law_reduced : DefAt K mg "_law_reduced" s_law_reduced ["_law_row_here"])
    (d_law_product : DefAt K mg "_law_product" s_law_product ["_law_first", "_law_second", "_law_d"])
    (d_law_row : DefAt K mg "_law_row" s_law_row ["_law_form_here"])
    (d_Form_eq : MethAt K CO_Form "__eq__" "Form.__eq__" s_Form_eq ["self", "other"])
    (d_law_cell : DefAt K mg "_law_cell" s_law_cell ["_law_script", "_law_k"])
    (gB : PySem.W.nsIn K mainGlobals "ClockError" = some (some (.ref CB)))
    (rB : PySem.W.readsIn K CB (.type "type") = true)
    (aB : PySem.W.specialIn K (.ref CB) "__getattribute__" = some (some (.builtin "type.__getattribute__")))
    (iB : PySem.W.findCls K (.ref CB) (.type "type") "__init__" = some (.val (.builtin "ValueError.__init__")))
    (r_BadForm : ErrRaw K mg "BadForm" C0 s_BadForm_init "BadForm.__init__" ["self", "a", "b", "c"])
    (en0_a : PySem.W.findIn K (.ref C0) "a" = some none)
    (en0_b : PySem.W.findIn K (.ref C0) "b" = some none)
    (en0_c : PySem.W.findIn K (.ref C0) "c" = some none) :
    Txt K mg ⟨C0, CO_Form, CB⟩ := {
    b_abs := PySem.W.mg_none_of X G z_abs
    b_int := PySem.W.mg_none_of X G z_int
    b_isinstance := PySem.W.mg_none_of X G z_isinstance
    b_len := PySem.W.mg_none_of X G z_len
    b_range := PySem.W.mg_none_of X G z_range
    b_sorted := PySem.W.mg_none_of X G z_sorted
    b_tuple := PySem.W.mg_none_of X G z_tuple
    g_Form := PySem.W.mg_of X G og_Form
    cl_Form := ⟨hc_Form.opg, hc_Form.ohd, hc_Form.opo, hc_Form.osa⟩
    ty_Form := fun H a dx fs h => .base (.ins h ⟨hc_Form.opg, hc_Form.ohd, hc_Form.opo, hc_Form.osa⟩ hc_Form.oha hc_Form.ohn hc_Form.otk hc_Form.omr)
    ki_Form := kit_self
    kl_Form := kit_list hc_Form.oci hc_Form.oct
    nl_Form := notFirst_list
    nf_Form_a := onf_Form_a
    nf_Form_b := onf_Form_b
    nf_Form_c := onf_Form_c
    nf_Form_discriminant := onf_Form_discriminant
    d_law_take := d_law_take
    d_law_discriminant := d_law_discriminant
    d_law_common := d_law_common
    d_law_listed := d_law_listed
    d_Form_init := d_Form_init
    d_Form_stepped := d_Form_stepped
    d_Form_turned := d_Form_turned
    d_law_form := d_law_form
    fi_Form := fi_Form
    d_Form_call := d_Form_call
    d_common := d_common
    d_coprime_point := d_coprime_point
    d_bezout := d_bezout
    d_with_coprime_number := d_with_coprime_number
    d_inverse_rest := d_inverse_rest
    d_Form_next_step := d_Form_next_step
    d_Form_steps := d_Form_steps
    d_Form_reduced := d_Form_reduced
    d_compose := d_compose
    d_main_form := d_main_form
    d_opposite := d_opposite
    d_law_pool := d_law_pool
    d_law_turning := d_law_turning
    d_law_with_coprime := d_law_with_coprime
    d_law_reduced := d_law_reduced
    d_law_product := d_law_product
    d_law_row := d_law_row
    d_Form_eq := d_Form_eq
    d_law_cell := d_law_cell
    base := ⟨PySem.W.mg_of X G gB, rB, aB, iB⟩
    r_BadForm := r_BadForm
    no_BadForm_a := en0_a
    no_BadForm_b := en0_b
    no_BadForm_c := en0_c
    triv := trivial
  }
theorem all_mk {P : Program} {w : World} {K : PySem.W.Frag} {h : Heap} {mg : Str → Option Value} {fa : Addr} (X : K.In h) (G : h.Ns mainGlobals mg) (hfa : mg "law" = some (.ref fa)) {Ad : Adr} (T : Txt K mg Ad) {f28 : Addr} {od28 an28 : Option Addr} {sl28 : Array (Option Value)} {oc28 kV28 dc28 pm28 cd28 ct28 : Value} (a28 : PySem.W.nsIn K mainGlobals "law" = some (some (.ref f28))) (l28 : K.lookup f28 = some ⟨oc28, od28, .func (PySem.W.fnOf "law" "law" (defArgs s_law) (defBody s_law) (defScope s_law) .none kV28 dc28 pm28 an28 cd28 ct28), sl28⟩) (c28 : PySem.W.codeIn K cd28 "law" = true) (k28 : PySem.W.keepIn K (.ref f28) = true) :
    ∃ fd : FuncData, (∀ (s : Shared) (v : Value), BindsTo s fd ⟨[v], []⟩ [("_law_script", v)]) ∧ ∀ base : Heap, K.In base → base.Ns mainGlobals mg → FnOk P w K mg base (L2.CX P w) 9 fa fd ["_law_script"] (spLaw K) := by
  have e := hfa.symm.trans (PySem.W.mg_of X G a28)
  cases e
  have F := fun_mk (st := s_law) l28 c28 k28
  exact ⟨_, fun s v => .of_eq rfl, fun base _ _ => ok_law (base := base) F T⟩
theorem walk {l : PySem.W.OpenLaw} {q : Program} {loose : List Str} {XP : (Str → Option Value) → Heap → Prop} {YP : World → Heap → Prop} {d : DefRec} {K : Params → PySem.W.Frag} (hn : l.most = some 63) (hdf : d.params.defaults = [])
    (hY : ∀ (w : World) (h : Heap), YP w h → (K w.params).In h)
    (F : ∀ (w : World) (mg : Str → Option Value) (fa : Addr) (h : Heap), (K w.params).In h → h.Ns mainGlobals mg → mg d.name = some (.ref fa) →
      ∃ fd : FuncData, (∀ (s : Shared) (u : Value), BindsTo s fd ⟨[u], []⟩ [("_law_script", u)]) ∧ ∀ base : Heap, (K w.params).In base → base.Ns mainGlobals mg → FnOk l.prog w (K w.params) mg base (L2.CX l.prog w) 9 fa fd ["_law_script"] (spLaw (K w.params))) :
    PySem.W.WalkO q loose XP YP l.row.toRowW d [] (fun f vs => PySem.call f vs) :=
  L2.walk_of (n := 63) (k := 9) (x := "_law_script") (CX := fun w => L2.CX l.prog w) (sp := fun w => spLaw (K w.params)) hn (by decide) hdf ⟨rfl, by decide, by decide⟩ hY F (fun _ _ a ns hl hO hS => ⟨a, ns, rfl, hS, hl, NoT.only hO, fun _ => rfl⟩) fun _ _ _ _ _ h => by
    obtain ⟨_, _, _, _, _, _, _, _, _, _, _, _, z⟩ := h
    exact z.elim
end My
open PySem PySem.W PyProof.Rows
set_option maxRecDepth 100000 in
set_option maxHeartbeats 0 in
theorem PySem.Challenge.cw_everyprime_k91_whole_classes_are_a_group_holds : PySem.Challenge.rw_everyprime_k91_whole_classes_are_a_group.Holds := by
  refine My.hd_top ?_
  k_fill
  refine My.walk (l := PySem.Challenge.rw_everyprime_k91_whole_classes_are_a_group) rfl rfl (fun w h Y => PySem.W.kIn_of Y) ?F
  case F =>
    intro w mg fa h KX G hmg
    refine' My.all_mk KX G hmg (My.txt_mk KX G ?z_abs ?z_int ?z_isinstance ?z_len ?z_range ?z_sorted ?z_tuple ?og_Form ?hc_Form ?onf_Form_a ?onf_Form_b ?onf_Form_c ?onf_Form_discriminant ?d_law_take ?d_law_discriminant ?d_law_common ?d_law_listed ?d_Form_init ?d_Form_stepped ?d_Form_turned ?d_law_form ?fi_Form ?d_Form_call ?d_common ?d_coprime_point ?d_bezout ?d_with_coprime_number ?d_inverse_rest ?d_Form_next_step ?d_Form_steps ?d_Form_reduced ?d_compose ?d_main_form ?d_opposite ?d_law_pool ?d_law_turning ?d_law_with_coprime ?d_law_reduced ?d_law_product ?d_law_row ?d_Form_eq ?d_law_cell ?gB ?rB ?aB ?iB ?r_BadForm ?en0_a ?en0_b ?en0_c) ?a28 ?l28 ?c28 ?k28
    (case z_abs => as_aux_lemma => k_is)
    (case z_int => as_aux_lemma => k_is)
    (case z_isinstance => as_aux_lemma => k_is)
    (case z_len => as_aux_lemma => k_is)
    (case z_range => as_aux_lemma => k_is)
    (case z_sorted => as_aux_lemma => k_is)
    (case z_tuple => as_aux_lemma => k_is)
    (case og_Form => as_aux_lemma => k_is)
    (case hc_Form => (refine' My.ClsH.mk ?y1_opg_Form ?y1_ohd_Form ?y1_opo_Form ?y1_osa_Form ?y1_omk_Form ?y1_okc_Form ?y1_oha_Form ?y1_ohn_Form ?y1_otk_Form ?y1_omr_Form ?y1_oci_Form ?y1_oct_Form; (case y1_opg_Form => as_aux_lemma => k_is); (case y1_ohd_Form => as_aux_lemma => k_is); (case y1_opo_Form => as_aux_lemma => k_is); (case y1_osa_Form => as_aux_lemma => k_is); (case y1_omk_Form => as_aux_lemma => k_is); (case y1_okc_Form => as_aux_lemma => k_is); (case y1_oha_Form => as_aux_lemma => k_is); (case y1_ohn_Form => as_aux_lemma => k_is); (case y1_otk_Form => as_aux_lemma => k_is); (case y1_omr_Form => as_aux_lemma => k_is); (case y1_oci_Form => as_aux_lemma => k_is); (case y1_oct_Form => as_aux_lemma => k_is)))
    (case onf_Form_a => as_aux_lemma => k_is)
    (case onf_Form_b => as_aux_lemma => k_is)
    (case onf_Form_c => as_aux_lemma => k_is)
    (case onf_Form_discriminant => as_aux_lemma => k_is)
    (case d_law_take => (refine' My.at_law_take KX G ?y2_a0 ?y2_l0 ?y2_c0 ?y2_k0; (case y2_a0 => as_aux_lemma => k_is); (case y2_l0 => as_aux_lemma => k_is); (case y2_c0 => as_aux_lemma => k_is); (case y2_k0 => as_aux_lemma => k_is)))
    (case d_law_discriminant => (refine' My.at_law_discriminant KX G ?y3_a1 ?y3_l1 ?y3_c1 ?y3_k1; (case y3_a1 => as_aux_lemma => k_is); (case y3_l1 => as_aux_lemma => k_is); (case y3_c1 => as_aux_lemma => k_is); (case y3_k1 => as_aux_lemma => k_is)))
    (case d_law_common => (refine' My.at_law_common KX G ?y4_a2 ?y4_l2 ?y4_c2 ?y4_k2; (case y4_a2 => as_aux_lemma => k_is); (case y4_l2 => as_aux_lemma => k_is); (case y4_c2 => as_aux_lemma => k_is); (case y4_k2 => as_aux_lemma => k_is)))
    (case d_law_listed => (refine' My.at_law_listed KX G ?y5_a3 ?y5_l3 ?y5_c3 ?y5_k3; (case y5_a3 => as_aux_lemma => k_is); (case y5_l3 => as_aux_lemma => k_is); (case y5_c3 => as_aux_lemma => k_is); (case y5_k3 => as_aux_lemma => k_is)))
    (case d_Form_init => (refine' My.at_Form_init KX G ?y6_og_Form ?y6_hc_Form ?y6_a4 ?y6_i4 ?y6_l4 ?y6_c4 ?y6_k4; (case y6_og_Form => as_aux_lemma => k_is); (case y6_hc_Form => (refine' My.ClsH.mk ?y6_opg ?y6_ohd ?y6_opo ?y6_osa ?y6_omk ?y6_okc ?y6_oha ?y6_ohn ?y6_otk ?y6_omr ?y6_oci ?y6_oct; (case y6_opg => as_aux_lemma => k_is); (case y6_ohd => as_aux_lemma => k_is); (case y6_opo => as_aux_lemma => k_is); (case y6_osa => as_aux_lemma => k_is); (case y6_omk => as_aux_lemma => k_is); (case y6_okc => as_aux_lemma => k_is); (case y6_oha => as_aux_lemma => k_is); (case y6_ohn => as_aux_lemma => k_is); (case y6_otk => as_aux_lemma => k_is); (case y6_omr => as_aux_lemma => k_is); (case y6_oci => as_aux_lemma => k_is); (case y6_oct => as_aux_lemma => k_is))); (case y6_a4 => as_aux_lemma => k_is); (case y6_i4 => as_aux_lemma => k_is); (case y6_l4 => as_aux_lemma => k_is); (case y6_c4 => as_aux_lemma => k_is); (case y6_k4 => as_aux_lemma => k_is)))
    (case d_Form_stepped => (refine' My.at_Form_stepped ?y7_a5 ?y7_i5 ?y7_l5 ?y7_c5 ?y7_k5; (case y7_a5 => as_aux_lemma => k_is); (case y7_i5 => as_aux_lemma => k_is); (case y7_l5 => as_aux_lemma => k_is); (case y7_c5 => as_aux_lemma => k_is); (case y7_k5 => as_aux_lemma => k_is)))
    (case d_Form_turned => (refine' My.at_Form_turned ?y8_a6 ?y8_i6 ?y8_l6 ?y8_c6 ?y8_k6; (case y8_a6 => as_aux_lemma => k_is); (case y8_i6 => as_aux_lemma => k_is); (case y8_l6 => as_aux_lemma => k_is); (case y8_c6 => as_aux_lemma => k_is); (case y8_k6 => as_aux_lemma => k_is)))
    (case d_law_form => (refine' My.at_law_form KX G ?y9_a7 ?y9_l7 ?y9_c7 ?y9_k7; (case y9_a7 => as_aux_lemma => k_is); (case y9_l7 => as_aux_lemma => k_is); (case y9_c7 => as_aux_lemma => k_is); (case y9_k7 => as_aux_lemma => k_is)))
    (case fi_Form => (refine' My.fi_Form ?y10_fa8 ?y10_fv8; (case y10_fa8 => as_aux_lemma => k_is); (case y10_fv8 => as_aux_lemma => k_is)))
    (case d_Form_call => (refine' My.at_Form_call ?y11_a8 ?y11_i8 ?y11_l8 ?y11_c8 ?y11_k8; (case y11_a8 => as_aux_lemma => k_is); (case y11_i8 => as_aux_lemma => k_is); (case y11_l8 => as_aux_lemma => k_is); (case y11_c8 => as_aux_lemma => k_is); (case y11_k8 => as_aux_lemma => k_is)))
    (case d_common => (refine' My.at_common KX G ?y12_a9 ?y12_l9 ?y12_c9 ?y12_k9; (case y12_a9 => as_aux_lemma => k_is); (case y12_l9 => as_aux_lemma => k_is); (case y12_c9 => as_aux_lemma => k_is); (case y12_k9 => as_aux_lemma => k_is)))
    (case d_coprime_point => (refine' My.at_coprime_point KX G ?y13_a10 ?y13_l10 ?y13_c10 ?y13_k10; (case y13_a10 => as_aux_lemma => k_is); (case y13_l10 => as_aux_lemma => k_is); (case y13_c10 => as_aux_lemma => k_is); (case y13_k10 => as_aux_lemma => k_is)))
    (case d_bezout => (refine' My.at_bezout KX G ?y14_a11 ?y14_l11 ?y14_c11 ?y14_k11; (case y14_a11 => as_aux_lemma => k_is); (case y14_l11 => as_aux_lemma => k_is); (case y14_c11 => as_aux_lemma => k_is); (case y14_k11 => as_aux_lemma => k_is)))
    (case d_with_coprime_number => (refine' My.at_with_coprime_number KX G ?y15_a12 ?y15_l12 ?y15_c12 ?y15_k12; (case y15_a12 => as_aux_lemma => k_is); (case y15_l12 => as_aux_lemma => k_is); (case y15_c12 => as_aux_lemma => k_is); (case y15_k12 => as_aux_lemma => k_is)))
    (case d_inverse_rest => (refine' My.at_inverse_rest KX G ?y16_a13 ?y16_l13 ?y16_c13 ?y16_k13; (case y16_a13 => as_aux_lemma => k_is); (case y16_l13 => as_aux_lemma => k_is); (case y16_c13 => as_aux_lemma => k_is); (case y16_k13 => as_aux_lemma => k_is)))
    (case d_Form_next_step => (refine' My.at_Form_next_step ?y17_a14 ?y17_i14 ?y17_l14 ?y17_c14 ?y17_k14; (case y17_a14 => as_aux_lemma => k_is); (case y17_i14 => as_aux_lemma => k_is); (case y17_l14 => as_aux_lemma => k_is); (case y17_c14 => as_aux_lemma => k_is); (case y17_k14 => as_aux_lemma => k_is)))
    (case d_Form_steps => (refine' My.at_Form_steps ?y18_a15 ?y18_i15 ?y18_l15 ?y18_c15 ?y18_k15; (case y18_a15 => as_aux_lemma => k_is); (case y18_i15 => as_aux_lemma => k_is); (case y18_l15 => as_aux_lemma => k_is); (case y18_c15 => as_aux_lemma => k_is); (case y18_k15 => as_aux_lemma => k_is)))
    (case d_Form_reduced => (refine' My.at_Form_reduced ?y19_a16 ?y19_i16 ?y19_l16 ?y19_c16 ?y19_k16; (case y19_a16 => as_aux_lemma => k_is); (case y19_i16 => as_aux_lemma => k_is); (case y19_l16 => as_aux_lemma => k_is); (case y19_c16 => as_aux_lemma => k_is); (case y19_k16 => as_aux_lemma => k_is)))
    (case d_compose => (refine' My.at_compose KX G ?y20_a17 ?y20_l17 ?y20_c17 ?y20_k17; (case y20_a17 => as_aux_lemma => k_is); (case y20_l17 => as_aux_lemma => k_is); (case y20_c17 => as_aux_lemma => k_is); (case y20_k17 => as_aux_lemma => k_is)))
    (case d_main_form => (refine' My.at_main_form KX G ?y21_a18 ?y21_l18 ?y21_c18 ?y21_k18; (case y21_a18 => as_aux_lemma => k_is); (case y21_l18 => as_aux_lemma => k_is); (case y21_c18 => as_aux_lemma => k_is); (case y21_k18 => as_aux_lemma => k_is)))
    (case d_opposite => (refine' My.at_opposite KX G ?y22_a19 ?y22_l19 ?y22_c19 ?y22_k19; (case y22_a19 => as_aux_lemma => k_is); (case y22_l19 => as_aux_lemma => k_is); (case y22_c19 => as_aux_lemma => k_is); (case y22_k19 => as_aux_lemma => k_is)))
    (case d_law_pool => (refine' My.at_law_pool KX G ?y23_a20 ?y23_l20 ?y23_c20 ?y23_k20; (case y23_a20 => as_aux_lemma => k_is); (case y23_l20 => as_aux_lemma => k_is); (case y23_c20 => as_aux_lemma => k_is); (case y23_k20 => as_aux_lemma => k_is)))
    (case d_law_turning => (refine' My.at_law_turning KX G ?y24_a21 ?y24_l21 ?y24_c21 ?y24_k21; (case y24_a21 => as_aux_lemma => k_is); (case y24_l21 => as_aux_lemma => k_is); (case y24_c21 => as_aux_lemma => k_is); (case y24_k21 => as_aux_lemma => k_is)))
    (case d_law_with_coprime => (refine' My.at_law_with_coprime KX G ?y25_a22 ?y25_l22 ?y25_c22 ?y25_k22; (case y25_a22 => as_aux_lemma => k_is); (case y25_l22 => as_aux_lemma => k_is); (case y25_c22 => as_aux_lemma => k_is); (case y25_k22 => as_aux_lemma => k_is)))
    (case d_law_reduced => (refine' My.at_law_reduced KX G ?y26_a23 ?y26_l23 ?y26_c23 ?y26_k23; (case y26_a23 => as_aux_lemma => k_is); (case y26_l23 => as_aux_lemma => k_is); (case y26_c23 => as_aux_lemma => k_is); (case y26_k23 => as_aux_lemma => k_is)))
    (case d_law_product => (refine' My.at_law_product KX G ?y27_a24 ?y27_l24 ?y27_c24 ?y27_k24; (case y27_a24 => as_aux_lemma => k_is); (case y27_l24 => as_aux_lemma => k_is); (case y27_c24 => as_aux_lemma => k_is); (case y27_k24 => as_aux_lemma => k_is)))
    (case d_law_row => (refine' My.at_law_row KX G ?y28_a25 ?y28_l25 ?y28_c25 ?y28_k25; (case y28_a25 => as_aux_lemma => k_is); (case y28_l25 => as_aux_lemma => k_is); (case y28_c25 => as_aux_lemma => k_is); (case y28_k25 => as_aux_lemma => k_is)))
    (case d_Form_eq => (refine' My.at_Form_eq ?y29_a26 ?y29_i26 ?y29_l26 ?y29_c26 ?y29_k26; (case y29_a26 => as_aux_lemma => k_is); (case y29_i26 => as_aux_lemma => k_is); (case y29_l26 => as_aux_lemma => k_is); (case y29_c26 => as_aux_lemma => k_is); (case y29_k26 => as_aux_lemma => k_is)))
    (case d_law_cell => (refine' My.at_law_cell KX G ?y30_a27 ?y30_l27 ?y30_c27 ?y30_k27; (case y30_a27 => as_aux_lemma => k_is); (case y30_l27 => as_aux_lemma => k_is); (case y30_c27 => as_aux_lemma => k_is); (case y30_k27 => as_aux_lemma => k_is)))
    (case gB => as_aux_lemma => k_is)
    (case rB => as_aux_lemma => k_is)
    (case aB => as_aux_lemma => k_is)
    (case iB => as_aux_lemma => k_is)
    (case r_BadForm => (refine' My.er_BadForm KX G ?y31_eg0 ?y31_ex0 ?y31_eb0 ?y31_es0 ?y31_ee0 ?y31_et0 ?y31_ek0 ?y31_ega0 ?y31_egg0 ?y31_eh0 ?y31_ei0 ?y31_eu0 ?y31_ef0 ?y31_ey0 ?y31_el0 ?y31_ec0 ?y31_ej0; (case y31_eg0 => as_aux_lemma => k_is); (case y31_ex0 => as_aux_lemma => k_is); (case y31_eb0 => as_aux_lemma => decide +kernel); (case y31_es0 => as_aux_lemma => k_is); (case y31_ee0 => as_aux_lemma => k_is); (case y31_et0 => as_aux_lemma => k_is); (case y31_ek0 => as_aux_lemma => k_is); (case y31_ega0 => as_aux_lemma => k_is); (case y31_egg0 => as_aux_lemma => k_is); (case y31_eh0 => as_aux_lemma => k_is); (case y31_ei0 => as_aux_lemma => k_is); (case y31_eu0 => as_aux_lemma => first | rfl | k_is); (case y31_ef0 => as_aux_lemma => k_is); (case y31_ey0 => as_aux_lemma => k_is); (case y31_el0 => as_aux_lemma => k_is); (case y31_ec0 => as_aux_lemma => k_is); (case y31_ej0 => as_aux_lemma => k_is)))
    (case en0_a => as_aux_lemma => k_is)
    (case en0_b => as_aux_lemma => k_is)
    (case en0_c => as_aux_lemma => k_is)
    (case a28 => as_aux_lemma => k_is)
    (case l28 => as_aux_lemma => k_is)
    (case c28 => as_aux_lemma => k_is)
    (case k28 => as_aux_lemma => k_is)
#print axioms PySem.Challenge.cw_everyprime_k91_whole_classes_are_a_group_holds
