import PyProof.Rows.All
import Wide.All
import OpenK.AllK
import Wide.FinOn
import HandS.Base
import HandS.Call
import HandS.List
import HandS.Ends
import HandS.Words
import HandS.Wide
import HandS.WordsList
import HandS.Comp
import HandS.Exc
import HandS.ExcOwn
import HandS.TryOnly
import HandS.WordsExc
import HandS.ExcInit
import HandS.ExcField
import HandS.ClsMeth
import HandS.Codes
import HandS.NoneIn
import HandS.IsInst
import HandS.SortInts
import HandS.Style
import HandS.Star
import HandS.FStr
import HandS.Iter
import HandS.Dict
import HandS.Walk
import HandS.Strs
import HandS.SetBool
import HandS.SetIn
import HandS.TryMany
import HandS.More
import HandS.DictComp
import HandS.Deep
import KE.KOpsOwn
import HandS.Small
import HandS.TupAny
import HandS.SetFor
import KE.IntTextLaws
import PyProof.StrLawsChain
import PySem.Challenge.RW_everyprime_k45_sets_written_and_read
set_option Elab.async false
set_option linter.all false
set_option maxRecDepth 100000
set_option maxHeartbeats 4000000
namespace My
section
open PySem PySem.W PyProof.Rows
set_option maxHeartbeats 0
open_top hd_top for PySem.Challenge.rw_everyprime_k45_sets_written_and_read
end
end My
namespace L2
open PySem PySem.Spec PyProof.Rows
/-- one step of a reading, found by its head -/
class Stp (G : Prop) (N : outParam Prop) : Prop where
  mp : N → G
/-! ### forgetting what was made on the way -/
/-- no dict with tuple keys is tracked -/
def noT : HO -> Bool
  | .dT _ => false
  | .frz _ u => noT u
  | _ => true
def NoT (H : Hp) : Prop := ∀ a o, H a = some o → noT o = true
theorem NoT.upd {H : Hp} {p : Addr} {o : HO} (n : NoT H) (h : noT o = true) : NoT (upd H p o) := fun a u e => by
  by_cases hb : a = p
  · subst hb
    rw [upd_same] at e
    cases e
    exact h
  · rw [upd_ne hb] at e
    exact n a u e
theorem obj_back {P : Program} {w : World} {H H' : Hp} {h h' : Heap} {a : Addr} : ∀ {o : HO}, noT o = true → ObjOk P w H' h' a o → ObjOk P w H h a o → ObjOk P w H h' a o := by
  intro o
  induction o with
  | dT kvs => intro n; cases n
  | frz ob u ih =>
    intro n x y
    exact ⟨x.1, ih n x.2 y.2⟩
  | ins C dx fs =>
    intro n x y
    exact ⟨y.1, x.2⟩
  | lst xs => intro n x y; exact x
  | tup xs => intro n x y; exact x
  | dK kvs => intro n x y; exact x
  | set S m => intro n x y; exact x
  | own z => intro n x y; exact x
  | xd fs => intro n x y; exact x
  | rng lo hi => intro n x y; exact x
  | tbl ps => intro n x y; exact x
  | met f z => intro n x y; exact x
  | ext phi => intro n x y; exact x
theorem hok_back {P : Program} {w : World} {H H' : Hp} {h h' : Heap} (n : NoT H) (x : HOk P w H' h') (y : HOk P w H h) (e : Same H H') : HOk P w H h' := fun a o q =>
  obj_back (n a o q) (x a o (e a o q)) (y a o q)
theorem Inv.forget {X : Cx} {pins pins' : List (Addr × Obj)} {σ σ' : St} {H H' : Hp} {s s' : Shared} (I : Inv X pins σ H s) (J : Inv X pins' σ' H' s') (e : Same H H') (n : NoT H) : Inv X pins' σ' H s' :=
  ⟨J.ok, J.os, J.bare, ⟨J.base.keep, J.base.slot, I.base.free, J.base.there, I.base.tups, I.base.frzs, I.base.tbls⟩, J.loc, J.cell, I.free, I.freeC,
    fun p hp => let ⟨a, b, c⟩ := J.pin p hp; ⟨a, e.free b, c⟩, hok_back n J.hok I.hok e, J.len⟩
/-- an expression whose making leaves things behind that nobody asks of -/
def tPure (t : TE) : TE := fun σ H Q => NoT H ∧ t σ H fun v H' => Same H H' ∧ Q v H
def tPureT (t : TT) : TT := fun σ H Q => NoT H ∧ t σ H fun b H' => Same H H' ∧ Q b H
theorem fn_forget {P : Program} {w : World} {K : PySem.W.Frag} {mg : Str → Option Value} {base : Heap} {CX : CXT} {k : Nat} {f : Addr} {fd : FuncData} {ps : List Str} {sp : Sp} (F : FnOk P w K mg base CX k f fd ps sp) :
    FnOk P w K mg base CX k f fd ps (fun vs H Q E => NoT H ∧ sp vs H (fun v H' => Same H H' ∧ Q v H) E) := by
  refine ⟨fun vs H Q E q => F.len vs H _ E q.2, fun A outer s H args us vs Q E hr he hb hv hs => ?_⟩
  refine codeAny_mono (F.run A outer s H args us vs _ E hr he hb hv hs.2) fun r s' q => ?_
  cases r with
  | error er => exact q
  | ok fl =>
    cases fl with
    | ret u =>
      obtain ⟨v, H2, os2, bare2, un2, hok2, rv, sm, q2⟩ := q
      exact ⟨v, H, os2, bare2, ⟨un2.keep, un2.slot, fun _ _ _ n _ => n, un2.there, fun _ _ q => q, fun _ _ _ q => q, fun _ ps q => ⟨#[], by rw [q]; simp⟩⟩, hok_back hs.1 hok2 he.hok sm, rv, q2⟩
    | next => exact q
    | brk => exact q
    | cont => exact q
end L2
namespace L2
open PySem PySem.Spec PyProof.Rows
/-! ### operators in the forms that are used here -/
def CMulB (i j : Int) : Prop := CMul i j ∨ CMulW i j
theorem CMulB.ok {i j : Int} (h : CMulB i j) : IntMulOk i j := by
  rcases h with h | h
  · exact h.ok
  · exact h.ok
def CDivB (_ j : Int) : Prop := 0 < j ∧ j < 2 ^ 250 ∨ 0 < j ∧ j.natAbs < 2 ^ 9000
section
variable {X : Cx}
theorem op_mulB : OpR X (binaryOp .Mult) (rI CMulB fun i j => .int (i * j)) := opI fun _ _ _ _ _ _ _ hc q => mul_int q hc.ok
theorem CDivB.wide {i j : Int} (h : CDivB i j) : CDivW i j := by
  rcases h with ⟨h1, h2⟩ | ⟨h1, h2⟩
  · refine wide_div (b := 250) h1 ?_ (by decide) (by decide)
    have h3 : j = (j.natAbs : Int) := by omega
    have h4 : (j.natAbs : Int) < ((2 ^ 250 : Nat) : Int) := by
      rw [← h3, Int.natCast_pow]
      exact h2
    exact Int.ofNat_lt.mp h4
  · exact wide_div h1 h2 (by decide) (by decide)
theorem op_fdivB : OpR X (binaryOp .FloorDiv) (rI CDivB fun i j => .int (i / j)) := fun pins s σ H x y v u Q I rx ry ⟨i, j, e1, e2, hc, q⟩ =>
  op_fdivW pins s σ H x y v u Q I rx ry ⟨i, j, e1, e2, hc.wide, q⟩
end
/-! ### the readings, one lemma each -/
section
variable {σ : St} {H : Hp} {Q : VK} {R : Bool → Hp → Prop} {RA : List V → Hp → Prop} {K : PySem.W.Frag} {v x y z : V} {i j : Int} {ta tb tc te : TE} {tt uu : TT} {t t1 t2 u : TS} {tr : TA} {r : R2}
variable {nx : St → Hp → Prop} {rt : VK} {bk ct : St → Hp → Prop}
theorem rd_var {n : Nat} (h : σ[n]? = some (some v)) (q : Q v H) : tVar n σ H Q := ⟨v, h, q⟩
theorem rd_c (q : Q v H) : tC v σ H Q := q
instance st_c  : Stp (tC v σ H Q) (Q v H) := ⟨fun h => rd_c h⟩
theorem rd_op (h : ta σ H fun x H1 => tb σ H1 fun y H2 => r x y H2 Q) : tOp r ta tb σ H Q := h
instance st_op  : Stp (tOp r ta tb σ H Q) (ta σ H fun x H1 => tb σ H1 fun y H2 => r x y H2 Q) := ⟨fun h => rd_op h⟩
theorem rd_un {ru : V → Hp → VK → Prop} (h : ta σ H fun x H1 => ru x H1 Q) : tUn ru ta σ H Q := h
instance st_un {ru : V → Hp → VK → Prop} : Stp (tUn ru ta σ H Q) (ta σ H fun x H1 => ru x H1 Q) := ⟨fun h => rd_un h⟩
theorem rd_I {C : Int → Int → Prop} {g : Int → Int → V} (hc : C i j) (q : Q (g i j) H) : rI C g (.int i) (.int j) H Q := ⟨i, j, rfl, rfl, hc, q⟩
theorem rd_I0 {g : Int → Int → V} (q : Q (g i j) H) : rI0 g (.int i) (.int j) H Q := ⟨i, j, rfl, rfl, q⟩
instance st_I0 {g : Int → Int → V} : Stp (rI0 g (.int i) (.int j) H Q) (Q (g i j) H) := ⟨fun h => rd_I0 h⟩
theorem rd_U {g : Int → V} (q : Q (g i) H) : rU g (.int i) H Q := ⟨i, rfl, q⟩
instance st_U {g : Int → V} : Stp (rU g (.int i) H Q) (Q (g i) H) := ⟨fun h => rd_U h⟩
theorem rd_eqI (q : Q (.bl (decide (i = j))) H) : rEq (.int i) (.int j) H Q := ⟨rfl, by
  have e : decide (V.int i = V.int j) = decide (i = j) := decide_eq_decide.mpr ⟨fun z => V.int.inj z, fun z => by rw [z]⟩
  rw [e]
  exact q⟩
instance st_eqI  : Stp (rEq (.int i) (.int j) H Q) (Q (.bl (decide (i = j))) H) := ⟨fun h => rd_eqI h⟩
theorem rd_neI (q : Q (.bl (!decide (i = j))) H) : rNe (.int i) (.int j) H Q := ⟨rfl, by
  have e : decide (V.int i = V.int j) = decide (i = j) := decide_eq_decide.mpr ⟨fun z => V.int.inj z, fun z => by rw [z]⟩
  rw [e]
  exact q⟩
instance st_neI  : Stp (rNe (.int i) (.int j) H Q) (Q (.bl (!decide (i = j))) H) := ⟨fun h => rd_neI h⟩
theorem rd_eqS {i j : Str} (q : Q (.bl (decide (i = j))) H) : rEq (.str i) (.str j) H Q := ⟨rfl, by
  have e : decide (V.str i = V.str j) = decide (i = j) := decide_eq_decide.mpr ⟨fun z => V.str.inj z, fun z => by rw [z]⟩
  rw [e]
  exact q⟩
instance st_eqS {i j : Str} : Stp (rEq (.str i) (.str j) H Q) (Q (.bl (decide (i = j))) H) := ⟨fun h => rd_eqS h⟩
theorem rd_neS {i j : Str} (q : Q (.bl (!decide (i = j))) H) : rNe (.str i) (.str j) H Q := ⟨rfl, by
  have e : decide (V.str i = V.str j) = decide (i = j) := decide_eq_decide.mpr ⟨fun z => V.str.inj z, fun z => by rw [z]⟩
  rw [e]
  exact q⟩
instance st_neS {i j : Str} : Stp (rNe (.str i) (.str j) H Q) (Q (.bl (!decide (i = j))) H) := ⟨fun h => rd_neS h⟩
theorem rd_eqB {i j : Bool} (q : Q (.bl (decide (i = j))) H) : rEq (.bl i) (.bl j) H Q := ⟨rfl, by
  have e : decide (V.bl i = V.bl j) = decide (i = j) := decide_eq_decide.mpr ⟨fun z => V.bl.inj z, fun z => by rw [z]⟩
  rw [e]
  exact q⟩
instance st_eqB {i j : Bool} : Stp (rEq (.bl i) (.bl j) H Q) (Q (.bl (decide (i = j))) H) := ⟨fun h => rd_eqB h⟩
theorem rd_neB {i j : Bool} (q : Q (.bl (!decide (i = j))) H) : rNe (.bl i) (.bl j) H Q := ⟨rfl, by
  have e : decide (V.bl i = V.bl j) = decide (i = j) := decide_eq_decide.mpr ⟨fun z => V.bl.inj z, fun z => by rw [z]⟩
  rw [e]
  exact q⟩
instance st_neB {i j : Bool} : Stp (rNe (.bl i) (.bl j) H Q) (Q (.bl (!decide (i = j))) H) := ⟨fun h => rd_neB h⟩
theorem rd_test (h : te σ H fun x H' => ∃ k, x = .bl k ∧ R k H') : tTest te σ H R := h
instance st_test  : Stp (tTest te σ H R) (te σ H fun x H' => ∃ k, x = .bl k ∧ R k H') := ⟨fun h => rd_test h⟩
theorem rd_B (h : te σ H fun x H' => ∃ k, x = .bl k ∧ R k H') : tB te σ H R := h
instance st_B  : Stp (tB te σ H R) (te σ H fun x H' => ∃ k, x = .bl k ∧ R k H') := ⟨fun h => rd_B h⟩
theorem rd_k {b : Bool} {P : Bool → Prop} (q : P b) : ∃ k, V.bl b = .bl k ∧ P k := ⟨b, rfl, q⟩
instance st_k {b : Bool} {P : Bool → Prop} : Stp (∃ k, V.bl b = .bl k ∧ P k) (P b) := ⟨fun h => rd_k h⟩
theorem rd_and (h : tt σ H fun c H1 => if c = true then uu σ H1 R else R false H1) : tAnd tt uu σ H R := h
instance st_and  : Stp (tAnd tt uu σ H R) (tt σ H fun c H1 => if c = true then uu σ H1 R else R false H1) := ⟨fun h => rd_and h⟩
theorem rd_or (h : tt σ H fun c H1 => if c = true then R true H1 else uu σ H1 R) : tOr tt uu σ H R := h
instance st_or  : Stp (tOr tt uu σ H R) (tt σ H fun c H1 => if c = true then R true H1 else uu σ H1 R) := ⟨fun h => rd_or h⟩
theorem rd_not (h : tt σ H fun c H1 => R (!c) H1) : tNot tt σ H R := h
instance st_not  : Stp (tNot tt σ H R) (tt σ H fun c H1 => R (!c) H1) := ⟨fun h => rd_not h⟩
theorem rd_andV (h : ta σ H fun x H1 => ∃ c, x = .bl c ∧ if c = true then tb σ H1 Q else Q (.bl false) H1) : tAndV ta tb σ H Q := h
instance st_andV  : Stp (tAndV ta tb σ H Q) (ta σ H fun x H1 => ∃ c, x = .bl c ∧ if c = true then tb σ H1 Q else Q (.bl false) H1) := ⟨fun h => rd_andV h⟩
theorem rd_orV (h : ta σ H fun x H1 => ∃ c, x = .bl c ∧ if c = true then Q (.bl true) H1 else tb σ H1 Q) : tOrV ta tb σ H Q := h
instance st_orV  : Stp (tOrV ta tb σ H Q) (ta σ H fun x H1 => ∃ c, x = .bl c ∧ if c = true then Q (.bl true) H1 else tb σ H1 Q) := ⟨fun h => rd_orV h⟩
theorem rd_notV (h : ta σ H fun x H1 => ∃ c, x = .bl c ∧ Q (.bl (!c)) H1) : tNotV ta σ H Q := h
instance st_notV  : Stp (tNotV ta σ H Q) (ta σ H fun x H1 => ∃ c, x = .bl c ∧ Q (.bl (!c)) H1) := ⟨fun h => rd_notV h⟩
theorem rd_ifx (h : tt σ H fun c H1 => if c = true then ta σ H1 Q else tb σ H1 Q) : tIf tt ta tb σ H Q := h
instance st_ifx  : Stp (tIf tt ta tb σ H Q) (tt σ H fun c H1 => if c = true then ta σ H1 Q else tb σ H1 Q) := ⟨fun h => rd_ifx h⟩
theorem rd_chain {r' : R2} (h : ta σ H fun x H1 => tb σ H1 fun y H2 => r x y H2 fun z H3 => ∃ k, z = .bl k ∧ (if k = true then tc σ H3 fun w' H4 => r' y w' H4 Q else Q (.bl false) H3)) : tChain r r' ta tb tc σ H Q := h
instance st_chain {r' : R2} : Stp (tChain r r' ta tb tc σ H Q) (ta σ H fun x H1 => tb σ H1 fun y H2 => r x y H2 fun z H3 => ∃ k, z = .bl k ∧ (if k = true then tc σ H3 fun w' H4 => r' y w' H4 Q else Q (.bl false) H3)) := ⟨fun h => rd_chain h⟩
theorem rd_nil (q : RA [] H) : tNil σ H RA := q
instance st_nil  : Stp (tNil σ H RA) (RA [] H) := ⟨fun h => rd_nil h⟩
theorem rd_cons (h : ta σ H fun x H1 => tr σ H1 fun xs H2 => RA (x :: xs) H2) : tCons ta tr σ H RA := h
instance st_cons  : Stp (tCons ta tr σ H RA) (ta σ H fun x H1 => tr σ H1 fun xs H2 => RA (x :: xs) H2) := ⟨fun h => rd_cons h⟩
theorem rd_tup (h : tr σ H fun xs H1 => xs.length ≤ sizeLine ∧ ∀ p, H1 p = none → Q (.ref p) (upd H1 p (.tup xs))) : tTup tr σ H Q := h
instance st_tup  : Stp (tTup tr σ H Q) (tr σ H fun xs H1 => xs.length ≤ sizeLine ∧ ∀ p, H1 p = none → Q (.ref p) (upd H1 p (.tup xs))) := ⟨fun h => rd_tup h⟩
theorem rd_lst (h : tr σ H fun xs H1 => xs.length ≤ sizeLine ∧ ∀ p, H1 p = none → Q (.ref p) (upd H1 p (.lst xs))) : tLst tr σ H Q := h
instance st_lst  : Stp (tLst tr σ H Q) (tr σ H fun xs H1 => xs.length ≤ sizeLine ∧ ∀ p, H1 p = none → Q (.ref p) (upd H1 p (.lst xs))) := ⟨fun h => rd_lst h⟩
theorem rd_pure (n : NoT H) (h : te σ H fun v H' => Same H H' ∧ Q v H) : tPure te σ H Q := ⟨n, h⟩
theorem rd_pureT (n : NoT H) (h : tt σ H fun v H' => Same H H' ∧ R v H) : tPureT tt σ H R := ⟨n, h⟩
theorem rd_call {sp : Sp} {E : XK} (h : tr σ H fun vs H1 => sp vs H1 Q E) : tCall sp [] E tr σ H Q := by
  show tr σ H fun vs H1 => sp (vs ++ []) H1 Q E
  simp only [List.append_nil]
  exact h
instance st_call {sp : Sp} {E : XK} : Stp (tCall sp [] E tr σ H Q) (tr σ H fun vs H1 => sp vs H1 Q E) := ⟨fun h => rd_call h⟩
theorem rd_cb {rr : List V → Hp → VK → Prop} (h : tr σ H fun vs H1 => rr vs H1 Q) : tCB rr tr σ H Q := h
instance st_cb {rr : List V → Hp → VK → Prop} : Stp (tCB rr tr σ H Q) (tr σ H fun vs H1 => rr vs H1 Q) := ⟨fun h => rd_cb h⟩
/-! statements -/
theorem rd_seq (h : t ⟨u ⟨nx, rt, bk, ct⟩, rt, bk, ct⟩ σ H) : tSeq t u ⟨nx, rt, bk, ct⟩ σ H := h
instance st_seq  : Stp (tSeq t u ⟨nx, rt, bk, ct⟩ σ H) (t ⟨u ⟨nx, rt, bk, ct⟩, rt, bk, ct⟩ σ H) := ⟨fun h => rd_seq h⟩
theorem rd_next (q : nx σ H) : tNext ⟨nx, rt, bk, ct⟩ σ H := q
instance st_next  : Stp (tNext ⟨nx, rt, bk, ct⟩ σ H) (nx σ H) := ⟨fun h => rd_next h⟩
theorem rd_break (q : bk σ H) : tBreak ⟨nx, rt, bk, ct⟩ σ H := q
instance st_break  : Stp (tBreak ⟨nx, rt, bk, ct⟩ σ H) (bk σ H) := ⟨fun h => rd_break h⟩
theorem rd_cont (q : ct σ H) : tCont ⟨nx, rt, bk, ct⟩ σ H := q
instance st_cont  : Stp (tCont ⟨nx, rt, bk, ct⟩ σ H) (ct σ H) := ⟨fun h => rd_cont h⟩
theorem rd_ret (h : te σ H rt) : tRet te ⟨nx, rt, bk, ct⟩ σ H := h
instance st_ret  : Stp (tRet te ⟨nx, rt, bk, ct⟩ σ H) (te σ H rt) := ⟨fun h => rd_ret h⟩
theorem rd_retN (h : rt .non H) : tRetN ⟨nx, rt, bk, ct⟩ σ H := h
instance st_retN  : Stp (tRetN ⟨nx, rt, bk, ct⟩ σ H) (rt .non H) := ⟨fun h => rd_retN h⟩
theorem rd_drop (h : te σ H fun _ H1 => nx σ H1) : tDrop te ⟨nx, rt, bk, ct⟩ σ H := h
instance st_drop  : Stp (tDrop te ⟨nx, rt, bk, ct⟩ σ H) (te σ H fun _ H1 => nx σ H1) := ⟨fun h => rd_drop h⟩
theorem rd_asg {g : TG} (h : te σ H fun x H1 => g x σ H1 nx) : tAsg te g ⟨nx, rt, bk, ct⟩ σ H := h
instance st_asg {g : TG} : Stp (tAsg te g ⟨nx, rt, bk, ct⟩ σ H) (te σ H fun x H1 => g x σ H1 nx) := ⟨fun h => rd_asg h⟩
theorem rd_gname {n : Nat} {N : St → Hp → Prop} (q : N (σ.set n (some v)) H) : gName n v σ H N := q
instance st_gname {n : Nat} {N : St → Hp → Prop} : Stp (gName n v σ H N) (N (σ.set n (some v)) H) := ⟨fun h => rd_gname h⟩
theorem rd_ifS (h : tt σ H fun b H1 => if b = true then t1 ⟨nx, rt, bk, ct⟩ σ H1 else t2 ⟨nx, rt, bk, ct⟩ σ H1) : tIfS tt t1 t2 ⟨nx, rt, bk, ct⟩ σ H := h
instance st_ifS  : Stp (tIfS tt t1 t2 ⟨nx, rt, bk, ct⟩ σ H) (tt σ H fun b H1 => if b = true then t1 ⟨nx, rt, bk, ct⟩ σ H1 else t2 ⟨nx, rt, bk, ct⟩ σ H1) := ⟨fun h => rd_ifS h⟩
theorem rd_par {m n : Nat} (h : tr σ H fun vs H1 => ∃ v w, vs = [v, w] ∧ nx ((σ.set m (some v)).set n (some w)) H1) : tPar m n tr ⟨nx, rt, bk, ct⟩ σ H := h
instance st_par {m n : Nat} : Stp (tPar m n tr ⟨nx, rt, bk, ct⟩ σ H) (tr σ H fun vs H1 => ∃ v w, vs = [v, w] ∧ nx ((σ.set m (some v)).set n (some w)) H1) := ⟨fun h => rd_par h⟩
theorem rd_par2 {v w : V} {P : V → V → Prop} (q : P v w) : ∃ v' w', [v, w] = [v', w'] ∧ P v' w' := ⟨v, w, rfl, q⟩
instance st_par2 {v w : V} {P : V → V → Prop} : Stp (∃ v' w', [v, w] = [v', w'] ∧ P v' w') (P v w) := ⟨fun h => rd_par2 h⟩
theorem rd_augG {n : Nat} {x : V} {te : TE} {ti : TIp} (h : σ[n]? = some (some x)) (q : te σ H fun y H1 => ti x y H1 fun z H2 => nx (σ.set n (some z)) H2) : tAug n te ti ⟨nx, rt, bk, ct⟩ σ H := ⟨x, h, q⟩
theorem rd_ipI {f : Int → Int → Int} {i j : Int} {R : VK} (q : R (.int (f i j)) H) : ipI f (.int i) (.int j) H R := ⟨i, j, rfl, rfl, q⟩
instance st_ipI {f : Int → Int → Int} {i j : Int} {R : VK} : Stp (ipI f (.int i) (.int j) H R) (R (.int (f i j)) H) := ⟨fun h => rd_ipI h⟩
theorem rd_augC {n : Nat} {f : Int → Int → Int} (h : σ[n]? = some (some (.int i))) (q : nx (σ.set n (some (.int (f i j)))) H) : tAug n (tC (.int j)) (ipI f) ⟨nx, rt, bk, ct⟩ σ H := ⟨.int i, h, i, j, rfl, rfl, q⟩
/-! ifs -/
theorem rd_ite {p A B : Prop} [Decidable p] (h1 : p → A) (h2 : ¬ p → B) : if decide p = true then A else B := by
  by_cases h : p
  · rw [if_pos (decide_eq_true h)]
    exact h1 h
  · rw [if_neg (by rw [decide_eq_false h]; decide)]
    exact h2 h
theorem rd_iteN {p A B : Prop} [Decidable p] (h1 : ¬ p → A) (h2 : p → B) : if (!decide p) = true then A else B := by
  by_cases h : p
  · rw [if_neg (by rw [decide_eq_true h]; decide)]
    exact h2 h
  · rw [if_pos (by rw [decide_eq_false h]; decide)]
    exact h1 h
theorem rd_iteb {b : Bool} {A B : Prop} (h1 : b = true → A) (h2 : b = false → B) : if b = true then A else B := by
  cases b with
  | true => exact h1 rfl
  | false => exact h2 rfl
theorem rd_iteNT {A B : Prop} (h : B) : if (!true) = true then A else B := h
instance st_iteNT {A B : Prop} : Stp (if (!true) = true then A else B) (B) := ⟨fun h => rd_iteNT h⟩
theorem rd_iteNF {A B : Prop} (h : A) : if (!false) = true then A else B := h
instance st_iteNF {A B : Prop} : Stp (if (!false) = true then A else B) (A) := ⟨fun h => rd_iteNF h⟩
theorem rd_iteT {A B : Prop} (h : A) : if true = true then A else B := iteT h
instance st_iteT {A B : Prop} : Stp (if true = true then A else B) (A) := ⟨fun h => rd_iteT h⟩
theorem rd_iteF {A B : Prop} (h : B) : if false = true then A else B := iteF h
instance st_iteF {A B : Prop} : Stp (if false = true then A else B) (B) := ⟨fun h => rd_iteF h⟩
/-! while, for -/
def lBody (W : Nat → St → Hp → Prop) (m : Nat) (tb : TS) (nx : St → Hp → Prop) (rt : VK) : St → Hp → Prop := fun σ H =>
  ∃ N : St → Hp → Prop, (∀ σ' H', N σ' H' → ∃ m', m' < m ∧ W m' σ' H') ∧ tb ⟨N, rt, nx, N⟩ σ H
theorem rd_lBody {W : Nat → St → Hp → Prop} {m : Nat} (h : t ⟨fun σ' H' => ∃ m', m' < m ∧ W m' σ' H', rt, nx, fun σ' H' => ∃ m', m' < m ∧ W m' σ' H'⟩ σ H) : lBody W m t nx rt σ H := ⟨_, fun _ _ q => q, h⟩
instance st_lBody {W : Nat → St → Hp → Prop} {m : Nat} : Stp (lBody W m t nx rt σ H) (t ⟨fun σ' H' => ∃ m', m' < m ∧ W m' σ' H', rt, nx, fun σ' H' => ∃ m', m' < m ∧ W m' σ' H'⟩ σ H) := ⟨fun h => rd_lBody h⟩
theorem rd_while (W : Nat → St → Hp → Prop) (m0 : Nat) (h0 : W m0 σ H) (turn : ∀ m σ H, W m σ H → tt σ H fun b H1 => if b = true then lBody W m t nx rt σ H1 else nx σ H1) : tWhile tt t ⟨nx, rt, bk, ct⟩ σ H :=
  ⟨W, ⟨m0, h0⟩, fun m σ H w => turn m σ H w⟩
def fBody (J : It) (g : TG) (tb : TS) (nx : St → Hp → Prop) (rt : VK) : St → Hp → Prop := fun σ H => ∃ W : Nat → Nat → St → Hp → Prop, (∃ m, W 0 m σ H) ∧ ∀ i m σ H, W i m σ H →
  (J.stop i H ∧ nx σ H) ∨ (J.go i H ∧ ∃ N : St → Hp → Prop, (∀ σ' H', N σ' H' → ∃ m', m' < m ∧ W (i + 1) m' σ' H') ∧ ∀ x H', J.yld i H x H' → g x σ H' fun σ2 H2 => tb ⟨N, rt, nx, N⟩ σ2 H2)
theorem rd_for {wi : TI} {g : TG} (h : wi σ H fun J H1 => fBody J g t nx rt σ H1) : tFor wi g t ⟨nx, rt, bk, ct⟩ σ H := h
instance st_for {wi : TI} {g : TG} : Stp (tFor wi g t ⟨nx, rt, bk, ct⟩ σ H) (wi σ H fun J H1 => fBody J g t nx rt σ H1) := ⟨fun h => rd_for h⟩
theorem rd_forR {lo : Int} {n : Nat} {g : TG} (Pv : Nat → St → Hp → Prop) (h0 : Pv 0 σ H)
    (hs : ∀ i σ H, i < n → Pv i σ H → g (.int (lo + i)) σ H fun σ2 H2 => t ⟨Pv (i + 1), rt, nx, Pv (i + 1)⟩ σ2 H2) (hd : ∀ σ H, Pv n σ H → nx σ H) : fBody (Itr lo n) g t nx rt σ H :=
  for_range (D := ⟨nx, rt, fun _ _ => False, fun _ _ => False⟩) Pv h0 hs hd
theorem rd_forL {a : Addr} {xs : List V} {g : TG} (Pv : Nat → St → Hp → Prop) (h0 : Pv 0 σ H) (hl : ∀ i σ H, i ≤ xs.length → Pv i σ H → SqL K H a xs)
    (hs : ∀ i x σ H, xs[i]? = some x → Pv i σ H → g x σ H fun σ2 H2 => t ⟨Pv (i + 1), rt, nx, Pv (i + 1)⟩ σ2 H2) (hd : ∀ σ H, Pv xs.length σ H → nx σ H) : fBody (Itl K a) g t nx rt σ H :=
  for_list (D := ⟨nx, rt, fun _ _ => False, fun _ _ => False⟩) Pv h0 hl hs hd
theorem rd_forT {a : Addr} {xs : List V} {g : TG} (Pv : Nat → St → Hp → Prop) (h0 : Pv 0 σ H) (hl : ∀ i σ H, i ≤ xs.length → Pv i σ H → SqT K H a xs)
    (hs : ∀ i x σ H, xs[i]? = some x → Pv i σ H → g x σ H fun σ2 H2 => t ⟨Pv (i + 1), rt, nx, Pv (i + 1)⟩ σ2 H2) (hd : ∀ σ H, Pv xs.length σ H → nx σ H) : fBody (Itt K a) g t nx rt σ H :=
  for_tup (D := ⟨nx, rt, fun _ _ => False, fun _ _ => False⟩) Pv h0 hl hs hd
theorem rd_ixL {p : Addr} {xs : List V} (h : SqL K H p xs) (ha : atI xs i = some v) (q : Q v H) : rIxL K (.ref p) (.int i) H Q := ⟨p, xs, i, v, rfl, rfl, h, ha, q⟩
theorem rd_ixT {p : Addr} {xs : List V} (h : SqT K H p xs) (ha : atI xs i = some v) (q : Q v H) : rIxT K (.ref p) (.int i) H Q := ⟨p, xs, i, v, rfl, rfl, h, ha, q⟩
theorem rd_inL {p : Addr} {xs : List V} (h : SqL K H p xs) (hx : flatV x = true) (hf : xs.all flatV = true) (q : Q (.bl (inV x xs)) H) : rIn K false x (.ref p) H Q := ⟨p, xs, rfl, .inl h, hx, hf, q⟩
theorem rd_inT {p : Addr} {xs : List V} (h : SqT K H p xs) (hx : flatV x = true) (hf : xs.all flatV = true) (q : Q (.bl (inV x xs)) H) : rIn K false x (.ref p) H Q := ⟨p, xs, rfl, .inr h, hx, hf, q⟩
end
theorem same_new {H : Hp} {p : Addr} {o : HO} (h : H p = none) : Same H (upd H p o) := fun b x e => by
  rw [upd_ne (ne_of_none e h)]
  exact e
end L2
namespace L2
open PySem PySem.Spec PyProof.Rows
section
variable {σ : St} {H : Hp} {Q : VK} {K : PySem.W.Frag} {v : V} {N : St → Hp → Prop} {S : Hp → Prop}
theorem rd_gsub {to ti : TE} {t : TSet} (h : to σ H fun o H1 => ti σ H1 fun i H2 => t o i v H2 fun H3 => N σ H3) : gSub to ti t v σ H N := h
instance st_gsub {to ti : TE} {t : TSet} : Stp (gSub to ti t v σ H N) (to σ H fun o H1 => ti σ H1 fun i H2 => t o i v H2 fun H3 => N σ H3) := ⟨fun h => rd_gsub h⟩
theorem rd_setL {p : Addr} {xs : List V} {k : Int} {j : Nat} (h : H p = some (.lst xs)) (hj : ixN xs.length k = some j) (q : S (upd H p (.lst (xs.set j v)))) : rSetL (.ref p) (.int k) v H S := ⟨p, xs, k, j, rfl, rfl, h, hj, q⟩
end
end L2
namespace L2
open PySem PySem.Spec PyProof.Rows
section
variable {σ : St} {H : Hp} {Q : VK} {K : PySem.W.Frag} {v x y : V} {N : St → Hp → Prop} {S : Hp → Prop} {p : Addr} {o : HO}
theorem rd_new {n : Nat} {F : Addr → Prop} (h : n ≤ sizeLine) (q : ∀ p, H p = none → F p) : n ≤ sizeLine ∧ ∀ p, H p = none → F p := ⟨h, q⟩
theorem rd_back {P : Prop} (hp : H p = none) (q : P) : Same H (upd H p o) ∧ P := ⟨same_new hp, q⟩
theorem rd_backR {P : Prop} (q : P) : Same H H ∧ P := ⟨Same.refl H, q⟩
instance st_backR {P : Prop} : Stp (Same H H ∧ P) (P) := ⟨fun h => rd_backR h⟩
theorem inV2 {i a b : Int} : inV (.int i) [.int a, .int b] = decide (i = a ∨ i = b) := by
  simp only [inV, eqV, List.any_cons, List.any_nil, Bool.or_false]
  by_cases h1 : i = a
  · subst h1
    simp
  · by_cases h2 : i = b
    · subst h2
      simp
    · have e1 : (a == i) = false := by simpa using Ne.symm h1
      have e2 : (b == i) = false := by simpa using Ne.symm h2
      rw [e1, e2]
      simp [h1, h2]
theorem rd_in2 {i a b : Int} (q : Q (.bl (decide (i = a ∨ i = b))) (upd H p (.tup [.int a, .int b]))) : rIn K false (.int i) (.ref p) (upd H p (.tup [.int a, .int b])) Q :=
  ⟨p, _, rfl, .inr (SqT.of upd_same), rfl, rfl, by
    show Q (.bl (inV (.int i) [.int a, .int b])) _
    rw [inV2]
    exact q⟩
instance st_in2 {i a b : Int} : Stp (rIn K false (.int i) (.ref p) (upd H p (.tup [.int a, .int b])) Q) (Q (.bl (decide (i = a ∨ i = b))) (upd H p (.tup [.int a, .int b]))) := ⟨fun h => rd_in2 h⟩
theorem rd_gtup {a : Addr} {xs : List V} {n : Nat} {t : TGs} (h : SqT K H a xs) (hn : xs.length = n) (q : t xs σ H N) : gTup K n t (.ref a) σ H N := ⟨a, xs, rfl, h, hn, q⟩
theorem rd_gcons {t : TG} {u : TGs} {xs : List V} (q : t x σ H fun σ' H' => u xs σ' H' N) : gCons t u (x :: xs) σ H N := ⟨x, xs, rfl, q⟩
instance st_gcons {t : TG} {u : TGs} {xs : List V} : Stp (gCons t u (x :: xs) σ H N) (t x σ H fun σ' H' => u xs σ' H' N) := ⟨fun h => rd_gcons h⟩
theorem rd_gnil (q : N σ H) : gNil [] σ H N := ⟨rfl, q⟩
instance st_gnil  : Stp (gNil [] σ H N) (N σ H) := ⟨fun h => rd_gnil h⟩
theorem rd_bm {T : String} {r : V → List V → Hp → VK → Prop} {to : TE} {t : TA} (h : to σ H fun x H1 => tyV K T x H1 ∧ t σ H1 fun xs H2 => r x xs H2 Q) : tBM K T r to t σ H Q := h
instance st_bm {T : String} {r : V → List V → Hp → VK → Prop} {to : TE} {t : TA} : Stp (tBM K T r to t σ H Q) (to σ H fun x H1 => tyV K T x H1 ∧ t σ H1 fun xs H2 => r x xs H2 Q) := ⟨fun h => rd_bm h⟩
theorem rd_bm0 {T : String} {r : V → List V → Hp → VK → Prop} {to : TE} (h : to σ H fun x H1 => tyV K T x H1 ∧ r x [] H1 Q) : tBM0 K T r to σ H Q := h
instance st_bm0 {T : String} {r : V → List V → Hp → VK → Prop} {to : TE} : Stp (tBM0 K T r to σ H Q) (to σ H fun x H1 => tyV K T x H1 ∧ r x [] H1 Q) := ⟨fun h => rd_bm0 h⟩
theorem rd_tyL {xs : List V} {P : Prop} (h : H p = some (.lst xs)) (q : P) : tyV K "list" (.ref p) H ∧ P := ⟨.inl ⟨rfl, _, SqL.of h⟩, q⟩
theorem rd_append {xs : List V} (h : H p = some (.lst xs)) (hl : xs.length < sizeLine) (q : Q .non (upd H p (.lst (xs ++ [y])))) : rAppend (.ref p) [y] H Q := ⟨p, xs, y, rfl, rfl, h, hl, q⟩
theorem same_upd2 {H' : Hp} {o1 : HO} (h : Same H H') (hp : H p = none) : Same H (upd H' p o1) := fun b x e => by
  rw [upd_ne (ne_of_none e hp)]
  exact h b x e
theorem upd_keep {q : Addr} {u : HO} (h : H p = some o) (hq : H q = none) : upd H q u p = some o := (upd_ne (ne_of_none h hq)).trans h
theorem upd_lst {H : Hp} {p : Addr} {a b : HO} : upd (upd H p a) p b = upd H p b := upd_upd
end
end L2
namespace L2
open PySem PySem.Spec PyProof.Rows
theorem rd_cut {σ : St} {H : Hp} {t u : TS} {nx : St → Hp → Prop} {rt : VK} {bk ct : St → Hp → Prop} (Mid : St → Hp → Prop) (h : t ⟨Mid, rt, bk, ct⟩ σ H) (q : ∀ σ' H', Mid σ' H' → u ⟨nx, rt, bk, ct⟩ σ' H') : C8.tCut t u ⟨nx, rt, bk, ct⟩ σ H := ⟨Mid, h, q⟩
/-! ### built-ins, by name -/
def rLenQ (K : PySem.W.Frag) : List V → Hp → VK → Prop := fun xs H Q => ∃ p ys, xs = [.ref p] ∧ (SqL K H p ys ∨ SqT K H p ys) ∧ Q (.int ys.length) H
def rLenS : List V → Hp → VK → Prop := fun xs H Q => ∃ z, xs = [.str z] ∧ z.length ≤ sizeLine ∧ Q (.int z.length) H
def rAbs : List V → Hp → VK → Prop := fun xs H Q => ∃ i, xs = [.int i] ∧ Q (.int (if i < 0 then -i else i)) H
def rMax2 : List V → Hp → VK → Prop := fun xs H Q => ∃ i j, xs = [.int i, .int j] ∧ Q (.int (if j > i then j else i)) H
def rMin2 : List V → Hp → VK → Prop := fun xs H Q => ∃ i j, xs = [.int i, .int j] ∧ Q (.int (if j < i then j else i)) H
def rInt1 : List V → Hp → VK → Prop := fun xs H Q => (∃ i, xs = [.int i] ∧ Q (.int i) H) ∨ ∃ k, xs = [.bl k] ∧ Q (.int (if k then 1 else 0)) H
def rListOf (K : PySem.W.Frag) : List V → Hp → VK → Prop := fun xs H Q => ∃ p ys, xs = [.ref p] ∧ (SqL K H p ys ∨ SqT K H p ys) ∧ ∀ l, H l = none → Q (.ref l) (upd H l (.lst ys))
section
variable {X : Cx}
theorem c_len : CallR X (.builtin "len") (rLenQ X.K) := call_len_seq
theorem c_lenS : CallR X (.builtin "len") rLenS := call_len_str
theorem c_abs : CallR X (.builtin "abs") rAbs := call_abs
theorem c_max2 (hc : X.calm = true) : CallR X (.builtin "max") rMax2 := call_max2 hc
theorem c_int1 : CallR X (.type "int") rInt1 := call_int1
theorem c_listOf : CallR X (.type "list") (rListOf X.K) := call_list_of
end
section
variable {H : Hp} {Q : VK} {K : PySem.W.Frag} {i j : Int} {p : Addr} {ys : List V}
theorem rd_abs (q : Q (.int (if i < 0 then -i else i)) H) : rAbs [.int i] H Q := ⟨i, rfl, q⟩
instance st_abs  : Stp (rAbs [.int i] H Q) (Q (.int (if i < 0 then -i else i)) H) := ⟨fun h => rd_abs h⟩
theorem rd_max2 (q : Q (.int (if j > i then j else i)) H) : rMax2 [.int i, .int j] H Q := ⟨i, j, rfl, q⟩
instance st_max2  : Stp (rMax2 [.int i, .int j] H Q) (Q (.int (if j > i then j else i)) H) := ⟨fun h => rd_max2 h⟩
theorem rd_min2 (q : Q (.int (if j < i then j else i)) H) : rMin2 [.int i, .int j] H Q := ⟨i, j, rfl, q⟩
instance st_min2  : Stp (rMin2 [.int i, .int j] H Q) (Q (.int (if j < i then j else i)) H) := ⟨fun h => rd_min2 h⟩
theorem rd_int (q : Q (.int i) H) : rInt1 [.int i] H Q := .inl ⟨i, rfl, q⟩
instance st_int  : Stp (rInt1 [.int i] H Q) (Q (.int i) H) := ⟨fun h => rd_int h⟩
theorem rd_intB {b : Bool} (q : Q (.int (if b then 1 else 0)) H) : rInt1 [.bl b] H Q := .inr ⟨b, rfl, q⟩
instance st_intB {b : Bool} : Stp (rInt1 [.bl b] H Q) (Q (.int (if b then 1 else 0)) H) := ⟨fun h => rd_intB h⟩
theorem rd_lenL (h : SqL K H p ys) (q : Q (.int ys.length) H) : rLenQ K [.ref p] H Q := ⟨p, ys, rfl, .inl h, q⟩
theorem rd_lenT (h : SqT K H p ys) (q : Q (.int ys.length) H) : rLenQ K [.ref p] H Q := ⟨p, ys, rfl, .inr h, q⟩
theorem rd_listOfL (h : SqL K H p ys) (q : ∀ l, H l = none → Q (.ref l) (upd H l (.lst ys))) : rListOf K [.ref p] H Q := ⟨p, ys, rfl, .inl h, q⟩
theorem rd_listOfT (h : SqT K H p ys) (q : ∀ l, H l = none → Q (.ref l) (upd H l (.lst ys))) : rListOf K [.ref p] H Q := ⟨p, ys, rfl, .inr h, q⟩
end
end L2
namespace L2
open PySem PySem.Spec PyProof.Rows
/-- a power with a written exponent -/
def rPowN (e : Nat) : R2 := fun x y H Q => ∃ i, x = .int i ∧ y = .int (e : Int) ∧ e ≤ 1000000 ∧ i.natAbs < 2 ^ 64 ∧ Q (.int (i ^ e)) H
theorem op_powN {X : Cx} (e : Nat) : OpR X (binaryOp .Pow) (rPowN e) := fun pins s σ H x y v u Q I rx ry ⟨i, e1, e2, h1, h2, q⟩ =>
  op_pow pins s σ H x y v u Q I rx ry ⟨i, (e : Int), e1, e2, ⟨Int.natCast_nonneg _, by omega, h2⟩, q⟩
theorem rd_powN {e : Nat} {i z : Int} {H : Hp} {Q : VK} (hz : z = (e : Int)) (h1 : e ≤ 1000000) (h2 : i.natAbs < 2 ^ 64) (q : Q (.int (i ^ e)) H) : rPowN e (.int i) (.int z) H Q := ⟨i, rfl, by rw [hz], h1, h2, q⟩
end L2
namespace L2
open PySem PySem.Spec PyProof.Rows
/-! ### a def of the text, and what it keeps -/
structure DefAt (K : PySem.W.Frag) (mg : Str → Option Value) (x : Str) (st : Stmt) (ps : List Str) : Prop where
  ex : ∃ (f : Addr) (fd : FuncData), Fun K x x st f fd ∧ mg x = some (.ref f) ∧ Binds K fd ps []
structure Def (P : Program) (w : World) (K : PySem.W.Frag) (mg : Str → Option Value) (base : Heap) (k : Nat) (x : Str) (ps : List Str) (sp : Sp) : Prop where
  ex : ∃ (f : Addr) (fd : FuncData), FnOk P w K mg base (L2.CX P w) k f fd ps sp ∧ mg x = some (.ref f) ∧ PySem.W.keepIn K (.ref f) = true ∧ Binds K fd ps []
section
variable {P : Program} {w : World} {K : PySem.W.Frag} {mg : Str → Option Value} {base : Heap}
theorem DefAt.ok {x : Str} {st : Stmt} {N ps : List Str} {k : Nat} {sp : Sp} (D : DefAt K mg x st ps) (S : FnScope N ps (defScope st)) (len : ∀ vs H Q E, sp vs H Q E → vs.length = ps.length)
    (hbody : ∀ (f : Addr) (cdv : Value) (A : Around) (outer : List Env) (s : Shared) (H : Hp) (vs : List V) (Q : VK) (E : XK), Room k (A.deeper (envOfC x (defScope st) s.heap.objs.size f cdv)) → sp vs H Q E →
      ∃ t, PSs (cxOf (L2.CX P w) P w K mg base N x (defScope st) f cdv A outer s H E) (defBody st) t ∧ t ⟨fun _ H' => Q .non H', Q, fun _ _ => False, fun _ _ => False⟩ (start N vs) H) : Def P w K mg base (k + 1) x ps sp := by
  obtain ⟨f, fd, F, g, b⟩ := D.ex
  exact ⟨f, fd, F.okX S len fun cdv A outer s H vs Q E hr h => hbody f cdv A outer s H vs Q E hr h, g, F.kp, b⟩
theorem Def.imp {k : Nat} {x : Str} {ps : List Str} {sp sp' : Sp} (D : Def P w K mg base k x ps sp) (h : ∀ vs H Q E, sp' vs H Q E → sp vs H Q E) : Def P w K mg base k x ps sp' := by
  obtain ⟨f, fd, F, g, kp, b⟩ := D.ex
  exact ⟨f, fd, F.imp h, g, kp, b⟩
theorem Def.mono {j k : Nat} {x : Str} {ps : List Str} {sp : Sp} (D : Def P w K mg base j x ps sp) (h : j ≤ k) : Def P w K mg base k x ps sp := by
  obtain ⟨f, fd, F, g, kp, b⟩ := D.ex
  exact ⟨f, fd, F.mono h, g, kp, b⟩
theorem Def.forget {k : Nat} {x : Str} {ps : List Str} {sp : Sp} (D : Def P w K mg base k x ps sp) : Def P w K mg base k x ps (fun vs H Q E => NoT H ∧ sp vs H (fun v H' => Same H H' ∧ Q v H) E) := by
  obtain ⟨f, fd, F, g, kp, b⟩ := D.ex
  exact ⟨f, fd, fn_forget F, g, kp, b⟩
end
section
variable {X : Cx}
theorem pe_d {k : Nat} {x : Str} {ps : List Str} {sp : Sp} {E : XK} {p pos : Pos} {e : Expr} {es : List Expr} {t : TA} (D : Def X.prog X.w X.K X.mg X.base k x ps sp) (hr : Room k X.A) (hx : Passes (L2.CX X.prog X.w) X E) (ha : PA X (e :: es) t) (hg : Gl X x := by rfl)
    (hd : (x == ("__debug__" : Str)) = false := by decide) (he : starEach (e :: es) X.env = (false, eval e X.env) :: starEach es X.env := by rfl) (hpl : (backTo pos (starEach es X.env)).any (·.1) = false := by rfl) :
    PE X (.Call (.Name x p) (e :: es) [] pos) (tCall sp [] E t) := by
  obtain ⟨f, fd, F, g, kp, b⟩ := D.ex
  exact pe_call F hr hg g kp b .nil hx ha hd he hpl
theorem rd_callS {sp : Sp} {W : WX} {tr : TA} {σ : St} {H : Hp} {Q : VK} (h : tr σ H fun vs H1 => sp vs H1 Q (WE W σ)) : tCallS sp (WE W) tr σ H Q := h
instance st_callS {sp : Sp} {W : WX} {tr : TA} {σ : St} {H : Hp} {Q : VK} : Stp (tCallS sp (WE W) tr σ H Q) (tr σ H fun vs H1 => sp vs H1 Q (WE W σ)) := ⟨fun h => rd_callS h⟩
end
/-! ### the program's own errors -/
/-- what the top has written of ClockError, at CC -/
structure BaseC (K : PySem.W.Frag) (mg : Str → Option Value) (CC : Addr) : Prop where
  g : mg "ClockError" = some (.ref CC)
  rd : PySem.W.readsIn K CC (.type "type") = true
  ga : PySem.W.specialIn K (.ref CC) "__getattribute__" = some (some (.builtin "type.__getattribute__"))
  ini : PySem.W.findCls K (.ref CC) (.type "type") "__init__" = some (.val (.builtin "ValueError.__init__"))
section
variable {X : Cx} {e : Expr} {es : List Expr} {ta : TA} {p1 p2 pos : Pos}
theorem pe_ceinit {pl : Sem Bool} {CC : Addr} (B : BaseC X.K X.mg CC) (ha : PA X (e :: es) ta) (hg : Gl X "ClockError" := by rfl)
    (hc : eval (.Call (.Attribute (.Name "ClockError" p1) "__init__" p2) (e :: es) [] pos) X.env = (do
      let ov ← eval (.Name "ClockError" p1) X.env
      standAt p2.atName
      let (f, first) ← holding [ov] (getMethod ov "__init__" pl)
      callWith pos f first (backTo pos (starEach (e :: es) X.env)) (backToKw pos (keywordEach [] X.env))) := by rfl)
    (he : starEach (e :: es) X.env = (false, eval e X.env) :: starEach es X.env := by rfl) (hpl : (backTo pos (starEach es X.env)).any (·.1) = false := by rfl) :
    PE X (.Call (.Attribute (.Name "ClockError" p1) "__init__" p2) (e :: es) [] pos) (tVeI X.K ta) := by
  refine ⟨fun pins s σ H Q I h => ?_⟩
  refine PySem.W.methodCall_KW (ld_glob I hg B.g ?_ (by decide)) hc
  refine PySem.W.method_cls I.kIn B.ga (PySem.W.cls_value I.kIn B.rd B.ini (by decide +kernel) ?_)
  show wpAny _ _ (callWith pos (Value.builtin "ValueError.__init__") [] (backTo pos (starEach (e :: es) X.env)) []) _ _ _
  refine PyProof.Rows.callWith_method1 (thn (ha.run pos pins _ σ H _ (I.tok _) h) fun us s1 ⟨vs, H1, I1, r1, a, C, ws, ev, hl, T, ea, q⟩ => ?_) he hpl
  subst ev
  cases r1 with
  | @cons _ u0 _ ur ra rw' =>
    obtain rfl : u0 = Value.ref a := ra
    have hlen : ur.length ≤ sizeLine := by
      rw [← Paired.length rw', sizeLine_eq]
      omega
    exact oinit_ok T I1 ea hlen fun s' J => ⟨.non, H1, J, rfl, q⟩
end
/-- __init__ of an error with fields: the values ws become fl ws -/
def spErr (C : Addr) (n : Nat) (fl : List V → List (Str × V)) : Sp := fun vs H Q _ => ∃ (a : Addr) (ws : List V), vs = .ref a :: ws ∧ ws.length = n ∧ H a = some (exo a C none) ∧
  ∀ dx, H dx = none → dx ≠ a → Q .non (upd (upd H dx (exd dx (fl ws))) a (exo a C (some dx)))
/-- a class of the program's errors: raised by its name, with n values, the fields fl -/
structure ErrC (P : Program) (w : World) (K : PySem.W.Frag) (mg : Str → Option Value) (base : Heap) (x : Str) (n : Nat) (fl : List V → List (Str × V)) (C : Addr) : Prop where
  g : mg x = some (.ref C)
  T : OexC K C
  X : XfC K C
  self : PySem.W.exmOne K (.ref C) (.ref C) = some true
  ini : ∃ (fI : Addr) (fd : FuncData) (ps : List Str), PySem.W.findIn K (.ref C) "__init__" = some (some (.ref fI)) ∧ PySem.W.typeIn K (.ref fI) = some (.type "function") ∧ FnOk P w K mg base (L2.CX P w) 1 fI fd ps (spErr C n fl) ∧ Binds K fd ps []
theorem pmk_err {X : Cx} {x : Str} {C : Addr} {n : Nat} {fl : List V → List (Str × V)} {e : Expr} {es : List Expr} {ta : TA} {p pos : Pos} (Z : ErrC X.prog X.w X.K X.mg X.base x n fl C) (hr : Room 2 X.A) (ha : PA X (e :: es) ta) (hg : Gl X x := by rfl)
    (hdb : (x == ("__debug__" : Str)) = false := by decide) (he : starEach (e :: es) X.env = (false, eval e X.env) :: starEach es X.env := by rfl) (hpl : (backTo pos (starEach es X.env)).any (·.1) = false := by rfl) :
    PMk X (.Call (.Name x p) (e :: es) [] pos) (tMkO C (spErr C n fl) [] ta) := by
  obtain ⟨fI, fd, ps, iC, tI, F, b⟩ := Z.ini
  exact pmk_oex Z.T iC tI F hr b .nil passL hg Z.g ha hdb he hpl
/-- what the raising asks -/
theorem rd_mk {C : Addr} {n : Nat} {fl : List V → List (Str × V)} {ta : TA} {σ : St} {H : Hp} {Q : XK} (h : ta σ H fun vs H1 => vs.length ≤ 1000 ∧ ∀ a, H1 a = none → spErr C n fl (.ref a :: (vs ++ [])) (upd H1 a (exo a C none))
  (fun v H2 => v = .non ∧ ∃ (d : Addr) (fs : List (Str × V)), H2 a = some (exo a C (some d)) ∧ H2 d = some (exd d fs) ∧ H1 d = none ∧ Q (.ref C) (some d) (upd (del H2 a) d (.xd fs))) (fun _ _ _ => False)) : tMkO C (spErr C n fl) [] ta σ H Q := h
instance st_mk {C : Addr} {n : Nat} {fl : List V → List (Str × V)} {ta : TA} {σ : St} {H : Hp} {Q : XK} : Stp (tMkO C (spErr C n fl) [] ta σ H Q) (ta σ H fun vs H1 => vs.length ≤ 1000 ∧ ∀ a, H1 a = none → spErr C n fl (.ref a :: (vs ++ [])) (upd H1 a (exo a C none))
  (fun v H2 => v = .non ∧ ∃ (d : Addr) (fs : List (Str × V)), H2 a = some (exo a C (some d)) ∧ H2 d = some (exd d fs) ∧ H1 d = none ∧ Q (.ref C) (some d) (upd (del H2 a) d (.xd fs))) (fun _ _ _ => False)) := ⟨fun h => rd_mk h⟩
theorem rd_mk1 {C : Addr} {n : Nat} {fl : List V → List (Str × V)} {vs : List V} {H1 : Hp} {Q : XK} (hl : vs.length = n) (hn : n ≤ 1000) (h : ∀ d, H1 d = none → Q (.ref C) (some d) (upd H1 d (.xd (fl vs)))) :
    vs.length ≤ 1000 ∧ ∀ a, H1 a = none → spErr C n fl (.ref a :: (vs ++ [])) (upd H1 a (exo a C none))
      (fun v H2 => v = .non ∧ ∃ (d : Addr) (fs : List (Str × V)), H2 a = some (exo a C (some d)) ∧ H2 d = some (exd d fs) ∧ H1 d = none ∧ Q (.ref C) (some d) (upd (del H2 a) d (.xd fs))) (fun _ _ _ => False) := by
  refine ⟨by omega, fun a na => ⟨a, vs, by rw [List.append_nil], hl, upd_same, fun dx nd ne => ⟨rfl, dx, fl vs, upd_same, ?_, ?_, ?_⟩⟩⟩
  · rw [upd_ne ne, upd_same]
  · rw [upd_ne ne] at nd
    exact nd
  · have nd' : H1 dx = none := by
      rw [upd_ne ne] at nd
      exact nd
    have z := h dx nd'
    have eq : upd (del (upd (upd (upd H1 a (exo a C none)) dx (exd dx (fl vs))) a (exo a C (some dx))) a) dx (.xd (fl vs)) = upd H1 dx (.xd (fl vs)) := by
      funext b
      by_cases hb : b = dx
      · rw [hb, upd_same, upd_same]
      · rw [upd_ne hb, upd_ne hb]
        by_cases ha : b = a
        · rw [ha, del_same, na]
        · rw [del_ne ha, upd_ne ha, upd_ne hb, upd_ne ha]
    rw [eq]
    exact z
end L2
namespace L2
open PySem PySem.Spec PyProof.Rows
/-- what the top has written of an error's class -/
structure ErrRaw (K : PySem.W.Frag) (mg : Str → Option Value) (x : Str) (C : Addr) (sI : Stmt) (qual : Str) (ps : List Str) : Prop where
  g : mg x = some (.ref C)
  T : OexC K C
  X : XfC K C
  self : PySem.W.exmOne K (.ref C) (.ref C) = some true
  ini : ∃ (fI : Addr) (fd : FuncData), PySem.W.findIn K (.ref C) "__init__" = some (some (.ref fI)) ∧ PySem.W.typeIn K (.ref fI) = some (.type "function") ∧ Fun K "__init__" qual sI fI fd ∧ Binds K fd ps []
theorem ErrC.of {P : Program} {w : World} {K : PySem.W.Frag} {mg : Str → Option Value} {base : Heap} {x : Str} {C : Addr} {sI : Stmt} {qual : Str} {ps : List Str} {n : Nat} {fl : List V → List (Str × V)} (R : ErrRaw K mg x C sI qual ps)
    (h : ∀ (fI : Addr) (fd : FuncData), Fun K "__init__" qual sI fI fd → FnOk P w K mg base (L2.CX P w) 1 fI fd ps (spErr C n fl)) : ErrC P w K mg base x n fl C := by
  obtain ⟨fI, fd, i, t, F, b⟩ := R.ini
  exact ⟨R.g, R.T, R.X, R.self, fI, fd, ps, i, t, h fI fd F, b⟩
/-- an error of the class at S is what «except S» names -/
theorem exm_self {K : PySem.W.Frag} {S : Addr} (h1 : PySem.W.subIn K (.ref S) (.type "BaseException") = some true) (h2 : PySem.W.isClsIn K S = true) (h3 : PySem.W.typeIn K (.ref S) = some (.type "type")) (h4 : PySem.W.subIn K (.ref S) (.ref S) = some true) :
    PySem.W.exmOne K (.ref S) (.ref S) = some true := by
  have e1 : (PySem.W.subIn K (.ref S) (.type "BaseException") == some true) = true := by rw [h1] <;> rfl
  have e2 : ((PySem.W.clsIn K S).isSome && PySem.W.typeIn K (.ref S) == some (.type "type")) = true := by
    have h2' : (PySem.W.clsIn K S).isSome = true := h2
    rw [h2', h3] <;> rfl
  show (if (PySem.W.subIn K (.ref S) (.type "BaseException") == some true) = true then (if ((PySem.W.clsIn K S).isSome && PySem.W.typeIn K (.ref S) == some (.type "type")) = true then PySem.W.subIn K (.ref S) (.ref S) else none) else none) = some true
  rw [if_pos e1, if_pos e2]
  exact h4
theorem NoT.only {H : Hp} (h : Only H) : NoT H := fun a o e => by
  rcases h a with z | ⟨u, xs, z⟩
  · rw [z] at e
    cases e
  · rw [z] at e
    cases e
    rfl
theorem len_1 {α : Type} {ws : List α} (h : ws.length = 1) : ∃ a, ws = [a] := match ws, h with | [a], _ => ⟨a, rfl⟩
/-- law's: a list of at most 63 ints is handed in, True comes out -/
def spLaw (K : PySem.W.Frag) : Sp := fun vs H Q _ => ∃ (a : Addr) (ns : List Int), vs = [.ref a] ∧ SqL K H a (ns.map V.int) ∧ ns.length ≤ 63 ∧ NoT H ∧ ∀ H', Q (.bl true) H'
end L2
namespace L2
open PySem PySem.Spec PyProof.Rows
/-! ### what is walked, by name -/
def rRng1 (S : It → Hp → Prop) (vs : List V) (H : Hp) : Prop := ∃ j : Int, vs = [.int j] ∧ -(2 ^ 62) ≤ j ∧ j < 2 ^ 62 ∧ S (Itr 0 j.toNat) H
def rRng2 (S : It → Hp → Prop) (vs : List V) (H : Hp) : Prop := ∃ i j : Int, vs = [.int i, .int j] ∧ (-(2 ^ 62) ≤ i ∧ i < 2 ^ 62 ∧ -(2 ^ 62) ≤ j ∧ j < 2 ^ 62) ∧ S (Itr i (j - i).toNat) H
def rItL (K : PySem.W.Frag) (S : It → Hp → Prop) (x : V) (H : Hp) : Prop := ∃ a, x = .ref a ∧ (∃ xs, SqL K H a xs) ∧ S (Itl K a) H
def rItT (K : PySem.W.Frag) (S : It → Hp → Prop) (x : V) (H : Hp) : Prop := ∃ a, x = .ref a ∧ (∃ xs, SqT K H a xs) ∧ S (Itt K a) H
section
variable {σ : St} {H : Hp} {Q : VK} {K : PySem.W.Frag} {v x y : V} {ta te : TE} {tt : TT} {tr : TA} {S : It → Hp → Prop}
theorem rd_iR1 (h : tr σ H (rRng1 S)) : iRng1 tr σ H S := h
instance st_iR1  : Stp (iRng1 tr σ H S) (tr σ H (rRng1 S)) := ⟨fun h => rd_iR1 h⟩
theorem rd_iR2 (h : tr σ H (rRng2 S)) : iRng2 tr σ H S := h
instance st_iR2  : Stp (iRng2 tr σ H S) (tr σ H (rRng2 S)) := ⟨fun h => rd_iR2 h⟩
theorem rd_r1 {n : Int} (h1 : -(2 ^ 62) ≤ n) (h2 : n < 2 ^ 62) (q : S (Itr 0 n.toNat) H) : rRng1 S [.int n] H := ⟨n, rfl, h1, h2, q⟩
theorem rd_r2 {m n : Int} (h1 : -(2 ^ 62) ≤ m ∧ m < 2 ^ 62 ∧ -(2 ^ 62) ≤ n ∧ n < 2 ^ 62) (q : S (Itr m (n - m).toNat) H) : rRng2 S [.int m, .int n] H := ⟨m, n, rfl, h1, q⟩
theorem rd_iL (h : ta σ H (rItL K S)) : iList K ta σ H S := h
instance st_iL  : Stp (iList K ta σ H S) (ta σ H (rItL K S)) := ⟨fun h => rd_iL h⟩
theorem rd_iT (h : ta σ H (rItT K S)) : iTup K ta σ H S := h
instance st_iT  : Stp (iTup K ta σ H S) (ta σ H (rItT K S)) := ⟨fun h => rd_iT h⟩
theorem rd_iL1 {a : Addr} {xs : List V} (h : SqL K H a xs) (q : S (Itl K a) H) : rItL K S (.ref a) H := ⟨a, rfl, ⟨xs, h⟩, q⟩
theorem rd_iT1 {a : Addr} {xs : List V} (h : SqT K H a xs) (q : S (Itt K a) H) : rItT K S (.ref a) H := ⟨a, rfl, ⟨xs, h⟩, q⟩
/-! ### list comprehensions -/
def lcB (J : It) (g : TG) (tt : TT) (te : TE) (vs : List Nat) (σ : St) (Q : VK) (H1 : Hp) : Prop := ∀ D, H1 D = none → ∃ W : Nat → Nat → Hp → Prop, (∃ m, W 0 m (upd H1 D (.lst []))) ∧ ∀ i m H, W i m H →
  (J.stop i H ∧ Q (.ref D) H) ∨ (J.go i H ∧ ∃ Nx : Hp → Prop, (∀ H', Nx H' → ∃ m', m' < m ∧ W (i + 1) m' H') ∧ ∀ x H', J.yld i H x H' → g x (wipe σ vs) H' fun σ2 H2 => wipe σ2 vs = wipe σ vs ∧ tt σ2 H2 fun b H3 =>
    if b = true then te σ2 H3 fun y H4 => ∃ acc, H4 D = some (.lst acc) ∧ acc.length < sizeLine ∧ Nx (upd H4 D (.lst (acc ++ [y]))) else Nx H3)
theorem rd_lc {wi : TI} {g : TG} {vs : List Nat} (h : wi σ H fun J H1 => lcB J g tt te vs σ Q H1) : tLc wi g tt te vs σ H Q := h
instance st_lc {wi : TI} {g : TG} {vs : List Nat} : Stp (tLc wi g tt te vs σ H Q) (wi σ H fun J H1 => lcB J g tt te vs σ Q H1) := ⟨fun h => rd_lc h⟩
theorem rd_yes {R : Bool → Hp → Prop} (q : R true H) : tYes σ H R := q
instance st_yes {R : Bool → Hp → Prop} : Stp (tYes σ H R) (R true H) := ⟨fun h => rd_yes h⟩
/-- the item that was made goes onto the list; or none does -/
def LcPut (H : Hp) (D : Addr) (l0 l1 : List V) (y : V) (H4 : Hp) : Prop := ∃ acc, H4 D = some (.lst acc) ∧ acc.length < sizeLine ∧ upd H4 D (.lst (acc ++ [y])) = upd H D (.lst l1)
def LcSkip (H : Hp) (D : Addr) (l1 : List V) (H3 : Hp) : Prop := H3 = upd H D (.lst l1)
def resR (p : Nat → Bool) (f : Nat → V) (i : Nat) : List V := ((List.range i).filter p).map f
theorem resR_len {p : Nat → Bool} {f : Nat → V} {i : Nat} : (resR p f i).length ≤ i := by
  unfold resR
  rw [List.length_map]
  have z : ((List.range i).filter p).length ≤ (List.range i).length := List.length_filter_le _ _
  rw [List.length_range] at z
  exact z
theorem put_R {D : Addr} {p : Nat → Bool} {f : Nat → V} {i : Nat} {y : V} (hi : i < 1000000) (hp : p i = true) (hy : y = f i) : LcPut H D (resR p f i) (resR p f (i + 1)) y (upd H D (.lst (resR p f i))) := by
  refine ⟨_, upd_same, Nat.lt_of_le_of_lt resR_len (Nat.lt_trans hi (by decide)), ?_⟩
  rw [upd_upd]
  unfold resR
  rw [List.range_succ, List.filter_append, List.map_append, hy]
  simp [hp]
theorem skip_R {D : Addr} {p : Nat → Bool} {f : Nat → V} {i : Nat} (hp : p i = false) : LcSkip H D (resR p f (i + 1)) (upd H D (.lst (resR p f i))) := by
  show upd H D _ = _
  unfold resR
  rw [List.range_succ, List.filter_append, List.map_append]
  simp [hp]
theorem rd_lcR {lo : Int} {n : Nat} {g : TG} {vs : List Nat} (p : Nat → Bool) (f : Nat → V)
    (hs : ∀ D i, H D = none → i < n → g (.int (lo + i)) (wipe σ vs) (upd H D (.lst (resR p f i))) fun σ2 H2 => wipe σ2 vs = wipe σ vs ∧ tt σ2 H2 fun b H3 => if b = true then te σ2 H3 (LcPut H D (resR p f i) (resR p f (i + 1))) else LcSkip H D (resR p f (i + 1)) H3)
    (q : ∀ D, H D = none → Q (.ref D) (upd H D (.lst (((List.range n).filter p).map f)))) : lcB (Itr lo n) g tt te vs σ Q H := by
  intro D hD
  refine ⟨fun i m H' => m = n - i ∧ i ≤ n ∧ H' = upd H D (.lst (resR p f i)), ⟨n, by simp, Nat.zero_le _, rfl⟩, ?_⟩
  rintro i m H' ⟨rfl, hi, rfl⟩
  by_cases hlt : i < n
  · refine .inr ⟨hlt, fun H' => H' = upd H D (.lst (resR p f (i + 1))), fun H' p' => ⟨n - (i + 1), by omega, rfl, hlt, p'⟩, fun x H' y => ?_⟩
    obtain ⟨e, y⟩ := y
    subst e y
    exact hs D i hD hlt
  · have e : i = n := by omega
    subst e
    exact .inl ⟨Nat.le_refl _, q D hD⟩
/-! ### deep equality -/
theorem rd_eqD {d e : PyData} (h1 : Dp K H x d) (h2 : Dp K H y e) (s1 : SeqAt.shaped d = true) (s2 : SeqAt.shaped e = true) (q : Q (.bl (PyData.eqv d e)) H) : rEqD K x y H Q := ⟨d, e, h1, h2, s1, s2, q⟩
theorem rd_neD {d e : PyData} (h1 : Dp K H x d) (h2 : Dp K H y e) (s1 : SeqAt.shaped d = true) (s2 : SeqAt.shaped e = true) (q : Q (.bl (!PyData.eqv d e)) H) : rNeD K x y H Q := ⟨d, e, h1, h2, s1, s2, q⟩
end
section
variable {K : PySem.W.Frag} {H : Hp}
theorem dpAll_ints : ∀ ns : List Int, DpAll K H (ns.map V.int) (ns.map PyData.int)
  | [] => .nil
  | n :: r => .cons (.int n) (dpAll_ints r)
theorem dpAll_bls : ∀ ns : List Bool, DpAll K H (ns.map V.bl) (ns.map PyData.bool)
  | [] => .nil
  | n :: r => .cons (.bl n) (dpAll_bls r)
theorem dp_ints {a : Addr} {ns : List Int} (h : SqL K H a (ns.map V.int)) : Dp K H (.ref a) (.list (ns.map PyData.int)) := .lst h (dpAll_ints ns)
end
theorem eqv_ints : ∀ ns ms : List Int, PyData.eqvAll (ns.map PyData.int) (ms.map PyData.int) = decide (ns = ms)
  | [], [] => rfl
  | [], _ :: _ => rfl
  | _ :: _, [] => rfl
  | n :: r, m :: s => by
    rw [List.map_cons, List.map_cons, PyData.eqvAll, eqv_ints r s]
    by_cases h : n = m
    · subst h
      simp [PyData.eqv]
    · have : (n == m) = false := by simpa using h
      simp [PyData.eqv, this, h]
/-! ### a clause of a try -/
section
variable {σ : St} {H : Hp} {K : PySem.W.Frag} {nx : St → Hp → Prop} {rt : VK} {bk ct : St → Hp → Prop} {Q : VK} {te : TE}
def XfB (a : Addr) (cls : Value) (d : Option Addr) (C : Addr) (f : Str) (x : V) (H1 : Hp) (Q : VK) : Prop := x = .ref a ∧ cls = .ref C ∧ ∃ (dd : Addr) (fs : List (Str × V)) (v : V), d = some dd ∧ H1 dd = some (.xd fs) ∧ fs.lookup f = some v ∧ Q v H1
theorem rd_xf {a C : Addr} {cls : Value} {d : Option Addr} {f : Str} (h : te σ H fun x H1 => XfB a cls d C f x H1 Q) : tXf a cls d C f te σ H Q := h
instance st_xf {a C : Addr} {cls : Value} {d : Option Addr} {f : Str} : Stp (tXf a cls d C f te σ H Q) (te σ H fun x H1 => XfB a cls d C f x H1 Q) := ⟨fun h => rd_xf h⟩
theorem rd_xfb {a C dd : Addr} {f : Str} {fs : List (Str × V)} {v : V} (h : H dd = some (.xd fs)) (hl : fs.lookup f = some v) (q : Q v H) : XfB a (.ref C) (some dd) C f (.ref a) H Q := ⟨rfl, rfl, dd, fs, v, rfl, h, hl, q⟩
end
end L2
namespace L2
open PySem PySem.Spec PyProof.Rows
section
variable {σ : St} {H : Hp} {Q : VK} {K : PySem.W.Frag} {N : St → Hp → Prop}
theorem rd_isiII {i : Int} (q : Q (.bl true) H) : rIsi K [.int i, .ty "int"] H Q := ⟨_, _, _, _, true, rfl, .ty _, .base (.int i), kit_ty (by decide +kernel), q⟩
instance st_isiII {i : Int} : Stp (rIsi K [.int i, .ty "int"] H Q) (Q (.bl true) H) := ⟨fun h => rd_isiII h⟩
theorem rd_isiIB {i : Int} (q : Q (.bl false) H) : rIsi K [.int i, .ty "bool"] H Q := ⟨_, _, _, _, false, rfl, .ty _, .base (.int i), kit_ty (by decide +kernel), q⟩
instance st_isiIB {i : Int} : Stp (rIsi K [.int i, .ty "bool"] H Q) (Q (.bl false) H) := ⟨fun h => rd_isiIB h⟩
theorem rd_isiBB {b : Bool} (q : Q (.bl true) H) : rIsi K [.bl b, .ty "bool"] H Q := ⟨_, _, _, _, true, rfl, .ty _, .base (.bl b), kit_ty (by decide +kernel), q⟩
instance st_isiBB {b : Bool} : Stp (rIsi K [.bl b, .ty "bool"] H Q) (Q (.bl true) H) := ⟨fun h => rd_isiBB h⟩
theorem rd_unl {a : Addr} {xs : List V} {n : Nat} {t : TGs} (h : SqL K H a xs) (hn : xs.length = n) (q : t xs σ H N) : gUnl K n t (.ref a) σ H N := ⟨a, xs, rfl, h, hn, q⟩
theorem rd_slL {a : Addr} {xs : List V} {lo hi : Option Int} (h : SqL K H a xs) (q : ∀ p, H p = none → Q (.ref p) (upd H p (.lst (cutV xs lo hi)))) : rSlL K (.ref a) lo hi H Q := ⟨a, xs, rfl, h, q⟩
theorem rd_sl {r : V → Option Int → Option Int → Hp → VK → Prop} {te : TE} {tl th : TO} (h : te σ H fun x H1 => tl σ H1 fun l H2 => th σ H2 fun u H3 => r x l u H3 Q) : tSl r te tl th σ H Q := h
instance st_sl {r : V → Option Int → Option Int → Hp → VK → Prop} {te : TE} {tl th : TO} : Stp (tSl r te tl th σ H Q) (te σ H fun x H1 => tl σ H1 fun l H2 => th σ H2 fun u H3 => r x l u H3 Q) := ⟨fun h => rd_sl h⟩
theorem rd_noPart {R : Option Int → Hp → Prop} (q : R none H) : tNoPart σ H R := q
instance st_noPart {R : Option Int → Hp → Prop} : Stp (tNoPart σ H R) (R none H) := ⟨fun h => rd_noPart h⟩
def rPart (R : Option Int → Hp → Prop) (x : V) (H : Hp) : Prop := ∃ i, x = .int i ∧ R (some i) H
theorem rd_part {te : TE} {R : Option Int → Hp → Prop} (h : te σ H (rPart R)) : tPart te σ H R := h
instance st_part {te : TE} {R : Option Int → Hp → Prop} : Stp (tPart te σ H R) (te σ H (rPart R)) := ⟨fun h => rd_part h⟩
theorem rd_part1 {i : Int} {R : Option Int → Hp → Prop} (q : R (some i) H) : rPart R (.int i) H := ⟨i, rfl, q⟩
instance st_part1 {i : Int} {R : Option Int → Hp → Prop} : Stp (rPart R (.int i) H) (R (some i) H) := ⟨fun h => rd_part1 h⟩
theorem rd_cat {l b : Addr} {xs zs : List V} (h1 : H l = some (.lst xs)) (h2 : H b = some (.lst zs)) (h3 : xs.length + zs.length ≤ sizeLine) (q : ∀ p, H p = none → Q (.ref p) (upd H p (.lst (xs ++ zs)))) : rCat (.ref l) (.ref b) H Q := ⟨l, b, xs, zs, rfl, rfl, h1, h2, h3, q⟩
end
end L2
namespace L2
theorem lt_pow_of {i : Int} {k : Nat} (h1 : -(2 ^ k) < i) (h2 : i < 2 ^ k) : i.natAbs < 2 ^ k := by
  have e : ((2 ^ k : Nat) : Int) = 2 ^ k := by rw [Int.natCast_pow]; rfl
  omega
theorem CMulB.wide {i j : Int} (h1 : -(2 ^ 250) < i ∧ i < 2 ^ 250) (h2 : -(2 ^ 250) < j ∧ j < 2 ^ 250) : CMulB i j :=
  .inr (wide_mul (lt_pow_of h1.1 h1.2) (lt_pow_of h2.1 h2.2) (by decide) (by decide) (by decide))
end L2
namespace L2
open PySem PySem.Spec PyProof.Rows
section
variable {H : Hp} {Q : VK} {K : PySem.W.Frag} {p : Addr}
theorem rd_in2L {i a b : Int} (q : Q (.bl (decide (i = a ∨ i = b))) (upd H p (.lst [.int a, .int b]))) : rIn K false (.int i) (.ref p) (upd H p (.lst [.int a, .int b])) Q :=
  ⟨p, _, rfl, .inl (SqL.of upd_same), rfl, rfl, by
    show Q (.bl (inV (.int i) [.int a, .int b])) _
    rw [inV2]
    exact q⟩
instance st_in2L {i a b : Int} : Stp (rIn K false (.int i) (.ref p) (upd H p (.lst [.int a, .int b])) Q) (Q (.bl (decide (i = a ∨ i = b))) (upd H p (.lst [.int a, .int b]))) := ⟨fun h => rd_in2L h⟩
theorem rd_nin2L {i a b : Int} (q : Q (.bl (!decide (i = a ∨ i = b))) (upd H p (.lst [.int a, .int b]))) : rIn K true (.int i) (.ref p) (upd H p (.lst [.int a, .int b])) Q :=
  ⟨p, _, rfl, .inl (SqL.of upd_same), rfl, rfl, by
    show Q (.bl (!inV (.int i) [.int a, .int b])) _
    rw [inV2]
    exact q⟩
instance st_nin2L {i a b : Int} : Stp (rIn K true (.int i) (.ref p) (upd H p (.lst [.int a, .int b])) Q) (Q (.bl (!decide (i = a ∨ i = b))) (upd H p (.lst [.int a, .int b]))) := ⟨fun h => rd_nin2L h⟩
theorem rd_nin2 {i a b : Int} (q : Q (.bl (!decide (i = a ∨ i = b))) (upd H p (.tup [.int a, .int b]))) : rIn K true (.int i) (.ref p) (upd H p (.tup [.int a, .int b])) Q :=
  ⟨p, _, rfl, .inr (SqT.of upd_same), rfl, rfl, by
    show Q (.bl (!inV (.int i) [.int a, .int b])) _
    rw [inV2]
    exact q⟩
instance st_nin2 {i a b : Int} : Stp (rIn K true (.int i) (.ref p) (upd H p (.tup [.int a, .int b])) Q) (Q (.bl (!decide (i = a ∨ i = b))) (upd H p (.tup [.int a, .int b]))) := ⟨fun h => rd_nin2 h⟩
theorem beq_str {a s : Str} : (a == s) = decide (s = a) := by
  rw [Bool.beq_eq_decide_eq]
  exact decide_eq_decide.mpr eq_comm
theorem inVs4 {s a b c d : Str} : inV (.str s) [.str a, .str b, .str c, .str d] = decide (s = a ∨ s = b ∨ s = c ∨ s = d) := by
  simp only [inV, eqV, List.any_cons, List.any_nil, Bool.or_false, Bool.decide_or, beq_str]
theorem rd_ninS4 {s a b c d : Str} (q : Q (.bl (!decide (s = a ∨ s = b ∨ s = c ∨ s = d))) (upd H p (.lst [.str a, .str b, .str c, .str d]))) : rIn K true (.str s) (.ref p) (upd H p (.lst [.str a, .str b, .str c, .str d])) Q :=
  ⟨p, _, rfl, .inl (SqL.of upd_same), rfl, rfl, by
    show Q (.bl (!inV (.str s) [.str a, .str b, .str c, .str d])) _
    rw [inVs4]
    exact q⟩
instance st_ninS4 {s a b c d : Str} : Stp (rIn K true (.str s) (.ref p) (upd H p (.lst [.str a, .str b, .str c, .str d])) Q) (Q (.bl (!decide (s = a ∨ s = b ∨ s = c ∨ s = d))) (upd H p (.lst [.str a, .str b, .str c, .str d]))) := ⟨fun h => rd_ninS4 h⟩
end
end L2
namespace L2
open PySem PySem.Spec PyProof.Rows
theorem lay_all : ∀ {ds : List PyData}, (∀ d ∈ ds, d.canLay0 = true ∧ d.depth ≤ 60) → PyData.canLayAll0 ds = true ∧ PyData.depthAll ds ≤ 60
  | [], _ => ⟨rfl, Nat.zero_le _⟩
  | d :: ds, h => by
    obtain ⟨a, b⟩ := lay_all (ds := ds) fun e he => h e (List.mem_cons_of_mem _ he)
    obtain ⟨c, e⟩ := h d (List.mem_cons_self ..)
    simp only [PyData.canLayAll0, PyData.depthAll]
    exact ⟨by rw [c, a]; rfl, Nat.max_le.mpr ⟨e, b⟩⟩
theorem shaped_list {ds : List PyData} (h : ∀ d ∈ ds, d.canLay0 = true ∧ d.depth ≤ 60) : SeqAt.shaped (.list ds) = true := by
  obtain ⟨a, b⟩ := lay_all h
  unfold SeqAt.shaped
  have : (PyData.list ds).canLay0 = true := a
  rw [this, Bool.true_and, decide_eq_true_eq]
  show PyData.depthAll ds + 1 ≤ 64
  omega
theorem shaped_ints (ns : List Int) : SeqAt.shaped (.list (ns.map PyData.int)) = true := shaped_list fun d hd => by
  obtain ⟨n, _, rfl⟩ := List.mem_map.mp hd
  exact ⟨rfl, by simp [PyData.depth]⟩
section
variable {H : Hp} {Q : VK} {K : PySem.W.Frag} {a b p : Addr}
/-- two lists of whole numbers -/
theorem rd_eqInts {ns ms : List Int} (h1 : SqL K H a (ns.map V.int)) (h2 : SqL K H b (ms.map V.int)) (q : Q (.bl (decide (ns = ms))) H) : rEqD K (.ref a) (.ref b) H Q :=
  ⟨_, _, dp_ints h1, dp_ints h2, shaped_ints _, shaped_ints _, by rw [PyData.eqv, eqv_ints]; exact q⟩
theorem rd_neInts {ns ms : List Int} (h1 : SqL K H a (ns.map V.int)) (h2 : SqL K H b (ms.map V.int)) (q : Q (.bl (!decide (ns = ms))) H) : rNeD K (.ref a) (.ref b) H Q :=
  ⟨_, _, dp_ints h1, dp_ints h2, shaped_ints _, shaped_ints _, by rw [PyData.eqv, eqv_ints]; exact q⟩
/-- equal data -/
theorem rd_neSame {x y : V} {d : PyData} (h1 : Dp K H x d) (h2 : Dp K H y d) (s : SeqAt.shaped d = true) (q : Q (.bl false) H) : rNeD K x y H Q :=
  ⟨d, d, h1, h2, s, s, by rw [SeqAt.eqv_refl d (SeqAt.canLay_of_shaped s)]; exact q⟩
theorem rd_isiL {xs : List V} (h : H a = some (.lst xs)) (q : Q (.bl true) H) : rIsi K [.ref a, .ty "list"] H Q := ⟨_, _, _, _, true, rfl, .ty _, .base (.lst h), kit_ty (by decide +kernel), q⟩
theorem rd_isiT {xs : List V} (h : H a = some (.tup xs)) (q : Q (.bl true) H) : rIsi K [.ref a, .ty "tuple"] H Q := ⟨_, _, _, _, true, rfl, .ty _, .base (.tup h), kit_ty (by decide +kernel), q⟩
end
end L2
namespace L2
open PySem PySem.Spec PyProof.Rows
theorem Same.lst {K : PySem.W.Frag} {H0 H : Hp} {a : Addr} {xs : List V} (e : Same H0 H) (h : H0 a = some (.lst xs)) : SqL K H a xs := SqL.of (e _ _ h)
end L2
namespace L2
theorem rd_neF {p A B : Prop} [Decidable p] (h : p) (q : B) : if (!decide p) = true then A else B := by
  rw [decide_eq_true h]
  exact q
theorem rd_eqT {p A B : Prop} [Decidable p] (h : p) (q : A) : if decide p = true then A else B := by
  rw [decide_eq_true h]
  exact q
end L2
namespace L2
open PySem PySem.Spec PyProof.Rows
theorem inV_ints {x : Int} : ∀ {ns : List Int}, inV (.int x) (ns.map V.int) = decide (x ∈ ns)
  | [] => by simp [inV]
  | n :: ns => by
    have := inV_ints (x := x) (ns := ns)
    unfold inV at *
    rw [List.map_cons, List.any_cons, this, eqV, Bool.beq_eq_decide_eq, ← Bool.decide_or]
    refine decide_eq_decide.mpr ?_
    rw [List.mem_cons]
    exact or_congr eq_comm Iff.rfl
theorem flat_ints : ∀ {ns : List Int}, (ns.map V.int).all flatV = true
  | [] => rfl
  | _ :: ns => by
    rw [List.map_cons, List.all_cons, flat_ints (ns := ns)]
    rfl
section
variable {σ : St} {H : Hp} {Q : VK} {K : PySem.W.Frag} {p : Addr} {te : TE} {tt : TC}
theorem all_map {n : Nat} {g : Nat → Int} : ((List.range n).filter (fun _ => true)).map (fun i => V.int (g i)) = ((List.range n).map g).map V.int := by
  rw [List.filter_eq_self.mpr (fun _ _ => rfl), List.map_map]
  rfl
end
end L2
namespace L2
open PySem PySem.Spec PyProof.Rows
section
variable {σ : St} {H : Hp} {Q : VK} {K : PySem.W.Frag} {te : TE} {tt : TT}
theorem put_G {J : Addr → Nat → List V → Hp → Prop} {D : Addr} {i : Nat} {H4 : Hp} {acc : List V} {y : V} (h : H4 D = some (.lst acc)) (hl : acc.length < sizeLine) (j : J D (i + 1) (acc ++ [y]) (upd H4 D (.lst (acc ++ [y])))) :
    ∃ acc, H4 D = some (.lst acc) ∧ acc.length < sizeLine ∧ ∃ ys, (upd H4 D (.lst (acc ++ [y]))) D = some (.lst ys) ∧ J D (i + 1) ys (upd H4 D (.lst (acc ++ [y]))) := ⟨acc, h, hl, _, upd_same, j⟩
end
end L2
namespace L2
open PySem PySem.Spec PyProof.Rows
/-! ### classes of the text: fields, methods, making, ==, calls -/
structure MethAt (K : PySem.W.Frag) (C : Addr) (m qual : Str) (st : Stmt) (ps : List Str) : Prop where
  ex : ∃ (f : Addr) (fd : FuncData), Fun K m qual st f fd ∧ Meth K C m f ∧ Binds K fd ps []
structure MDef (P : Program) (w : World) (K : PySem.W.Frag) (mg : Str → Option Value) (base : Heap) (k : Nat) (C : Addr) (m : Str) (ps : List Str) (sp : Sp) : Prop where
  ex : ∃ (f : Addr) (fd : FuncData), FnOk P w K mg base (L2.CX P w) k f fd ps sp ∧ Meth K C m f ∧ Binds K fd ps []
structure MkAt (K : PySem.W.Frag) (mg : Str → Option Value) (x : Str) (C : Addr) (qual : Str) (st : Stmt) (ps : List Str) : Prop where
  ex : ∃ (f : Addr) (fd : FuncData), Fun K "__init__" qual st f fd ∧ Mk K C f ∧ Binds K fd ps []
  g : mg x = some (.ref C)
structure MkDef (P : Program) (w : World) (K : PySem.W.Frag) (mg : Str → Option Value) (base : Heap) (k : Nat) (x : Str) (C : Addr) (ps : List Str) (sp : Sp) : Prop where
  ex : ∃ (f : Addr) (fd : FuncData), FnOk P w K mg base (L2.CX P w) k f fd ps sp ∧ Mk K C f ∧ Binds K fd ps []
  g : mg x = some (.ref C)
section
variable {P : Program} {w : World} {K : PySem.W.Frag} {mg : Str → Option Value} {base : Heap}
theorem MethAt.ok {C : Addr} {m qual : Str} {st : Stmt} {N ps : List Str} {k : Nat} {sp : Sp} (D : MethAt K C m qual st ps) (S : FnScope N ps (defScope st)) (len : ∀ vs H Q E, sp vs H Q E → vs.length = ps.length)
    (hbody : ∀ (f : Addr) (cdv : Value) (A : Around) (outer : List Env) (s : Shared) (H : Hp) (vs : List V) (Q : VK) (E : XK), Room k (A.deeper (envOfC qual (defScope st) s.heap.objs.size f cdv)) → sp vs H Q E →
      ∃ t, PSs (cxOf (L2.CX P w) P w K mg base N qual (defScope st) f cdv A outer s H E) (defBody st) t ∧ t ⟨fun _ H' => Q .non H', Q, fun _ _ => False, fun _ _ => False⟩ (start N vs) H) : MDef P w K mg base (k + 1) C m ps sp := by
  obtain ⟨f, fd, F, g, b⟩ := D.ex
  exact ⟨f, fd, F.okX S len fun cdv A outer s H vs Q E hr h => hbody f cdv A outer s H vs Q E hr h, g, b⟩
theorem MkAt.ok {x : Str} {C : Addr} {qual : Str} {st : Stmt} {N ps : List Str} {k : Nat} {sp : Sp} (D : MkAt K mg x C qual st ps) (S : FnScope N ps (defScope st)) (len : ∀ vs H Q E, sp vs H Q E → vs.length = ps.length)
    (hbody : ∀ (f : Addr) (cdv : Value) (A : Around) (outer : List Env) (s : Shared) (H : Hp) (vs : List V) (Q : VK) (E : XK), Room k (A.deeper (envOfC qual (defScope st) s.heap.objs.size f cdv)) → sp vs H Q E →
      ∃ t, PSs (cxOf (L2.CX P w) P w K mg base N qual (defScope st) f cdv A outer s H E) (defBody st) t ∧ t ⟨fun _ H' => Q .non H', Q, fun _ _ => False, fun _ _ => False⟩ (start N vs) H) : MkDef P w K mg base (k + 1) x C ps sp := by
  obtain ⟨f, fd, F, g, b⟩ := D.ex
  exact ⟨⟨f, fd, F.okX S len fun cdv A outer s H vs Q E hr h => hbody f cdv A outer s H vs Q E hr h, g, b⟩, D.g⟩
theorem MDef.imp {k : Nat} {C : Addr} {m : Str} {ps : List Str} {sp sp' : Sp} (D : MDef P w K mg base k C m ps sp) (h : ∀ vs H Q E, sp' vs H Q E → sp vs H Q E) : MDef P w K mg base k C m ps sp' := by
  obtain ⟨f, fd, F, g, b⟩ := D.ex
  exact ⟨f, fd, F.imp h, g, b⟩
theorem MDef.mono {j k : Nat} {C : Addr} {m : Str} {ps : List Str} {sp : Sp} (D : MDef P w K mg base j C m ps sp) (h : j ≤ k) : MDef P w K mg base k C m ps sp := by
  obtain ⟨f, fd, F, g, b⟩ := D.ex
  exact ⟨f, fd, F.mono h, g, b⟩
theorem MDef.forget {k : Nat} {C : Addr} {m : Str} {ps : List Str} {sp : Sp} (D : MDef P w K mg base k C m ps sp) : MDef P w K mg base k C m ps (fun vs H Q E => NoT H ∧ sp vs H (fun v H' => Same H H' ∧ Q v H) E) := by
  obtain ⟨f, fd, F, g, b⟩ := D.ex
  exact ⟨f, fd, fn_forget F, g, b⟩
end
def tFldC (C : Addr) (ta : TE) (f : Str) : TE := fun σ H Q => ta σ H fun x H1 => ∃ a dx fs v, x = .ref a ∧ H1 a = some (.ins C dx fs) ∧ fs.lookup f = some v ∧ Q v H1
def sFldC (C : Addr) (ta tv : TE) (f : Str) : TS := fun D σ H => tv σ H fun y H1 => ta σ H1 fun x H2 => ∃ a dx fs, x = .ref a ∧ H2 a = some (.ins C dx fs) ∧ fs.length < 1000 ∧ D.nx σ (upd H2 a (.ins C dx (putF f y fs)))
def tCallC (C : Addr) (sp : Sp) (E : XK) (tf : TE) (t : TA) : TE := fun σ H Q => tf σ H fun y H1 => ∃ a, y = V.ref a ∧ t σ H1 fun vs H2 => (∃ dx fs, H2 a = some (.ins C dx fs)) ∧ sp (V.ref a :: vs) H2 Q E
def rEqO (K : PySem.W.Frag) (C : Addr) (sp : Sp) (E : XK) : R2 := fun x y H Q => ∃ a dx fs ty, x = .ref a ∧ H a = some (.ins C dx fs) ∧ TyX K H y ty ∧ PySem.W.notFirst K C ty = true ∧ sp [.ref a, y] H (fun v H' => (∃ b, v = .bl b) ∧ Q v H') E
section
variable {X : Cx} {o e value : Expr} {es : List Expr} {f : Str} {pos pos' tpos apos p : Pos} {ta tv : TE} {t : TA} {C : Addr}
theorem pe_fldC (he : PE X e ta) (c : Cls X.K C) (n : NoAttr X.K C f) (hb : attributeBase e f X.env (eval e X.env) = eval e X.env := by rfl) : PE X (.Attribute e f pos) (tFldC C ta f) := by
  refine ⟨fun pins s σ H Q I h => ?_⟩
  refine attr_of hb (thn (he.run pins s σ H _ I h) fun u s1 ⟨x, H1, I1, rx, a, dx, fs, v, ex, ea, l, q⟩ => ?_)
  subst ex
  obtain rfl : u = Value.ref a := rx
  exact getattr_ok I1 ea c n l fun u' s2 I2 ru => ⟨v, H1, I2, ru, q⟩
theorem ps_fldC (ha : PE X o ta) (hv : PE X value tv) (c : Cls X.K C) (n : NoAttr X.K C f) (hs : swapsWith value (some (.Attribute o f pos')) pos.line X.env = pure false := by rfl) : PS X (.Assign [.Attribute o f pos'] value pos) (sFldC C ta tv f) := by
  refine ⟨fun pins s σ H D I h => ?_⟩
  refine plainObj_wpAny_Assign_Attribute (thn (hv.run pins s σ H _ I h) fun u s1 ⟨y, H1, I1, ry, q⟩ => thn (ha.run pins s1 σ H1 _ I1 q) fun ov s2 ⟨x, H2, I2, rx, a, dx, fs, ex, ea, l, q2⟩ => ?_) hs
  subst ex
  obtain rfl : ov = Value.ref a := rx
  exact setattr_ok I2 ea c n l ry fun s3 I3 => ⟨σ, _, I3, q2⟩
theorem pe_mkd {k : Nat} {x : Str} {ps : List Str} {sp : Sp} {E : XK} (D : MkDef X.prog X.w X.K X.mg X.base k x C ps sp) (hr : Room (k + 1) X.A) (hx : Passes (L2.CX X.prog X.w) X E) (ha : PA X (e :: es) t) (hg : Gl X x := by rfl)
    (hdb : (x == ("__debug__" : Str)) = false := by decide) (he : starEach (e :: es) X.env = (false, eval e X.env) :: starEach es X.env := by rfl) (hpl : (backTo pos (starEach es X.env)).any (·.1) = false := by rfl) :
    PE X (.Call (.Name x p) (e :: es) [] pos) (tMake C sp [] E t) := by
  obtain ⟨f, fd, F, M, b⟩ := D.ex
  exact pe_make M F hr hg D.g b .nil hx ha hdb he hpl
/-- x == y, x an instance of C with an own __eq__ -/
theorem op_eqO {k : Nat} {ps : List Str} {sp : Sp} {E : XK} (D : MDef X.prog X.w X.K X.mg X.base k C "__eq__" ps sp) (hr : Room k X.A) (hu : X.A.units < cLine) (hx : Passes (L2.CX X.prog X.w) X E) : OpR X (compareOp .Eq) (rEqO X.K C sp E) := by
  intro pins s σ H x y v u Q I rx ry h
  obtain ⟨f, fd, F, g, b⟩ := D.ex
  obtain ⟨a, dx, fs, ty, rfl, ha, hty, hn, hsp⟩ := h
  cases (show v = Value.ref a from rx)
  obtain ⟨mA, J, _⟩ := ins_get I.hok ha
  obtain ⟨od, J, _⟩ := J.look
  obtain ⟨m, hF⟩ := I.fr
  obtain ⟨P, Z, hp, _⟩ := kit_of I ry hty
  show wpAny (model X.prog X.w) X.A (richCompare .Eq (.ref a) u) (EP X pins σ Q) X.xe s
  refine PySem.W.cmp_K (op := .Eq) (tb := ty) hu hF I.ok.mod.kin J (Z.ty _ s.heap I.kIn hp) hn g.at_ g.fn ?_
  have hl := F.len _ _ _ _ hsp
  refine wpAny_mono (run_fn (dvs := []) (ds := []) (us := [.ref a, u]) (vs := [.ref a, y]) F hr b .nil hx I (.cons rfl (.cons ry .nil)) hsp) (fun r s' q => ?_) fun _ _ z => z
  obtain ⟨z, H', I', rz, ⟨bb, rfl⟩, q⟩ := q
  cases (show r = Value.bool bb from rz)
  exact ⟨.bl bb, H', I', rfl, q⟩
end
section
variable {σ : St} {H : Hp} {Q : VK} {C p : Addr} {ta tv : TE} {t : TA} {f m : Str} {v : V} {nx : St → Hp → Prop} {rt : VK} {bk ct : St → Hp → Prop} {sp : Sp} {E : XK}
theorem rd_fldC (h : ta σ H fun x H1 => ∃ a dx fs v, x = .ref a ∧ H1 a = some (.ins C dx fs) ∧ fs.lookup f = some v ∧ Q v H1) : tFldC C ta f σ H Q := h
instance st_fldC  : Stp (tFldC C ta f σ H Q) (ta σ H fun x H1 => ∃ a dx fs v, x = .ref a ∧ H1 a = some (.ins C dx fs) ∧ fs.lookup f = some v ∧ Q v H1) := ⟨fun h => rd_fldC h⟩
theorem rd_fld1 {dx : Addr} {fs : List (Str × V)} {S : V → Prop} (h : H p = some (.ins C dx fs)) (l : fs.lookup f = some v) (q : S v) : ∃ a dx fs v, V.ref p = .ref a ∧ H a = some (.ins C dx fs) ∧ fs.lookup f = some v ∧ S v := ⟨p, dx, fs, v, rfl, h, l, q⟩
theorem rd_sfldC (h : tv σ H fun y H1 => ta σ H1 fun x H2 => ∃ a dx fs, x = .ref a ∧ H2 a = some (.ins C dx fs) ∧ fs.length < 1000 ∧ nx σ (upd H2 a (.ins C dx (putF f y fs)))) : sFldC C ta tv f ⟨nx, rt, bk, ct⟩ σ H := h
instance st_sfldC  : Stp (sFldC C ta tv f ⟨nx, rt, bk, ct⟩ σ H) (tv σ H fun y H1 => ta σ H1 fun x H2 => ∃ a dx fs, x = .ref a ∧ H2 a = some (.ins C dx fs) ∧ fs.length < 1000 ∧ nx σ (upd H2 a (.ins C dx (putF f y fs)))) := ⟨fun h => rd_sfldC h⟩
theorem rd_sfld1 {dx : Addr} {fs : List (Str × V)} {S : Addr → Addr → List (Str × V) → Prop} (h : H p = some (.ins C dx fs)) (l : fs.length < 1000) (q : S p dx fs) : ∃ a dx fs, V.ref p = .ref a ∧ H a = some (.ins C dx fs) ∧ fs.length < 1000 ∧ S a dx fs := ⟨p, dx, fs, rfl, h, l, q⟩
theorem rd_meth (h : ta σ H fun x H1 => ∃ a dx fs, x = .ref a ∧ H1 a = some (.ins C dx fs) ∧ fs.lookup m = none ∧ t σ H1 fun vs H2 => sp (x :: vs) H2 Q E) : tMeth C m sp [] E ta t σ H Q := by
  show ta σ H fun x H1 => ∃ a dx fs, x = .ref a ∧ H1 a = some (.ins C dx fs) ∧ fs.lookup m = none ∧ t σ H1 fun vs H2 => sp (x :: (vs ++ [])) H2 Q E
  simp only [List.append_nil]
  exact h
instance st_meth  : Stp (tMeth C m sp [] E ta t σ H Q) (ta σ H fun x H1 => ∃ a dx fs, x = .ref a ∧ H1 a = some (.ins C dx fs) ∧ fs.lookup m = none ∧ t σ H1 fun vs H2 => sp (x :: vs) H2 Q E) := ⟨fun h => rd_meth h⟩
theorem rd_meth1 {dx : Addr} {fs : List (Str × V)} {S : Prop} (h : H p = some (.ins C dx fs)) (l : fs.lookup m = none) (q : S) : ∃ a dx fs, V.ref p = .ref a ∧ H a = some (.ins C dx fs) ∧ fs.lookup m = none ∧ S := ⟨p, dx, fs, rfl, h, l, q⟩
theorem rd_make (h : t σ H fun vs H1 => ∀ x dx, H1 x = none → H1 dx = none → dx ≠ x → sp (.ref x :: vs) (upd (upd H1 dx (.own x)) x (.ins C dx [])) (fun v H2 => v = .non ∧ Q (.ref x) H2) E) : tMake C sp [] E t σ H Q := by
  show t σ H fun vs H1 => ∀ x dx, H1 x = none → H1 dx = none → dx ≠ x → sp (.ref x :: (vs ++ [])) (upd (upd H1 dx (.own x)) x (.ins C dx [])) (fun v H2 => v = .non ∧ Q (.ref x) H2) E
  simp only [List.append_nil]
  exact h
instance st_make  : Stp (tMake C sp [] E t σ H Q) (t σ H fun vs H1 => ∀ x dx, H1 x = none → H1 dx = none → dx ≠ x → sp (.ref x :: vs) (upd (upd H1 dx (.own x)) x (.ins C dx [])) (fun v H2 => v = .non ∧ Q (.ref x) H2) E) := ⟨fun h => rd_make h⟩
theorem rd_callC (h : ta σ H fun y H1 => ∃ a, y = V.ref a ∧ t σ H1 fun vs H2 => (∃ dx fs, H2 a = some (.ins C dx fs)) ∧ sp (V.ref a :: vs) H2 Q E) : tCallC C sp E ta t σ H Q := h
instance st_callC : Stp (tCallC C sp E ta t σ H Q) (ta σ H fun y H1 => ∃ a, y = V.ref a ∧ t σ H1 fun vs H2 => (∃ dx fs, H2 a = some (.ins C dx fs)) ∧ sp (V.ref a :: vs) H2 Q E) := ⟨fun h => rd_callC h⟩
theorem rd_callO1 {S : Addr → Prop} (q : S p) : ∃ a, V.ref p = V.ref a ∧ S a := ⟨p, rfl, q⟩
instance st_callO1 {S : Addr → Prop} : Stp (∃ a, V.ref p = V.ref a ∧ S a) (S p) := ⟨fun q => rd_callO1 q⟩
theorem rd_callO2 {dx : Addr} {fs : List (Str × V)} {S : Prop} (h : H p = some (.ins C dx fs)) (q : S) : (∃ dx fs, H p = some (.ins C dx fs)) ∧ S := ⟨⟨dx, fs, h⟩, q⟩
theorem rd_isB {a b : Bool} (q : Q (.bl (decide (a = b))) H) : rIsB (.bl a) (.bl b) H Q := ⟨a, b, rfl, rfl, q⟩
instance st_isB {a b : Bool} : Stp (rIsB (.bl a) (.bl b) H Q) (Q (.bl (decide (a = b))) H) := ⟨fun h => rd_isB h⟩
theorem rd_notB {a b : Bool} (q : Q (.bl (!decide (a = b))) H) : rNotB (.bl a) (.bl b) H Q := ⟨a, b, rfl, rfl, q⟩
instance st_notB {a b : Bool} : Stp (rNotB (.bl a) (.bl b) H Q) (Q (.bl (!decide (a = b))) H) := ⟨fun h => rd_notB h⟩
theorem rd_isNone {x : V} (q : Q (.bl (decide (x = .non))) H) : (V.non = V.non) ∧ Q (.bl (decide (x = .non))) H := ⟨rfl, q⟩
instance st_isNone {x : V} : Stp ((V.non = V.non) ∧ Q (.bl (decide (x = .non))) H) (Q (.bl (decide (x = .non))) H) := ⟨fun h => rd_isNone h⟩
end
theorem kit_self {K : PySem.W.Frag} {C : Addr} : PySem.W.kitOne K (.ref C) (.ref C) = some true := if_pos (by simp)
theorem sub_list {K : PySem.W.Frag} {C : Addr} : PySem.W.subIn K (.type "list") (.ref C) = some false := rfl
theorem kit_list {K : PySem.W.Frag} {C : Addr} (h1 : PySem.W.isClsIn K C = true) (h2 : PySem.W.typeIn K (.ref C) = some (.type "type")) : PySem.W.kitOne K (.type "list") (.ref C) = some false := by
  have e : ((PySem.W.clsIn K C).isSome && PySem.W.typeIn K (.ref C) == some (.type "type")) = true := by
    have h1' : (PySem.W.clsIn K C).isSome = true := h1
    rw [h1', h2] <;> rfl
  show (if (Value.type "list" == Value.ref C) = true then some true else if ((PySem.W.clsIn K C).isSome && PySem.W.typeIn K (.ref C) == some (.type "type")) = true then PySem.W.subIn K (.type "list") (.ref C) else none) = some false
  rw [if_neg (by intro z; cases z), if_pos e]
  exact sub_list
theorem notFirst_list {K : PySem.W.Frag} {C : Addr} : PySem.W.notFirst K C (.type "list") = true := by
  unfold PySem.W.notFirst
  rw [sub_list]
  rfl
end L2
namespace L2
open PySem PySem.Spec PyProof.Rows
/-! ### data without bools: what == tells is equality -/
mutual
def okD : PyData → Nat → Bool
  | .none, _ => true
  | .int _, _ => true
  | .str s, _ => PyData.strOk s
  | .list xs, n => decide (0 < n) && okDs xs (n - 1)
  | .tuple xs, n => decide (0 < n) && okDs xs (n - 1)
  | .bool _, _ => false
  | .dict _, _ => false
def okDs : List PyData → Nat → Bool
  | [], _ => true
  | x :: xs, n => okD x n && okDs xs n
end
mutual
theorem okD_lay : ∀ (d : PyData) (n : Nat), okD d n = true → d.canLay0 = true ∧ d.depth ≤ n
  | .none, _, _ => ⟨rfl, by simp [PyData.depth]⟩
  | .int _, _, _ => ⟨rfl, by simp [PyData.depth]⟩
  | .str s, _, h => ⟨by simpa [okD, PyData.canLay0] using h, by simp [PyData.depth]⟩
  | .list xs, n, h => by
    simp only [okD, Bool.and_eq_true, decide_eq_true_eq] at h
    obtain ⟨a, b⟩ := okDs_lay xs (n - 1) h.2
    refine ⟨by rw [PyData.canLay0]; exact a, ?_⟩
    simp only [PyData.depth]
    omega
  | .tuple xs, n, h => by
    simp only [okD, Bool.and_eq_true, decide_eq_true_eq] at h
    obtain ⟨a, b⟩ := okDs_lay xs (n - 1) h.2
    refine ⟨by rw [PyData.canLay0]; exact a, ?_⟩
    simp only [PyData.depth]
    omega
  | .bool _, _, h => by simp [okD] at h
  | .dict _, _, h => by simp [okD] at h
theorem okDs_lay : ∀ (ds : List PyData) (n : Nat), okDs ds n = true → PyData.canLayAll0 ds = true ∧ PyData.depthAll ds ≤ n
  | [], _, _ => ⟨rfl, Nat.zero_le _⟩
  | d :: ds, n, h => by
    simp only [okDs, Bool.and_eq_true] at h
    obtain ⟨a, b⟩ := okD_lay d n h.1
    obtain ⟨c, e⟩ := okDs_lay ds n h.2
    simp only [PyData.canLayAll0, PyData.depthAll]
    exact ⟨by rw [a, c]; rfl, Nat.max_le.mpr ⟨b, e⟩⟩
end
theorem okD_shaped {d : PyData} (h : okD d 60 = true) : SeqAt.shaped d = true := by
  obtain ⟨a, b⟩ := okD_lay d 60 h
  unfold SeqAt.shaped
  rw [a, Bool.true_and, decide_eq_true_eq]
  omega
mutual
theorem okD_eqv : ∀ (d e : PyData) (n m : Nat), okD d n = true → okD e m = true → (PyData.eqv d e = true ↔ d = e)
  | .none, e, _, _, _, h => by cases e <;> simp [PyData.eqv, okD] at h ⊢
  | .int i, e, _, _, _, h => by cases e <;> simp [PyData.eqv, okD] at h ⊢
  | .str s, e, _, _, _, h => by cases e <;> simp [PyData.eqv, okD] at h ⊢
  | .list xs, e, n, m, h1, h => by
    cases e with
    | list ys =>
      simp only [okD, Bool.and_eq_true, decide_eq_true_eq] at h1 h
      rw [PyData.eqv, okDs_eqv xs ys _ _ h1.2 h.2]
      simp
    | _ => simp [PyData.eqv, okD] at h ⊢
  | .tuple xs, e, n, m, h1, h => by
    cases e with
    | tuple ys =>
      simp only [okD, Bool.and_eq_true, decide_eq_true_eq] at h1 h
      rw [PyData.eqv, okDs_eqv xs ys _ _ h1.2 h.2]
      simp
    | _ => simp [PyData.eqv, okD] at h ⊢
  | .bool _, _, _, _, h1, _ => by simp [okD] at h1
  | .dict _, _, _, _, h1, _ => by simp [okD] at h1
theorem okDs_eqv : ∀ (ds es : List PyData) (n m : Nat), okDs ds n = true → okDs es m = true → (PyData.eqvAll ds es = true ↔ ds = es)
  | [], es, _, _, _, _ => by cases es <;> simp [PyData.eqvAll]
  | d :: ds, es, n, m, h1, h2 => by
    cases es with
    | nil => simp [PyData.eqvAll]
    | cons e es =>
      simp only [okDs, Bool.and_eq_true] at h1 h2
      rw [PyData.eqvAll, Bool.and_eq_true, okD_eqv d e n m h1.1 h2.1, okDs_eqv ds es n m h1.2 h2.2]
      simp
end
theorem okD_dec {d e : PyData} [Decidable (d = e)] (h1 : okD d 60 = true) (h2 : okD e 60 = true) : PyData.eqv d e = decide (d = e) := by
  rw [Bool.eq_iff_iff, okD_eqv d e 60 60 h1 h2, decide_eq_true_iff]
theorem okDs_map {α : Type} {f : α → PyData} {n : Nat} : ∀ {l : List α}, (∀ x ∈ l, okD (f x) n = true) → okDs (l.map f) n = true
  | [], _ => rfl
  | x :: l, h => by
    rw [List.map_cons, okDs, h x (List.mem_cons_self ..), okDs_map fun y hy => h y (List.mem_cons_of_mem _ hy)]
    rfl
open Classical in
noncomputable instance decD (d e : PyData) : Decidable (d = e) := Classical.propDecidable _
section
variable {K : PySem.W.Frag} {H H' : Hp} {Q : VK} {x y : V} {d e : PyData}
theorem Same.seqT {K : PySem.W.Frag} {H H' : Hp} {a : Addr} {xs : List V} (e : Same H H') (h : SqT K H a xs) : SqT K H' a xs := by
  rcases h with (h | ⟨o, h⟩) | h
  · exact .inl (.inl (e _ _ h))
  · exact .inl (.inr ⟨o, e _ _ h⟩)
  · exact .inr h
mutual
theorem Dp.same (s : Same H H') : ∀ {v : V} {d : PyData}, Dp K H v d → Dp K H' v d
  | _, _, .non => .non
  | _, _, .bl b => .bl b
  | _, _, .int i => .int i
  | _, _, .str x => .str x
  | _, _, .lst h a => .lst (s.seq h) (DpAll.same s a)
  | _, _, .tup h a => .tup (Same.seqT s h) (DpAll.same s a)
theorem DpAll.same (s : Same H H') : ∀ {vs : List V} {ds : List PyData}, DpAll K H vs ds → DpAll K H' vs ds
  | _, _, .nil => .nil
  | _, _, .cons h a => .cons (Dp.same s h) (DpAll.same s a)
end
theorem DpAll.len : ∀ {vs : List V} {ds : List PyData}, DpAll K H vs ds → vs.length = ds.length
  | _, _, .nil => rfl
  | _, _, .cons _ a => by rw [List.length_cons, List.length_cons, DpAll.len a]
theorem DpAll.at : ∀ {vs : List V} {ds : List PyData} {i : Nat} {v : V}, DpAll K H vs ds → vs[i]? = some v → ∃ d, ds[i]? = some d ∧ Dp K H v d
  | _, _, i, _, .nil, e => by cases e
  | _, _, 0, _, .cons (d := d) h _, e => ⟨d, rfl, by cases e; exact h⟩
  | _, _, i + 1, _, .cons _ a, e => DpAll.at (i := i) a e
theorem Dp.int_inv {n : Int} (h : Dp K H x (.int n)) : x = .int n := by
  cases h
  rfl
theorem DpAll.ints : ∀ {ns : List Int} {vs : List V}, DpAll K H vs (ns.map PyData.int) → vs = ns.map V.int
  | [], _, .nil => rfl
  | n :: ns, _, .cons h a => by rw [Dp.int_inv h, DpAll.ints a]; rfl
end
/-! ### loops that leave the heap -/
section
variable {σ : St} {H : Hp} {K : PySem.W.Frag} {t : TS} {nx : St → Hp → Prop} {rt : VK}
theorem rd_forLs {a : Addr} {xs : List V} {g : TG} (Pv : Nat → St → Prop) (hl : SqL K H a xs) (h0 : Pv 0 σ)
    (hs : ∀ i x σ, xs[i]? = some x → Pv i σ → g x σ H fun σ2 H2 => t ⟨fun σ' H' => H = H' ∧ Pv (i + 1) σ', rt, nx, fun σ' H' => H = H' ∧ Pv (i + 1) σ'⟩ σ2 H2) (hd : ∀ σ, Pv xs.length σ → nx σ H) : fBody (Itl K a) g t nx rt σ H :=
  rd_forL (fun i σ' H' => H = H' ∧ Pv i σ') ⟨rfl, h0⟩ (fun i σ' H' _ p => by obtain ⟨rfl, _⟩ := p; exact hl) (fun i x σ' H' hi p => by obtain ⟨rfl, p⟩ := p; exact hs i x σ' hi p) fun σ' H' p => by obtain ⟨rfl, p⟩ := p; exact hd σ' p
theorem rd_forTs {a : Addr} {xs : List V} {g : TG} (Pv : Nat → St → Prop) (hl : SqT K H a xs) (h0 : Pv 0 σ)
    (hs : ∀ i x σ, xs[i]? = some x → Pv i σ → g x σ H fun σ2 H2 => t ⟨fun σ' H' => H = H' ∧ Pv (i + 1) σ', rt, nx, fun σ' H' => H = H' ∧ Pv (i + 1) σ'⟩ σ2 H2) (hd : ∀ σ, Pv xs.length σ → nx σ H) : fBody (Itt K a) g t nx rt σ H :=
  rd_forT (fun i σ' H' => H = H' ∧ Pv i σ') ⟨rfl, h0⟩ (fun i σ' H' _ p => by obtain ⟨rfl, _⟩ := p; exact hl) (fun i x σ' H' hi p => by obtain ⟨rfl, p⟩ := p; exact hs i x σ' hi p) fun σ' H' p => by obtain ⟨rfl, p⟩ := p; exact hd σ' p
end
section
theorem rd_eqF {p A B : Prop} [Decidable p] (h : ¬ p) (q : B) : if decide p = true then A else B := by
  rw [decide_eq_false h]
  exact q
theorem rd_neT {p A B : Prop} [Decidable p] (h : ¬ p) (q : A) : if (!decide p) = true then A else B := by
  rw [decide_eq_false h]
  exact q
end
instance st_non {P : Prop} : Stp (V.non = V.non ∧ P) P := ⟨fun h => ⟨rfl, h⟩⟩
theorem non_int {k : Int} : ¬ V.int k = V.non := fun z => V.noConfusion z
theorem non_ref {k : Addr} : ¬ V.ref k = V.non := fun z => V.noConfusion z
theorem upd_at {H : Hp} {p q : Addr} {o u : HO} (h : H p = some o) (n : H p = some o → p ≠ q) : upd H q u p = some o := (upd_ne (n h)).trans h
end L2
namespace L2
open PySem PySem.Spec PyProof.Rows
/-! ### sizes of whole numbers, by bits -/
structure Bd (n : Nat) (x : Int) : Prop where
  h : x.natAbs < 2 ^ n
theorem Bd.mono {n m : Nat} {x : Int} (h : Bd n x) (hm : n ≤ m) : Bd m x := ⟨Nat.lt_of_lt_of_le h.h (Nat.pow_le_pow_right (by decide) hm)⟩
theorem Bd.mul {n m : Nat} {x y : Int} (h : Bd n x) (k : Bd m y) : Bd (n + m) (x * y) := ⟨wide_lt h.h k.h⟩
theorem Bd.neg {n : Nat} {x : Int} (h : Bd n x) : Bd n (-x) := ⟨by
  rw [Int.natAbs_neg]
  exact h.h⟩
theorem Bd.add {n m : Nat} {x y : Int} (h : Bd n x) (k : Bd m y) : Bd (max n m + 1) (x + y) := ⟨by
  have a := (Bd.mono h (Nat.le_max_left n m)).h
  have b := (Bd.mono k (Nat.le_max_right n m)).h
  have := Int.natAbs_add_le x y
  rw [Nat.pow_succ]
  omega⟩
theorem Bd.sub {n m : Nat} {x y : Int} (h : Bd n x) (k : Bd m y) : Bd (max n m + 1) (x - y) := by
  rw [Int.sub_eq_add_neg]
  exact Bd.add h k.neg
theorem Bd.of {n : Nat} {x : Int} (h : -(2 ^ n) < x) (k : x < 2 ^ n) : Bd n x := ⟨by
  have e : ((2 ^ n : Nat) : Int) = 2 ^ n := by rw [Int.natCast_pow]; rfl
  omega⟩
theorem Bd.le {n : Nat} {x y : Int} (h : Bd n y) (h1 : x.natAbs ≤ y.natAbs) : Bd n x := ⟨Nat.lt_of_le_of_lt h1 h.h⟩
theorem Bd.lit {x : Int} {n : Nat} (h : x.natAbs < 2 ^ 64) (hn : 64 ≤ n) : Bd n x := Bd.mono ⟨h⟩ hn
theorem Bd.mulN {n : Nat} {x y : Int} (h : Bd (n / 2) x) (k : Bd (n / 2) y) : Bd n (x * y) := (h.mul k).mono (by omega)
theorem Bd.addN {n : Nat} {x y : Int} (h : Bd (n - 1) x) (k : Bd (n - 1) y) (hn : 0 < n) : Bd n (x + y) := (h.add k).mono (by omega)
theorem Bd.subN {n : Nat} {x y : Int} (h : Bd (n - 1) x) (k : Bd (n - 1) y) (hn : 0 < n) : Bd n (x - y) := (h.sub k).mono (by omega)
theorem CMulB.bd {x y : Int} (h : Bd 9000 x) (k : Bd 9000 y) : CMulB x y := .inr (wide_mul h.h k.h (by decide) (by decide) (by decide))
end L2
namespace L2
open PySem PySem.Spec PyProof.Rows
/-! ### texts of whole numbers, str(o) of an own __str__ -/
def txI (i : Int) : Str := Str.ofString (toString i)
theorem txI_len {i : Int} {n : Nat} (h : Bd n i) (hn : n ≤ 1000) : (txI i).length ≤ 1001 ∧ i.natAbs.log2 < 1000 := by
  have l : i.natAbs.log2 < 1000 := PySem.Flt.log2_lt_of (by decide) (h.mono hn).h
  have e := int_text_length_le (k := 1000) (by decide) l
  unfold txI
  rw [PySem.ofString_length]
  exact ⟨e, l⟩
def rStrO (C : Addr) (sp : Sp) (E : XK) : List V → Hp → VK → Prop := fun xs H Q => ∃ a dx fs, xs = [.ref a] ∧ H a = some (.ins C dx fs) ∧ sp [.ref a] H (fun v H' => ∃ z, v = .str z ∧ Q (.str z) H') E
def rStrI : List V → Hp → VK → Prop := fun xs H Q => ∃ i, xs = [.int i] ∧ i.natAbs.log2 < 1920 ∧ Q (.str (txI i)) H
section
variable {X : Cx}
theorem call_strI : CallR X (.type "str") rStrI := call_str_int
theorem call_strO {k : Nat} {C : Addr} {ps : List Str} {sp : Sp} {E : XK} (D : MDef X.prog X.w X.K X.mg X.base k C "__str__" ps sp) (hr : Room (k + 2) X.A) (hx : Passes (L2.CX X.prog X.w) X E) : CallR X (.type "str") (rStrO C sp E) := by
  intro pins s σ H xs us Q I r h
  obtain ⟨f, fd, F, g, b⟩ := D.ex
  obtain ⟨a, dx, fs, rfl, ha, hsp⟩ := h
  obtain ⟨u, rfl, hu⟩ := vals1 r
  cases (show u = Value.ref a from hu)
  obtain ⟨mA, J, _⟩ := ins_get I.hok ha
  obtain ⟨od, J, _⟩ := J.look
  refine PySem.W.kso_call hr.in1.in1.units0 I.kIn J g.at_ g.fn ?_
  have e0 : Env0 X.prog X.w X.K X.mg X.base X.A.in1.in1 X.stack s H := by
    have e := I.env0
    exact ⟨e.frames, e.mod, e.bs, e.bsz, e.funs, e.frf, e.hok, e.bare⟩
  have hl := F.len _ _ _ _ hsp
  have r2 : Vals [V.ref a] [Value.ref a] := .cons rfl .nil
  refine wpAny_call (codeAny_mono (F.run X.A.in1.in1 X.stack s H ⟨[.ref a], []⟩ [.ref a] [.ref a] _ E hr.in1.in1 e0 (by
    have := b s [.ref a] I.kIn (by simpa using hl)
    simpa using this) r2 hsp) fun r s' hq => ?_)
  cases r with
  | error e => exact hx pins σ H s e s' I hq
  | ok fl =>
    cases fl with
    | ret w =>
      obtain ⟨z, H', I', rz, y, ez, q⟩ := I.after hq
      subst ez
      obtain ⟨t, rfl⟩ := rz
      exact ⟨.str y, H', I', ⟨t, rfl⟩, q⟩
    | next => exact False.elim hq
    | brk => exact False.elim hq
    | cont => exact False.elim hq
end
section
variable {σ : St} {H : Hp} {Q : VK} {te : TE} {ts : List TE} {acc : Str} {R : Str → Hp → Prop}
def rFmt (Q : VK) : V → Hp → Prop := fun x H1 => (∃ y : Str, x = .str y ∧ y.length ≤ sizeLine ∧ Q (.str y) H1) ∨ ∃ i : Int, x = .int i ∧ i.natAbs.log2 < 1920 ∧ Q (.str (toString i)) H1
instance st_fmt : Stp (tFmt te σ H Q) (te σ H (rFmt Q)) := ⟨fun h => h⟩
theorem rd_fmtI {i : Int} (h : i.natAbs.log2 < 1920) (q : Q (.str (txI i)) H) : rFmt Q (.int i) H := .inr ⟨i, rfl, h, q⟩
instance st_jsN : Stp (tJs [] acc σ H R) (R acc H) := ⟨fun h => h⟩
def rJs (ts : List TE) (acc : Str) (σ : St) (R : Str → Hp → Prop) : V → Hp → Prop := fun x H1 => ∃ y : Str, x = .str y ∧ (acc ++ y).length ≤ sizeLine ∧ tJs ts (acc ++ y) σ H1 R
instance st_jsC : Stp (tJs (te :: ts) acc σ H R) (te σ H (rJs ts acc σ R)) := ⟨fun h => h⟩
theorem rd_strI {i : Int} (h : i.natAbs.log2 < 1920) (q : Q (.str (txI i)) H) : rStrI [.int i] H Q := ⟨i, rfl, h, q⟩
end
end L2
namespace L2
open PySem PySem.Spec PyProof.Rows
/-! ### walks of other kinds -/
section
variable {σ : St} {H : Hp} {K : PySem.W.Frag} {t : TS} {nx : St → Hp → Prop} {rt : VK} {Q : VK} {tr : TA} {te : TE} {tt : TT} {S : It → Hp → Prop} {J : It} {n : Nat} {G : Hp → Prop} {Y : Nat → Hp → V → Hp → Prop}
def rIRev (K : PySem.W.Frag) (S : It → Hp → Prop) (vs : List V) (H : Hp) : Prop := ∃ (a : Addr) (xs : List V), vs = [.ref a] ∧ SqL K H a xs ∧ S (Itv K a xs.length) H
instance st_iRev : Stp (iRev K tr σ H S) (tr σ H (rIRev K S)) := ⟨fun h => h⟩
theorem rd_iRev1 {a : Addr} {xs : List V} (h : SqL K H a xs) (q : S (Itv K a xs.length) H) : rIRev K S [.ref a] H := ⟨a, xs, rfl, h, q⟩
theorem put_P {P : List V → Prop} {D : Addr} {H H4 : Hp} {acc : List V} {y : V} (h : H4 D = some (.lst acc)) (hl : acc.length < sizeLine) (sm : Same H H4) (hD : H D = none) (n : NoT H4) (p : P (acc ++ [y])) :
    ∃ acc, H4 D = some (.lst acc) ∧ acc.length < sizeLine ∧ ∃ ys, upd H4 D (.lst (acc ++ [y])) D = some (.lst ys) ∧ Same H (upd H4 D (.lst (acc ++ [y]))) ∧ NoT (upd H4 D (.lst (acc ++ [y]))) ∧ P ys :=
  ⟨acc, h, hl, _, upd_same, same_upd2 sm hD, NoT.upd n rfl, p⟩
end
def rAddS : R2 := fun x y H Q => ∃ i j, x = .str i ∧ y = .str j ∧ i.length + j.length ≤ sizeLine ∧ Q (.str (i ++ j)) H
theorem op_addS {X : Cx} : OpR X (binaryOp .Add) rAddS := op_add_str
theorem rd_addS {H : Hp} {Q : VK} {i j : Str} (h : i.length + j.length ≤ sizeLine) (q : Q (.str (i ++ j)) H) : rAddS (.str i) (.str j) H Q := ⟨i, j, rfl, rfl, h, q⟩
def rRevV (K : PySem.W.Frag) (Q : VK) : V → Hp → Prop := fun x H1 => ∃ a xs, x = .ref a ∧ SqL K H1 a xs ∧ ∀ p, H1 p = none → Q (.ref p) (upd H1 p (.lst xs.reverse))
instance st_revL {K : PySem.W.Frag} {te : TE} {σ : St} {H : Hp} {Q : VK} : Stp (tRevL K te σ H Q) (te σ H (rRevV K Q)) := ⟨fun h => h⟩
theorem rd_revV {K : PySem.W.Frag} {H : Hp} {Q : VK} {a : Addr} {xs : List V} (h : SqL K H a xs) (q : ∀ p, H p = none → Q (.ref p) (upd H p (.lst xs.reverse))) : rRevV K Q (.ref a) H := ⟨a, xs, rfl, h, q⟩
theorem room2 {xs zs : List V} {n m : Nat} (h1 : xs.length ≤ n) (h2 : zs.length ≤ m) (h : n + m ≤ 1000000) : xs.length + zs.length ≤ sizeLine := Nat.le_trans (Nat.add_le_add h1 h2) (Nat.le_trans h (by decide))
theorem len_one {v : V} : [v].length ≤ 1 := Nat.le_refl 1
theorem same_upd3 {H H' : Hp} {p : Addr} {o : HO} (h : Same H H') (hp : H' p = none) : Same H (upd H' p o) := same_upd2 h (h.free hp)
section
variable {H : Hp} {Q : VK} {i : Int}
theorem rd_eqNN (q : Q (.bl true) H) : rEq .non .non H Q := ⟨rfl, by simpa using q⟩
instance st_eqNN : Stp (rEq .non .non H Q) (Q (.bl true) H) := ⟨fun h => rd_eqNN h⟩
theorem rd_neNN (q : Q (.bl false) H) : rNe .non .non H Q := ⟨rfl, by simpa using q⟩
instance st_neNN : Stp (rNe .non .non H Q) (Q (.bl false) H) := ⟨fun h => rd_neNN h⟩
theorem rd_eqNI (q : Q (.bl false) H) : rEq .non (.int i) H Q := ⟨rfl, by simpa using q⟩
instance st_eqNI : Stp (rEq .non (.int i) H Q) (Q (.bl false) H) := ⟨fun h => rd_eqNI h⟩
theorem rd_neNI (q : Q (.bl true) H) : rNe .non (.int i) H Q := ⟨rfl, by simpa using q⟩
instance st_neNI : Stp (rNe .non (.int i) H Q) (Q (.bl true) H) := ⟨fun h => rd_neNI h⟩
theorem rd_eqIN (q : Q (.bl false) H) : rEq (.int i) .non H Q := ⟨rfl, by simpa using q⟩
instance st_eqIN : Stp (rEq (.int i) .non H Q) (Q (.bl false) H) := ⟨fun h => rd_eqIN h⟩
theorem rd_neIN (q : Q (.bl true) H) : rNe (.int i) .non H Q := ⟨rfl, by simpa using q⟩
instance st_neIN : Stp (rNe (.int i) .non H Q) (Q (.bl true) H) := ⟨fun h => rd_neIN h⟩
end
end L2
namespace L2
open PySem PySem.Spec PyProof.Rows
/-! ### sets of ints -/
section
variable {X : Cx}
def setNo : Int → Bool := fun _ => false
/-- two ints in braces -/
def tSet2 (w : World) (t1 t2 : TE) : TE := fun σ H Q => ∀ D, H D = none → t1 σ (upd H D (SetO w D setNo 0)) fun x H1 => t2 σ H1 fun y H2 => ∃ i j : Int, x = .int i ∧ y = .int j ∧ H2 D = some (SetO w D setNo 0) ∧
  Q (.ref D) (upd H2 D (SetO w D (fun k => decide (k = i ∨ k = j)) (if i = j then 1 else 2)))
instance st_set2 {w : World} {t1 t2 : TE} {σ : St} {H : Hp} {Q : VK} : Stp (tSet2 w t1 t2 σ H Q) (∀ D, H D = none → t1 σ (upd H D (SetO w D setNo 0)) fun x H1 => t2 σ H1 fun y H2 => ∃ i j : Int, x = .int i ∧ y = .int j ∧ H2 D = some (SetO w D setNo 0) ∧
  Q (.ref D) (upd H2 D (SetO w D (fun k => decide (k = i ∨ k = j)) (if i = j then 1 else 2)))) := ⟨fun h => h⟩
instance st_par3 {i j l : Nat} {ta : TA} {σ : St} {H : Hp} {nx : St → Hp → Prop} {rt : VK} {bk ct : St → Hp → Prop} : Stp (tPar3 i j l ta ⟨nx, rt, bk, ct⟩ σ H) (ta σ H fun vs H1 => ∃ u v w, vs = [u, v, w] ∧ nx (((σ.set i (some u)).set j (some v)).set l (some w)) H1) := ⟨fun h => h⟩
instance st_par3e {u v w : V} {nx : V → V → V → Prop} : Stp (∃ u' v' w', [u, v, w] = [u', v', w'] ∧ nx u' v' w') (nx u v w) := ⟨fun h => ⟨u, v, w, rfl, h⟩⟩
end
end L2
namespace L2
open PySem PySem.Spec PyProof.Rows
section
variable {X : Cx}
/-- a set of whol, made by a comprehension: D the new set, Z what each turn keeps -/
def tScI (w : World) (wi : TI) (g : TG) (tt : TT) (te : TE) (vs : List Nat) : TE := fun σ H Q => wi σ H fun J H1 => ∀ D, H1 D = none → ∃ Z : Nat → Nat → Hp → Prop, (∃ m, Z 0 m (upd H1 D (SetO w D setNo 0))) ∧ ∀ i m G, Z i m G →
  (J.stop i G ∧ Q (.ref D) G) ∨ (J.go i G ∧ ∃ Y : Hp → Prop, (∀ G', Y G' → ∃ l, l < m ∧ Z (i + 1) l G') ∧ ∀ x G', J.yld i G x G' → g x (wipe σ vs) G' fun σ2 G2 => wipe σ2 vs = wipe σ vs ∧ tt σ2 G2 fun b G3 =>
    if b = true then te σ2 G3 fun y G4 => ∃ (c : Int) (S : Int → Bool) (n : Nat), y = .int c ∧ G4 D = some (SetO w D S n) ∧ n + 1 < scanBound ∧ Y (upd G4 D (SetO w D (fun j => S j || decide (j = c)) (if S c = true then n else n + 1))) else Y G3)
end
/-! ### sorted of a set of whol, of any size -/
theorem sortSet_go {P : Program} {w : World} {A : Around} {E : Value → Shared → Prop} {s : Shared} {a : Addr} {S : Int → Bool} {n : Nat} {Q : Value → Shared → Prop} (R : SetR w s.heap a S n) (calm : A.handled = none)
    (go : ∀ s' p (out : List Value) (c : Nat) (ns : List Int), (∀ b o, s.heap.get? b = some o → s'.heap.get? b = some o) → s'.gens = s.gens → s'.os = s.os → s.heap.objs.size ≤ p →
      s'.heap.get? p = some (seqObj "list" out.toArray c) → IntsAre out ns → ns.Pairwise (· < ·) → (∀ k, k ∈ ns ↔ S k = true) → ns.length = n → n < scanBound → Q (.ref p) s') :
    wpAny (model P w) A (call (.builtin "sorted") [.ref a]) Q E s := by
  obtain ⟨ob, cs, cn, tb, atOb, exOb, dOb, good, dis, mem, few, fit, num, ris, led⟩ := R
  refine Calls.call_function_entry kind_sorted plain_sorted entry_sorted (args_sorted1 _) ?_
  unfold Builtin.«sorted»
  refine wpAny_bind (m := checkCount "sorted" 1 1 _) (wpAny_pure ?_)
  refine wpAny_bind (collect_set (A := A.in1) calm ⟨ob, atOb, exOb.1, dOb⟩ fit few ris led fun t vs keep size gens os pm => ?_)
  have lvs : vs.length = n := by rw [pm.length_eq, List.length_map, Array.length_toList, num]
  have small : vs.length ≤ sizeLine := by
    rw [lvs, sizeLine_eq]
    have b1 : cs.size < 4096 := few
    omega
  have whol : IntsAre vs (vs.map Builtin.Re.reRawOf) := ints_of vs fun v hv => by
    obtain ⟨e, he, rfl⟩ := List.mem_map.mp (pm.mem_iff.mp hv)
    obtain ⟨k, tk, h1, _⟩ := good e he
    exact ⟨k, tk, h1⟩
  have keys : (vs.map Builtin.Re.reRawOf).Perm (cs.toList.map keyOf) := by
    have z := pm.map Builtin.Re.reRawOf
    rwa [List.map_map] at z
  refine wpAny_bind (wpAny_newList ?_ small)
  have atL : (t.heap.push (seqObj "list" vs.toArray 0)).get? t.heap.objs.size = some (seqObj "list" vs.toArray 0) := Heap.get?_push_size _ rfl
  refine wpAny_bind (wpAny_holding (wpAny_call_entry slot_list_sort ⟨_, atL, rfl⟩ entry_list_sort (SrtO.list_sort_ord SrtO.swo_int atL small (fun h2 => SrtO.ints_sortable whol h2) fun out h1 h2 => ⟨_, rfl, ?_⟩) (args_list_sort _)))
  obtain ⟨k1, k2, k3⟩ := SrtO.ints_out whol h1 h2
  obtain ⟨c, atS⟩ := sortedHeap_at (vs := vs) (out := out.toArray) atL
  have pn : (out.map SrtO.iv).Perm (cs.toList.map keyOf) := k2.trans keys
  refine wpAny_pure ⟨_, rfl, go _ t.heap.objs.size out c (out.map SrtO.iv) (fun b u e => ?_) gens os size atS k1 (lt_of_le_nodup _ k3 (pn.nodup_iff.mpr dis)) (fun k => by rw [pn.mem_iff, ← mem k]) ?_ (by rw [← num]; exact few)⟩
  · have z := keep b u e
    have lt := Heap.lt_size z
    show (sortedHeap (t.heap.push (seqObj "list" vs.toArray 0)) t.heap.objs.size vs out.toArray).get? b = some u
    rw [sortedHeap_old (Nat.ne_of_lt lt) (by rw [size_push']; exact Nat.lt_succ_of_lt lt)]
    exact Heap.get?_push_of_some _ z
  · rw [pn.length_eq, List.length_map, Array.length_toList, num]
def rSortSetN (w : World) : List V → Hp → VK → Prop := fun vs H Q => ∃ (a : Addr) (S : Int → Bool) (n : Nat), vs = [V.ref a] ∧ H a = some (SetO w a S n) ∧
  ∀ (ns : List Int) (p : Addr), ns.Pairwise (· < ·) → (∀ k : Int, k ∈ ns ↔ S k = true) → ns.length = n → H p = none → Q (.ref p) (upd H p (.lst (ns.map V.int)))
theorem cr_sortSetN {X : Cx} (calm : X.calm = true) : CallR X (.builtin "sorted") (rSortSetN X.w) := by
  intro pins s σ H vs us Q I r ⟨a, S, n, ev, at_, q⟩
  subst ev
  have R := setO_get I at_
  rw [Vals.ref1 r]
  refine sortSet_go R (I.ok.hd calm) fun s' p out c ns k g o hp hg hi hs hm hl few => ?_
  have fits : (ns.map V.int).length ≤ sizeLine := by
    rw [List.length_map, hl, sizeLine_eq]
    have b1 : n < 4096 := few
    omega
  have J : Inv X pins σ (upd H p (.lst (ns.map V.int))) { s with heap := s'.heap, gens := s'.gens, drawn := s'.drawn, toks := s'.toks } :=
    I.call (ch := []) (Un.laid k hp (I.hok.fresh hp)) (I.hok.laid k hp ⟨fits, out, c, vals_of_ints hi, hg⟩) (by rw [g]; exact I.bare) (fun _ z => nomatch z)
  have e : s' = { s with heap := s'.heap, gens := s'.gens, drawn := s'.drawn, toks := s'.toks } := by
    cases s'
    cases s
    cases o
    rfl
  rw [e]
  exact ⟨.ref p, _, J, rfl, q ns p hs hm hl (I.hok.fresh hp)⟩
/-! ### readings -/
section
variable {w : World} {σ : St} {H : Hp} {Q : VK} {K : PySem.W.Frag} {te : TE} {tt : TT}
def inS (l : List Int) : Int → Bool := fun k => decide (k ∈ l)
theorem inS_nil : inS [] = setNo := by
  funext k
  simp [inS, setNo]
theorem inS_snoc {l : List Int} {c : Int} : (fun j => inS l j || decide (j = c)) = inS (l ++ [c]) := by
  funext k
  simp [inS]
def scB (w : World) (J : It) (g : TG) (tt : TT) (te : TE) (vs : List Nat) (σ : St) (Q : VK) (H1 : Hp) : Prop := ∀ D, H1 D = none → ∃ Z : Nat → Nat → Hp → Prop, (∃ m, Z 0 m (upd H1 D (SetO w D setNo 0))) ∧ ∀ i m G, Z i m G →
  (J.stop i G ∧ Q (.ref D) G) ∨ (J.go i G ∧ ∃ Y : Hp → Prop, (∀ G', Y G' → ∃ l, l < m ∧ Z (i + 1) l G') ∧ ∀ x G', J.yld i G x G' → g x (wipe σ vs) G' fun σ2 G2 => wipe σ2 vs = wipe σ vs ∧ tt σ2 G2 fun b G3 =>
    if b = true then te σ2 G3 fun y G4 => ∃ (c : Int) (S : Int → Bool) (n : Nat), y = .int c ∧ G4 D = some (SetO w D S n) ∧ n + 1 < scanBound ∧ Y (upd G4 D (SetO w D (fun j => S j || decide (j = c)) (if S c = true then n else n + 1))) else Y G3)
instance st_scI {wi : TI} {g : TG} {vs : List Nat} : Stp (tScI w wi g tt te vs σ H Q) (wi σ H fun J H1 => scB w J g tt te vs σ Q H1) := ⟨fun h => h⟩
/-- sorted of a set that tells l -/
theorem rd_sortSetN {D : Addr} {l : List Int} {n : Nat} (hD : H D = some (SetO w D (inS l) n)) (q : ∀ (ns : List Int) (p : Addr), ns.Pairwise (· < ·) → (∀ k, k ∈ ns ↔ k ∈ l) → H p = none → Q (.ref p) (upd H p (.lst (ns.map V.int)))) : rSortSetN w [.ref D] H Q :=
  ⟨D, _, n, rfl, hD, fun ns p h1 h2 _ hp => q ns p h1 (fun k => by rw [h2 k]; simp [inS]) hp⟩
end
end L2
namespace L2
open PySem PySem.Spec PyProof.Rows
/-! ### a set of ints by a comprehension of two clauses -/
section
variable {X : Cx}
/-- the inner clause's own loop, from which Y is reached -/
def sc2_inner (w : World) (D : Addr) (g1 : TG) (tt1 : TT) (te : TE) (vs1 : List Nat) (σ2 : St) (Y : Hp → Prop) (J1 : It) (G4 : Hp) : Prop := ∃ Z1 : Nat → Nat → Hp → Prop, (∃ m, Z1 0 m G4) ∧ ∀ j k G, Z1 j k G →
  (J1.stop j G ∧ Y G) ∨ (J1.go j G ∧ ∃ Y1 : Hp → Prop, (∀ G', Y1 G' → ∃ l, l < k ∧ Z1 (j + 1) l G') ∧ ∀ x G', J1.yld j G x G' → g1 x (wipe σ2 vs1) G' fun σ3 G5 => wipe σ3 vs1 = wipe σ2 vs1 ∧ tt1 σ3 G5 fun b G6 =>
    if b = true then te σ3 G6 fun y G7 => ∃ (c : Int) (S : Int → Bool) (n : Nat), y = .int c ∧ G7 D = some (SetO w D S n) ∧ n + 1 < scanBound ∧ Y1 (upd G7 D (SetO w D (fun j => S j || decide (j = c)) (if S c = true then n else n + 1))) else Y1 G6)
def tScI2 (w : World) (wi : TI) (g : TG) (tt : TT) (wi1 : TI) (g1 : TG) (tt1 : TT) (te : TE) (vs vs1 : List Nat) : TE := fun σ H Q => wi σ H fun J H1 => ∀ D, H1 D = none → ∃ Z : Nat → Nat → Hp → Prop, (∃ m, Z 0 m (upd H1 D (SetO w D setNo 0))) ∧ ∀ i m G, Z i m G →
  (J.stop i G ∧ Q (.ref D) G) ∨ (J.go i G ∧ ∃ Y : Hp → Prop, (∀ G', Y G' → ∃ l, l < m ∧ Z (i + 1) l G') ∧ ∀ x G', J.yld i G x G' → g x (wipe σ vs) G' fun σ2 G2 => wipe σ2 vs = wipe σ vs ∧ tt σ2 G2 fun b G3 =>
    if b = true then wi1 σ2 G3 (sc2_inner w D g1 tt1 te vs1 σ2 Y) else Y G3)
end
end L2
/-! ### a set of ints as what was put in, in order -/
namespace L2
open PySem PySem.Spec PyProof.Rows
def insL (l : List Int) (c : Int) : List Int := if c ∈ l then l else l ++ [c]
def ofL (xs : List Int) : List Int := xs.foldl insL []
theorem ofL_snoc {xs : List Int} {c : Int} : ofL (xs ++ [c]) = insL (ofL xs) c := by
  unfold ofL
  rw [List.foldl_append]
  rfl
theorem mem_insL {l : List Int} {c k : Int} : k ∈ insL l c ↔ k ∈ l ∨ k = c := by
  unfold insL
  split
  · rename_i h
    exact ⟨.inl, fun z => z.elim id fun e => e ▸ h⟩
  · simp
theorem mem_foldl : ∀ {xs l : List Int} {k : Int}, k ∈ xs.foldl insL l ↔ k ∈ l ∨ k ∈ xs
  | [], l, k => by simp
  | c :: xs, l, k => by
    rw [List.foldl_cons, mem_foldl (xs := xs), mem_insL, List.mem_cons]
    constructor
    · rintro ((h | h) | h)
      · exact .inl h
      · exact .inr (.inl h)
      · exact .inr (.inr h)
    · rintro (h | h | h)
      · exact .inl (.inl h)
      · exact .inl (.inr h)
      · exact .inr h
theorem mem_ofL {xs : List Int} {k : Int} : k ∈ ofL xs ↔ k ∈ xs := by
  unfold ofL
  rw [mem_foldl]
  simp
theorem nodup_insL {l : List Int} {c : Int} (h : l.Nodup) : (insL l c).Nodup := by
  unfold insL
  split
  · exact h
  · rename_i hc
    refine List.nodup_append.mpr ⟨h, by simp, ?_⟩
    intro a ha b hb e
    rw [List.mem_singleton] at hb
    exact hc (hb ▸ e ▸ ha)
theorem nodup_foldl : ∀ {xs l : List Int}, l.Nodup → (xs.foldl insL l).Nodup
  | [], _, h => h
  | _ :: xs, _, h => nodup_foldl (xs := xs) (nodup_insL h)
theorem nodup_ofL {xs : List Int} : (ofL xs).Nodup := nodup_foldl List.nodup_nil
theorem len_insL {l : List Int} {c : Int} : (insL l c).length ≤ l.length + 1 := by
  unfold insL
  split
  · exact Nat.le_succ _
  · simp
theorem len_foldl : ∀ {xs l : List Int}, (xs.foldl insL l).length ≤ l.length + xs.length
  | [], _ => Nat.le_refl _
  | c :: xs, l => by
    have a := len_foldl (xs := xs) (l := insL l c)
    have b := len_insL (l := l) (c := c)
    rw [List.foldl_cons, List.length_cons]
    omega
theorem len_ofL {xs : List Int} : (ofL xs).length ≤ xs.length := by
  have := len_foldl (xs := xs) (l := [])
  unfold ofL
  simpa using this
/-- distinct ints from 0 on below M are at most M -/
theorem nodup_le : ∀ {M : Nat} {l : List Int}, l.Nodup → (∀ x ∈ l, 0 ≤ x ∧ x < (M : Int)) → l.length ≤ M
  | 0, l, _, h => by
    cases l with
    | nil => exact Nat.le_refl _
    | cons a l => have := h a List.mem_cons_self; omega
  | M + 1, l, nd, h => by
    have e1 : (l.filter (fun x => decide (x ≠ (M : Int)))).length ≤ M := nodup_le (nd.filter _) fun x hx => by
      obtain ⟨a, b⟩ := List.mem_filter.mp hx
      have := h x a
      have := of_decide_eq_true b
      omega
    have e2 : (l.filter (fun x => decide (x = (M : Int)))).length ≤ 1 := by
      match hf : l.filter (fun x => decide (x = (M : Int))) with
      | [] => exact Nat.zero_le _
      | [_] => exact Nat.le_refl _
      | a :: b :: r =>
        have n2 : (a :: b :: r).Nodup := hf ▸ nd.filter _
        have ha : a ∈ l.filter (fun x => decide (x = (M : Int))) := by rw [hf]; exact List.mem_cons_self
        have hb : b ∈ l.filter (fun x => decide (x = (M : Int))) := by rw [hf]; exact List.mem_cons_of_mem _ List.mem_cons_self
        have ea := of_decide_eq_true (List.mem_filter.mp ha).2
        have eb := of_decide_eq_true (List.mem_filter.mp hb).2
        have := (List.nodup_cons.mp n2).1
        rw [ea, eb] at this
        exact absurd List.mem_cons_self this
    have e3 : l.length = (l.filter (fun x => decide (x = (M : Int)))).length + (l.filter (fun x => decide (x ≠ (M : Int)))).length := by
      clear h e1 e2 nd
      induction l with
      | nil => rfl
      | cons a l ih =>
        by_cases z : a = (M : Int)
        · simp [z, ih]
          omega
        · simp [z, ih]
          omega
    omega
section
variable {w : World} {σ : St} {H : Hp} {Q : VK} {K : PySem.W.Frag} {te : TE} {tt : TT}
/-- the heap with the set of what stands in xs at D -/
def SetL (w : World) (H : Hp) (D : Addr) (xs : List Int) : Hp := upd H D (SetO w D (inS (ofL xs)) (ofL xs).length)
theorem SetL.at {D : Addr} {xs : List Int} : SetL w H D xs D = some (SetO w D (inS (ofL xs)) (ofL xs).length) := upd_same
theorem SetL.same {D : Addr} {xs : List Int} (h : H D = none) : Same H (SetL w H D xs) := same_new h
theorem SetL.nt {D : Addr} {xs : List Int} (h : NoT H) : NoT (SetL w H D xs) := NoT.upd h rfl
theorem SetL.nil {D : Addr} : upd H D (SetO w D setNo 0) = SetL w H D [] := by rw [← inS_nil]; rfl
theorem SetL.put {D : Addr} {xs : List Int} {c : Int} : upd (SetL w H D xs) D (SetO w D (fun j => inS (ofL xs) j || decide (j = c)) (if inS (ofL xs) c = true then (ofL xs).length else (ofL xs).length + 1)) = SetL w H D (xs ++ [c]) := by
  unfold SetL
  rw [upd_upd, ofL_snoc, inS_snoc]
  by_cases h : c ∈ ofL xs
  · have e1 : inS (ofL xs) c = true := decide_eq_true h
    have e2 : inS (ofL xs ++ [c]) = inS (ofL xs) := by
      funext k
      refine decide_eq_decide.mpr ?_
      rw [List.mem_append, List.mem_singleton]
      exact ⟨fun z => z.elim id fun e => e ▸ h, .inl⟩
    rw [if_pos e1, e2, show insL (ofL xs) c = ofL xs from if_pos h]
  · have e1 : ¬ inS (ofL xs) c = true := fun z => h (of_decide_eq_true z)
    rw [if_neg e1, show insL (ofL xs) c = ofL xs ++ [c] from if_neg h, List.length_append]
    rfl
/-- two clauses -/
def sc2B (w : World) (J : It) (g : TG) (tt : TT) (wi1 : TI) (g1 : TG) (tt1 : TT) (te : TE) (vs vs1 : List Nat) (σ : St) (Q : VK) (H1 : Hp) : Prop := ∀ D, H1 D = none → ∃ Z : Nat → Nat → Hp → Prop, (∃ m, Z 0 m (upd H1 D (SetO w D setNo 0))) ∧ ∀ i m G, Z i m G →
  (J.stop i G ∧ Q (.ref D) G) ∨ (J.go i G ∧ ∃ Y : Hp → Prop, (∀ G', Y G' → ∃ l, l < m ∧ Z (i + 1) l G') ∧ ∀ x G', J.yld i G x G' → g x (wipe σ vs) G' fun σ2 G2 => wipe σ2 vs = wipe σ vs ∧ tt σ2 G2 fun b G3 =>
    if b = true then wi1 σ2 G3 (sc2_inner w D g1 tt1 te vs1 σ2 Y) else Y G3)
instance st_scI2 {wi wi1 : TI} {g g1 : TG} {tt1 : TT} {vs vs1 : List Nat} : Stp (tScI2 w wi g tt wi1 g1 tt1 te vs vs1 σ H Q) (wi σ H fun J H1 => sc2B w J g tt wi1 g1 tt1 te vs vs1 σ Q H1) := ⟨fun h => h⟩
end
end L2
namespace L2
open PySem PySem.Spec PyProof.Rows
/-! ### list comprehensions over a list of ints -/
section
variable {σ : St} {H : Hp} {Q : VK} {K : PySem.W.Frag} {te : TE} {tt : TT}
def resI (p : Int → Bool) (f : Int → V) (ns : List Int) : List V := (ns.filter p).map f
theorem resI_len {p : Int → Bool} {f : Int → V} {ns : List Int} : (resI p f ns).length ≤ ns.length := by
  unfold resI
  rw [List.length_map]
  exact List.length_filter_le _ _
theorem put_I {D : Addr} {p : Int → Bool} {f : Int → V} {l : List Int} {x : Int} {y : V} (hi : l.length < 1000000) (hp : p x = true) (hy : y = f x) : LcPut H D (resI p f l) (resI p f (l ++ [x])) y (upd H D (.lst (resI p f l))) := by
  refine ⟨_, upd_same, Nat.lt_of_le_of_lt resI_len (Nat.lt_trans hi (by decide)), ?_⟩
  rw [upd_upd]
  unfold resI
  rw [List.filter_append, List.map_append, hy]
  simp [hp]
theorem skip_I {D : Addr} {p : Int → Bool} {f : Int → V} {l : List Int} {x : Int} (hp : p x = false) : LcSkip H D (resI p f (l ++ [x])) (upd H D (.lst (resI p f l))) := by
  show upd H D _ = _
  unfold resI
  rw [List.filter_append, List.map_append]
  simp [hp]
theorem rd_lcI {a : Addr} {ns : List Int} {g : TG} {vs : List Nat} (p : Int → Bool) (f : Int → V) (hS : SqL K H a (ns.map V.int))
    (hs : ∀ D l x r, H D = none → ns = l ++ x :: r → g (.int x) (wipe σ vs) (upd H D (.lst (resI p f l))) fun σ2 H2 => wipe σ2 vs = wipe σ vs ∧ tt σ2 H2 fun b H3 => if b = true then te σ2 H3 (LcPut H D (resI p f l) (resI p f (l ++ [x]))) else LcSkip H D (resI p f (l ++ [x])) H3)
    (q : ∀ D, H D = none → Q (.ref D) (upd H D (.lst ((ns.filter p).map f)))) : lcB (Itl K a) g tt te vs σ Q H := by
  intro D hD
  refine ⟨fun i m H' => m = ns.length - i ∧ i ≤ ns.length ∧ H' = upd H D (.lst (resI p f (ns.take i))), ⟨ns.length, by simp, Nat.zero_le _, rfl⟩, ?_⟩
  rintro i m H' ⟨rfl, hi, rfl⟩
  have hS' : SqL K (upd H D (.lst (resI p f (ns.take i)))) a (ns.map V.int) := (same_new hD).seq hS
  by_cases hlt : i < ns.length
  · have hx : (ns.map V.int)[i]? = some (.int ns[i]) := by simp [hlt]
    have er : ns.take (i + 1) = ns.take i ++ [ns[i]] := by rw [List.take_add_one, List.getElem?_eq_getElem hlt]; rfl
    refine .inr ⟨⟨_, _, hS', hx⟩, fun H' => H' = upd H D (.lst (resI p f (ns.take (i + 1)))), fun H' p' => ⟨ns.length - (i + 1), by omega, rfl, hlt, p'⟩, fun x H' y => ?_⟩
    obtain ⟨e, y⟩ := y
    subst e
    have ex : x = .int ns[i] := Option.some.inj ((y _ hS').symm.trans hx)
    subst ex
    have z := hs D (ns.take i) ns[i] (ns.drop (i + 1)) hD (by rw [List.getElem_cons_drop, List.take_append_drop])
    rw [← er] at z
    exact z
  · have e : i = ns.length := by omega
    subst e
    rw [List.take_length]
    exact .inl ⟨⟨_, (same_new hD).seq hS, by rw [List.length_map]; exact Nat.le_refl _⟩, q D hD⟩
end
end L2
namespace L2
open PySem PySem.Spec PyProof.Rows
/-! ### making and methods within a try -/
section
variable {X : Cx} {k : Nat} {f C : Addr} {fd : FuncData} {ps : List PySem.Str} {sp : Sp} {x m : PySem.Str} {p pos apos : Pos} {e o : Expr} {es : List Expr} {ta : TE} {t : TA} {W : WX}
def tMakeT (C : Addr) (sp : Sp) (E : St → XK) (t : TA) : TE := fun σ H Q => t σ H fun vs H1 => ∀ x dx, H1 x = none → H1 dx = none → dx ≠ x → sp (.ref x :: vs) (upd (upd H1 dx (.own x)) x (.ins C dx [])) (fun v H2 => v = .non ∧ Q (.ref x) H2) (E σ)
instance st_makeS {σ : St} {H : Hp} {Q : VK} {E : St → XK} : Stp (tMakeT C sp E t σ H Q) (t σ H fun vs H1 => ∀ x dx, H1 x = none → H1 dx = none → dx ≠ x → sp (.ref x :: vs) (upd (upd H1 dx (.own x)) x (.ins C dx [])) (fun v H2 => v = .non ∧ Q (.ref x) H2) (E σ)) := ⟨fun h => h⟩
/-- o.m(e, ..) within a try -/
def tMethT (C : Addr) (m : PySem.Str) (sp : Sp) (E : St → XK) (ta : TE) (t : TA) : TE := fun σ H Q => ta σ H fun x H1 => ∃ a dx fs, x = .ref a ∧ H1 a = some (.ins C dx fs) ∧ fs.lookup m = none ∧ t σ H1 fun vs H2 => sp (x :: vs) H2 Q (E σ)
instance st_methT {σ : St} {H : Hp} {Q : VK} {E : St → XK} : Stp (tMethT C m sp E ta t σ H Q) (ta σ H fun x H1 => ∃ a dx fs, x = .ref a ∧ H1 a = some (.ins C dx fs) ∧ fs.lookup m = none ∧ t σ H1 fun vs H2 => sp (x :: vs) H2 Q (E σ)) := ⟨fun h => h⟩
end
end L2
namespace L2
open PySem PySem.Spec PyProof.Rows
section
variable {H : Hp} {Q : VK} {K : PySem.W.Frag} {a : Addr}
theorem rd_sortedI {ns : List Int} (h : SqL K H a (ns.map V.int)) (q : ∀ (ms : List Int) (p : Addr), ms.Perm ns → ms.Pairwise (· ≤ ·) → H p = none → Q (.ref p) (upd H p (.lst (ms.map V.int)))) : rSortedI K [.ref a] H Q := ⟨a, ns, rfl, h, q⟩
end
end L2
namespace L2
open PySem PySem.Spec PyProof.Rows
/-! ### dicts with ints as keys -/
section
variable {σ : St} {H : Hp} {Q : VK} {K : PySem.W.Frag} {v x y : V} {td ty tv : TE} {a : Addr} {i : Int} {kvs : List (Key × V)} {nx : St → Hp → Prop} {rt : VK} {bk ct : St → Hp → Prop}
instance st_dnewK : Stp (tDNewK σ H Q) (∀ p, H p = none → Q (.ref p) (upd H p (.dK []))) := ⟨fun h => h⟩
def rDGetV (Q : VK) : V → V → Hp → Prop := fun x y H => ∃ a v, x = .ref a ∧ DGet H a y (some v) ∧ Q v H
def rDInV (Q : VK) : V → V → Hp → Prop := fun x y H => ∃ a o, x = .ref a ∧ DGet H a y o ∧ Q (.bl o.isSome) H
def rDNinV (Q : VK) : V → V → Hp → Prop := fun x y H => ∃ a o, x = .ref a ∧ DGet H a y o ∧ Q (.bl (!o.isSome)) H
def rDPutV (S : Hp → Prop) : V → V → V → Hp → Prop := fun x y v H => ∃ a H4, x = .ref a ∧ DPut H a y v H4 ∧ S H4
instance st_dget : Stp (tDGet td ty σ H Q) (td σ H fun x H1 => ty σ H1 fun y H2 => rDGetV Q x y H2) := ⟨fun h => h⟩
instance st_din : Stp (tDIn ty td σ H Q) (ty σ H fun y H1 => td σ H1 fun x H2 => rDInV Q x y H2) := ⟨fun h => h⟩
instance st_dnotin : Stp (tDNotIn ty td σ H Q) (ty σ H fun y H1 => td σ H1 fun x H2 => rDNinV Q x y H2) := ⟨fun h => h⟩
instance st_dput : Stp (sDPut td ty tv ⟨nx, rt, bk, ct⟩ σ H) (tv σ H fun v H1 => td σ H1 fun x H2 => ty σ H2 fun y H3 => rDPutV (nx σ) x y v H3) := ⟨fun h => h⟩
theorem rd_din1 {b : Bool} (h : H a = some (.dK kvs)) (hb : (valV kvs (.inl i)).isSome = b) (q : Q (.bl b) H) : rDInV Q (.ref a) (.int i) H := ⟨a, _, rfl, DGet.k (k := .inl i) h, by rw [hb]; exact q⟩
theorem rd_dnotin1 {b : Bool} (h : H a = some (.dK kvs)) (hb : (valV kvs (.inl i)).isSome = b) (q : Q (.bl (!b)) H) : rDNinV Q (.ref a) (.int i) H := ⟨a, _, rfl, DGet.k (k := .inl i) h, by rw [hb]; exact q⟩
theorem rd_dput1 {S : Hp → Prop} (h : H a = some (.dK kvs)) (hl : kvs.length < sizeLine) (q : S (upd H a (.dK (putK kvs (.inl i) v)))) : rDPutV S (.ref a) (.int i) v H := ⟨a, _, rfl, DPut.k (k := .inl i) h hl, q⟩
/-! dicts of flags: {k: True for ..}; ks the keys, in order -/
def dFl (ks : List Int) : List (Key × V) := ks.map fun k => (.inl k, .bl true)
abbrev DFl (ks : List Int) : HO := .dK (dFl ks)
theorem dFl_len {ks : List Int} : (dFl ks).length = ks.length := List.length_map ..
theorem dFl_val {i : Int} : ∀ {ks : List Int}, (valV (dFl ks) (.inl i)).isSome = decide (i ∈ ks)
  | [] => by simp [dFl, valV]
  | k :: ks => by
    have ih := dFl_val (i := i) (ks := ks)
    by_cases e : k = i
    · subst e
      have : valV (dFl (k :: ks)) (.inl k) = some (.bl true) := valV_pos (p := ((Sum.inl k : Key), V.bl true)) (r := dFl ks) (k := Sum.inl k) rfl
      rw [this]
      simp
    · have : valV (dFl (k :: ks)) (.inl i) = valV (dFl ks) (.inl i) := valV_neg (p := ((Sum.inl k : Key), V.bl true)) (r := dFl ks) (k := Sum.inl i) fun z => e (Sum.inl.inj z)
      rw [this, ih]
      refine decide_eq_decide.mpr ?_
      rw [List.mem_cons]
      exact ⟨.inr, fun z => z.elim (fun z => absurd z.symm e) id⟩
theorem dFl_put {ks : List Int} {i : Int} : putK (dFl ks) (.inl i) (.bl true) = dFl (insL ks i) := by
  unfold insL
  by_cases h : i ∈ ks
  · rw [if_pos h]
    unfold putK
    rw [if_pos (by rw [valV_any, dFl_val, decide_eq_true h])]
    unfold dFl
    rw [List.map_map]
    refine List.map_congr_left fun k _ => ?_
    by_cases e : k = i
    · subst e
      simp
    · simp [e]
  · rw [if_neg h]
    have hn : valV (dFl ks) (.inl i) = none := by
      have := dFl_val (i := i) (ks := ks)
      rw [decide_eq_false h] at this
      cases hv : valV (dFl ks) (.inl i) with
      | none => rfl
      | some _ => rw [hv] at this; cases this
    rw [putK_new _ hn]
    unfold dFl
    rw [List.map_append]
    rfl
theorem dFl_keys {ks : List Int} : ((dFl ks).map fun kv => kV kv.1) = ks.map V.int := by
  unfold dFl
  rw [List.map_map]
  rfl
theorem rd_dinF {ks : List Int} (h : H a = some (DFl ks)) (q : Q (.bl (decide (i ∈ ks))) H) : rDInV Q (.ref a) (.int i) H := rd_din1 h dFl_val q
theorem rd_dnotinF {ks : List Int} (h : H a = some (DFl ks)) (q : Q (.bl (!decide (i ∈ ks))) H) : rDNinV Q (.ref a) (.int i) H := rd_dnotin1 h dFl_val q
theorem rd_dputF {ks : List Int} {S : Hp → Prop} (h : H a = some (DFl ks)) (hl : ks.length < 1000000) (q : S (upd H a (DFl (insL ks i)))) : rDPutV S (.ref a) (.int i) (.bl true) H :=
  rd_dput1 h (by rw [dFl_len]; exact Nat.lt_trans hl (by decide)) (by rw [dFl_put]; exact q)
def rListDo : List V → Hp → VK → Prop := fun xs H Q => ∃ (a : Addr) (kvs : List (Key × V)), xs = [.ref a] ∧ Rd H a (.dK kvs) ∧ ∀ p, H p = none → Q (.ref p) (upd H p (.lst (kvs.map fun kv => kV kv.1)))
theorem c_listD {X : Cx} (calm : X.calm = true) : CallR X (.type "list") rListDo := call_listD calm
theorem rd_listF {ks : List Int} (h : H a = some (DFl ks)) (q : ∀ p, H p = none → Q (.ref p) (upd H p (.lst (ks.map V.int)))) : rListDo [.ref a] H Q := ⟨a, dFl ks, rfl, .inl h, by rw [dFl_keys]; exact q⟩
end
end L2
namespace L2
open PySem PySem.Spec PyProof.Rows
end L2
namespace L2
open PySem PySem.Spec PyProof.Rows
/-! ### two roads for one expression -/
def tAlt (t u : TE) : TE := fun σ H Q => t σ H Q ∨ u σ H Q
def iAlt (t u : TI) : TI := fun σ H S => t σ H S ∨ u σ H S
section
variable {X : Cx} {e tg : Expr}
theorem pe_alt {t u : TE} (h : PE X e t) (k : PE X e u) : PE X e (tAlt t u) := ⟨fun pins s σ H Q I z => z.elim (h.run pins s σ H Q I) (k.run pins s σ H Q I)⟩
theorem pi_alt {t u : TI} (h : PI X tg e t) (k : PI X tg e u) : PI X tg e (iAlt t u) := ⟨fun pins s σ H S I z => z.elim (h.run pins s σ H S I) (k.run pins s σ H S I)⟩
end
/-! ### operators of own classes -/
def rBinO (C : Addr) (sp : Sp) (E : XK) : R2 := fun x y H Q => ∃ a b dx fs dy gs, x = .ref a ∧ y = .ref b ∧ H a = some (.ins C dx fs) ∧ H b = some (.ins C dy gs) ∧ sp [.ref a, .ref b] H (fun v H' => ∃ r, v = .ref r ∧ Q (.ref r) H') E
/-- an own instance's truth -/
def rTruO (C : Addr) (sp : Sp) (E : XK) (R : Bool → Hp → Prop) (x : V) (H : Hp) : Prop := ∃ a dx fs, x = .ref a ∧ H a = some (.ins C dx fs) ∧ sp [.ref a] H (fun v H' => ∃ b, v = .bl b ∧ R b H') E
section
variable {X : Cx} {k : Nat} {C : Addr} {ps : List PySem.Str} {sp : Sp} {E : XK} {m : PySem.Str}
variable {a : Expr} {ta : TE} {pos : Pos}
/-- an instance as a test -/
def tTruO (C : Addr) (sp : Sp) (E : XK) (ta : TE) : TT := fun σ H R => ta σ H (rTruO C sp E R)
/-- not of an instance, as a value -/
def tNotO (C : Addr) (sp : Sp) (E : XK) (ta : TE) : TE := fun σ H Q => ta σ H (rTruO C sp E fun b H' => Q (.bl (!b)) H')
end
section
variable {σ : St} {H : Hp} {Q : VK} {R : Bool → Hp → Prop} {C a b dx dy : Addr} {fs gs : List (PySem.Str × V)} {sp : Sp} {E : XK} {x : V} {ta te : TE} {t u : TE}
instance st_tTruO : Stp (tTruO C sp E ta σ H R) (ta σ H (rTruO C sp E R)) := ⟨fun h => h⟩
instance st_tNotO : Stp (tNotO C sp E ta σ H Q) (ta σ H (rTruO C sp E fun b H' => Q (.bl (!b)) H')) := ⟨fun h => h⟩
end
/-! ### bool(o) -/
/-! ### classmethods -/
structure CMAt (K : PySem.W.Frag) (C : Addr) (m qual : PySem.Str) (st : Stmt) : Prop where
  ex : ∃ (mc : Value) (p g : Addr) (fd : FuncData), ClX.CRead K C mc ∧ ClX.CMet K C mc m p g ∧ Fun K m qual st g fd
structure CMDef (P : Program) (w : World) (K : PySem.W.Frag) (mg : PySem.Str → Option Value) (base : Heap) (k : Nat) (C : Addr) (m : PySem.Str) (sp : Sp) : Prop where
  ex : ∃ (mc : Value) (p g : Addr), ClX.CRead K C mc ∧ ClX.CMet K C mc m p g ∧ FnR P w K mg base (L2.CX P w) k g sp
section
variable {P : Program} {w : World} {K : PySem.W.Frag} {mg : PySem.Str → Option Value} {base : Heap}
theorem CMDef.imp {k : Nat} {C : Addr} {m : PySem.Str} {sp sp' : Sp} (D : CMDef P w K mg base k C m sp) (h : ∀ vs H Q E, sp' vs H Q E → sp vs H Q E) : CMDef P w K mg base k C m sp' := by
  obtain ⟨mc, p, g, a, b, F⟩ := D.ex
  exact ⟨mc, p, g, a, b, F.imp h⟩
theorem FnR.forget {k : Nat} {f : Addr} {sp : Sp} (F : FnR P w K mg base (L2.CX P w) k f sp) : FnR P w K mg base (L2.CX P w) k f (fun vs H Q E => NoT H ∧ sp vs H (fun v H' => Same H H' ∧ Q v H) E) := by
  intro A outer s H us vs Q E hr he r q
  refine codeAny_mono (F A outer s H us vs _ E hr he r q.2) fun res t done => ?_
  cases res with
  | error er => exact done
  | ok fl =>
    cases fl with
    | ret u =>
      obtain ⟨v, H2, os2, bare2, un2, hok2, rv, sm, q2⟩ := done
      exact ⟨v, H, os2, bare2, ⟨un2.keep, un2.slot, fun _ _ _ n _ => n, un2.there, fun _ _ q => q, fun _ _ _ q => q, fun _ ps q => ⟨#[], by rw [q]; simp⟩⟩, hok_back q.1 hok2 he.hok sm, rv, q2⟩
    | next => exact done
    | brk => exact done
    | cont => exact done
theorem CMDef.forget {k : Nat} {C : Addr} {m : PySem.Str} {sp : Sp} (D : CMDef P w K mg base k C m sp) : CMDef P w K mg base k C m (fun vs H Q E => NoT H ∧ sp vs H (fun v H' => Same H H' ∧ Q v H) E) := by
  obtain ⟨mc, p, g, a, b, F⟩ := D.ex
  exact ⟨mc, p, g, a, b, FnR.forget F⟩
/-- a classmethod with plain parameters -/
theorem CMAt.ok {C : Addr} {m qual : PySem.Str} {st : Stmt} {N ps : List PySem.Str} {k : Nat} {sp : Sp} (D : CMAt K C m qual st) (S : FnScope N ps (defScope st)) (len : ∀ vs H Q E, sp vs H Q E → vs.length = ps.length)
    (binds : ∀ (f : Addr) (fd : FuncData), Fun K m qual st f fd → Binds K fd ps [])
    (hbody : ∀ (f : Addr) (cdv : Value) (A : Around) (outer : List Env) (s : Shared) (H : Hp) (vs : List V) (Q : VK) (E : XK), Room k (A.deeper (envOfC qual (defScope st) s.heap.objs.size f cdv)) → sp vs H Q E →
      ∃ t, PSs (cxOf (L2.CX P w) P w K mg base N qual (defScope st) f cdv A outer s H E) (defBody st) t ∧ t ⟨fun _ H' => Q .non H', Q, fun _ _ => False, fun _ _ => False⟩ (start N vs) H) : CMDef P w K mg base (k + 1) C m sp := by
  obtain ⟨mc, p, g, fd, a, b, F⟩ := D.ex
  refine ⟨mc, p, g, a, b, FnR.imp (FnOk.raw (F.okX S len fun cdv A outer s H vs Q E hr h => hbody g cdv A outer s H vs Q E hr h) (binds g fd F) .nil) fun vs H Q E h => ?_⟩
  rw [List.append_nil]
  exact h
end
section
variable {X : Cx} {k : Nat} {C : Addr} {m : PySem.Str} {sp : Sp} {E : XK} {o e : Expr} {es : List Expr} {ta : TE} {t : TA} {pos apos : Pos}
theorem pe_cm {pl : Sem Bool} (D : CMDef X.prog X.w X.K X.mg X.base k C m sp) (he : PE X o ta) (hr : Room k X.A) (hx : Passes (L2.CX X.prog X.w) X E) (ha : PA X (e :: es) t)
    (hst : starEach (e :: es) X.env = (false, eval e X.env) :: starEach es X.env := by rfl) (hpl : (backTo pos (starEach es X.env)).any (·.1) = false := by rfl)
    (ht : eval (.Call (.Attribute o m apos) (e :: es) [] pos) X.env = (do
      let self ← eval o X.env
      standAt apos.atName
      let (g, ahead) ← holding [self] (getMethod self m pl)
      callWith pos g ahead (backTo pos (starEach (e :: es) X.env)) (backToKw pos (keywordEach [] X.env))) := by rfl) :
    PE X (.Call (.Attribute o m apos) (e :: es) [] pos) (ClX.tCMeth C sp E ta t) := by
  obtain ⟨mc, p, g, a, b, F⟩ := D.ex
  exact ClX.pe_cmeth he a b F hr hx ha hst hpl ht
instance st_cm {σ : St} {H : Hp} {Q : VK} : Stp (ClX.tCMeth C sp E ta t σ H Q) (ta σ H fun x H1 => x = .ref C ∧ t σ H1 fun vs H2 => sp (.ref C :: vs) H2 Q E) := ⟨fun h => h⟩
instance st_cm1 {P : Prop} : Stp (V.ref C = V.ref C ∧ P) P := ⟨fun h => ⟨rfl, h⟩⟩
/-- cls(..), the class in a name -/
def tMakeL (C : Addr) (sp : Sp) (E : XK) (tf : TE) (t : TA) : TE := fun σ H Q => tf σ H fun y H1 => y = .ref C ∧ t σ H1 fun vs H2 => ∀ x dx, H2 x = none → H2 dx = none → dx ≠ x → sp (.ref x :: vs) (upd (upd H2 dx (.own x)) x (.ins C dx [])) (fun v H3 => v = .non ∧ Q (.ref x) H3) E
instance st_makeL {σ : St} {H : Hp} {Q : VK} {tf : TE} : Stp (tMakeL C sp E tf t σ H Q) (tf σ H fun y H1 => y = .ref C ∧ t σ H1 fun vs H2 => ∀ x dx, H2 x = none → H2 dx = none → dx ≠ x → sp (.ref x :: vs) (upd (upd H2 dx (.own x)) x (.ins C dx [])) (fun v H3 => v = .non ∧ Q (.ref x) H3) E) := ⟨fun h => h⟩
theorem pe_mkL {x : PySem.Str} {ps : List PySem.Str} {fe : Expr} {tf : TE} (D : MkDef X.prog X.w X.K X.mg X.base k x C ps sp) (hf : PE X fe tf) (hr : Room (k + 1) X.A) (hx : Passes (L2.CX X.prog X.w) X E) (ha : PA X (e :: es) t)
    (ht : eval (.Call fe (e :: es) [] pos) X.env = (do callWith pos (← eval fe X.env) [] (backTo pos (starEach (e :: es) X.env)) (backToKw pos (keywordEach [] X.env))) := by rfl)
    (he : starEach (e :: es) X.env = (false, eval e X.env) :: starEach es X.env := by rfl) (hpl : (backTo pos (starEach es X.env)).any (·.1) = false := by rfl) :
    PE X (.Call fe (e :: es) [] pos) (tMakeL C sp E tf t) := by
  obtain ⟨f, fd, F, M, b⟩ := D.ex
  refine ⟨fun pins s σ H Q I h => Call_ (thn (hf.run pins s σ H _ I h) fun u s1 ⟨y, H1, I1, ry, ey, q⟩ => ?_) ht⟩
  subst ey
  obtain rfl : u = Value.ref C := ry
  refine PySem.W.callWith_K (h₀ := X.base) I1.ok.mod.kin M.kp (thn (ha.run pos pins s1 σ H1 _ I1 q) fun us s2 ⟨vs, H2, I2, r, q2⟩ => ⟨I2.kIn, ?_⟩) he hpl
  refine run_make (dvs := []) M F hr b .nil hx I2 r ?_
  rw [List.append_nil]
  exact q2
end
end L2
namespace L2
open PySem PySem.Spec PyProof.Rows
/-! ### bool(t), a tuple -/
end L2
namespace L2
open PySem PySem.Spec PyProof.Rows
/-! ### a def under a second name -/
structure DefAtA (K : PySem.W.Frag) (mg : PySem.Str → Option Value) (y x : PySem.Str) (st : Stmt) (ps : List PySem.Str) : Prop where
  ex : ∃ (f : Addr) (fd : FuncData), Fun K x x st f fd ∧ mg y = some (.ref f) ∧ Binds K fd ps []
theorem DefAtA.ok {P : Program} {w : World} {K : PySem.W.Frag} {mg : PySem.Str → Option Value} {base : Heap} {y x : PySem.Str} {st : Stmt} {N ps : List PySem.Str} {k : Nat} {sp : Sp} (D : DefAtA K mg y x st ps) (S : FnScope N ps (defScope st)) (len : ∀ vs H Q E, sp vs H Q E → vs.length = ps.length)
    (body : ∀ (f : Addr) (cdv : Value) (A : Around) (outer : List Env) (s : Shared) (H : Hp) (vs : List V) (Q : VK) (E : XK), Room k (A.deeper (envOfC x (defScope st) s.heap.objs.size f cdv)) → sp vs H Q E →
      ∃ t, PSs (cxOf (L2.CX P w) P w K mg base N x (defScope st) f cdv A outer s H E) (defBody st) t ∧ t ⟨fun _ H' => Q .non H', Q, fun _ _ => False, fun _ _ => False⟩ (start N vs) H) : Def P w K mg base (k + 1) y ps sp := by
  obtain ⟨f, fd, F, g, b⟩ := D.ex
  exact ⟨f, fd, F.okX S len fun cdv A outer s H vs Q E hr h => body f cdv A outer s H vs Q E hr h, g, F.kp, b⟩
/-! ### {k: v for ..} given to a name -/
/-- {x: True for x in xs}, xs a list or tuple of ints -/
def dcB (J : It) (g : TG) (tt : TT) (tk tv : TE) (vs : List Nat) (σ : St) (Q : VK) (H1 : Hp) : Prop := ∀ D, H1 D = none → ∃ W : Nat → Nat → Hp → Prop, (∃ m, W 0 m (upd H1 D (.dK []))) ∧ ∀ i m H, W i m H →
  (J.stop i H ∧ Q (.ref D) H) ∨ (J.go i H ∧ ∃ Nx : Hp → Prop, (∀ H', Nx H' → ∃ m', m' < m ∧ W (i + 1) m' H') ∧ ∀ x H', J.yld i H x H' → g x (wipe σ vs) H' fun σ2 H2 => wipe σ2 vs = wipe σ vs ∧ tt σ2 H2 fun b H3 =>
    if b = true then tk σ2 H3 fun y H4 => tv σ2 H4 fun z H5 => ∃ kvs k, y = kV k ∧ H5 D = some (.dK kvs) ∧ kvs.length < sizeLine ∧ Nx (upd H5 D (.dK (putK kvs k z))) else Nx H3)
section
variable {σ : St} {H : Hp} {Q : VK} {K : PySem.W.Frag} {tk tv : TE} {tt : TT}
instance st_dc {wi : TI} {g : TG} {vs : List Nat} : Stp (tDc wi g tt tk tv vs σ H Q) (wi σ H fun J H1 => dcB J g tt tk tv vs σ Q H1) := ⟨fun h => h⟩
def DcPut (H : Hp) (D : Addr) (xs : List Int) (y z : V) (H5 : Hp) : Prop := ∃ kvs k, y = kV k ∧ H5 D = some (.dK kvs) ∧ kvs.length < sizeLine ∧ upd H5 D (.dK (putK kvs k z)) = upd H D (DFl (ofL xs))
theorem put_F {D : Addr} {xs ys : List Int} {c : Int} (few : xs.length < 100000) (e : ys = xs ++ [c]) : DcPut H D ys (.int c) (.bl true) (upd H D (DFl (ofL xs))) := by
  refine ⟨_, .inl c, rfl, upd_same, ?_, ?_⟩
  · rw [dFl_len]
    exact Nat.lt_trans (Nat.lt_of_le_of_lt len_ofL few) (by decide)
  · rw [upd_upd, dFl_put, e, ofL_snoc]
theorem rd_dcLF {a : Addr} {ns : List Int} {g : TG} {vs : List Nat} (hS : SqL K H a (ns.map V.int))
    (hs : ∀ D l x r, H D = none → ns = l ++ x :: r → g (.int x) (wipe σ vs) (upd H D (DFl (ofL l))) fun σ2 H2 => wipe σ2 vs = wipe σ vs ∧ tk σ2 H2 fun y H4 => tv σ2 H4 fun z H5 => DcPut H D (l ++ [x]) y z H5)
    (q : ∀ D, H D = none → Q (.ref D) (upd H D (DFl (ofL ns)))) : dcB (Itl K a) g tYes tk tv vs σ Q H := by
  intro D hD
  refine ⟨fun i m G => m = ns.length - i ∧ i ≤ ns.length ∧ G = upd H D (DFl (ofL (ns.take i))), ⟨ns.length, by simp, Nat.zero_le _, rfl⟩, ?_⟩
  rintro i m G ⟨rfl, hi, rfl⟩
  have hS' : SqL K (upd H D (DFl (ofL (ns.take i)))) a (ns.map V.int) := (same_new hD).seq hS
  by_cases hlt : i < ns.length
  · have hx : (ns.map V.int)[i]? = some (.int ns[i]) := by simp [hlt]
    have er : ns.take (i + 1) = ns.take i ++ [ns[i]] := by rw [List.take_add_one, List.getElem?_eq_getElem hlt]; rfl
    refine .inr ⟨⟨_, _, hS', hx⟩, fun G' => G' = upd H D (DFl (ofL (ns.take (i + 1)))), fun G' e => ⟨ns.length - (i + 1), by omega, rfl, hlt, e⟩, fun x G' y => ?_⟩
    obtain ⟨e, y⟩ := y
    subst e
    have ex : x = .int ns[i] := Option.some.inj ((y _ hS').symm.trans hx)
    subst ex
    have z := hs D (ns.take i) ns[i] (ns.drop (i + 1)) hD (by rw [List.getElem_cons_drop, List.take_append_drop])
    rw [← er] at z
    exact z
  · have e : i = ns.length := by omega
    subst e
    rw [List.take_length]
    exact .inl ⟨⟨_, (same_new hD).seq hS, by rw [List.length_map]; exact Nat.le_refl _⟩, q D hD⟩
theorem rd_dcTF {a : Addr} {ns : List Int} {g : TG} {vs : List Nat} (hS : SqT K H a (ns.map V.int))
    (hs : ∀ D l x r, H D = none → ns = l ++ x :: r → g (.int x) (wipe σ vs) (upd H D (DFl (ofL l))) fun σ2 H2 => wipe σ2 vs = wipe σ vs ∧ tk σ2 H2 fun y H4 => tv σ2 H4 fun z H5 => DcPut H D (l ++ [x]) y z H5)
    (q : ∀ D, H D = none → Q (.ref D) (upd H D (DFl (ofL ns)))) : dcB (Itt K a) g tYes tk tv vs σ Q H := by
  intro D hD
  refine ⟨fun i m G => m = ns.length - i ∧ i ≤ ns.length ∧ G = upd H D (DFl (ofL (ns.take i))), ⟨ns.length, by simp, Nat.zero_le _, rfl⟩, ?_⟩
  rintro i m G ⟨rfl, hi, rfl⟩
  have hS' : SqT K (upd H D (DFl (ofL (ns.take i)))) a (ns.map V.int) := (same_new hD).seqT hS
  by_cases hlt : i < ns.length
  · have hx : (ns.map V.int)[i]? = some (.int ns[i]) := by simp [hlt]
    have er : ns.take (i + 1) = ns.take i ++ [ns[i]] := by rw [List.take_add_one, List.getElem?_eq_getElem hlt]; rfl
    refine .inr ⟨⟨_, _, hS', hx⟩, fun G' => G' = upd H D (DFl (ofL (ns.take (i + 1)))), fun G' e => ⟨ns.length - (i + 1), by omega, rfl, hlt, e⟩, fun x G' y => ?_⟩
    obtain ⟨e, y⟩ := y
    subst e
    have ex : x = .int ns[i] := Option.some.inj ((y _ hS').symm.trans hx)
    subst ex
    have z := hs D (ns.take i) ns[i] (ns.drop (i + 1)) hD (by rw [List.getElem_cons_drop, List.take_append_drop])
    rw [← er] at z
    exact z
  · have e : i = ns.length := by omega
    subst e
    rw [List.take_length]
    exact .inl ⟨⟨_, (same_new hD).seqT hS, by rw [List.length_map]; exact Nat.le_refl _⟩, q D hD⟩
end
end L2
namespace L2
open PySem PySem.Spec PyProof.Rows
end L2
namespace PySem.W
open PySem PySem.Spec PySem.Calls PyProof.Rows
end PySem.W
namespace L2
open PySem PySem.Spec PyProof.Rows
end L2
namespace L2
open PySem PySem.Spec PyProof.Rows
section
variable {σ : St} {H : Hp} {Q : VK} {K : PySem.W.Frag} {te : TE} {tt : TT}
/-- a list comprehension over a list whose tests and items change the heap -/
theorem rd_lcLG {a : Addr} {xs : List V} {g : TG} {vs : List Nat} (J : Addr → Nat → List V → Hp → Prop) (hl : ∀ D i ys H', J D i ys H' → SqL K H' a xs) (h0 : ∀ D, H D = none → J D 0 [] (upd H D (.lst [])))
    (hs : ∀ D i ys x H', H D = none → xs[i]? = some x → H' D = some (.lst ys) → J D i ys H' → g x (wipe σ vs) H' fun σ2 H2 => wipe σ2 vs = wipe σ vs ∧ tt σ2 H2 fun b H3 => if b = true then te σ2 H3 (fun y H4 => ∃ acc, H4 D = some (.lst acc) ∧ acc.length < sizeLine ∧ ∃ ys, (upd H4 D (.lst (acc ++ [y]))) D = some (.lst ys) ∧ J D (i + 1) ys (upd H4 D (.lst (acc ++ [y])))) else ∃ ys, H3 D = some (.lst ys) ∧ J D (i + 1) ys H3)
    (q : ∀ D ys H', H D = none → H' D = some (.lst ys) → J D xs.length ys H' → Q (.ref D) H') : lcB (Itl K a) g tt te vs σ Q H := by
  intro D hD
  refine lc_it (walk_list (K := K) (a := a) (xs := xs)) (fun i H' => ∃ ys, H' D = some (.lst ys) ∧ J D i ys H') ⟨[], upd_same, h0 D hD⟩ (fun i H' _ ⟨ys, _, j⟩ => hl D i ys H' j) ?_ (fun H' ⟨ys, h1, j⟩ => q D ys H' hD h1 j)
  rintro i x H' H'' hi ⟨ys, h1, j⟩ ⟨rfl, hx⟩
  exact hs D i ys x _ hD hx h1 j
end
end L2
namespace L2
open PySem PySem.Spec PyProof.Rows
/-! ### set(xs), a list of ints -/
section
variable {P : Program} {w : World} {A : Around} {E : Value → Shared → Prop} {s : Shared}
/-- a set as it begins -/
abbrev setAtFirst (w : World) : Obj := { cls := .type "set", dict := none, data := .set #[] 0 (.fresh 0 0 (!w.params.followText "set-order")) }
theorem setOf_list {src : Addr} {its : Array Value} (ks : List Int) {Q : Value → Shared → Prop} (calm : A.handled = none) (isL : s.heap.IsList src its) (whole : IntsAre its.toList ks) (few : ks.length + 1 < scanBound)
    (go : ∀ (h' : Heap) (tk c : Nat), SetR w h' s.heap.objs.size (fun j => decide (j ∈ ks)) c → c ≤ ks.length → (∀ b o, s.heap.get? b = some o → h'.get? b = some o) → Q (.ref s.heap.objs.size) { s with heap := h', toks := tk }) :
    wpAny (model P w) A (call (.type "set") [.ref src]) Q E s := by
  have sizes : its.size = ks.length := by rw [← IntsAre.length whole, Array.length_toList]
  have k1 := F.called_set.made
  have k2 := F.called_set.sub
  have k3 := F.called_set.notType
  have k4 := F.called_set.canCreate
  obtain ⟨mro0, mro1, k5⟩ := F.called_set.mro
  refine wpAny_call ?_
  refine codeAny_of_tree ?_
  show wpAny _ _ (callAny (.type "set") _) _ _ s
  refine wpAny_pure ⟨Code.quiet_builtin _ (by decide +kernel), ?_⟩
  refine codeAny_builtin F.entry_type_call ?_
  rw [Around.under_plain (weight_type_call_type "set" [.ref src] []) rfl]
  have k6 := F.typeCall_set_1 (.ref src)
  repeat (any_goals (first | assumption | wp_step | fail))
  refine codeAny_mono (code_set_led1 (.ref src) (E := E) (Q₁ := fun u t => u = .ref s.heap.objs.size ∧ t = { s with heap := s.heap.push (setAtFirst w) }) ⟨rfl, rfl⟩) fun res t made => ?_
  cases res with
  | error x => exact made
  | ok flow =>
    cases flow with
    | ret u =>
      obtain ⟨rfl, rfl⟩ := made
      have atS : (s.heap.push (setAtFirst w)).get? s.heap.objs.size = some (setAtFirst w) := Heap.get?_push_size _ rfl
      have tyS : Shared.TypeIs { s with heap := s.heap.push (setAtFirst w) } (.ref s.heap.objs.size) "set" := ⟨_, atS, rfl⟩
      have k7 := F.called_set.init.lookup
      have k8 := F.called_set.init.bind (.ref s.heap.objs.size)
      repeat (any_goals (first | assumption | wp_step | fail))
      refine codeAny_mono (codeAny_call_builtin (R := wants (fun r t2 => r = .none ∧ ∃ h' tk c, t2 = { s with heap := h', toks := tk } ∧ SetR w h' s.heap.objs.size (fun j => decide (j ∈ ks)) c ∧ c ≤ ks.length ∧
          (∀ b o, s.heap.get? b = some o → h'.get? b = some o)) E) F.called_set.init.plain F.entry_set_init (check_set_init_1 tyS ?_)) fun res2 t2 done => ?_
      · obtain ⟨⟨cls0, dct0, dat0, slt0⟩, atO, isC, ep, isD⟩ := isL
        dsimp only at isC isD
        subst isC isD
        have atO1 : (s.heap.push (setAtFirst w)).get? src = some { cls := .type "list", dict := dct0, data := .seq its ep, slots := slt0 } := Heap.get?_push_of_some _ atO
        have n1 := F.sub_list_set
        have n2 := F.sub_list_frozenset
        have n3 : (Value.type "list" == Value.type "dict") = false := by decide
        have isL1 : (s.heap.push (setAtFirst w)).IsList src its := ⟨_, atO1, rfl, ep, rfl⟩
        unfold Builtin.«set.__init__» noKeywords Builtin.Frozenset.updateFrom
        generalize hit : pyIter = iterOf
        wp_walk
        subst hit
        refine wpAny_pyIter_list isL1 ?_
        refine wpAny_bind (wpAny_runValue ?_)
        have small : src < s.heap.objs.size := Heap.lt_size atO
        have grow : (s.heap.push (setAtFirst w)).objs.size = s.heap.objs.size + 1 := Heap.size_push ..
        have calm3 : A.in1.in1.in1.handled = none := by simp [calm]
        have apart : src ≠ (s.heap.push (setAtFirst w)).objs.size := by
          rw [grow]
          exact Nat.ne_of_lt (Nat.lt_succ_of_lt small)
        have away : s.heap.objs.size ∉ [(s.heap.push (setAtFirst w)).objs.size, src] := by
          rw [grow, List.mem_cons, List.mem_singleton]
          exact not_or.mpr ⟨Nat.ne_of_lt (Nat.lt_succ_self _), Nat.ne_of_gt small⟩
        have each : ∀ (i : Nat) (v : Value), its[i]? = some v → ∃ k t, ks[i]? = some k ∧ v = .int k t := fun i v hv => by
          have hi : i < ks.length := by
            rw [← sizes]
            exact (Array.getElem?_eq_some_iff.mp hv).1
          obtain ⟨t, e⟩ := PyProof.Rows.IntsAre.int_at whole i v (by rw [Array.getElem?_toList]; exact hv)
          refine ⟨ks[i], t, List.getElem?_eq_getElem hi, ?_⟩
          rw [e, List.getD_eq_getElem?_getD, List.getElem?_eq_getElem hi] <;> rfl
        refine set_update_ints ((Walks.list calm3 _ src apart its).toS) s.heap.objs.size away ks sizes few each (its.size - 0) 0 _ (by omega) (Nat.zero_le _)
          ⟨⟨_, Heap.get?_push_size _ rfl, rfl, rfl⟩, (isL1.push _)⟩ ?first ?last
        case first =>
          refine ⟨0, Nat.le_refl 0, setR_new_at ?_⟩
          exact Heap.get?_push_of_some _ atS
        case last =>
          intro t3 c3 mv le3 R3
          obtain ⟨h3, g3, d3, k3, o3⟩ := t3
          obtain rfl : g3 = s.gens := mv.gens
          obtain rfl : d3 = s.drawn := mv.drawn
          obtain rfl : o3 = s.os := mv.os
          show wpAny _ _ _ _ _ _
          refine wpAny_pure ?_
          show wpAny _ _ (ret Value.none) _ _ _
          refine wpAny_pure ⟨rfl, h3, k3, c3, rfl, R3, by rw [← sizes]; exact le3, fun b o e => ?_⟩
          have lt := Heap.lt_size e
          refine mv.heap b o ?_ (Heap.get?_push_of_some _ (Heap.get?_push_of_some _ e))
          rw [List.mem_cons, List.mem_singleton, grow]
          exact not_or.mpr ⟨Nat.ne_of_lt lt, Nat.ne_of_lt (Nat.lt_succ_of_lt lt)⟩
      · cases res2 with
        | error x => exact done
        | ok flow2 =>
          cases flow2 with
          | ret r =>
            obtain ⟨rfl, h', tk, c, rfl, R3, le3, keep⟩ := done
            repeat (any_goals (first | assumption | wp_step | fail))
            exact go _ _ _ R3 le3 keep
          | _ => exact done.elim
    | _ => exact made.elim
end
/-- set(xs), a list or a tuple of ints -/
def rSetOf (K : PySem.W.Frag) (w : World) : List V → Hp → VK → Prop := fun vs H Q => ∃ (a : Addr) (ns : List Int), vs = [.ref a] ∧ (SqL K H a (ns.map V.int) ∨ SqT K H a (ns.map V.int)) ∧ ns.length < 4095 ∧ ∀ D n, H D = none → Q (.ref D) (upd H D (SetO w D (inS ns) n))
theorem cr_setOf {X : Cx} (calm : X.calm = true) : CallR X (.type "set") (rSetOf X.K X.w) := by
  intro pins s σ H vs us Q I r ⟨a, ns, ev, at_, few, q⟩
  subst ev
  rw [Vals.ref1 r]
  have fin : ∀ (h' : Heap) (tk c : Nat), SetR X.w h' s.heap.objs.size (fun j => decide (j ∈ ns)) c → c ≤ ns.length → (∀ b o, s.heap.get? b = some o → h'.get? b = some o) → EP X pins σ Q (.ref s.heap.objs.size) { s with heap := h', toks := tk } := fun h' tk c R _ keep => by
    have free : H s.heap.objs.size = none := I.hok.fresh (Nat.le_refl _)
    exact ⟨.ref s.heap.objs.size, _, I.laid (t' := tk) keep (Nat.le_refl _) (setO_new R), rfl, q _ c free⟩
  rcases at_ with h | h
  · obtain ⟨its, rv, p, hz⟩ := I.list h
    exact setOf_list ns (I.ok.hd calm) p.isList rv.ints (Nat.succ_lt_succ few) fin
  · obtain ⟨its, rv, p, hz⟩ := I.tuple h
    exact call_set_tupI ns (I.ok.hd calm) (show s.heap.IsTuple a its.toArray from p) (ints_of_vals rv) (Nat.succ_lt_succ few) fin
end L2
namespace PySem.W
open PySem PySem.Spec PySem.Calls PyProof.Rows Builtin
end PySem.W
namespace L2
open PySem PySem.Spec PyProof.Rows
end L2
namespace L2
open PySem PySem.Spec PyProof.Rows
/-! ### a view of the heap: what is kept of an earlier one, what is ours to change, what stands besides, what no list decides -/
def rigid : HO → Bool
  | .ins _ _ _ => true
  | .tup _ => true
  | _ => false
/-- all that is no list, dict or the like still stands -/
def Keeps (G G' : Hp) : Prop := ∀ b o, rigid o = true → G b = some o → G' b = some o
theorem Keeps.refl (G : Hp) : Keeps G G := fun _ _ _ h => h
theorem Keeps.trans {G G' G'' : Hp} (a : Keeps G G') (b : Keeps G' G'') : Keeps G G'' := fun c o r h => b c o r (a c o r h)
theorem Keeps.of {G G' : Hp} (s : Same G G') : Keeps G G' := fun b o _ h => s b o h
theorem Keeps.put {G : Hp} {x : Addr} {o u : HO} (h : G x = some o) (r : rigid o = false) : Keeps G (upd G x u) := fun b v rv hb => by
  by_cases e : b = x
  · subst e
    rw [h] at hb
    cases hb
    rw [r] at rv
    cases rv
  · rw [upd_ne e]
    exact hb
def Rig (P : Hp → Prop) (G : Hp) : Prop := ∀ G', Keeps G G' → P G'
structure Hv (X : Addr → Prop) (H : Hp) (M L : List (Addr × HO)) (Z : List (Hp → Prop)) (G : Hp) : Prop where
  old : ∀ b o, ¬ X b → H b = some o → G b = some o
  nt : NoT G
  m : ∀ q ∈ M, G q.1 = some q.2 ∧ (X q.1 ∨ H q.1 = none) ∧ rigid q.2 = false
  l : ∀ q ∈ L, G q.1 = some q.2
  nd : M.Pairwise fun q r => q.1 ≠ r.1
  ml : ∀ q ∈ M, ∀ r ∈ L, q.1 ≠ r.1
  z : ∀ P ∈ Z, Rig P G
def noX : Addr → Prop := fun _ => False
/-- nothing but x has changed -/
def But (x : Addr) (H H' : Hp) : Prop := ∀ b o, b ≠ x → H b = some o → H' b = some o
theorem But.of {x : Addr} {H H' : Hp} (h : Same H H') : But x H H' := fun b o _ e => h b o e
theorem But.new {x p : Addr} {H G : Hp} {o : HO} (h : But x H G) (hp : G p = none) : But x H (upd G p o) := fun b o1 n e => upd_keep (h b o1 n e) hp
theorem But.put {x : Addr} {H G : Hp} {o : HO} (h : But x H G) : But x H (upd G x o) := fun b o1 n e => by
  rw [upd_ne n]
  exact h b o1 n e
theorem But.refl {x : Addr} {H : Hp} : But x H H := fun _ _ _ e => e
theorem But.trans {x : Addr} {H G L : Hp} (a : But x H G) (b : But x G L) : But x H L := fun c o n e => b c o n (a c o n e)
theorem But.same {x : Addr} {H G L : Hp} (a : But x H G) (b : Same G L) : But x H L := fun c o n e => b c o (a c o n e)
/-- what stood ahead of x still stands -/
theorem But.old {x : Addr} {H0 H G : Hp} (a : But x H G) (s : Same H0 H) (f : H0 x = none) : Same H0 G := fun c o e => a c o (fun z => by
  rw [z, f] at e
  cases e) (s c o e)
theorem But.fresh {x D : Addr} {H G : Hp} {o : HO} (h : But x H G) (f : H D = none) : But x H (upd G D o) := fun b o1 n e => by
  rw [upd_ne (ne_of_none e f)]
  exact h b o1 n e
theorem but_none {x D : Addr} {H G : Hp} (h : But x H G) (n : D ≠ x) (f : G D = none) : H D = none := by
  cases e : H D with
  | none => rfl
  | some o => rw [h D o n e] at f; cases f
section
variable {X : Addr → Prop} {H G G' : Hp} {M L : List (Addr × HO)} {Z : List (Hp → Prop)} {a b D p x y : Addr} {o u v : HO} {P : Hp → Prop} {xs : List V}
theorem Hv.start (nt : NoT H) : Hv noX H [] [] [] H := ⟨fun _ _ _ h => h, nt, fun _ h => absurd h List.not_mem_nil, fun _ h => absurd h List.not_mem_nil, List.Pairwise.nil, fun _ h => absurd h List.not_mem_nil, fun _ h => absurd h List.not_mem_nil⟩
theorem Hv.same (B : Hv noX H M L Z G) : Same H G := fun b o h => B.old b o id h
theorem Hv.mAt (B : Hv X H M L Z G) (h : (a, o) ∈ M) : G a = some o := (B.m _ h).1
theorem Hv.lAt (B : Hv X H M L Z G) (h : (a, o) ∈ L) : G a = some o := B.l _ h
theorem Hv.zAt (B : Hv X H M L Z G) (h : P ∈ Z) : P G := B.z P h G (Keeps.refl G)
theorem Hv.oAt (B : Hv noX H M L Z G) (h : H a = some o) : G a = some o := B.old a o id h
theorem Hv.oAtX (B : Hv (· = p) H M L Z G) (h : H a = some o) (n : a ≠ p) : G a = some o := B.old a o n h
theorem Hv.fr (B : Hv noX H M L Z G) (h : (a, o) ∈ M) : H a = none := (B.m _ h).2.1.elim False.elim id
theorem Hv.free (B : Hv noX H M L Z G) (h : G D = none) : H D = none := B.same.free h
theorem Hv.away (B : Hv X H M L Z G) (h : G D = none) : ∀ q ∈ M, q.1 ≠ D := fun q hq e => by
  have := (B.m q hq).1
  rw [e, h] at this
  cases this
theorem Hv.next (B : Hv X H M L Z G) (s : Same G G') (n : NoT G') : Hv X H M L Z G' := ⟨fun b o h e => s b o (B.old b o h e), n, fun q hq => ⟨s _ _ (B.m q hq).1, (B.m q hq).2⟩, fun q hq => s _ _ (B.l q hq), B.nd, B.ml, fun P hP G2 k => B.z P hP G2 ((Keeps.of s).trans k)⟩
theorem Hv.newG (B : Hv X H M L Z G) (h : G D = none) (f : X D ∨ H D = none) (r : rigid o = false) (hn : noT o = true) : Hv X H ((D, o) :: M) L Z (upd G D o) := by
  have C := B.next (same_new (o := o) h) (NoT.upd B.nt hn)
  refine ⟨C.old, C.nt, fun q hq => ?_, C.l, List.pairwise_cons.mpr ⟨fun q hq => (B.away h q hq).symm, C.nd⟩, fun q hq q2 h2 => ?_, C.z⟩
  · rcases List.mem_cons.mp hq with e | hq
    · subst e
      exact ⟨upd_same, f, r⟩
    · exact C.m q hq
  · rcases List.mem_cons.mp hq with e | hq
    · subst e
      exact fun e => by
        have := B.l q2 h2
        rw [← e, h] at this
        cases this
    · exact C.ml q hq q2 h2
/-- a new thing, ours -/
theorem Hv.new (B : Hv noX H M L Z G) (h : G D = none) (r : rigid o = false := by rfl) (hn : noT o = true := by rfl) : Hv noX H ((D, o) :: M) L Z (upd G D o) := B.newG h (.inr (B.free h)) r hn
/-- a new thing that stays as it is -/
theorem Hv.newL (B : Hv X H M L Z G) (h : G D = none) (hn : noT o = true := by rfl) : Hv X H M ((D, o) :: L) Z (upd G D o) := by
  have C := B.next (same_new (o := o) h) (NoT.upd B.nt hn)
  refine ⟨C.old, C.nt, C.m, fun q hq => ?_, C.nd, fun q hq q2 h2 => ?_, C.z⟩
  · rcases List.mem_cons.mp hq with e | hq
    · subst e
      exact upd_same
    · exact C.l q hq
  · rcases List.mem_cons.mp h2 with e | h2
    · subst e
      exact B.away h q hq
    · exact C.ml q hq q2 h2
/-- what stands besides -/
theorem Hv.add (B : Hv X H M L Z G) (h : G a = some o) (n : ∀ q ∈ M, q.1 ≠ a) : Hv X H M ((a, o) :: L) Z G := ⟨B.old, B.nt, B.m, fun q hq => (List.mem_cons.mp hq).elim (fun e => by rw [e]; exact h) (B.l q), B.nd, fun q hq q2 h2 => (List.mem_cons.mp h2).elim (fun e => by rw [e]; exact n q hq) (B.ml q hq q2), B.z⟩
/-- what a call has made: at D, free ahead of it -/
theorem Hv.got (B : Hv X H M L Z G) (s : Same G G') (n : NoT G') (f : G D = none) (h : G' D = some o) : Hv X H M ((D, o) :: L) Z G' := (B.next s n).add h (B.away f)
/-- rigid things -/
theorem Hv.rig (B : Hv X H M L Z G) (h : Rig P G) : Hv X H M L (P :: Z) G := ⟨B.old, B.nt, B.m, B.l, B.nd, B.ml, fun Q hQ => (List.mem_cons.mp hQ).elim (fun e => by rw [e]; exact h) (B.z Q)⟩
/-- ours has changed -/
theorem Hv.but (B : Hv X H ((p, o) :: M) L Z G) (b : But p G G') (n : NoT G') (h : G' p = some u) (r : rigid u = false := by rfl) : Hv X H ((p, u) :: M) L Z G' := by
  obtain ⟨h1, h2, h3⟩ := B.m _ List.mem_cons_self
  obtain ⟨n1, n2⟩ := List.pairwise_cons.mp B.nd
  refine ⟨fun c w hc e => ?_, n, fun q hq => ?_, fun q hq => b _ _ (fun e => B.ml _ List.mem_cons_self q hq e.symm) (B.l q hq), List.pairwise_cons.mpr ⟨fun q hq => n1 q hq, n2⟩, fun q hq q2 k2 => ?_, fun P hP G2 k => B.z P hP G2 (Keeps.trans (fun c w rw hc => ?_) k)⟩
  · by_cases e2 : c = p
    · subst e2
      exact (h2.elim hc fun z => by rw [z] at e; cases e).elim
    · exact b c w e2 (B.old c w hc e)
  · rcases List.mem_cons.mp hq with e | hq
    · subst e
      exact ⟨h, h2, r⟩
    · obtain ⟨k1, k2⟩ := B.m q (List.mem_cons_of_mem _ hq)
      exact ⟨b _ _ (fun e => n1 q hq e.symm) k1, k2⟩
  · rcases List.mem_cons.mp hq with e | hq
    · subst e
      exact B.ml _ List.mem_cons_self q2 k2
    · exact B.ml _ (List.mem_cons_of_mem _ hq) q2 k2
  · refine b c w (fun e => ?_) hc
    subst e
    have : some o = some w := h1.symm.trans hc
    cases this
    have h3' : rigid o = false := h3
    rw [h3'] at rw
    cases rw
theorem Hv.put (B : Hv X H ((x, o) :: M) L Z G) (r : rigid u = false := by rfl) (hn : noT u = true := by rfl) : Hv X H ((x, u) :: M) L Z (upd G x u) := B.but (fun b w n e => by rw [upd_ne n]; exact e) (NoT.upd B.nt hn) upd_same r
theorem Hv.perm {M' : List (Addr × HO)} (B : Hv X H M L Z G) (h : ∀ q ∈ M', q ∈ M) (n : M'.Pairwise fun q r => q.1 ≠ r.1) : Hv X H M' L Z G := ⟨B.old, B.nt, fun q hq => B.m q (h q hq), B.l, n, fun q hq => B.ml q (h q hq), B.z⟩
theorem Hv.drop {q : Addr × HO} (B : Hv X H (q :: M) L Z G) : Hv X H M L Z G := B.perm (fun k hk => List.mem_cons_of_mem _ hk) (List.pairwise_cons.mp B.nd).2
theorem sub_nil {α : Type _} {L : List α} : ∀ q ∈ ([] : List α), q ∈ L := fun _ h => absurd h List.not_mem_nil
theorem sub_cons {α : Type _} {a : α} {L L' : List α} (h : a ∈ L) (k : ∀ q ∈ L', q ∈ L) : ∀ q ∈ a :: L', q ∈ L := fun q hq => (List.mem_cons.mp hq).elim (fun e => by rw [e]; exact h) (k q)
theorem Hv.sub {L' : List (Addr × HO)} {Z' : List (Hp → Prop)} (B : Hv X H M L Z G) (h : ∀ q ∈ L', q ∈ L) (k : ∀ q ∈ Z', q ∈ Z) : Hv X H M L' Z' G := ⟨B.old, B.nt, B.m, fun q hq => B.l q (h q hq), B.nd, fun q hq r hr => B.ml q hq r (h r hr), fun P hP => B.z P (k P hP)⟩
/-- the heap by a letter -/
@[elab_as_elim] theorem Hv.gen {motive : Hp → Prop} (B : Hv X H M L Z G) (k : ∀ G', Hv X H M L Z G' → motive G') : motive G := k G B
end
/-- tuple(xs) -/
abbrev rTupOf (K : PySem.W.Frag) : List V → Hp → VK → Prop := fun xs H Q => ∃ p ys, xs = [.ref p] ∧ ((SqL K H p ys ∧ ∀ l, H l = none → Q (.ref l) (upd H l (.tup ys))) ∨ (SqT K H p ys ∧ Q (.ref p) H))
theorem call_tupN {X : Cx} : CallR X (.type "tuple") (rTupOf X.K) := call_tuple_of
section
variable {K : PySem.W.Frag} {H : Hp} {p : Addr} {ys : List V} {Q : VK}
theorem rd_tupL (h : SqL K H p ys) (q : ∀ l, H l = none → Q (.ref l) (upd H l (.tup ys))) : rTupOf K [.ref p] H Q := ⟨p, ys, rfl, .inl ⟨h, q⟩⟩
theorem rd_tupT (h : SqT K H p ys) (q : Q (.ref p) H) : rTupOf K [.ref p] H Q := ⟨p, ys, rfl, .inr ⟨h, q⟩⟩
end
end L2
namespace L2
open PySem PySem.Spec PyProof.Rows
/-! ### several clauses "except C as e" -/
abbrev TSX := Addr → Value → Option Addr → TS
/-- what the clauses wish, one behind the other -/
def wAsL (K : PySem.W.Frag) (i : Nat) (Wout : WX) (D : Ends) : List (Value × TSX) → WX
  | [] => Wout
  | (c, ts) :: r => wAs K c i ts (wAsL K i Wout D r) D
inductive Clauses (X : Cx) (n : Str) : List ExceptHandler → List (Value × TSX) → Prop
  | nil : Clauses X n [] []
  | cons {x : Str} {c : Value} {ts : TSX} {b₀ : Stmt} {su : List Stmt} {np pos' : Pos} {hds : List ExceptHandler} {l : List (Value × TSX)} (nc : Names X x c)
      (run : ∀ (a : Addr) (oe : Obj) (cls : Value) (d : Option Addr) (pn : List (Addr × Obj)), Zc cls d oe → (∃ vs, oe.data = .fields vs) → PSs (X.suite a ((a, oe) :: pn)) (b₀ :: su) (ts a cls d)) (r : Clauses X n hds l) :
      Clauses X n (.ExceptHandler (some (.Name x np)) (some n) (b₀ :: su) pos' :: hds) ((c, ts) :: l)
/-- an exception of the body, caught: it lies at a; sI is the state without it -/
structure Lies (X : Cx) (pins : List (Addr × Obj)) (σ : St) (H : Hp) (cls : Value) (d : Option Addr) (a : Addr) (B : Heap) (sI s : Shared) : Prop where
  inv0 : Inv X pins σ H sI
  gnd : ∀ b o, sI.heap.get? b = some o → b ∉ frs X.stack → B.get? b = some o
  up : sI.heap.UpToSlots s.heap
  fl : HandSPX.FlyingZ B X.stack a (Zc cls d) s.heap
  na : H a = none
  os : s.os = sI.os
  ag : AllBare s.gens
section
variable {X : Cx} {pins : List (Addr × Obj)} {σ : St} {H : Hp} {cls : Value} {d : Option Addr} {a : Addr} {B : Heap} {sI s : Shared} {D : Ends} {Wout : WX} {i : Nat} {n : Str}
theorem Lies.inv (L : Lies X pins σ H cls d a B sI s) : Inv X pins σ H s := L.inv0.landed L.gnd L.fl.1 L.up L.os L.ag
theorem Lies.off (L : Lies X pins σ H cls d a B sI s) : a ∉ frs X.stack := fun m => by
  obtain ⟨oe, vs, e1, _, e2⟩ := L.fl.there
  obtain ⟨_, o2, e3, bad⟩ := L.fl.2.2.1.mem m
  cases e1.symm.trans e3
  exact bad _ e2
theorem Lies.suit (L : Lies X pins σ H cls d a B sI s) (hs : X.stack = X.env :: X.outer) (hf : X.env.frame = some X.env.locals) :
    ∃ oe, s.heap.get? a = some oe ∧ Zc cls d oe ∧ (∃ vs, oe.data = .fields vs) ∧ Inv (X.suite a ((a, oe) :: (X.pn ++ pins))) [] σ H s := by
  obtain ⟨oe, vs, e1, z, e2⟩ := L.fl.there
  have off := L.off
  rw [hs] at off
  exact ⟨oe, e1, z, ⟨vs, e2⟩, L.inv.suite e1 e2 L.na (fun e => off (List.mem_filterMap.mpr ⟨X.env, List.mem_cons_self, by rw [hf, e]⟩)) fun m =>
    let ⟨en, h1, h2⟩ := List.mem_filterMap.mp m
    off (List.mem_filterMap.mpr ⟨en, List.mem_cons_of_mem _ h1, h2⟩)⟩
theorem Lies.again (L : Lies X pins σ H cls d a B sI s) {h : Heap} (f : HandSPX.FlyingZ B X.stack a (Zc cls d) h) (u : s.heap.UpToSlots h) : Lies X pins σ H cls d a B sI { s with heap := h } :=
  ⟨L.inv0, L.gnd, L.up.trans u, f, L.na, L.os, L.ag⟩
/-- no clause is left -/
theorem Lies.rest (L : Lies X pins σ H cls d a B sI s) (hf : X.env.frame = some X.env.locals) (tk : Takes X Wout) (hw : Wout cls d σ H) : wpAny (model X.prog X.w) X.A (handleBy (.ref a) X.env []) (SP X pins D) X.xe s := by
  have fly : wpAny (model X.prog X.w) X.A (setFlight (.ref a) X.env.frame) (fun _ t => wpAny (model X.prog X.w) X.A (throw (.ref a) : Sem Flow) (SP X pins D) X.xe t) X.xe s := by
    rw [hf]
    exact HandSPX.setFlight_upZ L.fl fun h held u => wpAny_throw (tk _ _ ⟨a, B, sI, pins, σ, H, cls, d, rfl, L.inv0, L.gnd, L.up.trans u, .inr (.inr held), L.na, L.os, L.ag, hw⟩)
  refine wpAny_handleBy_nil ?_
  obtain ⟨_, _, _, oe, vs, T, _, _, e1, _, e2, e3, _⟩ := id L.fl
  unfold PySem.passOn
  refine wpAny_bind (wpAny_field e1 e2 e3 ?_)
  rw [if_neg (show ¬ ((Value.ref T == Value.none) = true) by simp)]
  first
    | exact wpAny_bind (wpAny_pure (wpAny_bind fly))
    | exact wpAny_bind fly
theorem Lies.handle (hs : X.stack = X.env :: X.outer) (hf : X.env.frame = some X.env.locals) (hN : X.N.Nodup) (hi : X.N[i]? = some n) (hln : X.env.kindOf n = some .local) (tk : Takes X Wout) {hds : List ExceptHandler} {l : List (Value × TSX)} (C : Clauses X n hds l) :
    ∀ {s : Shared}, Lies X pins σ H cls d a B sI s → wAsL X.K i Wout D l cls d σ H → wpAny (model X.prog X.w) X.A (handleBy (.ref a) X.env hds) (SP X pins D) X.xe s := by
  induction C with
  | nil => exact fun L w => L.rest hf tk w
  | @cons x c ts b₀ su np pos' hds l nc run r ih =>
    rintro s L ⟨b, hb, yes, no⟩
    obtain ⟨oe, e1, z, _, J⟩ := L.suit hs hf
    refine wpAny_handleBy_cons (codeAny_handlers_test ?_) (by intro q; cases q)
    have looks : PySem.W.Looks (model X.prog X.w) s.heap (typeOf (.ref a)) cls := fun _ _ _ _ k q => wpAny_typeOf_ref (k _ _ e1) (by rw [z.1]; exact q)
    have meets := PySem.W.exm_one (M := model X.prog X.w) L.inv.kIn looks hb
    have name : ∀ {Q E : Value → Shared → Prop}, Q c s → wpAny (model X.prog X.w) (X.A.mark (some (.ref a))) (eval (.Name x np) X.env) Q E s := by
      intro Q E q
      obtain ⟨g, nd, m | ⟨m, v, nn⟩⟩ := nc
      · exact ld_glob (X := X.suite a ((a, oe) :: (X.pn ++ pins))) J g m q nd
      · exact ld_blt (X := X.suite a ((a, oe) :: (X.pn ++ pins))) J g m v q nn nd
    refine name (meets.here ?_)
    cases b with
    | false => exact ih L (no rfl)
    | true =>
      refine codeAny_handlers_suite_as ?_
      refine HandSPX.lands_againZ L.fl fun h f u => ?_
      have L1 := L.again f u
      obtain ⟨oe, e1, z, hd, J⟩ := L1.suit hs hf
      refine store_ok (X := X.suite a ((a, oe) :: (X.pn ++ pins))) (v := .ref a) J hN hi (.inl hln) rfl (fun s5 J5 => ?_) (.inr hln)
      refine wpAny_mono ((run a oe cls d (X.pn ++ pins) z hd).run [] s5 _ H _ J5 (yes rfl a L.na)) (fun fw t ht => ?_) (fun _ _ bad => False.elim bad)
      have gone : ∀ {τ : St} {G : Hp} {P : Shared → Prop}, Inv (X.suite a ((a, oe) :: (X.pn ++ pins))) [] τ G t → (∀ t', Inv X pins (τ.set i none) G t' → P t') → wpAny (model X.prog X.w) X.A (do bindName X.env n .none; unbindBehindTheSuite X.env n pos') (fun _ t' => P t') X.xe t :=
        fun J6 q => gone_ok (J6.unsuite L.inv.ok) hN hi hln q
      cases fw with
      | next => exact ht.elim fun _ h => h.elim fun _ h => gone h.1 fun _ J7 => ⟨_, _, J7, h.2⟩
      | brk => exact ht.elim fun _ h => h.elim fun _ h => gone h.1 fun _ J7 => ⟨_, _, J7, h.2⟩
      | cont => exact ht.elim fun _ h => h.elim fun _ h => gone h.1 fun _ J7 => ⟨_, _, J7, h.2⟩
      | ret u => exact ht.elim fun _ h => h.elim fun _ h => h.elim fun _ h => gone h.1 fun _ J7 => ⟨_, _, _, J7, h.2.1, h.2.2⟩
end
section
variable {X : Cx} {n : Str} {i : Nat} {body : List Stmt} {h₀ : ExceptHandler} {hds : List ExceptHandler} {l : List (Value × TSX)} {pos : Pos} {tb : WX → TS} {Wout : WX}
theorem ps_try_asL (hs : X.stack = X.env :: X.outer) (hf : X.env.frame = some X.env.locals) (hN : X.N.Nodup) (hi : X.N[i]? = some n) (hln : X.env.kindOf n = some .local) (tk : Takes X Wout)
    (hb : ∀ (W : WX) (pn : List (Addr × Obj)) (xe : Value → Shared → Prop), Takes (X.tr pn xe) W → PassesOwn (model X.prog X.w) X.A X.env xe → PSs (X.tr pn xe) body (tb W)) (hh : Clauses X n (h₀ :: hds) l) :
    PS X (.Try body (h₀ :: hds) [] [] pos) (fun D σ H => tb (wAsL X.K i Wout D l) D σ H) := by
  refine ⟨fun pins s σ H D I h => wpAny_Try_except ?_⟩
  have ok := I.ok
  refine wpAny_mono ((hb (wAsL X.K i Wout D l) (X.pn ++ pins) (fun e t => wpAny (model X.prog X.w) X.A (noteFrame e X.env) (fun _ t2 => wpAny (model X.prog X.w) X.A (setFlight e none) (fun _ t3 =>
    wpAny (model X.prog X.w) X.A (handleBy e X.env (h₀ :: hds)) (SP X pins D) X.xe t3) X.xe t2) X.xe t) (fun u t xx => ?_) PassesOwn.looking).run [] s σ H D (I.toTry _) h) (fun f t ht => ?_) (fun _ _ he => he)
  · obtain ⟨a, B, sI, _, τ, G, cls, d, rfl, J, gnd, up, sky, na, os, ag, w⟩ := xx
    have sky' : Sky B (X.env :: X.outer) a (Zc cls d) X.env.locals t.heap := hs ▸ sky
    refine Sky.land (A := X.A) Zc.steady (I.ok.frames.trans (by rw [hs])) hf sky' fun h fl u => ?_
    have fl' : HandSPX.FlyingZ B X.stack a (Zc cls d) h := hs.symm ▸ fl
    exact Lies.handle hs hf hN hi hln tk hh (s := { t with heap := h }) ⟨J.ofTry ok, gnd, up.trans u, fl', na, os, ag⟩ w
  · cases f with
    | next => exact ht.elim fun _ h => h.elim fun _ h => wpAny_execs_nil ⟨_, _, h.1.ofTry ok, h.2⟩
    | brk => exact ht.elim fun _ h => h.elim fun _ h => ⟨_, _, h.1.ofTry ok, h.2⟩
    | cont => exact ht.elim fun _ h => h.elim fun _ h => ⟨_, _, h.1.ofTry ok, h.2⟩
    | ret u => exact ht.elim fun _ h => h.elim fun _ h => h.elim fun _ h => ⟨_, _, _, h.1.ofTry ok, h.2.1, h.2.2⟩
end
/-! readings -/
theorem exm_other {K : PySem.W.Frag} {S C : Addr} (h1 : PySem.W.subIn K (.ref C) (.type "BaseException") = some true) (h2 : PySem.W.isClsIn K C = true) (h3 : PySem.W.typeIn K (.ref C) = some (.type "type")) (h4 : PySem.W.subIn K (.ref S) (.ref C) = some false) :
    PySem.W.exmOne K (.ref S) (.ref C) = some false := by
  have e1 : (PySem.W.subIn K (.ref C) (.type "BaseException") == some true) = true := by rw [h1] <;> rfl
  have e2 : ((PySem.W.clsIn K C).isSome && PySem.W.typeIn K (.ref C) == some (.type "type")) = true := by
    rw [show (PySem.W.clsIn K C).isSome = true from h2, h3] <;> rfl
  unfold PySem.W.exmOne
  rw [if_pos e1]
  exact (if_pos e2).trans h4
section
variable {σ : St} {H : Hp} {K : PySem.W.Frag} {nx bk ct : St → Hp → Prop} {rt : VK}
theorem rd_wasL {c cls : Value} {i : Nat} {ts : TSX} {Wout : WX} {r : List (Value × TSX)} {d : Option Addr} (hx : PySem.W.exmOne K cls c = some true)
    (q : ∀ a, H a = none → ts a cls d ⟨fun σ' H' => nx (σ'.set i none) H', rt, fun σ' H' => bk (σ'.set i none) H', fun σ' H' => ct (σ'.set i none) H'⟩ (σ.set i (some (.ref a))) H) : WE (wAsL K i Wout ⟨nx, rt, bk, ct⟩ ((c, ts) :: r)) σ cls d H :=
  ⟨true, hx, fun _ a h => q a h, fun h => nomatch h⟩
theorem rd_wasN {c cls : Value} {i : Nat} {ts : TSX} {Wout : WX} {r : List (Value × TSX)} {D : Ends} {d : Option Addr} (hx : PySem.W.exmOne K cls c = some false) (q : WE (wAsL K i Wout D r) σ cls d H) : WE (wAsL K i Wout D ((c, ts) :: r)) σ cls d H :=
  ⟨false, hx, fun h => (Bool.false_ne_true h).elim, fun _ => q⟩
end
end L2
namespace L2
open PySem PySem.Spec PyProof.Rows
/-! ### classmethods and own operators within a try -/
section
variable {X : Cx} {pins : List (Addr × Obj)} {σ : St} {H : Hp} {s : Shared} {k : Nat} {f C : Addr} {fd : FuncData} {ps : List PySem.Str} {sp : Sp} {x m : PySem.Str} {p pos apos : Pos} {e o : Expr} {es : List Expr} {ta tb : TE} {t : TA} {W : WX}
theorem run_fnRS {f : Addr} {Q : VK} {E : XK} {us : List Value} {vs : List V} (F : FnR X.prog X.w X.K X.mg X.base (L2.CX X.prog X.w) k f sp) (hr : Room k X.A) (hx : PassesAt (L2.CX X.prog X.w) X σ E) (I : Inv X pins σ H s) (r : Vals vs us) (h : sp vs H Q E) :
    codeAny (model X.prog X.w) X.A (.call (.ref f) ⟨us, []⟩) (fun r s' => match r with | .ok (.ret v) => EP X pins σ Q v s' | .ok _ => False | .error e => X.xe e s') s := by
  refine codeAny_mono (F X.A X.stack s H us vs Q E hr I.env0 r h) fun r s' hq => ?_
  cases r with
  | error e => exact hx pins H s e s' I hq
  | ok fl =>
    cases fl with
    | ret u => exact I.after hq
    | next => exact False.elim hq
    | brk => exact False.elim hq
    | cont => exact False.elim hq
theorem run_cmS {q g : Addr} {Q : VK} {E : XK} {us : List Value} {vs : List V} (F : FnR X.prog X.w X.K X.mg X.base (L2.CX X.prog X.w) k g sp) (hr : Room k X.A) (hx : PassesAt (L2.CX X.prog X.w) X σ E) (I : Inv X ((q, PySem.W.methodObj (.ref g) (.ref C)) :: pins) σ H s)
    (r : Vals vs us) (h : sp (.ref C :: vs) H Q E) : wpAny (model X.prog X.w) X.A (call (.ref q) us) (EP X pins σ Q) X.xe s := by
  have z : wpAny (model X.prog X.w) X.A (call (.ref q) us) (EP X ((q, PySem.W.methodObj (.ref g) (.ref C)) :: pins) σ Q) X.xe s :=
    wpAny_call (PySem.W.method_call (ClX.pin_at I) (run_fnRS (us := .ref C :: us) (vs := .ref C :: vs) F hr hx I (.cons rfl r) h))
  exact thn z fun _ _ y => ClX.unpinE y
def tCMethT (C : Addr) (sp : Sp) (E : St → XK) (ta : TE) (t : TA) : TE := fun σ H Q => ta σ H fun x H1 => x = .ref C ∧ t σ H1 fun vs H2 => sp (.ref C :: vs) H2 Q (E σ)
theorem pe_cmS {pl : Sem Bool} (D : CMDef X.prog X.w X.K X.mg X.base k C m sp) (he : PE X o ta) (hr : Room k X.A) (tk : Takes X W) (ha : PA X (e :: es) t)
    (hst : starEach (e :: es) X.env = (false, eval e X.env) :: starEach es X.env := by rfl) (hpl : (backTo pos (starEach es X.env)).any (·.1) = false := by rfl)
    (ht : eval (.Call (.Attribute o m apos) (e :: es) [] pos) X.env = (do
      let self ← eval o X.env
      standAt apos.atName
      let (g, ahead) ← holding [self] (getMethod self m pl)
      callWith pos g ahead (backTo pos (starEach (e :: es) X.env)) (backToKw pos (keywordEach [] X.env))) := by rfl) :
    PE X (.Call (.Attribute o m apos) (e :: es) [] pos) (tCMethT C sp (WE W) ta t) := by
  obtain ⟨mc, p, g, r, c, F⟩ := D.ex
  refine ⟨fun pins s σ H Q I h => ?_⟩
  refine PySem.W.methodCall_KW (pl := pl) (thn (he.run pins s σ H _ I h) fun u s1 ⟨x, H1, I1, rx, ex, q⟩ => ?_) ht
  subst ex
  obtain rfl : u = Value.ref C := rx
  refine ClX.getmethcm_ok I1 r c fun s2 I2 => ?_
  refine ClX.callwith_cm I2 (ClX.base_none I1 (Nat.le_refl _)) c.fi (thn (ha.run pos _ s2 σ H1 _ I2 q) fun us s3 ⟨vs, H2, I3, rv, q2⟩ => ⟨⟨ClX.pin_at I3, I3.kIn⟩, ?_⟩) hst hpl
  exact run_cmS F hr (passAt tk σ) I3 rv q2
instance st_cmT {σ : St} {H : Hp} {Q : VK} {E : St → XK} : Stp (tCMethT C sp E ta t σ H Q) (ta σ H fun x H1 => x = .ref C ∧ t σ H1 fun vs H2 => sp (.ref C :: vs) H2 Q (E σ)) := ⟨fun h => h⟩
/-- a op b, two own instances, within a try -/
def tOpT (C : Addr) (sp : Sp) (E : St → XK) (ta tb : TE) : TE := fun σ H Q => ta σ H fun x H1 => tb σ H1 fun y H2 => rBinO C sp (E σ) x y H2 Q
instance st_opT {σ : St} {H : Hp} {Q : VK} {E : St → XK} : Stp (tOpT C sp E ta tb σ H Q) (ta σ H fun x H1 => tb σ H1 fun y H2 => rBinO C sp (E σ) x y H2 Q) := ⟨fun h => h⟩
end
end L2
namespace L2
open PySem PySem.Spec PyProof.Rows
/-! ### comprehensions over a tuple of ints -/
section
variable {σ : St} {H : Hp} {Q : VK} {K : PySem.W.Frag} {te : TE} {tt : TT}
theorem rd_lcIT {a : Addr} {ns : List Int} {g : TG} {vs : List Nat} (p : Int → Bool) (f : Int → V) (hS : SqT K H a (ns.map V.int))
    (hs : ∀ D l x r, H D = none → ns = l ++ x :: r → g (.int x) (wipe σ vs) (upd H D (.lst (resI p f l))) fun σ2 H2 => wipe σ2 vs = wipe σ vs ∧ tt σ2 H2 fun b H3 => if b = true then te σ2 H3 (LcPut H D (resI p f l) (resI p f (l ++ [x]))) else LcSkip H D (resI p f (l ++ [x])) H3)
    (q : ∀ D, H D = none → Q (.ref D) (upd H D (.lst ((ns.filter p).map f)))) : lcB (Itt K a) g tt te vs σ Q H := by
  intro D hD
  refine ⟨fun i m H' => m = ns.length - i ∧ i ≤ ns.length ∧ H' = upd H D (.lst (resI p f (ns.take i))), ⟨ns.length, by simp, Nat.zero_le _, rfl⟩, ?_⟩
  rintro i m H' ⟨rfl, hi, rfl⟩
  have hS' : SqT K (upd H D (.lst (resI p f (ns.take i)))) a (ns.map V.int) := (same_new hD).seqT hS
  by_cases hlt : i < ns.length
  · have hx : (ns.map V.int)[i]? = some (.int ns[i]) := by simp [hlt]
    have er : ns.take (i + 1) = ns.take i ++ [ns[i]] := by rw [List.take_add_one, List.getElem?_eq_getElem hlt]; rfl
    refine .inr ⟨⟨_, _, hS', hx⟩, fun H' => H' = upd H D (.lst (resI p f (ns.take (i + 1)))), fun H' p' => ⟨ns.length - (i + 1), by omega, rfl, hlt, p'⟩, fun x H' y => ?_⟩
    obtain ⟨e, y⟩ := y
    subst e
    have ex : x = .int ns[i] := Option.some.inj ((y _ hS').symm.trans hx)
    subst ex
    have z := hs D (ns.take i) ns[i] (ns.drop (i + 1)) hD (by rw [List.getElem_cons_drop, List.take_append_drop])
    rw [← er] at z
    exact z
  · have e : i = ns.length := by omega
    subst e
    rw [List.take_length]
    exact .inl ⟨⟨_, (same_new hD).seqT hS, by rw [List.length_map]; exact Nat.le_refl _⟩, q D hD⟩
theorem rd_extend {l b : Addr} {xs zs : List V} (h : H l = some (.lst xs)) (k : H b = some (.lst zs)) (z : xs.length + zs.length ≤ sizeLine) (q : Q .non (upd H l (.lst (xs ++ zs)))) : rExtend (.ref l) [.ref b] H Q := ⟨l, b, xs, zs, rfl, rfl, h, k, z, q⟩
/-- sep.join(words) -/
abbrev rJoin (K : PySem.W.Frag) : V → List V → Hp → VK → Prop := fun x xs H Q => ∃ a p, ∃ ys : List Str, x = .str a ∧ xs = [.ref p] ∧ (SqL K H p (ys.map V.str) ∨ SqT K H p (ys.map V.str)) ∧ (ys.map (·.length)).sum + ys.length * a.length ≤ 16777216 ∧ Q (.str (Txt.join a ys)) H
theorem rd_join {a : Str} {p : Addr} {ys : List Str} (h : SqL K H p (ys.map V.str)) (z : (ys.map (·.length)).sum + ys.length * a.length ≤ 16777216) (q : Q (.str (Txt.join a ys)) H) : rJoin K (.str a) [.ref p] H Q := ⟨a, p, ys, rfl, rfl, .inl h, z, q⟩
instance st_m1 {r : V → List V → Hp → VK → Prop} {ta tb : TE} : Stp (tM1 r ta tb σ H Q) (ta σ H fun x H1 => (∃ a, x = .str a) ∧ tb σ H1 fun y H2 => r x [y] H2 Q) := ⟨fun h => h⟩
/-! ### ranges with a step -/
def rRng3 (S : It → Hp → Prop) : List V → Hp → Prop := fun vs H1 => ∃ (i j c : Int) (n : Nat), vs = [.int i, .int j, .int c] ∧ RgC i j c n ∧ S (Itc i c n) H1
instance st_iRng3 {ta : TA} {S : It → Hp → Prop} : Stp (iRng3 ta σ H S) (ta σ H (rRng3 S)) := ⟨fun h => h⟩
end
end L2
namespace L2
open PySem PySem.Spec PyProof.Rows
/-! ### texts -/
section
variable {K : PySem.W.Frag} {σ : St} {H : Hp} {Q : VK} {te : TE} {tt : TT}
/-- a comprehension over a text, sign by sign; each turn only makes new things -/
theorem rd_lcS {z : Str} {g : TG} {vs : List Nat} (P : Nat → List V → Prop) (nt : NoT H) (h0 : P 0 [])
    (hs : ∀ D i ys c H', z.cps.toList[i]? = some c → Same H H' → NoT H' → H D = none → H' D = some (.lst ys) → P i ys → g (.str ⟨#[c]⟩) (wipe σ vs) H' fun σ2 H2 => wipe σ2 vs = wipe σ vs ∧ tt σ2 H2 fun b H3 =>
      if b = true then te σ2 H3 (fun y H4 => ∃ acc, H4 D = some (.lst acc) ∧ acc.length < sizeLine ∧ ∃ ys, upd H4 D (.lst (acc ++ [y])) D = some (.lst ys) ∧ Same H (upd H4 D (.lst (acc ++ [y]))) ∧ NoT (upd H4 D (.lst (acc ++ [y]))) ∧ P (i + 1) ys)
      else ∃ ys, H3 D = some (.lst ys) ∧ Same H H3 ∧ NoT H3 ∧ P (i + 1) ys)
    (q : ∀ D ys H', H D = none → H' D = some (.lst ys) → Same H H' → NoT H' → P z.cps.size ys → Q (.ref D) H') : lcB (Its z) g tt te vs σ Q H := by
  intro D hD
  refine lc_it (walk_str (z := z)) (fun i G => ∃ ys, G D = some (.lst ys) ∧ Same H G ∧ NoT G ∧ P i ys) ⟨[], upd_same, same_new hD, NoT.upd nt rfl, h0⟩ (fun _ _ _ _ => trivial) ?_ fun G ⟨ys, h1, s, n, p⟩ => q D ys G hD h1 s n p
  rintro i x G G' hi ⟨ys, h1, s, n, p⟩ ⟨rfl, c, hc, rfl⟩
  exact hs D i ys c _ (by rw [← hc]; simp) s n hD h1 p
def rIStr (S : It → Hp → Prop) (v : V) (H : Hp) : Prop := ∃ x, v = .str x ∧ S (Its x) H
instance st_iStr {S : It → Hp → Prop} : Stp (iStr te σ H S) (te σ H (rIStr S)) := ⟨fun h => h⟩
instance st_iStr1 {S : It → Hp → Prop} {x : Str} : Stp (rIStr S (.str x) H) (S (Its x) H) := ⟨fun h => ⟨x, rfl, h⟩⟩
theorem rd_ixS {z : Str} {i : Int} {c : Nat} (h : z.length ≤ sizeLine) (ha : atI z.cps.toList i = some c) (q : Q (.str ⟨#[c]⟩) H) : rIxS (.str z) (.int i) H Q := ⟨z, i, c, rfl, rfl, h, ha, q⟩
/-- int(text) -/
abbrev rIntS : List V → Hp → VK → Prop := fun xs H Q => ∃ a n, xs = [.str a] ∧ PySem.intText? a = some n ∧ a.length ≤ 640 ∧ Q (.int n) H
theorem c_intS {X : Cx} : CallR X (.type "int") rIntS := call_int_str
theorem rd_intS {a : Str} {n : Int} (h : PySem.intText? a = some n) (l : a.length ≤ 640) (q : Q (.int n) H) : rIntS [.str a] H Q := ⟨a, n, rfl, h, l, q⟩
/-- sign in text -/
def rInSg : R2 := fun x y H Q => ∃ (c : Nat) (z : Str), x = .str ⟨#[c]⟩ ∧ y = .str z ∧ Q (.bl (decide (c ∈ z.cps.toList))) H
theorem op_inSg {X : Cx} : OpR X (compareOp .In) rInSg := op_in_sign
theorem rd_inSg {c : Nat} {z : Str} (q : Q (.bl (decide (c ∈ z.cps.toList))) H) : rInSg (.str ⟨#[c]⟩) (.str z) H Q := ⟨c, z, rfl, rfl, q⟩
instance st_inSg {c : Nat} {z : Str} : Stp (rInSg (.str ⟨#[c]⟩) (.str z) H Q) (Q (.bl (decide (c ∈ z.cps.toList))) H) := ⟨fun h => rd_inSg h⟩
end
end L2
namespace L2
open PySem PySem.Spec PyProof.Rows
/-! a text of one sign, some times over -/
def repS (z : Str) (n : Nat) : Str := ⟨(List.replicate n z.cps).foldl (· ++ ·) #[]⟩
theorem repS_list {z : Str} : ∀ n : Nat, (repS z n).cps.toList = (List.replicate n z.cps.toList).flatten := by
  have h : ∀ (n : Nat) (a : Array Nat), ((List.replicate n z.cps).foldl (· ++ ·) a).toList = a.toList ++ (List.replicate n z.cps.toList).flatten := fun n => by
    induction n with
    | zero => intro a; simp
    | succ n ih =>
      intro a
      rw [List.replicate_succ, List.foldl_cons, ih, List.replicate_succ, List.flatten_cons, Array.toList_append, List.append_assoc]
  intro n
  exact (h n #[]).trans (List.nil_append _)
theorem repS_len {z : Str} (n : Nat) : (repS z n).length = n * z.length := by
  have h := congrArg List.length (repS_list (z := z) n)
  have r : ∀ (n k : Nat), (List.replicate n k).sum = n * k := fun n k => by
    induction n with
    | zero => simp
    | succ n ih => rw [List.replicate_succ, List.sum_cons, ih, Nat.succ_mul]; omega
  rw [List.length_flatten, List.map_replicate, r] at h
  simpa [Str.length] using h
def rRepS : R2 := fun x y H Q => ∃ z n, x = .str z ∧ y = .int n ∧ 2 ≤ n ∧ n ≤ 100000 ∧ z.length = 1 ∧ Q (.str (repS z n.toNat)) H
theorem op_repS {X : Cx} : OpR X (binaryOp .Mult) rRepS := by
  intro pins s σ H x y v u Q I rx ry h
  obtain ⟨z, n, rfl, rfl, h1, h2, hz, q⟩ := h
  obtain ⟨t, rfl⟩ := rx
  obtain ⟨t', rfl⟩ := ry
  have e : (n == 1 || z.length == 0) = false := by
    rw [hz]
    simp
    omega
  refine P.mul_str ?_ (fun _ _ => ?_) (fun _ _ => ?_) ?_
  · rw [decide_eq_false (show ¬ n < -(2 ^ 63 : Int) by omega), decide_eq_false (show ¬ n ≥ 2 ^ 63 by omega)]
    rfl
  · rw [hz]
    have : 1 ≤ (2 ^ 63 - 1 : Int) / n := Int.le_ediv_of_mul_le (by omega) (by omega)
    omega
  · rw [hz, Nat.one_mul]
    exact decide_eq_false (by
      have : (100000 : Nat) ≤ sizeLine := by decide
      omega)
  · rw [if_neg (by omega), if_neg (by rw [e]; exact Bool.false_ne_true)]
    refine ⟨?_, .str _, H, I.tok _, ⟨_, rfl⟩, q⟩
    have l := repS_len (z := z) n.toNat
    rw [hz] at l
    have : (100000 : Nat) ≤ sizeLine := by decide
    show (repS z n.toNat).length ≤ sizeLine
    omega
theorem rd_repS {z : Str} {n : Int} {H : Hp} {Q : VK} (h1 : 2 ≤ n) (h2 : n ≤ 100000) (hz : z.length = 1) (q : Q (.str (repS z n.toNat)) H) : rRepS (.str z) (.int n) H Q := ⟨z, n, rfl, rfl, h1, h2, hz, q⟩
end L2
namespace My
open PySem PySem.Spec PyProof.Rows L2
/-! one step of a reading, by its head -/
local macro_rules | `(tactic| wtm_at "r") => `(tactic| first
  | (with_reducible refine rd_var rfl ?_)
  | (with_reducible refine Stp.mp ?_)
  | (with_reducible first
    | refine rd_I ?_ ?_
    | refine rd_augC rfl ?_
    | refine rd_augG rfl ?_
    | refine rd_r1 ?_ ?_ ?_
    | refine rd_r2 ?_ ?_
    | refine rd_pure ?_ ?_
    | refine rd_pureT ?_ ?_
    | refine rd_back (by assumption) ?_
    | fail)
  | fail)
/-! branch -/
local macro_rules | `(tactic| wtm_at "i") => `(tactic| (with_reducible first
  | refine rd_ite (fun _ => ?_) (fun _ => ?_)
  | refine rd_iteN (fun _ => ?_) (fun _ => ?_)
  | refine rd_iteb (fun _ => ?_) (fun _ => ?_)))
/-! the view of the heap (PreS): membership -/
local macro_rules | `(tactic| wtm_at "mem") => `(tactic| first
  | (with_reducible exact List.mem_cons_self)
  | ((with_reducible refine List.mem_cons_of_mem _ ?_); wtm_at "mem")
  | fail)
local macro_rules | `(tactic| wtm_at "vsub") => `(tactic| first
  | (with_reducible exact sub_nil)
  | ((with_reducible refine sub_cons ?h1 ?h2); (case h1 => wtm_at "mem"); (case h2 => wtm_at "vsub"))
  | fail)
/-! where something stands in the heap; two places differ -/
local macro_rules | `(tactic| wtm_at "ne") => `(tactic| with_reducible first
  | assumption
  | exact Ne.symm (by assumption)
  | exact ne_of_none (by assumption) (by assumption)
  | exact Ne.symm (ne_of_none (by assumption) (by assumption))
  | fail)
local macro_rules | `(tactic| wtm_at "h") => `(tactic| first
  | with_reducible assumption
  | with_reducible exact upd_same
  | ((with_reducible rw [upd_upd]); wtm_at "h")
  | ((with_reducible refine upd_at ?h1 ?h2); (case h1 => wtm_at "h"); (case h2 => intro hh; first | with_reducible exact ne_of_none hh (by assumption) | wtm_at "ne" | fail))
  | (with_reducible exact Hv.mAt (by assumption) (by wtm_at "mem"))
  | (with_reducible exact Hv.lAt (by assumption) (by wtm_at "mem"))
  | (with_reducible exact Hv.oAt (by assumption) (by assumption))
  | (with_reducible exact Hv.oAtX (by assumption) (by assumption) (by wtm_at "ne"))
  | fail)
/-! what was tracked stands -/
local macro_rules | `(tactic| wtm_at "sm") => `(tactic| first
  | with_reducible assumption
  | (with_reducible exact Same.refl _)
  | ((with_reducible refine same_upd3 ?_ (by with_reducible assumption)); wtm_at "sm")
  | ((with_reducible refine same_upd2 ?_ (by with_reducible assumption)); wtm_at "sm")
  | (refine same_upd2 ?_ (by first | with_reducible assumption | (refine Same.free ?_ (by with_reducible assumption); wtm_at "sm") | fail); wtm_at "sm")
  | (refine Same.trans ?_ (by with_reducible assumption); wtm_at "sm")
  | (refine Same.trans (by with_reducible assumption) ?_; wtm_at "sm")
  | (with_reducible exact Hv.same (by assumption))
  | fail)
local macro_rules | `(tactic| wtm_at "q") => `(tactic| first
  | with_reducible assumption
  | ((with_reducible refine SqL.of ?h1); (case h1 => wtm_at "h"))
  | ((with_reducible refine SqT.of ?h1); (case h1 => wtm_at "h"))
  | ((with_reducible refine Same.seq ?_ (by assumption)); wtm_at "sm")
  | ((with_reducible refine Same.seqT ?_ (by assumption)); wtm_at "sm")
  | ((with_reducible refine Same.lst ?_ (by assumption)); wtm_at "sm")
  | assumption
  | fail)
/-! data, read off the heap -/
local macro_rules | `(tactic| wtm_at "dp") => `(tactic| first
  | with_reducible assumption
  | exact Dp.int _
  | exact Dp.bl _
  | exact Dp.str _
  | exact Dp.non
  | exact DpAll.nil
  | (with_reducible exact dpAll_ints _)
  | (with_reducible exact dpAll_bls _)
  | ((with_reducible refine DpAll.cons (d := ?d) (ds := ?ds) ?h1 ?h2); (case h1 => wtm_at "dp"); (case h2 => wtm_at "dp"))
  | ((with_reducible refine Dp.lst (xs := ?xs) (ds := ?ds) ?h1 ?h2); (case h1 => wtm_at "q"); (case h2 => wtm_at "dp"))
  | ((with_reducible refine Dp.tup (xs := ?xs) (ds := ?ds) ?h1 ?h2); (case h1 => wtm_at "q"); (case h2 => wtm_at "dp"))
  | ((with_reducible refine Dp.same ?_ (by assumption)); wtm_at "sm")
  | fail)
/-! no dict with tuple keys -/
local macro_rules | `(tactic| wtm_at "nt") => `(tactic| first
  | with_reducible assumption
  | ((with_reducible refine NoT.upd ?_ rfl); wtm_at "nt")
  | (with_reducible exact Hv.nt (by assumption))
  | fail)
/-! what is asked on the side -/
local macro_rules | `(tactic| wtm_at "s") => `(tactic| first
  | ((with_reducible show NoT _); wtm_at "nt")
  | ((with_reducible show (_ : Int) < _); omega)
  | ((with_reducible show CMulB _ _); assumption)
  | ((with_reducible show CMulB _ _); exact Or.inl (Or.inl ⟨by omega, by omega⟩))
  | ((with_reducible show CMulB _ _); exact Or.inl (Or.inr ⟨by omega, by omega⟩))
  | ((with_reducible show CMulB _ _); exact CMulB.wide ⟨by omega, by omega⟩ ⟨by omega, by omega⟩)
  | ((with_reducible show CDivB _ _); first | exact .inl ⟨by omega, by omega⟩ | exact .inr ⟨by omega, (show Bd 9000 _ by wtm_at "bd").h⟩)
  | ((with_reducible refine rd_powN ?h1 ?h2 ?h3 ?_); (case h1 => rfl); (case h2 => decide); (case h3 => first | decide | omega))
  | ((with_reducible refine rd_setL (xs := ?xs) (j := ?j) ?h1 ?h2 ?_); (case h1 => wtm_at "h"); (case h2 => rfl))
  | ((with_reducible refine rd_ixL (xs := ?xs) (v := ?v) ?h1 ?h2 ?_); (case h1 => wtm_at "q"); (case h2 => rfl))
  | ((with_reducible refine rd_ixT (xs := ?xs) (v := ?v) ?h1 ?h2 ?_); (case h1 => wtm_at "q"); (case h2 => rfl))
  | ((with_reducible show -2 ^ 62 ≤ (_ : Int)); omega)
  | ((with_reducible show (_ : Int) ≤ _); omega)
  | ((with_reducible show (_ : Int) ≤ _ ∧ _); exact ⟨by omega, by omega, by omega, by omega⟩)
  | ((with_reducible refine rd_iL1 (xs := ?xs) ?h1 ?_); (case h1 => wtm_at "q"))
  | ((with_reducible refine rd_iT1 (xs := ?xs) ?h1 ?_); (case h1 => wtm_at "q"))
  | ((with_reducible refine rd_eqD (d := ?d) (e := ?e) ?h1 ?h2 ?h3 ?h4 ?_); (case h1 => wtm_at "dp"); (case h2 => wtm_at "dp"); (case h3 => rfl); (case h4 => rfl))
  | ((with_reducible refine rd_neD (d := ?d) (e := ?e) ?h1 ?h2 ?h3 ?h4 ?_); (case h1 => wtm_at "dp"); (case h2 => wtm_at "dp"); (case h3 => rfl); (case h4 => rfl))
  | ((with_reducible refine rd_xfb (fs := ?fs) (v := ?v) ?h1 ?h2 ?_); (case h1 => wtm_at "h"); (case h2 => rfl))
  | ((with_reducible refine rd_append (xs := ?xs) ?h1 ?h2 ?_); (case h1 => wtm_at "h"); (case h2 => first | assumption | exact Nat.le_of_ble_eq_true rfl | (refine Nat.lt_of_le_of_lt (m := 1000000) ?_ (by decide); omega)))
  | ((with_reducible refine rd_lenL (ys := ?ys) ?h1 ?_); (case h1 => wtm_at "q"))
  | ((with_reducible refine rd_lenT (ys := ?ys) ?h1 ?_); (case h1 => wtm_at "q"))
  | ((with_reducible refine rd_new ?h1 ?_); (case h1 => exact Nat.le_of_ble_eq_true rfl); intro p hp)
  | ((with_reducible refine rd_tyL (xs := ?xs) ?h1 ?_); (case h1 => wtm_at "h"))
  | ((with_reducible refine rd_gtup (xs := ?xs) ?h1 ?h2 ?_); (case h1 => wtm_at "q"); (case h2 => rfl))
  | ((with_reducible refine rd_unl (xs := ?xs) ?h1 ?h2 ?_); (case h1 => wtm_at "q"); (case h2 => rfl))
  | ((with_reducible refine rd_slL (xs := ?xs) ?h1 ?_); (case h1 => wtm_at "q"); intro p hp)
  | ((with_reducible refine rd_cat (xs := ?xs) (zs := ?zs) ?h1 ?h2 ?h3 ?_); (case h1 => wtm_at "h"); (case h2 => wtm_at "h"); (case h3 => first | assumption | exact Nat.le_of_ble_eq_true rfl); intro p hp)
  | ((with_reducible refine rd_isiL (xs := ?xs) ?h1 ?_); (case h1 => wtm_at "h"))
  | ((with_reducible refine rd_isiT (xs := ?xs) ?h1 ?_); (case h1 => wtm_at "h"))
  | ((with_reducible refine rd_mk1 ?h1 ?h2 ?_); (case h1 => rfl); (case h2 => decide)))
local macro_rules | `(tactic| wtm_at "s") => `(tactic| first
  | ((with_reducible refine rd_neF ?h1 ?_); (case h1 => first | with_reducible rfl | assumption | fail))
  | ((with_reducible refine rd_eqT ?h1 ?_); (case h1 => first | with_reducible rfl | assumption | fail))
  | ((with_reducible refine rd_neT ?h1 ?_); (case h1 => first | assumption | exact non_int | exact non_ref | exact Bool.false_ne_true | exact Bool.false_ne_true.symm | fail))
  | ((with_reducible refine rd_eqF ?h1 ?_); (case h1 => first | assumption | exact non_int | exact non_ref | exact Bool.false_ne_true | exact Bool.false_ne_true.symm | fail))
  | fail)
local macro_rules | `(tactic| wtm_at "bd") => `(tactic| first
  | with_reducible assumption
  | exact Bd.mono (by with_reducible assumption) (by decide)
  | exact Bd.lit (by decide) (by decide)
  | ((with_reducible refine Bd.mulN ?_ ?_) <;> wtm_at "bd")
  | ((with_reducible refine Bd.addN ?h1 ?h2 ?h3); (case h1 => wtm_at "bd"); (case h2 => wtm_at "bd"); (case h3 => decide))
  | ((with_reducible refine Bd.subN ?h1 ?h2 ?h3); (case h1 => wtm_at "bd"); (case h2 => wtm_at "bd"); (case h3 => decide))
  | ((with_reducible refine Bd.neg ?h1); (case h1 => wtm_at "bd"))
  | fail)
local macro_rules | `(tactic| wtm_at "s") => `(tactic| first
  | ((with_reducible refine rd_fld1 (dx := ?dx) (fs := ?fs) (v := ?v) ?h1 ?h2 ?_); (case h1 => wtm_at "h"); (case h2 => rfl))
  | ((with_reducible refine rd_meth1 (dx := ?dx) (fs := ?fs) ?h1 ?h2 ?_); (case h1 => wtm_at "h"); (case h2 => rfl))
  | ((with_reducible refine rd_sfld1 (dx := ?dx) (fs := ?fs) ?h1 ?h2 ?_); (case h1 => wtm_at "h"); (case h2 => exact Nat.le_of_ble_eq_true rfl))
  | ((with_reducible refine rd_fmtI ?h1 ?_); (case h1 => exact Nat.lt_trans (txI_len (n := 1000) (by wtm_at "bd") (Nat.le_refl _)).2 (by decide)))
  | ((with_reducible refine rd_strI ?h1 ?_); (case h1 => exact Nat.lt_trans (txI_len (n := 1000) (by wtm_at "bd") (Nat.le_refl _)).2 (by decide)))
  | ((with_reducible refine rd_eqInts (ns := ?ns) (ms := ?ms) ?h1 ?h2 ?_); (case h1 => wtm_at "q"); (case h2 => wtm_at "q"))
  | ((with_reducible refine rd_neInts (ns := ?ns) (ms := ?ms) ?h1 ?h2 ?_); (case h1 => wtm_at "q"); (case h2 => wtm_at "q"))
  | ((with_reducible refine rd_listOfL (ys := ?ys) ?h1 ?_); (case h1 => wtm_at "q"); intro l hl)
  | ((with_reducible refine rd_revV (xs := ?xs) ?h1 ?_); (case h1 => wtm_at "q"); intro p hp)
  | ((with_reducible refine rd_iRev1 (xs := ?xs) ?h1 ?_); (case h1 => wtm_at "q"))
  | ((with_reducible refine rd_callO2 (dx := ?dx) (fs := ?fs) ?h1 ?_); (case h1 => wtm_at "h"))
  | ((with_reducible show CMulB _ _); refine CMulB.bd ?_ ?_ <;> wtm_at "bd")
  | fail)
local macro_rules | `(tactic| wtm_at "s") => `(tactic| first
  | ((with_reducible refine rd_dinF (ks := ?ks) ?h1 ?_); (case h1 => wtm_at "h"))
  | ((with_reducible refine rd_dnotinF (ks := ?ks) ?h1 ?_); (case h1 => wtm_at "h"))
  | ((with_reducible refine rd_listF (ks := ?ks) ?h1 ?_); (case h1 => wtm_at "h"); intro l hl)
  | ((with_reducible refine rd_sortedI (ns := ?ns) ?h1 ?_); (case h1 => wtm_at "q"))
  | fail)
local macro_rules | `(tactic| wtm_at "tp") => `(tactic| first
  | ((with_reducible refine rd_tupL (ys := ?ys) ?h1 ?_); (case h1 => wtm_at "q"); intro l hl)
  | ((with_reducible refine rd_tupT (ys := ?ys) ?h1 ?_); (case h1 => wtm_at "q"))
  | fail)
/-! a test that omega answers -/
local macro_rules | `(tactic| wtm_at "o") => `(tactic| first
  | ((with_reducible refine rd_neF ?h1 ?_); (case h1 => omega))
  | ((with_reducible refine rd_eqT ?h1 ?_); (case h1 => omega))
  | ((with_reducible refine rd_neT ?h1 ?_); (case h1 => omega))
  | ((with_reducible refine rd_eqF ?h1 ?_); (case h1 => omega))
  | fail)
/-! steps while there is one way -/
local macro_rules | `(tactic| wtm_at "rs") => `(tactic| repeat' (first | wtm_at "r" | wtm_at "s" | fail))
/-! all ways -/
local macro_rules | `(tactic| wtm_at "ra") => `(tactic| repeat' (first | wtm_at "r" | wtm_at "s" | wtm_at "i" | fail))
local macro_rules | `(tactic| wtm_at "ro") => `(tactic| repeat' (first | wtm_at "r" | wtm_at "s" | wtm_at "o" | fail))
local macro_rules | `(tactic| wtm_at "rao") => `(tactic| repeat' (first | wtm_at "r" | wtm_at "s" | wtm_at "o" | wtm_at "i" | fail))
/-! ## mathematics -/
/-! part m_gcd -/
theorem gcd_turn {x y : Int} (hx : 0 ≤ x) (hy : 0 < y) : Int.gcd y (x % y) = Int.gcd x y := by
  obtain ⟨m, rfl⟩ : ∃ m : Nat, x = m := ⟨x.toNat, by omega⟩
  obtain ⟨n, rfl⟩ : ∃ n : Nat, y = n := ⟨y.toNat, by omega⟩
  rw [← Int.natCast_emod, Int.gcd_natCast_natCast, Int.gcd_natCast_natCast, Nat.gcd_comm m n, Nat.gcd_rec n m, Nat.gcd_comm]
theorem gcd_abs (a b : Int) : Int.gcd (if a < 0 then -a else a) (if b < 0 then -b else b) = Int.gcd a b := by
  split <;> split <;> simp [Int.gcd_neg, Int.neg_gcd]
/-! part m_prime -/
namespace QR
def Pm (p : Int) : Prop := 2 ≤ p ∧ ∀ d : Int, 2 ≤ d → d < p → ¬ d ∣ p
theorem split_le {n d e : Int} (h2 : 2 ≤ d) (hdn : d < n) (he : n = d * e) : (d * d ≤ n ∨ e * e ≤ n) ∧ 2 ≤ e := by
  have e0 : 2 ≤ e := by
    rcases Int.lt_or_le e 2 with z | z
    · exfalso
      have : d * e ≤ d * 1 := Int.mul_le_mul_of_nonneg_left (by omega) (by omega)
      omega
    · exact z
  refine ⟨?_, e0⟩
  rcases Int.le_total d e with z | z
  · left
    have : d * d ≤ d * e := Int.mul_le_mul_of_nonneg_left z (by omega)
    omega
  · right
    have : e * e ≤ d * e := Int.mul_le_mul_of_nonneg_right z (by omega)
    omega
theorem pm_of_trial {n k : Int} (h2 : 2 ≤ n) (hk0 : 0 ≤ k) (hk : n < k * k) (h : ∀ d : Int, 2 ≤ d → d < k → ¬ d ∣ n) : Pm n := by
  refine ⟨h2, fun d hd hn hdv => ?_⟩
  obtain ⟨e, he⟩ := hdv
  have lt : ∀ x : Int, 0 ≤ x → x * x ≤ n → x < k := fun x hx hxx => by
    rcases Int.lt_or_le x k with z | z
    · exact z
    · exfalso
      have a : k * k ≤ x * k := Int.mul_le_mul_of_nonneg_right z hk0
      have b : x * k ≤ x * x := Int.mul_le_mul_of_nonneg_left z hx
      omega
  obtain ⟨a, b⟩ := split_le hd hn he
  rcases a with a | a
  · exact h d hd (lt d (by omega) a) ⟨e, he⟩
  · exact h e b (lt e (by omega) a) ⟨d, by rw [he, Int.mul_comm]⟩
theorem pm_of_odd_trial {n k : Int} (h3 : 3 ≤ n) (ho : n % 2 = 1) (hk0 : 0 ≤ k) (hk : n < k * k) (h : ∀ d : Int, 3 ≤ d → d % 2 = 1 → d < k → ¬ d ∣ n) : Pm n := by
  refine pm_of_trial (by omega) hk0 hk fun d hd hdk hdv => ?_
  have : d % 2 = 1 := by
    obtain ⟨e, he⟩ := hdv
    rcases Int.emod_two_eq d with z | z
    · exfalso
      rw [he, Int.mul_emod, z, Int.zero_mul] at ho
      simp at ho
    · exact z
  exact h d (by omega) this hdk hdv
theorem not_pm {n k : Int} (h2 : 2 ≤ k) (hk : k * k ≤ n) (hd : n % k = 0) : ¬ Pm n := fun hp => by
  have : k < k * k := by
    have : k * 2 ≤ k * k := Int.mul_le_mul_of_nonneg_left h2 (by omega)
    omega
  exact hp.2 k h2 (by omega) (Int.dvd_of_emod_eq_zero hd)
theorem no_dvd_step {n k : Int} (h : ∀ d : Int, 2 ≤ d → d < k → ¬ d ∣ n) (hd : n % k ≠ 0) : ∀ d : Int, 2 ≤ d → d < k + 1 → ¬ d ∣ n := fun d h2 hk z => by
  by_cases e : d = k
  · rw [e] at z
    exact hd (Int.emod_eq_zero_of_dvd z)
  · exact h d h2 (by omega) z
theorem no_dvd_step2 {n k : Int} (hk : k % 2 = 1) (h : ∀ d : Int, 3 ≤ d → d % 2 = 1 → d < k → ¬ d ∣ n) (hd : n % k ≠ 0) : ∀ d : Int, 3 ≤ d → d % 2 = 1 → d < k + 2 → ¬ d ∣ n := fun d h2 ho hk z => by
  by_cases e : d = k
  · rw [e] at z
    exact hd (Int.emod_eq_zero_of_dvd z)
  · exact h d h2 ho (by omega) z
theorem sq_bound {k n : Int} (h0 : 0 ≤ k) (hk : k * k ≤ n) (hn : n < 2 ^ 120) : k < 2 ^ 60 := by
  rcases Int.lt_or_le k (2 ^ 60) with z | z
  · exact z
  · exfalso
    have a : (2 : Int) ^ 60 * 2 ^ 60 ≤ k * 2 ^ 60 := Int.mul_le_mul_of_nonneg_right z (by decide)
    have b : k * 2 ^ 60 ≤ k * k := Int.mul_le_mul_of_nonneg_left z h0
    have c : (2 : Int) ^ 60 * 2 ^ 60 = 2 ^ 120 := by decide
    omega
theorem le_sq {k : Int} (h : 1 ≤ k) : k ≤ k * k := by
  have : k * 1 ≤ k * k := Int.mul_le_mul_of_nonneg_left h (by omega)
  omega
/-- an odd prime -/
def OP (n : Int) : Prop := Pm n ∧ n % 2 = 1
theorem OP.three {n : Int} (h : OP n) : 3 ≤ n := by
  have := h.1.1
  have := h.2
  omega
theorem pm_two : Pm 2 := ⟨by omega, fun d h1 h2 => by omega⟩
theorem pm_odd {n : Int} (h : Pm n) (h3 : 3 ≤ n) : n % 2 = 1 := by
  rcases Int.emod_two_eq n with z | z
  · exact absurd (Int.dvd_of_emod_eq_zero z) (h.2 2 (by omega) (by omega))
  · exact z
/-- a prime, by looking at all divisors up to a side -/
theorem op_by {n : Nat} (k : Nat) (h3 : 3 ≤ n) (ho : n % 2 = 1) (hk : n < k * k) (h : (List.range k).all (fun d => d < 2 || n % d != 0) = true) : OP n := by
  refine ⟨pm_of_trial (k := k) (by omega) (by omega) (by exact_mod_cast hk) fun d h2 hd hv => ?_, by omega⟩
  have := List.all_eq_true.mp h d.toNat (List.mem_range.mpr (by omega))
  have hz : n % d.toNat = 0 := by
    have e := Int.emod_eq_zero_of_dvd hv
    rw [show d = ((d.toNat : Nat) : Int) by omega, ← Int.natCast_emod] at e
    exact_mod_cast e
  have h2' : ¬ d.toNat < 2 := by omega
  simp [hz, h2'] at this
open Classical in
noncomputable instance decPm (n : Int) : Decidable (Pm n) := Classical.propDecidable _
noncomputable instance decOP (n : Int) : Decidable (OP n) := instDecidableAnd
end QR
/-! part m_signs -/
/-! part m_qr -/
namespace QR
theorem small_dvd {m x : Int} (hd : m ∣ x) (h1 : -m < x) (h2 : x < m) : x = 0 := by
  rcases Int.lt_trichotomy x 0 with h | h | h
  · have := Int.le_of_dvd (show 0 < -x by omega) (Int.dvd_neg.mpr hd)
    omega
  · exact h
  · have := Int.le_of_dvd h hd
    omega
theorem cop_dvd {b m : Int} (hc : Int.gcd b m = 1) {x : Int} (hd : m ∣ b * x) : m ∣ x := by
  have h1 : m.natAbs ∣ b.natAbs * x.natAbs := by
    rw [← Int.natAbs_mul]
    exact Int.natAbs_dvd_natAbs.mpr hd
  have h2 : m.natAbs.Coprime b.natAbs := by
    unfold Nat.Coprime
    rw [Nat.gcd_comm]
    exact hc
  exact Int.natAbs_dvd_natAbs.mp (h2.dvd_of_dvd_mul_left h1)
end QR
/-! part m_euler -/
namespace QR
theorem Pm.cop {p : Int} (hp : Pm p) {x : Int} (hx : ¬ p ∣ x) : Int.gcd x p = 1 := by
  have hd := Int.gcd_dvd_right x p
  have hl := Int.gcd_dvd_left x p
  have h2 := hp.1
  have hle := Int.le_of_dvd (by omega) hd
  generalize hg : Int.gcd x p = g at *
  by_cases h1 : (g : Int) = p
  · rw [h1] at hl
    exact absurd hl hx
  · by_cases h0 : g = 0
    · rw [h0] at hd
      have := Int.zero_dvd.mp hd
      omega
    · have := hp.2 g
      by_cases hz : g = 1
      · exact hz
      · exact absurd hd (this (by omega) (by omega))
theorem Pm.dvd_mul {p : Int} (hp : Pm p) {x y : Int} (h : p ∣ x * y) : p ∣ x ∨ p ∣ y := by
  by_cases hx : p ∣ x
  · exact .inl hx
  · exact .inr (cop_dvd (hp.cop hx) h)
section
variable {h : Nat} (hp : Pm (2 * h + 1))
include hp
theorem uniq {a x y z : Int} (hx : ¬ (2 * (h : Int) + 1) ∣ x) (h1 : (2 * (h : Int) + 1) ∣ x * y - a) (h2 : (2 * (h : Int) + 1) ∣ x * z - a) (hy : 0 < y ∧ y ≤ 2 * h) (hz : 0 < z ∧ z ≤ 2 * h) : y = z := by
  obtain ⟨u, hu⟩ := h1
  obtain ⟨v, hv⟩ := h2
  have := small_dvd (cop_dvd (x := y - z) (hp.cop hx) ⟨u - v, by grind⟩) (by omega) (by omega)
  omega
end
end QR
/-! part m_cop -/
namespace QR
theorem exists_pm : ∀ (n : Nat), 2 ≤ n → ∃ p : Int, Pm p ∧ p ∣ (n : Int) := by
  intro n
  induction n using Nat.strongRecOn with
  | _ n ih =>
    intro h2
    by_cases hp : Pm (n : Int)
    · exact ⟨n, hp, Int.dvd_refl _⟩
    · have : ∃ d : Int, 2 ≤ d ∧ d < n ∧ d ∣ (n : Int) := Classical.byContradiction fun h => hp ⟨by omega, fun d a b c => h ⟨d, a, b, c⟩⟩
      obtain ⟨d, a, b, c⟩ := this
      obtain ⟨p, q1, q2⟩ := ih d.toNat (by omega) (by omega)
      rw [show ((d.toNat : Nat) : Int) = d by omega] at q2
      exact ⟨p, q1, Int.dvd_trans q2 c⟩
theorem dvd_gcd {d x m : Int} (h : d ∣ x) (k : d ∣ m) : d ∣ ((Int.gcd x m : Nat) : Int) := Int.dvd_coe_gcd h k
/-- coprime: no prime divides both -/
theorem cop_iff {x m : Int} : Int.gcd x m = 1 ↔ ∀ p : Int, Pm p → p ∣ x → ¬ p ∣ m := by
  constructor
  · intro h p hp a b
    have := dvd_gcd a b
    rw [h] at this
    have := Int.le_of_dvd (by decide) this
    have := hp.1
    omega
  · intro h
    rcases Nat.lt_or_ge (Int.gcd x m) 2 with z | z
    · rcases Nat.lt_or_ge 0 (Int.gcd x m) with y | y
      · omega
      · exfalso
        have e : Int.gcd x m = 0 := by omega
        obtain ⟨e1, e2⟩ := Int.gcd_eq_zero_iff.mp e
        subst e1 e2
        exact h 2 pm_two (Int.dvd_zero 2) (Int.dvd_zero 2)
    · obtain ⟨p, hp, hd⟩ := exists_pm _ z
      exact absurd (Int.dvd_trans hd (Int.gcd_dvd_right ..)) (h p hp (Int.dvd_trans hd (Int.gcd_dvd_left ..)))
theorem cop_dvd_right {x m n : Int} (h : Int.gcd x m = 1) (d : n ∣ m) : Int.gcd x n = 1 := cop_iff.mpr fun p hp a b => cop_iff.mp h p hp a (Int.dvd_trans b d)
theorem cop_congr {x y m : Int} (h : m ∣ x - y) : Int.gcd x m = 1 ↔ Int.gcd y m = 1 := by
  have key : ∀ x y : Int, m ∣ x - y → Int.gcd x m = 1 → Int.gcd y m = 1 := fun x y h hx => cop_iff.mpr fun p hp a b => cop_iff.mp hx p hp (by
    have := Int.dvd_add (Int.dvd_trans b h) a
    rwa [Int.sub_add_cancel] at this) b
  refine ⟨key x y h, key y x ?_⟩
  obtain ⟨k, hk⟩ := h
  exact ⟨-k, by rw [Int.mul_neg, ← hk]; omega⟩
theorem dvd_sub_emod (x m : Int) : m ∣ x - x % m := ⟨x / m, by have := Int.mul_ediv_add_emod x m; omega⟩
theorem cop_emod {x m : Int} : Int.gcd (x % m) m = 1 ↔ Int.gcd x m = 1 := (cop_congr (dvd_sub_emod x m)).symm
theorem cop_mul {x m n : Int} (h : Int.gcd x m = 1) (k : Int.gcd x n = 1) : Int.gcd x (m * n) = 1 := cop_iff.mpr fun p hp a b => (Pm.dvd_mul hp b).elim (cop_iff.mp h p hp a) (cop_iff.mp k p hp a)
theorem emod_eq_of_dvd {x y m : Int} (h : m ∣ x - y) : x % m = y % m := Int.emod_eq_emod_iff_emod_sub_eq_zero.mpr (Int.emod_eq_zero_of_dvd h)
theorem dvd_of_emod_eq {x y m : Int} (h : x % m = y % m) : m ∣ x - y := Int.dvd_of_emod_eq_zero (Int.emod_eq_emod_iff_emod_sub_eq_zero.mp h)
theorem pm_cop {p m : Int} (hp : Pm p) : Int.gcd p m = 1 ↔ ¬ p ∣ m := by
  constructor
  · intro h d
    exact cop_iff.mp h p hp (Int.dvd_refl p) d
  · intro h
    refine cop_iff.mpr fun q hq a b => ?_
    have q2 := hq.1
    have hle := Int.le_of_dvd (by have := hp.1; omega) a
    rcases Int.lt_or_eq_of_le hle with z | z
    · exact hp.2 q q2 z a
    · exact h (z ▸ b)
end QR
/-- the ints from 0 on below m coprime to it -/
def uL (m : Int) : List Int := ((List.range m.toNat).map (fun i : Nat => (i : Int))).filter (fun r => decide (Int.gcd r m = 1))
theorem mem_uL {m k : Int} : k ∈ uL m ↔ 0 ≤ k ∧ k < m ∧ Int.gcd k m = 1 := by
  unfold uL
  rw [List.mem_filter, decide_eq_true_iff, List.mem_map]
  constructor
  · rintro ⟨⟨i, hi, rfl⟩, h⟩
    rw [List.mem_range] at hi
    exact ⟨by omega, by omega, h⟩
  · rintro ⟨a, b, h⟩
    exact ⟨⟨k.toNat, List.mem_range.mpr (by omega), by omega⟩, h⟩
theorem uL_inc {m : Int} : (uL m).Pairwise (· < ·) := by
  unfold uL
  refine List.Pairwise.filter _ (List.pairwise_map.mpr ?_)
  exact List.pairwise_lt_range.imp fun h => by omega
theorem uL_len {m : Int} : (uL m).length ≤ m.toNat := by
  unfold uL
  refine Nat.le_trans (List.length_filter_le _ _) ?_
  rw [List.length_map, List.length_range]
  exact Nat.le_refl _
/-! part m_pool -/
/-- a pool of draws, at most j of them made -/
def PoolAt (H : Hp) (p : Addr) (j : Int) : Prop := ∃ c k b, H p = some (.lst [.int c, .int k, .bl b]) ∧ 0 ≤ k ∧ k ≤ j
theorem PoolAt.new {H : Hp} {p : Addr} {n : Int} {b : Bool} : PoolAt (upd H p (.lst [.int n, .int 0, .bl b])) p 0 := ⟨_, _, _, upd_same, by omega, by omega⟩
/-! part m_rows -/
/-- the list that a list of tuples holds -/
def RowsAt (H : Hp) : List Addr → List (List V) → Prop
  | [], [] => True
  | t :: ts, l :: ls => H t = some (.tup l) ∧ RowsAt H ts ls
  | _, _ => False
theorem RowsAt.mono {H H' : Hp} (s : Same H H') : ∀ {ts : List Addr} {ls : List (List V)}, RowsAt H ts ls → RowsAt H' ts ls
  | [], [], _ => trivial
  | _ :: _, _ :: _, h => ⟨s _ _ h.1, RowsAt.mono s h.2⟩
  | [], _ :: _, h => h.elim
  | _ :: _, [], h => h.elim
theorem RowsAt.len {H : Hp} : ∀ {ts : List Addr} {ls : List (List V)}, RowsAt H ts ls → ts.length = ls.length
  | [], [], _ => rfl
  | _ :: _, _ :: _, h => by rw [List.length_cons, List.length_cons, RowsAt.len h.2]
  | [], _ :: _, h => h.elim
  | _ :: _, [], h => h.elim
theorem RowsAt.snoc {H : Hp} {t : Addr} {l : List V} (ht : H t = some (.tup l)) : ∀ {ts : List Addr} {ls : List (List V)}, RowsAt H ts ls → RowsAt H (ts ++ [t]) (ls ++ [l])
  | [], [], _ => ⟨ht, trivial⟩
  | _ :: _, _ :: _, h => ⟨h.1, RowsAt.snoc ht h.2⟩
  | [], _ :: _, h => h.elim
  | _ :: _, [], h => h.elim
theorem RowsAt.other {H : Hp} {p : Addr} {xs : List V} {o : HO} (hp : H p = some (.lst xs)) : ∀ {ts : List Addr} {ls : List (List V)}, RowsAt H ts ls → RowsAt (upd H p o) ts ls
  | [], [], _ => trivial
  | t :: _, _ :: _, h => ⟨by
      rw [upd_ne (ne_of h.1 hp (by intro z; cases z))]
      exact h.1, RowsAt.other hp h.2⟩
  | [], _ :: _, h => h.elim
  | _ :: _, [], h => h.elim
theorem RowsAt.at {H : Hp} : ∀ {ts : List Addr} {ls : List (List V)} {i : Nat} {v : V}, RowsAt H ts ls → (ts.map V.ref)[i]? = some v → ∃ (t : Addr) (l : List V), v = .ref t ∧ H t = some (.tup l) ∧ ls[i]? = some l
  | t :: ts, l :: ls, 0, v, h, e => ⟨t, l, (Option.some.inj e).symm, h.1, rfl⟩
  | t :: ts, l :: ls, i + 1, v, h, e => RowsAt.at h.2 (i := i) e
  | [], _, _, _, _, e => by cases e
  | _ :: _, [], _, _, h, _ => h.elim
theorem RowsAt.rig {H : Hp} {ts : List Addr} {ls : List (List V)} (h : RowsAt H ts ls) : Rig (fun G => RowsAt G ts ls) H := fun G k => by
  induction ts generalizing ls with
  | nil => cases ls with
    | nil => trivial
    | cons l ls => exact h.elim
  | cons t ts ih => cases ls with
    | nil => exact h.elim
    | cons l ls => exact ⟨k _ _ rfl h.1, ih h.2⟩
/-! part m_but -/
theorem ix_in {ns : List Int} {i : Int} (h0 : 0 ≤ i) (h1 : i < ns.length) : ∃ z ∈ ns, atI (ns.map V.int) i = some (.int z) := by
  obtain ⟨n, rfl⟩ : ∃ n : Nat, i = n := ⟨i.toNat, by omega⟩
  have hn : n < ns.length := by omega
  refine ⟨ns[n], List.getElem_mem hn, atI_nat ?_⟩
  rw [List.getElem?_map, List.getElem?_eq_getElem hn]
  rfl
/-- a loop over a list or tuple that a name holds -/
theorem rd_forS {K : PySem.W.Frag} {σ : L2.St} {H : Hp} {i : Nat} {a : Addr} {xs : List V} {g : TG} {t : TS} {nx : L2.St → Hp → Prop} {rt : VK} (hv : σ[i]? = some (some (.ref a))) (hS : SqL K H a xs ∨ SqT K H a xs) (Pv : Nat → L2.St → Prop) (h0 : Pv 0 σ)
    (hs : ∀ i x σ, xs[i]? = some x → Pv i σ → g x σ H fun σ2 H2 => t ⟨fun σ' H' => H = H' ∧ Pv (i + 1) σ', rt, nx, fun σ' H' => H = H' ∧ Pv (i + 1) σ'⟩ σ2 H2) (hd : ∀ σ, Pv xs.length σ → nx σ H) :
    iAlt (iList K (tVar i)) (iTup K (tVar i)) σ H fun J H1 => fBody J g t nx rt σ H1 :=
  hS.elim (fun h => .inl (rd_var hv ⟨a, rfl, ⟨_, h⟩, rd_forLs Pv h h0 hs hd⟩)) fun h => .inr (rd_var hv ⟨a, rfl, ⟨_, h⟩, rd_forTs Pv h h0 hs hd⟩)
/-- {x: True for x in xs}, xs a list or tuple of ints that a name holds -/
theorem rd_dcS {K : PySem.W.Frag} {σ : L2.St} {H : Hp} {Q : VK} {tk tv : TE} {i : Nat} {a : Addr} {ns : List Int} {g : TG} {vs : List Nat} (hv : σ[i]? = some (some (.ref a))) (hS : SqL K H a (ns.map V.int) ∨ SqT K H a (ns.map V.int))
    (hs : ∀ D l x r, H D = none → ns = l ++ x :: r → g (.int x) (wipe σ vs) (upd H D (DFl (ofL l))) fun σ2 H2 => wipe σ2 vs = wipe σ vs ∧ tk σ2 H2 fun y H4 => tv σ2 H4 fun z H5 => DcPut H D (l ++ [x]) y z H5)
    (q : ∀ D, H D = none → Q (.ref D) (upd H D (DFl (ofL ns)))) : iAlt (iList K (tVar i)) (iTup K (tVar i)) σ H fun J H1 => dcB J g tYes tk tv vs σ Q H1 :=
  hS.elim (fun h => .inl (rd_var hv ⟨a, rfl, ⟨_, h⟩, rd_dcLF h hs q⟩)) fun h => .inr (rd_var hv ⟨a, rfl, ⟨_, h⟩, rd_dcTF h hs q⟩)
/-! part m_form -/
/-- a form's three numbers -/
structure Fm where
  a : Int
  b : Int
  c : Int
deriving DecidableEq
def Fm.D (f : Fm) : Int := f.b * f.b - 4 * f.a * f.c
def Fm.ok (f : Fm) : Prop := 1 ≤ f.a ∧ f.D < 0
def Fm.at (f : Fm) (x y : Int) : Int := f.a * x * x + f.b * x * y + f.c * y * y
def Fm.nx (f : Fm) : Option Int := if ¬ (-f.a < f.b ∧ f.b ≤ f.a) then some ((f.a - f.b) / (2 * f.a)) else if f.c < f.a ∨ f.a = f.c ∧ f.b < 0 then some 0 else none
def Fm.bd (n : Nat) (f : Fm) : Prop := Bd n f.a ∧ Bd n f.b ∧ Bd n f.c
theorem Fm.bd.mono {n m : Nat} {f : Fm} (h : Fm.bd n f) (hm : n ≤ m) : Fm.bd m f := ⟨h.1.mono hm, h.2.1.mono hm, h.2.2.mono hm⟩
/-! part m_row -/
def Fm.ns (f : Fm) : List Int := [f.a, f.b, f.c]
abbrev Fm.row (f : Fm) : List V := f.ns.map V.int
/-! part m_back -/
/-! part m_turn -/
/-! part m_rests -/
/-! part m_factors -/
def prodF : List (Int × Nat) → Int
  | [] => 1
  | x :: l => x.1 ^ x.2 * prodF l
def rowF (x : Int × Nat) : List V := [.int x.1, .int x.2]
/-- the primes of a number with their exponents -/
structure FacOk (n : Int) (fs : List (Int × Nat)) : Prop where
  prod : prodF fs = n
  prime : ∀ x, x ∈ fs → QR.Pm x.1 ∧ 1 ≤ x.2
  asc : fs.Pairwise fun a b => a.1 < b.1
theorem prodF_snoc (x : Int × Nat) : ∀ fs : List (Int × Nat), prodF (fs ++ [x]) = prodF fs * x.1 ^ x.2
  | [] => by simp [prodF]
  | y :: l => by
    simp only [List.cons_append, prodF]
    rw [prodF_snoc x l, Int.mul_assoc]
theorem prodF_big : ∀ fs : List (Int × Nat), (∀ x, x ∈ fs → QR.Pm x.1 ∧ 1 ≤ x.2) → (2 : Int) ^ fs.length ≤ prodF fs
  | [], _ => by simp [prodF]
  | x :: l, h => by
    have hx := h x (List.mem_cons_self ..)
    have ih := prodF_big l fun y hy => h y (List.mem_cons_of_mem _ hy)
    have h2 := hx.1.1
    obtain ⟨e, he⟩ : ∃ e, x.2 = e + 1 := ⟨x.2 - 1, by omega⟩
    have p1 : (1 : Int) ≤ x.1 ^ e := Int.pow_pos (by omega)
    have p0 : (0 : Int) < 2 ^ l.length := Int.pow_pos (by decide)
    simp only [prodF, List.length_cons]
    rw [he, Int.pow_succ, Int.pow_succ, Int.mul_comm (2 ^ l.length) 2]
    have p2 : 2 ≤ x.1 ^ e * x.1 := by
      have : 1 * x.1 ≤ x.1 ^ e * x.1 := Int.mul_le_mul_of_nonneg_right p1 (by omega)
      omega
    have a1 : 2 * 2 ^ l.length ≤ (x.1 ^ e * x.1) * 2 ^ l.length := Int.mul_le_mul_of_nonneg_right p2 (by omega)
    have a2 : (x.1 ^ e * x.1) * 2 ^ l.length ≤ (x.1 ^ e * x.1) * prodF l := Int.mul_le_mul_of_nonneg_left ih (by omega)
    omega
/-- while the factors are found: fs so far, n left, d next -/
structure FacInv (n0 n d : Int) (fs : List (Int × Nat)) : Prop where
  pos : 1 ≤ n
  two : 2 ≤ d
  prod : prodF fs * n = n0
  prime : ∀ x, x ∈ fs → QR.Pm x.1 ∧ 1 ≤ x.2 ∧ x.1 < d
  asc : fs.Pairwise fun a b => a.1 < b.1
  none : ∀ e : Int, 2 ≤ e → e < d → ¬ e ∣ n
theorem FacInv.len {n0 n d : Int} {fs : List (Int × Nat)} (h : FacInv n0 n d fs) (hn : n0 < 2 ^ 100) : fs.length < 100 := by
  have a := prodF_big fs fun x hx => ⟨(h.prime x hx).1, (h.prime x hx).2.1⟩
  have p0 : (0 : Int) < 2 ^ fs.length := Int.pow_pos (by decide)
  have b : prodF fs * 1 ≤ prodF fs * n := Int.mul_le_mul_of_nonneg_left h.pos (by omega)
  rw [h.prod] at b
  rcases Nat.lt_or_ge fs.length 100 with z | z
  · exact z
  · exfalso
    have : (2 : Int) ^ 100 ≤ 2 ^ fs.length := by
      have := Nat.pow_le_pow_right (show 0 < 2 by decide) z
      exact_mod_cast this
    omega
theorem FacInv.start {n : Int} (h : 1 ≤ n) : FacInv n n 2 [] :=
  ⟨h, by omega, by simp [prodF], fun _ h => absurd h List.not_mem_nil, List.Pairwise.nil, fun e h1 h2 => by omega⟩
/-- one divisor: n = m * d ^ e with no d left in m -/
theorem FacInv.next0 {n0 n d : Int} {fs : List (Int × Nat)} (h : FacInv n0 n d fs) (hd : ¬ d ∣ n) : FacInv n0 n (d + 1) fs :=
  ⟨h.pos, by have := h.two; omega, h.prod, fun x hx => ⟨(h.prime x hx).1, (h.prime x hx).2.1, by have := (h.prime x hx).2.2; omega⟩, h.asc, fun e h1 h2 z => by
    by_cases he : e = d
    · rw [he] at z
      exact hd z
    · exact h.none e h1 (by omega) z⟩
theorem FacInv.next {n0 n d m : Int} {e : Nat} {fs : List (Int × Nat)} (h : FacInv n0 n d fs) (he : 0 < e) (hm : m * d ^ e = n) (hm0 : 1 ≤ m) (hd : ¬ d ∣ m) : FacInv n0 m (d + 1) (fs ++ [(d, e)]) := by
  have h2 := h.two
  have dn : d ∣ n := by
    obtain ⟨k, rfl⟩ : ∃ k, e = k + 1 := ⟨e - 1, by omega⟩
    exact ⟨m * d ^ k, by rw [← hm, Int.pow_succ]; grind⟩
  have mn : m ∣ n := ⟨d ^ e, hm.symm⟩
  refine ⟨hm0, by omega, ?_, ?_, ?_, ?_⟩
  · rw [prodF_snoc, ← h.prod, ← hm]
    grind
  · intro x hx
    rcases List.mem_append.mp hx with hx | hx
    · exact ⟨(h.prime x hx).1, (h.prime x hx).2.1, by have := (h.prime x hx).2.2; omega⟩
    · rw [List.mem_singleton.mp hx]
      refine ⟨⟨h2, fun c c1 c2 c3 => h.none c c1 c2 (Int.dvd_trans c3 dn)⟩, he, ?_⟩
      show d < d + 1
      omega
  · rw [List.pairwise_append]
    refine ⟨h.asc, List.pairwise_singleton .., fun a ha b hb => ?_⟩
    rw [List.mem_singleton.mp hb]
    exact (h.prime a ha).2.2
  · intro c c1 c2 c3
    by_cases hc : c = d
    · rw [hc] at c3
      exact hd c3
    · exact h.none c c1 (by omega) (Int.dvd_trans c3 mn)
theorem FacInv.done1 {n0 d : Int} {fs : List (Int × Nat)} (h : FacInv n0 1 d fs) : FacOk n0 fs :=
  ⟨by have := h.prod; omega, fun x hx => ⟨(h.prime x hx).1, (h.prime x hx).2.1⟩, h.asc⟩
theorem FacInv.done {n0 n d : Int} {fs : List (Int × Nat)} (h : FacInv n0 n d fs) (hn : 1 < n) (hd : n < d * d) : FacOk n0 (fs ++ [(n, 1)]) := by
  have hp : QR.Pm n := QR.pm_of_trial (by omega) (by have := h.two; omega) hd h.none
  refine ⟨by rw [prodF_snoc, Int.pow_one]; exact h.prod, ?_, ?_⟩
  · intro x hx
    rcases List.mem_append.mp hx with hx | hx
    · exact ⟨(h.prime x hx).1, (h.prime x hx).2.1⟩
    · rw [List.mem_singleton.mp hx]
      exact ⟨hp, Nat.le_refl 1⟩
  · rw [List.pairwise_append]
    refine ⟨h.asc, List.pairwise_singleton .., fun a ha b hb => ?_⟩
    rw [List.mem_singleton.mp hb]
    have := (h.prime a ha).2.2
    show a.1 < n
    rcases Int.lt_or_le n d with z | z
    · exact absurd (Int.dvd_refl n) (h.none n (by omega) z)
    · omega
/-! part m_germ -/
/-- rests modulo m tell no less modulo s -/
def Lv (m : Int) (R : List Int) (s : Int) : Prop := ∀ x y : Int, Int.gcd x m = 1 → Int.gcd y m = 1 → s ∣ x - y → (x % m ∈ R ↔ y % m ∈ R)
/-- the same told by a smaller modulus -/
structure Sub (m : Int) (R : List Int) (m' : Int) (R' : List Int) : Prop where
  dvd : m' ∣ m
  same : ∀ x : Int, Int.gcd x m = 1 → (x % m' ∈ R' ↔ x % m ∈ R)
theorem Sub.refl (m : Int) (R : List Int) : Sub m R m R := ⟨Int.dvd_refl m, fun _ _ => Iff.rfl⟩
theorem Sub.trans {m m1 m2 : Int} {R R1 R2 : List Int} (a : Sub m R m1 R1) (b : Sub m1 R1 m2 R2) : Sub m R m2 R2 := ⟨Int.dvd_trans b.dvd a.dvd, fun x h => (b.same x (QR.cop_dvd_right h a.dvd)).trans (a.same x h)⟩
structure Desc (m : Int) (R S : List Int) : Prop where
  pos : 1 ≤ m
  rests : ∀ r ∈ R, 0 ≤ r ∧ r < m ∧ Int.gcd r m = 1
  singles : ∀ p ∈ S, QR.OP p
def toldP (m : Int) (R : List Int) (p : Int) : Prop := ¬ p ∣ m ∧ p % m ∈ R
instance (m : Int) (R : List Int) (p : Int) : Decidable (toldP m R p) := inferInstanceAs (Decidable (¬ p ∣ m ∧ p % m ∈ R))
def memP (m : Int) (R S : List Int) (p : Int) : Prop := ¬ (toldP m R p ↔ p ∈ S)
instance (m : Int) (R S : List Int) (p : Int) : Decidable (memP m R S p) := inferInstanceAs (Decidable (¬ (toldP m R p ↔ p ∈ S)))
/-- what shortening shows -/
structure Short (m : Int) (R : List Int) (s : Int) (L : List Int) : Prop where
  inc : L.Pairwise (· < ·)
  mem : ∀ k ∈ L, k ∈ uL s
  same : ∀ x : Int, Int.gcd x m = 1 → (x % s ∈ L ↔ x % m ∈ R)
def liftsL (r s q : Int) : List Int := (List.range q.toNat).map fun k : Nat => r + (0 + (k : Int)) * s
def lftL (m r s q : Int) : List Int := (liftsL r s q).filter fun l => decide (Int.gcd l m = 1)
section
variable {m s q r : Int} {R : List Int}
theorem mem_lifts {l : Int} : l ∈ liftsL r s q ↔ ∃ k : Int, 0 ≤ k ∧ k < q ∧ l = r + k * s := by
  unfold liftsL
  rw [List.mem_map]
  constructor
  · rintro ⟨k, hk, rfl⟩
    rw [List.mem_range] at hk
    exact ⟨k, by omega, by omega, by rw [Int.zero_add]⟩
  · rintro ⟨k, a, b, rfl⟩
    exact ⟨k.toNat, List.mem_range.mpr (by omega), by rw [Int.zero_add, show ((k.toNat : Nat) : Int) = k by omega]⟩
theorem lift_bound {k : Int} (hs : 0 < s) (hm : m = s * q) (r0 : 0 ≤ r) (r1 : r < s) (k0 : 0 ≤ k) (k1 : k < q) : 0 ≤ r + k * s ∧ r + k * s < m := by
  have a : 0 ≤ k * s := Int.mul_nonneg k0 (by omega)
  have b : k * s ≤ (q - 1) * s := Int.mul_le_mul_of_nonneg_right (by omega) (by omega)
  have c : (q - 1) * s = s * q - s := by grind
  omega
theorem lift_mod {k : Int} (r0 : 0 ≤ r) (r1 : r < s) : (r + k * s) % s = r := by
  rw [Int.add_mul_emod_self_right, Int.emod_eq_of_lt r0 r1]
/-- a coprime lift there is -/
theorem lft_ne (hq : QR.Pm q) (hs : 0 < s) (hm : m = s * q) (hr : r ∈ uL s) : lftL m r s q ≠ [] := by
  obtain ⟨r0, r1, rc⟩ := mem_uL.mp hr
  have q2 := hq.1
  have c0 : ∀ k : Int, Int.gcd (r + k * s) s = 1 := fun k => (QR.cop_congr (y := r) ⟨k, by rw [Int.mul_comm]; omega⟩).mpr rc
  have : ∃ k : Int, 0 ≤ k ∧ k < q ∧ Int.gcd (r + k * s) m = 1 := by
    by_cases a : q ∣ r
    · refine ⟨1, by omega, by omega, ?_⟩
      rw [hm]
      refine QR.cop_mul (c0 1) (QR.cop_iff.mpr fun p hp b c => ?_)
      have pq : p = q := by
        rcases Int.lt_or_eq_of_le (Int.le_of_dvd (by omega) c) with z | z
        · exact absurd c (hq.2 p hp.1 z)
        · exact z
      subst pq
      have d : p ∣ s := by
        have := Int.dvd_sub b a
        rwa [Int.one_mul, Int.add_comm, Int.add_sub_cancel] at this
      exact QR.cop_iff.mp rc p hp a d
    · refine ⟨0, by omega, by omega, ?_⟩
      rw [hm, Int.zero_mul, Int.add_zero]
      refine QR.cop_mul rc (QR.cop_iff.mpr fun p hp b c => ?_)
      have pq : p = q := by
        rcases Int.lt_or_eq_of_le (Int.le_of_dvd (by omega) c) with z | z
        · exact absurd c (hq.2 p hp.1 z)
        · exact z
      exact a (pq ▸ b)
  obtain ⟨k, k0, k1, kc⟩ := this
  intro e
  have : r + k * s ∈ lftL m r s q := List.mem_filter.mpr ⟨mem_lifts.mpr ⟨k, k0, k1, rfl⟩, decide_eq_true kc⟩
  rw [e] at this
  cases this
theorem lft_prop (hs : 0 < s) (hm : m = s * q) (hr : r ∈ uL s) {l : Int} (hl : l ∈ lftL m r s q) : Int.gcd l m = 1 ∧ l % m = l ∧ l % s = r := by
  obtain ⟨r0, r1, rc⟩ := mem_uL.mp hr
  obtain ⟨a, b⟩ := List.mem_filter.mp hl
  obtain ⟨k, k0, k1, rfl⟩ := mem_lifts.mp a
  obtain ⟨b0, b1⟩ := lift_bound hs hm r0 r1 k0 k1
  exact ⟨of_decide_eq_true b, Int.emod_eq_of_lt b0 b1, lift_mod r0 r1⟩
theorem lft_all (hs : 0 < s) (hq : 0 < q) (hm : m = s * q) {x : Int} (hx : Int.gcd x m = 1) (hr : x % s = r) : x % m ∈ lftL m r s q := by
  have m0 : 0 < m := by rw [hm]; exact Int.mul_pos hs hq
  have e0 := Int.emod_nonneg x (show m ≠ 0 by omega)
  have e1 := Int.emod_lt_of_pos x m0
  refine List.mem_filter.mpr ⟨mem_lifts.mpr ⟨x % m / s, ?_, ?_, ?_⟩, decide_eq_true (QR.cop_emod.mpr hx)⟩
  · exact Int.ediv_nonneg e0 (by omega)
  · exact Int.ediv_lt_of_lt_mul hs (by rw [Int.mul_comm]; omega)
  · have e2 : x % m % s = r := by rw [← hr]; exact Int.emod_emod_of_dvd x ⟨q, hm⟩
    have := Int.mul_ediv_add_emod (x % m) s
    rw [e2] at this
    rw [Int.mul_comm (x % m / s)]
    omega
theorem unit_of (h : s ∣ m) {x : Int} (hs : 0 < s) (hx : Int.gcd x m = 1) : x % s ∈ uL s := mem_uL.mpr ⟨Int.emod_nonneg x (by omega), Int.emod_lt_of_pos x hs, QR.cop_emod.mpr (QR.cop_dvd_right hx h)⟩
/-- kept so far: of the units in us -/
structure Kept (m : Int) (R : List Int) (s : Int) (us L : List Int) : Prop where
  inc : L.Pairwise (· < ·)
  mem : ∀ k ∈ L, k ∈ us
  same : ∀ x : Int, Int.gcd x m = 1 → x % s ∈ us → (x % s ∈ L ↔ x % m ∈ R)
theorem Kept.nil : Kept m R s [] [] := ⟨List.Pairwise.nil, fun _ h => absurd h List.not_mem_nil, fun _ _ h => absurd h List.not_mem_nil⟩
theorem Kept.put {us L : List Int} (h : Kept m R s us L) (hlt : ∀ k ∈ us, k < r) (hall : ∀ x : Int, Int.gcd x m = 1 → x % s = r → x % m ∈ R) : Kept m R s (us ++ [r]) (L ++ [r]) := by
  refine ⟨List.pairwise_append.mpr ⟨h.inc, List.pairwise_singleton .., fun a ha b hb => by rw [List.mem_singleton.mp hb]; exact hlt a (h.mem a ha)⟩, fun k hk => ?_, fun x hx hu => ?_⟩
  · rcases List.mem_append.mp hk with hk | hk
    · exact List.mem_append_left _ (h.mem k hk)
    · exact List.mem_append_right _ hk
  · rcases List.mem_append.mp hu with hu | hu
    · rw [List.mem_append, ← h.same x hx hu, List.mem_singleton]
      refine ⟨fun z => z.elim id fun e => ?_, .inl⟩
      have := hlt _ hu
      omega
    · have e := List.mem_singleton.mp hu
      exact ⟨fun _ => hall x hx e, fun _ => List.mem_append_right _ hu⟩
theorem Kept.skip {us L : List Int} (h : Kept m R s us L) (hlt : ∀ k ∈ us, k < r) (hall : ∀ x : Int, Int.gcd x m = 1 → x % s = r → x % m ∉ R) : Kept m R s (us ++ [r]) L := by
  refine ⟨h.inc, fun k hk => List.mem_append_left _ (h.mem k hk), fun x hx hu => ?_⟩
  rcases List.mem_append.mp hu with hu | hu
  · exact h.same x hx hu
  · have e := List.mem_singleton.mp hu
    refine ⟨fun z => ?_, fun z => absurd z (hall x hx e)⟩
    have := hlt _ (h.mem _ z)
    omega
theorem Kept.done {L : List Int} (h : Kept m R s (uL s) L) (hd : s ∣ m) (hs : 0 < s) : Short m R s L := ⟨h.inc, h.mem, fun x hx => h.same x hx (unit_of hd hs hx)⟩
theorem Short.sub {L : List Int} (h : Short m R s L) (hd : s ∣ m) : Sub m R s L := ⟨hd, h.same⟩
/-- what stays told no less by a divisor stays so ahead of a shortening -/
theorem Lv.up {m' s' : Int} {R' : List Int} (h : Sub m R m' R') (l : Lv m' R' s') (hd : s' ∣ s) : Lv m R s := fun x y hx hy d => by
  rw [← h.same x hx, ← h.same y hy]
  exact l x y (QR.cop_dvd_right hx h.dvd) (QR.cop_dvd_right hy h.dvd) (Int.dvd_trans hd d)
end
/-- a single prime changes sides -/
def togL (S : List Int) (p : Int) : List Int := if p ∈ S then S.filter (fun o => !decide (o = p)) else S ++ [p]
theorem mem_tog {S : List Int} {p k : Int} : k ∈ togL S p ↔ if k = p then p ∉ S else k ∈ S := by
  unfold togL
  by_cases h : p ∈ S
  · rw [if_pos h]
    by_cases e : k = p
    · subst e
      simp [h]
    · simp [e]
  · rw [if_neg h]
    by_cases e : k = p
    · subst e
      simp [h]
    · simp [e]
theorem tog_nodup {S : List Int} {p : Int} (h : S.Nodup) : (togL S p).Nodup := by
  unfold togL
  split
  · exact h.filter _
  · rename_i hp
    refine List.nodup_append.mpr ⟨h, by simp, fun a ha b hb e => hp ?_⟩
    rw [List.mem_singleton] at hb
    rw [← hb, ← e]
    exact ha
theorem tog_len {S : List Int} {p : Int} : (togL S p).length ≤ S.length + 1 := by
  unfold togL
  split
  · exact Nat.le_succ_of_le (List.length_filter_le _ _)
  · simp
/-- the singles behind a shortening by q -/
def nextS (m : Int) (L S : List Int) (q : Int) : List Int := if q ≠ 2 ∧ toldP m L q then togL S q else S
/-- an odd prime, or coprime to the modulus -/
def PrOk (m p : Int) : Prop := QR.OP p ∨ (2 ≤ p ∧ Int.gcd p m = 1)
theorem PrOk.two {m p : Int} (h : PrOk m p) : 2 ≤ p := h.elim (fun h => h.1.1) (·.1)
theorem PrOk.cop {m p : Int} (h : PrOk m p) (d : ¬ p ∣ m) : Int.gcd p m = 1 := h.elim (fun h => (QR.pm_cop h.1).mpr d) (·.2)
theorem PrOk.dvd {m m' p : Int} (h : PrOk m p) (d : m' ∣ m) : PrOk m' p := h.imp_right fun h => ⟨h.1, QR.cop_dvd_right h.2 d⟩
theorem PrOk.ndvd {m p : Int} (h2 : 2 ≤ p) (h : Int.gcd p m = 1) : ¬ p ∣ m := fun d => by
  have e := QR.dvd_gcd (Int.dvd_refl p) d
  rw [h] at e
  have := Int.le_of_dvd (by decide) e
  omega
theorem memP_next {m q : Int} {R L S : List Int} (hq : QR.Pm q) (hs : 1 ≤ m / q) (hd : q ∣ m) (h : Short m R (m / q) L) {p : Int} (hp : PrOk m p) : memP (m / q) L (nextS (m / q) L S q) p ↔ memP m R S p := by
  have hm : m = m / q * q := (Int.ediv_mul_cancel hd).symm
  unfold memP nextS
  by_cases e : p = q
  · subst e
    have op : QR.OP p := hp.elim id fun z => absurd hd (PrOk.ndvd z.1 z.2)
    have p2 : p ≠ 2 := fun z => by have := op.2; omega
    have t0 : ¬ toldP m R p := fun z => z.1 hd
    by_cases t : toldP (m / p) L p
    · rw [if_pos ⟨p2, t⟩, mem_tog, if_pos rfl]
      simp [t, t0]
    · rw [if_neg fun z => t z.2]
      simp [t, t0]
  · have td : p ∣ m ↔ p ∣ m / q := by
      constructor
      · intro z
        rcases hp with hp | hp
        · rw [hm] at z
          rcases QR.Pm.dvd_mul hp.1 z with z | z
          · exact z
          · exfalso
            have p2 := hp.1.1
            rcases Int.lt_or_eq_of_le (Int.le_of_dvd (by have := hq.1; omega) z) with y | y
            · exact hq.2 p p2 y z
            · exact e y
        · exact absurd z (PrOk.ndvd hp.1 hp.2)
      · intro z
        rw [hm]
        exact Int.dvd_mul_of_dvd_left z
    have t : toldP (m / q) L p ↔ toldP m R p := by
      unfold toldP
      rw [td]
      by_cases z : p ∣ m / q
      · simp [z]
      · have := h.same p (hp.cop fun y => z (td.mp y))
        simp [z, this]
    rw [t]
    have s : p ∈ (if q ≠ 2 ∧ toldP (m / q) L q then togL S q else S) ↔ p ∈ S := by
      split
      · rw [mem_tog, if_neg e]
      · exact Iff.rfl
    rw [s]
/-! part m_bl -/
theorem inV_bl {b : Bool} : ∀ {bs : List Bool}, inV (.bl b) (bs.map V.bl) = decide (b ∈ bs)
  | [] => by simp [inV]
  | c :: bs => by
    have ih := inV_bl (b := b) (bs := bs)
    unfold inV at ih ⊢
    rw [List.map_cons, List.any_cons, ih]
    cases b <;> cases c <;> simp [eqV]
theorem flat_bl : ∀ {bs : List Bool}, (bs.map V.bl).all flatV = true
  | [] => rfl
  | _ :: bs => by
    rw [List.map_cons, List.all_cons, flat_bl]
    rfl
theorem lft_bl {R : List Int} {b : Bool} {ls : List Int} : b ∈ ls.map (fun l => decide (l ∈ R)) ↔ ∃ l ∈ ls, decide (l ∈ R) = b := List.mem_map
/-! part m_insl -/
theorem insL_new {l : List Int} {k : Int} (h : k ∉ l) : insL l k = l ++ [k] := by
  unfold insL
  rw [if_neg h]
/-! part m_facs -/
theorem pow_dvd {p q : Int} (hp : QR.Pm p) (hq : QR.Pm q) : ∀ e : Nat, p ∣ q ^ e → p = q
  | 0, h => by
    rw [Int.pow_zero] at h
    have := Int.le_of_dvd (by decide) h
    have := hp.1
    omega
  | e + 1, h => by
    rw [Int.pow_succ] at h
    rcases QR.Pm.dvd_mul hp h with h | h
    · exact pow_dvd hp hq e h
    · rcases Int.lt_or_eq_of_le (Int.le_of_dvd (by have := hq.1; omega) h) with z | z
      · exact absurd h (hq.2 p hp.1 z)
      · exact z
theorem prodF_dvd {p : Int} (hp : QR.Pm p) : ∀ {fs : List (Int × Nat)}, (∀ x, x ∈ fs → QR.Pm x.1 ∧ 1 ≤ x.2) → (p ∣ prodF fs ↔ ∃ x ∈ fs, x.1 = p)
  | [], _ => by
    constructor
    · intro h
      have := Int.le_of_dvd (by simp [prodF]) h
      have := hp.1
      simp [prodF] at *
      omega
    · rintro ⟨x, h, _⟩
      cases h
  | y :: fs, h => by
    have ih := prodF_dvd hp (fs := fs) fun x hx => h x (List.mem_cons_of_mem _ hx)
    obtain ⟨y1, y2⟩ := h y List.mem_cons_self
    constructor
    · intro d
      rcases QR.Pm.dvd_mul hp (show p ∣ y.1 ^ y.2 * prodF fs from d) with d | d
      · exact ⟨y, List.mem_cons_self, (pow_dvd hp y1 _ d).symm⟩
      · obtain ⟨x, hx, e⟩ := ih.mp d
        exact ⟨x, List.mem_cons_of_mem _ hx, e⟩
    · rintro ⟨x, hx, e⟩
      show p ∣ y.1 ^ y.2 * prodF fs
      rcases List.mem_cons.mp hx with rfl | hx
      · refine Int.dvd_mul_of_dvd_left ?_
        rw [e]
        obtain ⟨k, hk⟩ : ∃ k, x.2 = k + 1 := ⟨x.2 - 1, by omega⟩
        rw [hk, Int.pow_succ]
        exact Int.dvd_mul_left _ _
      · exact Int.dvd_mul_of_dvd_right (ih.mpr ⟨x, hx, e⟩)
theorem FacOk.mem {n p : Int} {fs : List (Int × Nat)} (h : FacOk n fs) : (∃ x ∈ fs, x.1 = p) ↔ QR.Pm p ∧ p ∣ n := by
  constructor
  · rintro ⟨x, hx, rfl⟩
    have hp := (h.prime x hx).1
    exact ⟨hp, by rw [← h.prod]; exact (prodF_dvd hp h.prime).mpr ⟨x, hx, rfl⟩⟩
  · rintro ⟨hp, d⟩
    rw [← h.prod] at d
    exact (prodF_dvd hp h.prime).mp d
theorem FacOk.len {n : Int} {fs : List (Int × Nat)} (h : FacOk n fs) (hn : n < 2 ^ 99) : fs.length < 100 := by
  have := prodF_big fs h.prime
  rw [h.prod] at this
  rcases Nat.lt_or_ge fs.length 100 with z | z
  · exact z
  · exfalso
    have a : (2 : Nat) ^ 100 ≤ 2 ^ fs.length := Nat.pow_le_pow_right (by decide) z
    have b : ((2 ^ fs.length : Nat) : Int) = 2 ^ fs.length := by rw [Int.natCast_pow]; rfl
    have c : (2 : Int) ^ 99 < ((2 ^ 100 : Nat) : Int) := by decide
    omega
/-! part m_least -/
structure LeastOk (m : Int) (R S : List Int) (m' : Int) (R' S' : List Int) : Prop where
  desc : Desc m' R' S'
  sub : Sub m R m' R'
  rn : R'.Nodup
  sn : S'.Nodup
  mem : ∀ p, PrOk m p → (memP m' R' S' p ↔ memP m R S p)
  len : m' * 2 ^ S'.length ≤ m * 2 ^ S.length
  src : ∀ p ∈ S', p ∈ S ∨ p ∣ m
/-- no divisor of the modulus by one of its primes tells as much -/
def LowAt (m : Int) (R : List Int) (q : Int) : Prop := q ∣ m → ¬ Lv m R (m / q)
theorem LeastOk.refl {m : Int} {R S : List Int} (h : Desc m R S) (rn : R.Nodup) (sn : S.Nodup) : LeastOk m R S m R S := ⟨h, Sub.refl m R, rn, sn, fun _ _ => Iff.rfl, Int.le_refl _, fun _ h => .inl h⟩
section
variable {m m' q : Int} {R S R' S' L : List Int}
theorem div_pos_of {m q : Int} (hm : 1 ≤ m) (hq : 2 ≤ q) (hd : q ∣ m) : 1 ≤ m / q ∧ m / q + 1 ≤ m := by
  have e := Int.ediv_mul_cancel hd
  have a : 1 ≤ m / q := by
    rcases Int.lt_or_le 0 (m / q) with z | z
    · exact z
    · have := Int.mul_le_mul_of_nonneg_right z (show 0 ≤ q by omega)
      omega
  refine ⟨a, ?_⟩
  have := Int.mul_le_mul_of_nonneg_left hq (show 0 ≤ m / q by omega)
  omega
theorem pow2_mono {a b : Nat} (h : a ≤ b) : (2 : Int) ^ a ≤ 2 ^ b := by
  have := Nat.pow_le_pow_right (show 0 < 2 by decide) h
  exact_mod_cast this
theorem LeastOk.next (h : LeastOk m R S m' R' S') (hq : QR.Pm q) (hd : q ∣ m') (k : Short m' R' (m' / q) L) : LeastOk m R S (m' / q) L (nextS (m' / q) L S' q) := by
  have q2 := hq.1
  obtain ⟨s1, s2⟩ := div_pos_of h.desc.pos q2 hd
  refine ⟨⟨s1, fun r hr => ?_, fun p hp => ?_⟩, h.sub.trans (k.sub ⟨q, (Int.ediv_mul_cancel hd).symm⟩), k.inc.imp fun h => by omega, ?_, fun p hp => (memP_next hq s1 hd k (hp.dvd h.sub.dvd)).trans (h.mem p hp), ?_, fun p hp => ?_⟩
  · exact mem_uL.mp (k.mem r hr)
  · unfold nextS at hp
    split at hp
    · rename_i z
      rw [mem_tog] at hp
      by_cases e : p = q
      · exact ⟨e ▸ hq, QR.pm_odd (e ▸ hq) (by omega)⟩
      · rw [if_neg e] at hp
        exact h.desc.singles p hp
    · exact h.desc.singles p hp
  · unfold nextS
    split
    · exact tog_nodup h.sn
    · exact h.sn
  · refine Int.le_trans ?_ h.len
    have a : (2 : Int) ^ (nextS (m' / q) L S' q).length ≤ 2 ^ S'.length * 2 := by
      rw [← Int.pow_succ]
      refine pow2_mono ?_
      unfold nextS
      split
      · exact tog_len
      · omega
    refine Int.le_trans (Int.mul_le_mul_of_nonneg_left a (by omega)) ?_
    rw [Int.mul_comm (2 ^ S'.length), ← Int.mul_assoc]
    refine Int.mul_le_mul_of_nonneg_right ?_ (Int.pow_nonneg (by decide))
    have := Int.mul_le_mul_of_nonneg_left q2 (show 0 ≤ m' / q by omega)
    rw [Int.ediv_mul_cancel hd] at this
    exact this
  · unfold nextS at hp
    split at hp
    · rw [mem_tog] at hp
      by_cases e : p = q
      · exact .inr (e ▸ Int.dvd_trans hd h.sub.dvd)
      · rw [if_neg e] at hp
        exact h.src p hp
    · exact h.src p hp
theorem LeastOk.few (h : LeastOk m R S m' R' S') (hm : m ≤ 4000) : S'.length ≤ S.length + 11 := by
  rcases Nat.lt_or_ge (S.length + 11) S'.length with z | z
  · exfalso
    have a := h.len
    have b : (2 : Int) ^ S.length * 2 ^ 12 ≤ 2 ^ S'.length := by
      rw [← Int.pow_add]
      exact pow2_mono (by omega)
    have c : m * 2 ^ S.length ≤ 4000 * 2 ^ S.length := Int.mul_le_mul_of_nonneg_right hm (Int.pow_nonneg (by decide))
    have d := Int.mul_le_mul_of_nonneg_right h.desc.pos (show (0 : Int) ≤ 2 ^ S'.length from Int.pow_nonneg (by decide))
    have p0 : (0 : Int) < 2 ^ S.length := Int.pow_pos (by decide)
    omega
  · exact z
theorem LowAt.next {q0 : Int} (l : LowAt m' R' q0) (hq : QR.Pm q) (hq0 : QR.Pm q0) (p1 : 1 ≤ m') (hd : q ∣ m') (k : Short m' R' (m' / q) L) : LowAt (m' / q) L q0 := by
  intro d z
  have e := (Int.ediv_mul_cancel hd)
  have d' : q0 ∣ m' := by rw [← e]; exact Int.dvd_mul_of_dvd_left d
  have q2 := hq0.1
  have e2 := Int.ediv_mul_cancel d
  have e3 : m' = m' / q / q0 * q * q0 := by rw [Int.mul_assoc, Int.mul_comm q q0, ← Int.mul_assoc, e2, e]
  exact l d' (Lv.up (k.sub ⟨q, e.symm⟩) z ⟨q, Int.ediv_eq_of_eq_mul_left (by omega) e3⟩)
theorem lowAt_of_not (h : ¬ Lv m R (m / q)) : LowAt m R q := fun _ => h
theorem lowAt_nd (h : ¬ q ∣ m) : LowAt m R q := fun z => absurd z h
theorem dvd_next {x : Int} (hx : QR.Pm x) (hq : QR.Pm q) (hd : q ∣ m) (h : x ∣ m) (ne : x ≠ q) : x ∣ m / q := by
  rw [← Int.ediv_mul_cancel hd] at h
  rcases QR.Pm.dvd_mul hx h with z | z
  · exact z
  · exfalso
    rcases Int.lt_or_eq_of_le (Int.le_of_dvd (by have := hq.1; omega) z) with y | y
    · exact hq.2 x hx.1 y z
    · exact ne y
end
/-- a least description, in order -/
structure IsLeast (m : Int) (R S : List Int) : Prop where
  desc : Desc m R S
  ri : R.Pairwise (· < ·)
  si : S.Pairwise (· < ·)
  low : ∀ q, QR.Pm q → LowAt m R q
/-- what making a set gives -/
structure Made (m : Int) (R S : List Int) (m' : Int) (R' S' : List Int) : Prop where
  least : IsLeast m' R' S'
  sub : Sub m R m' R'
  mem : ∀ p, PrOk m p → (memP m' R' S' p ↔ memP m R S p)
  few : S'.length ≤ S.length + 11
  src : ∀ p ∈ S', p ∈ S ∨ p ∣ m
def SameL (a b : List Int) : Prop := ∀ k, k ∈ a ↔ k ∈ b
theorem Lv.congr {m : Int} {R R' : List Int} {s : Int} (h : SameL R R') : Lv m R s ↔ Lv m R' s := by
  unfold Lv
  exact ⟨fun l x y a b c => by rw [← h, ← h]; exact l x y a b c, fun l x y a b c => by rw [h, h]; exact l x y a b c⟩
theorem toldP_congr {m p : Int} {R R' : List Int} (h : SameL R R') : toldP m R p ↔ toldP m R' p := by
  unfold toldP
  rw [h]
theorem memP_congr {m p : Int} {R R' S S' : List Int} (h : SameL R R') (k : SameL S S') : memP m R S p ↔ memP m R' S' p := by
  unfold memP
  rw [toldP_congr h, k]
theorem LeastOk.made {m : Int} {R S R0 S0 : List Int} {m' : Int} {R1 S1 R' S' : List Int} (h : LeastOk m R0 S0 m' R1 S1) (low : ∀ q, QR.Pm q → LowAt m' R1 q) (hm : m ≤ 4000) (e1 : SameL R0 R) (e2 : SameL S0 S) (l0 : S0.length ≤ S.length) (e3 : SameL R' R1) (e4 : SameL S' S1) (l1 : S'.length ≤ S1.length) (r : R'.Pairwise (· < ·)) (s : S'.Pairwise (· < ·)) : Made m R S m' R' S' := by
  refine ⟨⟨⟨h.desc.pos, fun x hx => h.desc.rests x ((e3 x).mp hx), fun x hx => h.desc.singles x ((e4 x).mp hx)⟩, r, s, fun q hq d z => low q hq d ((Lv.congr e3).mp z)⟩, ⟨h.sub.dvd, fun x hx => ?_⟩, fun p hp => ?_, ?_, fun p hp => ?_⟩
  · rw [e3, h.sub.same x hx, e1]
  · rw [memP_congr e3 e4, h.mem p hp, memP_congr e1 e2]
  · have := h.few hm
    omega
  · exact (h.src p ((e4 p).mp hp)).imp_left (e2 p).mp
theorem nodup_sub_len : ∀ {l s : List Int}, l.Nodup → (∀ k ∈ l, k ∈ s) → l.length ≤ s.length
  | [], _, _, _ => Nat.zero_le _
  | k :: l, s, h, hs => by
    have hk := hs k List.mem_cons_self
    obtain ⟨h1, h2⟩ := List.nodup_cons.mp h
    have := nodup_sub_len (l := l) (s := s.erase k) h2 fun j hj => (List.mem_erase_of_ne fun (e : j = k) => h1 (e ▸ hj)).mpr (hs j (List.mem_cons_of_mem _ hj))
    rw [List.length_erase_of_mem hk] at this
    have := List.length_pos_of_mem hk
    rw [List.length_cons]
    omega
/-- a unit of a divisor comes from a unit -/
theorem unit_lift : ∀ (n : Nat) {m s r : Int}, 0 < s → m = s * n → 0 < n → r ∈ uL s → ∃ x, Int.gcd x m = 1 ∧ x % s = r := by
  intro n
  induction n using Nat.strongRecOn with
  | _ n ih =>
    intro m s r hs hm hn hr
    rcases Nat.lt_or_ge n 2 with h | h
    · obtain ⟨r0, r1, rc⟩ := mem_uL.mp hr
      have : n = 1 := by omega
      subst this
      refine ⟨r, ?_, Int.emod_eq_of_lt r0 r1⟩
      rw [hm, show s * ((1 : Nat) : Int) = s by simp]
      exact rc
    · obtain ⟨q, hq, hd⟩ := QR.exists_pm n h
      have q2 := hq.1
      obtain ⟨l, hl⟩ := List.exists_mem_of_ne_nil _ (lft_ne (m := s * q) hq hs rfl hr)
      obtain ⟨c, e1, e2⟩ := lft_prop hs rfl hr hl
      obtain ⟨k, hk⟩ := hd
      have sq : 0 < s * q := Int.mul_pos hs (by omega)
      have k0 : 0 < k := by
        rcases Int.lt_or_le 0 k with z | z
        · exact z
        · have := Int.mul_le_mul_of_nonneg_left z (show 0 ≤ q by omega)
          omega
      have hu : l ∈ uL (s * q) := mem_uL.mpr ⟨by rw [← e1]; exact Int.emod_nonneg _ (by omega), by rw [← e1]; exact Int.emod_lt_of_pos _ sq, c⟩
      have kn : k.toNat < n := by
        have := Int.mul_le_mul_of_nonneg_right q2 (show 0 ≤ k by omega)
        omega
      obtain ⟨x, x1, x2⟩ := ih k.toNat kn sq (show m = s * q * ((k.toNat : Nat) : Int) by rw [hm, hk, show ((k.toNat : Nat) : Int) = k by omega, Int.mul_assoc, Int.mul_comm q k]) (by omega) hu
      refine ⟨x, x1, ?_⟩
      have : x % (s * q) % s = x % s := Int.emod_emod_of_dvd x ⟨q, rfl⟩
      rw [← this, x2, e2]
theorem Sub.lift {m m' : Int} {R R' : List Int} (h : Sub m R m' R') (m1 : 1 ≤ m) (m2 : 1 ≤ m') {r : Int} (hr : r ∈ uL m') : ∃ x, Int.gcd x m = 1 ∧ x % m' = r := by
  obtain ⟨k, hk⟩ := h.dvd
  have k0 : 0 < k := by
    rcases Int.lt_or_le 0 k with z | z
    · exact z
    · have := Int.mul_le_mul_of_nonneg_left z (show 0 ≤ m' by omega)
      omega
  exact unit_lift k.toNat (by omega) (by rw [hk, show ((k.toNat : Nat) : Int) = k by omega]) (by omega) hr
/-! part m_can -/
theorem bez : ∀ (b a : Nat), ∃ u v : Int, (a : Int) * u + b * v = (Nat.gcd a b : Nat) := by
  intro b
  induction b using Nat.strongRecOn with
  | _ b ih =>
    intro a
    rcases Nat.eq_zero_or_pos b with h | h
    · subst h
      exact ⟨1, 0, by simp⟩
    · obtain ⟨u, v, e⟩ := ih (a % b) (Nat.mod_lt _ h) b
      refine ⟨v, u - (a / b : Nat) * v, ?_⟩
      have g : Nat.gcd a b = Nat.gcd b (a % b) := by rw [Nat.gcd_comm a b, Nat.gcd_rec b a, Nat.gcd_comm]
      rw [g, ← e]
      have d : (a : Int) = b * (a / b : Nat) + (a % b : Nat) := by
        have := Nat.div_add_mod a b
        omega
      generalize ((a / b : Nat) : Int) = q at *
      generalize ((a % b : Nat) : Int) = r at *
      rw [d]
      grind
theorem crt {s t x y : Int} (hs : 0 ≤ s) (ht : 0 ≤ t) (h : ((Int.gcd s t : Nat) : Int) ∣ x - y) : ∃ z, s ∣ z - x ∧ t ∣ z - y := by
  obtain ⟨u, v, e⟩ := bez t.toNat s.toNat
  obtain ⟨k, hk⟩ := h
  have g : Nat.gcd s.toNat t.toNat = Int.gcd s t := by
    rw [Int.gcd]
    congr 1 <;> omega
  rw [g, show ((s.toNat : Nat) : Int) = s by omega, show ((t.toNat : Nat) : Int) = t by omega] at e
  rw [← e] at hk
  exact ⟨x - s * u * k, ⟨-(u * k), by grind⟩, ⟨v * k, by grind⟩⟩
theorem lift_of_dvd {m L z : Int} (m1 : 1 ≤ m) (L0 : 0 ≤ L) (d : L ∣ m) (h : Int.gcd z L = 1) : ∃ w, Int.gcd w m = 1 ∧ L ∣ w - z := by
  obtain ⟨k, hk⟩ := d
  have L1 : 0 < L := by
    rcases Int.lt_or_eq_of_le L0 with c | c
    · exact c
    · rw [← c, Int.zero_mul] at hk
      omega
  have k0 : 0 < k := by
    rcases Int.lt_or_le 0 k with c | c
    · exact c
    · have := Int.mul_le_mul_of_nonneg_left c (show 0 ≤ L by omega)
      omega
  obtain ⟨w, w1, w2⟩ := unit_lift k.toNat (m := m) (r := z % L) L1 (by rw [hk, show ((k.toNat : Nat) : Int) = k by omega]) (by omega) (mem_uL.mpr ⟨Int.emod_nonneg _ (by omega), Int.emod_lt_of_pos _ L1, QR.cop_emod.mpr h⟩)
  exact ⟨w, w1, QR.dvd_of_emod_eq w2⟩
section
variable {m s t : Int} {R : List Int}
/-- a unit of the whole with given rests, where they agree -/
theorem meet {x y : Int} (m1 : 1 ≤ m) (s1 : 1 ≤ s) (t1 : 1 ≤ t) (hs : s ∣ m) (ht : t ∣ m) (hx : Int.gcd x m = 1) (hy : Int.gcd y m = 1) (d : ((Int.gcd s t : Nat) : Int) ∣ x - y) : ∃ z, Int.gcd z m = 1 ∧ s ∣ z - x ∧ t ∣ z - y := by
  obtain ⟨z, zx, zy⟩ := crt (by omega) (by omega) d
  have hL : ((Int.lcm s t : Nat) : Int) ∣ m := Int.coe_lcm_dvd hs ht
  have sL : s ∣ ((Int.lcm s t : Nat) : Int) := Int.dvd_lcm_left ..
  have tL : t ∣ ((Int.lcm s t : Nat) : Int) := Int.dvd_lcm_right ..
  have Lst : ((Int.lcm s t : Nat) : Int) ∣ s * t := Int.coe_lcm_dvd (Int.dvd_mul_right ..) (Int.dvd_mul_left ..)
  have lcm0 : (0 : Int) ≤ ((Int.lcm s t : Nat) : Int) := by omega
  generalize ((Int.lcm s t : Nat) : Int) = L at *
  have cz : Int.gcd z L = 1 := QR.cop_iff.mpr fun p hp a b => by
    rcases QR.Pm.dvd_mul hp (Int.dvd_trans b Lst) with c | c
    · refine QR.cop_iff.mp hx p hp ?_ (Int.dvd_trans c hs)
      have := Int.dvd_sub a (Int.dvd_trans c zx)
      rwa [show z - (z - x) = x by omega] at this
    · refine QR.cop_iff.mp hy p hp ?_ (Int.dvd_trans c ht)
      have := Int.dvd_sub a (Int.dvd_trans c zy)
      rwa [show z - (z - y) = y by omega] at this
  obtain ⟨w, w1, w2⟩ := lift_of_dvd m1 lcm0 hL cz
  refine ⟨w, w1, ?_, ?_⟩
  · have := Int.dvd_add (Int.dvd_trans sL w2) zx
    rwa [show w - z + (z - x) = w - x by omega] at this
  · have := Int.dvd_add (Int.dvd_trans tL w2) zy
    rwa [show w - z + (z - y) = w - y by omega] at this
/-- what two divisors tell, their common divisor tells -/
theorem Lv.gcd (m1 : 1 ≤ m) (s1 : 1 ≤ s) (t1 : 1 ≤ t) (hs : s ∣ m) (ht : t ∣ m) (a : Lv m R s) (b : Lv m R t) : Lv m R ((Int.gcd s t : Nat) : Int) := by
  intro x y hx hy d
  obtain ⟨w, w1, w2, w3⟩ := meet m1 s1 t1 hs ht hx hy d
  exact (a w x w1 hx w2).symm.trans (b w y w1 hy w3)
theorem Lv.mono (h : Lv m R s) (d : s ∣ t) : Lv m R t := fun x y hx hy e => h x y hx hy (Int.dvd_trans d e)
/-- told ahead of a shortening, told behind it -/
theorem Lv.down {m' : Int} {R' : List Int} (h : Sub m R m' R') (m1 : 1 ≤ m) (p1 : 1 ≤ m') (l : Lv m R s) (d : s ∣ m') : Lv m' R' s := fun x y hx hy e => by
  obtain ⟨u, u1, u2⟩ := lift_of_dvd m1 (by omega) h.dvd hx
  obtain ⟨v, v1, v2⟩ := lift_of_dvd m1 (by omega) h.dvd hy
  have := l u v u1 v1 (by
    have a := Int.dvd_sub (Int.dvd_add (Int.dvd_trans d u2) e) (Int.dvd_trans d v2)
    rwa [show u - x + (x - y) - (v - y) = u - v by omega] at a)
  rw [← h.same u u1, ← h.same v v1, QR.emod_eq_of_dvd u2, QR.emod_eq_of_dvd v2] at this
  exact this
/-- a least modulus divides each that tells as much -/
theorem low_dvd {m' : Int} {R' : List Int} (h : Sub m R m' R') (m1 : 1 ≤ m) (p1 : 1 ≤ m') (low : ∀ q, QR.Pm q → LowAt m' R' q) (t1 : 1 ≤ t) (ht : t ∣ m) (l : Lv m R t) : m' ∣ t := by
  have lm : Lv m R m' := fun x y hx hy e => by rw [← h.same x hx, ← h.same y hy, QR.emod_eq_of_dvd e]
  have lg := Lv.gcd m1 p1 t1 h.dvd ht lm l
  have gd : ((Int.gcd m' t : Nat) : Int) ∣ m' := Int.gcd_dvd_left ..
  have gt : ((Int.gcd m' t : Nat) : Int) ∣ t := Int.gcd_dvd_right ..
  have g0 : 0 ≤ ((Int.gcd m' t : Nat) : Int) := by omega
  generalize ((Int.gcd m' t : Nat) : Int) = g at *
  obtain ⟨k, hk⟩ := gd
  have k1 : 1 ≤ k := by
    rcases Int.lt_or_le 0 k with c | c
    · omega
    · have := Int.mul_le_mul_of_nonneg_left c g0
      omega
  rcases Int.lt_or_le k 2 with c | c
  · have : k = 1 := by omega
    rw [this, Int.mul_one] at hk
    exact hk ▸ gt
  · exfalso
    obtain ⟨q, hq, qd⟩ := QR.exists_pm k.toNat (by omega)
    rw [show ((k.toNat : Nat) : Int) = k by omega] at qd
    obtain ⟨j, hj⟩ := qd
    have q2 := hq.1
    have e : m' = g * j * q := by rw [hk, hj, Int.mul_assoc, Int.mul_comm q j]
    have md : q ∣ m' := ⟨g * j, by rw [e, Int.mul_comm]⟩
    have mq : m' / q = g * j := Int.ediv_eq_of_eq_mul_left (by omega) e
    refine low q hq md (Lv.down h m1 p1 (Lv.mono lg ⟨j, mq⟩) ⟨q, ?_⟩)
    rw [mq]
    exact e
end
theorem inc_same : ∀ {a b : List Int}, a.Pairwise (· < ·) → b.Pairwise (· < ·) → (∀ k, k ∈ a ↔ k ∈ b) → a = b
  | [], [], _, _, _ => rfl
  | [], y :: b, _, _, h => absurd ((h y).mpr List.mem_cons_self) List.not_mem_nil
  | x :: a, [], _, _, h => absurd ((h x).mp List.mem_cons_self) List.not_mem_nil
  | x :: a, y :: b, ha, hb, h => by
    obtain ⟨a1, a2⟩ := List.pairwise_cons.mp ha
    obtain ⟨b1, b2⟩ := List.pairwise_cons.mp hb
    have e : x = y := by
      rcases List.mem_cons.mp ((h x).mp List.mem_cons_self) with e | m1
      · exact e
      · rcases List.mem_cons.mp ((h y).mpr List.mem_cons_self) with e | m2
        · exact e.symm
        · have := b1 x m1
          have := a1 y m2
          omega
    subst e
    rw [inc_same a2 b2 fun k => ?_]
    constructor
    · intro hk
      rcases List.mem_cons.mp ((h k).mp (List.mem_cons_of_mem _ hk)) with e | z
      · have := a1 k hk
        omega
      · exact z
    · intro hk
      rcases List.mem_cons.mp ((h k).mpr (List.mem_cons_of_mem _ hk)) with e | z
      · have := b1 k hk
        omega
      · exact z
/-- two least descriptions with the same germ and members are one -/
theorem least_unique {M m1 m2 : Int} {R1 R2 S1 S2 : List Int} (M1 : 1 ≤ M) (d1 : m1 ∣ M) (d2 : m2 ∣ M) (l1 : IsLeast m1 R1 S1) (l2 : IsLeast m2 R2 S2) (g : ∀ x, Int.gcd x M = 1 → (x % m1 ∈ R1 ↔ x % m2 ∈ R2)) (mem : ∀ p, QR.OP p → (memP m1 R1 S1 p ↔ memP m2 R2 S2 p)) : m1 = m2 ∧ R1 = R2 ∧ S1 = S2 := by
  have p1 := l1.desc.pos
  have p2 := l2.desc.pos
  have s1 : Sub M ((uL M).filter fun u => decide (u % m1 ∈ R1)) m1 R1 := ⟨d1, fun x hx => by
    rw [List.mem_filter, decide_eq_true_iff, Int.emod_emod_of_dvd x d1]
    exact ⟨fun h => ⟨unit_of (Int.dvd_refl M) (by omega) hx, h⟩, fun h => h.2⟩⟩
  have s2 : Sub M ((uL M).filter fun u => decide (u % m1 ∈ R1)) m2 R2 := ⟨d2, fun x hx => by
    rw [← g x hx, s1.same x hx]⟩
  have lv : ∀ {m' : Int} {R' : List Int}, Sub M ((uL M).filter fun u => decide (u % m1 ∈ R1)) m' R' → Lv M ((uL M).filter fun u => decide (u % m1 ∈ R1)) m' := fun h x y hx hy e => by rw [← h.same x hx, ← h.same y hy, QR.emod_eq_of_dvd e]
  have e : m1 = m2 := Int.le_antisymm (Int.le_of_dvd (by omega) (low_dvd s1 M1 p1 l1.low p2 d2 (lv s2))) (Int.le_of_dvd (by omega) (low_dvd s2 M1 p2 l2.low p1 d1 (lv s1)))
  subst e
  have eR : R1 = R2 := inc_same l1.ri l2.ri fun r => by
    constructor
    · intro hr
      obtain ⟨x, x1, x2⟩ := s1.lift M1 p1 (mem_uL.mpr (l1.desc.rests r hr))
      have := (g x x1).mp (by rw [x2]; exact hr)
      rwa [x2] at this
    · intro hr
      obtain ⟨x, x1, x2⟩ := s1.lift M1 p1 (mem_uL.mpr (l2.desc.rests r hr))
      have := (g x x1).mpr (by rw [x2]; exact hr)
      rwa [x2] at this
  subst eR
  refine ⟨rfl, rfl, inc_same l1.si l2.si fun p => ?_⟩
  by_cases hp : QR.OP p
  · have := mem p hp
    unfold memP at this
    by_cases t : toldP m1 R1 p <;> by_cases a : p ∈ S1 <;> by_cases b : p ∈ S2 <;> simp [t, a, b] at this ⊢
  · exact ⟨fun h => absurd (l1.desc.singles p h) hp, fun h => absurd (l2.desc.singles p h) hp⟩
/-! part m_k41 -/
def bigS : List Int := [3, 5, 7, 11, 13, 29, 7919, 99991]
theorem bigS_op : ∀ p ∈ bigS, QR.OP p ∧ p < 2 ^ 120 := by
  intro p h
  simp only [bigS, List.mem_cons, List.not_mem_nil, or_false] at h
  rcases h with rfl | rfl | rfl | rfl | rfl | rfl | rfl | rfl
  · exact ⟨QR.op_by (n := 3) 2 (by decide) (by decide) (by decide) (by decide +kernel), by decide⟩
  · exact ⟨QR.op_by (n := 5) 3 (by decide) (by decide) (by decide) (by decide +kernel), by decide⟩
  · exact ⟨QR.op_by (n := 7) 3 (by decide) (by decide) (by decide) (by decide +kernel), by decide⟩
  · exact ⟨QR.op_by (n := 11) 4 (by decide) (by decide) (by decide) (by decide +kernel), by decide⟩
  · exact ⟨QR.op_by (n := 13) 4 (by decide) (by decide) (by decide) (by decide +kernel), by decide⟩
  · exact ⟨QR.op_by (n := 29) 6 (by decide) (by decide) (by decide) (by decide +kernel), by decide⟩
  · exact ⟨QR.op_by (n := 7919) 90 (by decide) (by decide) (by decide) (by decide +kernel), by decide⟩
  · exact ⟨QR.op_by (n := 99991) 320 (by decide) (by decide) (by decide) (by decide +kernel), by decide⟩
theorem mem_none {p : Int} : ¬ memP 1 [] [] p := by simp [memP, toldP]
def RowsOk (ys : List V) (n : Nat) : Prop := ∃ ns : List Int, ys = ns.map V.int ∧ (∀ p ∈ ns, QR.OP p) ∧ ns.length ≤ n
theorem RowsOk.nil : RowsOk [] 0 := ⟨[], rfl, fun p h => absurd h List.not_mem_nil, Nat.le_refl _⟩
theorem RowsOk.put {ys : List V} {n : Nat} {p : Int} (h : RowsOk ys n) (hp : QR.OP p) : RowsOk (ys ++ [.int p]) (n + 1) := by
  obtain ⟨ns, rfl, h1, h2⟩ := h
  refine ⟨ns ++ [p], by rw [List.map_append]; rfl, fun q hq => ?_, by rw [List.length_append, List.length_singleton]; omega⟩
  rcases List.mem_append.mp hq with hq | hq
  · exact h1 q hq
  · rw [List.mem_singleton.mp hq]
    exact hp
theorem RowsOk.skip {ys : List V} {n : Nat} (h : RowsOk ys n) : RowsOk ys (n + 1) := by
  obtain ⟨ns, e, h1, h2⟩ := h
  exact ⟨ns, e, h1, by omega⟩
theorem Made.lenR {m m' : Int} {R S R' S' : List Int} (h : Made m R S m' R' S') (m1 : 1 ≤ m) (m2 : m ≤ 4000) : R'.length ≤ 4000 := by
  have := Int.le_of_dvd (by omega) h.sub.dvd
  exact nodup_le (M := 4000) (h.least.ri.imp fun h => by omega) fun r hr => by
    have := h.least.desc.rests r hr
    omega
/-! part m_join -/
/-- a set by what it holds: its modulus divides M, its rests go by g, its primes by P -/
structure Fits (M : Int) (g P : Int → Bool) (m : Int) (R S : List Int) : Prop where
  least : IsLeast m R S
  dvd : m ∣ M
  germ : ∀ x, Int.gcd x M = 1 → decide (x % m ∈ R) = g x
  mem : ∀ p, QR.OP p → decide (memP m R S p) = P p
theorem dec_iff {a b : Prop} [Decidable a] [Decidable b] : decide a = decide b ↔ (a ↔ b) := decide_eq_decide
theorem Fits.eq {M : Int} {g P g' P' : Int → Bool} {m m' : Int} {R S R' S' : List Int} (M1 : 1 ≤ M) (a : Fits M g P m R S) (b : Fits M g' P' m' R' S') (hg : ∀ x, g x = g' x) (hP : ∀ p, P p = P' p) : m = m' ∧ R = R' ∧ S = S' :=
  least_unique M1 a.dvd b.dvd a.least b.least (fun x hx => dec_iff.mp ((a.germ x hx).trans ((hg x).trans (b.germ x hx).symm))) fun p hp => dec_iff.mp ((a.mem p hp).trans ((hP p).trans (b.mem p hp).symm))
/-- two sets joined by a rule -/
structure Comb (J : Bool → Bool → Bool) (m1 : Int) (R1 S1 : List Int) (m2 : Int) (R2 S2 : List Int) (m' : Int) (R' S' : List Int) : Prop where
  least : IsLeast m' R' S'
  dvd : m' ∣ ((Int.lcm m1 m2 : Nat) : Int)
  germ : ∀ x, Int.gcd x ((Int.lcm m1 m2 : Nat) : Int) = 1 → decide (x % m' ∈ R') = J (decide (x % m1 ∈ R1)) (decide (x % m2 ∈ R2))
  mem : ∀ p, QR.OP p → decide (memP m' R' S' p) = J (decide (memP m1 R1 S1 p)) (decide (memP m2 R2 S2 p))
  few : S'.length ≤ S1.length + S2.length + 111
  src : ∀ p ∈ S', p ∈ S1 ∨ p ∈ S2 ∨ p ∣ ((Int.lcm m1 m2 : Nat) : Int)
theorem Comb.fits {J : Bool → Bool → Bool} {M : Int} {g1 P1 g2 P2 : Int → Bool} {m1 m2 m' : Int} {R1 S1 R2 S2 R' S' : List Int} (c : Comb J m1 R1 S1 m2 R2 S2 m' R' S') (a : Fits M g1 P1 m1 R1 S1) (b : Fits M g2 P2 m2 R2 S2) : Fits M (fun x => J (g1 x) (g2 x)) (fun p => J (P1 p) (P2 p)) m' R' S' := by
  have d : ((Int.lcm m1 m2 : Nat) : Int) ∣ M := Int.coe_lcm_dvd a.dvd b.dvd
  exact ⟨c.least, Int.dvd_trans c.dvd d, fun x hx => by rw [c.germ x (QR.cop_dvd_right hx d), a.germ x hx, b.germ x hx], fun p hp => by rw [c.mem p hp, a.mem p hp, b.mem p hp]⟩
/-- the others -/
structure Inv (m : Int) (R S : List Int) (m' : Int) (R' S' : List Int) : Prop where
  least : IsLeast m' R' S'
  dvd : m' ∣ m
  germ : ∀ x, Int.gcd x m = 1 → decide (x % m' ∈ R') = !decide (x % m ∈ R)
  mem : ∀ p, QR.OP p → decide (memP m' R' S' p) = !decide (memP m R S p)
  few : S'.length ≤ S.length + 111
  src : ∀ p ∈ S', p ∈ S ∨ p ∣ m
theorem Inv.fits {M : Int} {g P : Int → Bool} {m m' : Int} {R S R' S' : List Int} (c : Inv m R S m' R' S') (a : Fits M g P m R S) : Fits M (fun x => !g x) (fun p => !P p) m' R' S' :=
  ⟨c.least, Int.dvd_trans c.dvd a.dvd, fun x hx => by rw [c.germ x (QR.cop_dvd_right hx a.dvd), a.germ x hx], fun p hp => by rw [c.mem p hp, a.mem p hp]⟩
theorem Made.fits {M m m' : Int} {R S R' S' : List Int} (h : Made m R S m' R' S') (d : m ∣ M) : Fits M (fun x => decide (x % m ∈ R)) (fun p => decide (memP m R S p)) m' R' S' :=
  ⟨h.least, Int.dvd_trans h.sub.dvd d, fun x hx => dec_iff.mpr (h.sub.same x (QR.cop_dvd_right hx d)), fun p hp => dec_iff.mpr (h.mem p (.inl hp))⟩
theorem IsLeast.fits {M m : Int} {R S : List Int} (h : IsLeast m R S) (d : m ∣ M) : Fits M (fun x => decide (x % m ∈ R)) (fun p => decide (memP m R S p)) m R S := ⟨h, d, fun _ _ => rfl, fun _ _ => rfl⟩
/-- a set as a least description of fair size -/
structure SetOk (m : Int) (R S : List Int) : Prop where
  least : IsLeast m R S
  le : m ≤ 4000
  few : S.length ≤ 1000
  small : ∀ p ∈ S, p < 2 ^ 120
theorem least_len {m : Int} {R S : List Int} (h : IsLeast m R S) (le : m ≤ 4000) : R.length ≤ 4000 := by
  refine nodup_le (M := 4000) (h.ri.imp fun h => by omega) fun k hk => ?_
  have := h.desc.rests k hk
  omega
/-- Fits, of a fair size -/
structure Pf (M : Int) (n : Nat) (g P : Int → Bool) (m : Int) (R S : List Int) : Prop where
  fits : Fits M g P m R S
  few : S.length ≤ n
  small : ∀ p ∈ S, p < 2 ^ 120
section
variable {M m1 m2 m' m : Int} {n n1 n2 : Nat} {g P g1 P1 g2 P2 : Int → Bool} {R S R1 S1 R2 S2 R' S' : List Int}
theorem Pf.ok (h : Pf M n g P m R S) (M1 : 1 ≤ M) (M4 : M ≤ 4000) (hn : n ≤ 1000) : SetOk m R S :=
  ⟨h.fits.least, Int.le_trans (Int.le_of_dvd (by omega) h.fits.dvd) M4, Nat.le_trans h.few hn, h.small⟩
theorem Pf.imp {g' P' : Int → Bool} (h : Pf M n g P m R S) (hg : ∀ x, Int.gcd x M = 1 → g x = g' x) (hP : ∀ p, QR.OP p → P p = P' p) : Pf M n g' P' m R S := ⟨⟨h.fits.least, h.fits.dvd, fun x hx => (h.fits.germ x hx).trans (hg x hx), fun p hp => (h.fits.mem p hp).trans (hP p hp)⟩, h.few, h.small⟩
theorem Pf.eq (M1 : 1 ≤ M) (a : Pf M n1 g1 P1 m1 R1 S1) (b : Pf M n2 g2 P2 m2 R2 S2) (hg : ∀ x, g1 x = g2 x) (hP : ∀ p, P1 p = P2 p) : decide (m1 = m2 ∧ R1 = R2 ∧ S1 = S2) = true := decide_eq_true (a.fits.eq M1 b.fits hg hP)
theorem least_nil : IsLeast 1 [] [] := ⟨⟨by decide, fun r h => absurd h List.not_mem_nil, fun p h => absurd h List.not_mem_nil⟩, List.Pairwise.nil, List.Pairwise.nil, fun q hq d => by
  have := Int.le_of_dvd (by decide) d
  have := hq.1
  omega⟩
/-- nothing is in it: no rests, no singles -/
theorem Pf.nil (M1 : 1 ≤ M) (a : Pf M n g P m R S) (hg : ∀ x, g x = false) (hP : ∀ p, P p = false) : R = [] ∧ S = [] := by
  have b : Fits M (fun _ => false) (fun _ => false) 1 [] [] := ⟨least_nil, Int.one_dvd _, fun x _ => by simp, fun p _ => decide_eq_false mem_none⟩
  exact (a.fits.eq M1 b hg hP).2
end
/-! part m_split -/
open PySem.StrLaws PySem.Builtin PySem.Builtin.Str in
theorem occ_all (x : Str) (c : Nat) : ∀ (n a : Nat) (st : Array Nat × Nat), st.snd ≤ a → st.fst.size ≤ a → a + n ≤ x.length + 1 →
    (forIn (List.range' a n) st (occBody x ⟨#[c]⟩ x.length (x.length + 1))).run.fst.toList = st.fst.toList ++ (List.range' a n).filter fun i => decide (x.cps.toList[i]? = some c)
  | 0, a, st, _, _, _ => by simp
  | n + 1, a, st, h1, h2, h3 => by
    have hl : x.cps.toList.length = x.length := by simp [Str.length]
    rw [List.range'_succ, List.forIn_cons]
    unfold occBody
    by_cases h : x.cps.toList[a]? = some c
    · have hlt := (List.getElem?_eq_some_iff.mp h).1
      have hs : subAt x ⟨#[c]⟩ a = true := ((subAt_one x c a).mpr h).2
      rw [if_pos ⟨⟨⟨by omega, h1⟩, by show a + 1 ≤ x.length; omega⟩, hs⟩, List.filter_cons_of_pos (by simpa using h)]
      refine (occ_all x c n (a + 1) (st.fst.push a, a + 1) (Nat.le_refl _) (by simpa using h2) (by omega)).trans ?_
      simp
    · rw [if_neg fun z => h ((subAt_one x c a).mp ⟨z.1.2, z.2⟩), List.filter_cons_of_neg (by simpa using h)]
      exact occ_all x c n (a + 1) st (by omega) (by omega) (by omega)
/-- a text, cut at its blanks -/
def cutB : List Nat → List (List Nat)
  | [] => [[]]
  | c :: cs => if c = 32 then [] :: cutB cs else match cutB cs with
    | p :: ps => (c :: p) :: ps
    | [] => [[c]]
theorem cutB_ne : ∀ cs, ∃ p ps, cutB cs = p :: ps
  | [] => ⟨_, _, rfl⟩
  | c :: cs => by
    obtain ⟨p, ps, e⟩ := cutB_ne cs
    rw [cutB, e]
    split <;> exact ⟨_, _, rfl⟩
theorem cutB_word : ∀ {w : List Nat}, 32 ∉ w → cutB w = [w]
  | [], _ => rfl
  | c :: w, h => by
    rw [cutB, if_neg fun e => h (by rw [e]; exact List.mem_cons_self), cutB_word fun z => h (List.mem_cons_of_mem _ z)]
theorem cutB_glue : ∀ {w : List Nat} {r : List Nat}, 32 ∉ w → cutB (w ++ 32 :: r) = w :: cutB r
  | [], r, _ => by
    show cutB (32 :: r) = _
    rw [cutB, if_pos rfl]
  | c :: w, r, h => by
    show cutB (c :: (w ++ 32 :: r)) = _
    rw [cutB, if_neg fun e => h (by rw [e]; exact List.mem_cons_self), cutB_glue fun z => h (List.mem_cons_of_mem _ z)]
def mkS (l : List Nat) : Str := ⟨l.toArray⟩
def blanks (l : List Nat) (a : Nat) : List Nat := (List.range' a (l.length - a)).filter fun i => decide (l[i]? = some 32)
open PySem.StrLaws PySem.Builtin PySem.Builtin.Str in
theorem sub_eq (x : Str) (i j : Nat) : strSub x i j = mkS ((x.cps.toList.drop i).take (j - i)) := by
  apply Str.ext'
  apply Array.toList_inj.mp
  rw [strSub_toList]
  rfl
open PySem.StrLaws PySem.Builtin PySem.Builtin.Str in
theorem parts_cutB (x : Str) : ∀ n a, n = x.cps.toList.length - a → a ≤ x.cps.toList.length → partsFrom x 1 a (blanks x.cps.toList a) = (cutB (x.cps.toList.drop a)).map mkS
  | 0, a, hn, ha => by
    have hl : x.cps.toList.length = x.length := by simp [Str.length]
    have e : a = x.cps.toList.length := by omega
    have eb : blanks x.cps.toList a = [] := by
      unfold blanks
      rw [← hn]
      rfl
    rw [eb, partsFrom, sub_eq, e, List.drop_length]
    simp [cutB]
  | n + 1, a, hn, ha => by
    have hl : x.cps.toList.length = x.length := by simp [Str.length]
    have hlt : a < x.cps.toList.length := by omega
    have ih := parts_cutB x n (a + 1) (by omega) (by omega)
    have ed : x.cps.toList.drop a = x.cps.toList[a] :: x.cps.toList.drop (a + 1) := List.drop_eq_getElem_cons hlt
    have er : List.range' a (x.cps.toList.length - a) = a :: List.range' (a + 1) (x.cps.toList.length - (a + 1)) := by
      rw [show x.cps.toList.length - a = (x.cps.toList.length - (a + 1)) + 1 by omega, List.range'_succ]
    have eg : x.cps.toList[a]? = some x.cps.toList[a] := List.getElem?_eq_getElem hlt
    by_cases hc : x.cps.toList[a] = 32
    · have eb : blanks x.cps.toList a = a :: blanks x.cps.toList (a + 1) := by
        unfold blanks
        rw [er, List.filter_cons_of_pos (by rw [eg, hc]; simp)]
      rw [eb, partsFrom, ih, ed, cutB, if_pos hc, sub_eq, Nat.sub_self, List.take_zero]
      rfl
    · have eb : blanks x.cps.toList a = blanks x.cps.toList (a + 1) := by
        unfold blanks
        rw [er, List.filter_cons_of_neg (by rw [eg]; simpa using hc)]
      rw [eb, ed, cutB, if_neg hc]
      have hge : ∀ d ∈ blanks x.cps.toList (a + 1), a + 1 ≤ d := fun d hd => by
        have := List.mem_range'_1.mp (List.mem_filter.mp hd).1
        omega
      have take1 : ∀ d, a + 1 ≤ d → strSub x a d = mkS (x.cps.toList[a] :: (x.cps.toList.drop (a + 1)).take (d - (a + 1))) := fun d h => by
        rw [sub_eq, ed, show d - a = (d - (a + 1)) + 1 by omega, List.take_succ_cons]
      generalize blanks x.cps.toList (a + 1) = cuts at *
      obtain ⟨p, ps, e⟩ := cutB_ne (x.cps.toList.drop (a + 1))
      rw [e] at ih ⊢
      cases cuts with
      | nil =>
        rw [partsFrom, sub_eq] at ih
        rw [partsFrom, take1 _ (by omega)]
        injection ih with h1 h2
        have h1 : (x.cps.toList.drop (a + 1)).take (x.length - (a + 1)) = p := by
          have := congrArg (fun z : Str => z.cps.toList) h1
          simpa [mkS] using this
        show [_] = mkS _ :: ps.map mkS
        rw [h1, ← h2]
      | cons d r =>
        rw [partsFrom, sub_eq] at ih
        rw [partsFrom, take1 _ (hge d List.mem_cons_self)]
        injection ih with h1 h2
        have h1 : (x.cps.toList.drop (a + 1)).take (d - (a + 1)) = p := by
          have := congrArg (fun z : Str => z.cps.toList) h1
          simpa [mkS] using this
        show _ :: _ = mkS _ :: ps.map mkS
        rw [h1, h2]
theorem mkS_cps (x : Str) : mkS x.cps.toList = x := by
  apply Str.ext'
  simp [mkS]
open PySem.StrLaws PySem.Builtin PySem.Builtin.Str in
theorem split_cutB (x : Str) : Txt.split x " " = (cutB x.cps.toList).map mkS := by
  have hl : x.cps.toList.length = x.length := by simp [Str.length]
  have hsp : (" " : Str) = ⟨#[32]⟩ := by decide +kernel
  have eo : occurrences x (" " : Str) 0 x.length (x.length + 1) = blanks x.cps.toList 0 := by
    rw [occ_eq, hsp]
    refine (occ_all x 32 (x.length + 1 - 0) 0 (#[], 0) (Nat.le_refl _) (Nat.le_refl _) (by omega)).trans ?_
    unfold blanks
    rw [hl, Nat.sub_zero, Nat.sub_zero, List.range'_concat, List.filter_append]
    have : x.cps.toList[x.length]? = none := List.getElem?_eq_none (by omega)
    simp only [List.filter_cons, List.filter_nil, Nat.zero_add, Nat.one_mul, this]
    simp
  have ep := parts_cutB x (x.cps.toList.length - 0) 0 rfl (Nat.zero_le _)
  rw [List.drop_zero] at ep
  have one : partsFrom x 1 0 [] = [x] := by
    rw [partsFrom, sub_eq, List.drop_zero, Nat.sub_zero, ← hl, List.take_length, mkS_cps]
  unfold Txt.split
  rw [eo]
  have k1 : PySem.Builtin.Str.strKind (" " : Str) = 1 := by decide +kernel
  have k2 : 1 ≤ PySem.Builtin.Str.strKind x := by
    unfold PySem.Builtin.Str.strKind
    split
    · exact Nat.le_refl _
    · split <;> omega
  have l1 : (" " : Str).length = 1 := by decide +kernel
  by_cases h0 : x.length < 1
  · rw [if_pos (by rw [l1, decide_eq_true h0]; rfl)]
    have e : x.cps.toList = [] := List.eq_nil_of_length_eq_zero (by omega)
    have e2 := mkS_cps x
    rw [e] at e2 ⊢
    rw [cutB, List.map_singleton, e2]
  · rw [if_neg (by rw [l1, k1, decide_eq_false h0, decide_eq_false (by omega)]; decide)]
    split
    · rename_i he
      have : blanks x.cps.toList 0 = [] := List.isEmpty_iff.mp he
      rw [this, one] at ep
      exact ep
    · rw [partsBetween_eq, l1]
      exact ep
theorem cutB_join : ∀ {ws : List Str}, ws ≠ [] → (∀ w ∈ ws, 32 ∉ w.cps.toList) → cutB (Str.join " " ws).cps.toList = ws.map fun w => w.cps.toList
  | [], h, _ => absurd rfl h
  | [w], _, h => by
    rw [Str.join]
    exact cutB_word (h w List.mem_cons_self)
  | w :: v :: ws, _, h => by
    have ih := cutB_join (ws := v :: ws) (by simp) fun u hu => h u (List.mem_cons_of_mem _ hu)
    rw [show Str.join " " (w :: v :: ws) = w ++ (" " : Str) ++ Str.join " " (v :: ws) from rfl]
    rw [show (w ++ (" " : Str) ++ Str.join " " (v :: ws)).cps.toList = w.cps.toList ++ 32 :: (Str.join " " (v :: ws)).cps.toList by
      rw [Str.cps_append, Str.cps_append, Array.toList_append, Array.toList_append, show (" " : Str).cps.toList = [32] by decide +kernel, List.append_assoc]
      rfl]
    rw [cutB_glue (h w List.mem_cons_self), ih]
    rfl
/-- words that are joined and cut again -/
theorem split_join {ws : List Str} (h : ws ≠ []) (hw : ∀ w ∈ ws, 32 ∉ w.cps.toList) : Txt.split (Txt.join " " ws) " " = ws := by
  rw [split_cutB, show Txt.join (" " : Str) ws = Str.join " " ws from PySem.StrLaws.glued_eq_join _ _, cutB_join h hw, List.map_map]
  exact (List.map_congr_left fun w _ => mkS_cps w).trans (List.map_id _)
/-! part m_k45 -/
/-! words that are numbers, and descriptions read from words -/
def isN (w : Str) : Bool :=
  let l := w.cps.toList
  if l = [] ∨ 6 < l.length ∨ ¬ (l.all fun c => decide (48 ≤ c ∧ c ≤ 57)) = true then false else decide (l = [48] ∨ l.head? ≠ some 48)
def valN (l : List Nat) : Nat := l.foldl (fun acc c => acc * 10 + (c - 48)) 0
def nVal (w : Str) : Int := ((valN w.cps.toList : Nat) : Int)
theorem valN_lt : ∀ (l : List Nat) (a : Nat), (∀ c ∈ l, 48 ≤ c ∧ c ≤ 57) → l.foldl (fun acc c => acc * 10 + (c - 48)) a < (a + 1) * 10 ^ l.length
  | [], a, _ => by simp
  | c :: l, a, h => by
    have z := valN_lt l (a * 10 + (c - 48)) fun x hx => h x (List.mem_cons_of_mem _ hx)
    have hc := h c List.mem_cons_self
    rw [List.foldl_cons, List.length_cons, Nat.pow_succ]
    refine Nat.lt_of_lt_of_le z ?_
    rw [show (a + 1) * (10 ^ l.length * 10) = (a * 10 + 10) * 10 ^ l.length by grind]
    exact Nat.mul_le_mul_right _ (by omega)
theorem isN_val {w : Str} (h : isN w = true) : intText? w = some (nVal w) ∧ w.length ≤ 6 ∧ 0 ≤ nVal w ∧ nVal w < 1000000 := by
  unfold isN at h
  dsimp only at h
  have hl : w.cps.toList.length = w.length := by simp [Str.length]
  unfold nVal
  by_cases hd : w.cps.toList = [] ∨ 6 < w.cps.toList.length ∨ ¬ (w.cps.toList.all fun c => decide (48 ≤ c ∧ c ≤ 57)) = true
  · rw [if_pos hd] at h
    cases h
  · simp only [not_or, Decidable.not_not] at hd
    obtain ⟨d1, d2, d3⟩ := hd
    have dg : ∀ c ∈ w.cps.toList, 48 ≤ c ∧ c ≤ 57 := fun c hc => by simpa using List.all_eq_true.mp d3 c hc
    refine ⟨PySem.intText_digits (fun c hc => by simpa using List.all_eq_true.mp d3 c hc) d1 (by omega), by omega, by omega, ?_⟩
    have a := valN_lt w.cps.toList 0 dg
    have b : 10 ^ w.cps.toList.length ≤ 10 ^ 6 := Nat.pow_le_pow_right (by decide) (by omega)
    have e : valN w.cps.toList = w.cps.toList.foldl (fun acc c => acc * 10 + (c - 48)) 0 := rfl
    rw [← e] at a
    omega
/-- the numbers from a place on -/
def numW (ws : List Str) (i : Nat) : List Str := (ws.drop i).takeWhile isN
theorem numW_yes {ws : List Str} {i : Nat} {w : Str} (h : ws[i]? = some w) (hw : isN w = true) : numW ws i = w :: numW ws (i + 1) := by
  unfold numW
  have hi := (List.getElem?_eq_some_iff.mp h).1
  have e := (List.getElem?_eq_some_iff.mp h).2
  rw [List.drop_eq_getElem_cons hi, e, List.takeWhile_cons, if_pos hw]
theorem numW_no {ws : List Str} {i : Nat} (h : ∀ w, ws[i]? = some w → isN w = false) : numW ws i = [] := by
  unfold numW
  by_cases hi : i < ws.length
  · rw [List.drop_eq_getElem_cons hi, List.takeWhile_cons, if_neg (by rw [h _ (List.getElem?_eq_getElem hi)]; simp)]
  · rw [List.drop_eq_nil_of_le (by omega)]
    rfl
theorem numW_le {ws : List Str} {i : Nat} : (numW ws i).length ≤ ws.length - i := by
  unfold numW
  have := (List.takeWhile_sublist isN (l := ws.drop i)).length_le
  rw [List.length_drop] at this
  exact this
theorem numW_isN {ws : List Str} {i : Nat} {w : Str} (h : w ∈ numW ws i) : isN w = true := by
  unfold numW at h
  exact List.all_eq_true.mp List.all_takeWhile w h
/-- what is read: a place that is wrong, or a description -/
def rdP (ws : List Str) : Except Nat (Int × List Int × List Int) :=
  if ws[0]? ≠ some ("modulo" : Str) then .error 0 else
  match ws[1]? with
  | none => .error 1
  | some w => if isN w = false then .error 1 else
    if ws[2]? ≠ some ("rests" : Str) then .error 2 else
    if ws[3 + (numW ws 3).length]? ≠ some ("singles" : Str) then .error (3 + (numW ws 3).length) else
    if 3 + (numW ws 3).length + 1 + (numW ws (3 + (numW ws 3).length + 1)).length < ws.length then .error (3 + (numW ws 3).length + 1 + (numW ws (3 + (numW ws 3).length + 1)).length) else
    .ok (nVal w, (numW ws 3).map nVal, (numW ws (3 + (numW ws 3).length + 1)).map nVal)
theorem kw_no : isN "modulo" = false ∧ isN "rests" = false ∧ isN "singles" = false := by decide +kernel
/-- the state of the law's own reader -/
inductive LSt (ws : List Str) : Nat → Int → Int → List Int → List Int → Prop
  | s0 : LSt ws 0 0 0 [] []
  | s1 : ws[0]? = some ("modulo" : Str) → LSt ws 1 1 0 [] []
  | s2 (w : Str) : ws[0]? = some ("modulo" : Str) → ws[1]? = some w → isN w = true → LSt ws 2 2 (nVal w) [] []
  | s3 (w : Str) (i k : Nat) : ws[0]? = some ("modulo" : Str) → ws[1]? = some w → isN w = true → ws[2]? = some ("rests" : Str) → i = 3 + k → k ≤ (numW ws 3).length → LSt ws i 3 (nVal w) (((numW ws 3).take k).map nVal) []
  | s4 (w : Str) (i k : Nat) : ws[0]? = some ("modulo" : Str) → ws[1]? = some w → isN w = true → ws[2]? = some ("rests" : Str) → ws[3 + (numW ws 3).length]? = some ("singles" : Str) → i = 3 + (numW ws 3).length + 1 + k → k ≤ (numW ws (3 + (numW ws 3).length + 1)).length → LSt ws i 4 (nVal w) ((numW ws 3).map nVal) (((numW ws (3 + (numW ws 3).length + 1)).take k).map nVal)
theorem numW_take {ws : List Str} {a k : Nat} {w : Str} (h : k ≤ (numW ws a).length) (hi : ws[a + k]? = some w) : (isN w = true → k < (numW ws a).length ∧ (numW ws a)[k]? = some w) ∧ (isN w = false → k = (numW ws a).length) := by
  induction k generalizing a with
  | zero =>
    rw [Nat.add_zero] at hi
    refine ⟨fun z => ?_, fun z => ?_⟩
    · rw [numW_yes hi z]
      simp
    · rw [numW_no fun v hv => by rw [show ws[a]? = some w from hi] at hv; cases hv; exact z]
      rfl
  | succ k ih =>
    cases hx : ws[a]? with
    | none =>
      rw [numW_no fun v hv => by rw [hx] at hv; cases hv] at h
      simp at h
    | some v =>
      cases hv : isN v with
      | false =>
        rw [numW_no fun u hu => by rw [hx] at hu; cases hu; exact hv] at h
        simp at h
      | true =>
        rw [numW_yes hx hv] at h ⊢
        have := ih (a := a + 1) (by simpa using h) (by rw [show a + 1 + k = a + (k + 1) by omega]; exact hi)
        simpa using this
theorem numW_end {ws : List Str} {a k : Nat} (h : k ≤ (numW ws a).length) (e : a + k = ws.length) : k = (numW ws a).length := by
  have := numW_le (ws := ws) (i := a)
  omega
theorem take_map {k : Nat} {w : Str} {l : List Str} (h : l[k]? = some w) : (l.take (k + 1)).map nVal = (l.take k).map nVal ++ [nVal w] := by
  rw [List.take_add_one, h, List.map_append]
  rfl
variable {ws : List Str} {i : Nat} {st m : Int} {R S : List Int} {w : Str}
theorem LSt.num1 (h : LSt ws i st m R S) (e : st = 1) (hi : ws[i]? = some w) (hw : isN w = true) : LSt ws (i + 1) 2 (nVal w) R S := by
  cases h <;> try omega
  rename_i h0
  exact .s2 w h0 hi hw
theorem LSt.bad1 (h : LSt ws i st m R S) (e : st = 1) (hi : ws[i]? = some w) (hw : isN w = false) : rdP ws = .error i := by
  cases h <;> try omega
  rename_i h0
  unfold rdP
  rw [if_neg (by simp [h0]), hi]
  simp [hw]
theorem LSt.kw0 (h : LSt ws i st m R S) (e : st = 0) (hi : ws[i]? = some ("modulo" : Str)) : LSt ws (i + 1) 1 m R S := by
  cases h <;> try omega
  exact .s1 hi
theorem LSt.bad0 (h : LSt ws i st m R S) (e : st = 0) (hi : ws[i]? ≠ some ("modulo" : Str)) : rdP ws = .error i := by
  cases h <;> try omega
  unfold rdP
  rw [if_pos hi]
theorem LSt.kw2 (h : LSt ws i st m R S) (e : st = 2) (hi : ws[i]? = some ("rests" : Str)) : LSt ws (i + 1) 3 m R S := by
  cases h <;> try omega
  rename_i w h0 h1 h2
  exact .s3 w 3 0 h0 h1 h2 hi rfl (Nat.zero_le _)
theorem LSt.bad2 (h : LSt ws i st m R S) (e : st = 2) (hi : ws[i]? ≠ some ("rests" : Str)) : rdP ws = .error i := by
  cases h <;> try omega
  rename_i w h0 h1 h2
  unfold rdP
  rw [if_neg (by simp [h0]), h1]
  simp only [h2]
  rw [if_neg (by simp), if_pos hi]
theorem LSt.kw3 (h : LSt ws i st m R S) (e : st = 3) (hi : ws[i]? = some ("singles" : Str)) : LSt ws (i + 1) 4 m R S := by
  cases h <;> try omega
  rename_i w k h0 h1 h2 h3 h5 h4
  subst h4
  have ek := (numW_take h5 hi).2 kw_no.2.2
  rw [ek, List.take_length]
  exact .s4 w _ 0 h0 h1 h2 h3 (by rw [← ek]; exact hi) rfl (Nat.zero_le _)
theorem LSt.num3 (h : LSt ws i st m R S) (e : st = 3) (hi : ws[i]? = some w) (hw : isN w = true) : LSt ws (i + 1) 3 m (R ++ [nVal w]) S := by
  cases h <;> try omega
  rename_i w2 k h0 h1 h2 h3 h5 h4
  subst h4
  obtain ⟨a, b⟩ := (numW_take h5 hi).1 hw
  rw [← take_map b]
  exact .s3 w2 _ (k + 1) h0 h1 h2 h3 (by omega) (by omega)
theorem LSt.bad3 (h : LSt ws i st m R S) (e : st = 3) (hi : ws[i]? = some w) (hn : w ≠ "singles") (hw : isN w = false) : rdP ws = .error i := by
  cases h <;> try omega
  rename_i w2 k h0 h1 h2 h3 h5 h4
  subst h4
  have ek := (numW_take h5 hi).2 hw
  unfold rdP
  rw [if_neg (by simp [h0]), h1]
  simp only [h2]
  rw [if_neg (by simp), if_neg (by simp [h3]), if_pos (by rw [← ek, hi]; simpa using hn), ek]
theorem LSt.num4 (h : LSt ws i st m R S) (e : st = 4) (hi : ws[i]? = some w) (hw : isN w = true) : LSt ws (i + 1) 4 m R (S ++ [nVal w]) := by
  cases h <;> try omega
  rename_i w2 k h0 h1 h2 h3 h4 h6 h5
  subst h5
  obtain ⟨a, b⟩ := (numW_take h6 hi).1 hw
  rw [← take_map b]
  exact .s4 w2 _ (k + 1) h0 h1 h2 h3 h4 (by omega) (by omega)
theorem LSt.bad4 (h : LSt ws i st m R S) (e : st = 4) (hi : ws[i]? = some w) (hw : isN w = false) : rdP ws = .error i := by
  cases h <;> try omega
  rename_i w2 k h0 h1 h2 h3 h4 h6 h5
  subst h5
  have ek := (numW_take h6 hi).2 hw
  have hl := (List.getElem?_eq_some_iff.mp hi).1
  unfold rdP
  rw [if_neg (by simp [h0]), h1]
  simp only [h2]
  rw [if_neg (by simp), if_neg (by simp [h3]), if_neg (by simp [h4]), if_pos (by rw [← ek]; exact hl), ← ek]
theorem LSt.stop (h : LSt ws ws.length st m R S) : (st < 4 → rdP ws = .error ws.length) ∧ (st = 4 → rdP ws = .ok (m, R, S)) := by
  have none : ∀ {v : Str}, ws[ws.length]? ≠ some v := fun {v} z => by simp at z
  generalize hn : ws.length = n at h
  cases h with
  | s0 => exact ⟨fun _ => (LSt.s0 (ws := ws)).bad0 rfl (by rw [← hn]; exact none), fun z => by cases z⟩
  | s1 h0 =>
    refine ⟨fun _ => ?_, fun z => by cases z⟩
    unfold rdP
    rw [if_neg (by simp [h0]), show ws[1]? = Option.none from List.getElem?_eq_none (by omega)]
  | s2 w h0 h1 h2 => exact ⟨fun _ => (LSt.s2 w h0 h1 h2).bad2 rfl (by rw [← hn]; exact none), fun z => by cases z⟩
  | s3 w i k h0 h1 h2 h3 h4 h5 =>
    refine ⟨fun _ => ?_, fun z => by cases z⟩
    have ek := numW_end h5 (by omega)
    unfold rdP
    rw [if_neg (by simp [h0]), h1]
    simp only [h2]
    rw [if_neg (by simp), if_neg (by simp [h3]), if_pos (by rw [← ek, ← h4, ← hn]; exact none), ← ek, ← h4]
  | s4 w i k h0 h1 h2 h3 h4 h5 h6 =>
    refine ⟨fun z => absurd z (by decide), fun _ => ?_⟩
    have ek := numW_end h6 (by omega)
    unfold rdP
    rw [if_neg (by simp [h0]), h1]
    simp only [h2]
    rw [if_neg (by simp), if_neg (by simp [h3]), if_neg (by simp [h4]), if_neg (by omega), ek, List.take_length]
theorem LSt.all (h : LSt ws i st m R S) : st = 0 ∨ st = 1 ∨ st = 2 ∨ st = 3 ∨ st = 4 := by
  cases h <;> omega
theorem LSt.few (h : LSt ws i st m R S) : R.length ≤ ws.length ∧ S.length ≤ ws.length := by
  have a := numW_le (ws := ws) (i := 3)
  have b := numW_le (ws := ws) (i := 3 + (numW ws 3).length + 1)
  cases h <;> simp <;> omega
/-! part m_strok -/
theorem strOk_str (s : String) : PyData.strOk (Str.ofString s) = true := by
  unfold PyData.strOk Str.ofString
  dsimp only
  rw [cpsOfBytes_string]
  simp only [List.size_toArray, List.all_toArray', List.all_eq_true, List.mem_map, decide_eq_true_eq]
  rintro x ⟨c, _, rfl⟩
  have := c.valid
  have e : c.toNat = c.val.toNat := rfl
  rw [e]
  unfold UInt32.isValidChar Nat.isValidChar at this
  omega
/-! part m_strjoin -/
theorem strOk_fold {sep : Str} (hs : PyData.strOk sep = true) : ∀ {ys : List Str} {acc : Array Nat}, acc.all (· < 0x110000) = true → (∀ y ∈ ys, PyData.strOk y = true) → (ys.foldl (fun acc p => acc ++ sep.cps ++ p.cps) acc).all (· < 0x110000) = true
  | [], _, h, _ => h
  | y :: ys, acc, h, k => by
    rw [List.foldl_cons]
    refine strOk_fold hs (ys := ys) ?_ fun z hz => k z (List.mem_cons_of_mem _ hz)
    have a := k y List.mem_cons_self
    unfold PyData.strOk at hs a
    rw [Array.all_append, Array.all_append, h, hs, a]
    rfl
theorem strOk_join {sep : Str} {ys : List Str} (hs : PyData.strOk sep = true) (h : ∀ y ∈ ys, PyData.strOk y = true) : PyData.strOk (Txt.join sep ys) = true := by
  cases ys with
  | nil => exact (show PyData.strOk Str.empty = true by decide +kernel)
  | cons y ys => exact strOk_fold hs (ys := ys) (h y List.mem_cons_self) fun z hz => h z (List.mem_cons_of_mem _ hz)
/-! part m_cut -/
theorem sIx_nn {n d : Nat} {i : Int} (h : 0 ≤ i) : HT.sIx n d (some i) = min i.toNat n := by
  unfold HT.sIx
  simp
  omega
/-! ## the text by places -/
def topS (i : Nat) : Stmt := PySem.Challenge.pw_everyprime_k45_sets_written_and_read.main.body.getD i (.Pass ⟨0, 0, 0, 0⟩)
abbrev s_law_take : Stmt := topS 32
theorem sc_law_take : FnScope ["_law_pool_here", "_law_limit", "_law_drawn", "_law_mixed"] ["_law_pool_here", "_law_limit"] (defScope s_law_take) := ⟨rfl, rfl, rfl, by decide +kernel, rfl, by decide +kernel, by decide +kernel⟩
abbrev s_law_common : Stmt := topS 36
theorem sc_law_common : FnScope ["_law_a", "_law_b", "_law_first", "_law_second"] ["_law_a", "_law_b"] (defScope s_law_common) := ⟨rfl, rfl, rfl, by decide +kernel, rfl, by decide +kernel, by decide +kernel⟩
abbrev s_law_units : Stmt := topS 37
theorem sc_law_units : FnScope ["_law_modulus", "_law_rest"] ["_law_modulus"] (defScope s_law_units) := ⟨rfl, rfl, rfl, by decide +kernel, rfl, by decide +kernel, by decide +kernel⟩
abbrev s_law_described : Stmt := topS 38
theorem sc_law_described : FnScope ["_law_pool_here", "_law_widest", "_law_modulus", "_law_rests", "_law_which", "_law_rest", "_law_singles", "_law_p"] ["_law_pool_here", "_law_widest"] (defScope s_law_described) := ⟨rfl, rfl, rfl, by decide +kernel, rfl, by decide +kernel, by decide +kernel⟩
abbrev s_checked_modulus : Stmt := topS 18
theorem sc_checked_modulus : FnScope ["modulus"] ["modulus"] (defScope s_checked_modulus) := ⟨rfl, rfl, rfl, by decide +kernel, rfl, by decide +kernel, by decide +kernel⟩
abbrev s_is_prime : Stmt := topS 11
theorem sc_is_prime : FnScope ["n", "divisor"] ["n"] (defScope s_is_prime) := ⟨rfl, rfl, rfl, by decide +kernel, rfl, by decide +kernel, by decide +kernel⟩
abbrev s_checked_singles : Stmt := topS 19
theorem sc_checked_singles : FnScope ["singles", "p"] ["singles"] (defScope s_checked_singles) := ⟨rfl, rfl, rfl, by decide +kernel, rfl, by decide +kernel, by decide +kernel⟩
abbrev s_common : Stmt := topS 9
theorem sc_common : FnScope ["a", "b", "first", "second"] ["a", "b"] (defScope s_common) := ⟨rfl, rfl, rfl, by decide +kernel, rfl, by decide +kernel, by decide +kernel⟩
abbrev s_factors : Stmt := topS 10
theorem sc_factors : FnScope ["n", "found", "divisor", "exponent"] ["n"] (defScope s_factors) := ⟨rfl, rfl, rfl, by decide +kernel, rfl, by decide +kernel, by decide +kernel⟩
abbrev s_units : Stmt := topS 16
theorem sc_units : FnScope ["modulus", "rest"] ["modulus"] (defScope s_units) := ⟨rfl, rfl, rfl, by decide +kernel, rfl, by decide +kernel, by decide +kernel⟩
abbrev s_shortened : Stmt := topS 20
theorem sc_shortened : FnScope ["modulus", "rests", "prime", "smaller", "kept", "rest", "lifts", "found", "k", "lift"] ["modulus", "rests", "prime"] (defScope s_shortened) := ⟨rfl, rfl, rfl, by decide +kernel, rfl, by decide +kernel, by decide +kernel⟩
abbrev s_toggled : Stmt := topS 22
theorem sc_toggled : FnScope ["singles", "p", "other"] ["singles", "p"] (defScope s_toggled) := ⟨rfl, rfl, rfl, by decide +kernel, rfl, by decide +kernel, by decide +kernel⟩
abbrev s_told_by : Stmt := topS 21
theorem sc_told_by : FnScope ["modulus", "rests", "p"] ["modulus", "rests", "p"] (defScope s_told_by) := ⟨rfl, rfl, rfl, by decide +kernel, rfl, by decide +kernel, by decide +kernel⟩
abbrev s_least_description : Stmt := topS 23
theorem sc_least_description : FnScope ["modulus", "rests", "singles", "prime", "exponent", "kept"] ["modulus", "rests", "singles"] (defScope s_least_description) := ⟨rfl, rfl, rfl, by decide +kernel, rfl, by decide +kernel, by decide +kernel⟩
abbrev s_Primes_init : Stmt := inClass (topS 29) 0
theorem sc_Primes_init : FnScope ["self", "modulus", "rests", "singles", "rest", "found"] ["self", "modulus", "rests", "singles"] (defScope s_Primes_init) := ⟨rfl, rfl, rfl, by decide +kernel, rfl, by decide +kernel, by decide +kernel⟩
abbrev s_Primes_str : Stmt := inClass (topS 29) 13
theorem sc_Primes_str : FnScope ["self", "words", "rest", "p"] ["self"] (defScope s_Primes_str) := ⟨rfl, rfl, rfl, by decide +kernel, rfl, by decide +kernel, by decide +kernel⟩
abbrev s_law_text : Stmt := topS 40
theorem sc_law_text : FnScope ["_law_row", "_law_words", "_law_rest", "_law_p"] ["_law_row"] (defScope s_law_text) := ⟨rfl, rfl, rfl, by decide +kernel, rfl, by decide +kernel, by decide +kernel⟩
abbrev s_is_number : Stmt := topS 26
theorem sc_is_number : FnScope ["word", "sign"] ["word"] (defScope s_is_number) := ⟨rfl, rfl, rfl, by decide +kernel, rfl, by decide +kernel, by decide +kernel⟩
abbrev s_expected : Stmt := topS 28
theorem sc_expected : FnScope ["words", "at", "word"] ["words", "at", "word"] (defScope s_expected) := ⟨rfl, rfl, rfl, by decide +kernel, rfl, by decide +kernel, by decide +kernel⟩
abbrev s_numbers_from : Stmt := topS 27
theorem sc_numbers_from : FnScope ["words", "at", "found"] ["words", "at"] (defScope s_numbers_from) := ⟨rfl, rfl, rfl, by decide +kernel, rfl, by decide +kernel, by decide +kernel⟩
abbrev s_Primes_read : Stmt := inClass (topS 29) 5
theorem sc_Primes_read : FnScope ["cls", "text", "words", "rests", "at", "singles", "end"] ["cls", "text"] (defScope s_Primes_read) := ⟨rfl, rfl, rfl, by decide +kernel, rfl, by decide +kernel, by decide +kernel⟩
abbrev s_law_is_number : Stmt := topS 41
theorem sc_law_is_number : FnScope ["_law_word", "_law_sign_of"] ["_law_word"] (defScope s_law_is_number) := ⟨rfl, rfl, rfl, by decide +kernel, rfl, by decide +kernel, by decide +kernel⟩
abbrev s_law_read : Stmt := topS 42
theorem sc_law_read : FnScope ["_law_words", "_law_wanted", "_law_stage", "_law_row", "_law_at", "_law_word"] ["_law_words"] (defScope s_law_read) := ⟨rfl, rfl, rfl, by decide +kernel, rfl, by decide +kernel, by decide +kernel⟩
abbrev s_law_is_odd_prime : Stmt := topS 34
theorem sc_law_is_odd_prime : FnScope ["_law_n", "_law_k"] ["_law_n"] (defScope s_law_is_odd_prime) := ⟨rfl, rfl, rfl, by decide +kernel, rfl, by decide +kernel, by decide +kernel⟩
abbrev s_law_due : Stmt := topS 43
theorem sc_law_due : FnScope ["_law_words", "_law_found", "_law_row", "_law_rest", "_law_p"] ["_law_words"] (defScope s_law_due) := ⟨rfl, rfl, rfl, by decide +kernel, rfl, by decide +kernel, by decide +kernel⟩
abbrev s_law_told : Stmt := topS 44
theorem sc_law_told : FnScope ["_law_words", "_law_found", "e"] ["_law_words"] (defScope s_law_told) := ⟨rfl, rfl, rfl, by decide +kernel, rfl, by decide +kernel, by decide +kernel⟩
abbrev s_Primes_eq : Stmt := inClass (topS 29) 11
theorem sc_Primes_eq : FnScope ["self", "other"] ["self", "other"] (defScope s_Primes_eq) := ⟨rfl, rfl, rfl, by decide +kernel, rfl, by decide +kernel, by decide +kernel⟩
abbrev s_law_cell : Stmt := topS 33
theorem sc_law_cell : FnScope ["_law_script", "_law_k"] ["_law_script", "_law_k"] (defScope s_law_cell) := ⟨rfl, rfl, rfl, by decide +kernel, rfl, by decide +kernel, by decide +kernel⟩
abbrev s_law_pool : Stmt := topS 31
theorem sc_law_pool : FnScope ["_law_cell_here"] ["_law_cell_here"] (defScope s_law_pool) := ⟨rfl, rfl, rfl, by decide +kernel, rfl, by decide +kernel, by decide +kernel⟩
abbrev s_law : Stmt := topS 45
theorem sc_law : FnScope ["_law_script", "_law_pool_here", "_law_row", "_law_found", "_law_due_here", "_law_words", "_law_count", "_law_at", "_law_menu", "_law_word", "_law_which"] ["_law_script"] (defScope s_law) := ⟨rfl, rfl, rfl, by decide +kernel, rfl, by decide +kernel, by decide +kernel⟩
abbrev s_BadModulus_init : Stmt := inClass (topS 3) 0
abbrev s_BadPrime_init : Stmt := inClass (topS 5) 0
abbrev s_BadRest_init : Stmt := inClass (topS 4) 0
abbrev s_BadSaying_init : Stmt := inClass (topS 7) 0
abbrev s_TooWide_init : Stmt := inClass (topS 6) 0
/-- the addresses of the classes -/
structure Adr where
  c_BadModulus : Addr
  c_BadPrime : Addr
  c_BadRest : Addr
  c_BadSaying : Addr
  c_TooWide : Addr
  c_Primes : Addr
  c_base : Addr
  t_MOST_MODULUS : Tok
structure Txt (K : PySem.W.Frag) (mg : Str → Option Value) (Ad : Adr) : Prop where
  b_abs : mg "abs" = none
  b_all : mg "all" = none
  b_int : mg "int" = none
  b_isinstance : mg "isinstance" = none
  b_len : mg "len" = none
  b_list : mg "list" = none
  b_max : mg "max" = none
  b_range : mg "range" = none
  b_set : mg "set" = none
  b_sorted : mg "sorted" = none
  b_str : mg "str" = none
  b_tuple : mg "tuple" = none
  d_law_take : DefAt K mg "_law_take" s_law_take ["_law_pool_here", "_law_limit"]
  d_law_common : DefAt K mg "_law_common" s_law_common ["_law_a", "_law_b"]
  d_law_units : DefAt K mg "_law_units" s_law_units ["_law_modulus"]
  d_law_described : DefAt K mg "_law_described" s_law_described ["_law_pool_here", "_law_widest"]
  d_checked_modulus : DefAt K mg "checked_modulus" s_checked_modulus ["modulus"]
  d_is_prime : DefAt K mg "is_prime" s_is_prime ["n"]
  d_checked_singles : DefAt K mg "checked_singles" s_checked_singles ["singles"]
  d_common : DefAt K mg "common" s_common ["a", "b"]
  d_factors : DefAt K mg "factors" s_factors ["n"]
  d_units : DefAt K mg "units" s_units ["modulus"]
  d_shortened : DefAt K mg "shortened" s_shortened ["modulus", "rests", "prime"]
  d_toggled : DefAt K mg "toggled" s_toggled ["singles", "p"]
  d_told_by : DefAt K mg "told_by" s_told_by ["modulus", "rests", "p"]
  d_least_description : DefAt K mg "least_description" s_least_description ["modulus", "rests", "singles"]
  d_Primes_init : MkAt K mg "Primes" Ad.c_Primes "Primes.__init__" s_Primes_init ["self", "modulus", "rests", "singles"]
  d_Primes_str : MethAt K Ad.c_Primes "__str__" "Primes.__str__" s_Primes_str ["self"]
  d_law_text : DefAt K mg "_law_text" s_law_text ["_law_row"]
  d_is_number : DefAt K mg "is_number" s_is_number ["word"]
  d_expected : DefAt K mg "expected" s_expected ["words", "at", "word"]
  d_numbers_from : DefAt K mg "numbers_from" s_numbers_from ["words", "at"]
  d_Primes_read : CMAt K Ad.c_Primes "read" "Primes.read" s_Primes_read
  d_law_is_number : DefAt K mg "_law_is_number" s_law_is_number ["_law_word"]
  d_law_read : DefAt K mg "_law_read" s_law_read ["_law_words"]
  d_law_is_odd_prime : DefAt K mg "_law_is_odd_prime" s_law_is_odd_prime ["_law_n"]
  d_law_due : DefAt K mg "_law_due" s_law_due ["_law_words"]
  d_law_told : DefAt K mg "_law_told" s_law_told ["_law_words"]
  d_Primes_eq : MethAt K Ad.c_Primes "__eq__" "Primes.__eq__" s_Primes_eq ["self", "other"]
  d_law_cell : DefAt K mg "_law_cell" s_law_cell ["_law_script", "_law_k"]
  d_law_pool : DefAt K mg "_law_pool" s_law_pool ["_law_cell_here"]
  g_Primes : mg "Primes" = some (.ref Ad.c_Primes)
  cl_Primes : Cls K Ad.c_Primes
  ty_Primes : ∀ (H : Hp) (a dx : Addr) (fs : List (Str × V)), H a = some (.ins Ad.c_Primes dx fs) → TyX K H (.ref a) (.ref Ad.c_Primes)
  ki_Primes : PySem.W.kitOne K (.ref Ad.c_Primes) (.ref Ad.c_Primes) = some true
  kl_Primes : PySem.W.kitOne K (.type "list") (.ref Ad.c_Primes) = some false
  nl_Primes : PySem.W.notFirst K Ad.c_Primes (.type "list") = true
  nf_Primes_modulus : NoAttr K Ad.c_Primes "modulus"
  nf_Primes_rests : NoAttr K Ad.c_Primes "rests"
  nf_Primes_singles : NoAttr K Ad.c_Primes "singles"
  k_MOST_MODULUS : mg "MOST_MODULUS" = some (.int 4000 Ad.t_MOST_MODULUS)
  base : BaseC K mg Ad.c_base
  r_BadModulus : ErrRaw K mg "BadModulus" Ad.c_BadModulus s_BadModulus_init "BadModulus.__init__" ["self", "modulus"]
  no_BadModulus_modulus : PySem.W.findIn K (.ref Ad.c_BadModulus) "modulus" = some none
  r_BadPrime : ErrRaw K mg "BadPrime" Ad.c_BadPrime s_BadPrime_init "BadPrime.__init__" ["self", "p"]
  no_BadPrime_p : PySem.W.findIn K (.ref Ad.c_BadPrime) "p" = some none
  r_BadRest : ErrRaw K mg "BadRest" Ad.c_BadRest s_BadRest_init "BadRest.__init__" ["self", "rest"]
  no_BadRest_rest : PySem.W.findIn K (.ref Ad.c_BadRest) "rest" = some none
  r_BadSaying : ErrRaw K mg "BadSaying" Ad.c_BadSaying s_BadSaying_init "BadSaying.__init__" ["self", "at"]
  no_BadSaying_at : PySem.W.findIn K (.ref Ad.c_BadSaying) "at" = some none
  r_TooWide : ErrRaw K mg "TooWide" Ad.c_TooWide s_TooWide_init "TooWide.__init__" ["self", "modulus"]
  no_TooWide_modulus : PySem.W.findIn K (.ref Ad.c_TooWide) "modulus" = some none
  xn_BadModulus_BadSaying : PySem.W.exmOne K (.ref Ad.c_BadModulus) (.ref Ad.c_BadSaying) = some false
  xn_BadPrime_BadModulus : PySem.W.exmOne K (.ref Ad.c_BadPrime) (.ref Ad.c_BadModulus) = some false
  xn_BadPrime_BadRest : PySem.W.exmOne K (.ref Ad.c_BadPrime) (.ref Ad.c_BadRest) = some false
  xn_BadPrime_BadSaying : PySem.W.exmOne K (.ref Ad.c_BadPrime) (.ref Ad.c_BadSaying) = some false
  xn_BadPrime_TooWide : PySem.W.exmOne K (.ref Ad.c_BadPrime) (.ref Ad.c_TooWide) = some false
  xn_BadRest_BadModulus : PySem.W.exmOne K (.ref Ad.c_BadRest) (.ref Ad.c_BadModulus) = some false
  xn_BadRest_BadSaying : PySem.W.exmOne K (.ref Ad.c_BadRest) (.ref Ad.c_BadSaying) = some false
  xn_BadRest_TooWide : PySem.W.exmOne K (.ref Ad.c_BadRest) (.ref Ad.c_TooWide) = some false
  xn_TooWide_BadModulus : PySem.W.exmOne K (.ref Ad.c_TooWide) (.ref Ad.c_BadModulus) = some false
  xn_TooWide_BadSaying : PySem.W.exmOne K (.ref Ad.c_TooWide) (.ref Ad.c_BadSaying) = some false
  triv : True
section
variable {P : Program} {w : World} {K : PySem.W.Frag} {mg : Str → Option Value} {base : Heap} {Ad : Adr}
def fl_BadModulus (ws : List V) : List (Str × V) := match ws with | [v0] => [("modulus", v0)] | _ => []
theorem sc_BadModulus_init : FnScope ["self", "modulus"] ["self", "modulus"] (defScope s_BadModulus_init) := ⟨rfl, rfl, rfl, by decide +kernel, rfl, by decide +kernel, by decide +kernel⟩
theorem Txt.err_BadModulus (T : Txt K mg Ad) : ErrC P w K mg base "BadModulus" 1 fl_BadModulus Ad.c_BadModulus := by
  refine ErrC.of T.r_BadModulus fun fI fd F => ?_
  refine F.okX sc_BadModulus_init (fun vs H Q E h => ?_) (fun cdv A outer s H vs Q E hr h => ?_)
  · obtain ⟨a, ws, rfl, hl, _⟩ := h
    simp [hl]
  · obtain ⟨a, ws, rfl, hl, ha, q⟩ := h
    obtain ⟨v0, rfl⟩ := len_1 hl
    refine ⟨_, pss_cons (ps_expr (pe_ceinit T.base (pa_cons (pv 0) (pa_cons pe_str pa_nil)))) (pss_one (ps_ost (pv 0) (pv 1))), ?_⟩
    refine ⟨.ref a, rfl, a, Ad.c_BadModulus, [.str _], rfl, by show 1 ≤ 1000; decide, T.r_BadModulus.T, ha, ?_⟩
    refine ⟨v0, rfl, .ref a, rfl, a, Ad.c_BadModulus, rfl, T.r_BadModulus.T, T.no_BadModulus_modulus, .inl ⟨ha, fun dx nd ne => ?_⟩⟩
    exact q dx nd ne
def fl_BadPrime (ws : List V) : List (Str × V) := match ws with | [v0] => [("p", v0)] | _ => []
theorem sc_BadPrime_init : FnScope ["self", "p"] ["self", "p"] (defScope s_BadPrime_init) := ⟨rfl, rfl, rfl, by decide +kernel, rfl, by decide +kernel, by decide +kernel⟩
theorem Txt.err_BadPrime (T : Txt K mg Ad) : ErrC P w K mg base "BadPrime" 1 fl_BadPrime Ad.c_BadPrime := by
  refine ErrC.of T.r_BadPrime fun fI fd F => ?_
  refine F.okX sc_BadPrime_init (fun vs H Q E h => ?_) (fun cdv A outer s H vs Q E hr h => ?_)
  · obtain ⟨a, ws, rfl, hl, _⟩ := h
    simp [hl]
  · obtain ⟨a, ws, rfl, hl, ha, q⟩ := h
    obtain ⟨v0, rfl⟩ := len_1 hl
    refine ⟨_, pss_cons (ps_expr (pe_ceinit T.base (pa_cons (pv 0) (pa_cons pe_str pa_nil)))) (pss_one (ps_ost (pv 0) (pv 1))), ?_⟩
    refine ⟨.ref a, rfl, a, Ad.c_BadPrime, [.str _], rfl, by show 1 ≤ 1000; decide, T.r_BadPrime.T, ha, ?_⟩
    refine ⟨v0, rfl, .ref a, rfl, a, Ad.c_BadPrime, rfl, T.r_BadPrime.T, T.no_BadPrime_p, .inl ⟨ha, fun dx nd ne => ?_⟩⟩
    exact q dx nd ne
def fl_BadRest (ws : List V) : List (Str × V) := match ws with | [v0] => [("rest", v0)] | _ => []
theorem sc_BadRest_init : FnScope ["self", "rest"] ["self", "rest"] (defScope s_BadRest_init) := ⟨rfl, rfl, rfl, by decide +kernel, rfl, by decide +kernel, by decide +kernel⟩
theorem Txt.err_BadRest (T : Txt K mg Ad) : ErrC P w K mg base "BadRest" 1 fl_BadRest Ad.c_BadRest := by
  refine ErrC.of T.r_BadRest fun fI fd F => ?_
  refine F.okX sc_BadRest_init (fun vs H Q E h => ?_) (fun cdv A outer s H vs Q E hr h => ?_)
  · obtain ⟨a, ws, rfl, hl, _⟩ := h
    simp [hl]
  · obtain ⟨a, ws, rfl, hl, ha, q⟩ := h
    obtain ⟨v0, rfl⟩ := len_1 hl
    refine ⟨_, pss_cons (ps_expr (pe_ceinit T.base (pa_cons (pv 0) (pa_cons pe_str pa_nil)))) (pss_one (ps_ost (pv 0) (pv 1))), ?_⟩
    refine ⟨.ref a, rfl, a, Ad.c_BadRest, [.str _], rfl, by show 1 ≤ 1000; decide, T.r_BadRest.T, ha, ?_⟩
    refine ⟨v0, rfl, .ref a, rfl, a, Ad.c_BadRest, rfl, T.r_BadRest.T, T.no_BadRest_rest, .inl ⟨ha, fun dx nd ne => ?_⟩⟩
    exact q dx nd ne
def fl_BadSaying (ws : List V) : List (Str × V) := match ws with | [v0] => [("at", v0)] | _ => []
theorem sc_BadSaying_init : FnScope ["self", "at"] ["self", "at"] (defScope s_BadSaying_init) := ⟨rfl, rfl, rfl, by decide +kernel, rfl, by decide +kernel, by decide +kernel⟩
theorem Txt.err_BadSaying (T : Txt K mg Ad) : ErrC P w K mg base "BadSaying" 1 fl_BadSaying Ad.c_BadSaying := by
  refine ErrC.of T.r_BadSaying fun fI fd F => ?_
  refine F.okX sc_BadSaying_init (fun vs H Q E h => ?_) (fun cdv A outer s H vs Q E hr h => ?_)
  · obtain ⟨a, ws, rfl, hl, _⟩ := h
    simp [hl]
  · obtain ⟨a, ws, rfl, hl, ha, q⟩ := h
    obtain ⟨v0, rfl⟩ := len_1 hl
    refine ⟨_, pss_cons (ps_expr (pe_ceinit T.base (pa_cons (pv 0) (pa_cons pe_str pa_nil)))) (pss_one (ps_ost (pv 0) (pv 1))), ?_⟩
    refine ⟨.ref a, rfl, a, Ad.c_BadSaying, [.str _], rfl, by show 1 ≤ 1000; decide, T.r_BadSaying.T, ha, ?_⟩
    refine ⟨v0, rfl, .ref a, rfl, a, Ad.c_BadSaying, rfl, T.r_BadSaying.T, T.no_BadSaying_at, .inl ⟨ha, fun dx nd ne => ?_⟩⟩
    exact q dx nd ne
def fl_TooWide (ws : List V) : List (Str × V) := match ws with | [v0] => [("modulus", v0)] | _ => []
theorem sc_TooWide_init : FnScope ["self", "modulus"] ["self", "modulus"] (defScope s_TooWide_init) := ⟨rfl, rfl, rfl, by decide +kernel, rfl, by decide +kernel, by decide +kernel⟩
theorem Txt.err_TooWide (T : Txt K mg Ad) : ErrC P w K mg base "TooWide" 1 fl_TooWide Ad.c_TooWide := by
  refine ErrC.of T.r_TooWide fun fI fd F => ?_
  refine F.okX sc_TooWide_init (fun vs H Q E h => ?_) (fun cdv A outer s H vs Q E hr h => ?_)
  · obtain ⟨a, ws, rfl, hl, _⟩ := h
    simp [hl]
  · obtain ⟨a, ws, rfl, hl, ha, q⟩ := h
    obtain ⟨v0, rfl⟩ := len_1 hl
    refine ⟨_, pss_cons (ps_expr (pe_ceinit T.base (pa_cons (pv 0) (pa_cons pe_str pa_nil)))) (pss_one (ps_ost (pv 0) (pv 1))), ?_⟩
    refine ⟨.ref a, rfl, a, Ad.c_TooWide, [.str _], rfl, by show 1 ≤ 1000; decide, T.r_TooWide.T, ha, ?_⟩
    refine ⟨v0, rfl, .ref a, rfl, a, Ad.c_TooWide, rfl, T.r_TooWide.T, T.no_TooWide_modulus, .inl ⟨ha, fun dx nd ne => ?_⟩⟩
    exact q dx nd ne
/-! ### _law_take -/
/-- what is drawn, and what is left of the pool -/
def tkR (c k lim : Int) (b : Bool) : Int := if b = true then c % lim else ((c * 7919 + (k + 1) * 104729 + 13) % 2147483647) ^ 5 % 2147483647 / 17 % lim
def tkC (c lim : Int) (b : Bool) : Int := if b = true then c / lim else c
def spTake : Sp := fun vs H Q _ => ∃ (p : Addr) (c k lim : Int) (b : Bool), vs = [.ref p, .int lim] ∧ H p = some (.lst [.int c, .int k, .bl b]) ∧ 0 < lim ∧ lim < 2 ^ 240 ∧ 0 ≤ k ∧ k ≤ 1000000 ∧
  Q (.int (tkR c k lim b)) (upd H p (.lst [.int (tkC c lim b), .int (k + 1), .bl b]))
theorem ok_law_take (T : Txt K mg Ad) : Def P w K mg base 1 "_law_take" ["_law_pool_here", "_law_limit"] spTake := by
  refine T.d_law_take.ok sc_law_take (fun vs H Q E h => ?_) (fun f cdv A outer s H vs Q E hr h => ?_)
  · obtain ⟨p, c, k, lim, b, rfl, _⟩ := h
    rfl
  · obtain ⟨p, c, k, lim, b, rfl, hp, l0, l1, k0, k1, q⟩ := h
    refine ⟨_, (pss_cons (ps_asg (pe_op op_add (pe_ix ix_list (pv 0) pe_int (fun _ _ => rfl)) pe_int) (pg_sub (pv 0) pe_int set_list))
      (pss_cons (ps_if (pt_val (pe_ix ix_list (pv 0) pe_int (fun _ _ => rfl))) (pss_cons (ps_set (i := 2) sc_law_take.nd rfl (Or.inl rfl) (pe_op op_mod (pe_callTy c_int1 (by rfl) T.b_int (by decide +kernel) (pa_cons (pe_ix ix_list (pv 0) pe_int (fun _ _ => rfl)) pa_nil)) (pv 1)))
      (pss_cons (ps_asg (pe_op op_fdivB (pe_callTy c_int1 (by rfl) T.b_int (by decide +kernel) (pa_cons (pe_ix ix_list (pv 0) pe_int (fun _ _ => rfl)) pa_nil)) (pv 1)) (pg_sub (pv 0) pe_int set_list))
      (pss_one (ps_ret (pv 2))))) pss_nil)
      (pss_cons (ps_set (i := 3) sc_law_take.nd rfl (Or.inl rfl) (pe_op op_mod (pe_callTy c_int1 (by rfl) T.b_int (by decide +kernel) (pa_cons (pe_op op_add (pe_op op_add (pe_op op_mulB (pe_ix ix_list (pv 0) pe_int (fun _ _ => rfl)) pe_int) (pe_op op_mulB (pe_ix ix_list (pv 0) pe_int (fun _ _ => rfl)) pe_int)) pe_int) pa_nil)) pe_int))
      (pss_one (ps_ret (pe_op op_mod (pe_op op_fdivB (pe_callTy c_int1 (by rfl) T.b_int (by decide +kernel) (pa_cons (pe_op op_mod (pe_op (op_powN 5) (pv 3) pe_int) pe_int) pa_nil)) pe_int) (pv 1))))))), ?_⟩
    try dsimp only [cxOf]
    wtm_at "ra"
    · rename_i hb
      rw [show tkR c k lim b = c % lim from if_pos hb, show tkC c lim b = c / lim from if_pos hb] at q
      rw [upd_lst]
      exact q
    · rename_i hb
      rw [show tkR c k lim b = _ from if_neg (by rw [hb]; decide), show tkC c lim b = c from if_neg (by rw [hb]; decide)] at q
      exact q
theorem tkR_ok {c k lim : Int} {b : Bool} (l0 : 0 < lim) : 0 ≤ tkR c k lim b ∧ tkR c k lim b < lim := by
  unfold tkR
  split
  · exact ⟨Int.emod_nonneg _ (by omega), Int.emod_lt_of_pos _ l0⟩
  · exact ⟨Int.emod_nonneg _ (by omega), Int.emod_lt_of_pos _ l0⟩
theorem use_takeD {p : Addr} {c k lim : Int} {b : Bool} {H : Hp} {Q : VK} {E : XK} (hp : H p = some (.lst [.int c, .int k, .bl b])) (l0 : 0 < lim) (l1 : lim < 2 ^ 240) (k0 : 0 ≤ k) (k1 : k ≤ 1000000)
    (q : Q (.int (tkR c k lim b)) (upd H p (.lst [.int (tkC c lim b), .int (k + 1), .bl b]))) : spTake [.ref p, .int lim] H Q E := ⟨p, c, k, lim, b, rfl, hp, l0, l1, k0, k1, q⟩
theorem use_take {p : Addr} {c k lim : Int} {b : Bool} {H : Hp} {Q : VK} {E : XK} (hp : H p = some (.lst [.int c, .int k, .bl b])) (l0 : 0 < lim) (l1 : lim < 2 ^ 240) (k0 : 0 ≤ k) (k1 : k ≤ 1000000)
    (q : ∀ c' r : Int, 0 ≤ r → r < lim → Q (.int r) (upd H p (.lst [.int c', .int (k + 1), .bl b]))) : spTake [.ref p, .int lim] H Q E := use_takeD hp l0 l1 k0 k1 (q _ _ (tkR_ok l0).1 (tkR_ok l0).2)
local macro_rules | `(tactic| wtm_at "s") => `(tactic| ((with_reducible refine use_take (c := ?c) (k := ?k) (b := ?b) ?h1 ?h2 ?h3 ?h4 ?h5 ?_); (case h1 => wtm_at "h"); (case h2 => omega); (case h3 => omega); (case h4 => omega); (case h5 => omega); intro c' r hr0 hr1))
/-! ### _law_common -/
def spLawCommon : Sp := fun vs H Q _ => ∃ a b : Int, vs = [.int a, .int b] ∧ Q (.int ((Int.gcd a b : Nat) : Int)) H
theorem ok_law_common (T : Txt K mg Ad) : Def P w K mg base 1 "_law_common" ["_law_a", "_law_b"] spLawCommon := by
  refine T.d_law_common.ok sc_law_common (fun vs H Q E h => ?_) (fun f cdv A outer s H vs Q E hr h => ?_)
  · obtain ⟨a, b, rfl, _⟩ := h
    rfl
  · obtain ⟨a, b, rfl, q⟩ := h
    refine ⟨_, (pss_cons (ps_par (i := 2) (j := 3) rfl sc_law_common.nd rfl rfl (by decide) rfl rfl (pa_cons (pe_callB c_abs (by rfl) T.b_abs (by decide +kernel) (pa_cons (pv 0) pa_nil)) (pa_cons (pe_callB c_abs (by rfl) T.b_abs (by decide +kernel) (pa_cons (pv 1) pa_nil)) pa_nil)) (by rfl))
      (pss_cons (ps_while (passes_of rfl) (pt_cmpR op_gt (pv 3) pe_int (nomark _)) (pss_one (ps_par (i := 2) (j := 3) rfl sc_law_common.nd rfl rfl (by decide) rfl rfl (pa_cons (pv 3) (pa_cons (pe_op op_mod (pv 2) (pv 3)) pa_nil)) (by rfl))))
      (pss_one (ps_ret (pv 2))))), ?_⟩
    try dsimp only [cxOf]
    wtm_at "rs"
    refine rd_while (fun μ σ H' => ∃ x y : Int, μ = y.toNat ∧ σ = [some (.int a), some (.int b), some (.int x), some (.int y)] ∧ H = H' ∧ 0 ≤ x ∧ 0 ≤ y ∧ Int.gcd x y = Int.gcd a b) (if b < 0 then -b else b).toNat
      ⟨_, _, rfl, rfl, rfl, by split <;> omega, by split <;> omega, gcd_abs a b⟩ ?_
    rintro μ σ H' ⟨x, y, rfl, rfl, rfl, hx, hy, hg⟩
    wtm_at "ra"
    · rename_i h0
      have m0 := Int.emod_nonneg x (show y ≠ 0 by omega)
      have m1 := Int.emod_lt_of_pos x h0
      exact ⟨_, by omega, y, x % y, rfl, rfl, rfl, hy, m0, by rw [gcd_turn hx h0, hg]⟩
    · rename_i h0
      have e : y = 0 := by omega
      subst e
      rw [← hg] at q
      rw [Int.gcd_zero_right] at q
      rw [show x = (x.natAbs : Int) by omega]
      exact q
theorem use_law_common {a b : Int} {H : Hp} {Q : VK} {E : XK} (q : Q (.int ((Int.gcd a b : Nat) : Int)) H) : spLawCommon [.int a, .int b] H Q E := ⟨a, b, rfl, q⟩
local macro_rules | `(tactic| wtm_at "s") => `(tactic| (with_reducible refine use_law_common ?_))
/-! ### _law_units -/
def spLUnits : Sp := fun vs H Q E => ∃ m : Int, vs = [.int m] ∧ 1 ≤ m ∧ m ≤ 100000 ∧ ∀ D, H D = none → Q (.ref D) (upd H D (.lst ((uL m).map V.int)))
theorem lunits_res {m : Int} : ((List.range m.toNat).filter (fun i : Nat => decide (Int.gcd (0 + (i : Int)) m = 1))).map (fun i : Nat => V.int (0 + (i : Int))) = (uL m).map V.int := by
  unfold uL
  rw [List.filter_map, List.map_map]
  refine congr (congrArg List.map (funext fun i => by simp)) (List.filter_congr fun i _ => by simp)
theorem use_lunits {m : Int} {H : Hp} {Q : VK} {E : XK} (h1 : 1 ≤ m) (h2 : m ≤ 100000) (q : ∀ D, H D = none → Q (.ref D) (upd H D (.lst ((uL m).map V.int)))) : spLUnits [.int m] H Q E := ⟨m, rfl, h1, h2, q⟩
theorem ok_law_units (T : Txt K mg Ad) : Def P w K mg base 2 "_law_units" ["_law_modulus"] spLUnits := by
  refine T.d_law_units.ok sc_law_units (fun vs H Q E h => ?_) (fun f cdv A outer s H vs Q E hr h => ?_)
  · obtain ⟨m, rfl, _⟩ := h
    rfl
  · obtain ⟨m, rfl, m1, m2, q⟩ := h
    refine ⟨_, (pss_one (ps_ret (pe_lc (own := [("_law_rest", 1)])  (te := (tVar 1)) (tt := (tTest (tOp rEq (tCall (spLawCommon) [] E0 (tCons (tVar 1) (tCons (tVar 0) tNil))) (tC (.int 1))))) rfl sc_law_units.nd  (pi_range1 (by rfl) T.b_range (pa_cons (pv 0) pa_nil)) (blkOk_by (own := [("_law_rest", 1)]) (N := ["_law_modulus", "_law_rest"]) (sc := defScope s_law_units) (by decide +kernel)) (fun _ _ _ _ _ => (pg_name (i := 1) sc_law_units.nd rfl (Or.inl rfl))) (fun _ _ _ _ _ => (pts_one (pt_cmpR op_eq (pe_d (E := E0) (ok_law_common T) (hr.mono (by decide)) passL (pa_cons (pv 1) (pa_cons (pv 0) pa_nil))) pe_int (nomark _)))) (fun _ _ _ _ _ => (pv 1))))), ?_⟩
    try dsimp only [cxOf]
    wtm_at "rs"
    refine rd_lcR (fun i : Nat => decide (Int.gcd (0 + (i : Int)) m = 1)) (fun i : Nat => V.int (0 + (i : Int))) (fun D i hD hi => ?_) fun D hD => ?_
    · wtm_at "r"
      refine ⟨rfl, ?_⟩
      wtm_at "rs"
      wtm_at "i"
      · rename_i h
        wtm_at "rs"
        exact put_R (by omega) (decide_eq_true (by omega)) rfl
      · rename_i h
        wtm_at "rs"
        exact skip_R (decide_eq_false (by omega))
    · rw [lunits_res]
      wtm_at "rs"
      exact q D hD
/-! ### _law_described -/
structure DescRow (m : Int) (R S : List Int) : Prop where
  pos : 1 ≤ m
  le : m ≤ 4000
  rests : ∀ r ∈ R, r ∈ uL m
  lenR : R.length ≤ 4000
  singles : ∀ p ∈ S, p ∈ [3, 5, 7, 11, 13, 29]
  lenS : S.length ≤ 6
  lenM : R.length ≤ m.toNat
def spDescd : Sp := fun vs H Q E => ∃ (p : Addr) (j wd : Int), vs = [.ref p, .int wd] ∧ PoolAt H p j ∧ j ≤ 100000 ∧ 1 ≤ wd ∧ wd ≤ 4000 ∧ NoT H ∧
  ∀ (x a b : Addr) (H' : Hp) (m : Int) (R S : List Int), DescRow m R S → (m ≤ wd ∨ m ≤ 60) → PoolAt H' p (j + 5000) → But p H H' → NoT H' → H x = none → H a = none → H b = none → H' x = some (.lst [.int m, .ref a, .ref b]) → H' a = some (.lst (R.map V.int)) → H' b = some (.lst (S.map V.int)) → Q (.ref x) H'
theorem ok_law_described (T : Txt K mg Ad) : Def P w K mg base 3 "_law_described" ["_law_pool_here", "_law_widest"] spDescd := by
  refine T.d_law_described.ok sc_law_described (fun vs H Q E h => ?_) (fun f cdv A outer s H vs Q E hr h => ?_)
  · obtain ⟨p, j, wd, rfl, _⟩ := h
    rfl
  · obtain ⟨p, j, wd, rfl, ⟨c, k, b, hp, k0, k1⟩, hj, w0, w1, nt, q⟩ := h
    refine ⟨_, (pss_cons (ps_set (i := 2) sc_law_described.nd rfl (Or.inl rfl) (pe_op op_add pe_int (pe_d (ok_law_take T) (hr.mono (by decide)) (passes_call (takes_of rfl rfl rfl rfl) (fun _ _ _ _ h => h)) (pa_cons (pv 0) (pa_cons (pv 1) pa_nil)))))
      (pss_cons (ps_if (pt_cmpR op_eq (pe_d (ok_law_take T) (hr.mono (by decide)) (passes_call (takes_of rfl rfl rfl rfl) (fun _ _ _ _ h => h)) (pa_cons (pv 0) (pa_cons pe_int pa_nil))) pe_int (nomark _)) (pss_one (ps_set (i := 2) sc_law_described.nd rfl (Or.inl rfl) (pe_ix ix_list (pe_lst (pa_cons pe_int (pa_cons pe_int (pa_cons pe_int (pa_cons pe_int (pa_cons pe_int (pa_cons pe_int pa_nil))))))) (pe_d (ok_law_take T) (hr.mono (by decide)) (passes_call (takes_of rfl rfl rfl rfl) (fun _ _ _ _ h => h)) (pa_cons (pv 0) (pa_cons pe_int pa_nil))) (fun _ _ => rfl)))) pss_nil)
      (pss_cons (ps_set (i := 3) sc_law_described.nd rfl (Or.inl rfl) (pe_lst pa_nil))
      (pss_cons (ps_set (i := 4) sc_law_described.nd rfl (Or.inl rfl) (pe_d (ok_law_take T) (hr.mono (by decide)) (passes_call (takes_of rfl rfl rfl rfl) (fun _ _ _ _ h => h)) (pa_cons (pv 0) (pa_cons pe_int pa_nil))))
      (pss_cons (ps_for (passes_of rfl) rfl (pi_list (pe_d (ok_law_units T) (hr.mono (by decide)) (passes_call (takes_of rfl rfl rfl rfl) (fun _ _ _ _ h => h)) (pa_cons (pv 2) pa_nil))) (pg_name (i := 5) sc_law_described.nd rfl (Or.inl rfl)) (pss_one (ps_if (pt_cmpR op_eq (pv 4) pe_int (nomark _)) (pss_one (ps_if (pt_cmpR op_lt (pe_op op_mod (pv 5) (pe_callB (c_max2 rfl) (by rfl) T.b_max (by decide +kernel) (pa_cons pe_int (pa_cons (pe_op op_fdivB (pv 2) pe_int) pa_nil)))) pe_int (nomark _)) (pss_one (ps_expr (pe_bm PySem.F.plainAttrs_list PySem.F.slot_list_append PySem.F.type_list_append mt_append (pv 3) (pa_cons (pv 5) pa_nil)))) pss_nil)) (pss_one (ps_if (pt_cmpR op_lt (pv 4) pe_int (nomark _)) (pss_one (ps_if (pt_cmpR op_eq (pe_d (ok_law_take T) (hr.mono (by decide)) (passes_call (takes_of rfl rfl rfl rfl) (fun _ _ _ _ h => h)) (pa_cons (pv 0) (pa_cons pe_int pa_nil))) pe_int (nomark _)) (pss_one (ps_expr (pe_bm PySem.F.plainAttrs_list PySem.F.slot_list_append PySem.F.type_list_append mt_append (pv 3) (pa_cons (pv 5) pa_nil)))) pss_nil)) (pss_one (ps_expr (pe_bm PySem.F.plainAttrs_list PySem.F.slot_list_append PySem.F.type_list_append mt_append (pv 3) (pa_cons (pv 5) pa_nil)))))))))
      (pss_cons (ps_setLc (i := 6) (own := [("_law_p", 7)])  (te := (tVar 7)) (tt := (tTest (tOp rEq (tCall (spTake) [] E0 (tCons (tVar 0) (tCons (tC (.int 4)) tNil))) (tC (.int 1))))) rfl sc_law_described.nd rfl rfl (sw_true rfl rfl rfl (by decide +kernel)) (pi_list (pe_lst (pa_cons pe_int (pa_cons pe_int (pa_cons pe_int (pa_cons pe_int (pa_cons pe_int (pa_cons pe_int pa_nil)))))))) (blkOk_by (own := [("_law_p", 7)]) (N := ["_law_pool_here", "_law_widest", "_law_modulus", "_law_rests", "_law_which", "_law_rest", "_law_singles", "_law_p"]) (sc := defScope s_law_described) (by decide +kernel)) (fun _ _ _ _ _ => (pg_name (i := 7) sc_law_described.nd rfl (Or.inl rfl))) (fun _ _ _ _ _ => (pts_one (pt_cmpR op_eq (pe_d (E := E0) (ok_law_take T) (hr.mono (by decide)) passL (pa_cons (pv 0) (pa_cons pe_int pa_nil))) pe_int (nomark _)))) (fun _ _ _ _ _ => (pv 7)))
      (pss_one (ps_ret (pe_lst (pa_cons (pv 2) (pa_cons (pv 3) (pa_cons (pv 6) pa_nil)))))))))))), ?_⟩
    try dsimp only [cxOf]
    wtm_at "rs"
    rename_i c1 r1 r10 r11 c2 r2 r20 r21
    wtm_at "i"
    wtm_at "rs"
    rename_i T hT c3 r3 r30 r31
    obtain ⟨m, hm, e⟩ := ix_in (ns := [8, 12, 15, 24, 40, 60]) r30 r31
    have m1 : 1 ≤ m ∧ m ≤ 4000 := by
      simp only [List.mem_cons, List.not_mem_nil, or_false] at hm
      omega
    have mw : m ≤ wd ∨ m ≤ 60 := .inr (by
      simp only [List.mem_cons, List.not_mem_nil, or_false] at hm
      omega)
    have hTp : T ≠ p := by
      rintro rfl
      rw [upd_same] at hT
      cases hT
    refine rd_ixL (SqL.of (by rw [upd_ne hTp]; exact upd_same)) e ?_
    clear e hm
    wtm_at "rs"
    rename_i D0 hD0 c4 r4 r40 r41
    clear r30 r31
    have B0 : But p H (upd (upd (upd (upd (upd (upd H p (.lst [.int c1, .int (k + 1), .bl b])) p (.lst [.int c2, .int (k + 1 + 1), .bl b])) T (.lst [.int 8, .int 12, .int 15, .int 24, .int 40, .int 60])) p (.lst [.int c3, .int (k + 1 + 1 + 1), .bl b])) D0 (.lst [])) p (.lst [.int c4, .int (k + 1 + 1 + 1 + 1), .bl b])) := ((((But.refl.put.put).new hT).put).new hD0).put
    have fr : H D0 = none := by
      by_cases z : D0 = p
      · rw [z, upd_same] at hD0
        cases hD0
      · exact but_none (((But.refl.put.put).new hT).put) z hD0
    have P0 : upd (upd (upd (upd (upd (upd H p (.lst [.int c1, .int (k + 1), .bl b])) p (.lst [.int c2, .int (k + 1 + 1), .bl b])) T (.lst [.int 8, .int 12, .int 15, .int 24, .int 40, .int 60])) p (.lst [.int c3, .int (k + 1 + 1 + 1), .bl b])) D0 (.lst [])) p (.lst [.int c4, .int (k + 1 + 1 + 1 + 1), .bl b]) p = some (.lst [.int c4, .int (k + 1 + 1 + 1 + 1), .bl b]) := upd_same
    have N0 : NoT (upd (upd (upd (upd (upd (upd H p (.lst [.int c1, .int (k + 1), .bl b])) p (.lst [.int c2, .int (k + 1 + 1), .bl b])) T (.lst [.int 8, .int 12, .int 15, .int 24, .int 40, .int 60])) p (.lst [.int c3, .int (k + 1 + 1 + 1), .bl b])) D0 (.lst [])) p (.lst [.int c4, .int (k + 1 + 1 + 1 + 1), .bl b])) := NoT.upd (NoT.upd (NoT.upd (NoT.upd (NoT.upd (NoT.upd nt rfl) rfl) rfl) rfl) rfl) rfl
    have nDp : D0 ≠ p := fun z => by
      rw [z, hp] at fr
      cases fr
    have Dn : upd (upd (upd (upd (upd (upd H p (.lst [.int c1, .int (k + 1), .bl b])) p (.lst [.int c2, .int (k + 1 + 1), .bl b])) T (.lst [.int 8, .int 12, .int 15, .int 24, .int 40, .int 60])) p (.lst [.int c3, .int (k + 1 + 1 + 1), .bl b])) D0 (.lst [])) p (.lst [.int c4, .int (k + 1 + 1 + 1 + 1), .bl b]) D0 = some (.lst (([] : List Int).map V.int)) := by
      rw [upd_ne nDp]
      exact upd_same
    have kb : k + 1 + 1 + 1 + 1 ≤ k + 10 := by omega
    have ka : k ≤ k + 1 + 1 + 1 + 1 := by omega
    generalize upd (upd (upd (upd (upd (upd H p (.lst [.int c1, .int (k + 1), .bl b])) p (.lst [.int c2, .int (k + 1 + 1), .bl b])) T (.lst [.int 8, .int 12, .int 15, .int 24, .int 40, .int 60])) p (.lst [.int c3, .int (k + 1 + 1 + 1), .bl b])) D0 (.lst [])) p (.lst [.int c4, .int (k + 1 + 1 + 1 + 1), .bl b]) = G at *
    generalize k + 1 + 1 + 1 + 1 = k4 at *
    clear hT hTp hD0
    rotate_left
    have m1 : 1 ≤ 1 + r1 ∧ 1 + r1 ≤ 4000 := by omega
    have mw : 1 + r1 ≤ wd ∨ 1 + r1 ≤ 60 := .inl (by omega)
    generalize 1 + r1 = m at *
    wtm_at "rs"
    rename_i D0 hD0 c4 r4 r40 r41
    have B0 : But p H (upd (upd (upd (upd H p (.lst [.int c1, .int (k + 1), .bl b])) p (.lst [.int c2, .int (k + 1 + 1), .bl b])) D0 (.lst [])) p (.lst [.int c4, .int (k + 1 + 1 + 1), .bl b])) := ((But.refl.put.put).new hD0).put
    have fr : H D0 = none := by
      by_cases z : D0 = p
      · rw [z, upd_same] at hD0
        cases hD0
      · exact but_none (But.refl.put.put) z hD0
    have P0 : upd (upd (upd (upd H p (.lst [.int c1, .int (k + 1), .bl b])) p (.lst [.int c2, .int (k + 1 + 1), .bl b])) D0 (.lst [])) p (.lst [.int c4, .int (k + 1 + 1 + 1), .bl b]) p = some (.lst [.int c4, .int (k + 1 + 1 + 1), .bl b]) := upd_same
    have N0 : NoT (upd (upd (upd (upd H p (.lst [.int c1, .int (k + 1), .bl b])) p (.lst [.int c2, .int (k + 1 + 1), .bl b])) D0 (.lst [])) p (.lst [.int c4, .int (k + 1 + 1 + 1), .bl b])) := NoT.upd (NoT.upd (NoT.upd (NoT.upd nt rfl) rfl) rfl) rfl
    have nDp : D0 ≠ p := fun z => by
      rw [z, hp] at fr
      cases fr
    have Dn : upd (upd (upd (upd H p (.lst [.int c1, .int (k + 1), .bl b])) p (.lst [.int c2, .int (k + 1 + 1), .bl b])) D0 (.lst [])) p (.lst [.int c4, .int (k + 1 + 1 + 1), .bl b]) D0 = some (.lst (([] : List Int).map V.int)) := by
      rw [upd_ne nDp]
      exact upd_same
    have kb : k + 1 + 1 + 1 ≤ k + 10 := by omega
    have ka : k ≤ k + 1 + 1 + 1 := by omega
    generalize upd (upd (upd (upd H p (.lst [.int c1, .int (k + 1), .bl b])) p (.lst [.int c2, .int (k + 1 + 1), .bl b])) D0 (.lst [])) p (.lst [.int c4, .int (k + 1 + 1 + 1), .bl b]) = G at *
    generalize k + 1 + 1 + 1 = k4 at *
    clear hD0
    all_goals
      have hUp : ∀ U, G U = none → U ≠ p ∧ U ≠ D0 := fun U hU => ⟨fun z => (by rw [z, P0] at hU; cases hU), fun z => (by rw [z, Dn] at hU; cases hU)⟩
      refine use_lunits m1.1 (by omega) fun U hU => ?_
      obtain ⟨nUp, nUD⟩ := hUp U hU
      clear hUp
      have U1 : upd G U (.lst ((uL m).map V.int)) U = some (.lst ((uL m).map V.int)) := upd_same
      have P1 := upd_keep (u := .lst ((uL m).map V.int)) P0 hU
      have D1 := upd_keep (u := .lst ((uL m).map V.int)) Dn hU
      have B1 := B0.new (o := .lst ((uL m).map V.int)) hU
      have N1 : NoT (upd G U (.lst ((uL m).map V.int))) := NoT.upd N0 rfl
      generalize upd G U (.lst ((uL m).map V.int)) = G1 at *
      clear hU P0 Dn B0 N0
      have ul : (uL m).length ≤ 4000 := Nat.le_trans uL_len (by omega)
      wtm_at "rs"
      refine rd_forL (xs := (uL m).map V.int) (fun i σ H' => ∃ (c k' : Int) (v5 : Option V) (R : List Int), σ = [some (.ref p), some (.int wd), some (.int m), some (.ref D0), some (.int r4), v5, none, none] ∧ H' p = some (.lst [.int c, .int k', .bl b]) ∧ k' ≤ k + 10 + i ∧ k ≤ k' ∧ But p H H' ∧ NoT H' ∧ H' D0 = some (.lst (R.map V.int)) ∧ H' U = some (.lst ((uL m).map V.int)) ∧ (∀ r ∈ R, r ∈ uL m) ∧ R.length ≤ i)
        ⟨c4, k4, none, [], rfl, P1, by omega, ka, B1, N1, D1, U1, (fun r h => absurd h List.not_mem_nil), Nat.le_refl _⟩ (fun i σ H' _ ⟨_, _, _, _, _, _, _, _, _, _, _, h, _⟩ => SqL.of h) ?_ ?_
      · rintro i x σ H' hi ⟨c, k', v5, R, rfl, P2, kb2, ka2, B2, N2, D2, U2, hR, lR⟩
        rw [List.getElem?_map] at hi
        obtain ⟨r, hr, rfl⟩ := Option.map_eq_some_iff.mp hi
        have hil := (List.getElem?_eq_some_iff.mp hr).1
        have hru : r ∈ uL m := List.mem_of_getElem? hr
        obtain ⟨r0, r1', rc⟩ := mem_uL.mp hru
        have lb : (R.map V.int).length < sizeLine := by
          rw [List.length_map]
          exact Nat.lt_of_le_of_lt (m := 4000) (by omega) (by decide)
        have fin : ∀ (G2 : Hp) (c3 k3 : Int) (R2 : List Int) (σ' : L2.St), σ' = [some (.ref p), some (.int wd), some (.int m), some (.ref D0), some (.int r4), some (.int r), none, none] → G2 p = some (.lst [.int c3, .int k3, .bl b]) → k3 ≤ k' + 1 → k ≤ k3 → But p H G2 → NoT G2 → G2 D0 = some (.lst (R2.map V.int)) → G2 U = some (.lst ((uL m).map V.int)) → (R2 = R ∨ R2 = R ++ [r]) →
            ∃ (c k' : Int) (v5 : Option V) (R : List Int), σ' = [some (.ref p), some (.int wd), some (.int m), some (.ref D0), some (.int r4), v5, none, none] ∧ G2 p = some (.lst [.int c, .int k', .bl b]) ∧ k' ≤ k + 10 + (i + 1 : Nat) ∧ k ≤ k' ∧ But p H G2 ∧ NoT G2 ∧ G2 D0 = some (.lst (R.map V.int)) ∧ G2 U = some (.lst ((uL m).map V.int)) ∧ (∀ r ∈ R, r ∈ uL m) ∧ R.length ≤ i + 1 := fun G2 c3 k3 R2 σ' e g1 g2 g3 g4 g5 g6 g7 g8 => by
          refine ⟨c3, k3, _, R2, e, g1, by omega, g3, g4, g5, g6, g7, ?_, ?_⟩
          · rcases g8 with rfl | rfl
            · exact hR
            · intro r' h
              rcases List.mem_append.mp h with h | h
              · exact hR r' h
              · rw [List.mem_singleton.mp h]
                exact hru
          · rcases g8 with rfl | rfl
            · omega
            · rw [List.length_append, List.length_singleton]
              omega
        have finA : ∀ (G2 : Hp) (c3 k3 : Int) (σ' : L2.St), σ' = [some (.ref p), some (.int wd), some (.int m), some (.ref D0), some (.int r4), some (.int r), none, none] → G2 p = some (.lst [.int c3, .int k3, .bl b]) → k3 ≤ k' + 1 → k ≤ k3 → But p H G2 → NoT G2 → G2 U = some (.lst ((uL m).map V.int)) → _ := fun G2 c3 k3 σ' e g1 g2 g3 g4 g5 g7 =>
          fin (upd G2 D0 (.lst (R.map V.int ++ [V.int r]))) c3 k3 (R ++ [r]) σ' e (by rw [upd_ne nDp.symm]; exact g1) g2 g3 (g4.fresh fr) (NoT.upd g5 rfl) (by rw [upd_same, List.map_append]; rfl) (by rw [upd_ne nUD]; exact g7) (.inr rfl)
        wtm_at "ra"
        all_goals first
          | exact finA H' c k' _ rfl P2 (by omega) ka2 B2 N2 U2
          | exact fin H' c k' R _ rfl P2 (by omega) ka2 B2 N2 D2 U2 (.inl rfl)
          | exact finA (upd H' p _) _ (k' + 1) _ rfl upd_same (by omega) (by omega) B2.put (NoT.upd N2 rfl) (by rw [upd_ne nUp]; exact U2)
          | exact fin (upd H' p _) _ (k' + 1) R _ rfl upd_same (by omega) (by omega) B2.put (NoT.upd N2 rfl) (by rw [upd_ne nDp]; exact D2) (by rw [upd_ne nUp]; exact U2) (.inl rfl)
      · rintro σ H' ⟨c, k', v5, R, rfl, P2, kb2, ka2, B2, N2, D2, U2, hR, lR⟩
        rw [List.length_map] at lR kb2
        wtm_at "rs"
        rename_i T3 hT3
        have T3p : T3 ≠ p := fun z => by
          rw [z, P2] at hT3
          cases hT3
        have T3D : T3 ≠ D0 := fun z => by
          rw [z, D2] at hT3
          cases hT3
        have P3 := upd_keep (u := .lst [.int 3, .int 5, .int 7, .int 11, .int 13, .int 29]) P2 hT3
        have D3 := upd_keep (u := .lst [.int 3, .int 5, .int 7, .int 11, .int 13, .int 29]) D2 hT3
        have B3 := B2.new (o := .lst [.int 3, .int 5, .int 7, .int 11, .int 13, .int 29]) hT3
        have N3 : NoT (upd H' T3 (.lst [.int 3, .int 5, .int 7, .int 11, .int 13, .int 29])) := NoT.upd N2 rfl
        have Q3 : upd H' T3 (.lst [.int 3, .int 5, .int 7, .int 11, .int 13, .int 29]) T3 = some (.lst (([3, 5, 7, 11, 13, 29] : List Int).map V.int)) := upd_same
        have f3 : H T3 = none := but_none B2 T3p hT3
        generalize upd H' T3 (.lst [.int 3, .int 5, .int 7, .int 11, .int 13, .int 29]) = G3 at *
        refine rd_lcLG (xs := ([3, 5, 7, 11, 13, 29] : List Int).map V.int) (fun D i ys H2 => ∃ (c k' : Int) (S : List Int), ys = S.map V.int ∧ H2 p = some (.lst [.int c, .int k', .bl b]) ∧ k' ≤ k + 10 + (uL m).length + i ∧ k ≤ k' ∧ But p H H2 ∧ NoT H2 ∧ H2 D0 = some (.lst (R.map V.int)) ∧ H2 T3 = some (.lst (([3, 5, 7, 11, 13, 29] : List Int).map V.int)) ∧ (∀ x ∈ S, x ∈ ([3, 5, 7, 11, 13, 29] : List Int)) ∧ S.length ≤ i)
          (fun D i ys H2 ⟨_, _, _, _, _, _, _, _, _, _, h, _⟩ => SqL.of h) (fun D hD => ⟨c, k', [], rfl, upd_keep P3 hD, by omega, ka2, B3.new hD, NoT.upd N3 rfl, upd_keep D3 hD, upd_keep Q3 hD, fun x h => absurd h List.not_mem_nil, Nat.le_refl _⟩) ?_ ?_
        · rintro D i ys x H2 hD hi hys ⟨c5, k5, S, rfl, P5, kb5, ka5, B5, N5, D5, Q5, hS, lS⟩
          have nD : D ≠ p := fun z => by
            rw [z, P3] at hD
            cases hD
          have nD0 : D ≠ D0 := fun z => by
            rw [z, D3] at hD
            cases hD
          have nDT : D ≠ T3 := fun z => by
            rw [z, Q3] at hD
            cases hD
          have fD : H D = none := but_none B3 nD hD
          rw [List.getElem?_map] at hi
          obtain ⟨y, hy, rfl⟩ := Option.map_eq_some_iff.mp hi
          have hil := (List.getElem?_eq_some_iff.mp hy).1
          have hym := List.mem_of_getElem? hy
          have hil' : i < 6 := hil
          wtm_at "r"
          refine ⟨rfl, ?_⟩
          wtm_at "rs"
          rename_i c6 r6 r60 r61
          wtm_at "i"
          · wtm_at "rs"
            refine put_G (i := i) (J := fun D i ys H2 => ∃ (c k' : Int) (S : List Int), ys = S.map V.int ∧ H2 p = some (.lst [.int c, .int k', .bl b]) ∧ k' ≤ k + 10 + (uL m).length + i ∧ k ≤ k' ∧ But p H H2 ∧ NoT H2 ∧ H2 D0 = some (.lst (R.map V.int)) ∧ H2 T3 = some (.lst (([3, 5, 7, 11, 13, 29] : List Int).map V.int)) ∧ (∀ x ∈ S, x ∈ ([3, 5, 7, 11, 13, 29] : List Int)) ∧ S.length ≤ i) (acc := S.map V.int) (by rw [upd_ne nD]; exact hys) (by rw [List.length_map]; exact Nat.lt_of_le_of_lt (m := 6) (by omega) (by decide)) ?_
            refine ⟨c6, k5 + 1, S ++ [y], by rw [List.map_append]; rfl, by rw [upd_ne nD.symm]; exact upd_same, by omega, by omega, B5.put.fresh fD, NoT.upd (NoT.upd N5 rfl) rfl, by rw [upd_ne nD0.symm, upd_ne nDp]; exact D5, by rw [upd_ne nDT.symm, upd_ne T3p]; exact Q5, fun x hx => ?_, by rw [List.length_append, List.length_singleton]; omega⟩
            rcases List.mem_append.mp hx with hx | hx
            · exact hS x hx
            · rw [List.mem_singleton.mp hx]
              exact hym
          · exact ⟨_, by rw [upd_ne nD]; exact hys, c6, k5 + 1, S, rfl, upd_same, by omega, by omega, B5.put, NoT.upd N5 rfl, by rw [upd_ne nDp]; exact D5, by rw [upd_ne T3p]; exact Q5, hS, by omega⟩
        · rintro D ys H2 hD hys ⟨c5, k5, S, rfl, P5, kb5, ka5, B5, N5, D5, Q5, hS, lS⟩
          have nD : D ≠ p := fun z => by
            rw [z, P3] at hD
            cases hD
          have fD : H D = none := but_none B3 nD hD
          wtm_at "rs"
          rename_i x hx
          have xp : x ≠ p := fun z => by
            rw [z, P5] at hx
            cases hx
          rw [List.length_map] at lS kb5
          exact q x D0 D _ m R S ⟨m1.1, m1.2, hR, by omega, hS, lS, Nat.le_trans lR uL_len⟩ mw ⟨c5, k5, b, upd_keep P5 hx, by omega, by have : (([3, 5, 7, 11, 13, 29] : List Int).length : Int) = 6 := rfl; omega⟩ (B5.new hx) (NoT.upd N5 rfl) (but_none B5 xp hx) fr fD upd_same (upd_keep D5 hx) (upd_keep hys hx)
/-! ### checked_modulus -/
def spChkM (CM CW : Addr) : Sp := fun vs H Q E => ∃ m : Int, vs = [.int m] ∧ (m < 1 → ∀ d, H d = none → E (.ref CM) (some d) (upd H d (.xd [("modulus", .int m)]))) ∧ (4000 < m → ∀ d, H d = none → E (.ref CW) (some d) (upd H d (.xd [("modulus", .int m)]))) ∧ (1 ≤ m → m ≤ 4000 → Q .non H)
theorem ok_checked_modulus (T : Txt K mg Ad) : Def P w K mg base 3 "checked_modulus" ["modulus"] (spChkM Ad.c_BadModulus Ad.c_TooWide) := by
  refine T.d_checked_modulus.ok sc_checked_modulus (fun vs H Q E h => ?_) (fun f cdv A outer s H vs Q E hr h => ?_)
  · obtain ⟨m, rfl, _⟩ := h
    rfl
  · obtain ⟨m, rfl, q1, q2, q3⟩ := h
    refine ⟨_, (pss_cons (ps_if (pt_cmpR op_lt (pv 0) pe_int (nomark _)) (pss_one (ps_raise rfl (takes_of rfl rfl rfl rfl) (pmk_err (T.err_BadModulus) (hr.mono (by decide)) (pa_cons (pv 0) pa_nil)))) pss_nil)
      (pss_one (ps_if (pt_cmpR op_gt (pv 0) (pe_glob (v := .int 4000) rfl T.k_MOST_MODULUS ⟨_, rfl⟩) (nomark _)) (pss_one (ps_raise rfl (takes_of rfl rfl rfl rfl) (pmk_err (T.err_TooWide) (hr.mono (by decide)) (pa_cons (pv 0) pa_nil)))) pss_nil))), ?_⟩
    try dsimp only [cxOf]
    wtm_at "ra"
    · exact q1 (by omega)
    · exact q2 (by omega)
    · exact q3 (by omega) (by omega)
/-! ### is_prime -/
def spPm : Sp := fun vs H Q _ => ∃ n : Int, vs = [.int n] ∧ n < 2 ^ 120 ∧ Q (.bl (decide (QR.Pm n))) H
theorem ok_is_prime (T : Txt K mg Ad) : Def P w K mg base 1 "is_prime" ["n"] spPm := by
  refine T.d_is_prime.ok sc_is_prime (fun vs H Q E h => ?_) (fun f cdv A outer s H vs Q E hr h => ?_)
  · obtain ⟨n, rfl, _⟩ := h
    rfl
  · obtain ⟨n, rfl, hn, q⟩ := h
    refine ⟨_, (pss_cons (ps_if (pt_cmpR op_lt (pv 0) pe_int (nomark _)) (pss_one (ps_ret pe_bl)) pss_nil)
      (pss_cons (ps_set (i := 1) sc_is_prime.nd rfl (Or.inl rfl) pe_int)
      (pss_cons (ps_while (passes_of rfl) (pt_cmpR op_le (pe_op op_mulB (pv 1) (pv 1)) (pv 0) (nomark _)) (pss_cons (ps_if (pt_cmpR op_eq (pe_op op_mod (pv 0) (pv 1)) pe_int (nomark _)) (pss_one (ps_ret pe_bl)) pss_nil)
      (pss_one (ps_aug (i := 1) sc_is_prime.nd rfl (Or.inl rfl) pe_int ip_add))))
      (pss_one (ps_ret pe_bl))))), ?_⟩
    try dsimp only [cxOf]
    wtm_at "ra"
    · rw [decide_eq_false (fun z : QR.Pm n => by have := z.1; omega)] at q
      exact q
    · refine rd_while (fun μ σ H' => ∃ k : Int, μ = (n + 1 - k).toNat ∧ σ = [some (.int n), some (.int k)] ∧ H = H' ∧ 2 ≤ k ∧ k < 2 ^ 61 ∧ ∀ d : Int, 2 ≤ d → d < k → ¬ d ∣ n) (n - 1).toNat
        ⟨2, by omega, rfl, rfl, by omega, by omega, fun d _ _ => by omega⟩ ?_
      rintro μ σ H' ⟨k, rfl, rfl, rfl, hk, hk3, inv⟩
      wtm_at "ra"
      · rename_i hle hz
        rw [decide_eq_false (fun z : QR.Pm n => QR.not_pm (by omega) hle hz z)] at q
        exact q
      · rename_i hle hz
        have b := QR.sq_bound (by omega) hle hn
        have c := QR.le_sq (show 1 ≤ k by omega)
        exact ⟨_, by omega, k + 1, rfl, rfl, rfl, by omega, by omega, QR.no_dvd_step inv hz⟩
      · rename_i hgt
        rw [decide_eq_true (show QR.Pm n from QR.pm_of_trial (by omega) (by omega) (by omega) inv)] at q
        exact q
theorem use_Pm {n : Int} {H : Hp} {Q : VK} {E : XK} (h : n < 2 ^ 120) (q : Q (.bl (decide (QR.Pm n))) H) : spPm [.int n] H Q E := ⟨n, rfl, h, q⟩
local macro_rules | `(tactic| wtm_at "s") => `(tactic| ((with_reducible refine use_Pm ?h1 ?_); (case h1 => omega)))
/-! ### checked_singles -/
def spChkS (K : PySem.W.Frag) (CP : Addr) : Sp := fun vs H Q E => ∃ (a : Addr) (S : List Int), vs = [.ref a] ∧ (SqL K H a (S.map V.int) ∨ SqT K H a (S.map V.int)) ∧ (∀ p ∈ S, p < 2 ^ 120) ∧
  (∀ l p r, S = l ++ p :: r → (∀ o ∈ l, QR.OP o) → ¬ QR.OP p → ∀ d, H d = none → E (.ref CP) (some d) (upd H d (.xd [("p", .int p)]))) ∧ ((∀ p ∈ S, QR.OP p) → Q .non H)
theorem ok_checked_singles (T : Txt K mg Ad) : Def P w K mg base 3 "checked_singles" ["singles"] (spChkS K Ad.c_BadPrime) := by
  refine T.d_checked_singles.ok sc_checked_singles (fun vs H Q E h => ?_) (fun f cdv A outer s H vs Q E hr h => ?_)
  · obtain ⟨a, S, rfl, _⟩ := h
    rfl
  · obtain ⟨a, S, rfl, hS, hb, qe, q⟩ := h
    refine ⟨_, (pss_one (ps_for (passes_of rfl) rfl (pi_alt (pi_list (pv 0)) (pi_tup (pv 0))) (pg_name (i := 1) sc_checked_singles.nd rfl (Or.inl rfl)) (pss_one (ps_if (PW.pt (pw_or (pt_cmpR op_eq (pv 1) pe_int (nomark _)) (pw_or1 (pt_not (pt_val (pe_d (ok_is_prime T) (hr.mono (by decide)) (passes_call (takes_of rfl rfl rfl rfl) (fun _ _ _ _ h => h)) (pa_cons (pv 1) pa_nil))))))) (pss_one (ps_raise rfl (takes_of rfl rfl rfl rfl) (pmk_err (T.err_BadPrime) (hr.mono (by decide)) (pa_cons (pv 1) pa_nil)))) pss_nil)))), ?_⟩
    try dsimp only [cxOf]
    have lp : ∀ (p : Int), p < 2 ^ 120 → ∀ (R : Bool → Hp → Prop), (¬ QR.OP p → R true H) → (QR.OP p → R false H) → tOr (tTest (tOp rEq (tVar 1) (tC (.int 2)))) (tNot (tB (tCall spPm [] E (tCons (tVar 1) tNil)))) [some (.ref a), some (.int p)] H R := fun p hp R r1 r2 => by
      wtm_at "rs"
      wtm_at "i"
      · rename_i h
        exact r1 fun z : QR.OP p => by have := z.2; omega
      · rename_i h
        wtm_at "rs"
        by_cases z : QR.Pm p
        · rw [decide_eq_true z]
          exact r2 ⟨z, QR.pm_odd z (by have := z.1; omega)⟩
        · rw [decide_eq_false z]
          exact r1 fun o => z o.1
    have turn : ∀ (i : Nat) (x : V), (S.map V.int)[i]? = some x → (∀ o ∈ S.take i, QR.OP o) → ∀ (σ : L2.St) (v1 : Option V), σ = [some (.ref a), v1] → ∀ (nx : L2.St → Hp → Prop), (∀ p, (∀ o ∈ S.take (i + 1), QR.OP o) → nx [some (.ref a), some (.int p)] H) → gName 1 x σ H fun σ2 H2 =>
        (tIfS (tOr (tTest (tOp rEq (tVar 1) (tC (.int 2)))) (tNot (tB (tCall spPm [] E (tCons (tVar 1) tNil))))) (fun D σ H => tMkO Ad.c_BadPrime (spErr Ad.c_BadPrime 1 fl_BadPrime) [] (tCons (tVar 1) tNil) σ H fun cls d H' => E cls d H') tNext) ⟨nx, Q, fun σ' H' => Q .non H', nx⟩ σ2 H2 := fun i x hx hl σ v1 hσ nx hn => by
      subst hσ
      rw [List.getElem?_map] at hx
      obtain ⟨p, hp, rfl⟩ := Option.map_eq_some_iff.mp hx
      have hi := (List.getElem?_eq_some_iff.mp hp).1
      have hm : p ∈ S := List.mem_of_getElem? hp
      have er : S.take (i + 1) = S.take i ++ [p] := by rw [List.take_add_one, hp]; rfl
      wtm_at "r"
      show tIfS _ _ _ _ [some (.ref a), some (.int p)] H
      refine Stp.mp ?_
      refine lp p (hb p hm) _ (fun ho => ?_) (fun ho => ?_)
      · wtm_at "rs"
        exact qe (S.take i) p (S.drop (i + 1)) (by
          have := (List.take_append_drop i S).symm
          rw [List.drop_eq_getElem_cons hi, (List.getElem?_eq_some_iff.mp hp).2] at this
          exact this) hl ho
      · wtm_at "rs"
        refine hn p fun o h => ?_
        rw [er] at h
        rcases List.mem_append.mp h with h | h
        · exact hl o h
        · rw [List.mem_singleton.mp h]
          exact ho
    wtm_at "r"
    rcases hS with hS | hS
    · refine .inl ?_
      wtm_at "rs"
      refine rd_forLs (fun i σ => ∃ v1, σ = [some (.ref a), v1] ∧ ∀ o ∈ S.take i, QR.OP o) hS ⟨_, rfl, by simp⟩ (fun i x σ hx ⟨v1, hσ, hl⟩ => turn i x hx hl σ v1 hσ _ fun p h => ⟨rfl, _, rfl, h⟩) fun σ ⟨v1, _, hl⟩ => q ?_
      rwa [List.length_map, List.take_length] at hl
    · refine .inr ?_
      wtm_at "rs"
      refine rd_forTs (fun i σ => ∃ v1, σ = [some (.ref a), v1] ∧ ∀ o ∈ S.take i, QR.OP o) hS ⟨_, rfl, by simp⟩ (fun i x σ hx ⟨v1, hσ, hl⟩ => turn i x hx hl σ v1 hσ _ fun p h => ⟨rfl, _, rfl, h⟩) fun σ ⟨v1, _, hl⟩ => q ?_
      rwa [List.length_map, List.take_length] at hl
/-! ### common -/
def spCommon : Sp := fun vs H Q _ => ∃ a b : Int, vs = [.int a, .int b] ∧ Q (.int ((Int.gcd a b : Nat) : Int)) H
theorem ok_common (T : Txt K mg Ad) : Def P w K mg base 1 "common" ["a", "b"] spCommon := by
  refine T.d_common.ok sc_common (fun vs H Q E h => ?_) (fun f cdv A outer s H vs Q E hr h => ?_)
  · obtain ⟨a, b, rfl, _⟩ := h
    rfl
  · obtain ⟨a, b, rfl, q⟩ := h
    refine ⟨_, (pss_cons (ps_par (i := 2) (j := 3) rfl sc_common.nd rfl rfl (by decide) rfl rfl (pa_cons (pe_callB c_abs (by rfl) T.b_abs (by decide +kernel) (pa_cons (pv 0) pa_nil)) (pa_cons (pe_callB c_abs (by rfl) T.b_abs (by decide +kernel) (pa_cons (pv 1) pa_nil)) pa_nil)) (by rfl))
      (pss_cons (ps_while (passes_of rfl) (pt_cmpR op_gt (pv 3) pe_int (nomark _)) (pss_one (ps_par (i := 2) (j := 3) rfl sc_common.nd rfl rfl (by decide) rfl rfl (pa_cons (pv 3) (pa_cons (pe_op op_mod (pv 2) (pv 3)) pa_nil)) (by rfl))))
      (pss_one (ps_ret (pv 2))))), ?_⟩
    try dsimp only [cxOf]
    wtm_at "rs"
    refine rd_while (fun μ σ H' => ∃ x y : Int, μ = y.toNat ∧ σ = [some (.int a), some (.int b), some (.int x), some (.int y)] ∧ H = H' ∧ 0 ≤ x ∧ 0 ≤ y ∧ Int.gcd x y = Int.gcd a b) (if b < 0 then -b else b).toNat
      ⟨_, _, rfl, rfl, rfl, by split <;> omega, by split <;> omega, gcd_abs a b⟩ ?_
    rintro μ σ H' ⟨x, y, rfl, rfl, rfl, hx, hy, hg⟩
    wtm_at "ra"
    · rename_i h0
      have m0 := Int.emod_nonneg x (show y ≠ 0 by omega)
      have m1 := Int.emod_lt_of_pos x h0
      exact ⟨_, by omega, y, x % y, rfl, rfl, rfl, hy, m0, by rw [gcd_turn hx h0, hg]⟩
    · rename_i h0
      have e : y = 0 := by omega
      subst e
      rw [← hg] at q
      rw [Int.gcd_zero_right] at q
      rw [show x = (x.natAbs : Int) by omega]
      exact q
theorem use_common {a b : Int} {H : Hp} {Q : VK} {E : XK} (q : Q (.int ((Int.gcd a b : Nat) : Int)) H) : spCommon [.int a, .int b] H Q E := ⟨a, b, rfl, q⟩
local macro_rules | `(tactic| wtm_at "s") => `(tactic| (with_reducible refine use_common ?_))
/-! ### factors -/
def spFactors : Sp := fun vs H Q E => ∃ n : Int, vs = [.int n] ∧ NoT H ∧ 1 ≤ n ∧ n < 2 ^ 100 ∧ ∀ p H' ts fs, Same H H' → NoT H' → H p = none → H' p = some (.lst (ts.map V.ref)) → RowsAt H' ts (fs.map rowF) → FacOk n fs → Q (.ref p) H'
theorem ok_factors (T : Txt K mg Ad) : Def P w K mg base 1 "factors" ["n"] spFactors := by
  refine T.d_factors.ok sc_factors (fun vs H Q E h => ?_) (fun f cdv A outer s H vs Q E hr h => ?_)
  · obtain ⟨n, rfl, _⟩ := h
    rfl
  · obtain ⟨n0, rfl, nt, hn1, hn2, qo⟩ := h
    refine ⟨_, (pss_cons (ps_set (i := 1) sc_factors.nd rfl (Or.inl rfl) (pe_lst pa_nil))
      (pss_cons (ps_set (i := 2) sc_factors.nd rfl (Or.inl rfl) pe_int)
      (pss_cons (ps_while (passes_of rfl) (pt_cmpR op_le (pe_op op_mulB (pv 2) (pv 2)) (pv 0) (nomark _)) (pss_cons (ps_set (i := 3) sc_factors.nd rfl (Or.inl rfl) pe_int)
      (pss_cons (ps_while (passes_of rfl) (pt_cmpR op_eq (pe_op op_mod (pv 0) (pv 2)) pe_int (nomark _)) (pss_cons (ps_set (i := 0) sc_factors.nd rfl (Or.inl rfl) (pe_op op_fdivB (pv 0) (pv 2)))
      (pss_one (ps_aug (i := 3) sc_factors.nd rfl (Or.inl rfl) pe_int ip_add))))
      (pss_cons (ps_if (pt_cmpR op_gt (pv 3) pe_int (nomark _)) (pss_one (ps_expr (pe_bm PySem.F.plainAttrs_list PySem.F.slot_list_append PySem.F.type_list_append mt_append (pv 1) (pa_cons (pe_tup (pa_cons (pv 2) (pa_cons (pv 3) pa_nil))) pa_nil)))) pss_nil)
      (pss_one (ps_aug (i := 2) sc_factors.nd rfl (Or.inl rfl) pe_int ip_add))))))
      (pss_cons (ps_if (pt_cmpR op_gt (pv 0) pe_int (nomark _)) (pss_one (ps_expr (pe_bm PySem.F.plainAttrs_list PySem.F.slot_list_append PySem.F.type_list_append mt_append (pv 1) (pa_cons (pe_tup (pa_cons (pv 0) (pa_cons pe_int pa_nil))) pa_nil)))) pss_nil)
      (pss_one (ps_ret (pv 1))))))), ?_⟩
    try dsimp only [cxOf]
    wtm_at "rs"
    rename_i p hp
    refine rd_while (fun μ σ H' => ∃ (n d : Int) (ts : List Addr) (fs : List (Int × Nat)) (v3 : Option V), μ = (n0 + 2 - d).toNat ∧ σ = [some (.int n), some (.ref p), some (.int d), v3] ∧ Same H H' ∧ NoT H' ∧ H' p = some (.lst (ts.map V.ref)) ∧ RowsAt H' ts (fs.map rowF) ∧ FacInv n0 n d fs ∧ n ≤ n0 ∧ d < 2 ^ 61) n0.toNat
      ⟨n0, 2, [], [], none, by omega, rfl, same_new hp, NoT.upd nt rfl, upd_same, trivial, FacInv.start hn1, by omega, by decide⟩ ?_
    rintro μ σ H' ⟨n, d, ts, fs, v3, rfl, rfl, sm, nt', hp', hl, inv, hle, hd61⟩
    have d2 := inv.two
    have n1 := inv.pos
    wtm_at "rs"
    wtm_at "i"
    · rename_i hdd
      have db := QR.le_sq (show 1 ≤ d by omega)
      have dsq := QR.sq_bound (by omega) hdd (show n < 2 ^ 120 by omega)
      wtm_at "rs"
      refine rd_while (fun μ σ H2 => ∃ (m : Int) (e : Nat), μ = m.toNat ∧ σ = [some (.int m), some (.ref p), some (.int d), some (.int e)] ∧ H' = H2 ∧ m * d ^ e = n ∧ 1 ≤ m ∧ m ≤ n) n.toNat
        ⟨n, 0, rfl, rfl, rfl, by simp, n1, Int.le_refl _⟩ ?_
      rintro μ σ H2 ⟨m, e, rfl, rfl, rfl, hm, hm1, hmn⟩
      wtm_at "rs"
      wtm_at "i"
      · rename_i hz
        have hdv := Int.mul_ediv_add_emod m d
        have hq1 : 1 ≤ m / d := by
          rcases Int.lt_or_le (m / d) 1 with z | z
          · exfalso
            have : d * (m / d) ≤ d * 0 := Int.mul_le_mul_of_nonneg_left (by omega) (by omega)
            omega
          · exact z
        have hq2 : m / d < m := by
          have : 2 * (m / d) ≤ d * (m / d) := Int.mul_le_mul_of_nonneg_right d2 (by omega)
          omega
        wtm_at "rs"
        refine ⟨_, ?_, m / d, e + 1, rfl, rfl, rfl, ?_, hq1, by omega⟩
        · omega
        · rw [Int.pow_succ, ← hm]
          have : m = d * (m / d) := by omega
          conv => rhs; rw [this]
          grind
      · rename_i hz
        have hnd : ¬ d ∣ m := fun z => hz (Int.emod_eq_zero_of_dvd z)
        wtm_at "rs"
        wtm_at "i"
        · rename_i he
          have inv2 := inv.next (by omega) hm hm1 hnd
          have flen := inv.len hn2
          have hroom : (ts.map V.ref).length < sizeLine := by
            rw [List.length_map, hl.len, List.length_map]
            exact Nat.lt_of_le_of_lt (m := 1000000) (by omega) (by decide)
          wtm_at "rs"
          rename_i t ht
          refine ⟨_, ?_, m, d + 1, ts ++ [t], fs ++ [(d, e)], _, rfl, rfl, by wtm_at "sm", by wtm_at "nt", by rw [upd_same, List.map_append]; rfl, ?_, inv2, by omega, by omega⟩
          · omega
          · rw [List.map_append]
            refine RowsAt.other ((same_new ht) _ _ hp') (RowsAt.snoc upd_same (hl.mono (same_new ht)))
        · rename_i he
          have e0 : e = 0 := by omega
          subst e0
          have em : m = n := by simpa using hm
          subst em
          wtm_at "rs"
          exact ⟨_, by omega, m, d + 1, ts, fs, _, rfl, rfl, sm, nt', hp', hl, inv.next0 hnd, by omega, by omega⟩
    · rename_i hdd
      wtm_at "rs"
      wtm_at "i"
      · rename_i h1
        have flen := inv.len hn2
        have hroom : (ts.map V.ref).length < sizeLine := by
          rw [List.length_map, hl.len, List.length_map]
          exact Nat.lt_of_le_of_lt (m := 1000000) (by omega) (by decide)
        wtm_at "rs"
        rename_i t ht
        refine qo p _ (ts ++ [t]) (fs ++ [(n, 1)]) (by wtm_at "sm") (by wtm_at "nt") hp (by rw [upd_same, List.map_append]; rfl) ?_ (inv.done h1 (by omega))
        rw [List.map_append]
        exact RowsAt.other ((same_new ht) _ _ hp') (RowsAt.snoc upd_same (hl.mono (same_new ht)))
      · rename_i h1
        have en : n = 1 := by omega
        subst en
        wtm_at "rs"
        exact qo p H' ts fs sm nt' hp hp' hl inv.done1
/-! ### units -/
def spUnits : Sp := fun vs H Q E => ∃ m : Int, vs = [.int m] ∧ 1 ≤ m ∧ m ≤ 100000 ∧ ∀ D, H D = none → Q (.ref D) (upd H D (.lst ((uL m).map V.int)))
theorem units_res {m : Int} : ((List.range m.toNat).filter (fun i : Nat => decide (Int.gcd (0 + (i : Int)) m = 1))).map (fun i : Nat => V.int (0 + (i : Int))) = (uL m).map V.int := by
  unfold uL
  rw [List.filter_map, List.map_map]
  refine congr (congrArg List.map (funext fun i => by simp)) (List.filter_congr fun i _ => by simp)
theorem use_units {m : Int} {H : Hp} {Q : VK} {E : XK} (h1 : 1 ≤ m) (h2 : m ≤ 100000) (q : ∀ D, H D = none → Q (.ref D) (upd H D (.lst ((uL m).map V.int)))) : spUnits [.int m] H Q E := ⟨m, rfl, h1, h2, q⟩
theorem ok_units (T : Txt K mg Ad) : Def P w K mg base 2 "units" ["modulus"] spUnits := by
  refine T.d_units.ok sc_units (fun vs H Q E h => ?_) (fun f cdv A outer s H vs Q E hr h => ?_)
  · obtain ⟨m, rfl, _⟩ := h
    rfl
  · obtain ⟨m, rfl, m1, m2, q⟩ := h
    refine ⟨_, (pss_one (ps_ret (pe_lc (own := [("rest", 1)])  (te := (tVar 1)) (tt := (tTest (tOp rEq (tCall (spCommon) [] E0 (tCons (tVar 1) (tCons (tVar 0) tNil))) (tC (.int 1))))) rfl sc_units.nd  (pi_range1 (by rfl) T.b_range (pa_cons (pv 0) pa_nil)) (blkOk_by (own := [("rest", 1)]) (N := ["modulus", "rest"]) (sc := defScope s_units) (by decide +kernel)) (fun _ _ _ _ _ => (pg_name (i := 1) sc_units.nd rfl (Or.inl rfl))) (fun _ _ _ _ _ => (pts_one (pt_cmpR op_eq (pe_d (E := E0) (ok_common T) (hr.mono (by decide)) passL (pa_cons (pv 1) (pa_cons (pv 0) pa_nil))) pe_int (nomark _)))) (fun _ _ _ _ _ => (pv 1))))), ?_⟩
    try dsimp only [cxOf]
    wtm_at "rs"
    refine rd_lcR (fun i : Nat => decide (Int.gcd (0 + (i : Int)) m = 1)) (fun i : Nat => V.int (0 + (i : Int))) (fun D i hD hi => ?_) fun D hD => ?_
    · wtm_at "r"
      refine ⟨rfl, ?_⟩
      wtm_at "rs"
      wtm_at "i"
      · rename_i h
        wtm_at "rs"
        exact put_R (by omega) (decide_eq_true (by omega)) rfl
      · rename_i h
        wtm_at "rs"
        exact skip_R (decide_eq_false (by omega))
    · rw [units_res]
      wtm_at "rs"
      exact q D hD
/-! ### shortened -/
def spShort : Sp := fun vs H Q E => ∃ (a : Addr) (m q : Int) (R : List Int), vs = [.int m, .ref a, .int q] ∧ NoT H ∧ H a = some (DFl R) ∧ 1 ≤ m ∧ m ≤ 4000 ∧ QR.Pm q ∧ q ∣ m ∧
  (∀ H', Same H H' → NoT H' → ¬ Lv m R (m / q) → Q .non H') ∧ (∀ D L H', Same H H' → NoT H' → H D = none → H' D = some (DFl L) → Short m R (m / q) L → Q (.ref D) H')
theorem use_short {a : Addr} {m q : Int} {R : List Int} {H : Hp} {Q : VK} {E : XK} (nt : NoT H) (ha : H a = some (DFl R)) (h1 : 1 ≤ m) (h2 : m ≤ 4000) (hq : QR.Pm q) (hd : q ∣ m)
    (k1 : ∀ H', Same H H' → NoT H' → ¬ Lv m R (m / q) → Q .non H') (k2 : ∀ D L H', Same H H' → NoT H' → H D = none → H' D = some (DFl L) → Short m R (m / q) L → Q (.ref D) H') : spShort [.int m, .ref a, .int q] H Q E := ⟨a, m, q, R, rfl, nt, ha, h1, h2, hq, hd, k1, k2⟩
theorem lifts_res {r s q : Int} : (((List.range q.toNat).filter fun _ => true).map fun k : Nat => V.int (r + (0 + (k : Int)) * s)) = (liftsL r s q).map V.int := by
  unfold liftsL
  rw [List.map_map, List.filter_eq_self.mpr fun _ _ => rfl]
  rfl
theorem liftsL_len {r s q : Int} : (liftsL r s q).length = q.toNat := by
  unfold liftsL
  rw [List.length_map, List.length_range]
theorem same_updN {H H' : Hp} {p : Addr} {o : HO} (h : Same H H') (hp : H p = none) : Same H (upd H' p o) := same_upd2 h hp
theorem ok_shortened (T : Txt K mg Ad) : Def P w K mg base 3 "shortened" ["modulus", "rests", "prime"] spShort := by
  refine T.d_shortened.ok sc_shortened (fun vs H Q E h => ?_) (fun f cdv A outer s H vs Q E hr h => ?_)
  · obtain ⟨a, m, q, R, rfl, _⟩ := h
    rfl
  · obtain ⟨a, m, q, R, rfl, nt, ha, m1, m2, hq, hd, kn, kd⟩ := h
    refine ⟨_, (pss_cons (ps_set (i := 3) sc_shortened.nd rfl (Or.inr rfl) (pe_op op_fdivB (pv 0) (pv 2)))
      (pss_cons (ps_set (i := 4) sc_shortened.nd rfl (Or.inl rfl) pe_dnewK)
      (pss_cons (ps_for (passes_of rfl) rfl (pi_list (pe_d (ok_units T) (hr.mono (by decide)) (passes_call (takes_of rfl rfl rfl rfl) (fun _ _ _ _ h => h)) (pa_cons (pv 3) pa_nil))) (pg_name (i := 5) sc_shortened.nd rfl (Or.inr rfl)) (pss_cons (ps_setLc (i := 6) (own := [("k", 8)])  (te := (tOp (rI0 fun i j => .int (i + j)) (tVar 5) (tOp (rI CMulB fun i j => .int (i * j)) (tVar 8) (tVar 3)))) rfl sc_shortened.nd rfl rfl (sw_true rfl rfl rfl (by decide +kernel)) (pi_range1 (by rfl) T.b_range (pa_cons (pv 2) pa_nil)) (blkOk_by (own := [("k", 8)]) (N := ["modulus", "rests", "prime", "smaller", "kept", "rest", "lifts", "found", "k", "lift"]) (sc := defScope s_shortened) (by decide +kernel)) (fun _ _ _ _ _ => (pg_name (i := 8) sc_shortened.nd rfl (Or.inl rfl))) (fun _ _ _ _ _ => pts_nil) (fun _ _ _ _ _ => (pe_op op_add (pv 5) (pe_op op_mulB (pv 8) (pv 3)))))
      (pss_cons (ps_setLc (i := 7) (own := [("lift", 9)])  (te := (tDIn (tVar 9) (tVar 1))) (tt := (tTest (tOp rEq (tCall (spCommon) [] E0 (tCons (tVar 9) (tCons (tVar 0) tNil))) (tC (.int 1))))) rfl sc_shortened.nd rfl rfl (sw_true rfl rfl rfl (by decide +kernel)) (pi_list (pv 6)) (blkOk_by (own := [("lift", 9)]) (N := ["modulus", "rests", "prime", "smaller", "kept", "rest", "lifts", "found", "k", "lift"]) (sc := defScope s_shortened) (by decide +kernel)) (fun _ _ _ _ _ => (pg_name (i := 9) sc_shortened.nd rfl (Or.inl rfl))) (fun _ _ _ _ _ => (pts_one (pt_cmpR op_eq (pe_d (E := E0) (ok_common T) (hr.mono (by decide)) passL (pa_cons (pv 9) (pa_cons (pv 0) pa_nil))) pe_int (nomark _)))) (fun _ _ _ _ _ => (pe_cmp (pc_din (hu_of hr) (pv 9) (pv 1)) rfl)))
      (pss_cons (ps_if (PW.pt (pw_and (pt_cmpR op_in_seq pe_bl (pv 7) (by rfl)) (pw_and1 (pt_cmpR op_in_seq pe_bl (pv 7) (by rfl))))) (pss_one (ps_ret pe_non)) pss_nil)
      (pss_one (ps_if (pt_val (pe_ix ix_list (pv 7) pe_int (fun _ _ => rfl))) (pss_one (ps_dput (hu_of hr) (pv 4) (pv 5) pe_bl rfl)) pss_nil))))))
      (pss_one (ps_ret (pv 4)))))), ?_⟩
    try dsimp only [cxOf]
    have q2 := hq.1
    have qm := Int.le_of_dvd (by omega) hd
    have hm : m = m / q * q := (Int.ediv_mul_cancel hd).symm
    have s1 : 1 ≤ m / q := by
      rcases Int.lt_or_le 0 (m / q) with z | z
      · exact z
      · have := Int.mul_le_mul_of_nonneg_right z (show 0 ≤ q by omega)
        omega
    have s2 : m / q ≤ 4000 := by
      have := Int.mul_le_mul_of_nonneg_left (show 1 ≤ q by omega) (show 0 ≤ m / q by omega)
      omega
    have sd : m / q ∣ m := ⟨q, hm⟩
    wtm_at "rs"
    intro Dk hDk
    wtm_at "rs"
    refine use_units s1 (by omega) fun U hU => ?_
    have hDk' : upd H Dk (DFl []) Dk = some (DFl []) := upd_same
    have hUU : upd (upd H Dk (DFl [])) U (.lst ((uL (m / q)).map V.int)) U = some (.lst ((uL (m / q)).map V.int)) := upd_same
    have hDU : upd (upd H Dk (DFl [])) U (.lst ((uL (m / q)).map V.int)) Dk = some (DFl []) := upd_keep hDk' hU
    have hne : Dk ≠ U := by
      rintro rfl
      cases hDk'.symm.trans hU
    generalize m / q = s at *
    wtm_at "rs"
    refine rd_forL (xs := (uL s).map V.int) (fun i σ H' => ∃ (L : List Int) (v5 v6 v7 : Option V), σ = [some (.int m), some (.ref a), some (.int q), some (.int s), some (.ref Dk), v5, v6, v7, none, none] ∧ Same H H' ∧ NoT H' ∧ H' Dk = some (DFl L) ∧ H' U = some (.lst ((uL s).map V.int)) ∧ Kept m R s ((uL s).take i) L)
      ⟨[], none, none, none, rfl, by wtm_at "sm", by wtm_at "nt", hDU, hUU, Kept.nil⟩ (fun i σ H' _ ⟨_, _, _, _, _, _, _, _, h, _⟩ => SqL.of h) ?_ ?_
    · rintro i x σ H' hi ⟨L, v5, v6, v7, rfl, sm, nt', hD, hU', inv⟩
      rw [List.getElem?_map] at hi
      obtain ⟨r, hr, rfl⟩ := Option.map_eq_some_iff.mp hi
      have hil := (List.getElem?_eq_some_iff.mp hr).1
      have er : (uL s).take (i + 1) = (uL s).take i ++ [r] := by rw [List.take_add_one, hr]; rfl
      have hru := List.mem_of_getElem? hr
      obtain ⟨r0, r1, rc⟩ := mem_uL.mp hru
      have hlt : ∀ k ∈ (uL s).take i, k < r := by
        have h := @uL_inc s
        rw [← List.take_append_drop (i + 1) (uL s), er, List.append_assoc] at h
        exact fun k hk => (List.pairwise_append.mp h).2.2 k hk r List.mem_cons_self
      have ha' := sm _ _ ha
      wtm_at "rs"
      refine rd_lcR (fun _ => true) (fun k => V.int (r + (0 + (k : Int)) * s)) (fun D i hD hi => ?_) fun D1 hD1 => ?_
      · wtm_at "r"
        refine ⟨rfl, ?_⟩
        wtm_at "rs"
        exact put_R (by omega) rfl rfl
      · rw [lifts_res]
        wtm_at "rs"
        refine rd_lcI (fun l => decide (Int.gcd l m = 1)) (fun l => V.bl (decide (l ∈ R))) (SqL.of upd_same) (fun D l x rr hD hx => ?_) fun D2 hD2 => ?_
        · have few : l.length < 1000000 := by
            have := congrArg List.length hx
            rw [List.length_append, liftsL_len] at this
            omega
          wtm_at "r"
          refine ⟨rfl, ?_⟩
          wtm_at "rs"
          wtm_at "i"
          · rename_i h
            wtm_at "rs"
            exact put_I few (decide_eq_true (by omega)) rfl
          · rename_i h
            exact skip_I (decide_eq_false fun z => h (by omega))
        · rw [show ((liftsL r s q).filter fun l => decide (Int.gcd l m = 1)).map (fun l => V.bl (decide (l ∈ R))) = ((lftL m r s q).map fun l => decide (l ∈ R)).map V.bl by rw [List.map_map]; rfl]
          have smn : Same H' (upd (upd H' D1 (.lst ((liftsL r s q).map V.int))) D2 (.lst (((lftL m r s q).map fun l => decide (l ∈ R)).map V.bl))) := (same_new hD1).trans (same_new hD2)
          have hF : SqL K (upd (upd H' D1 (.lst ((liftsL r s q).map V.int))) D2 (.lst (((lftL m r s q).map fun l => decide (l ∈ R)).map V.bl))) D2 (((lftL m r s q).map fun l => decide (l ∈ R)).map V.bl) := SqL.of upd_same
          have ntn : NoT (upd (upd H' D1 (.lst ((liftsL r s q).map V.int))) D2 (.lst (((lftL m r s q).map fun l => decide (l ∈ R)).map V.bl))) := NoT.upd (NoT.upd nt' rfl) rfl
          generalize upd (upd H' D1 (.lst ((liftsL r s q).map V.int))) D2 (.lst (((lftL m r s q).map fun l => decide (l ∈ R)).map V.bl)) = Hn at *
          have hne0 := lft_ne (r := r) hq (by omega) hm hru
          have lp := fun l hl => lft_prop (q := q) (by omega) hm hru (l := l) hl
          have mix : ∀ l1 ∈ lftL m r s q, ∀ l2 ∈ lftL m r s q, l1 ∈ R → l2 ∉ R → ¬ Lv m R s := fun l1 h1 l2 h2 a1 a2 z => by
            obtain ⟨c1, e1, f1⟩ := lp l1 h1
            obtain ⟨c2, e2, f2⟩ := lp l2 h2
            have := z l1 l2 c1 c2 (QR.dvd_of_emod_eq (by rw [f1, f2]))
            rw [e1, e2] at this
            exact a2 (this.mp a1)
          have all : ∀ x : Int, Int.gcd x m = 1 → x % s = r → x % m ∈ lftL m r s q := fun x hx hr => lft_all (by omega) (by omega) hm hx hr
          have step : ∀ (σ : L2.St) (nx : L2.St → Hp → Prop) (bk ct : L2.St → Hp → Prop), σ = [some (.int m), some (.ref a), some (.int q), some (.int s), some (.ref Dk), some (.int r), some (.ref D1), some (.ref D2), none, none] →
              ((∃ l ∈ lftL m r s q, l ∈ R) → (∃ l ∈ lftL m r s q, l ∉ R) → False) →
              (∀ H2 L', Same H H2 → NoT H2 → H2 Dk = some (DFl L') → H2 U = some (.lst ((uL s).map V.int)) → Kept m R s ((uL s).take (i + 1)) L' → nx σ H2) →
              tIfS (tB (tOp (rIxL K) (tVar 7) (tC (.int 0)))) (sDPut (tVar 4) (tVar 5) (tC (.bl true))) tNext ⟨nx, Q, bk, ct⟩ σ Hn := fun σ nx bk ct hσ one hn => by
            subst hσ
            obtain ⟨l0, ls, el⟩ := List.exists_cons_of_ne_nil hne0
            have h0 : l0 ∈ lftL m r s q := by rw [el]; exact List.mem_cons_self
            rw [el, List.map_cons, List.map_cons] at hF
            wtm_at "rs"
            refine rd_ixL (v := .bl (decide (l0 ∈ R))) hF (by simp [atI, ixN]) ?_
            refine ⟨_, rfl, ?_⟩
            have hlL : L.length < 1000000 := by
              have := nodup_le (M := 4000) (l := L) (inv.inc.imp fun h => by omega) fun k hk => by
                have := mem_uL.mp (List.mem_of_mem_take (inv.mem k hk))
                exact ⟨this.1, by omega⟩
              omega
            by_cases z : l0 ∈ R
            · rw [if_pos (decide_eq_true z)]
              wtm_at "rs"
              refine rd_dputF (smn _ _ hD) hlL ?_
              rw [insL_new fun hk => by have := hlt r (inv.mem r hk); omega]
              refine hn _ (L ++ [r]) (same_updN (sm.trans smn) hDk) (NoT.upd ntn rfl) upd_same (by rw [upd_ne (fun z => hne z.symm)]; exact smn _ _ hU') ?_
              rw [er]
              refine inv.put hlt fun x hx hr => ?_
              refine Classical.byContradiction fun y => one ⟨l0, h0, z⟩ ⟨_, all x hx hr, y⟩
            · rw [if_neg (by rw [decide_eq_true_iff]; exact z)]
              wtm_at "rs"
              refine hn _ L (sm.trans smn) ntn (smn _ _ hD) (smn _ _ hU') ?_
              rw [er]
              refine inv.skip hlt fun x hx hr y => ?_
              exact one ⟨_, all x hx hr, y⟩ ⟨l0, h0, z⟩
          wtm_at "rs"
          refine rd_inL hF rfl flat_bl ?_
          rw [inV_bl]
          refine ⟨_, rfl, ?_⟩
          by_cases z1 : true ∈ (lftL m r s q).map fun l => decide (l ∈ R)
          · rw [if_pos (decide_eq_true z1)]
            wtm_at "rs"
            refine rd_inL hF rfl flat_bl ?_
            rw [inV_bl]
            refine ⟨_, rfl, ?_⟩
            obtain ⟨l1, a1, b1⟩ := lft_bl.mp z1
            by_cases z2 : false ∈ (lftL m r s q).map fun l => decide (l ∈ R)
            · rw [if_pos (decide_eq_true z2)]
              obtain ⟨l2, a2, b2⟩ := lft_bl.mp z2
              wtm_at "rs"
              exact kn Hn (sm.trans smn) ntn (mix l1 a1 l2 a2 (of_decide_eq_true b1) (of_decide_eq_false b2))
            · rw [if_neg (by rw [decide_eq_true_iff]; exact z2)]
              refine step _ _ _ _ rfl (fun _ ⟨l2, a2, b2⟩ => z2 (lft_bl.mpr ⟨l2, a2, decide_eq_false b2⟩)) fun H2 L' c1 c2 c3 c4 c5 => ?_
              exact ⟨L', _, _, _, rfl, c1, c2, c3, c4, c5⟩
          · rw [if_neg (by rw [decide_eq_true_iff]; exact z1)]
            refine step _ _ _ _ rfl (fun ⟨l2, a2, b2⟩ _ => z1 (lft_bl.mpr ⟨l2, a2, decide_eq_true b2⟩)) fun H2 L' c1 c2 c3 c4 c5 => ?_
            exact ⟨L', _, _, _, rfl, c1, c2, c3, c4, c5⟩
    · rintro σ H' ⟨L, v5, v6, v7, rfl, sm, nt', hD, hU', inv⟩
      rw [List.length_map, List.take_length] at inv
      wtm_at "rs"
      exact kd Dk L H' sm nt' hDk hD (inv.done sd (by omega))
/-! ### toggled -/
def spTog : Sp := fun vs H Q E => ∃ (a : Addr) (p : Int) (S : List Int), vs = [.ref a, .int p] ∧ NoT H ∧ H a = some (.lst (S.map V.int)) ∧ S.length < 1000000 ∧ ∀ D H', Same H H' → NoT H' → H D = none → H' D = some (.lst ((togL S p).map V.int)) → Q (.ref D) H'
theorem use_tog {a : Addr} {p : Int} {S : List Int} {H : Hp} {Q : VK} {E : XK} (nt : NoT H) (ha : H a = some (.lst (S.map V.int))) (h1 : S.length < 1000000) (q : ∀ D H', Same H H' → NoT H' → H D = none → H' D = some (.lst ((togL S p).map V.int)) → Q (.ref D) H') : spTog [.ref a, .int p] H Q E := ⟨a, p, S, rfl, nt, ha, h1, q⟩
theorem ok_toggled (T : Txt K mg Ad) : Def P w K mg base 1 "toggled" ["singles", "p"] spTog := by
  refine T.d_toggled.ok sc_toggled (fun vs H Q E h => ?_) (fun f cdv A outer s H vs Q E hr h => ?_)
  · obtain ⟨a, p, S, rfl, _⟩ := h
    rfl
  · obtain ⟨a, p, S, rfl, nt, ha, few, q⟩ := h
    refine ⟨_, (pss_cons (ps_if (pt_cmpR op_in_seq (pv 1) (pv 0) (by rfl)) (pss_one (ps_ret (pe_lc (own := [("other", 2)])  (te := (tVar 2)) (tt := (tTest (tOp rNe (tVar 2) (tVar 1)))) rfl sc_toggled.nd  (pi_list (pv 0)) (blkOk_by (own := [("other", 2)]) (N := ["singles", "p", "other"]) (sc := defScope s_toggled) (by decide +kernel)) (fun _ _ _ _ _ => (pg_name (i := 2) sc_toggled.nd rfl (Or.inl rfl))) (fun _ _ _ _ _ => (pts_one (pt_cmpR op_ne (pv 2) (pv 1) (nomark _)))) (fun _ _ _ _ _ => (pv 2))))) pss_nil)
      (pss_one (ps_ret (pe_op op_cat (pv 0) (pe_lst (pa_cons (pv 1) pa_nil)))))), ?_⟩
    try dsimp only [cxOf]
    wtm_at "rs"
    refine rd_inL (SqL.of ha) rfl flat_ints ?_
    rw [inV_ints]
    refine ⟨_, rfl, ?_⟩
    by_cases z : p ∈ S
    · rw [if_pos (decide_eq_true z)]
      have e : togL S p = S.filter fun o => !decide (o = p) := if_pos z
      wtm_at "rs"
      refine rd_lcI (fun o => !decide (o = p)) V.int (SqL.of ha) (fun D l x r hD hx => ?_) fun D hD => ?_
      · have fl : l.length < 1000000 := by
          have := congrArg List.length hx
          rw [List.length_append] at this
          omega
        wtm_at "r"
        refine ⟨rfl, ?_⟩
        wtm_at "rs"
        by_cases y : x = p
        · rw [if_neg (by simp [y])]
          exact skip_I (by simp [y])
        · rw [if_pos (by simp [y])]
          wtm_at "rs"
          exact put_I fl (by simp [y]) rfl
      · rw [← e]
        exact q D _ (same_new hD) (NoT.upd nt rfl) hD upd_same
    · rw [if_neg (by rw [decide_eq_true_iff]; exact z)]
      have e : togL S p = S ++ [p] := if_neg z
      wtm_at "rs"
      rename_i p0 hp0
      refine rd_cat (upd_keep ha hp0) upd_same (room2 (n := 999999) (m := 1) (by rw [List.length_map]; omega) len_one (by decide)) fun D hD => ?_
      rw [show S.map V.int ++ [V.int p] = (togL S p).map V.int by rw [e, List.map_append]; rfl]
      exact q D _ ((same_new hp0).trans (same_new hD)) (NoT.upd (NoT.upd nt rfl) rfl) ((same_new hp0).free hD) upd_same
/-! ### told_by -/
def Rests (K : PySem.W.Frag) (H : Hp) (a : Addr) (R : List Int) : Prop := H a = some (DFl R) ∨ SqL K H a (R.map V.int) ∨ SqT K H a (R.map V.int)
theorem Rests.mono {K : PySem.W.Frag} {H H' : Hp} {a : Addr} {R : List Int} (sm : Same H H') (h : Rests K H a R) : Rests K H' a R := h.elim (fun z => .inl (sm _ _ z)) fun z => .inr (z.elim (fun z => .inl (sm.seq z)) fun z => .inr (sm.seqT z))
def spTold (K : PySem.W.Frag) : Sp := fun vs H Q E => ∃ (a : Addr) (m p : Int) (R : List Int), vs = [.int m, .ref a, .int p] ∧ Rests K H a R ∧ 1 ≤ m ∧ 1 ≤ p ∧ Q (.bl (decide (toldP m R p))) H
theorem use_told {K : PySem.W.Frag} {a : Addr} {m p : Int} {R : List Int} {H : Hp} {Q : VK} {E : XK} (ha : Rests K H a R) (h1 : 1 ≤ m) (h2 : 1 ≤ p) (q : Q (.bl (decide (toldP m R p))) H) : spTold K [.int m, .ref a, .int p] H Q E := ⟨a, m, p, R, rfl, ha, h1, h2, q⟩
theorem ok_told_by (T : Txt K mg Ad) : Def P w K mg base 1 "told_by" ["modulus", "rests", "p"] (spTold K) := by
  refine T.d_told_by.ok sc_told_by (fun vs H Q E h => ?_) (fun f cdv A outer s H vs Q E hr h => ?_)
  · obtain ⟨a, m, p, R, rfl, _⟩ := h
    rfl
  · obtain ⟨a, m, p, R, rfl, ha, m1, p1, q⟩ := h
    refine ⟨_, (pss_one (ps_ret (pe_and (pe_cmpR op_ne (pe_op op_mod (pv 0) (pv 2)) pe_int (nomark _)) (pe_one (pe_alt (pe_cmpR op_in_seq (pe_op op_mod (pv 2) (pv 0)) (pv 1) (by rfl)) (pe_cmp (pc_din (hu_of hr) (pe_op op_mod (pv 2) (pv 0)) (pv 1)) rfl)))))), ?_⟩
    try dsimp only [cxOf]
    wtm_at "rs"
    have e1 : (m % p = 0) ↔ p ∣ m := ⟨Int.dvd_of_emod_eq_zero, Int.emod_eq_zero_of_dvd⟩
    by_cases z : p ∣ m
    · rw [if_neg (by rw [decide_eq_true (e1.mpr z)]; decide)]
      rw [show decide (toldP m R p) = false from decide_eq_false fun y => y.1 z] at q
      exact q
    · rw [if_pos (by rw [decide_eq_false (fun y => z (e1.mp y))]; rfl)]
      have e2 : decide (toldP m R p) = decide (p % m ∈ R) := decide_eq_decide.mpr ⟨fun y => y.2, fun y => ⟨z, y⟩⟩
      rw [e2] at q
      rcases ha with ha | ha | ha
      · refine .inr ?_
        wtm_at "rs"
        first | exact q | exact rd_dinF ha q
      · refine .inl ?_
        wtm_at "rs"
        first | exact q | exact rd_inL ha rfl flat_ints (by rw [inV_ints]; exact q)
      · refine .inl ?_
        wtm_at "rs"
        first | exact q | exact rd_inT ha rfl flat_ints (by rw [inV_ints]; exact q)
/-! ### least_description -/
def spLeast : Sp := fun vs H Q E => ∃ (a b : Addr) (m : Int) (R S : List Int), vs = [.int m, .ref a, .ref b] ∧ NoT H ∧ H a = some (DFl R) ∧ H b = some (.lst (S.map V.int)) ∧ m ≤ 4000 ∧ Desc m R S ∧ R.Nodup ∧ S.Nodup ∧ S.length ≤ 900000 ∧
  ∀ (H' : Hp) (t a' b' : Addr) (m' : Int) (R' S' : List Int), Same H H' → NoT H' → H t = none → H' t = some (.tup [.int m', .ref a', .ref b']) → H' a' = some (DFl R') → H' b' = some (.lst (S'.map V.int)) → LeastOk m R S m' R' S' → (∀ q, QR.Pm q → LowAt m' R' q) → Q (.ref t) H'
/-- what shortening has told -/
def ShW (H' : Hp) (v : V) (m : Int) (R : List Int) (q : Int) : Prop := (v = .non ∧ LowAt m R q) ∨ ∃ D L, v = .ref D ∧ H' D = some (DFl L) ∧ q ∣ m ∧ Short m R (m / q) L
theorem use_shortW {a : Addr} {m q : Int} {R : List Int} {H : Hp} {Q : VK} {E : XK} (nt : NoT H) (ha : H a = some (DFl R)) (h1 : 1 ≤ m) (h2 : m ≤ 4000) (hq : QR.Pm q) (hd : q ∣ m)
    (k : ∀ v H', Same H H' → NoT H' → ShW H' v m R q → Q v H') : spShort [.int m, .ref a, .int q] H Q E :=
  use_short nt ha h1 h2 hq hd (fun H' a b c => k _ H' a b (.inl ⟨rfl, lowAt_of_not c⟩)) fun D L H' a b _ c d => k _ H' a b (.inr ⟨D, L, rfl, c, hd, d⟩)
theorem ok_least_description (T : Txt K mg Ad) : Def P w K mg base 4 "least_description" ["modulus", "rests", "singles"] spLeast := by
  refine T.d_least_description.ok sc_least_description (fun vs H Q E h => ?_) (fun f cdv A outer s H vs Q E hr h => ?_)
  · obtain ⟨a, b, m, R, S, rfl, _⟩ := h
    rfl
  · obtain ⟨a, b, m, R, S, rfl, nt, ha, hb, m2, de, rn, sn, few, q⟩ := h
    have m1 := de.pos
    refine ⟨_, (pss_cons (ps_for (passes_of rfl) rfl (pi_list (pe_d (ok_factors T) (hr.mono (by decide)) (passes_call (takes_of rfl rfl rfl rfl) (fun _ _ _ _ h => h)) (pa_cons (pv 0) pa_nil))) (pg_tup rfl (pgs_cons (pg_name (i := 3) sc_least_description.nd rfl (Or.inl rfl)) (pgs_cons (pg_name (i := 4) sc_least_description.nd rfl (Or.inl rfl)) pgs_nil))) (pss_cons (ps_set (i := 5) sc_least_description.nd rfl (Or.inl rfl) (pe_d (ok_shortened T) (hr.mono (by decide)) (passes_call (takes_of rfl rfl rfl rfl) (fun _ _ _ _ h => h)) (pa_cons (pv 0) (pa_cons (pv 1) (pa_cons (pv 3) pa_nil)))))
      (pss_one (ps_while (passes_of rfl) (pt_cmpR op_notN (pv 5) pe_non (nomark _)) (pss_cons (ps_set (i := 0) sc_least_description.nd rfl (Or.inl rfl) (pe_op op_fdivB (pv 0) (pv 3)))
      (pss_cons (ps_set (i := 1) sc_least_description.nd rfl (Or.inl rfl) (pv 5))
      (pss_cons (ps_if (PW.pt (pw_and (pt_cmpR op_ne (pv 3) pe_int (nomark _)) (pw_and (pt_cmpR op_ne (pe_op op_mod (pv 0) (pv 3)) pe_int (nomark _)) (pw_and1 (pt_val (pe_d (ok_told_by T) (hr.mono (by decide)) (passes_call (takes_of rfl rfl rfl rfl) (fun _ _ _ _ h => h)) (pa_cons (pv 0) (pa_cons (pv 1) (pa_cons (pv 3) pa_nil))))))))) (pss_one (ps_set (i := 2) sc_least_description.nd rfl (Or.inl rfl) (pe_d (ok_toggled T) (hr.mono (by decide)) (passes_call (takes_of rfl rfl rfl rfl) (fun _ _ _ _ h => h)) (pa_cons (pv 2) (pa_cons (pv 3) pa_nil))))) pss_nil)
      (pss_cons (ps_set (i := 5) sc_least_description.nd rfl (Or.inl rfl) pe_non)
      (pss_one (ps_if (pt_cmpR op_eq (pe_op op_mod (pv 0) (pv 3)) pe_int (nomark _)) (pss_one (ps_set (i := 5) sc_least_description.nd rfl (Or.inl rfl) (pe_d (ok_shortened T) (hr.mono (by decide)) (passes_call (takes_of rfl rfl rfl rfl) (fun _ _ _ _ h => h)) (pa_cons (pv 0) (pa_cons (pv 1) (pa_cons (pv 3) pa_nil)))))) pss_nil))))))))))
      (pss_one (ps_ret (pe_tup (pa_cons (pv 0) (pa_cons (pv 1) (pa_cons (pv 2) pa_nil))))))), ?_⟩
    try dsimp only [cxOf]
    wtm_at "rs"
    refine ⟨_, rfl, nt, m1, by omega, ?_⟩
    intro J H1 ts fs sm nt1 hJ hJ' hl hf
    wtm_at "rs"
    refine rd_forL (xs := ts.map V.ref) (fun i σ H2 => ∃ (a' b' : Addr) (m' : Int) (R' S' : List Int) (v3 v4 v5 : Option V), σ = [some (.int m'), some (.ref a'), some (.ref b'), v3, v4, v5] ∧ Same H1 H2 ∧ NoT H2 ∧ H2 a' = some (DFl R') ∧ H2 b' = some (.lst (S'.map V.int)) ∧ LeastOk m R S m' R' S' ∧ (∀ x ∈ fs.take i, LowAt m' R' x.1) ∧ ∀ x ∈ fs.drop i, x.1 ∣ m')
      ⟨a, b, m, R, S, none, none, none, rfl, Same.refl _, nt1, sm _ _ ha, sm _ _ hb, LeastOk.refl de rn sn, fun x h => absurd h (by simp), fun x hx => (hf.mem.mp ⟨x, List.mem_of_mem_drop hx, rfl⟩).2⟩ (fun i σ H2 _ ⟨_, _, _, _, _, _, _, _, _, s, _⟩ => s.seq (SqL.of hJ')) ?_ ?_
    · rintro i x σ H2 hi ⟨a', b', m', R', S', v3, v4, v5, rfl, sm2, nt2, ha2, hb2, ok, low, div⟩
      obtain ⟨t, l, rfl, ht, hlx⟩ := hl.at hi
      rw [List.getElem?_map] at hlx
      obtain ⟨⟨p, e⟩, hy, rfl⟩ := Option.map_eq_some_iff.mp hlx
      have hil := (List.getElem?_eq_some_iff.mp hy).1
      have hdr : fs.drop i = (p, e) :: fs.drop (i + 1) := by rw [List.drop_eq_getElem_cons hil, (List.getElem?_eq_some_iff.mp hy).2]
      have er : fs.take (i + 1) = fs.take i ++ [(p, e)] := by rw [List.take_add_one, hy]; rfl
      have hp : QR.Pm p := (hf.prime _ (List.mem_of_getElem? hy)).1
      have hpd : p ∣ m' := div (p, e) (by rw [hdr]; exact List.mem_cons_self)
      have hT : SqT K H2 t [.int p, .int (e : Int)] := SqT.of (sm2 _ _ ht)
      have asc : ∀ x ∈ fs.drop (i + 1), QR.Pm x.1 ∧ x.1 ≠ p := fun x hx => by
        refine ⟨(hf.prime _ (List.mem_of_mem_drop hx)).1, ?_⟩
        have h := hf.asc
        rw [← List.take_append_drop i fs, hdr] at h
        have := (List.pairwise_cons.mp (List.pairwise_append.mp h).2.1).1 x hx
        dsimp only at this
        omega
      have tk : ∀ x ∈ fs.take i, QR.Pm x.1 := fun x hx => (hf.prime _ (List.mem_of_mem_take hx)).1
      have small : ∀ {m' : Int} {R' S' : List Int}, LeastOk m R S m' R' S' → 1 ≤ m' ∧ m' ≤ 4000 := fun ok => by
        have h1 := ok.desc.pos
        have h2 := Int.le_of_dvd (by omega) ok.sub.dvd
        omega
      wtm_at "rs"
      refine use_shortW nt2 ha2 (small ok).1 (small ok).2 hp hpd fun v H3 sm3 nt3 hv => ?_
      wtm_at "rs"
      refine rd_while (fun μ σ H' => ∃ (a' b' : Addr) (m' : Int) (R' S' : List Int) (v : V), μ = m'.toNat ∧ σ = [some (.int m'), some (.ref a'), some (.ref b'), some (.int p), some (.int (e : Int)), some v] ∧ Same H1 H' ∧ NoT H' ∧ H' a' = some (DFl R') ∧ H' b' = some (.lst (S'.map V.int)) ∧ LeastOk m R S m' R' S' ∧ (∀ x ∈ fs.take i, LowAt m' R' x.1) ∧ (∀ x ∈ fs.drop (i + 1), x.1 ∣ m') ∧ ShW H' v m' R' p) _
        ⟨a', b', m', R', S', v, rfl, rfl, sm2.trans sm3, nt3, sm3 _ _ ha2, sm3 _ _ hb2, ok, low, fun x hx => div x (by rw [hdr]; exact List.mem_cons_of_mem _ hx), hv⟩ ?_
      clear v H3 sm3 nt3 hv ha2 hb2 ok low div hpd a' b' m' R' S' v3 v4 v5
      rintro μ σ H3 ⟨a', b', m', R', S', v, rfl, rfl, sm3, nt3, ha2, hb2, ok, low, div, hv⟩
      rcases hv with ⟨rfl, hlow⟩ | ⟨D, L, rfl, hD, hpd, hsh⟩
      · wtm_at "rs"
        refine ⟨a', b', m', R', S', _, _, _, rfl, sm3, nt3, ha2, hb2, ok, fun x hx => ?_, div⟩
        rw [er] at hx
        rcases List.mem_append.mp hx with hx | hx
        · exact low x hx
        · rw [List.mem_singleton.mp hx]
          exact hlow
      · have ok2 := ok.next hp hpd hsh
        have sm0 := small ok
        have sm1 := small ok2
        have p2 := hp.1
        obtain ⟨d1, d2⟩ := div_pos_of sm0.1 p2 hpd
        have md : ∀ {s : Int}, s % p = 0 ↔ p ∣ s := ⟨Int.dvd_of_emod_eq_zero, Int.emod_eq_zero_of_dvd⟩
        have tail : ∀ (s : Int) (b4 : Addr) (S4 : List Int) (H4 : Hp) (σ : L2.St) (nx : L2.St → Hp → Prop) (bk ct : L2.St → Hp → Prop), σ = [some (.int s), some (.ref D), some (.ref b4), some (.int p), some (.int (e : Int)), some .non] → 1 ≤ s ∧ s ≤ 4000 → Same H1 H4 → NoT H4 → H4 D = some (DFl L) → H4 b4 = some (.lst (S4.map V.int)) →
            (∀ v H5, Same H1 H5 → NoT H5 → H5 D = some (DFl L) → H5 b4 = some (.lst (S4.map V.int)) → ShW H5 v s L p → nx [some (.int s), some (.ref D), some (.ref b4), some (.int p), some (.int (e : Int)), some v] H5) →
            if decide (s % p = 0) = true then tAsg (tCall spShort [] E (tCons (tVar 0) (tCons (tVar 1) (tCons (tVar 3) tNil)))) (gName 5) ⟨nx, Q, bk, ct⟩ σ H4 else tNext ⟨nx, Q, bk, ct⟩ σ H4 := fun s b4 S4 H4 σ nx bk ct hσ hs sm4 nt4 hD4 hb4 hn => by
          subst hσ
          wtm_at "i"
          · rename_i h
            wtm_at "rs"
            refine use_shortW nt4 hD4 hs.1 hs.2 hp (md.mp (by omega)) fun v H5 sm5 nt5 hv => ?_
            wtm_at "rs"
            exact hn v H5 (sm4.trans sm5) nt5 (sm5 _ _ hD4) (sm5 _ _ hb4) hv
          · rename_i h
            wtm_at "rs"
            exact hn .non H4 sm4 nt4 hD4 hb4 (.inl ⟨rfl, lowAt_nd fun z => h (md.mpr z)⟩)
        have low2 : ∀ x ∈ fs.take i, LowAt (m' / p) L x.1 := fun x hx => (low x hx).next hp (tk x hx) sm0.1 hpd hsh
        have div2 : ∀ x ∈ fs.drop (i + 1), x.1 ∣ m' / p := fun x hx => dvd_next (asc x hx).1 hp hpd (div x hx) (asc x hx).2
        have fewS : S'.length < 1000000 := by
          have := ok.few m2
          omega
        have pm := Int.le_of_dvd (by omega) hpd
        wtm_at "rs"
        clear hpd hsh
        generalize hs : m' / p = s at *
        have skip : nextS s L S' p = S' → ∀ (nx bk ct : L2.St → Hp → Prop), (∀ v H5, Same H1 H5 → NoT H5 → H5 D = some (DFl L) → H5 b' = some (.lst (S'.map V.int)) → ShW H5 v s L p → LeastOk m R S s L S' → nx [some (.int s), some (.ref D), some (.ref b'), some (.int p), some (.int (e : Int)), some v] H5) → ∀ σ, σ = [some (.int s), some (.ref D), some (.ref b'), some (.int p), some (.int (e : Int)), some .non] →
            if decide (s % p = 0) = true then tAsg (tCall spShort [] E (tCons (tVar 0) (tCons (tVar 1) (tCons (tVar 3) tNil)))) (gName 5) ⟨nx, Q, bk, ct⟩ σ H3 else tNext ⟨nx, Q, bk, ct⟩ σ H3 := fun en nx bk ct hn σ hσ => by
          rw [en] at ok2
          exact tail s b' S' H3 σ nx bk ct hσ sm1 sm3 nt3 hD hb2 fun v H5 c1 c2 c3 c4 c5 => hn v H5 c1 c2 c3 c4 c5 ok2
        by_cases c1 : p = 2
        · rw [if_neg (by rw [decide_eq_true c1]; decide)]
          wtm_at "rs"
          refine skip (if_neg fun z => z.1 c1) _ _ _ (fun v H5 c1 c2 c3 c4 c5 ok2 => ?_) _ rfl
          exact ⟨_, by omega, D, b', s, L, S', v, rfl, rfl, c1, c2, c3, c4, ok2, low2, div2, c5⟩
        · rw [if_pos (by rw [decide_eq_false c1]; rfl)]
          wtm_at "rs"
          by_cases c2 : p ∣ s
          · rw [if_neg (by rw [decide_eq_true (md.mpr c2)]; decide)]
            wtm_at "rs"
            refine skip (if_neg fun z => z.2.1 c2) _ _ _ (fun v H5 c1 c2 c3 c4 c5 ok2 => ?_) _ rfl
            exact ⟨_, by omega, D, b', s, L, S', v, rfl, rfl, c1, c2, c3, c4, ok2, low2, div2, c5⟩
          · rw [if_pos (by rw [decide_eq_false fun z => c2 (md.mp z)]; rfl)]
            wtm_at "rs"
            refine use_told (.inl hD) sm1.1 (by omega) ?_
            refine ⟨_, rfl, ?_⟩
            by_cases c3 : toldP s L p
            · rw [if_pos (decide_eq_true c3)]
              wtm_at "rs"
              refine use_tog nt3 hb2 fewS fun D5 H5 sm5 nt5 _ hD5 => ?_
              rw [show nextS s L S' p = togL S' p from if_pos ⟨c1, c3⟩] at ok2
              wtm_at "rs"
              refine tail s D5 _ H5 _ _ _ _ rfl sm1 (sm3.trans sm5) nt5 (sm5 _ _ hD) hD5 fun v H6 c1 c2 c3 c4 c5 => ?_
              exact ⟨_, by omega, D, D5, s, L, _, v, rfl, rfl, c1, c2, c3, c4, ok2, low2, div2, c5⟩
            · rw [if_neg (by rw [decide_eq_true_iff]; exact c3)]
              wtm_at "rs"
              refine skip (if_neg fun z => c3 z.2) _ _ _ (fun v H5 c1 c2 c3 c4 c5 ok2 => ?_) _ rfl
              exact ⟨_, by omega, D, b', s, L, S', v, rfl, rfl, c1, c2, c3, c4, ok2, low2, div2, c5⟩
    · rintro σ H2 ⟨a', b', m', R', S', v3, v4, v5, rfl, sm2, nt2, ha2, hb2, ok, low, div⟩
      rw [List.length_map, hl.len, List.length_map, List.take_length] at low
      wtm_at "rs"
      rename_i t ht
      refine q _ t a' b' m' R' S' ((sm.trans sm2).trans (same_new ht)) (NoT.upd nt2 rfl) ((sm.trans sm2).free ht) upd_same (upd_keep ha2 ht) (upd_keep hb2 ht) ok fun p hp d => ?_
      obtain ⟨x, hx, e⟩ := hf.mem.mpr ⟨hp, Int.dvd_trans d ok.sub.dvd⟩
      exact e ▸ low x hx (e ▸ d)
/-! ### Primes.__init__ -/
def pfl (m : Int) (tR tS : Addr) : List (Str × V) := [("modulus", .int m), ("rests", .ref tR), ("singles", .ref tS)]
theorem nmr : ¬ (("modulus" : Str) = "rests") := by decide +kernel
theorem nms : ¬ (("modulus" : Str) = "singles") := by decide +kernel
theorem nrs : ¬ (("rests" : Str) = "singles") := by decide +kernel
theorem pfl_put (a b c : V) : putF "singles" c (putF "rests" b (putF "modulus" a [])) = ([("modulus", a), ("rests", b), ("singles", c)] : List (Str × V)) := by
  simp only [putF, if_neg nmr, if_neg nms, if_neg nrs]
def RestOk (m r : Int) : Prop := 0 ≤ r ∧ r < m ∧ Int.gcd r m = 1
theorem sort_lt {ms l : List Int} (h : ms.Pairwise (· ≤ ·)) (p : ms.Perm l) (n : l.Nodup) : ms.Pairwise (· < ·) := (h.and (p.nodup_iff.mpr n)).imp fun h => by omega
theorem upd_off {G : Hp} {x b : Addr} {o o1 o2 : HO} (hx : G x = some o) (hb : G b = some o1) (h : o1 ≠ o) : upd G x o2 b = some o1 := by
  rw [upd_ne (ne_of hb hx h)]
  exact hb
def spPI (K : PySem.W.Frag) (C CM CW CR CP : Addr) : Sp := fun vs H Q E => ∃ (x dx a b : Addr) (m : Int) (R S : List Int), vs = [.ref x, .int m, .ref a, .ref b] ∧ H x = some (.ins C dx []) ∧ NoT H ∧ (SqL K H a (R.map V.int) ∨ SqT K H a (R.map V.int)) ∧ (SqL K H b (S.map V.int) ∨ SqT K H b (S.map V.int)) ∧ R.length ≤ 90000 ∧ S.length ≤ 4000 ∧ (∀ p ∈ S, p < 2 ^ 120) ∧
  (m < 1 → ∀ d, H d = none → E (.ref CM) (some d) (upd H d (.xd [("modulus", .int m)]))) ∧ (4000 < m → ∀ d, H d = none → E (.ref CW) (some d) (upd H d (.xd [("modulus", .int m)]))) ∧
  (1 ≤ m → m ≤ 4000 → (∀ l r rs, R = l ++ r :: rs → (∀ o ∈ l, RestOk m o) → ¬ RestOk m r → ∀ d, H d = none → E (.ref CR) (some d) (upd H d (.xd [("rest", .int r)]))) ∧
    ((∀ r ∈ R, RestOk m r) → (∀ l p r, S = l ++ p :: r → (∀ o ∈ l, QR.OP o) → ¬ QR.OP p → ∀ d, H d = none → E (.ref CP) (some d) (upd H d (.xd [("p", .int p)]))) ∧
      ((∀ p ∈ S, QR.OP p) → ∀ (H' : Hp) (tR tS : Addr) (m' : Int) (R' S' : List Int), But x H H' → NoT H' → H' x = some (.ins C dx (pfl m' tR tS)) → H' tR = some (.tup (R'.map V.int)) → H' tS = some (.tup (S'.map V.int)) → Made m R S m' R' S' → Q .non H')))
/-- the object p is the set with this description -/
def IsP (C : Addr) (H : Hp) (p : Addr) (m : Int) (R S : List Int) : Prop := ∃ dx tR tS, H p = some (.ins C dx (pfl m tR tS)) ∧ H tR = some (.tup (R.map V.int)) ∧ H tS = some (.tup (S.map V.int))
theorem IsP.mono {C : Addr} {H H' : Hp} {p : Addr} {m : Int} {R S : List Int} (h : IsP C H p m R S) (s : Same H H') : IsP C H' p m R S := let ⟨dx, tR, tS, a, b, c⟩ := h; ⟨dx, tR, tS, s _ _ a, s _ _ b, s _ _ c⟩
theorem IsP.rig {C : Addr} {H : Hp} {p : Addr} {m : Int} {R S : List Int} (h : IsP C H p m R S) : Rig (fun G => IsP C G p m R S) H := fun G k => let ⟨dx, tR, tS, a, b, c⟩ := h; ⟨dx, tR, tS, k _ _ rfl a, k _ _ rfl b, k _ _ rfl c⟩
local macro_rules | `(tactic| wtm_at "ip") => `(tactic| first
  | with_reducible assumption
  | (with_reducible exact Hv.zAt (P := fun G => IsP _ G _ _ _ _) (by assumption) (by wtm_at "mem"))
  | (with_reducible refine IsP.mono ?_ (by with_reducible assumption); wtm_at "ip")
  | fail)
theorem mk_P {K : PySem.W.Frag} {C CM CW CR CP : Addr} {H1 : Hp} {Rk : Addr → Hp → Prop} {E : XK} {a b : Addr} {m : Int} {R S : List Int} (nt : NoT H1) (ha : SqL K H1 a (R.map V.int) ∨ SqT K H1 a (R.map V.int)) (hb : SqL K H1 b (S.map V.int) ∨ SqT K H1 b (S.map V.int)) (lR : R.length ≤ 90000) (lS : S.length ≤ 4000) (bS : ∀ p ∈ S, p < 2 ^ 120)
    (m1 : 1 ≤ m) (m2 : m ≤ 4000) (hR : ∀ r ∈ R, RestOk m r) (hS : ∀ p ∈ S, QR.OP p) (q : ∀ (x : Addr) (H' : Hp) (m' : Int) (R' S' : List Int), Same H1 H' → NoT H' → H1 x = none → IsP C H' x m' R' S' → Made m R S m' R' S' → Rk x H') :
    ∀ x dx, H1 x = none → H1 dx = none → dx ≠ x → spPI K C CM CW CR CP [.ref x, .int m, .ref a, .ref b] (upd (upd H1 dx (.own x)) x (.ins C dx [])) (fun v H2 => v = .non ∧ Rk x H2) E := by
  intro x dx nx nd ne
  have sm : Same H1 (upd (upd H1 dx (.own x)) x (.ins C dx [])) := same_upd2 (same_new nd) nx
  refine ⟨x, dx, a, b, m, R, S, rfl, upd_same, NoT.upd (NoT.upd nt rfl) rfl, ha.imp sm.seq sm.seqT, hb.imp sm.seq sm.seqT, lR, lS, bS, fun z => by omega, fun z => by omega, fun _ _ => ⟨fun l r rs e _ n => absurd (hR r (by rw [e]; simp)) n, fun _ => ⟨fun l p r e _ n => absurd (hS p (by rw [e]; simp)) n, fun _ H' tR tS m' R' S' bu n' hx h1 h2 md => ⟨rfl, ?_⟩⟩⟩⟩
  refine q x H' m' R' S' (fun b o e => bu b o (fun z => ?_) (sm b o e)) n' nx ⟨dx, tR, tS, hx, h1, h2⟩ md
  rw [z, nx] at e
  cases e
theorem ok_Primes_init (T : Txt K mg Ad) : MkDef P w K mg base 5 "Primes" Ad.c_Primes ["self", "modulus", "rests", "singles"] (spPI K Ad.c_Primes Ad.c_BadModulus Ad.c_TooWide Ad.c_BadRest Ad.c_BadPrime) := by
  refine T.d_Primes_init.ok sc_Primes_init (fun vs H Q E h => ?_) (fun f cdv A outer s H vs Q E hr h => ?_)
  · obtain ⟨x, dx, a, b, m, R, S, rfl, _⟩ := h
    rfl
  · obtain ⟨x, dx, a, b, m, R, S, rfl, hx, nt, ha, hb, lR, lS, bS, qm, qw, h⟩ := h
    refine ⟨_, (pss_cons (ps_expr (pe_d (ok_checked_modulus T) (hr.mono (by decide)) (passes_call (takes_of rfl rfl rfl rfl) (fun _ _ _ _ h => h)) (pa_cons (pv 1) pa_nil)))
      (pss_cons (ps_for (passes_of rfl) rfl (pi_alt (pi_list (pv 2)) (pi_tup (pv 2))) (pg_name (i := 4) sc_Primes_init.nd rfl (Or.inl rfl)) (pss_one (ps_if (PW.pt (pw_or (pt_cmpR op_lt (pv 4) pe_int (nomark _)) (pw_or (pt_cmpR op_ge (pv 4) (pv 1) (nomark _)) (pw_or1 (pt_cmpR op_ne (pe_d (ok_common T) (hr.mono (by decide)) (passes_call (takes_of rfl rfl rfl rfl) (fun _ _ _ _ h => h)) (pa_cons (pv 4) (pa_cons (pv 1) pa_nil))) pe_int (nomark _)))))) (pss_one (ps_raise rfl (takes_of rfl rfl rfl rfl) (pmk_err (T.err_BadRest) (hr.mono (by decide)) (pa_cons (pv 4) pa_nil)))) pss_nil)))
      (pss_cons (ps_expr (pe_d (ok_checked_singles T) (hr.mono (by decide)) (passes_call (takes_of rfl rfl rfl rfl) (fun _ _ _ _ h => h)) (pa_cons (pv 3) pa_nil)))
      (pss_cons (ps_set (i := 5) sc_Primes_init.nd rfl (Or.inl rfl) (pe_d (ok_least_description T) (hr.mono (by decide)) (passes_call (takes_of rfl rfl rfl rfl) (fun _ _ _ _ h => h)) (pa_cons (pv 1) (pa_cons (pe_dc (own := [("rest", 4)]) (tk := (tVar 4)) (tv := (tC (.bl true))) rfl sc_Primes_init.nd  (pi_alt (pi_list (pv 2)) (pi_tup (pv 2))) (blkOk_by (own := [("rest", 4)]) (N := ["self", "modulus", "rests", "singles", "rest", "found"]) (sc := defScope s_Primes_init) (by decide +kernel)) (fun _ _ _ _ _ => (pg_name (i := 4) sc_Primes_init.nd rfl (Or.inl rfl))) (fun _ _ _ _ _ => pts_nil) (fun _ _ _ _ _ => (pv 4)) (fun _ _ _ _ _ => pe_bl)) (pa_cons (pe_callB (cr_sortSetN rfl) (by rfl) T.b_sorted (by decide +kernel) (pa_cons (pe_callTy (cr_setOf rfl) (by rfl) T.b_set (by decide +kernel) (pa_cons (pv 3) pa_nil)) pa_nil)) pa_nil)))))
      (pss_cons (ps_fldC (pv 0) (pe_ix ix_tup (pv 5) pe_int (fun _ _ => rfl)) T.cl_Primes T.nf_Primes_modulus)
      (pss_cons (ps_fldC (pv 0) (pe_callTy call_tupN (by rfl) T.b_tuple (by decide +kernel) (pa_cons (pe_callB cr_sortedI (by rfl) T.b_sorted (by decide +kernel) (pa_cons (pe_callTy (c_listD rfl) (by rfl) T.b_list (by decide +kernel) (pa_cons (pe_ix ix_tup (pv 5) pe_int (fun _ _ => rfl)) pa_nil)) pa_nil)) pa_nil)) T.cl_Primes T.nf_Primes_rests)
      (pss_one (ps_fldC (pv 0) (pe_callTy call_tupN (by rfl) T.b_tuple (by decide +kernel) (pa_cons (pe_callB cr_sortedI (by rfl) T.b_sorted (by decide +kernel) (pa_cons (pe_ix ix_tup (pv 5) pe_int (fun _ _ => rfl)) pa_nil)) pa_nil)) T.cl_Primes T.nf_Primes_singles)))))))), ?_⟩
    try dsimp only [cxOf]
    wtm_at "rs"
    refine ⟨m, rfl, qm, qw, fun m1 m2 => ?_⟩
    obtain ⟨qr, h⟩ := h m1 m2
    wtm_at "rs"
    refine rd_forS rfl ha (fun i σ => ∃ v4, σ = [some (.ref x), some (.int m), some (.ref a), some (.ref b), v4, none] ∧ ∀ o ∈ R.take i, RestOk m o) ⟨none, rfl, by simp⟩ ?_ ?_
    · rintro i v σ hi ⟨v4, rfl, low⟩
      rw [List.getElem?_map] at hi
      obtain ⟨r, hr, rfl⟩ := Option.map_eq_some_iff.mp hi
      have hil := (List.getElem?_eq_some_iff.mp hr).1
      have er : R.take (i + 1) = R.take i ++ [r] := by rw [List.take_add_one, hr]; rfl
      have bad : ¬ RestOk m r → ∀ d, H d = none → E (.ref Ad.c_BadRest) (some d) (upd H d (.xd [("rest", .int r)])) := qr (R.take i) r (R.drop (i + 1)) (by
        have := (List.take_append_drop i R).symm
        rw [List.drop_eq_getElem_cons hil, (List.getElem?_eq_some_iff.mp hr).2] at this
        exact this) low
      have fin : RestOk m r → ∀ (σ' : L2.St), σ' = [some (.ref x), some (.int m), some (.ref a), some (.ref b), some (.int r), none] → H = H ∧ ∃ v4, σ' = [some (.ref x), some (.int m), some (.ref a), some (.ref b), v4, none] ∧ ∀ o ∈ R.take (i + 1), RestOk m o := fun ok σ' e => ⟨rfl, _, e, fun o ho => by
        rw [er] at ho
        rcases List.mem_append.mp ho with ho | ho
        · exact low o ho
        · rw [List.mem_singleton.mp ho]
          exact ok⟩
      wtm_at "rs"
      by_cases h1 : r < 0
      · rw [if_pos (decide_eq_true h1), if_pos rfl]
        wtm_at "rs"
        exact bad fun z => by have := z.1; omega
      · rw [if_neg (by rw [decide_eq_true_iff]; exact h1)]
        wtm_at "rs"
        by_cases h2 : m ≤ r
        · rw [if_pos (decide_eq_true h2), if_pos rfl]
          wtm_at "rs"
          exact bad fun z => by have := z.2.1; omega
        · rw [if_neg (by rw [decide_eq_true_iff]; exact h2)]
          wtm_at "rs"
          by_cases h3 : Int.gcd r m = 1
          · rw [if_neg (by simp [h3])]
            wtm_at "rs"
            exact fin ⟨by omega, by omega, h3⟩ _ rfl
          · rw [if_pos (by rw [Bool.not_eq_true', decide_eq_false_iff_not]; omega)]
            wtm_at "rs"
            exact bad fun z => h3 z.2.2
    · rintro σ ⟨v4, rfl, low⟩
      rw [List.length_map, List.take_length] at low
      obtain ⟨qp, q⟩ := h low
      wtm_at "rs"
      refine ⟨b, S, rfl, hb, bS, qp, fun hS => ?_⟩
      replace q := q hS
      wtm_at "rs"
      refine rd_dcS rfl ha (fun D l r rs hD hx => ?_) fun D1 hD1 => ?_
      · wtm_at "r"
        refine ⟨rfl, ?_⟩
        wtm_at "rs"
        exact put_F (by
          have := congrArg List.length hx
          rw [List.length_append] at this
          omega) rfl
      · have s1 : Same H (upd H D1 (DFl (ofL R))) := same_new hD1
        have n1 : NoT (upd H D1 (DFl (ofL R))) := NoT.upd nt rfl
        have d1 : upd H D1 (DFl (ofL R)) D1 = some (DFl (ofL R)) := upd_same
        generalize upd H D1 (DFl (ofL R)) = G1 at *
        wtm_at "rs"
        refine ⟨b, S, rfl, hb.imp s1.seq s1.seqT, by omega, fun D2 n hD2 => ?_⟩
        have s2 : Same G1 (upd G1 D2 (SetO w D2 (inS S) n)) := same_new hD2
        have n2 : NoT (upd G1 D2 (SetO w D2 (inS S) n)) := NoT.upd n1 rfl
        have d2 : upd G1 D2 (SetO w D2 (inS S) n) D2 = some (SetO w D2 (inS S) n) := upd_same
        generalize upd G1 D2 (SetO w D2 (inS S) n) = G2 at *
        wtm_at "rs"
        refine rd_sortSetN d2 fun ns p3 i3 e3 h3 => ?_
        have s3 : Same G2 (upd G2 p3 (.lst (ns.map V.int))) := same_new h3
        have n3 : NoT (upd G2 p3 (.lst (ns.map V.int))) := NoT.upd n2 rfl
        have d3 : upd G2 p3 (.lst (ns.map V.int)) p3 = some (.lst (ns.map V.int)) := upd_same
        generalize upd G2 p3 (.lst (ns.map V.int)) = G3 at *
        have nsn : ns.Nodup := i3.imp fun h => by omega
        have nsl : ns.length ≤ S.length := nodup_sub_len nsn fun k hk => (e3 k).mp hk
        wtm_at "rs"
        refine ⟨D1, p3, m, ofL R, ns, rfl, n3, s3 _ _ (s2 _ _ d1), d3, m2, ⟨m1, fun r hr => low r (mem_ofL.mp hr), fun p hp => hS p ((e3 p).mp hp)⟩, nodup_ofL, nsn, by omega, fun G4 t a' b' m' R' S' s4 n4 _ ht ha4 hb4 ok lo => ?_⟩
        have few := ok.few m2
        have s04 : Same H G4 := ((s1.trans s2).trans s3).trans s4
        have x4 : G4 x = some (.ins Ad.c_Primes dx []) := s04 _ _ hx
        have hT : SqT K G4 t [.int m', .ref a', .ref b'] := SqT.of ht
        clear s1 s2 s3 s4 n1 n2 n3 d1 d2 d3 hD1 hD2 h3 hb ha
        have x5 : upd G4 x (.ins Ad.c_Primes dx (putF "modulus" (.int m') [])) x = some (.ins Ad.c_Primes dx (putF "modulus" (.int m') [])) := upd_same
        have t5 : upd G4 x (.ins Ad.c_Primes dx (putF "modulus" (.int m') [])) t = some (.tup [.int m', .ref a', .ref b']) := upd_off x4 ht (by intro z; cases z)
        have a5 : upd G4 x (.ins Ad.c_Primes dx (putF "modulus" (.int m') [])) a' = some (DFl R') := upd_off x4 ha4 (by intro z; cases z)
        have b5 : upd G4 x (.ins Ad.c_Primes dx (putF "modulus" (.int m') [])) b' = some (.lst (S'.map V.int)) := upd_off x4 hb4 (by intro z; cases z)
        have n5 : NoT (upd G4 x (.ins Ad.c_Primes dx (putF "modulus" (.int m') []))) := NoT.upd n4 rfl
        have B5 : But x H (upd G4 x (.ins Ad.c_Primes dx (putF "modulus" (.int m') []))) := (But.of s04).put
        have tT5 := SqT.of (K := K) t5
        wtm_at "rs"
        rename_i D6 h6
        generalize upd G4 x (.ins Ad.c_Primes dx (putF "modulus" (.int m') [])) = G5 at *
        intro ms D7 perm le7 h7
        have B7 := (B5.new (o := .lst (R'.map V.int)) h6).new (o := .lst (ms.map V.int)) h7
        have x7 := upd_keep (u := .lst (ms.map V.int)) (upd_keep (u := .lst (R'.map V.int)) x5 h6) h7
        have t7 := upd_keep (u := .lst (ms.map V.int)) (upd_keep (u := .lst (R'.map V.int)) t5 h6) h7
        have b7 := upd_keep (u := .lst (ms.map V.int)) (upd_keep (u := .lst (R'.map V.int)) b5 h6) h7
        have n7 : NoT (upd (upd G5 D6 (.lst (R'.map V.int))) D7 (.lst (ms.map V.int))) := NoT.upd (NoT.upd n5 rfl) rfl
        have d7 : upd (upd G5 D6 (.lst (R'.map V.int))) D7 (.lst (ms.map V.int)) D7 = some (.lst (ms.map V.int)) := upd_same
        generalize upd (upd G5 D6 (.lst (R'.map V.int))) D7 (.lst (ms.map V.int)) = G7 at *
        wtm_at "rs"
        refine ⟨D7, _, rfl, .inl ⟨SqL.of d7, fun t8 h8 => ?_⟩⟩
        have B8 := B7.new (o := .tup (ms.map V.int)) h8
        have x8 := upd_keep (u := .tup (ms.map V.int)) x7 h8
        have t8' := upd_keep (u := .tup (ms.map V.int)) t7 h8
        have b8 := upd_keep (u := .tup (ms.map V.int)) b7 h8
        have n8 : NoT (upd G7 t8 (.tup (ms.map V.int))) := NoT.upd n7 rfl
        have d8 : upd G7 t8 (.tup (ms.map V.int)) t8 = some (.tup (ms.map V.int)) := upd_same
        generalize upd G7 t8 (.tup (ms.map V.int)) = G8 at *
        wtm_at "rs"
        have O9 : But x H (upd G8 x (.ins Ad.c_Primes dx (putF "rests" (.ref t8) (putF "modulus" (.int m') [])))) := B8.put
        have x9 : upd G8 x (.ins Ad.c_Primes dx (putF "rests" (.ref t8) (putF "modulus" (.int m') []))) x = some (.ins Ad.c_Primes dx (putF "rests" (.ref t8) (putF "modulus" (.int m') []))) := upd_same
        have n9 : NoT (upd G8 x (.ins Ad.c_Primes dx (putF "rests" (.ref t8) (putF "modulus" (.int m') [])))) := NoT.upd n8 rfl
        have t9 := SqT.of (K := K) (upd_off (o2 := .ins Ad.c_Primes dx (putF "rests" (.ref t8) (putF "modulus" (.int m') []))) x8 t8' (by intro z; cases z))
        have b9 := upd_off (o2 := .ins Ad.c_Primes dx (putF "rests" (.ref t8) (putF "modulus" (.int m') []))) x8 b8 (by intro z; cases z)
        have r9 := upd_off (o2 := .ins Ad.c_Primes dx (putF "rests" (.ref t8) (putF "modulus" (.int m') []))) x8 d8 (by intro z; cases z)
        generalize upd G8 x (.ins Ad.c_Primes dx (putF "rests" (.ref t8) (putF "modulus" (.int m') []))) = G9 at *
        wtm_at "rs"
        intro ns2 D10 perm2 le10 h10
        have B10 := O9.new (o := .lst (ns2.map V.int)) h10
        have x10 := upd_keep (u := .lst (ns2.map V.int)) x9 h10
        have r10 := upd_keep (u := .lst (ns2.map V.int)) r9 h10
        have n10 : NoT (upd G9 D10 (.lst (ns2.map V.int))) := NoT.upd n9 rfl
        have d10 : upd G9 D10 (.lst (ns2.map V.int)) D10 = some (.lst (ns2.map V.int)) := upd_same
        generalize upd G9 D10 (.lst (ns2.map V.int)) = G10 at *
        wtm_at "rs"
        refine ⟨D10, _, rfl, .inl ⟨SqL.of d10, fun t11 h11 => ?_⟩⟩
        have B11 := B10.new (o := .tup (ns2.map V.int)) h11
        have x11 := upd_keep (u := .tup (ns2.map V.int)) x10 h11
        have r11 := upd_keep (u := .tup (ns2.map V.int)) r10 h11
        have n11 : NoT (upd G10 t11 (.tup (ns2.map V.int))) := NoT.upd n10 rfl
        have d11 : upd G10 t11 (.tup (ns2.map V.int)) t11 = some (.tup (ns2.map V.int)) := upd_same
        generalize upd G10 t11 (.tup (ns2.map V.int)) = G11 at *
        wtm_at "rs"
        refine q _ t8 t11 m' ms ns2 B11.put (NoT.upd n11 rfl) (by rw [upd_same, pfl_put]; rfl) (upd_off x11 r11 (by intro z; cases z)) (upd_off x11 d11 (by intro z; cases z)) ?_
        exact ok.made lo m2 (fun k => mem_ofL) e3 nsl (fun k => perm.mem_iff) (fun k => perm2.mem_iff) (Nat.le_of_eq perm2.length_eq) (sort_lt le7 perm ok.rn) (sort_lt le10 perm2 ok.sn)
/-! ### Primes.__str__ -/
def ptxL (m : Int) (R S : List Int) : List Str := ((["modulo", txI m, "rests"] : List Str) ++ R.map txI) ++ (["singles"] : List Str) ++ S.map txI
def ptx (m : Int) (R S : List Int) : Str := Txt.join " " (ptxL m R S)
def spPStr0 (C : Addr) : Sp := fun vs H Q E => ∃ (p : Addr) (m : Int) (R S : List Int), vs = [.ref p] ∧ NoT H ∧ IsP C H p m R S ∧ SetOk m R S ∧ ∀ H', Same H H' → Q (.str (ptx m R S)) H'
def spPStr (C : Addr) : Sp := fun vs H Q E => ∃ (p : Addr) (m : Int) (R S : List Int), vs = [.ref p] ∧ NoT H ∧ IsP C H p m R S ∧ SetOk m R S ∧ Q (.str (ptx m R S)) H
theorem sum_le {n : Nat} : ∀ {l : List Str}, (∀ y ∈ l, y.length ≤ n) → (l.map (·.length)).sum ≤ n * l.length
  | [], _ => by simp
  | x :: l, h => by
    have a := h x List.mem_cons_self
    have b := sum_le (l := l) fun y hy => h y (List.mem_cons_of_mem _ hy)
    rw [List.map_cons, List.sum_cons, List.length_cons, Nat.mul_add]
    omega
theorem ptx_small {m : Int} {R S : List Int} (o : SetOk m R S) : ((ptxL m R S).map (·.length)).sum + (ptxL m R S).length * (" " : Str).length ≤ 16777216 := by
  have lr := least_len o.least o.le
  have ls := o.few
  have p1 := o.least.desc.pos
  have l1 := o.le
  have e : (ptxL m R S).length ≤ 5004 := by
    unfold ptxL
    simp only [List.length_append, List.length_map, List.length_cons, List.length_nil]
    omega
  have h := sum_le (n := 1001) (l := ptxL m R S) fun y hy => by
    have w : ∀ {x : Int}, Bd 1000 x → (txI x).length ≤ 1001 := fun b => (txI_len (n := 1000) b (Nat.le_refl _)).1
    unfold ptxL at hy
    simp only [List.mem_append, List.mem_cons, List.not_mem_nil, or_false, List.mem_map] at hy
    rcases hy with (((rfl | rfl | rfl) | ⟨x, hx, rfl⟩) | rfl) | ⟨x, hx, rfl⟩
    · decide +kernel
    · exact w ((Bd.of (n := 12) (by omega) (by omega)).mono (by decide))
    · decide +kernel
    · have := o.least.desc.rests x hx
      exact w ((Bd.of (n := 12) (by omega) (by omega)).mono (by decide))
    · decide +kernel
    · have := o.small x hx
      have := (o.least.desc.singles x hx).1.1
      exact w ((Bd.of (n := 120) (by omega) (by omega)).mono (by decide))
  have s1 : (" " : Str).length = 1 := by decide +kernel
  rw [s1]
  omega
theorem ok_Primes_str0 (T : Txt K mg Ad) : MDef P w K mg base 1 Ad.c_Primes "__str__" ["self"] (spPStr0 Ad.c_Primes) := by
  refine T.d_Primes_str.ok sc_Primes_str (fun vs H Q E h => ?_) (fun f cdv A outer s H vs Q E hr h => ?_)
  · obtain ⟨p, m, R, S, rfl, _⟩ := h
    rfl
  · obtain ⟨p, m, R, S, rfl, nt, ip, o, q⟩ := h
    refine ⟨_, (pss_cons (ps_set (i := 1) sc_Primes_str.nd rfl (Or.inl rfl) (pe_lst (pa_cons pe_str (pa_cons (pe_callTy call_strI (by rfl) T.b_str (by decide +kernel) (pa_cons (pe_fldC (pv 0) T.cl_Primes T.nf_Primes_modulus) pa_nil)) (pa_cons pe_str pa_nil)))))
      (pss_cons (ps_expr (pe_bm PySem.F.plainAttrs_list PySem.F.slot_list_extend PySem.F.type_list_extend mt_extend (pv 1) (pa_cons (pe_lc (own := [("rest", 2)])  rfl sc_Primes_str.nd  (pi_tup (pe_fldC (pv 0) T.cl_Primes T.nf_Primes_rests)) (blkOk_by (own := [("rest", 2)]) (N := ["self", "words", "rest", "p"]) (sc := defScope s_Primes_str) (by decide +kernel)) (fun _ _ _ _ _ => (pg_name (i := 2) sc_Primes_str.nd rfl (Or.inl rfl))) (fun _ _ _ _ _ => pts_nil) (fun _ _ _ _ _ => (pe_callTy call_strI (by rfl) T.b_str (by decide +kernel) (pa_cons (pv 2) pa_nil)))) pa_nil)))
      (pss_cons (ps_expr (pe_bm PySem.F.plainAttrs_list PySem.F.slot_list_append PySem.F.type_list_append mt_append (pv 1) (pa_cons pe_str pa_nil)))
      (pss_cons (ps_expr (pe_bm PySem.F.plainAttrs_list PySem.F.slot_list_extend PySem.F.type_list_extend mt_extend (pv 1) (pa_cons (pe_lc (own := [("p", 3)])  rfl sc_Primes_str.nd  (pi_tup (pe_fldC (pv 0) T.cl_Primes T.nf_Primes_singles)) (blkOk_by (own := [("p", 3)]) (N := ["self", "words", "rest", "p"]) (sc := defScope s_Primes_str) (by decide +kernel)) (fun _ _ _ _ _ => (pg_name (i := 3) sc_Primes_str.nd rfl (Or.inl rfl))) (fun _ _ _ _ _ => pts_nil) (fun _ _ _ _ _ => (pe_callTy call_strI (by rfl) T.b_str (by decide +kernel) (pa_cons (pv 3) pa_nil)))) pa_nil)))
      (pss_one (ps_ret (pe_join pe_str (pv 1)))))))), ?_⟩
    try dsimp only [cxOf]
    have lr := least_len o.least o.le
    have ls := o.few
    have p1 := o.least.desc.pos
    have l1 := o.le
    obtain ⟨dx, tR, tS, h1, h2, h3⟩ := id ip
    have bm : Bd 1000 m := (Bd.of (n := 12) (by omega) (by omega)).mono (by decide)
    have B := Hv.start nt
    wtm_at "rs"
    rename_i D0 hD0
    have B := B.new (o := .lst [.str "modulo", .str (txI m), .str "rests"]) hD0
    clear hD0
    refine B.gen fun G B => ?_
    wtm_at "rs"
    refine rd_lcIT (fun _ => true) (fun x => .str (txI x)) (SqT.of (B.oAt h2)) (fun D l x r hD hx => ?_) fun D1 hD1 => ?_
    · have hm : x ∈ R := by rw [hx]; simp
      have := o.least.desc.rests x hm
      have bx : Bd 1000 x := (Bd.of (n := 12) (by omega) (by omega)).mono (by decide)
      wtm_at "r"
      refine ⟨rfl, ?_⟩
      wtm_at "rs"
      exact put_I (by
        have := congrArg List.length hx
        rw [List.length_append] at this
        omega) rfl rfl
    rw [List.filter_eq_self.mpr fun _ _ => rfl]
    have B := B.newL (o := .lst (R.map fun x => .str (txI x))) hD1
    clear hD1
    refine B.gen fun G B => ?_
    wtm_at "rs"
    refine rd_extend (B.mAt (a := D0) (by wtm_at "mem")) (B.lAt (a := D1) (by wtm_at "mem")) (room2 (n := 3) (m := 4000) (by simp) (by rw [List.length_map]; exact lr) (by decide)) ?_
    have B := B.put (u := .lst ([.str "modulo", .str (txI m), .str "rests"] ++ R.map fun x => .str (txI x)))
    refine B.gen fun G B => ?_
    wtm_at "rs"
    refine rd_append (B.mAt (a := D0) (by wtm_at "mem")) (Nat.lt_of_le_of_lt (m := 4003) (by rw [List.length_append, List.length_map]; simp; omega) (by decide)) ?_
    have B := B.put (u := .lst (([.str "modulo", .str (txI m), .str "rests"] ++ R.map fun x => .str (txI x)) ++ [.str "singles"]))
    refine B.gen fun G B => ?_
    wtm_at "rs"
    refine rd_lcIT (fun _ => true) (fun x => .str (txI x)) (SqT.of (B.oAt h3)) (fun D l x r hD hx => ?_) fun D2 hD2 => ?_
    · have hm : x ∈ S := by rw [hx]; simp
      have := o.small x hm
      have := (o.least.desc.singles x hm).1.1
      have bx : Bd 1000 x := (Bd.of (n := 120) (by omega) (by omega)).mono (by decide)
      wtm_at "r"
      refine ⟨rfl, ?_⟩
      wtm_at "rs"
      exact put_I (by
        have := congrArg List.length hx
        rw [List.length_append] at this
        omega) rfl rfl
    rw [List.filter_eq_self.mpr fun _ _ => rfl]
    have B := B.newL (o := .lst (S.map fun x => .str (txI x))) hD2
    clear hD2
    refine B.gen fun G B => ?_
    wtm_at "rs"
    refine rd_extend (B.mAt (a := D0) (by wtm_at "mem")) (B.lAt (a := D2) (by wtm_at "mem")) (room2 (n := 4004) (m := 1000) (by rw [List.length_append, List.length_append, List.length_map]; simp; omega) (by rw [List.length_map]; exact ls) (by decide)) ?_
    have B := B.put (u := .lst ((([.str "modulo", .str (txI m), .str "rests"] ++ R.map fun x => .str (txI x)) ++ [.str "singles"]) ++ S.map fun x => .str (txI x)))
    rw [show ((([V.str "modulo", .str (txI m), .str "rests"] ++ R.map fun x => V.str (txI x)) ++ [.str "singles"]) ++ S.map fun x => V.str (txI x)) = (ptxL m R S).map V.str by unfold ptxL; simp [List.map_append, Function.comp_def]] at *
    refine B.gen fun G B => ?_
    wtm_at "rs"
    refine ⟨⟨_, rfl⟩, ?_⟩
    wtm_at "rs"
    refine rd_join (SqL.of (B.mAt (a := D0) (by wtm_at "mem"))) (ptx_small o) ?_
    wtm_at "rs"
    exact q _ B.same
theorem ok_Primes_str (T : Txt K mg Ad) : MDef P w K mg base 1 Ad.c_Primes "__str__" ["self"] (spPStr Ad.c_Primes) :=
  (ok_Primes_str0 T).forget.imp fun vs H Q E ⟨p, m, R, S, e, nt, hp, o, k⟩ => ⟨nt, p, m, R, S, e, nt, hp, o, fun H' s => ⟨s, k⟩⟩
/-! ### _law_text -/
def spLTx : Sp := fun vs H Q _ => ∃ (r a b : Addr) (m : Int) (R S : List Int), vs = [.ref r] ∧ H r = some (.lst [.int m, .ref a, .ref b]) ∧ H a = some (.lst (R.map V.int)) ∧ H b = some (.lst (S.map V.int)) ∧ Bd 1000 m ∧ (∀ x ∈ R, Bd 1000 x) ∧ (∀ x ∈ S, Bd 1000 x) ∧ R.length ≤ 4000 ∧ S.length ≤ 1000 ∧ NoT H ∧ ∀ G, Same H G → NoT G → Q (.str (ptx m R S)) G
theorem use_LTx {r a b : Addr} {m : Int} {R S : List Int} {H : Hp} {Q : VK} {E : XK} (h1 : H r = some (.lst [.int m, .ref a, .ref b])) (h2 : H a = some (.lst (R.map V.int))) (h3 : H b = some (.lst (S.map V.int))) (bm : Bd 1000 m) (bR : ∀ x ∈ R, Bd 1000 x) (bS : ∀ x ∈ S, Bd 1000 x) (lR : R.length ≤ 4000) (lS : S.length ≤ 1000) (nt : NoT H) (q : ∀ G, Same H G → NoT G → Q (.str (ptx m R S)) G) : spLTx [.ref r] H Q E := ⟨r, a, b, m, R, S, rfl, h1, h2, h3, bm, bR, bS, lR, lS, nt, q⟩
theorem ptx_sum {m : Int} {R S : List Int} (bm : Bd 1000 m) (bR : ∀ x ∈ R, Bd 1000 x) (bS : ∀ x ∈ S, Bd 1000 x) (lR : R.length ≤ 4000) (lS : S.length ≤ 1000) : ((ptxL m R S).map (·.length)).sum + (ptxL m R S).length * (" " : Str).length ≤ 16777216 := by
  have e : (ptxL m R S).length ≤ 5004 := by
    unfold ptxL
    simp only [List.length_append, List.length_map, List.length_cons, List.length_nil]
    omega
  have h := sum_le (n := 1001) (l := ptxL m R S) fun y hy => by
    have w : ∀ {x : Int}, Bd 1000 x → (txI x).length ≤ 1001 := fun b => (txI_len (n := 1000) b (Nat.le_refl _)).1
    unfold ptxL at hy
    simp only [List.mem_append, List.mem_cons, List.not_mem_nil, or_false, List.mem_map] at hy
    rcases hy with (((rfl | rfl | rfl) | ⟨x, hx, rfl⟩) | rfl) | ⟨x, hx, rfl⟩
    · decide +kernel
    · exact w bm
    · decide +kernel
    · exact w (bR x hx)
    · decide +kernel
    · exact w (bS x hx)
  have s1 : (" " : Str).length = 1 := by decide +kernel
  rw [s1]
  omega
theorem ok_law_text (T : Txt K mg Ad) : Def P w K mg base 1 "_law_text" ["_law_row"] spLTx := by
  refine T.d_law_text.ok sc_law_text (fun vs H Q E h => ?_) (fun f cdv A outer s H vs Q E hr h => ?_)
  · obtain ⟨r, a, b, m, R, S, rfl, _⟩ := h
    rfl
  · obtain ⟨r, a, b, m, R, S, rfl, h1, h2, h3, bm, bR, bS, lR, lS, nt, q⟩ := h
    refine ⟨_, (pss_cons (ps_set (i := 1) sc_law_text.nd rfl (Or.inl rfl) (pe_op op_cat (pe_lst (pa_cons pe_str (pa_cons (pe_callTy call_strI (by rfl) T.b_str (by decide +kernel) (pa_cons (pe_ix ix_list (pv 0) pe_int (fun _ _ => rfl)) pa_nil)) (pa_cons pe_str pa_nil)))) (pe_lc (own := [("_law_rest", 2)])  rfl sc_law_text.nd  (pi_list (pe_ix ix_list (pv 0) pe_int (fun _ _ => rfl))) (blkOk_by (own := [("_law_rest", 2)]) (N := ["_law_row", "_law_words", "_law_rest", "_law_p"]) (sc := defScope s_law_text) (by decide +kernel)) (fun _ _ _ _ _ => (pg_name (i := 2) sc_law_text.nd rfl (Or.inl rfl))) (fun _ _ _ _ _ => pts_nil) (fun _ _ _ _ _ => (pe_callTy call_strI (by rfl) T.b_str (by decide +kernel) (pa_cons (pv 2) pa_nil))))))
      (pss_one (ps_ret (pe_join pe_str (pe_op op_cat (pe_op op_cat (pv 1) (pe_lst (pa_cons pe_str pa_nil))) (pe_lc (own := [("_law_p", 3)])  rfl sc_law_text.nd  (pi_list (pe_ix ix_list (pv 0) pe_int (fun _ _ => rfl))) (blkOk_by (own := [("_law_p", 3)]) (N := ["_law_row", "_law_words", "_law_rest", "_law_p"]) (sc := defScope s_law_text) (by decide +kernel)) (fun _ _ _ _ _ => (pg_name (i := 3) sc_law_text.nd rfl (Or.inl rfl))) (fun _ _ _ _ _ => pts_nil) (fun _ _ _ _ _ => (pe_callTy call_strI (by rfl) T.b_str (by decide +kernel) (pa_cons (pv 3) pa_nil))))))))), ?_⟩
    try dsimp only [cxOf]
    have B := Hv.start nt
    wtm_at "rs"
    rename_i D0 hD0
    have B := B.newL (o := .lst [.str "modulo", .str (txI m), .str "rests"]) hD0
    clear hD0
    refine B.gen fun G B => ?_
    refine rd_lcI (fun _ => true) (fun x => .str (txI x)) (SqL.of (B.oAt h2)) (fun D l x r hD hx => ?_) fun D1 hD1 => ?_
    · have bx := bR x (by rw [hx]; simp)
      wtm_at "r"
      refine ⟨rfl, ?_⟩
      wtm_at "rs"
      exact put_I (by
        have := congrArg List.length hx
        rw [List.length_append] at this
        omega) rfl rfl
    rw [List.filter_eq_self.mpr fun _ _ => rfl]
    have B := B.newL (o := .lst (R.map fun x => .str (txI x))) hD1
    clear hD1
    refine B.gen fun G B => ?_
    refine rd_cat (B.lAt (a := D0) (by wtm_at "mem")) (B.lAt (a := D1) (by wtm_at "mem")) (Nat.le_trans (show _ ≤ 4003 by rw [List.length_map]; simp; omega) (by decide)) fun L1 hL1 => ?_
    have B := B.newL (o := .lst ([.str "modulo", .str (txI m), .str "rests"] ++ R.map fun x => .str (txI x))) hL1
    clear hL1
    refine B.gen fun G B => ?_
    wtm_at "rs"
    refine ⟨⟨_, rfl⟩, ?_⟩
    wtm_at "rs"
    rename_i L2 hL2
    have B := B.newL (o := .lst [.str "singles"]) hL2
    clear hL2
    refine B.gen fun G B => ?_
    refine rd_cat (B.lAt (a := L1) (by wtm_at "mem")) (B.lAt (a := L2) (by wtm_at "mem")) (Nat.le_trans (show _ ≤ 4004 by rw [List.length_append, List.length_map]; simp; omega) (by decide)) fun L3 hL3 => ?_
    have B := B.newL (o := .lst (([.str "modulo", .str (txI m), .str "rests"] ++ R.map fun x => .str (txI x)) ++ [.str "singles"])) hL3
    clear hL3
    refine B.gen fun G B => ?_
    wtm_at "rs"
    refine rd_lcI (fun _ => true) (fun x => .str (txI x)) (SqL.of (B.oAt h3)) (fun D l x r hD hx => ?_) fun D2 hD2 => ?_
    · have bx := bS x (by rw [hx]; simp)
      wtm_at "r"
      refine ⟨rfl, ?_⟩
      wtm_at "rs"
      exact put_I (by
        have := congrArg List.length hx
        rw [List.length_append] at this
        omega) rfl rfl
    rw [List.filter_eq_self.mpr fun _ _ => rfl]
    have B := B.newL (o := .lst (S.map fun x => .str (txI x))) hD2
    clear hD2
    refine B.gen fun G B => ?_
    refine rd_cat (B.lAt (a := L3) (by wtm_at "mem")) (B.lAt (a := D2) (by wtm_at "mem")) (Nat.le_trans (show _ ≤ 5004 by rw [List.length_append, List.length_append, List.length_map, List.length_map]; simp; omega) (by decide)) fun L4 hL4 => ?_
    have B := B.newL (o := .lst ((([.str "modulo", .str (txI m), .str "rests"] ++ R.map fun x => .str (txI x)) ++ [.str "singles"]) ++ S.map fun x => .str (txI x))) hL4
    rw [show ((([V.str "modulo", .str (txI m), .str "rests"] ++ R.map fun x => V.str (txI x)) ++ [.str "singles"]) ++ S.map fun x => V.str (txI x)) = (ptxL m R S).map V.str by unfold ptxL; simp [List.map_append, Function.comp_def]] at B ⊢
    refine B.gen fun G B => ?_
    wtm_at "rs"
    refine rd_join (SqL.of (B.lAt (a := L4) (by wtm_at "mem"))) (ptx_sum bm bR bS lR lS) ?_
    wtm_at "rs"
    exact q _ B.same B.nt
/-! ### is_number -/
def spIsN0 : Sp := fun vs H Q _ => ∃ w : Str, vs = [.str w] ∧ w.length ≤ 100000 ∧ NoT H ∧ ∀ G, Same H G → Q (.bl (isN w)) G
def spIsN : Sp := fun vs H Q _ => ∃ w : Str, vs = [.str w] ∧ w.length ≤ 100000 ∧ NoT H ∧ Q (.bl (isN w)) H
theorem use_isN {w : Str} {H : Hp} {Q : VK} {E : XK} (l : w.length ≤ 100000) (nt : NoT H) (q : Q (.bl (isN w)) H) : spIsN [.str w] H Q E := ⟨w, rfl, l, nt, q⟩
theorem str_eqN {a b : Str} : a = b ↔ a.cps.toList = b.cps.toList := ⟨fun e => by rw [e], fun e => Str.ext' (Array.toList_inj.mp e)⟩
theorem ok_is_number0 (T : Txt K mg Ad) : Def P w K mg base 1 "is_number" ["word"] spIsN0 := by
  refine T.d_is_number.ok sc_is_number (fun vs H Q E h => ?_) (fun f cdv A outer s H vs Q E hr h => ?_)
  · obtain ⟨w, rfl, _⟩ := h
    rfl
  · obtain ⟨w, rfl, l, nt, q⟩ := h
    refine ⟨_, (pss_cons (ps_if (PW.pt (pw_or (pt_cmpR op_eq (pv 0) pe_str (nomark _)) (pw_or (pt_cmpR op_gt (pe_callB c_lenS (by rfl) T.b_len PySem.boot_len (pa_cons (pv 0) pa_nil)) pe_int (nomark _)) (pw_or1 (pt_not (pt_val (pe_callB (cr_all rfl) (by rfl) T.b_all (by decide +kernel) (pa_cons (pe_lc (own := [("sign", 1)])  (te := (tOp rInSg (tVar 1) (tC (.str "0123456789")))) rfl sc_is_number.nd  (pi_str (pv 0)) (blkOk_by (own := [("sign", 1)]) (N := ["word", "sign"]) (sc := defScope s_is_number) (by decide +kernel)) (fun _ _ _ _ _ => (pg_name (i := 1) sc_is_number.nd rfl (Or.inl rfl))) (fun _ _ _ _ _ => pts_nil) (fun _ _ _ _ _ => (pe_cmpR op_inSg (pv 1) pe_str (by rfl)))) pa_nil)))))))) (pss_one (ps_ret pe_bl)) pss_nil)
      (pss_one (ps_ret (pe_or (pe_cmpR op_eq (pv 0) pe_str (nomark _)) (pe_one (pe_cmpR op_ne (pe_ix ix_str (pv 0) pe_int (fun _ _ => rfl)) pe_str (nomark _))))))), ?_⟩
    try dsimp only [cxOf]
    have hl : w.cps.toList.length = w.length := by simp [Str.length]
    have eW : isN w = (if w.cps.toList = [] ∨ 6 < w.cps.toList.length ∨ ¬ (w.cps.toList.all fun c => decide (48 ≤ c ∧ c ≤ 57)) = true then false else decide (w.cps.toList = [48] ∨ w.cps.toList.head? ≠ some 48)) := rfl
    have emp : ("" : Str).cps.toList = [] := by decide +kernel
    have zero : ("0" : Str).cps.toList = [48] := by decide +kernel
    have dig : ∀ c, c ∈ ("0123456789" : Str).cps.toList ↔ 48 ≤ c ∧ c ≤ 57 := by
      intro c
      rw [show ("0123456789" : Str).cps.toList = [48, 49, 50, 51, 52, 53, 54, 55, 56, 57] by decide +kernel]
      simp only [List.mem_cons, List.not_mem_nil, or_false]
      omega
    wtm_at "rs"
    by_cases e0 : w = ""
    · rw [if_pos (decide_eq_true e0)]
      wtm_at "rs"
      rw [if_pos (.inl (by rw [e0, emp]))] at eW
      rw [eW] at q
      exact q _ (Same.refl _)
    · have n0 : w.cps.toList ≠ [] := fun z => e0 (str_eqN.mpr (by rw [z, emp]))
      rw [if_neg (by rw [decide_eq_true_iff]; exact e0)]
      wtm_at "rs"
      refine ⟨w, rfl, by unfold sizeLine; omega, ?_⟩
      wtm_at "rs"
      by_cases e4 : (6 : Int) < (w.length : Int)
      · rw [if_pos (decide_eq_true e4)]
        wtm_at "rs"
        rw [if_pos (.inr (.inl (by omega)))] at eW
        rw [eW] at q
        exact q _ (Same.refl _)
      · rw [if_neg (by rw [decide_eq_true_iff]; exact e4)]
        wtm_at "rs"
        refine rd_lcS (fun i ys => ys = ((w.cps.toList.take i).map fun c => decide (48 ≤ c ∧ c ≤ 57)).map V.bl) nt rfl (fun D i ys c G2 hc sm nG hD hGD hy => ?_) fun D ys G2 hD hGD sm nG hy => ?_
        · have hi := (List.getElem?_eq_some_iff.mp hc).1
          wtm_at "r"
          refine ⟨rfl, ?_⟩
          wtm_at "rs"
          refine put_P hGD (by rw [hy, List.length_map, List.length_map, List.length_take]; unfold sizeLine; omega) sm hD nG ?_
          rw [hy, List.take_add_one, hc, List.map_append, List.map_append, decide_eq_decide.mpr (dig c)]
          rfl
        · rw [show w.cps.size = w.cps.toList.length by simp, List.take_length] at hy
          wtm_at "rs"
          refine ⟨D, w.cps.toList.map fun c => decide (48 ≤ c ∧ c ≤ 57), rfl, SqL.of (by rw [hGD, hy]), ?_⟩
          rw [List.all_map]
          have ea : ((id : Bool → Bool) ∘ fun c => decide (48 ≤ c ∧ c ≤ 57)) = fun c : Nat => decide (48 ≤ c ∧ c ≤ 57) := rfl
          rw [ea]
          refine ⟨_, rfl, ?_⟩
          by_cases ha : (w.cps.toList.all fun c => decide (48 ≤ c ∧ c ≤ 57)) = true
          · rw [ha]
            rw [if_neg (by rintro (z | z | z); exact n0 z; omega; exact z ha)] at eW
            wtm_at "rs"
            obtain ⟨c0, r0, hc⟩ : ∃ c r, w.cps.toList = c :: r := by
              cases h : w.cps.toList with
              | nil => exact absurd h n0
              | cons c r => exact ⟨c, r, rfl⟩
            have e48 : (⟨#[c0]⟩ : Str) = "0" ↔ c0 = 48 := by
              rw [str_eqN, zero]
              simp
            have dz : w = "0" ↔ w.cps.toList = [48] := by rw [str_eqN, zero]
            have hd0 : w.cps.toList.head? ≠ some 48 ↔ ¬ (⟨#[c0]⟩ : Str) = "0" := by
              rw [hc, e48]
              simp
            have a0 : atI w.cps.toList 0 = some c0 := by rw [hc]; exact show atI (c0 :: r0) ((0 : Nat) : Int) = some c0 from atI_nat rfl
            have q := q G2 sm
            by_cases h1 : w = "0"
            · rw [if_pos (decide_eq_true h1)]
              rw [eW, decide_eq_true (.inl (dz.mp h1))] at q
              exact q
            · rw [if_neg (by rw [decide_eq_true_iff]; exact h1)]
              wtm_at "rs"
              refine rd_ixS (by unfold sizeLine; omega) a0 ?_
              wtm_at "rs"
              rw [eW, decide_eq_decide.mpr (show (w.cps.toList = [48] ∨ w.cps.toList.head? ≠ some 48) ↔ ¬ (⟨#[c0]⟩ : Str) = "0" by rw [← dz, hd0]; exact ⟨fun h => h.elim (fun h => absurd h h1) id, .inr⟩), decide_not] at q
              exact q
          · rw [Bool.eq_false_iff.mpr ha]
            rw [if_pos (.inr (.inr ha))] at eW
            rw [eW] at q
            wtm_at "rs"
            exact q _ sm
theorem ok_is_number (T : Txt K mg Ad) : Def P w K mg base 1 "is_number" ["word"] spIsN :=
  (ok_is_number0 T).forget.imp fun vs H Q E ⟨w, e, l, nt, q⟩ => ⟨nt, w, e, l, nt, fun G s => ⟨s, q⟩⟩
/-! ### expected -/
/-- the error that tells a place -/
def BsAt (C : Addr) (H : Hp) (E : XK) (k : Nat) : Prop := ∀ d G, Same H G → NoT G → G d = some (.xd [("at", .int (k : Int))]) → E (.ref C) (some d) G
theorem BsAt.mono {C : Addr} {H G : Hp} {E : XK} {k : Nat} (h : BsAt C H E k) (s : Same H G) : BsAt C G E k := fun d L sm n e => h d L (s.trans sm) n e
theorem BsAt.here {C d : Addr} {H : Hp} {E : XK} {k : Nat} {i : Int} (h : BsAt C H E k) (nt : NoT H) (hd : H d = none) (e : i = (k : Int)) : E (.ref C) (some d) (upd H d (.xd [("at", .int i)])) := by
  subst e
  exact h d _ (same_new hd) (NoT.upd nt rfl) upd_same
def spExp (C : Addr) : Sp := fun vs H Q E => ∃ (W : Addr) (ws : List Str) (i : Nat) (v : Str), vs = [.ref W, .int (i : Int), .str v] ∧ H W = some (.lst (ws.map V.str)) ∧ NoT H ∧ (ws[i]? ≠ some v → BsAt C H E i) ∧ (ws[i]? = some v → Q .non H)
theorem use_Exp {C W : Addr} {ws : List Str} {i : Nat} {v : Str} {H : Hp} {Q : VK} {E : XK} {m : Int} (hW : H W = some (.lst (ws.map V.str))) (nt : NoT H) (e : m = (i : Int)) (qe : ws[i]? ≠ some v → BsAt C H E i) (q : ws[i]? = some v → Q .non H) : spExp C [.ref W, .int m, .str v] H Q E := by
  subst e
  exact ⟨W, ws, i, v, rfl, hW, nt, qe, q⟩
theorem ok_expected (T : Txt K mg Ad) : Def P w K mg base 3 "expected" ["words", "at", "word"] (spExp Ad.c_BadSaying) := by
  refine T.d_expected.ok sc_expected (fun vs H Q E h => ?_) (fun f cdv A outer s H vs Q E hr h => ?_)
  · obtain ⟨W, ws, i, v, rfl, _⟩ := h
    rfl
  · obtain ⟨W, ws, i, v, rfl, hW, nt, qe, q⟩ := h
    refine ⟨_, (pss_one (ps_if (PW.pt (pw_or (pt_cmpR op_ge (pv 1) (pe_callB c_len (by rfl) T.b_len PySem.boot_len (pa_cons (pv 0) pa_nil)) (nomark _)) (pw_or1 (pt_cmpR op_ne (pe_ix ix_list (pv 0) (pv 1) (fun _ _ => rfl)) (pv 2) (nomark _))))) (pss_one (ps_raise rfl (takes_of rfl rfl rfl rfl) (pmk_err (T.err_BadSaying) (hr.mono (by decide)) (pa_cons (pv 1) pa_nil)))) pss_nil)), ?_⟩
    try dsimp only [cxOf]
    wtm_at "rs"
    rw [List.length_map]
    by_cases e : (ws.length : Int) ≤ (i : Int)
    · rw [if_pos (by simp; omega)]
      wtm_at "rs"
      exact fun d hd => (qe (by rw [List.getElem?_eq_none (by omega)]; exact fun z => by cases z)).here nt hd rfl
    · have lt : i < ws.length := by omega
      rw [if_neg (by simp; omega)]
      wtm_at "rs"
      refine rd_ixL (SqL.of hW) (show atI (ws.map V.str) ((i : Nat) : Int) = some (.str ws[i]) from atI_nat (by rw [List.getElem?_map, List.getElem?_eq_getElem lt]; rfl)) ?_
      wtm_at "rs"
      by_cases e2 : ws[i] = v
      · rw [if_neg (by simp [e2])]
        wtm_at "rs"
        exact q (by rw [List.getElem?_eq_getElem lt, e2])
      · rw [if_pos (by simp [e2])]
        wtm_at "rs"
        exact fun d hd => (qe (by rw [List.getElem?_eq_getElem lt]; exact fun z => e2 (Option.some.inj z))).here nt hd rfl
/-! ### numbers_from -/
def spNF : Sp := fun vs H Q _ => ∃ (W : Addr) (ws : List Str) (i : Nat), vs = [.ref W, .int (i : Int)] ∧ H W = some (.lst (ws.map V.str)) ∧ ws.length ≤ 100000 ∧ (∀ w ∈ ws, w.length ≤ 100000) ∧ NoT H ∧ ∀ (D t : Addr) (G : Hp), Same H G → NoT G → H D = none → G D = some (.lst (((numW ws i).map nVal).map V.int)) → G t = some (.tup [.ref D, .int ((i + (numW ws i).length : Nat) : Int)]) → Q (.ref t) G
theorem use_NF {W : Addr} {ws : List Str} {i : Nat} {H : Hp} {Q : VK} {E : XK} (hW : H W = some (.lst (ws.map V.str))) (lw : ws.length ≤ 100000) (wl : ∀ w ∈ ws, w.length ≤ 100000) (nt : NoT H) (q : ∀ (D t : Addr) (G : Hp), Same H G → NoT G → H D = none → G D = some (.lst (((numW ws i).map nVal).map V.int)) → G t = some (.tup [.ref D, .int ((i + (numW ws i).length : Nat) : Int)]) → Q (.ref t) G) {m : Int} (e : m = (i : Int)) : spNF [.ref W, .int m] H Q E := by
  subst e
  exact ⟨W, ws, i, rfl, hW, lw, wl, nt, q⟩
theorem ok_numbers_from (T : Txt K mg Ad) : Def P w K mg base 2 "numbers_from" ["words", "at"] spNF := by
  refine T.d_numbers_from.ok sc_numbers_from (fun vs H Q E h => ?_) (fun f cdv A outer s H vs Q E hr h => ?_)
  · obtain ⟨W, ws, i, rfl, _⟩ := h
    rfl
  · obtain ⟨W, ws, i, rfl, hW, lw, wl, nt, q⟩ := h
    refine ⟨_, (pss_cons (ps_set (i := 2) sc_numbers_from.nd rfl (Or.inl rfl) (pe_lst pa_nil))
      (pss_cons (ps_while (passes_of rfl) (PW.pt (pw_and (pt_cmpR op_lt (pv 1) (pe_callB c_len (by rfl) T.b_len PySem.boot_len (pa_cons (pv 0) pa_nil)) (nomark _)) (pw_and1 (pt_val (pe_d (ok_is_number T) (hr.mono (by decide)) (passes_call (takes_of rfl rfl rfl rfl) (fun _ _ _ _ h => h)) (pa_cons (pe_ix ix_list (pv 0) (pv 1) (fun _ _ => rfl)) pa_nil)))))) (pss_cons (ps_expr (pe_bm PySem.F.plainAttrs_list PySem.F.slot_list_append PySem.F.type_list_append mt_append (pv 2) (pa_cons (pe_callTy c_intS (by rfl) T.b_int (by decide +kernel) (pa_cons (pe_ix ix_list (pv 0) (pv 1) (fun _ _ => rfl)) pa_nil)) pa_nil)))
      (pss_one (ps_aug (i := 1) sc_numbers_from.nd rfl (Or.inl rfl) pe_int ip_add))))
      (pss_one (ps_ret (pe_tup (pa_cons (pv 2) (pa_cons (pv 1) pa_nil))))))), ?_⟩
    try dsimp only [cxOf]
    have B := Hv.start nt
    wtm_at "rs"
    rename_i p hp
    have B := B.new (o := .lst []) hp
    clear hp
    have nl := numW_le (ws := ws) (i := i)
    refine rd_while (fun μ σ G => ∃ j : Nat, μ = ws.length - (i + j) ∧ j ≤ (numW ws i).length ∧ σ = [some (.ref W), some (.int ((i + j : Nat) : Int)), some (.ref p)] ∧ Hv noX H [(p, .lst ((((numW ws i).take j).map nVal).map V.int))] [] [] G) _ ⟨0, rfl, Nat.zero_le _, rfl, B⟩ ?_
    clear B
    rintro μ σ G ⟨j, rfl, hj, rfl, B⟩
    have hWG := B.oAt hW
    have stop : ¬ (∃ w, ws[i + j]? = some w ∧ isN w = true) → j = (numW ws i).length := fun no => by
      by_cases lt : i + j < ws.length
      · exact (numW_take hj (List.getElem?_eq_getElem lt)).2 (by
          cases h : isN ws[i + j] with
          | false => rfl
          | true => exact absurd ⟨_, List.getElem?_eq_getElem lt, h⟩ no)
      · omega
    have fin : j = (numW ws i).length → ∀ t, G t = none → Q (.ref t) (upd G t (.tup [.ref p, .int ((i + j : Nat) : Int)])) := fun e t ht => by
      have pt : p ≠ t := fun z => by
        have := B.mAt (a := p) (o := .lst ((((numW ws i).take j).map nVal).map V.int)) (by wtm_at "mem")
        rw [z, ht] at this
        cases this
      have := B.mAt (a := p) (o := .lst ((((numW ws i).take j).map nVal).map V.int)) (by wtm_at "mem")
      rw [e, List.take_length] at this
      rw [e]
      exact q p t _ (B.same.trans (same_new ht)) (NoT.upd B.nt rfl) (B.fr (o := .lst ((((numW ws i).take j).map nVal).map V.int)) (by wtm_at "mem")) (by rw [upd_ne pt]; exact this) upd_same
    wtm_at "rs"
    rw [List.length_map]
    by_cases lt : i + j < ws.length
    · rw [if_pos (by simp; omega)]
      have hi : ws[i + j]? = some ws[i + j] := List.getElem?_eq_getElem lt
      have at1 : atI (ws.map V.str) ((i + j : Nat) : Int) = some (.str ws[i + j]) := atI_nat (by rw [List.getElem?_map, hi]; rfl)
      have wl1 := wl _ (List.getElem_mem lt)
      wtm_at "rs"
      refine rd_ixL (SqL.of hWG) at1 ?_
      wtm_at "rs"
      refine use_isN wl1 B.nt ?_
      wtm_at "rs"
      cases hn : isN ws[i + j] with
      | false =>
        wtm_at "rs"
        exact fin (stop fun ⟨w, h1, h2⟩ => by rw [hi] at h1; cases h1; rw [hn] at h2; cases h2) _ (by assumption)
      | true =>
        obtain ⟨v1, v2, v3, v4⟩ := isN_val hn
        obtain ⟨a1, a2⟩ := (numW_take hj hi).1 hn
        wtm_at "rs"
        refine rd_ixL (SqL.of hWG) at1 ?_
        wtm_at "rs"
        refine rd_intS v1 (by omega) ?_
        have few : ((((numW ws i).take j).map nVal).map V.int).length < 1000000 := by
          rw [List.length_map, List.length_map, List.length_take]
          omega
        wtm_at "rs"
        refine ⟨_, by omega, j + 1, rfl, by omega, by simp; omega, ?_⟩
        rw [take_map a2, List.map_append]
        exact B.put
    · rw [if_neg (by simp; omega)]
      wtm_at "rs"
      exact fin (stop fun ⟨w, h1, h2⟩ => lt (List.getElem?_eq_some_iff.mp h1).1) _ (by assumption)
/-! ### Primes.read -/
/-- the error that tells a number -/
def ErV (C : Addr) (nm : Str) (v : Int) (H : Hp) (E : XK) : Prop := ∀ d G, Same H G → NoT G → G d = some (.xd [(nm, .int v)]) → E (.ref C) (some d) G
theorem ErV.mono {C : Addr} {nm : Str} {v : Int} {H G : Hp} {E : XK} (h : ErV C nm v H E) (s : Same H G) : ErV C nm v G E := fun d L sm n e => h d L (s.trans sm) n e
theorem ErV.here {C d : Addr} {nm : Str} {v : Int} {H : Hp} {E : XK} (h : ErV C nm v H E) (nt : NoT H) (hd : H d = none) : E (.ref C) (some d) (upd H d (.xd [(nm, .int v)])) := h d _ (same_new hd) (NoT.upd nt rfl) upd_same
/-- how the making of a set ends -/
structure OutM (C CM CW CR CP : Addr) (m : Int) (R S : List Int) (H : Hp) (E : XK) (q : Addr → Hp → Prop) : Prop where
  lo : m < 1 → ErV CM "modulus" m H E
  hi : 4000 < m → ErV CW "modulus" m H E
  re : 1 ≤ m → m ≤ 4000 → ∀ l r rs, R = l ++ r :: rs → (∀ o ∈ l, RestOk m o) → ¬ RestOk m r → ErV CR "rest" r H E
  pr : 1 ≤ m → m ≤ 4000 → (∀ r ∈ R, RestOk m r) → ∀ l p rs, S = l ++ p :: rs → (∀ o ∈ l, QR.OP o) → ¬ QR.OP p → ErV CP "p" p H E
  ok : 1 ≤ m → m ≤ 4000 → (∀ r ∈ R, RestOk m r) → (∀ p ∈ S, QR.OP p) → ∀ x G m' R' S', Same H G → NoT G → IsP C G x m' R' S' → Made m R S m' R' S' → q x G
theorem OutM.mono {C CM CW CR CP : Addr} {m : Int} {R S : List Int} {H G : Hp} {E : XK} {q : Addr → Hp → Prop} (h : OutM C CM CW CR CP m R S H E q) (s : Same H G) : OutM C CM CW CR CP m R S G E q :=
  ⟨fun a => (h.lo a).mono s, fun a => (h.hi a).mono s, fun a b l r rs c d e => (h.re a b l r rs c d e).mono s, fun a b o l p rs c d e => (h.pr a b o l p rs c d e).mono s, fun a b c d x L m' R' S' s2 => h.ok a b c d x L m' R' S' (s.trans s2)⟩
theorem mk_PE {K : PySem.W.Frag} {C CM CW CR CP : Addr} {H1 : Hp} {Rk : Addr → Hp → Prop} {E : XK} {a b : Addr} {m : Int} {R S : List Int} (nt : NoT H1) (ha : SqL K H1 a (R.map V.int) ∨ SqT K H1 a (R.map V.int)) (hb : SqL K H1 b (S.map V.int) ∨ SqT K H1 b (S.map V.int)) (lR : R.length ≤ 90000) (lS : S.length ≤ 4000) (bS : ∀ p ∈ S, p < 2 ^ 120)
    (q : OutM C CM CW CR CP m R S H1 E Rk) :
    ∀ x dx, H1 x = none → H1 dx = none → dx ≠ x → spPI K C CM CW CR CP [.ref x, .int m, .ref a, .ref b] (upd (upd H1 dx (.own x)) x (.ins C dx [])) (fun v H2 => v = .non ∧ Rk x H2) E := by
  intro x dx nx nd ne
  have sm : Same H1 (upd (upd H1 dx (.own x)) x (.ins C dx [])) := same_upd2 (same_new nd) nx
  have n2 : NoT (upd (upd H1 dx (.own x)) x (.ins C dx [])) := NoT.upd (NoT.upd nt rfl) rfl
  refine ⟨x, dx, a, b, m, R, S, rfl, upd_same, n2, ha.imp sm.seq sm.seqT, hb.imp sm.seq sm.seqT, lR, lS, bS, fun z d hd => ((q.lo z).mono sm).here n2 hd, fun z d hd => ((q.hi z).mono sm).here n2 hd, fun m1 m2 => ⟨fun l r rs e o n d hd => ((q.re m1 m2 l r rs e o n).mono sm).here n2 hd, fun o => ⟨fun l p r e o2 n d hd => ((q.pr m1 m2 o l p r e o2 n).mono sm).here n2 hd, fun o2 H' tR tS m' R' S' bu n' hx h1 h2 md => ⟨rfl, ?_⟩⟩⟩⟩
  refine q.ok m1 m2 o o2 x H' m' R' S' (fun b o e => bu b o (fun z => ?_) (sm b o e)) n' ⟨dx, tR, tS, hx, h1, h2⟩ md
  rw [z, nx] at e
  cases e
structure Wds (ws : List Str) : Prop where
  ne : ws ≠ []
  sp : ∀ w ∈ ws, 32 ∉ w.cps.toList
  wl : ∀ w ∈ ws, w.length ≤ 6000
  few : ws.length ≤ 1000
theorem Wds.sum {ws : List Str} (W : Wds ws) : (ws.map (·.length)).sum + ws.length * (" " : Str).length ≤ 16777216 := by
  have h2 : ∀ {l : List Str}, (∀ w ∈ l, w.length ≤ 6000) → (l.map (·.length)).sum ≤ 6000 * l.length := fun {l} h => by
    induction l with
    | nil => simp
    | cons x t ih =>
      have := ih fun w hw => h w (List.mem_cons_of_mem _ hw)
      have := h x List.mem_cons_self
      rw [List.map_cons, List.sum_cons, List.length_cons]
      omega
  have h3 := h2 W.wl
  have h4 : (" " : Str).length = 1 := by decide +kernel
  have := W.few
  rw [h4]
  omega
theorem Wds.jl {ws : List Str} (W : Wds ws) : (Txt.join " " ws).length + 2 ≤ sizeLine := by
  have h1 := PySem.StrLaws.join_length_le " " ws
  have h2 : ∀ {l : List Str}, (∀ w ∈ l, w.length ≤ 6000) → (l.map (·.length)).sum ≤ 6000 * l.length := fun {l} h => by
    induction l with
    | nil => simp
    | cons x t ih =>
      have := ih fun w hw => h w (List.mem_cons_of_mem _ hw)
      have := h x List.mem_cons_self
      rw [List.map_cons, List.sum_cons, List.length_cons]
      omega
  have h3 := h2 W.wl
  have h4 : (" " : Str).length = 1 := by decide +kernel
  have := W.few
  rw [h4] at h1
  have e : (List.map Str.length ws).sum = (ws.map (·.length)).sum := rfl
  have j := Nat.le_trans h1 (show (ws.map (·.length)).sum + ws.length * 1 ≤ 6100000 by omega)
  have e2 : (Txt.join " " ws).length = (Str.join " " ws).length := congrArg _ (PySem.StrLaws.glued_eq_join _ _)
  rw [e2]
  unfold sizeLine
  omega
def spRead (C CM CW CR CP CB : Addr) : Sp := fun vs H Q E => ∃ ws : List Str, vs = [.ref C, .str (Txt.join " " ws)] ∧ Wds ws ∧ NoT H ∧ (∀ k, rdP ws = .error k → BsAt CB H E k) ∧ ∀ m R S, rdP ws = .ok (m, R, S) → OutM C CM CW CR CP m R S H E fun x G => Q (.ref x) G
theorem ok_Primes_read (T : Txt K mg Ad) : CMDef P w K mg base 7 Ad.c_Primes "read" (spRead Ad.c_Primes Ad.c_BadModulus Ad.c_TooWide Ad.c_BadRest Ad.c_BadPrime Ad.c_BadSaying) := by
  refine T.d_Primes_read.ok sc_Primes_read (fun vs H Q E h => ?_) (fun f fd F => F.binds (ps := ["cls", "text"]) fun _ _ _ _ _ _ us hl => match us, hl with | [_, _], _ => rfl) (fun f cdv A outer s H vs Q E hr h => ?_)
  · obtain ⟨ws, rfl, _⟩ := h
    rfl
  · obtain ⟨ws, rfl, W, nt, qe, q⟩ := h
    refine ⟨_, (pss_cons (ps_set (i := 2) sc_Primes_read.nd rfl (Or.inl rfl) (pe_split (pv 1) pe_str))
      (pss_cons (ps_expr (pe_d (ok_expected T) (hr.mono (by decide)) (passes_call (takes_of rfl rfl rfl rfl) (fun _ _ _ _ h => h)) (pa_cons (pv 2) (pa_cons pe_int (pa_cons pe_str pa_nil)))))
      (pss_cons (ps_if (PW.pt (pw_or (pt_cmpR op_lt (pe_callB c_len (by rfl) T.b_len PySem.boot_len (pa_cons (pv 2) pa_nil)) pe_int (nomark _)) (pw_or1 (pt_not (pt_val (pe_d (ok_is_number T) (hr.mono (by decide)) (passes_call (takes_of rfl rfl rfl rfl) (fun _ _ _ _ h => h)) (pa_cons (pe_ix ix_list (pv 2) pe_int (fun _ _ => rfl)) pa_nil))))))) (pss_one (ps_raise rfl (takes_of rfl rfl rfl rfl) (pmk_err (T.err_BadSaying) (hr.mono (by decide)) (pa_cons pe_int pa_nil)))) pss_nil)
      (pss_cons (ps_expr (pe_d (ok_expected T) (hr.mono (by decide)) (passes_call (takes_of rfl rfl rfl rfl) (fun _ _ _ _ h => h)) (pa_cons (pv 2) (pa_cons pe_int (pa_cons pe_str pa_nil)))))
      (pss_cons (ps_asg (pe_d (ok_numbers_from T) (hr.mono (by decide)) (passes_call (takes_of rfl rfl rfl rfl) (fun _ _ _ _ h => h)) (pa_cons (pv 2) (pa_cons pe_int pa_nil))) (pg_tup rfl (pgs_cons (pg_name (i := 3) sc_Primes_read.nd rfl (Or.inl rfl)) (pgs_cons (pg_name (i := 4) sc_Primes_read.nd rfl (Or.inl rfl)) pgs_nil))))
      (pss_cons (ps_expr (pe_d (ok_expected T) (hr.mono (by decide)) (passes_call (takes_of rfl rfl rfl rfl) (fun _ _ _ _ h => h)) (pa_cons (pv 2) (pa_cons (pv 4) (pa_cons pe_str pa_nil)))))
      (pss_cons (ps_asg (pe_d (ok_numbers_from T) (hr.mono (by decide)) (passes_call (takes_of rfl rfl rfl rfl) (fun _ _ _ _ h => h)) (pa_cons (pv 2) (pa_cons (pe_op op_add (pv 4) pe_int) pa_nil))) (pg_tup rfl (pgs_cons (pg_name (i := 5) sc_Primes_read.nd rfl (Or.inl rfl)) (pgs_cons (pg_name (i := 6) sc_Primes_read.nd rfl (Or.inl rfl)) pgs_nil))))
      (pss_cons (ps_if (pt_cmpR op_lt (pv 6) (pe_callB c_len (by rfl) T.b_len PySem.boot_len (pa_cons (pv 2) pa_nil)) (nomark _)) (pss_one (ps_raise rfl (takes_of rfl rfl rfl rfl) (pmk_err (T.err_BadSaying) (hr.mono (by decide)) (pa_cons (pv 6) pa_nil)))) pss_nil)
      (pss_one (ps_ret (pe_mkL (ok_Primes_init T) (pv 0) (hr.mono (by decide)) (passes_call (takes_of rfl rfl rfl rfl) (fun _ _ _ _ h => h)) (pa_cons (pe_callTy c_intS (by rfl) T.b_int (by decide +kernel) (pa_cons (pe_ix ix_list (pv 2) pe_int (fun _ _ => rfl)) pa_nil)) (pa_cons (pv 3) (pa_cons (pv 5) pa_nil)))))))))))))), ?_⟩
    try dsimp only [cxOf]
    have jl := W.jl
    have few := W.few
    have wl : ∀ w ∈ ws, w.length ≤ 100000 := fun w h => by have := W.wl w h; omega
    wtm_at "rs"
    refine ⟨⟨_, rfl⟩, ?_⟩
    wtm_at "rs"
    refine ⟨_, _, rfl, rfl, by decide +kernel, jl, ?_⟩
    rw [split_join W.ne W.sp]
    intro Wd hWd
    have B := (Hv.start nt).newL (o := .lst (ws.map V.str)) hWd
    clear hWd
    refine B.gen fun G B => ?_
    have hW := B.lAt (a := Wd) (o := .lst (ws.map V.str)) (by wtm_at "mem")
    unfold rdP at qe q
    wtm_at "rs"
    refine use_Exp (i := 0) hW B.nt rfl (fun n => (qe 0 (by rw [if_pos n])).mono B.same) fun h0 => ?_
    rw [if_neg (by simp [h0])] at qe q
    wtm_at "rs"
    rw [List.length_map]
    cases h1 : ws[1]? with
    | none =>
      have := List.getElem?_eq_none_iff.mp h1
      rw [h1] at qe
      rw [if_pos (by simp; omega)]
      wtm_at "rs"
      exact fun d hd => ((qe 1 rfl).mono B.same).here B.nt hd rfl
    | some w =>
      have l1 := (List.getElem?_eq_some_iff.mp h1).1
      rw [h1] at qe q
      dsimp only at qe q
      rw [if_neg (by simp; omega)]
      wtm_at "rs"
      have at1 : atI (ws.map V.str) (1 : Int) = some (.str w) := show atI (ws.map V.str) ((1 : Nat) : Int) = some (.str w) from atI_nat (by rw [List.getElem?_map, h1]; rfl)
      refine rd_ixL (SqL.of hW) at1 ?_
      wtm_at "rs"
      refine use_isN (wl _ (List.mem_of_getElem? h1)) B.nt ?_
      wtm_at "rs"
      cases hn : isN w with
      | false =>
        rw [if_pos hn] at qe
        wtm_at "rs"
        exact fun d hd => ((qe 1 rfl).mono B.same).here B.nt hd rfl
      | true =>
        rw [if_neg (by rw [hn]; simp)] at qe q
        wtm_at "rs"
        refine use_Exp (i := 2) hW B.nt rfl (fun n => (qe 2 (by rw [if_pos n])).mono B.same) fun h2 => ?_
        rw [if_neg (by simp [h2])] at qe q
        wtm_at "rs"
        refine use_NF (i := 3) hW (by omega) wl B.nt (fun D t G2 s2 n2 f2 hD ht => ?_) rfl
        refine rd_gtup (SqT.of ht) rfl ?_
        replace B := B.got s2 n2 f2 hD
        clear s2 n2 f2 ht
        have nl := numW_le (ws := ws) (i := 3)
        have nl2 := numW_le (ws := ws) (i := 3 + (numW ws 3).length + 1)
        have lb : ∀ {i : Nat}, ∀ p ∈ (numW ws i).map nVal, p < 2 ^ 120 := fun {i} p hp => by
          obtain ⟨w, hw, rfl⟩ := List.mem_map.mp hp
          obtain ⟨_, _, _, h4⟩ := isN_val (numW_isN hw)
          exact Int.lt_trans h4 (by decide)
        refine B.gen fun G B => ?_
        have hW := B.lAt (a := Wd) (o := .lst (ws.map V.str)) (by wtm_at "mem")
        wtm_at "rs"
        refine use_Exp (i := 3 + (numW ws 3).length) hW B.nt rfl (fun n => (qe _ (by rw [if_pos n])).mono B.same) fun h3 => ?_
        rw [if_neg (by simp [h3])] at qe q
        wtm_at "rs"
        refine use_NF (i := 3 + (numW ws 3).length + 1) hW (by omega) wl B.nt (fun D2 t G2 s2 n2 f2 hD2 ht => ?_) (by push_cast; omega)
        refine rd_gtup (SqT.of ht) rfl ?_
        replace B := B.got s2 n2 f2 hD2
        clear s2 n2 f2 ht hD
        refine B.gen fun G B => ?_
        have hW := B.lAt (a := Wd) (o := .lst (ws.map V.str)) (by wtm_at "mem")
        wtm_at "rs"
        rw [List.length_map]
        by_cases l3 : 3 + (numW ws 3).length + 1 + (numW ws (3 + (numW ws 3).length + 1)).length < ws.length
        · rw [if_pos (by simp; omega)]
          wtm_at "rs"
          exact fun d hd => ((qe _ (by rw [if_pos l3])).mono B.same).here B.nt hd rfl
        · rw [if_neg (by simp; omega)]
          wtm_at "rs"
          refine rd_ixL (SqL.of hW) at1 ?_
          wtm_at "rs"
          obtain ⟨v1, v2, v3, v4⟩ := isN_val hn
          refine rd_intS v1 (by omega) ?_
          wtm_at "rs"
          refine mk_PE B.nt (.inl (SqL.of (B.lAt (a := D) (by wtm_at "mem")))) (.inl (SqL.of (B.lAt (a := D2) (by wtm_at "mem")))) (by rw [List.length_map]; omega) (by rw [List.length_map]; omega) lb ?_
          exact (q _ _ _ (by rw [if_neg l3])).mono B.same
/-! ### _law_is_number -/
def spLIsN0 : Sp := fun vs H Q _ => ∃ w : Str, vs = [.str w] ∧ w.length ≤ 100000 ∧ NoT H ∧ ∀ G, Same H G → Q (.bl (isN w)) G
def spLIsN : Sp := fun vs H Q _ => ∃ w : Str, vs = [.str w] ∧ w.length ≤ 100000 ∧ NoT H ∧ Q (.bl (isN w)) H
theorem use_lisN {w : Str} {H : Hp} {Q : VK} {E : XK} (l : w.length ≤ 100000) (nt : NoT H) (q : Q (.bl (isN w)) H) : spLIsN [.str w] H Q E := ⟨w, rfl, l, nt, q⟩
theorem str_eqLN {a b : Str} : a = b ↔ a.cps.toList = b.cps.toList := ⟨fun e => by rw [e], fun e => Str.ext' (Array.toList_inj.mp e)⟩
theorem ok_law_is_number0 (T : Txt K mg Ad) : Def P w K mg base 1 "_law_is_number" ["_law_word"] spLIsN0 := by
  refine T.d_law_is_number.ok sc_law_is_number (fun vs H Q E h => ?_) (fun f cdv A outer s H vs Q E hr h => ?_)
  · obtain ⟨w, rfl, _⟩ := h
    rfl
  · obtain ⟨w, rfl, l, nt, q⟩ := h
    refine ⟨_, (pss_cons (ps_if (PW.pt (pw_or (pt_cmpR op_eq (pv 0) pe_str (nomark _)) (pw_or (pt_cmpR op_gt (pe_callB c_lenS (by rfl) T.b_len PySem.boot_len (pa_cons (pv 0) pa_nil)) pe_int (nomark _)) (pw_or1 (pt_not (pt_val (pe_callB (cr_all rfl) (by rfl) T.b_all (by decide +kernel) (pa_cons (pe_lc (own := [("_law_sign_of", 1)])  (te := (tOp rInSg (tVar 1) (tC (.str "0123456789")))) rfl sc_law_is_number.nd  (pi_str (pv 0)) (blkOk_by (own := [("_law_sign_of", 1)]) (N := ["_law_word", "_law_sign_of"]) (sc := defScope s_law_is_number) (by decide +kernel)) (fun _ _ _ _ _ => (pg_name (i := 1) sc_law_is_number.nd rfl (Or.inl rfl))) (fun _ _ _ _ _ => pts_nil) (fun _ _ _ _ _ => (pe_cmpR op_inSg (pv 1) pe_str (by rfl)))) pa_nil)))))))) (pss_one (ps_ret pe_bl)) pss_nil)
      (pss_one (ps_ret (pe_or (pe_cmpR op_eq (pv 0) pe_str (nomark _)) (pe_one (pe_cmpR op_ne (pe_ix ix_str (pv 0) pe_int (fun _ _ => rfl)) pe_str (nomark _))))))), ?_⟩
    try dsimp only [cxOf]
    have hl : w.cps.toList.length = w.length := by simp [Str.length]
    have eW : isN w = (if w.cps.toList = [] ∨ 6 < w.cps.toList.length ∨ ¬ (w.cps.toList.all fun c => decide (48 ≤ c ∧ c ≤ 57)) = true then false else decide (w.cps.toList = [48] ∨ w.cps.toList.head? ≠ some 48)) := rfl
    have emp : ("" : Str).cps.toList = [] := by decide +kernel
    have zero : ("0" : Str).cps.toList = [48] := by decide +kernel
    have dig : ∀ c, c ∈ ("0123456789" : Str).cps.toList ↔ 48 ≤ c ∧ c ≤ 57 := by
      intro c
      rw [show ("0123456789" : Str).cps.toList = [48, 49, 50, 51, 52, 53, 54, 55, 56, 57] by decide +kernel]
      simp only [List.mem_cons, List.not_mem_nil, or_false]
      omega
    wtm_at "rs"
    by_cases e0 : w = ""
    · rw [if_pos (decide_eq_true e0)]
      wtm_at "rs"
      rw [if_pos (.inl (by rw [e0, emp]))] at eW
      rw [eW] at q
      exact q _ (Same.refl _)
    · have n0 : w.cps.toList ≠ [] := fun z => e0 (str_eqLN.mpr (by rw [z, emp]))
      rw [if_neg (by rw [decide_eq_true_iff]; exact e0)]
      wtm_at "rs"
      refine ⟨w, rfl, by unfold sizeLine; omega, ?_⟩
      wtm_at "rs"
      by_cases e4 : (6 : Int) < (w.length : Int)
      · rw [if_pos (decide_eq_true e4)]
        wtm_at "rs"
        rw [if_pos (.inr (.inl (by omega)))] at eW
        rw [eW] at q
        exact q _ (Same.refl _)
      · rw [if_neg (by rw [decide_eq_true_iff]; exact e4)]
        wtm_at "rs"
        refine rd_lcS (fun i ys => ys = ((w.cps.toList.take i).map fun c => decide (48 ≤ c ∧ c ≤ 57)).map V.bl) nt rfl (fun D i ys c G2 hc sm nG hD hGD hy => ?_) fun D ys G2 hD hGD sm nG hy => ?_
        · have hi := (List.getElem?_eq_some_iff.mp hc).1
          wtm_at "r"
          refine ⟨rfl, ?_⟩
          wtm_at "rs"
          refine put_P hGD (by rw [hy, List.length_map, List.length_map, List.length_take]; unfold sizeLine; omega) sm hD nG ?_
          rw [hy, List.take_add_one, hc, List.map_append, List.map_append, decide_eq_decide.mpr (dig c)]
          rfl
        · rw [show w.cps.size = w.cps.toList.length by simp, List.take_length] at hy
          wtm_at "rs"
          refine ⟨D, w.cps.toList.map fun c => decide (48 ≤ c ∧ c ≤ 57), rfl, SqL.of (by rw [hGD, hy]), ?_⟩
          rw [List.all_map]
          have ea : ((id : Bool → Bool) ∘ fun c => decide (48 ≤ c ∧ c ≤ 57)) = fun c : Nat => decide (48 ≤ c ∧ c ≤ 57) := rfl
          rw [ea]
          refine ⟨_, rfl, ?_⟩
          by_cases ha : (w.cps.toList.all fun c => decide (48 ≤ c ∧ c ≤ 57)) = true
          · rw [ha]
            rw [if_neg (by rintro (z | z | z); exact n0 z; omega; exact z ha)] at eW
            wtm_at "rs"
            obtain ⟨c0, r0, hc⟩ : ∃ c r, w.cps.toList = c :: r := by
              cases h : w.cps.toList with
              | nil => exact absurd h n0
              | cons c r => exact ⟨c, r, rfl⟩
            have e48 : (⟨#[c0]⟩ : Str) = "0" ↔ c0 = 48 := by
              rw [str_eqLN, zero]
              simp
            have dz : w = "0" ↔ w.cps.toList = [48] := by rw [str_eqLN, zero]
            have hd0 : w.cps.toList.head? ≠ some 48 ↔ ¬ (⟨#[c0]⟩ : Str) = "0" := by
              rw [hc, e48]
              simp
            have a0 : atI w.cps.toList 0 = some c0 := by rw [hc]; exact show atI (c0 :: r0) ((0 : Nat) : Int) = some c0 from atI_nat rfl
            have q := q G2 sm
            by_cases h1 : w = "0"
            · rw [if_pos (decide_eq_true h1)]
              rw [eW, decide_eq_true (.inl (dz.mp h1))] at q
              exact q
            · rw [if_neg (by rw [decide_eq_true_iff]; exact h1)]
              wtm_at "rs"
              refine rd_ixS (by unfold sizeLine; omega) a0 ?_
              wtm_at "rs"
              rw [eW, decide_eq_decide.mpr (show (w.cps.toList = [48] ∨ w.cps.toList.head? ≠ some 48) ↔ ¬ (⟨#[c0]⟩ : Str) = "0" by rw [← dz, hd0]; exact ⟨fun h => h.elim (fun h => absurd h h1) id, .inr⟩), decide_not] at q
              exact q
          · rw [Bool.eq_false_iff.mpr ha]
            rw [if_pos (.inr (.inr ha))] at eW
            rw [eW] at q
            wtm_at "rs"
            exact q _ sm
theorem ok_law_is_number (T : Txt K mg Ad) : Def P w K mg base 1 "_law_is_number" ["_law_word"] spLIsN :=
  (ok_law_is_number0 T).forget.imp fun vs H Q E ⟨w, e, l, nt, q⟩ => ⟨nt, w, e, l, nt, fun G s => ⟨s, q⟩⟩
/-! ### _law_read -/
/-- what the law's reader answers -/
def OutR (ws : List Str) (G : Hp) (D : Addr) : Prop := (∀ k, rdP ws = .error k → G D = some (.lst [.str "at", .int (k : Int)])) ∧ ∀ m R S, rdP ws = .ok (m, R, S) → ∃ r a b, G D = some (.lst [.str "row", .ref r]) ∧ G r = some (.lst [.int m, .ref a, .ref b]) ∧ G a = some (.lst (R.map V.int)) ∧ G b = some (.lst (S.map V.int))
def spLRd : Sp := fun vs H Q _ => ∃ (W : Addr) (ws : List Str), vs = [.ref W] ∧ H W = some (.lst (ws.map V.str)) ∧ ws.length ≤ 1000 ∧ (∀ w ∈ ws, w.length ≤ 100000) ∧ NoT H ∧ ∀ D G, Same H G → NoT G → OutR ws G D → Q (.ref D) G
local macro_rules | `(tactic| wtm_at "kc") => `(tactic| repeat ((first | rw [if_pos (by decide)] | rw [if_neg (by decide)] | rw [if_neg (by decide +kernel)] | rw [if_pos (by decide +kernel)]); wtm_at "rs"))
theorem ok_law_read (T : Txt K mg Ad) : Def P w K mg base 2 "_law_read" ["_law_words"] spLRd := by
  refine T.d_law_read.ok sc_law_read (fun vs H Q E h => ?_) (fun f cdv A outer s H vs Q E hr h => ?_)
  · obtain ⟨W, ws, rfl, _⟩ := h
    rfl
  · obtain ⟨W, ws, rfl, hW, few, wl, nt, q⟩ := h
    refine ⟨_, (pss_cons (ps_set (i := 1) sc_law_read.nd rfl (Or.inl rfl) (pe_lst (pa_cons pe_str (pa_cons pe_str (pa_cons pe_str (pa_cons pe_str pa_nil))))))
      (pss_cons (ps_set (i := 2) sc_law_read.nd rfl (Or.inl rfl) pe_int)
      (pss_cons (ps_set (i := 3) sc_law_read.nd rfl (Or.inl rfl) (pe_lst (pa_cons pe_int (pa_cons (pe_lst pa_nil) (pa_cons (pe_lst pa_nil) pa_nil)))))
      (pss_cons (ps_for (passes_of rfl) rfl (pi_range1 (by rfl) T.b_range (pa_cons (pe_callB c_len (by rfl) T.b_len PySem.boot_len (pa_cons (pv 0) pa_nil)) pa_nil)) (pg_name (i := 4) sc_law_read.nd rfl (Or.inl rfl)) (pss_cons (ps_set (i := 5) sc_law_read.nd rfl (Or.inl rfl) (pe_ix ix_list (pv 0) (pv 4) (fun _ _ => rfl)))
      (pss_one (ps_if (PW.pt (pw_and (pt_cmpR op_lt (pv 2) pe_int (nomark _)) (pw_and1 (pt_cmpR op_eq (pe_ix ix_list (pv 1) (pv 2) (fun _ _ => rfl)) pe_str (nomark _))))) (pss_cons (ps_if (pt_not (pt_val (pe_d (ok_law_is_number T) (hr.mono (by decide)) (passes_call (takes_of rfl rfl rfl rfl) (fun _ _ _ _ h => h)) (pa_cons (pv 5) pa_nil)))) (pss_one (ps_ret (pe_lst (pa_cons pe_str (pa_cons (pv 4) pa_nil))))) pss_nil)
      (pss_cons (ps_asg (pe_callTy c_intS (by rfl) T.b_int (by decide +kernel) (pa_cons (pv 5) pa_nil)) (pg_sub (pv 3) pe_int set_list))
      (pss_one (ps_set (i := 2) sc_law_read.nd rfl (Or.inl rfl) pe_int)))) (pss_one (ps_if (PW.pt (pw_and (pt_cmpR op_lt (pv 2) pe_int (nomark _)) (pw_and1 (pt_cmpR op_eq (pv 5) (pe_ix ix_list (pv 1) (pv 2) (fun _ _ => rfl)) (nomark _))))) (pss_one (ps_set (i := 2) sc_law_read.nd rfl (Or.inl rfl) (pe_op op_add (pv 2) pe_int))) (pss_one (ps_if (PW.pt (pw_and (pt_cmpR op_eq (pv 2) pe_int (nomark _)) (pw_and1 (pt_val (pe_d (ok_law_is_number T) (hr.mono (by decide)) (passes_call (takes_of rfl rfl rfl rfl) (fun _ _ _ _ h => h)) (pa_cons (pv 5) pa_nil)))))) (pss_one (ps_asg (pe_op op_cat (pe_ix ix_list (pv 3) pe_int (fun _ _ => rfl)) (pe_lst (pa_cons (pe_callTy c_intS (by rfl) T.b_int (by decide +kernel) (pa_cons (pv 5) pa_nil)) pa_nil))) (pg_sub (pv 3) pe_int set_list))) (pss_one (ps_if (PW.pt (pw_and (pt_cmpR op_eq (pv 2) pe_int (nomark _)) (pw_and1 (pt_val (pe_d (ok_law_is_number T) (hr.mono (by decide)) (passes_call (takes_of rfl rfl rfl rfl) (fun _ _ _ _ h => h)) (pa_cons (pv 5) pa_nil)))))) (pss_one (ps_asg (pe_op op_cat (pe_ix ix_list (pv 3) pe_int (fun _ _ => rfl)) (pe_lst (pa_cons (pe_callTy c_intS (by rfl) T.b_int (by decide +kernel) (pa_cons (pv 5) pa_nil)) pa_nil))) (pg_sub (pv 3) pe_int set_list))) (pss_one (ps_ret (pe_lst (pa_cons pe_str (pa_cons (pv 4) pa_nil)))))))))))))))
      (pss_cons (ps_if (pt_cmpR op_lt (pv 2) pe_int (nomark _)) (pss_one (ps_ret (pe_lst (pa_cons pe_str (pa_cons (pe_callB c_len (by rfl) T.b_len PySem.boot_len (pa_cons (pv 0) pa_nil)) pa_nil))))) pss_nil)
      (pss_one (ps_ret (pe_lst (pa_cons pe_str (pa_cons (pv 3) pa_nil)))))))))), ?_⟩
    try dsimp only [cxOf]
    have lm : (ws.map V.str).length = ws.length := List.length_map ..
    have B := Hv.start nt
    wtm_at "rs"
    rename_i wn hwn a0 ha0 b0 hb0 r hr0
    have B := (((B.newL (o := .lst [.str "modulo", .str "number", .str "rests", .str "singles"]) hwn).newL (o := .lst (([] : List Int).map V.int)) ha0).newL (o := .lst (([] : List Int).map V.int)) hb0).new (o := .lst [.int 0, .ref a0, .ref b0]) hr0
    clear hwn ha0 hb0 hr0
    refine B.gen fun G B => ?_
    refine rd_forR (fun i σ G => ∃ (st m : Int) (R S : List Int) (a b : Addr) (v4 v5 : Option V), σ = [some (.ref W), some (.ref wn), some (.int st), some (.ref r), v4, v5] ∧ LSt ws i st m R S ∧ Hv noX H [(r, .lst [.int m, .ref a, .ref b])] [(b, .lst (S.map V.int)), (a, .lst (R.map V.int)), (wn, .lst [.str "modulo", .str "number", .str "rests", .str "singles"])] [] G) ⟨_, _, _, _, _, _, _, _, rfl, .s0, B⟩ ?_ ?_
    · clear B
      rintro i σ G hi ⟨st, m, R, S, a, b, v4, v5, rfl, L, B⟩
      have hi2 : i < ws.length := by omega
      have hx : ws[i]? = some ws[i] := List.getElem?_eq_getElem hi2
      have at1 : atI (ws.map V.str) (0 + (i : Int)) = some (.str ws[i]) := by rw [Int.zero_add]; exact atI_nat (by rw [List.getElem?_map, hx]; rfl)
      have wl1 := wl _ (List.getElem_mem hi2)
      obtain ⟨lR, lS⟩ := L.few
      have bad : rdP ws = .error i → ∀ t, G t = none → Q (.ref t) (upd G t (.lst [.str "at", .int (0 + (i : Int))])) := fun e t ht => by
        refine q t _ (B.same.trans (same_new ht)) (NoT.upd B.nt rfl) ⟨fun k hk => ?_, fun m R S z => ?_⟩
        · rw [e] at hk
          cases hk
          rw [upd_same, Int.zero_add]
        · rw [e] at z
          cases z
      generalize ws[i] = w at *
      wtm_at "rs"
      refine rd_ixL (SqL.of (B.oAt hW)) at1 ?_
      wtm_at "rs"
      rcases L.all with e | e | e | e | e <;> subst e
      · wtm_at "rs"
        wtm_at "kc"
        by_cases e : w = "modulo"
        · rw [if_pos (decide_eq_true e)]
          wtm_at "rs"
          exact ⟨_, _, _, _, _, _, _, _, rfl, L.kw0 rfl (by rw [hx, e]), B⟩
        · rw [if_neg (by rw [decide_eq_true_iff]; exact e)]
          wtm_at "rs"
          wtm_at "kc"
          exact bad (L.bad0 rfl (by rw [hx]; simpa using e)) _ (by assumption)
      · wtm_at "rs"
        wtm_at "kc"
        refine use_lisN wl1 B.nt ?_
        wtm_at "rs"
        cases hn : isN w with
        | false =>
          wtm_at "rs"
          exact bad (L.bad1 rfl hx hn) _ (by assumption)
        | true =>
          obtain ⟨v1, v2, _, _⟩ := isN_val hn
          wtm_at "rs"
          refine rd_intS v1 (by omega) ?_
          wtm_at "rs"
          exact ⟨_, _, _, _, _, _, _, _, rfl, L.num1 rfl hx hn, B.put (u := .lst [.int (nVal w), .ref a, .ref b])⟩
      · wtm_at "rs"
        wtm_at "kc"
        by_cases e : w = "rests"
        · rw [if_pos (decide_eq_true e)]
          wtm_at "rs"
          exact ⟨_, _, _, _, _, _, _, _, rfl, L.kw2 rfl (by rw [hx, e]), B⟩
        · rw [if_neg (by rw [decide_eq_true_iff]; exact e)]
          wtm_at "rs"
          wtm_at "kc"
          exact bad (L.bad2 rfl (by rw [hx]; simpa using e)) _ (by assumption)
      · wtm_at "rs"
        wtm_at "kc"
        by_cases e : w = "singles"
        · rw [if_pos (decide_eq_true e)]
          wtm_at "rs"
          exact ⟨_, _, _, _, _, _, _, _, rfl, L.kw3 rfl (by rw [hx, e]), B⟩
        · rw [if_neg (by rw [decide_eq_true_iff]; exact e)]
          wtm_at "rs"
          wtm_at "kc"
          refine use_lisN wl1 B.nt ?_
          wtm_at "rs"
          cases hn : isN w with
          | false =>
            wtm_at "rs"
            wtm_at "kc"
            exact bad (L.bad3 rfl hx e hn) _ (by assumption)
          | true =>
            obtain ⟨v1, v2, _, _⟩ := isN_val hn
            wtm_at "rs"
            refine rd_intS v1 (by omega) ?_
            wtm_at "rs"
            rename_i t0 ht0
            have B := B.newL (o := .lst [.int (nVal w)]) ht0
            refine rd_cat (B.lAt (a := a) (by wtm_at "mem")) (B.lAt (a := t0) (by wtm_at "mem")) (Nat.le_trans (show _ ≤ 1100 by rw [List.length_map]; simp; omega) (by decide)) fun D hD => ?_
            have B := B.newL (o := .lst (R.map V.int ++ [.int (nVal w)])) hD
            wtm_at "rs"
            exact ⟨_, _, R ++ [nVal w], S, D, b, _, _, rfl, L.num3 rfl hx hn, by rw [show R.map V.int ++ [V.int (nVal w)] = (R ++ [nVal w]).map V.int by simp] at B ⊢; exact (B.put (u := .lst [.int m, .ref D, .ref b])).sub (by wtm_at "vsub") (by wtm_at "vsub")⟩
      · wtm_at "rs"
        wtm_at "kc"
        refine use_lisN wl1 B.nt ?_
        wtm_at "rs"
        cases hn : isN w with
        | false =>
          wtm_at "rs"
          exact bad (L.bad4 rfl hx hn) _ (by assumption)
        | true =>
          obtain ⟨v1, v2, _, _⟩ := isN_val hn
          wtm_at "rs"
          refine rd_intS v1 (by omega) ?_
          wtm_at "rs"
          rename_i t0 ht0
          have B := B.newL (o := .lst [.int (nVal w)]) ht0
          refine rd_cat (B.lAt (a := b) (by wtm_at "mem")) (B.lAt (a := t0) (by wtm_at "mem")) (Nat.le_trans (show _ ≤ 1100 by rw [List.length_map]; simp; omega) (by decide)) fun D hD => ?_
          have B := B.newL (o := .lst (S.map V.int ++ [.int (nVal w)])) hD
          wtm_at "rs"
          exact ⟨_, _, R, S ++ [nVal w], a, D, _, _, rfl, L.num4 rfl hx hn, by rw [show S.map V.int ++ [V.int (nVal w)] = (S ++ [nVal w]).map V.int by simp] at B ⊢; exact (B.put (u := .lst [.int m, .ref a, .ref D])).sub (by wtm_at "vsub") (by wtm_at "vsub")⟩
    · clear B
      rintro σ G ⟨st, m, R, S, a, b, v4, v5, rfl, L, B⟩
      rw [lm, Int.toNat_natCast] at L
      obtain ⟨e1, e2⟩ := L.stop
      have al := L.all
      wtm_at "rs"
      by_cases l4 : st < 4
      · rw [if_pos (decide_eq_true l4)]
        wtm_at "rs"
        rename_i t ht
        refine q t _ (B.same.trans (same_new ht)) (NoT.upd B.nt rfl) ⟨fun k hk => ?_, fun m R S z => ?_⟩
        · rw [e1 l4] at hk
          cases hk
          rw [upd_same, lm]
        · rw [e1 l4] at z
          cases z
      · have e4 : st = 4 := by omega
        rw [if_neg (by rw [decide_eq_true_iff]; exact l4)]
        wtm_at "rs"
        rename_i t ht
        refine q t _ (B.same.trans (same_new ht)) (NoT.upd B.nt rfl) ⟨fun k hk => ?_, fun m R S z => ?_⟩
        · rw [e2 e4] at hk
          cases hk
        · rw [e2 e4] at z
          cases z
          have s := same_new (o := .lst [.str "row", .ref r]) ht
          exact ⟨r, a, b, upd_same, s _ _ (B.mAt (a := r) (by wtm_at "mem")), s _ _ (B.lAt (a := a) (by wtm_at "mem")), s _ _ (B.lAt (a := b) (by wtm_at "mem"))⟩
/-! ### _law_is_odd_prime -/
def spOP : Sp := fun vs H Q _ => ∃ n : Int, vs = [.int n] ∧ n < 2 ^ 120 ∧ Q (.bl (decide (QR.OP n))) H
theorem ok_law_is_odd_prime (T : Txt K mg Ad) : Def P w K mg base 1 "_law_is_odd_prime" ["_law_n"] spOP := by
  refine T.d_law_is_odd_prime.ok sc_law_is_odd_prime (fun vs H Q E h => ?_) (fun f cdv A outer s H vs Q E hr h => ?_)
  · obtain ⟨n, rfl, _⟩ := h
    rfl
  · obtain ⟨n, rfl, hn, q⟩ := h
    refine ⟨_, (pss_cons (ps_if (PW.pt (pw_or (pt_cmpR op_lt (pv 0) pe_int (nomark _)) (pw_or1 (pt_cmpR op_eq (pe_op op_mod (pv 0) pe_int) pe_int (nomark _))))) (pss_one (ps_ret pe_bl)) pss_nil)
      (pss_cons (ps_set (i := 1) sc_law_is_odd_prime.nd rfl (Or.inl rfl) pe_int)
      (pss_cons (ps_while (passes_of rfl) (pt_cmpR op_le (pe_op op_mulB (pv 1) (pv 1)) (pv 0) (nomark _)) (pss_cons (ps_if (pt_cmpR op_eq (pe_op op_mod (pv 0) (pv 1)) pe_int (nomark _)) (pss_one (ps_ret pe_bl)) pss_nil)
      (pss_one (ps_set (i := 1) sc_law_is_odd_prime.nd rfl (Or.inl rfl) (pe_op op_add (pv 1) pe_int)))))
      (pss_one (ps_ret pe_bl))))), ?_⟩
    try dsimp only [cxOf]
    wtm_at "ra"
    · rw [decide_eq_false (fun z : QR.OP n => by have := z.three; omega)] at q
      exact q
    · rw [decide_eq_false (fun z : QR.OP n => by have := z.2; omega)] at q
      exact q
    · refine rd_while (fun μ σ H' => ∃ k : Int, μ = (n + 2 - k).toNat ∧ σ = [some (.int n), some (.int k)] ∧ H = H' ∧ 3 ≤ k ∧ k % 2 = 1 ∧ k < 2 ^ 61 ∧ ∀ d : Int, 3 ≤ d → d % 2 = 1 → d < k → ¬ d ∣ n) (n - 1).toNat
        ⟨3, by omega, rfl, rfl, by omega, by omega, by omega, fun d _ _ _ => by omega⟩ ?_
      rintro μ σ H' ⟨k, rfl, rfl, rfl, hk, hk2, hk3, inv⟩
      wtm_at "ra"
      · rename_i hle hz
        rw [decide_eq_false (fun z : QR.OP n => QR.not_pm (by omega) hle hz z.1)] at q
        exact q
      · rename_i hle hz
        have b := QR.sq_bound (by omega) hle hn
        have c := QR.le_sq (show 1 ≤ k by omega)
        exact ⟨_, by omega, k + 2, rfl, rfl, rfl, by omega, by omega, by omega, QR.no_dvd_step2 hk2 inv hz⟩
      · rename_i hgt
        rw [decide_eq_true (show QR.OP n from ⟨QR.pm_of_odd_trial (by omega) (by omega) (by omega) (by omega) inv, by omega⟩)] at q
        exact q
theorem use_OP {n : Int} {H : Hp} {Q : VK} {E : XK} (h : n < 2 ^ 120) (q : Q (.bl (decide (QR.OP n))) H) : spOP [.int n] H Q E := ⟨n, rfl, h, q⟩
local macro_rules | `(tactic| wtm_at "s") => `(tactic| ((with_reducible refine use_OP ?h1 ?_); (case h1 => omega)))
/-! ### _law_due -/
/-- what is to be answered for a description -/
def AnsM (m : Int) (R S : List Int) (t : Str) (v : V) : Prop := (m < 1 ∧ t = "modulus" ∧ v = .int m) ∨ (4000 < m ∧ t = "wide" ∧ v = .int m) ∨ (1 ≤ m ∧ m ≤ 4000 ∧ ((∃ l r rs, R = l ++ r :: rs ∧ (∀ o ∈ l, RestOk m o) ∧ ¬ RestOk m r ∧ t = "rest" ∧ v = .int r) ∨ ((∀ r ∈ R, RestOk m r) ∧
  ((∃ l p rs, S = l ++ p :: rs ∧ (∀ o ∈ l, QR.OP o) ∧ ¬ QR.OP p ∧ t = "prime" ∧ v = .int p) ∨ ((∀ p ∈ S, QR.OP p) ∧ ∃ m' R' S', Made m R S m' R' S' ∧ t = "set" ∧ v = .str (ptx m' R' S'))))))
def AnsP (ws : List Str) (t : Str) (v : V) : Prop := match rdP ws with
  | .error k => t = "at" ∧ v = .int (k : Int)
  | .ok (m, R, S) => AnsM m R S t v
def OutA (ws : List Str) (G : Hp) (D : Addr) : Prop := ∃ t v, AnsP ws t v ∧ G D = some (.lst [.str t, v])
theorem first_one {q : Int → Prop} {A l l2 r r2 : List Int} {x y : Int} (e1 : A = l ++ x :: r) (e2 : A = l2 ++ y :: r2) (h1 : ∀ o ∈ l, q o) (h2 : ∀ o ∈ l2, q o) (n1 : ¬ q x) (n2 : ¬ q y) : x = y := by
  subst e1
  induction l generalizing l2 with
  | nil =>
    cases l2 with
    | nil => exact (List.cons.inj e2).1
    | cons z t =>
      have := (List.cons.inj e2).1
      exact absurd (h2 z List.mem_cons_self) (this ▸ n1)
  | cons z t ih =>
    cases l2 with
    | nil =>
      have := (List.cons.inj e2).1
      exact absurd (h1 z List.mem_cons_self) (this ▸ n2)
    | cons z2 t2 =>
      exact ih (l2 := t2) (fun o h => h1 o (List.mem_cons_of_mem _ h)) (fun o h => h2 o (List.mem_cons_of_mem _ h)) (List.cons.inj e2).2
theorem made_one {m m' m2 : Int} {R S R' S' R0 S0 : List Int} (h : Made m R S m' R' S') (k : Made m R S m2 R0 S0) (m1 : 1 ≤ m) : m' = m2 ∧ R' = R0 ∧ S' = S0 :=
  least_unique m1 h.sub.dvd k.sub.dvd h.least k.least (fun x hx => by rw [h.sub.same x hx, k.sub.same x hx]) fun p hp => by rw [h.mem p (.inl hp), k.mem p (.inl hp)]
theorem AnsM.uniq {m : Int} {R S : List Int} {t t2 : Str} {v v2 : V} (h : AnsM m R S t v) (k : AnsM m R S t2 v2) : t = t2 ∧ v = v2 := by
  rcases h with ⟨c, rfl, rfl⟩ | ⟨c, rfl, rfl⟩ | ⟨c1, c2, h⟩
  · rcases k with ⟨_, rfl, rfl⟩ | ⟨d, _⟩ | ⟨d, _⟩
    · exact ⟨rfl, rfl⟩
    · omega
    · omega
  · rcases k with ⟨d, _⟩ | ⟨_, rfl, rfl⟩ | ⟨_, d, _⟩
    · omega
    · exact ⟨rfl, rfl⟩
    · omega
  · rcases k with ⟨d, _⟩ | ⟨d, _⟩ | ⟨_, _, k⟩
    · omega
    · omega
    rcases h with ⟨l, r, rs, e, o, n, rfl, rfl⟩ | ⟨o, h⟩
    · rcases k with ⟨l2, r2, rs2, e2, o2, n2, rfl, rfl⟩ | ⟨o2, k⟩
      · exact ⟨rfl, by rw [first_one e e2 o o2 n n2]⟩
      · exact absurd (o2 r (by rw [e]; simp)) n
    · rcases k with ⟨l2, r2, rs2, e2, o2, n2, rfl, rfl⟩ | ⟨o2, k⟩
      · exact absurd (o r2 (by rw [e2]; simp)) n2
      rcases h with ⟨l, r, rs, e, o, n, rfl, rfl⟩ | ⟨o, m', R', S', md, rfl, rfl⟩
      · rcases k with ⟨l2, r2, rs2, e2, o2, n2, rfl, rfl⟩ | ⟨o2, k⟩
        · exact ⟨rfl, by rw [first_one e e2 o o2 n n2]⟩
        · exact absurd (o2 r (by rw [e]; simp)) n
      · rcases k with ⟨l2, r2, rs2, e2, o2, n2, rfl, rfl⟩ | ⟨o2, m2, R2, S2, md2, rfl, rfl⟩
        · exact absurd (o r2 (by rw [e2]; simp)) n2
        · obtain ⟨rfl, rfl, rfl⟩ := made_one md md2 c1
          exact ⟨rfl, rfl⟩
theorem AnsP.uniq {ws : List Str} {t t2 : Str} {v v2 : V} (h : AnsP ws t v) (k : AnsP ws t2 v2) : t = t2 ∧ v = v2 := by
  unfold AnsP at h k
  split at h
  · rename_i e
    rw [e] at k
    exact ⟨h.1.trans k.1.symm, h.2.trans k.2.symm⟩
  · rename_i e
    rw [e] at k
    exact h.uniq k
theorem AnsP.err {ws : List Str} {k : Nat} (e : rdP ws = .error k) : AnsP ws "at" (.int (k : Int)) := by
  unfold AnsP
  rw [e]
  exact ⟨rfl, rfl⟩
theorem AnsP.row {ws : List Str} {m : Int} {R S : List Int} {t : Str} {v : V} (e : rdP ws = .ok (m, R, S)) (h : AnsM m R S t v) : AnsP ws t v := by
  unfold AnsP
  rw [e]
  exact h
theorem rdP_nn {ws : List Str} {m : Int} {R S : List Int} (e : rdP ws = .ok (m, R, S)) : (0 ≤ m ∧ m < 1000000) ∧ (∀ r ∈ R, 0 ≤ r ∧ r < 1000000) ∧ (∀ r ∈ S, 0 ≤ r ∧ r < 1000000) ∧ R.length ≤ ws.length ∧ S.length ≤ ws.length := by
  have a := numW_le (ws := ws) (i := 3)
  have b := numW_le (ws := ws) (i := 3 + (numW ws 3).length + 1)
  have nn : ∀ {i : Nat}, ∀ r ∈ (numW ws i).map nVal, 0 ≤ r ∧ r < 1000000 := fun {i} r hr => by
    obtain ⟨w, hw, rfl⟩ := List.mem_map.mp hr
    exact (isN_val (numW_isN hw)).2.2
  unfold rdP at e
  split at e
  · cases e
  split at e
  · cases e
  rename_i w _
  split at e
  · cases e
  rename_i hn
  split at e
  · cases e
  split at e
  · cases e
  split at e
  · cases e
  cases e
  have hn : isN w = true := by simpa using hn
  exact ⟨(isN_val hn).2.2, nn, nn, by rw [List.length_map]; omega, by rw [List.length_map]; omega⟩
theorem use_PStr45 {C : Addr} {p : Addr} {m : Int} {R S : List Int} {H : Hp} {Q : VK} {E : XK} (nt : NoT H) (ip : IsP C H p m R S) (o : SetOk m R S) (q : Q (.str (ptx m R S)) H) : rStrO C (spPStr C) E [.ref p] H Q := by
  obtain ⟨dx, tR, tS, h, _, _⟩ := id ip
  exact ⟨p, dx, _, rfl, h, p, m, R, S, rfl, nt, ip, o, _, rfl, q⟩
theorem set_ok {m m' : Int} {R S R' S' : List Int} (md : Made m R S m' R' S') (m1 : 1 ≤ m) (le : m ≤ 4000) (few : S.length ≤ 900) (sm : ∀ p ∈ S, p < 2 ^ 120) : SetOk m' R' S' := by
  refine ⟨md.least, Int.le_trans (Int.le_of_dvd (by omega) md.sub.dvd) le, by have := md.few; omega, fun p hp => ?_⟩
  rcases md.src p hp with h | h
  · exact sm p h
  · have := Int.le_of_dvd (by omega) h
    exact Int.lt_of_le_of_lt (Int.le_trans this le) (by decide)
def spLDue : Sp := fun vs H Q _ => ∃ (W : Addr) (ws : List Str), vs = [.ref W] ∧ H W = some (.lst (ws.map V.str)) ∧ ws.length ≤ 800 ∧ (∀ w ∈ ws, w.length ≤ 100000) ∧ NoT H ∧ ∀ D G, Same H G → NoT G → OutA ws G D → Q (.ref D) G
theorem use_LDue {W : Addr} {ws : List Str} {H : Hp} {Q : VK} {E : XK} (hW : H W = some (.lst (ws.map V.str))) (few : ws.length ≤ 800) (wl : ∀ w ∈ ws, w.length ≤ 100000) (nt : NoT H) (q : ∀ D G, Same H G → NoT G → OutA ws G D → Q (.ref D) G) : spLDue [.ref W] H Q E := ⟨W, ws, rfl, hW, few, wl, nt, q⟩
theorem ok_law_due (T : Txt K mg Ad) : Def P w K mg base 7 "_law_due" ["_law_words"] spLDue := by
  refine T.d_law_due.ok sc_law_due (fun vs H Q E h => ?_) (fun f cdv A outer s H vs Q E hr h => ?_)
  · obtain ⟨W, ws, rfl, _⟩ := h
    rfl
  · obtain ⟨W, ws, rfl, hW, few, wl, nt, q⟩ := h
    refine ⟨_, (pss_cons (ps_set (i := 1) sc_law_due.nd rfl (Or.inl rfl) (pe_d (ok_law_read T) (hr.mono (by decide)) (passes_call (takes_of rfl rfl rfl rfl) (fun _ _ _ _ h => h)) (pa_cons (pv 0) pa_nil)))
      (pss_cons (ps_if (pt_cmpR op_eq (pe_ix ix_list (pv 1) pe_int (fun _ _ => rfl)) pe_str (nomark _)) (pss_one (ps_ret (pv 1))) pss_nil)
      (pss_cons (ps_set (i := 2) sc_law_due.nd rfl (Or.inl rfl) (pe_ix ix_list (pv 1) pe_int (fun _ _ => rfl)))
      (pss_cons (ps_if (pt_cmpR op_lt (pe_ix ix_list (pv 2) pe_int (fun _ _ => rfl)) pe_int (nomark _)) (pss_one (ps_ret (pe_lst (pa_cons pe_str (pa_cons (pe_ix ix_list (pv 2) pe_int (fun _ _ => rfl)) pa_nil))))) pss_nil)
      (pss_cons (ps_if (pt_cmpR op_gt (pe_ix ix_list (pv 2) pe_int (fun _ _ => rfl)) pe_int (nomark _)) (pss_one (ps_ret (pe_lst (pa_cons pe_str (pa_cons (pe_ix ix_list (pv 2) pe_int (fun _ _ => rfl)) pa_nil))))) pss_nil)
      (pss_cons (ps_for (passes_of rfl) rfl (pi_list (pe_ix ix_list (pv 2) pe_int (fun _ _ => rfl))) (pg_name (i := 3) sc_law_due.nd rfl (Or.inl rfl)) (pss_one (ps_if (PW.pt (pw_or (pt_cmpR op_ge (pv 3) (pe_ix ix_list (pv 2) pe_int (fun _ _ => rfl)) (nomark _)) (pw_or1 (pt_cmpR op_ne (pe_d (ok_law_common T) (hr.mono (by decide)) (passes_call (takes_of rfl rfl rfl rfl) (fun _ _ _ _ h => h)) (pa_cons (pv 3) (pa_cons (pe_ix ix_list (pv 2) pe_int (fun _ _ => rfl)) pa_nil))) pe_int (nomark _))))) (pss_one (ps_ret (pe_lst (pa_cons pe_str (pa_cons (pv 3) pa_nil))))) pss_nil)))
      (pss_cons (ps_for (passes_of rfl) rfl (pi_list (pe_ix ix_list (pv 2) pe_int (fun _ _ => rfl))) (pg_name (i := 4) sc_law_due.nd rfl (Or.inl rfl)) (pss_one (ps_if (pt_not (pt_val (pe_d (ok_law_is_odd_prime T) (hr.mono (by decide)) (passes_call (takes_of rfl rfl rfl rfl) (fun _ _ _ _ h => h)) (pa_cons (pv 4) pa_nil)))) (pss_one (ps_ret (pe_lst (pa_cons pe_str (pa_cons (pv 4) pa_nil))))) pss_nil)))
      (pss_one (ps_ret (pe_lst (pa_cons pe_str (pa_cons (pe_callTy (call_strO (ok_Primes_str T) (hr.mono (by decide)) (passes_call (takes_of rfl rfl rfl rfl) (fun _ _ _ _ h => h))) (by rfl) T.b_str (by decide +kernel) (pa_cons (pe_mkd (ok_Primes_init T) (hr.mono (by decide)) (passes_call (takes_of rfl rfl rfl rfl) (fun _ _ _ _ h => h)) (pa_cons (pe_ix ix_list (pv 2) pe_int (fun _ _ => rfl)) (pa_cons (pe_ix ix_list (pv 2) pe_int (fun _ _ => rfl)) (pa_cons (pe_ix ix_list (pv 2) pe_int (fun _ _ => rfl)) pa_nil)))) pa_nil)) pa_nil)))))))))))), ?_⟩
    try dsimp only [cxOf]
    have B := Hv.start nt
    wtm_at "rs"
    refine ⟨W, ws, rfl, hW, by omega, wl, nt, fun D G s2 n2 oR => ?_⟩
    replace B := B.next s2 n2
    cases e : rdP ws with
    | error k =>
      have h1 := oR.1 k e
      wtm_at "rs"
      exact q D G s2 n2 ⟨_, _, AnsP.err e, h1⟩
    | ok t =>
      obtain ⟨m, R, S⟩ := t
      obtain ⟨r, a, b, h1, h2, h3, h4⟩ := oR.2 m R S e
      obtain ⟨p1, p2, p3, p4, p5⟩ := rdP_nn e
      have ans : ∀ {t : Str} {v : V}, AnsM m R S t v → ∀ x L, Same G L → NoT L → L x = none → Q (.ref x) (upd L x (.lst [.str t, v])) := fun h x L sm n hx => q x _ ((s2.trans sm).trans (same_new hx)) (NoT.upd n rfl) ⟨_, _, AnsP.row e h, upd_same⟩
      wtm_at "rs"
      rw [if_neg (by decide +kernel)]
      wtm_at "rs"
      by_cases c1 : m < 1
      · rw [if_pos (decide_eq_true c1)]
        wtm_at "rs"
        exact ans (.inl ⟨c1, rfl, rfl⟩) _ _ (Same.refl _) n2 (by assumption)
      rw [if_neg (by rw [decide_eq_true_iff]; exact c1)]
      wtm_at "rs"
      by_cases c2 : 4000 < m
      · rw [if_pos (decide_eq_true c2)]
        wtm_at "rs"
        exact ans (.inr (.inl ⟨c2, rfl, rfl⟩)) _ _ (Same.refl _) n2 (by assumption)
      rw [if_neg (by rw [decide_eq_true_iff]; exact c2)]
      wtm_at "rs"
      refine rd_forLs (xs := R.map V.int) (fun i σ => ∃ v3, σ = [some (.ref W), some (.ref D), some (.ref r), v3, none] ∧ ∀ o ∈ R.take i, RestOk m o) (SqL.of h3) ⟨_, rfl, by simp⟩ ?_ ?_
      · rintro i v σ hi ⟨v3, rfl, low⟩
        rw [List.getElem?_map] at hi
        obtain ⟨x, hx, rfl⟩ := Option.map_eq_some_iff.mp hi
        have xm := p2 x (List.mem_of_getElem? hx)
        have hil := (List.getElem?_eq_some_iff.mp hx).1
        have er : R.take (i + 1) = R.take i ++ [x] := by rw [List.take_add_one, hx]; rfl
        have bad : ¬ RestOk m x → AnsM m R S "rest" (.int x) := fun n => .inr (.inr ⟨by omega, by omega, .inl ⟨R.take i, x, R.drop (i + 1), by
          have := (List.take_append_drop i R).symm
          rw [List.drop_eq_getElem_cons hil, (List.getElem?_eq_some_iff.mp hx).2] at this
          exact this, low, n, rfl, rfl⟩⟩)
        wtm_at "rs"
        by_cases d1 : m ≤ x
        · rw [if_pos (decide_eq_true d1)]
          wtm_at "rs"
          exact ans (bad fun z => by have := z.2.1; omega) _ _ (Same.refl _) n2 (by assumption)
        · rw [if_neg (by rw [decide_eq_true_iff]; exact d1)]
          wtm_at "rs"
          by_cases d2 : Int.gcd x m = 1
          · rw [if_neg (by simp [d2])]
            wtm_at "rs"
            refine ⟨rfl, _, rfl, fun o ho => ?_⟩
            rw [er] at ho
            rcases List.mem_append.mp ho with ho | ho
            · exact low o ho
            · rw [List.mem_singleton.mp ho]
              exact ⟨xm.1, by omega, d2⟩
          · rw [if_pos (by simp; omega)]
            wtm_at "rs"
            exact ans (bad fun z => d2 z.2.2) _ _ (Same.refl _) n2 (by assumption)
      · rintro σ ⟨v3, rfl, low⟩
        rw [List.length_map, List.take_length] at low
        wtm_at "rs"
        refine rd_forLs (xs := S.map V.int) (fun i σ => ∃ v4, σ = [some (.ref W), some (.ref D), some (.ref r), v3, v4] ∧ ∀ o ∈ S.take i, QR.OP o) (SqL.of h4) ⟨_, rfl, by simp⟩ ?_ ?_
        · rintro i v σ hi ⟨v4, rfl, low2⟩
          rw [List.getElem?_map] at hi
          obtain ⟨x, hx, rfl⟩ := Option.map_eq_some_iff.mp hi
          have xm := p3 x (List.mem_of_getElem? hx)
          have hil := (List.getElem?_eq_some_iff.mp hx).1
          have er : S.take (i + 1) = S.take i ++ [x] := by rw [List.take_add_one, hx]; rfl
          wtm_at "rs"
          by_cases d1 : QR.OP x
          · rw [if_neg (by simp [d1])]
            wtm_at "rs"
            refine ⟨rfl, _, rfl, fun o ho => ?_⟩
            rw [er] at ho
            rcases List.mem_append.mp ho with ho | ho
            · exact low2 o ho
            · rw [List.mem_singleton.mp ho]
              exact d1
          · rw [if_pos (by simp [d1])]
            wtm_at "rs"
            exact ans (.inr (.inr ⟨by omega, by omega, .inr ⟨low, .inl ⟨S.take i, x, S.drop (i + 1), by
              have := (List.take_append_drop i S).symm
              rw [List.drop_eq_getElem_cons hil, (List.getElem?_eq_some_iff.mp hx).2] at this
              exact this, low2, d1, rfl, rfl⟩⟩⟩)) _ _ (Same.refl _) n2 (by assumption)
        · rintro σ ⟨v4, rfl, low2⟩
          rw [List.length_map, List.take_length] at low2
          have sb : ∀ p ∈ S, p < 2 ^ 120 := fun p hp => Int.lt_trans (p3 p hp).2 (by decide)
          wtm_at "rs"
          refine mk_P n2 (.inl (SqL.of h3)) (.inl (SqL.of h4)) (by omega) (by omega) sb (by omega) (by omega) low low2 fun x L m' R' S' s3 n3 _ ip md => ?_
          wtm_at "rs"
          refine use_PStr45 n3 ip (set_ok md (by omega) (by omega) (by omega) sb) ?_
          wtm_at "rs"
          exact ans (.inr (.inr ⟨by omega, by omega, .inr ⟨low, .inr ⟨low2, m', R', S', md, rfl, rfl⟩⟩⟩)) _ _ s3 n3 (by assumption)
/-! ### _law_told -/
def spLTold : Sp := fun vs H Q _ => ∃ (W : Addr) (ws : List Str), vs = [.ref W] ∧ H W = some (.lst (ws.map V.str)) ∧ ws.length ≤ 800 ∧ Wds ws ∧ NoT H ∧ ∀ D G, Same H G → NoT G → OutA ws G D → Q (.ref D) G
theorem use_LTold {W : Addr} {ws : List Str} {H : Hp} {Q : VK} {E : XK} (hW : H W = some (.lst (ws.map V.str))) (few : ws.length ≤ 800) (wd : Wds ws) (nt : NoT H) (q : ∀ D G, Same H G → NoT G → OutA ws G D → Q (.ref D) G) : spLTold [.ref W] H Q E := ⟨W, ws, rfl, hW, few, wd, nt, q⟩
theorem ok_law_told (T : Txt K mg Ad) : Def P w K mg base 8 "_law_told" ["_law_words"] spLTold := by
  refine T.d_law_told.ok sc_law_told (fun vs H Q E h => ?_) (fun f cdv A outer s H vs Q E hr h => ?_)
  · obtain ⟨W, ws, rfl, _⟩ := h
    rfl
  · obtain ⟨W, ws, rfl, hW, few, wd, nt, q⟩ := h
    refine ⟨_, (pss_cons (ps_try_asL (n := "e") (i := 2) (tb := fun W => (tAsg (tCMethT Ad.c_Primes ((spRead Ad.c_Primes Ad.c_BadModulus Ad.c_TooWide Ad.c_BadRest Ad.c_BadPrime Ad.c_BadSaying)) (WE W) (tC (.ref Ad.c_Primes)) (tCons (tM1 (rJoin K) (tC (.str " ")) (tVar 0)) tNil)) (gName 1))) (l := [(.ref Ad.c_BadSaying, fun a cls d => (tRet (tLst (tCons (tC (.str "at")) (tCons (tXf a cls d Ad.c_BadSaying "at" (tVar 2)) tNil))))), (.ref Ad.c_BadModulus, fun a cls d => (tRet (tLst (tCons (tC (.str "modulus")) (tCons (tXf a cls d Ad.c_BadModulus "modulus" (tVar 2)) tNil))))), (.ref Ad.c_TooWide, fun a cls d => (tRet (tLst (tCons (tC (.str "wide")) (tCons (tXf a cls d Ad.c_TooWide "modulus" (tVar 2)) tNil))))), (.ref Ad.c_BadRest, fun a cls d => (tRet (tLst (tCons (tC (.str "rest")) (tCons (tXf a cls d Ad.c_BadRest "rest" (tVar 2)) tNil))))), (.ref Ad.c_BadPrime, fun a cls d => (tRet (tLst (tCons (tC (.str "prime")) (tCons (tXf a cls d Ad.c_BadPrime "p" (tVar 2)) tNil)))))]) (Wout := fun cls d _ H => E cls d H) rfl rfl sc_law_told.nd rfl rfl (takes_of rfl rfl rfl rfl) (fun W pn xe tk ow => (pss_one (ps_set (i := 1) sc_law_told.nd rfl (Or.inl rfl) (by exact (pe_cmS (ok_Primes_read T) (pe_glob (v := .ref Ad.c_Primes) rfl T.g_Primes rfl) (hr.mono (by decide)) tk (pa_cons (pe_join pe_str (pv 0)) pa_nil)))))) (.cons ⟨rfl, by decide, .inl T.r_BadSaying.g⟩ (fun a oe cls d pn hz hf => (pss_one (ps_ret (pe_lst (pa_cons pe_str (pa_cons (pe_xf T.r_BadSaying.X T.no_BadSaying_at hz hf (pv 2)) pa_nil)))))) (.cons ⟨rfl, by decide, .inl T.r_BadModulus.g⟩ (fun a oe cls d pn hz hf => (pss_one (ps_ret (pe_lst (pa_cons pe_str (pa_cons (pe_xf T.r_BadModulus.X T.no_BadModulus_modulus hz hf (pv 2)) pa_nil)))))) (.cons ⟨rfl, by decide, .inl T.r_TooWide.g⟩ (fun a oe cls d pn hz hf => (pss_one (ps_ret (pe_lst (pa_cons pe_str (pa_cons (pe_xf T.r_TooWide.X T.no_TooWide_modulus hz hf (pv 2)) pa_nil)))))) (.cons ⟨rfl, by decide, .inl T.r_BadRest.g⟩ (fun a oe cls d pn hz hf => (pss_one (ps_ret (pe_lst (pa_cons pe_str (pa_cons (pe_xf T.r_BadRest.X T.no_BadRest_rest hz hf (pv 2)) pa_nil)))))) (.cons ⟨rfl, by decide, .inl T.r_BadPrime.g⟩ (fun a oe cls d pn hz hf => (pss_one (ps_ret (pe_lst (pa_cons pe_str (pa_cons (pe_xf T.r_BadPrime.X T.no_BadPrime_p hz hf (pv 2)) pa_nil)))))) .nil))))))
      (pss_one (ps_ret (pe_lst (pa_cons pe_str (pa_cons (pe_callTy (call_strO (ok_Primes_str T) (hr.mono (by decide)) (passes_call (takes_of rfl rfl rfl rfl) (fun _ _ _ _ h => h))) (by rfl) T.b_str (by decide +kernel) (pa_cons (pv 1) pa_nil)) pa_nil)))))), ?_⟩
    try dsimp only [cxOf]
    have B := Hv.start nt
    have jl := wd.sum
    wtm_at "rs"
    refine ⟨⟨_, rfl⟩, ?_⟩
    wtm_at "rs"
    refine rd_join (SqL.of hW) jl ?_
    wtm_at "rs"
    refine ⟨ws, rfl, wd, nt, fun k hk d G s2 n2 hd => ?_, fun m R S e => ?_⟩
    · skip
      refine rd_wasL T.r_BadSaying.self fun x0 hx0 => ?_
      wtm_at "rs"
      rename_i D hD
      exact q D _ (s2.trans (same_new hD)) (NoT.upd n2 rfl) ⟨_, _, AnsP.err hk, upd_same⟩
    · have ans : ∀ {t : Str} {v : V}, AnsM m R S t v → ∀ x L, Same H L → NoT L → L x = none → Q (.ref x) (upd L x (.lst [.str t, v])) := fun h x L sm n hx => q x _ (sm.trans (same_new hx)) (NoT.upd n rfl) ⟨_, _, AnsP.row e h, upd_same⟩
      obtain ⟨p1, p2, p3, p4, p5⟩ := rdP_nn e
      have sb : ∀ p ∈ S, p < 2 ^ 120 := fun p hp => Int.lt_trans (p3 p hp).2 (by decide)
      refine ⟨fun c d G s2 n2 hd => ?_, fun c d G s2 n2 hd => ?_, fun c1 c2 l r rs e1 o n d G s2 n2 hd => ?_, fun c1 c2 o l r rs e1 o2 n d G s2 n2 hd => ?_, fun c1 c2 o o2 x G m' R' S' s2 n2 ip md => ?_⟩
      · skip
        refine rd_wasN T.xn_BadModulus_BadSaying ?_
        refine rd_wasL T.r_BadModulus.self fun x0 hx0 => ?_
        wtm_at "rs"
        rename_i D hD
        exact ans (.inl ⟨c, rfl, rfl⟩) _ _ s2 n2 hD
      · skip
        refine rd_wasN T.xn_TooWide_BadSaying ?_
        refine rd_wasN T.xn_TooWide_BadModulus ?_
        refine rd_wasL T.r_TooWide.self fun x0 hx0 => ?_
        wtm_at "rs"
        rename_i D hD
        exact ans (.inr (.inl ⟨c, rfl, rfl⟩)) _ _ s2 n2 hD
      · skip
        refine rd_wasN T.xn_BadRest_BadSaying ?_
        refine rd_wasN T.xn_BadRest_BadModulus ?_
        refine rd_wasN T.xn_BadRest_TooWide ?_
        refine rd_wasL T.r_BadRest.self fun x0 hx0 => ?_
        wtm_at "rs"
        rename_i D hD
        exact ans (.inr (.inr ⟨c1, c2, .inl ⟨l, r, rs, e1, o, n, rfl, rfl⟩⟩)) _ _ s2 n2 hD
      · skip
        refine rd_wasN T.xn_BadPrime_BadSaying ?_
        refine rd_wasN T.xn_BadPrime_BadModulus ?_
        refine rd_wasN T.xn_BadPrime_TooWide ?_
        refine rd_wasN T.xn_BadPrime_BadRest ?_
        refine rd_wasL T.r_BadPrime.self fun x0 hx0 => ?_
        wtm_at "rs"
        rename_i D hD
        exact ans (.inr (.inr ⟨c1, c2, .inr ⟨o, .inl ⟨l, r, rs, e1, o2, n, rfl, rfl⟩⟩⟩)) _ _ s2 n2 hD
      · wtm_at "rs"
        refine use_PStr45 n2 ip (set_ok md c1 c2 (by omega) sb) ?_
        wtm_at "rs"
        exact ans (.inr (.inr ⟨c1, c2, .inr ⟨o, .inr ⟨o2, m', R', S', md, rfl, rfl⟩⟩⟩)) _ _ s2 n2 (by assumption)
/-! ### Primes.__eq__ -/
def spPEq (C : Addr) : Sp := fun vs H Q E => ∃ (p : Addr) (m : Int) (R S : List Int) (y : V), vs = [.ref p, y] ∧ IsP C H p m R S ∧ NoT H ∧ ((∃ q m' R' S', y = .ref q ∧ IsP C H q m' R' S' ∧ Q (.bl (decide (m = m' ∧ R = R' ∧ S = S'))) H) ∨ ∃ l xs, y = .ref l ∧ H l = some (.lst xs) ∧ Q (.bl false) H)
theorem intsD_inj : ∀ {a b : List Int}, a.map PyData.int = b.map PyData.int ↔ a = b
  | [], [] => by simp
  | [], _ :: _ => by simp
  | _ :: _, [] => by simp
  | x :: a, y :: b => by
    have := intsD_inj (a := a) (b := b)
    simp [this]
theorem dpI {K : PySem.W.Frag} {H : Hp} : ∀ (ns : List Int), DpAll K H (ns.map V.int) (ns.map PyData.int)
  | [] => .nil
  | n :: ns => .cons (.int n) (dpI ns)
def pD (m : Int) (R S : List Int) : PyData := .tuple [.int m, .tuple (R.map PyData.int), .tuple (S.map PyData.int)]
theorem pD_ok {m : Int} {R S : List Int} : okD (pD m R S) 60 = true := by
  have a : ∀ ns : List Int, okDs (ns.map PyData.int) 58 = true := fun ns => okDs_map fun x _ => by simp [okD]
  simp [pD, okD, okDs, a R, a S]
theorem pD_eq {m m' : Int} {R R' S S' : List Int} : pD m R S = pD m' R' S' ↔ m = m' ∧ R = R' ∧ S = S' := by
  simp [pD, intsD_inj]
theorem ok_Primes_eq0 (T : Txt K mg Ad) : MDef P w K mg base 1 Ad.c_Primes "__eq__" ["self", "other"] (fun vs H Q E => ∃ (p : Addr) (m : Int) (R S : List Int) (y : V), vs = [.ref p, y] ∧ IsP Ad.c_Primes H p m R S ∧ ((∃ q m' R' S', y = .ref q ∧ IsP Ad.c_Primes H q m' R' S' ∧ ∀ H', Same H H' → Q (.bl (decide (m = m' ∧ R = R' ∧ S = S'))) H') ∨ ∃ l xs, y = .ref l ∧ H l = some (.lst xs) ∧ Q (.bl false) H)) := by
  refine T.d_Primes_eq.ok sc_Primes_eq (fun vs H Q E h => ?_) (fun f cdv A outer s H vs Q E hr h => ?_)
  · obtain ⟨p, m, R, S, y, rfl, _⟩ := h
    rfl
  · obtain ⟨p, m, R, S, y, rfl, ⟨dx, tR, tS, hp, hR, hS⟩, h⟩ := h
    rcases h with ⟨q, m', R', S', rfl, ⟨dy, uR, uS, hq, gR, gS⟩, qo⟩ | ⟨l, xs, rfl, hl, qo⟩
    · refine ⟨_, (pss_cons (ps_if (pt_not (pt_val (pe_callB call_isi (by rfl) T.b_isinstance (by decide +kernel) (pa_cons (pv 1) (pa_cons (pe_glob (v := .ref Ad.c_Primes) rfl T.g_Primes rfl) pa_nil))))) (pss_one (ps_ret pe_bl)) pss_nil)
      (pss_one (ps_ret (pe_cmpR (op_eqD hr.units) (pe_tup (pa_cons (pe_fldC (pv 0) T.cl_Primes T.nf_Primes_modulus) (pa_cons (pe_fldC (pv 0) T.cl_Primes T.nf_Primes_rests) (pa_cons (pe_fldC (pv 0) T.cl_Primes T.nf_Primes_singles) pa_nil)))) (pe_tup (pa_cons (pe_fldC (pv 1) T.cl_Primes T.nf_Primes_modulus) (pa_cons (pe_fldC (pv 1) T.cl_Primes T.nf_Primes_rests) (pa_cons (pe_fldC (pv 1) T.cl_Primes T.nf_Primes_singles) pa_nil)))) (nomark _))))), ?_⟩
      try dsimp only [cxOf]
      wtm_at "rs"
      refine ⟨_, _, _, _, true, rfl, .own _, T.ty_Primes _ _ _ _ hq, T.ki_Primes, ?_⟩
      wtm_at "rs"
      rename_i t1 h1 t2 h2
      have sm := (same_new (o := .tup [.int m, .ref tR, .ref tS]) h1).trans (same_new (o := .tup [.int m', .ref uR, .ref uS]) h2)
      refine rd_eqD (d := pD m R S) (e := pD m' R' S') (.tup (SqT.of (upd_keep upd_same h2)) (.cons (.int _) (.cons (.tup (SqT.of (sm _ _ hR)) (dpI _)) (.cons (.tup (SqT.of (sm _ _ hS)) (dpI _)) .nil)))) (.tup (SqT.of upd_same) (.cons (.int _) (.cons (.tup (SqT.of (sm _ _ gR)) (dpI _)) (.cons (.tup (SqT.of (sm _ _ gS)) (dpI _)) .nil)))) (okD_shaped pD_ok) (okD_shaped pD_ok) ?_
      rw [okD_dec pD_ok pD_ok, decide_eq_decide.mpr pD_eq]
      exact qo _ sm
    · refine ⟨_, (pss_cons (ps_if (pt_not (pt_val (pe_callB call_isi (by rfl) T.b_isinstance (by decide +kernel) (pa_cons (pv 1) (pa_cons (pe_glob (v := .ref Ad.c_Primes) rfl T.g_Primes rfl) pa_nil))))) (pss_one (ps_ret pe_bl)) pss_nil)
      (pss_one (ps_ret (pe_cmpR (op_eqD hr.units) (pe_tup (pa_cons (pe_fldC (pv 0) T.cl_Primes T.nf_Primes_modulus) (pa_cons (pe_fldC (pv 0) T.cl_Primes T.nf_Primes_rests) (pa_cons (pe_fldC (pv 0) T.cl_Primes T.nf_Primes_singles) pa_nil)))) (pe_tup (pa_cons (pe_fldC (pv 1) T.cl_Primes T.nf_Primes_modulus) (pa_cons (pe_fldC (pv 1) T.cl_Primes T.nf_Primes_rests) (pa_cons (pe_fldC (pv 1) T.cl_Primes T.nf_Primes_singles) pa_nil)))) (nomark _))))), ?_⟩
      try dsimp only [cxOf]
      wtm_at "rs"
      refine ⟨_, _, _, _, false, rfl, .own _, .base (.lst hl), T.kl_Primes, ?_⟩
      wtm_at "rs"
      exact qo
theorem ok_Primes_eq (T : Txt K mg Ad) : MDef P w K mg base 1 Ad.c_Primes "__eq__" ["self", "other"] (spPEq Ad.c_Primes) :=
  (ok_Primes_eq0 T).forget.imp fun vs H Q E ⟨p, m, R, S, y, e, hp, nt, h⟩ => ⟨nt, p, m, R, S, y, e, hp, h.elim (fun ⟨q, m', R', S', e, hq, q'⟩ => .inl ⟨q, m', R', S', e, hq, fun H' s => ⟨s, q'⟩⟩) fun ⟨l, xs, e, hl, q'⟩ => .inr ⟨l, xs, e, hl, Same.refl _, q'⟩⟩
theorem use_PEq (T : Txt K mg Ad) {p q : Addr} {m m' : Int} {R S R' S' : List Int} {H : Hp} {Q : VK} {E : XK} (hp : IsP Ad.c_Primes H p m R S) (hq : IsP Ad.c_Primes H q m' R' S') (nt : NoT H) (k : Q (.bl (decide (m = m' ∧ R = R' ∧ S = S'))) H) : rEqO K Ad.c_Primes (spPEq Ad.c_Primes) E (.ref p) (.ref q) H Q := by
  obtain ⟨dx, tR, tS, h1, h2, h3⟩ := id hp
  obtain ⟨dy, uR, uS, g1, g2, g3⟩ := id hq
  exact ⟨p, dx, _, _, rfl, h1, T.ty_Primes _ _ _ _ g1, by unfold PySem.W.notFirst; simp, p, m, R, S, _, rfl, hp, nt, .inl ⟨q, m', R', S', rfl, hq, ⟨_, rfl⟩, k⟩⟩
/-! ### _law_cell -/
theorem getD_at {ns : List Int} {i : Nat} (h : i < ns.length) : atI (ns.map V.int) (i : Int) = some (.int (ns.getD i 0)) := by
  refine atI_nat ?_
  rw [List.getElem?_map, List.getElem?_eq_getElem h, List.getD_eq_getElem?_getD, List.getElem?_eq_getElem h]
  rfl
theorem getD_out {ns : List Int} {i : Nat} (h : ¬ i < ns.length) : ns.getD i 0 = 0 := by
  rw [List.getD_eq_getElem?_getD, List.getElem?_eq_none (by omega)]
  rfl
def spCell (K : PySem.W.Frag) : Sp := fun vs H Q _ => ∃ (a : Addr) (ns : List Int) (i : Nat), vs = [.ref a, .int i] ∧ SqL K H a (ns.map V.int) ∧ Q (.int (ns.getD i 0)) H
theorem ok_law_cell (T : Txt K mg Ad) : Def P w K mg base 1 "_law_cell" ["_law_script", "_law_k"] (spCell K) := by
  refine T.d_law_cell.ok sc_law_cell (fun vs H Q E h => ?_) (fun f cdv A outer s H vs Q E hr h => ?_)
  · obtain ⟨a, ns, i, rfl, _⟩ := h
    rfl
  · obtain ⟨a, ns, i, rfl, hS, q⟩ := h
    refine ⟨_, (pss_cons (ps_if (pt_cmpR op_lt (pv 1) (pe_callB c_len (by rfl) T.b_len PySem.boot_len (pa_cons (pv 0) pa_nil)) (nomark _)) (pss_one (ps_ret (pe_ix ix_list (pv 0) (pv 1) (fun _ _ => rfl)))) pss_nil)
      (pss_one (ps_ret pe_int))), ?_⟩
    try dsimp only [cxOf]
    wtm_at "rs"
    wtm_at "i"
    · rename_i h
      rw [List.length_map] at h
      wtm_at "rs"
      exact rd_ixL hS (getD_at (by omega)) q
    · rename_i h
      rw [List.length_map] at h
      rw [getD_out (by omega)] at q
      wtm_at "rs"
      exact q
theorem use_cell {a : Addr} {ns : List Int} {i : Nat} {H : Hp} {Q : VK} {E : XK} {z : Int} (hS : SqL K H a (ns.map V.int)) (hz : z = (i : Int)) (q : Q (.int (ns.getD i 0)) H) : spCell K [.ref a, .int z] H Q E :=
  ⟨a, ns, i, by rw [hz], hS, q⟩
local macro_rules | `(tactic| wtm_at "s") => `(tactic| ((with_reducible refine use_cell (ns := ?ns) (i := ?i) ?h1 ?h2 ?_); (case h1 => wtm_at "q"); (case h2 => first | rfl | exact (Int.zero_add _) | exact (Int.natCast_succ _).symm)))
/-! ### _law_pool -/
def spPool : Sp := fun vs H Q _ => ∃ n : Int, vs = [.int n] ∧ ∀ p, H p = none → Q (.ref p) (upd H p (.lst [.int n, .int 0, .bl (decide (10 ^ 18 ≤ n))]))
theorem ok_law_pool (T : Txt K mg Ad) : Def P w K mg base 1 "_law_pool" ["_law_cell_here"] spPool := by
  refine T.d_law_pool.ok sc_law_pool (fun vs H Q E h => ?_) (fun f cdv A outer s H vs Q E hr h => ?_)
  · obtain ⟨n, rfl, _⟩ := h
    rfl
  · obtain ⟨n, rfl, q⟩ := h
    refine ⟨_, (pss_one (ps_ret (pe_lst (pa_cons (pv 0) (pa_cons pe_int (pa_cons (pe_cmpR op_ge (pv 0) (pe_op (op_powN 18) pe_int pe_int) (nomark _)) pa_nil)))))), ?_⟩
    try dsimp only [cxOf]
    wtm_at "rs"
    exact q _ (by assumption)
theorem use_pool {n : Int} {H : Hp} {Q : VK} {E : XK} (q : ∀ p, H p = none → Q (.ref p) (upd H p (.lst [.int n, .int 0, .bl (decide (10 ^ 18 ≤ n))]))) : spPool [.int n] H Q E := ⟨n, rfl, q⟩
local macro_rules | `(tactic| wtm_at "s") => `(tactic| ((with_reducible refine use_pool ?_); intro p hp))
/-! ### law -/
def nOk (i : Nat) : Bool := isN (txI (i : Int)) && decide (nVal (txI (i : Int)) = (i : Int)) && decide (32 ∉ (txI (i : Int)).cps.toList) && decide ((txI (i : Int)).length ≤ 5)
theorem nAll : (List.range 101).all nOk = true := by decide +kernel
theorem txI_num {n : Int} (h0 : 0 ≤ n) (h1 : n ≤ 100) : isN (txI n) = true ∧ nVal (txI n) = n ∧ 32 ∉ (txI n).cps.toList ∧ (txI n).length ≤ 5 := by
  have h := List.all_eq_true.mp nAll n.toNat (List.mem_range.mpr (by omega))
  unfold nOk at h
  rw [Int.toNat_of_nonneg h0] at h
  simp only [Bool.and_eq_true, decide_eq_true_eq] at h
  exact ⟨h.1.1.1, h.1.1.2, h.1.2, h.2⟩
theorem tw_txI {R : List Int} (h : ∀ x ∈ R, 0 ≤ x ∧ x ≤ 100) {t : List Str} (ht : t.takeWhile isN = []) : (R.map txI ++ t).takeWhile isN = R.map txI := by
  induction R with
  | nil => exact ht
  | cons x R ih =>
    have hx := h x List.mem_cons_self
    rw [List.map_cons, List.cons_append, List.takeWhile_cons, if_pos (txI_num hx.1 hx.2).1, ih fun y hy => h y (List.mem_cons_of_mem _ hy)]
theorem nval_txI {R : List Int} (h : ∀ x ∈ R, 0 ≤ x ∧ x ≤ 100) : (R.map txI).map nVal = R := by
  induction R with
  | nil => rfl
  | cons x R ih =>
    have hx := h x List.mem_cons_self
    rw [List.map_cons, List.map_cons, (txI_num hx.1 hx.2).2.1, ih fun y hy => h y (List.mem_cons_of_mem _ hy)]
theorem ptxL_eq {m : Int} {R S : List Int} : ptxL m R S = ("modulo" : Str) :: txI m :: ("rests" : Str) :: (R.map txI ++ ("singles" : Str) :: S.map txI) := by
  unfold ptxL
  simp
theorem rdP_ptx {m : Int} {R S : List Int} (hm : 0 ≤ m ∧ m ≤ 100) (hR : ∀ x ∈ R, 0 ≤ x ∧ x ≤ 100) (hS : ∀ x ∈ S, 0 ≤ x ∧ x ≤ 100) : rdP (ptxL m R S) = .ok (m, R, S) := by
  rw [ptxL_eq]
  have n3 : numW (("modulo" : Str) :: txI m :: ("rests" : Str) :: (R.map txI ++ ("singles" : Str) :: S.map txI)) 3 = R.map txI := tw_txI hR (by rw [List.takeWhile_cons, if_neg (by rw [kw_no.2.2]; simp)])
  have n5 : numW (("modulo" : Str) :: txI m :: ("rests" : Str) :: (R.map txI ++ ("singles" : Str) :: S.map txI)) (3 + (R.map txI).length + 1) = S.map txI := by
    unfold numW
    have e : (("modulo" : Str) :: txI m :: ("rests" : Str) :: (R.map txI ++ ("singles" : Str) :: S.map txI)).drop (3 + (R.map txI).length + 1) = S.map txI ++ [] := by
      rw [show 3 + (R.map txI).length + 1 = ((R.map txI).length + 1) + 3 by omega]
      show (R.map txI ++ ("singles" : Str) :: S.map txI).drop ((R.map txI).length + 1) = _
      rw [List.drop_append, List.append_nil]
      simp
    rw [e]
    rw [tw_txI hS rfl]
  have n4 : (("modulo" : Str) :: txI m :: ("rests" : Str) :: (R.map txI ++ ("singles" : Str) :: S.map txI))[3 + (R.map txI).length]? = some ("singles" : Str) := by
    rw [show 3 + (R.map txI).length = (R.map txI).length + 3 by omega]
    show (R.map txI ++ ("singles" : Str) :: S.map txI)[(R.map txI).length]? = _
    rw [List.getElem?_append_right (Nat.le_refl _), Nat.sub_self]
    rfl
  obtain ⟨a1, a2, _, _⟩ := txI_num hm.1 hm.2
  unfold rdP
  rw [if_neg (by simp), show (("modulo" : Str) :: txI m :: ("rests" : Str) :: (R.map txI ++ ("singles" : Str) :: S.map txI))[1]? = some (txI m) from rfl]
  simp only [a1]
  rw [if_neg (by simp), if_neg (by simp), n3, n5, if_neg (by rw [n4]; simp), if_neg (by simp; omega), a2, nval_txI hR, nval_txI hS]
theorem wds_ptx {m : Int} {R S : List Int} (hm : 0 ≤ m ∧ m ≤ 100) (hR : ∀ x ∈ R, 0 ≤ x ∧ x ≤ 100) (hS : ∀ x ∈ S, 0 ≤ x ∧ x ≤ 100) (few : R.length + S.length ≤ 500) : Wds (ptxL m R S) := by
  have num : ∀ {x : Int}, 0 ≤ x ∧ x ≤ 100 → 32 ∉ (txI x).cps.toList ∧ (txI x).length ≤ 6000 := fun h => ⟨(txI_num h.1 h.2).2.2.1, by have := (txI_num h.1 h.2).2.2.2; omega⟩
  have all : ∀ w ∈ ptxL m R S, 32 ∉ w.cps.toList ∧ w.length ≤ 6000 := fun w hw => by
    rw [ptxL_eq] at hw
    simp only [List.mem_cons, List.mem_append, List.mem_map] at hw
    rcases hw with rfl | rfl | rfl | ⟨x, hx, rfl⟩ | rfl | ⟨x, hx, rfl⟩
    · exact ⟨by decide +kernel, by decide +kernel⟩
    · exact num hm
    · exact ⟨by decide +kernel, by decide +kernel⟩
    · exact num (hR x hx)
    · exact ⟨by decide +kernel, by decide +kernel⟩
    · exact num (hS x hx)
  exact ⟨by rw [ptxL_eq]; exact List.cons_ne_nil _ _, fun w h => (all w h).1, fun w h => (all w h).2, by rw [ptxL_eq]; simp; omega⟩
theorem least_self {m m2 : Int} {R S R2 S2 : List Int} (h : IsLeast m R S) (k : Made m R S m2 R2 S2) : m2 = m ∧ R2 = R ∧ S2 = S := by
  obtain ⟨a, b, c⟩ := least_unique h.desc.pos (Int.dvd_refl m) k.sub.dvd h k.least (fun x hx => (k.sub.same x hx).symm) fun p hp => (k.mem p (.inl hp)).symm
  exact ⟨a.symm, b.symm, c.symm⟩
theorem use_readok {C CM CW CR CP CB : Addr} {m : Int} {R S : List Int} {ws : List Str} {t : Str} {H : Hp} {Q : VK} {E : XK} (et : t = Txt.join " " ws) (e : rdP ws = .ok (m, R, S)) (W : Wds ws) (nt : NoT H) (m1 : 1 ≤ m) (m2 : m ≤ 4000) (rok : ∀ r ∈ R, RestOk m r) (sok : ∀ p ∈ S, QR.OP p) (q : ∀ x G m2 R2 S2, Same H G → NoT G → IsP C G x m2 R2 S2 → Made m R S m2 R2 S2 → Q (.ref x) G) : spRead C CM CW CR CP CB [.ref C, .str t] H Q E := by
  subst et
  refine ⟨ws, rfl, W, nt, fun k hk => (by rw [e] at hk; cases hk), fun m' R' S' e' => ?_⟩
  rw [e] at e'
  cases e'
  exact ⟨fun z => by omega, fun z => by omega, fun _ _ l r rs e1 _ n => absurd (rok r (by rw [e1]; simp)) n, fun _ _ _ l r rs e1 _ n => absurd (sok r (by rw [e1]; simp)) n, fun _ _ _ _ x G m2 R2 S2 s n ip md => q x G m2 R2 S2 s n ip md⟩
theorem ptx_okk {m : Int} {R S : List Int} : PyData.strOk (ptx m R S) = true := by
  refine strOk_join (strOk_str _) fun y hy => ?_
  unfold ptxL at hy
  simp only [List.mem_append, List.mem_cons, List.not_mem_nil, or_false, List.mem_map] at hy
  rcases hy with (((rfl | rfl | rfl) | ⟨x, _, rfl⟩) | rfl) | ⟨x, _, rfl⟩
  · exact strOk_str _
  · exact strOk_str _
  · exact strOk_str _
  · exact strOk_str _
  · exact strOk_str _
  · exact strOk_str _
theorem tv_int {t : Str} {n : Int} (ht : PyData.strOk t = true) : ∃ d : PyData, SeqAt.shaped d = true ∧ ∀ {K : PySem.W.Frag} {H : Hp} {D : Addr}, H D = some (.lst [.str t, .int n]) → Dp K H (.ref D) d :=
  ⟨.list [.str t, .int n], okD_shaped (by simp [okD, okDs, ht]), fun h => .lst (SqL.of h) (.cons (.str _) (.cons (.int _) .nil))⟩
theorem tv_str {t u : Str} (ht : PyData.strOk t = true) (hu : PyData.strOk u = true) : ∃ d : PyData, SeqAt.shaped d = true ∧ ∀ {K : PySem.W.Frag} {H : Hp} {D : Addr}, H D = some (.lst [.str t, .str u]) → Dp K H (.ref D) d :=
  ⟨.list [.str t, .str u], okD_shaped (by simp [okD, okDs, ht, hu]), fun h => .lst (SqL.of h) (.cons (.str _) (.cons (.str _) .nil))⟩
theorem AnsP.data {ws : List Str} {t : Str} {v : V} (h : AnsP ws t v) : ∃ d : PyData, SeqAt.shaped d = true ∧ ∀ {K : PySem.W.Frag} {H : Hp} {D : Addr}, H D = some (.lst [.str t, v]) → Dp K H (.ref D) d := by
  unfold AnsP at h
  split at h
  · obtain ⟨rfl, rfl⟩ := h
    exact tv_int (strOk_str _)
  · rcases h with ⟨_, rfl, rfl⟩ | ⟨_, rfl, rfl⟩ | ⟨_, _, ⟨_, _, _, _, _, _, rfl, rfl⟩ | ⟨_, ⟨_, _, _, _, _, _, rfl, rfl⟩ | ⟨_, _, _, _, _, rfl, rfl⟩⟩⟩
    · exact tv_int (strOk_str _)
    · exact tv_int (strOk_str _)
    · exact tv_int (strOk_str _)
    · exact tv_int (strOk_str _)
    · exact tv_str (strOk_str _) ptx_okk
def menuA : List Str := ["0", "1", "07", "9", "rests", "singles", "", "modulo", "-1", "1000003", "4", "61"]
def menuB (u : Str) : List Str := ["4001", "100000", "99999", "1_0", "+4", u]
theorem longW {n : Nat} (hn : n ≤ 5000) : 32 ∉ (("1" : Str) ++ repS "0" n).cps.toList ∧ (("1" : Str) ++ repS "0" n).length ≤ 6000 := by
  have e : (("1" : Str) ++ repS "0" n).cps.toList = ("1" : Str).cps.toList ++ (repS "0" n).cps.toList := by
    show (("1" : Str).cps ++ (repS "0" n).cps).toList = _
    simp
  have z : ("0" : Str).cps.toList = [48] := by decide +kernel
  have o : ("1" : Str).cps.toList = [49] := by decide +kernel
  have r := repS_list (z := ("0" : Str)) n
  rw [z] at r
  refine ⟨fun h => ?_, ?_⟩
  · rw [e, o, r] at h
    simp at h
  · have l := repS_len (z := ("0" : Str)) n
    have l1 : ("0" : Str).length = 1 := by decide +kernel
    have l2 : (("1" : Str) ++ repS "0" n).length = (("1" : Str) ++ repS "0" n).cps.toList.length := by simp [Str.length]
    have l3 : (repS "0" n).cps.toList.length = (repS "0" n).length := by simp [Str.length]
    rw [l2, e, List.length_append, l3, l, o, l1]
    simp
    omega
theorem menuW_ok {u : Str} (hu : 32 ∉ u.cps.toList ∧ u.length ≤ 6000) : ∀ w ∈ menuA ++ menuB u, 32 ∉ w.cps.toList ∧ w.length ≤ 6000 := fun w hw => by
  simp only [menuA, menuB, List.mem_append, List.mem_cons, List.not_mem_nil, or_false] at hw
  rcases hw with (h | h | h | h | h | h | h | h | h | h | h | h) | h | h | h | h | h | h <;> subst h
  all_goals first
    | exact hu
    | exact ⟨by decide +kernel, by decide +kernel⟩
theorem ix_inS {l : List Str} {i : Int} (h0 : 0 ≤ i) (h1 : i < l.length) : ∃ z ∈ l, atI (l.map V.str) i = some (.str z) := by
  obtain ⟨n, rfl⟩ : ∃ n : Nat, i = n := ⟨i.toNat, by omega⟩
  have hn : n < l.length := by omega
  refine ⟨l[n], List.getElem_mem hn, atI_nat ?_⟩
  rw [List.getElem?_map, List.getElem?_eq_getElem hn]
  rfl
theorem cutW_lo {ws : List Str} {n : Int} (h : 0 ≤ n) : cutV (ws.map V.str) none (some n) = (ws.take n.toNat).map V.str := by
  unfold cutV
  rw [sIx_nn h, show HT.sIx (ws.map V.str).length 0 none = 0 from rfl, List.drop_zero, Nat.sub_zero, ← List.take_take, List.take_length, List.map_take]
theorem drop_min {α : Type} {l : List α} {n : Nat} : l.drop (min n l.length) = l.drop n := by
  rcases Nat.le_total n l.length with h | h
  · rw [Nat.min_eq_left h]
  · rw [Nat.min_eq_right h, List.drop_length, List.drop_eq_nil_of_le h]
theorem cutW_hi {ws : List Str} {n : Int} (h : 0 ≤ n) : cutV (ws.map V.str) (some n) none = (ws.drop n.toNat).map V.str := by
  unfold cutV
  rw [sIx_nn h, show HT.sIx (ws.map V.str).length (ws.map V.str).length none = (ws.map V.str).length from rfl, List.take_of_length_le (by rw [List.length_drop]; exact Nat.le_refl _), drop_min, List.map_drop]
theorem cutW_mid {ws : List Str} {n : Int} (h : 0 ≤ n) : cutV (ws.map V.str) (some n) (some (n + 1)) = ((ws.drop n.toNat).take 1).map V.str := by
  unfold cutV
  rw [sIx_nn h, sIx_nn (show 0 ≤ n + 1 by omega), drop_min, List.map_take, List.map_drop, List.length_map]
  rcases Nat.lt_or_ge n.toNat ws.length with g | g
  · rw [show min (n + 1).toNat ws.length - min n.toNat ws.length = 1 by omega]
  · rw [List.drop_eq_nil_of_le (by rw [List.length_map]; exact g), List.take_nil, List.take_nil]
theorem wds_of {l ws : List Str} {wd : Str} (W : Wds ws) (hw : 32 ∉ wd.cps.toList ∧ wd.length ≤ 6000) (h : ∀ w ∈ l, w ∈ ws ∨ w = wd) (ne : 0 < l.length) (few : l.length ≤ 1000) : Wds l :=
  ⟨List.ne_nil_of_length_pos ne, fun w hl => (h w hl).elim (W.sp w) fun e => e ▸ hw.1, fun w hl => (h w hl).elim (W.wl w) fun e => e ▸ hw.2, few⟩
theorem way_mem {ws : List Str} {wd : Str} {a b : Nat} {w : Str} (h : w ∈ ws.take a ++ [wd] ++ ws.drop b) : w ∈ ws ∨ w = wd := by
  rw [List.mem_append, List.mem_append] at h
  rcases h with (h | h) | h
  · exact .inl (List.mem_of_mem_take h)
  · exact .inr (List.mem_singleton.mp h)
  · exact .inl (List.mem_of_mem_drop h)
theorem way_mem1 {ws : List Str} {wd : Str} {a b : Nat} {w : Str} (h : w ∈ ws.take a ++ (ws.drop a).take 1 ++ ws.drop b) : w ∈ ws ∨ w = wd := by
  rw [List.mem_append, List.mem_append] at h
  rcases h with (h | h) | h
  · exact .inl (List.mem_of_mem_take h)
  · exact .inl (List.mem_of_mem_drop (List.mem_of_mem_take h))
  · exact .inl (List.mem_of_mem_drop h)
theorem made_rev {m m' m2 : Int} {R S R' S' R2 S2 : List Int} (h : Made m R S m' R' S') (k : Made m R.reverse S.reverse m2 R2 S2) (m1 : 1 ≤ m) : m2 = m' ∧ R2 = R' ∧ S2 = S' := by
  have e1 : SameL R.reverse R := fun _ => List.mem_reverse
  have e2 : SameL S.reverse S := fun _ => List.mem_reverse
  obtain ⟨a, b, c⟩ := least_unique m1 h.sub.dvd k.sub.dvd h.least k.least (fun x hx => by rw [h.sub.same x hx, k.sub.same x hx, e1]) fun p hp => by
    rw [h.mem p (.inl hp), k.mem p (.inl hp), memP_congr e1 e2]
  exact ⟨a.symm, b.symm, c.symm⟩
theorem ok_law {f : Addr} {fd : FuncData} (F : Fun K "law" "law" s_law f fd) (T : Txt K mg Ad) : FnOk P w K mg base (L2.CX P w) 9 f fd ["_law_script"] (spLaw K) := by
  refine F.okX sc_law (fun vs H Q E h => ?_) (fun cdv A outer s H vs Q E hr h => ?_)
  · obtain ⟨a, ns, rfl, _⟩ := h
    rfl
  · obtain ⟨a, ns, rfl, hS, hlen, nt, kq⟩ := h
    refine ⟨_, (pss_cons (ps_set (i := 1) sc_law.nd rfl (Or.inl rfl) (pe_d (ok_law_pool T) (hr.mono (by decide)) (passes_call (takes_of rfl rfl rfl rfl) (fun _ _ _ _ h => h)) (pa_cons (pe_d (ok_law_cell T) (hr.mono (by decide)) (passes_call (takes_of rfl rfl rfl rfl) (fun _ _ _ _ h => h)) (pa_cons (pv 0) (pa_cons pe_int pa_nil))) pa_nil)))
      (pss_cons (ps_set (i := 2) sc_law.nd rfl (Or.inl rfl) (pe_d (ok_law_described T) (hr.mono (by decide)) (passes_call (takes_of rfl rfl rfl rfl) (fun _ _ _ _ h => h)) (pa_cons (pv 1) (pa_cons pe_int pa_nil))))
      (pss_cons (ps_set (i := 3) sc_law.nd rfl (Or.inl rfl) (pe_mkd (ok_Primes_init T) (hr.mono (by decide)) (passes_call (takes_of rfl rfl rfl rfl) (fun _ _ _ _ h => h)) (pa_cons (pe_ix ix_list (pv 2) pe_int (fun _ _ => rfl)) (pa_cons (pe_ix ix_list (pv 2) pe_int (fun _ _ => rfl)) (pa_cons (pe_ix ix_list (pv 2) pe_int (fun _ _ => rfl)) pa_nil)))))
      (pss_cons (ps_set (i := 4) sc_law.nd rfl (Or.inl rfl) (pe_lst (pa_cons (pe_fldC (pv 3) T.cl_Primes T.nf_Primes_modulus) (pa_cons (pe_callTy c_listOf (by rfl) T.b_list (by decide +kernel) (pa_cons (pe_fldC (pv 3) T.cl_Primes T.nf_Primes_rests) pa_nil)) (pa_cons (pe_callTy c_listOf (by rfl) T.b_list (by decide +kernel) (pa_cons (pe_fldC (pv 3) T.cl_Primes T.nf_Primes_singles) pa_nil)) pa_nil)))))
      (pss_cons (ps_if (PW.pt (pw_or (pt_cmpR op_ne (pe_callTy (call_strO (ok_Primes_str T) (hr.mono (by decide)) (passes_call (takes_of rfl rfl rfl rfl) (fun _ _ _ _ h => h))) (by rfl) T.b_str (by decide +kernel) (pa_cons (pv 3) pa_nil)) (pe_d (ok_law_text T) (hr.mono (by decide)) (passes_call (takes_of rfl rfl rfl rfl) (fun _ _ _ _ h => h)) (pa_cons (pv 4) pa_nil)) (nomark _)) (pw_or1 (pt_not (pt_cmpR (op_eqO (ok_Primes_eq T) (hr.mono (by decide)) (Nat.lt_of_succ_lt (hu_of hr)) (passes_call (takes_of rfl rfl rfl rfl) (fun _ _ _ _ h => h))) (pe_cm (ok_Primes_read T) (pe_glob (v := .ref Ad.c_Primes) rfl T.g_Primes rfl) (hr.mono (by decide)) (passes_call (takes_of rfl rfl rfl rfl) (fun _ _ _ _ h => h)) (pa_cons (pe_callTy (call_strO (ok_Primes_str T) (hr.mono (by decide)) (passes_call (takes_of rfl rfl rfl rfl) (fun _ _ _ _ h => h))) (by rfl) T.b_str (by decide +kernel) (pa_cons (pv 3) pa_nil)) pa_nil)) (pv 3) (nomark _)))))) (pss_one (ps_ret pe_bl)) pss_nil)
      (pss_cons (ps_set (i := 5) sc_law.nd rfl (Or.inl rfl) (pe_split (pe_d (ok_law_text T) (hr.mono (by decide)) (passes_call (takes_of rfl rfl rfl rfl) (fun _ _ _ _ h => h)) (pa_cons (pe_lst (pa_cons (pe_ix ix_list (pv 2) pe_int (fun _ _ => rfl)) (pa_cons (pe_revL (pe_ix ix_list (pv 2) pe_int (fun _ _ => rfl))) (pa_cons (pe_revL (pe_ix ix_list (pv 2) pe_int (fun _ _ => rfl))) pa_nil)))) pa_nil)) pe_str))
      (pss_cons (ps_if (pt_not (pt_cmpR (op_eqO (ok_Primes_eq T) (hr.mono (by decide)) (Nat.lt_of_succ_lt (hu_of hr)) (passes_call (takes_of rfl rfl rfl rfl) (fun _ _ _ _ h => h))) (pe_cm (ok_Primes_read T) (pe_glob (v := .ref Ad.c_Primes) rfl T.g_Primes rfl) (hr.mono (by decide)) (passes_call (takes_of rfl rfl rfl rfl) (fun _ _ _ _ h => h)) (pa_cons (pe_join pe_str (pv 5)) pa_nil)) (pv 3) (nomark _))) (pss_one (ps_ret pe_bl)) pss_nil)
      (pss_cons (ps_if (pt_cmpR (op_neD hr.units) (pe_d (ok_law_told T) (hr.mono (by decide)) (passes_call (takes_of rfl rfl rfl rfl) (fun _ _ _ _ h => h)) (pa_cons (pe_lst (pa_cons pe_str pa_nil)) pa_nil)) (pe_lst (pa_cons pe_str (pa_cons pe_int pa_nil))) (nomark _)) (pss_one (ps_ret pe_bl)) pss_nil)
      (pss_cons (ps_set (i := 1) sc_law.nd rfl (Or.inl rfl) (pe_d (ok_law_pool T) (hr.mono (by decide)) (passes_call (takes_of rfl rfl rfl rfl) (fun _ _ _ _ h => h)) (pa_cons (pe_d (ok_law_cell T) (hr.mono (by decide)) (passes_call (takes_of rfl rfl rfl rfl) (fun _ _ _ _ h => h)) (pa_cons (pv 0) (pa_cons pe_int pa_nil))) pa_nil)))
      (pss_cons (ps_for (passes_of rfl) rfl (pi_range1 (by rfl) T.b_range (pa_cons (pe_op op_add pe_int (pe_d (ok_law_take T) (hr.mono (by decide)) (passes_call (takes_of rfl rfl rfl rfl) (fun _ _ _ _ h => h)) (pa_cons (pv 1) (pa_cons pe_int pa_nil)))) pa_nil)) (pg_name (i := 6) sc_law.nd rfl (Or.inl rfl)) (pss_cons (ps_set (i := 7) sc_law.nd rfl (Or.inl rfl) (pe_d (ok_law_take T) (hr.mono (by decide)) (passes_call (takes_of rfl rfl rfl rfl) (fun _ _ _ _ h => h)) (pa_cons (pv 1) (pa_cons (pe_op op_add (pe_callB c_len (by rfl) T.b_len PySem.boot_len (pa_cons (pv 5) pa_nil)) pe_int) pa_nil))))
      (pss_cons (ps_set (i := 8) sc_law.nd rfl (Or.inl rfl) (pe_lst (pa_cons pe_str (pa_cons pe_str (pa_cons pe_str (pa_cons pe_str (pa_cons pe_str (pa_cons pe_str (pa_cons pe_str (pa_cons pe_str (pa_cons pe_str (pa_cons pe_str (pa_cons pe_str (pa_cons pe_str pa_nil))))))))))))))
      (pss_cons (ps_set (i := 8) sc_law.nd rfl (Or.inl rfl) (pe_op op_cat (pv 8) (pe_lst (pa_cons pe_str (pa_cons pe_str (pa_cons pe_str (pa_cons pe_str (pa_cons pe_str (pa_cons (pe_op op_addS pe_str (pe_op op_repS pe_str pe_int)) pa_nil)))))))))
      (pss_cons (ps_set (i := 9) sc_law.nd rfl (Or.inl rfl) (pe_ix ix_list (pv 8) (pe_d (ok_law_take T) (hr.mono (by decide)) (passes_call (takes_of rfl rfl rfl rfl) (fun _ _ _ _ h => h)) (pa_cons (pv 1) (pa_cons pe_int pa_nil))) (fun _ _ => rfl)))
      (pss_cons (ps_set (i := 10) sc_law.nd rfl (Or.inl rfl) (pe_d (ok_law_take T) (hr.mono (by decide)) (passes_call (takes_of rfl rfl rfl rfl) (fun _ _ _ _ h => h)) (pa_cons (pv 1) (pa_cons pe_int pa_nil))))
      (C8.pss_cut (ps_if (PW.pt (pw_and (pt_cmpR op_eq (pv 10) pe_int (nomark _)) (pw_and1 (pt_cmpR op_gt (pe_callB c_len (by rfl) T.b_len PySem.boot_len (pa_cons (pv 5) pa_nil)) pe_int (nomark _))))) (pss_one (ps_set (i := 5) sc_law.nd rfl (Or.inl rfl) (pe_op op_cat (pe_slice sl_list (pv 5) po_none (po_some (pv 7))) (pe_slice sl_list (pv 5) (po_some (pe_op op_add (pv 7) pe_int)) po_none)))) (pss_one (ps_if (pt_cmpR op_eq (pv 10) pe_int (nomark _)) (pss_one (ps_set (i := 5) sc_law.nd rfl (Or.inl rfl) (pe_op op_cat (pe_op op_cat (pe_slice sl_list (pv 5) po_none (po_some (pv 7))) (pe_slice sl_list (pv 5) (po_some (pv 7)) (po_some (pe_op op_add (pv 7) pe_int)))) (pe_slice sl_list (pv 5) (po_some (pv 7)) po_none)))) (pss_one (ps_if (pt_cmpR op_eq (pv 10) pe_int (nomark _)) (pss_one (ps_set (i := 5) sc_law.nd rfl (Or.inl rfl) (pe_op op_cat (pe_op op_cat (pe_slice sl_list (pv 5) po_none (po_some (pv 7))) (pe_lst (pa_cons (pv 9) pa_nil))) (pe_slice sl_list (pv 5) (po_some (pv 7)) po_none)))) (pss_one (ps_set (i := 5) sc_law.nd rfl (Or.inl rfl) (pe_op op_cat (pe_op op_cat (pe_slice sl_list (pv 5) po_none (po_some (pv 7))) (pe_lst (pa_cons (pv 9) pa_nil))) (pe_slice sl_list (pv 5) (po_some (pe_op op_add (pv 7) pe_int)) po_none)))))))))
      (pss_one (ps_if (PW.pt (pw_or (pt_cmpR (op_neD hr.units) (pe_d (ok_law_told T) (hr.mono (by decide)) (passes_call (takes_of rfl rfl rfl rfl) (fun _ _ _ _ h => h)) (pa_cons (pv 5) pa_nil)) (pe_d (ok_law_due T) (hr.mono (by decide)) (passes_call (takes_of rfl rfl rfl rfl) (fun _ _ _ _ h => h)) (pa_cons (pv 5) pa_nil)) (nomark _)) (pw_or1 (pt_cmpR (op_neD hr.units) (pe_d (ok_law_told T) (hr.mono (by decide)) (passes_call (takes_of rfl rfl rfl rfl) (fun _ _ _ _ h => h)) (pa_cons (pv 5) pa_nil)) (pe_d (ok_law_due T) (hr.mono (by decide)) (passes_call (takes_of rfl rfl rfl rfl) (fun _ _ _ _ h => h)) (pa_cons (pv 5) pa_nil)) (nomark _))))) (pss_one (ps_ret pe_bl)) pss_nil)))))))))
      (pss_one (ps_ret pe_bl)))))))))))), ?_⟩
    try dsimp only [cxOf]
    wtm_at "rs"
    rename_i p hp
    refine ⟨p, 0, 60, rfl, PoolAt.new, by decide, by decide, by decide, NoT.upd nt rfl, fun x a1 b1 H1 m R S row mw pool bu n1 hx ha1 hb1 Hx Ha Hb => ?_⟩
    have sm1 : Same H H1 := (But.refl.put.trans bu).old (Same.refl _) hp
    clear bu hx ha1 hb1 pool
    have m60 : m ≤ 60 := by omega
    have hS' := sm1.seq hS
    have m1 := row.pos
    have lS := row.lenS
    have sing : ∀ z ∈ S, QR.OP z ∧ z ≤ 29 := fun z hz => by
      have h := row.singles z hz
      refine ⟨(bigS_op z ?_).1, ?_⟩
      · simp only [bigS, List.mem_cons, List.not_mem_nil, or_false] at h ⊢
        omega
      · simp only [List.mem_cons, List.not_mem_nil, or_false] at h
        omega
    have rok : ∀ r ∈ R, RestOk m r := fun r hr => mem_uL.mp (row.rests r hr)
    have lR := row.lenR
    have sB : ∀ z ∈ S, z < 2 ^ 120 := fun z hz => Int.lt_of_le_of_lt (sing z hz).2 (by decide)
    wtm_at "rs"
    refine mk_P n1 (.inl (SqL.of Ha)) (.inl (SqL.of Hb)) (by omega) (by omega) sB m1 (by omega) rok (fun z hz => (sing z hz).1) fun y G2 m' R' S' s2 n2 f2 ip md => ?_
    have Hx := s2 _ _ Hx
    have Ha := s2 _ _ Ha
    have Hb := s2 _ _ Hb
    have hS' := s2.seq hS'
    have ok' := set_ok md m1 (by omega) (by omega) sB
    have p1 := md.least.desc.pos
    have pm := Int.le_of_dvd (by omega) md.sub.dvd
    have bm' : 0 ≤ m' ∧ m' ≤ 100 := ⟨by omega, by omega⟩
    have bR' : ∀ z ∈ R', 0 ≤ z ∧ z ≤ 100 := fun z hz => by
      have := md.least.desc.rests z hz
      omega
    have bS' : ∀ z ∈ S', 0 ≤ z ∧ z ≤ 100 := fun z hz => by
      have t := (md.least.desc.singles z hz).three
      rcases md.src z hz with h | h
      · have := (sing z h).2
        omega
      · have := Int.le_of_dvd (by omega) h
        omega
    have lR' : R'.length ≤ 61 := nodup_le (M := 61) (md.least.ri.imp fun h => by omega) fun z hz => by
      have := md.least.desc.rests z hz
      omega
    have lS' := md.few
    have B := (Hv.start n2).rig ip.rig
    obtain ⟨dx, tR, tS, i1, i2, i3⟩ := id ip
    wtm_at "rs"
    refine rd_listOfT (SqT.of i2) fun D1 hD1 => ?_
    have B := B.newL (o := .lst (R'.map V.int)) hD1
    have i1 := same_new (o := .lst (R'.map V.int)) hD1 _ _ i1
    have i3 := same_new (o := .lst (R'.map V.int)) hD1 _ _ i3
    wtm_at "rs"
    refine rd_listOfT (SqT.of i3) fun D2 hD2 => ?_
    have B := B.newL (o := .lst (S'.map V.int)) hD2
    wtm_at "rs"
    rename_i D3 hD3
    have B := B.newL (o := .lst [.int m', .ref D1, .ref D2]) hD3
    clear i1 i2 i3 hD1 hD2 hD3
    refine B.gen fun G B => ?_
    wtm_at "rs"
    refine use_PStr45 B.nt (B.zAt (P := fun G => IsP Ad.c_Primes G y m' R' S') (by wtm_at "mem")) ok' ?_
    wtm_at "rs"
    have b100 : ∀ {z : Int}, 0 ≤ z ∧ z ≤ 100 → Bd 1000 z := fun h => (Bd.of (n := 12) (by omega) (by omega)).mono (by decide)
    refine use_LTx (B.lAt (a := D3) (o := .lst [.int m', .ref D1, .ref D2]) (by wtm_at "mem")) (B.lAt (a := D1) (by wtm_at "mem")) (B.lAt (a := D2) (by wtm_at "mem")) (b100 bm') (fun z h => b100 (bR' z h)) (fun z h => b100 (bS' z h)) (by omega) (by omega) B.nt fun G3 s3 n3 => ?_
    replace B := B.next s3 n3
    clear s3 n3
    refine B.gen fun G B => ?_
    wtm_at "rs"
    refine use_PStr45 B.nt (B.zAt (P := fun G => IsP Ad.c_Primes G y m' R' S') (by wtm_at "mem")) ok' ?_
    wtm_at "rs"
    refine use_readok (ws := ptxL m' R' S') rfl (rdP_ptx bm' bR' bS') (wds_ptx bm' bR' bS' (by omega)) B.nt p1 (by omega) (fun r hr => md.least.desc.rests r hr) md.least.desc.singles fun y2 G3 m2 R2 S2 s3 n3 ip2 md2 => ?_
    obtain ⟨rfl, rfl, rfl⟩ := least_self md.least md2
    wtm_at "rs"
    refine use_PEq T ip2 ((B.next s3 n3).zAt (P := fun G => IsP Ad.c_Primes G y m2 R2 S2) (by wtm_at "mem")) n3 ?_
    rw [decide_eq_true ⟨rfl, rfl, rfl⟩]
    replace B := (B.next s3 n3).sub (L' := []) (Z' := [fun G => IsP Ad.c_Primes G y m2 R2 S2]) (by wtm_at "vsub") (by wtm_at "vsub")
    clear s3 n3 ip2 md2
    refine B.gen fun G B => ?_
    have Hx3 := B.oAt Hx
    have Ha3 := B.oAt Ha
    have Hb3 := B.oAt Hb
    wtm_at "rs"
    rename_i q1 hq1 q2 hq2 q3 hq3
    have B := ((B.newL (o := .lst (R.map V.int).reverse) hq1).newL (o := .lst (S.map V.int).reverse) hq2).newL (o := .lst [.int m, .ref q1, .ref q2]) hq3
    clear hq1 hq2 hq3 Hx3 Ha3 Hb3
    rw [← List.map_reverse, ← List.map_reverse] at B ⊢
    refine B.gen fun G B => ?_
    have bm : 0 ≤ m ∧ m ≤ 100 := ⟨by omega, by omega⟩
    have lR60 : R.length ≤ 61 := by have := row.lenM; omega
    have rokv : ∀ r ∈ R.reverse, RestOk m r := fun r hr => rok r (List.mem_reverse.mp hr)
    have sokv : ∀ z ∈ S.reverse, QR.OP z := fun z hz => (sing z (List.mem_reverse.mp hz)).1
    have bR : ∀ z ∈ R.reverse, 0 ≤ z ∧ z ≤ 100 := fun z hz => by
      obtain ⟨h1, h2, _⟩ := rokv z hz
      omega
    have bS : ∀ z ∈ S.reverse, 0 ≤ z ∧ z ≤ 100 := fun z hz => by
      have h1 := (sokv z hz).three
      have h2 := (sing z (List.mem_reverse.mp hz)).2
      omega
    have lRv : R.reverse.length + S.reverse.length ≤ 100 := by
      rw [List.length_reverse, List.length_reverse]
      omega
    refine use_LTx (B.lAt (a := q3) (o := .lst [.int m, .ref q1, .ref q2]) (by wtm_at "mem")) (B.lAt (a := q1) (by wtm_at "mem")) (B.lAt (a := q2) (by wtm_at "mem")) (b100 bm) (fun z h => b100 (bR z h)) (fun z h => b100 (bS z h)) (by omega) (by omega) B.nt fun G3 s3 n3 => ?_
    replace B := B.next s3 n3
    have W0 := wds_ptx bm bR bS (by omega)
    have hrd := rdP_ptx bm bR bS
    have lw0 : (ptxL m R.reverse S.reverse).length ≤ 104 := by
      rw [ptxL_eq]
      simp only [List.length_cons, List.length_append, List.length_map]
      omega
    have jl0 := W0.jl
    refine ⟨⟨_, rfl⟩, ?_⟩
    wtm_at "rs"
    refine ⟨_, _, rfl, rfl, by decide +kernel, jl0, ?_⟩
    rw [show ptx m R.reverse S.reverse = Txt.join " " (ptxL m R.reverse S.reverse) from rfl, split_join W0.ne W0.sp]
    generalize ptxL m R.reverse S.reverse = ws at *
    intro Wd hWd
    have B := (B.newL (o := .lst (ws.map V.str)) hWd).sub (L' := [(Wd, .lst (ws.map V.str))]) (Z' := [fun G => IsP Ad.c_Primes G y m2 R2 S2]) (by wtm_at "vsub") (by wtm_at "vsub")
    clear hWd s3 n3
    refine B.gen fun G B => ?_
    wtm_at "rs"
    refine ⟨⟨_, rfl⟩, ?_⟩
    wtm_at "rs"
    refine ⟨_, Wd, ws, rfl, rfl, .inl (SqL.of (B.lAt (a := Wd) (by wtm_at "mem"))), W0.sum, ?_⟩
    wtm_at "rs"
    refine use_readok rfl hrd W0 B.nt m1 (by omega) rokv sokv fun y3 G3 m3 R3 S3 s3 n3 ip3 md3 => ?_
    obtain ⟨rfl, rfl, rfl⟩ := made_rev md md3 m1
    wtm_at "rs"
    refine use_PEq T ip3 ((B.next s3 n3).zAt (P := fun G => IsP Ad.c_Primes G y m3 R3 S3) (by wtm_at "mem")) n3 ?_
    rw [decide_eq_true ⟨rfl, rfl, rfl⟩]
    replace B := (B.next s3 n3).sub (L' := [(Wd, .lst (ws.map V.str))]) (Z' := []) (by wtm_at "vsub") (by wtm_at "vsub")
    clear s3 n3 ip3 md3
    refine B.gen fun G B => ?_
    wtm_at "rs"
    rename_i e0 he0
    have B := B.newL (o := .lst ([("" : Str)].map V.str)) he0
    clear he0
    have W1 : Wds [("" : Str)] := ⟨by simp, fun w h => by rw [List.mem_singleton.mp h]; decide +kernel, fun w h => by rw [List.mem_singleton.mp h]; decide +kernel, by decide⟩
    refine use_LTold (ws := [("" : Str)]) (B.lAt (a := e0) (by wtm_at "mem")) (by decide) W1 B.nt fun D4 G3 s3 n3 oA => ?_
    obtain ⟨t0, v0, an, h0⟩ := oA
    obtain ⟨rfl, rfl⟩ := an.uniq (AnsP.err (ws := [("" : Str)]) (k := 0) (by unfold rdP; rw [if_pos (by decide +kernel)]))
    replace B := (B.next s3 n3).sub (L' := [(Wd, .lst (ws.map V.str))]) (Z' := []) (by wtm_at "vsub") (by wtm_at "vsub")
    clear s3 n3
    obtain ⟨dd, sh, dp⟩ := an.data
    wtm_at "rs"
    rename_i e1 he1
    refine rd_neSame (dp (same_new he1 _ _ h0)) (dp upd_same) sh ?_
    have B := B.next (same_new (o := .lst [.str "at", .int 0]) he1) (NoT.upd B.nt rfl)
    clear he1 h0
    refine B.gen fun G B => ?_
    have hS3 := B.same.seq hS'
    wtm_at "rs"
    rename_i pp hpp c0 r0 r00 r01
    generalize ns.getD 1 0 = z1 at *
    have B := (B.new (o := .lst [.int z1, .int 0, .bl (decide (10 ^ 18 ≤ z1))]) hpp).put (u := .lst [.int c0, .int (0 + 1), .bl (decide (10 ^ 18 ≤ z1))])
    generalize decide (10 ^ 18 ≤ z1) = bb at *
    clear hpp hS3
    refine B.gen fun G B => ?_
    refine rd_forR (fun i σ G => ∃ (Wd : Addr) (ws : List Str) (c k : Int) (v6 v7 v8 v9 v10 : Option V), σ = [some (.ref a), some (.ref pp), some (.ref x), some (.ref y), some (.ref D3), some (.ref Wd), v6, v7, v8, v9, v10] ∧ Wds ws ∧ ws.length ≤ 104 + i ∧ 0 ≤ k ∧ k ≤ 1 + 3 * i ∧ Hv noX G2 [(pp, .lst [.int c, .int k, .bl bb])] [(Wd, .lst (ws.map V.str))] [] G) ⟨_, ws, _, _, _, _, _, _, _, rfl, W0, by omega, by omega, by omega, B⟩ ?_ ?_
    · clear B W0 hrd lw0 jl0
      rintro i σ G hi ⟨Wd, ws, c, k, v6, v7, v8, v9, v10, rfl, W, lw, k0, k1, B⟩
      have hi3 : i < 3 := by omega
      have lm : (ws.map V.str).length = ws.length := List.length_map ..
      wtm_at "rs"
      rename_i c1 at0 at00 at01 m0 hm0
      have B := (B.put (u := .lst [.int c1, .int (k + 1), .bl bb])).newL (o := .lst (menuA.map V.str)) hm0
      clear hm0
      refine rd_repS (by decide) (by decide) (by decide +kernel) ?_
      have lz := longW (n := Int.toNat 5000) (by omega)
      have lz1 : (repS "0" (Int.toNat 5000)).length ≤ 6000 := by
        rw [repS_len, show ("0" : Str).length = 1 by decide +kernel]
        omega
      generalize repS "0" (Int.toNat 5000) = zz at *
      wtm_at "rs"
      refine rd_addS (Nat.le_trans (show _ ≤ 6001 by rw [show ("1" : Str).length = 1 by decide +kernel]; omega) (by decide)) ?_
      generalize ("1" : Str) ++ zz = u at *
      wtm_at "rs"
      rename_i m1' hm1 m2' hm2
      have B := B.newL (o := .lst ((menuB u).map V.str)) hm1
      have B := B.newL (o := .lst ((menuA ++ menuB u).map V.str)) hm2
      clear hm1 hm2
      refine B.gen fun G B => ?_
      wtm_at "rs"
      rename_i c2 r2 r20 r21
      have B := B.put (u := .lst [.int c2, .int (k + 1 + 1), .bl bb])
      refine B.gen fun G B => ?_
      have lmn : ((menuA ++ menuB u).length : Int) = 18 := by simp [menuA, menuB]
      obtain ⟨wd, wdm, wda⟩ := ix_inS (l := menuA ++ menuB u) r20 (by omega)
      have wd6 := menuW_ok lz wd wdm
      refine rd_ixL (SqL.of (B.lAt (a := m2') (by wtm_at "mem"))) wda ?_
      clear wda wdm lmn
      have B := B.sub (L' := [(Wd, .lst (ws.map V.str))]) (Z' := []) (by wtm_at "vsub") (by wtm_at "vsub")
      wtm_at "rs"
      rename_i c3 r3 r30 r31
      have B := B.put (u := .lst [.int c3, .int (k + 1 + 1 + 1), .bl bb])
      refine B.gen fun G B => ?_
      refine rd_cut (fun σ G => ∃ (Wd : Addr) (ws2 : List Str) (v6 v7 v8 v9 v10 : Option V), σ = [some (.ref a), some (.ref pp), some (.ref x), some (.ref y), some (.ref D3), some (.ref Wd), v6, v7, v8, v9, v10] ∧ Wds ws2 ∧ ws2.length ≤ 104 + (i + 1) ∧ Hv noX G2 [(pp, .lst [.int c3, .int (k + 1 + 1 + 1), .bl bb])] [(Wd, .lst (ws2.map V.str))] [] G) ?_ ?_
      · have wne : 0 < ws.length := List.length_pos_iff.mpr W.ne
        wtm_at "rs"
        by_cases e0 : r3 = 0
        · rw [if_pos (decide_eq_true e0)]
          wtm_at "rs"
          by_cases e1 : (1 : Int) < ((ws.map V.str).length : Int)
          · rw [if_pos (decide_eq_true e1)]
            wtm_at "rs"
            rename_i q1 hq1 q2 hq2
            have B := (B.newL (o := .lst (cutV (ws.map V.str) none (some at0))) hq1).newL (o := .lst (cutV (ws.map V.str) (some (at0 + 1)) none)) hq2
            rw [cutW_lo at00, cutW_hi (by omega)] at B ⊢
            clear hq1 hq2
            refine B.gen fun G B => ?_
            refine rd_cat (B.lAt (a := q1) (by wtm_at "mem")) (B.lAt (a := q2) (by wtm_at "mem")) (Nat.le_trans (show _ ≤ 300 by rw [List.length_map, List.length_map, List.length_take, List.length_drop]; omega) (by decide)) fun q3 hq3 => ?_
            rw [← List.map_append]
            have B := (B.newL (o := .lst ((ws.take at0.toNat ++ ws.drop (at0 + 1).toNat).map V.str)) hq3).sub (L' := [(q3, .lst ((ws.take at0.toNat ++ ws.drop (at0 + 1).toNat).map V.str))]) (Z' := []) (by wtm_at "vsub") (by wtm_at "vsub")
            wtm_at "rs"
            refine ⟨q3, _, _, _, _, _, _, rfl, wds_of W wd6 (fun w h => .inl ((List.mem_append.mp h).elim List.mem_of_mem_take List.mem_of_mem_drop)) ?_ ?_, ?_, B⟩
            all_goals
              rw [List.length_append, List.length_take, List.length_drop]
              omega
          · rw [if_neg (by rw [decide_eq_true_iff]; exact e1)]
            subst e0
            wtm_at "rs"
            rw [if_neg (by decide)]
            wtm_at "rs"
            rw [if_neg (by decide)]
            wtm_at "rs"
            rename_i q1 hq1 q2 hq2
            have B := (B.newL (o := .lst (cutV (ws.map V.str) none (some at0))) hq1).newL (o := .lst ([wd].map V.str)) hq2
            rw [cutW_lo at00] at B ⊢
            clear hq1 hq2
            refine B.gen fun G B => ?_
            refine rd_cat (B.lAt (a := q1) (by wtm_at "mem")) (B.lAt (a := q2) (by wtm_at "mem")) (Nat.le_trans (show _ ≤ 300 by simp only [List.length_map, List.length_append, List.length_take, List.length_drop, List.length_cons, List.length_nil]; omega) (by decide)) fun q3 hq3 => ?_
            rw [← List.map_append]
            have B := (B.newL (o := .lst ((ws.take at0.toNat ++ [wd]).map V.str)) hq3).sub (L' := [(Wd, .lst (ws.map V.str)), (q3, .lst ((ws.take at0.toNat ++ [wd]).map V.str))]) (Z' := []) (by wtm_at "vsub") (by wtm_at "vsub")
            clear hq3
            refine B.gen fun G B => ?_
            wtm_at "rs"
            rename_i q4 hq4
            have B := B.newL (o := .lst (cutV (ws.map V.str) (some (at0 + 1)) none)) hq4
            rw [cutW_hi (by omega)] at B ⊢
            clear hq4
            refine B.gen fun G B => ?_
            refine rd_cat (B.lAt (a := q3) (by wtm_at "mem")) (B.lAt (a := q4) (by wtm_at "mem")) (Nat.le_trans (show _ ≤ 300 by simp only [List.length_map, List.length_append, List.length_take, List.length_drop, List.length_cons, List.length_nil]; omega) (by decide)) fun q5 hq5 => ?_
            rw [← List.map_append]
            have B := (B.newL (o := .lst ((ws.take at0.toNat ++ [wd] ++ ws.drop (at0 + 1).toNat).map V.str)) hq5).sub (L' := [(q5, .lst ((ws.take at0.toNat ++ [wd] ++ ws.drop (at0 + 1).toNat).map V.str))]) (Z' := []) (by wtm_at "vsub") (by wtm_at "vsub")
            wtm_at "rs"
            refine ⟨q5, _, _, _, _, _, _, rfl, wds_of W wd6 (fun w h => way_mem h) ?_ ?_, ?_, B⟩
            all_goals
              simp only [List.length_append, List.length_take, List.length_drop, List.length_cons, List.length_nil]
              omega
        · rw [if_neg (by rw [decide_eq_true_iff]; exact e0)]
          wtm_at "rs"
          by_cases e1 : r3 = 1
          · rw [if_pos (decide_eq_true e1)]
            wtm_at "rs"
            rename_i q1 hq1 q2 hq2
            have B := (B.newL (o := .lst (cutV (ws.map V.str) none (some at0))) hq1).newL (o := .lst (cutV (ws.map V.str) (some at0) (some (at0 + 1)))) hq2
            rw [cutW_lo at00, cutW_mid at00] at B ⊢
            clear hq1 hq2
            refine B.gen fun G B => ?_
            refine rd_cat (B.lAt (a := q1) (by wtm_at "mem")) (B.lAt (a := q2) (by wtm_at "mem")) (Nat.le_trans (show _ ≤ 300 by simp only [List.length_map, List.length_append, List.length_take, List.length_drop, List.length_cons, List.length_nil]; omega) (by decide)) fun q3 hq3 => ?_
            rw [← List.map_append]
            have B := (B.newL (o := .lst ((ws.take at0.toNat ++ ((ws.drop at0.toNat).take 1)).map V.str)) hq3).sub (L' := [(Wd, .lst (ws.map V.str)), (q3, .lst ((ws.take at0.toNat ++ ((ws.drop at0.toNat).take 1)).map V.str))]) (Z' := []) (by wtm_at "vsub") (by wtm_at "vsub")
            clear hq3
            refine B.gen fun G B => ?_
            wtm_at "rs"
            rename_i q4 hq4
            have B := B.newL (o := .lst (cutV (ws.map V.str) (some at0) none)) hq4
            rw [cutW_hi (by omega)] at B ⊢
            clear hq4
            refine B.gen fun G B => ?_
            refine rd_cat (B.lAt (a := q3) (by wtm_at "mem")) (B.lAt (a := q4) (by wtm_at "mem")) (Nat.le_trans (show _ ≤ 300 by simp only [List.length_map, List.length_append, List.length_take, List.length_drop, List.length_cons, List.length_nil]; omega) (by decide)) fun q5 hq5 => ?_
            rw [← List.map_append]
            have B := (B.newL (o := .lst ((ws.take at0.toNat ++ ((ws.drop at0.toNat).take 1) ++ ws.drop at0.toNat).map V.str)) hq5).sub (L' := [(q5, .lst ((ws.take at0.toNat ++ ((ws.drop at0.toNat).take 1) ++ ws.drop at0.toNat).map V.str))]) (Z' := []) (by wtm_at "vsub") (by wtm_at "vsub")
            wtm_at "rs"
            refine ⟨q5, _, _, _, _, _, _, rfl, wds_of W wd6 (fun w h => way_mem1 h) ?_ ?_, ?_, B⟩
            all_goals
              simp only [List.length_append, List.length_take, List.length_drop, List.length_cons, List.length_nil]
              omega
          · rw [if_neg (by rw [decide_eq_true_iff]; exact e1)]
            wtm_at "rs"
            by_cases e2 : r3 = 2
            · rw [if_pos (decide_eq_true e2)]
              wtm_at "rs"
              rename_i q1 hq1 q2 hq2
              have B := (B.newL (o := .lst (cutV (ws.map V.str) none (some at0))) hq1).newL (o := .lst ([wd].map V.str)) hq2
              rw [cutW_lo at00] at B ⊢
              clear hq1 hq2
              refine B.gen fun G B => ?_
              refine rd_cat (B.lAt (a := q1) (by wtm_at "mem")) (B.lAt (a := q2) (by wtm_at "mem")) (Nat.le_trans (show _ ≤ 300 by simp only [List.length_map, List.length_append, List.length_take, List.length_drop, List.length_cons, List.length_nil]; omega) (by decide)) fun q3 hq3 => ?_
              rw [← List.map_append]
              have B := (B.newL (o := .lst ((ws.take at0.toNat ++ [wd]).map V.str)) hq3).sub (L' := [(Wd, .lst (ws.map V.str)), (q3, .lst ((ws.take at0.toNat ++ [wd]).map V.str))]) (Z' := []) (by wtm_at "vsub") (by wtm_at "vsub")
              clear hq3
              refine B.gen fun G B => ?_
              wtm_at "rs"
              rename_i q4 hq4
              have B := B.newL (o := .lst (cutV (ws.map V.str) (some at0) none)) hq4
              rw [cutW_hi (by omega)] at B ⊢
              clear hq4
              refine B.gen fun G B => ?_
              refine rd_cat (B.lAt (a := q3) (by wtm_at "mem")) (B.lAt (a := q4) (by wtm_at "mem")) (Nat.le_trans (show _ ≤ 300 by simp only [List.length_map, List.length_append, List.length_take, List.length_drop, List.length_cons, List.length_nil]; omega) (by decide)) fun q5 hq5 => ?_
              rw [← List.map_append]
              have B := (B.newL (o := .lst ((ws.take at0.toNat ++ [wd] ++ ws.drop at0.toNat).map V.str)) hq5).sub (L' := [(q5, .lst ((ws.take at0.toNat ++ [wd] ++ ws.drop at0.toNat).map V.str))]) (Z' := []) (by wtm_at "vsub") (by wtm_at "vsub")
              wtm_at "rs"
              refine ⟨q5, _, _, _, _, _, _, rfl, wds_of W wd6 (fun w h => way_mem h) ?_ ?_, ?_, B⟩
              all_goals
                simp only [List.length_append, List.length_take, List.length_drop, List.length_cons, List.length_nil]
                omega
            · rw [if_neg (by rw [decide_eq_true_iff]; exact e2)]
              wtm_at "rs"
              rename_i q1 hq1 q2 hq2
              have B := (B.newL (o := .lst (cutV (ws.map V.str) none (some at0))) hq1).newL (o := .lst ([wd].map V.str)) hq2
              rw [cutW_lo at00] at B ⊢
              clear hq1 hq2
              refine B.gen fun G B => ?_
              refine rd_cat (B.lAt (a := q1) (by wtm_at "mem")) (B.lAt (a := q2) (by wtm_at "mem")) (Nat.le_trans (show _ ≤ 300 by simp only [List.length_map, List.length_append, List.length_take, List.length_drop, List.length_cons, List.length_nil]; omega) (by decide)) fun q3 hq3 => ?_
              rw [← List.map_append]
              have B := (B.newL (o := .lst ((ws.take at0.toNat ++ [wd]).map V.str)) hq3).sub (L' := [(Wd, .lst (ws.map V.str)), (q3, .lst ((ws.take at0.toNat ++ [wd]).map V.str))]) (Z' := []) (by wtm_at "vsub") (by wtm_at "vsub")
              clear hq3
              refine B.gen fun G B => ?_
              wtm_at "rs"
              rename_i q4 hq4
              have B := B.newL (o := .lst (cutV (ws.map V.str) (some (at0 + 1)) none)) hq4
              rw [cutW_hi (by omega)] at B ⊢
              clear hq4
              refine B.gen fun G B => ?_
              refine rd_cat (B.lAt (a := q3) (by wtm_at "mem")) (B.lAt (a := q4) (by wtm_at "mem")) (Nat.le_trans (show _ ≤ 300 by simp only [List.length_map, List.length_append, List.length_take, List.length_drop, List.length_cons, List.length_nil]; omega) (by decide)) fun q5 hq5 => ?_
              rw [← List.map_append]
              have B := (B.newL (o := .lst ((ws.take at0.toNat ++ [wd] ++ ws.drop (at0 + 1).toNat).map V.str)) hq5).sub (L' := [(q5, .lst ((ws.take at0.toNat ++ [wd] ++ ws.drop (at0 + 1).toNat).map V.str))]) (Z' := []) (by wtm_at "vsub") (by wtm_at "vsub")
              wtm_at "rs"
              refine ⟨q5, _, _, _, _, _, _, rfl, wds_of W wd6 (fun w h => way_mem h) ?_ ?_, ?_, B⟩
              all_goals
                simp only [List.length_append, List.length_take, List.length_drop, List.length_cons, List.length_nil]
                omega
      · clear B
        rintro σ G ⟨Wd, ws2, v6, v7, v8, v9, v10, rfl, W2, lw2, B⟩
        have wl2 : ∀ w ∈ ws2, w.length ≤ 100000 := fun w h => by have := W2.wl w h; omega
        wtm_at "rs"
        refine use_LTold (B.lAt (a := Wd) (by wtm_at "mem")) (by omega) W2 B.nt fun T1 G3 s3 n3 oA => ?_
        obtain ⟨t1, v1, an, h1⟩ := oA
        replace B := B.next s3 n3
        clear s3 n3
        wtm_at "rs"
        refine use_LDue (B.lAt (a := Wd) (by wtm_at "mem")) (by omega) wl2 B.nt fun T2 G4 s4 n4 oB => ?_
        obtain ⟨t2, v2, an2, h2⟩ := oB
        obtain ⟨rfl, rfl⟩ := an.uniq an2
        obtain ⟨dd, sh, dp⟩ := an.data
        refine rd_neSame (dp (s4 _ _ h1)) (dp h2) sh ?_
        replace B := B.next s4 n4
        clear s4 n4 h1 h2 an an2 dp sh
        refine B.gen fun G B => ?_
        wtm_at "rs"
        refine use_LTold (B.lAt (a := Wd) (by wtm_at "mem")) (by omega) W2 B.nt fun T1 G3 s3 n3 oA => ?_
        obtain ⟨t1, v1, an, h1⟩ := oA
        replace B := B.next s3 n3
        clear s3 n3
        wtm_at "rs"
        refine use_LDue (B.lAt (a := Wd) (by wtm_at "mem")) (by omega) wl2 B.nt fun T2 G4 s4 n4 oB => ?_
        obtain ⟨t2, v2, an2, h2⟩ := oB
        obtain ⟨rfl, rfl⟩ := an.uniq an2
        obtain ⟨dd, sh, dp⟩ := an.data
        refine rd_neSame (dp (s4 _ _ h1)) (dp h2) sh ?_
        replace B := B.next s4 n4
        clear s4 n4 h1 h2 an an2 dp sh
        refine B.gen fun G B => ?_
        wtm_at "rs"
        exact ⟨Wd, ws2, _, _, _, _, _, _, _, rfl, W2, lw2, by omega, by omega, B⟩
    · rintro σ G ⟨Wd, ws, c, k, v6, v7, v8, v9, v10, rfl, W, lw, k0, k1, B⟩
      wtm_at "rs"
      exact kq _
end
/-! ## what the top has left, and the end -/
structure ClsH (K : PySem.W.Frag) (C : Addr) : Prop where
  opg : PySem.W.plainGet K C Str.empty = true
  ohd : PySem.W.hasDictIn K C = true
  opo : PySem.W.plainOver K C = true
  osa : PySem.W.findIn K (.ref C) "__setattr__" = some (some (.builtin "object.__setattr__"))
  omk : PySem.W.makesIn K C = true
  okc : PySem.W.keepIn K (.ref C) = true
  oha : PySem.W.findIn K (.ref C) "__class__" = some (some (.builtin "object.__class__"))
  ohn : PySem.W.specialIn K (.builtin "object.__class__") "__get__" = some (some (.builtin "getset_descriptor.__get__"))
  otk : PySem.W.takesIn K (.builtin "object.__class__") = some true
  omr : PySem.W.mroIn K C (.type "object") = some true
  oci : PySem.W.isClsIn K C = true
  oct : PySem.W.typeIn K (.ref C) = some (.type "type")
theorem at_law_take {K : PySem.W.Frag} {h : Heap} {mg : Str → Option Value} (X : K.In h) (G : h.Ns mainGlobals mg) {f0 : Addr} {od0 an0 : Option Addr} {sl0 : Array (Option Value)} {oc0 kV0 dc0 pm0 cd0 ct0 : Value} (a0 : PySem.W.nsIn K mainGlobals "_law_take" = some (some (.ref f0))) (l0 : K.lookup f0 = some ⟨oc0, od0, .func (PySem.W.fnOf "_law_take" "_law_take" (defArgs s_law_take) (defBody s_law_take) (defScope s_law_take) .none kV0 dc0 pm0 an0 cd0 ct0), sl0⟩) (c0 : PySem.W.codeIn K cd0 "_law_take" = true) (k0 : PySem.W.keepIn K (.ref f0) = true) : DefAt K mg "_law_take" s_law_take ["_law_pool_here", "_law_limit"] := by
  have F := fun_mk (st := s_law_take) l0 c0 k0
  have b := F.binds (ps := ["_law_pool_here", "_law_limit"]) fun _ _ _ _ _ _ us hl => match us, hl with | [_, _], _ => rfl
  exact ⟨_, _, F, PySem.W.mg_of X G a0, b⟩
theorem at_law_common {K : PySem.W.Frag} {h : Heap} {mg : Str → Option Value} (X : K.In h) (G : h.Ns mainGlobals mg) {f1 : Addr} {od1 an1 : Option Addr} {sl1 : Array (Option Value)} {oc1 kV1 dc1 pm1 cd1 ct1 : Value} (a1 : PySem.W.nsIn K mainGlobals "_law_common" = some (some (.ref f1))) (l1 : K.lookup f1 = some ⟨oc1, od1, .func (PySem.W.fnOf "_law_common" "_law_common" (defArgs s_law_common) (defBody s_law_common) (defScope s_law_common) .none kV1 dc1 pm1 an1 cd1 ct1), sl1⟩) (c1 : PySem.W.codeIn K cd1 "_law_common" = true) (k1 : PySem.W.keepIn K (.ref f1) = true) : DefAt K mg "_law_common" s_law_common ["_law_a", "_law_b"] := by
  have F := fun_mk (st := s_law_common) l1 c1 k1
  have b := F.binds (ps := ["_law_a", "_law_b"]) fun _ _ _ _ _ _ us hl => match us, hl with | [_, _], _ => rfl
  exact ⟨_, _, F, PySem.W.mg_of X G a1, b⟩
theorem at_law_units {K : PySem.W.Frag} {h : Heap} {mg : Str → Option Value} (X : K.In h) (G : h.Ns mainGlobals mg) {f2 : Addr} {od2 an2 : Option Addr} {sl2 : Array (Option Value)} {oc2 kV2 dc2 pm2 cd2 ct2 : Value} (a2 : PySem.W.nsIn K mainGlobals "_law_units" = some (some (.ref f2))) (l2 : K.lookup f2 = some ⟨oc2, od2, .func (PySem.W.fnOf "_law_units" "_law_units" (defArgs s_law_units) (defBody s_law_units) (defScope s_law_units) .none kV2 dc2 pm2 an2 cd2 ct2), sl2⟩) (c2 : PySem.W.codeIn K cd2 "_law_units" = true) (k2 : PySem.W.keepIn K (.ref f2) = true) : DefAt K mg "_law_units" s_law_units ["_law_modulus"] := by
  have F := fun_mk (st := s_law_units) l2 c2 k2
  have b := F.binds (ps := ["_law_modulus"]) fun _ _ _ _ _ _ us hl => match us, hl with | [_], _ => rfl
  exact ⟨_, _, F, PySem.W.mg_of X G a2, b⟩
theorem at_law_described {K : PySem.W.Frag} {h : Heap} {mg : Str → Option Value} (X : K.In h) (G : h.Ns mainGlobals mg) {f3 : Addr} {od3 an3 : Option Addr} {sl3 : Array (Option Value)} {oc3 kV3 dc3 pm3 cd3 ct3 : Value} (a3 : PySem.W.nsIn K mainGlobals "_law_described" = some (some (.ref f3))) (l3 : K.lookup f3 = some ⟨oc3, od3, .func (PySem.W.fnOf "_law_described" "_law_described" (defArgs s_law_described) (defBody s_law_described) (defScope s_law_described) .none kV3 dc3 pm3 an3 cd3 ct3), sl3⟩) (c3 : PySem.W.codeIn K cd3 "_law_described" = true) (k3 : PySem.W.keepIn K (.ref f3) = true) : DefAt K mg "_law_described" s_law_described ["_law_pool_here", "_law_widest"] := by
  have F := fun_mk (st := s_law_described) l3 c3 k3
  have b := F.binds (ps := ["_law_pool_here", "_law_widest"]) fun _ _ _ _ _ _ us hl => match us, hl with | [_, _], _ => rfl
  exact ⟨_, _, F, PySem.W.mg_of X G a3, b⟩
theorem at_checked_modulus {K : PySem.W.Frag} {h : Heap} {mg : Str → Option Value} (X : K.In h) (G : h.Ns mainGlobals mg) {f4 : Addr} {od4 an4 : Option Addr} {sl4 : Array (Option Value)} {oc4 kV4 dc4 pm4 cd4 ct4 : Value} (a4 : PySem.W.nsIn K mainGlobals "checked_modulus" = some (some (.ref f4))) (l4 : K.lookup f4 = some ⟨oc4, od4, .func (PySem.W.fnOf "checked_modulus" "checked_modulus" (defArgs s_checked_modulus) (defBody s_checked_modulus) (defScope s_checked_modulus) .none kV4 dc4 pm4 an4 cd4 ct4), sl4⟩) (c4 : PySem.W.codeIn K cd4 "checked_modulus" = true) (k4 : PySem.W.keepIn K (.ref f4) = true) : DefAt K mg "checked_modulus" s_checked_modulus ["modulus"] := by
  have F := fun_mk (st := s_checked_modulus) l4 c4 k4
  have b := F.binds (ps := ["modulus"]) fun _ _ _ _ _ _ us hl => match us, hl with | [_], _ => rfl
  exact ⟨_, _, F, PySem.W.mg_of X G a4, b⟩
theorem at_is_prime {K : PySem.W.Frag} {h : Heap} {mg : Str → Option Value} (X : K.In h) (G : h.Ns mainGlobals mg) {f5 : Addr} {od5 an5 : Option Addr} {sl5 : Array (Option Value)} {oc5 kV5 dc5 pm5 cd5 ct5 : Value} (a5 : PySem.W.nsIn K mainGlobals "is_prime" = some (some (.ref f5))) (l5 : K.lookup f5 = some ⟨oc5, od5, .func (PySem.W.fnOf "is_prime" "is_prime" (defArgs s_is_prime) (defBody s_is_prime) (defScope s_is_prime) .none kV5 dc5 pm5 an5 cd5 ct5), sl5⟩) (c5 : PySem.W.codeIn K cd5 "is_prime" = true) (k5 : PySem.W.keepIn K (.ref f5) = true) : DefAt K mg "is_prime" s_is_prime ["n"] := by
  have F := fun_mk (st := s_is_prime) l5 c5 k5
  have b := F.binds (ps := ["n"]) fun _ _ _ _ _ _ us hl => match us, hl with | [_], _ => rfl
  exact ⟨_, _, F, PySem.W.mg_of X G a5, b⟩
theorem at_checked_singles {K : PySem.W.Frag} {h : Heap} {mg : Str → Option Value} (X : K.In h) (G : h.Ns mainGlobals mg) {f6 : Addr} {od6 an6 : Option Addr} {sl6 : Array (Option Value)} {oc6 kV6 dc6 pm6 cd6 ct6 : Value} (a6 : PySem.W.nsIn K mainGlobals "checked_singles" = some (some (.ref f6))) (l6 : K.lookup f6 = some ⟨oc6, od6, .func (PySem.W.fnOf "checked_singles" "checked_singles" (defArgs s_checked_singles) (defBody s_checked_singles) (defScope s_checked_singles) .none kV6 dc6 pm6 an6 cd6 ct6), sl6⟩) (c6 : PySem.W.codeIn K cd6 "checked_singles" = true) (k6 : PySem.W.keepIn K (.ref f6) = true) : DefAt K mg "checked_singles" s_checked_singles ["singles"] := by
  have F := fun_mk (st := s_checked_singles) l6 c6 k6
  have b := F.binds (ps := ["singles"]) fun _ _ _ _ _ _ us hl => match us, hl with | [_], _ => rfl
  exact ⟨_, _, F, PySem.W.mg_of X G a6, b⟩
theorem at_common {K : PySem.W.Frag} {h : Heap} {mg : Str → Option Value} (X : K.In h) (G : h.Ns mainGlobals mg) {f7 : Addr} {od7 an7 : Option Addr} {sl7 : Array (Option Value)} {oc7 kV7 dc7 pm7 cd7 ct7 : Value} (a7 : PySem.W.nsIn K mainGlobals "common" = some (some (.ref f7))) (l7 : K.lookup f7 = some ⟨oc7, od7, .func (PySem.W.fnOf "common" "common" (defArgs s_common) (defBody s_common) (defScope s_common) .none kV7 dc7 pm7 an7 cd7 ct7), sl7⟩) (c7 : PySem.W.codeIn K cd7 "common" = true) (k7 : PySem.W.keepIn K (.ref f7) = true) : DefAt K mg "common" s_common ["a", "b"] := by
  have F := fun_mk (st := s_common) l7 c7 k7
  have b := F.binds (ps := ["a", "b"]) fun _ _ _ _ _ _ us hl => match us, hl with | [_, _], _ => rfl
  exact ⟨_, _, F, PySem.W.mg_of X G a7, b⟩
theorem at_factors {K : PySem.W.Frag} {h : Heap} {mg : Str → Option Value} (X : K.In h) (G : h.Ns mainGlobals mg) {f8 : Addr} {od8 an8 : Option Addr} {sl8 : Array (Option Value)} {oc8 kV8 dc8 pm8 cd8 ct8 : Value} (a8 : PySem.W.nsIn K mainGlobals "factors" = some (some (.ref f8))) (l8 : K.lookup f8 = some ⟨oc8, od8, .func (PySem.W.fnOf "factors" "factors" (defArgs s_factors) (defBody s_factors) (defScope s_factors) .none kV8 dc8 pm8 an8 cd8 ct8), sl8⟩) (c8 : PySem.W.codeIn K cd8 "factors" = true) (k8 : PySem.W.keepIn K (.ref f8) = true) : DefAt K mg "factors" s_factors ["n"] := by
  have F := fun_mk (st := s_factors) l8 c8 k8
  have b := F.binds (ps := ["n"]) fun _ _ _ _ _ _ us hl => match us, hl with | [_], _ => rfl
  exact ⟨_, _, F, PySem.W.mg_of X G a8, b⟩
theorem at_units {K : PySem.W.Frag} {h : Heap} {mg : Str → Option Value} (X : K.In h) (G : h.Ns mainGlobals mg) {f9 : Addr} {od9 an9 : Option Addr} {sl9 : Array (Option Value)} {oc9 kV9 dc9 pm9 cd9 ct9 : Value} (a9 : PySem.W.nsIn K mainGlobals "units" = some (some (.ref f9))) (l9 : K.lookup f9 = some ⟨oc9, od9, .func (PySem.W.fnOf "units" "units" (defArgs s_units) (defBody s_units) (defScope s_units) .none kV9 dc9 pm9 an9 cd9 ct9), sl9⟩) (c9 : PySem.W.codeIn K cd9 "units" = true) (k9 : PySem.W.keepIn K (.ref f9) = true) : DefAt K mg "units" s_units ["modulus"] := by
  have F := fun_mk (st := s_units) l9 c9 k9
  have b := F.binds (ps := ["modulus"]) fun _ _ _ _ _ _ us hl => match us, hl with | [_], _ => rfl
  exact ⟨_, _, F, PySem.W.mg_of X G a9, b⟩
theorem at_shortened {K : PySem.W.Frag} {h : Heap} {mg : Str → Option Value} (X : K.In h) (G : h.Ns mainGlobals mg) {f10 : Addr} {od10 an10 : Option Addr} {sl10 : Array (Option Value)} {oc10 kV10 dc10 pm10 cd10 ct10 : Value} (a10 : PySem.W.nsIn K mainGlobals "shortened" = some (some (.ref f10))) (l10 : K.lookup f10 = some ⟨oc10, od10, .func (PySem.W.fnOf "shortened" "shortened" (defArgs s_shortened) (defBody s_shortened) (defScope s_shortened) .none kV10 dc10 pm10 an10 cd10 ct10), sl10⟩) (c10 : PySem.W.codeIn K cd10 "shortened" = true) (k10 : PySem.W.keepIn K (.ref f10) = true) : DefAt K mg "shortened" s_shortened ["modulus", "rests", "prime"] := by
  have F := fun_mk (st := s_shortened) l10 c10 k10
  have b := F.binds (ps := ["modulus", "rests", "prime"]) fun _ _ _ _ _ _ us hl => match us, hl with | [_, _, _], _ => rfl
  exact ⟨_, _, F, PySem.W.mg_of X G a10, b⟩
theorem at_toggled {K : PySem.W.Frag} {h : Heap} {mg : Str → Option Value} (X : K.In h) (G : h.Ns mainGlobals mg) {f11 : Addr} {od11 an11 : Option Addr} {sl11 : Array (Option Value)} {oc11 kV11 dc11 pm11 cd11 ct11 : Value} (a11 : PySem.W.nsIn K mainGlobals "toggled" = some (some (.ref f11))) (l11 : K.lookup f11 = some ⟨oc11, od11, .func (PySem.W.fnOf "toggled" "toggled" (defArgs s_toggled) (defBody s_toggled) (defScope s_toggled) .none kV11 dc11 pm11 an11 cd11 ct11), sl11⟩) (c11 : PySem.W.codeIn K cd11 "toggled" = true) (k11 : PySem.W.keepIn K (.ref f11) = true) : DefAt K mg "toggled" s_toggled ["singles", "p"] := by
  have F := fun_mk (st := s_toggled) l11 c11 k11
  have b := F.binds (ps := ["singles", "p"]) fun _ _ _ _ _ _ us hl => match us, hl with | [_, _], _ => rfl
  exact ⟨_, _, F, PySem.W.mg_of X G a11, b⟩
theorem at_told_by {K : PySem.W.Frag} {h : Heap} {mg : Str → Option Value} (X : K.In h) (G : h.Ns mainGlobals mg) {f12 : Addr} {od12 an12 : Option Addr} {sl12 : Array (Option Value)} {oc12 kV12 dc12 pm12 cd12 ct12 : Value} (a12 : PySem.W.nsIn K mainGlobals "told_by" = some (some (.ref f12))) (l12 : K.lookup f12 = some ⟨oc12, od12, .func (PySem.W.fnOf "told_by" "told_by" (defArgs s_told_by) (defBody s_told_by) (defScope s_told_by) .none kV12 dc12 pm12 an12 cd12 ct12), sl12⟩) (c12 : PySem.W.codeIn K cd12 "told_by" = true) (k12 : PySem.W.keepIn K (.ref f12) = true) : DefAt K mg "told_by" s_told_by ["modulus", "rests", "p"] := by
  have F := fun_mk (st := s_told_by) l12 c12 k12
  have b := F.binds (ps := ["modulus", "rests", "p"]) fun _ _ _ _ _ _ us hl => match us, hl with | [_, _, _], _ => rfl
  exact ⟨_, _, F, PySem.W.mg_of X G a12, b⟩
theorem at_least_description {K : PySem.W.Frag} {h : Heap} {mg : Str → Option Value} (X : K.In h) (G : h.Ns mainGlobals mg) {f13 : Addr} {od13 an13 : Option Addr} {sl13 : Array (Option Value)} {oc13 kV13 dc13 pm13 cd13 ct13 : Value} (a13 : PySem.W.nsIn K mainGlobals "least_description" = some (some (.ref f13))) (l13 : K.lookup f13 = some ⟨oc13, od13, .func (PySem.W.fnOf "least_description" "least_description" (defArgs s_least_description) (defBody s_least_description) (defScope s_least_description) .none kV13 dc13 pm13 an13 cd13 ct13), sl13⟩) (c13 : PySem.W.codeIn K cd13 "least_description" = true) (k13 : PySem.W.keepIn K (.ref f13) = true) : DefAt K mg "least_description" s_least_description ["modulus", "rests", "singles"] := by
  have F := fun_mk (st := s_least_description) l13 c13 k13
  have b := F.binds (ps := ["modulus", "rests", "singles"]) fun _ _ _ _ _ _ us hl => match us, hl with | [_, _, _], _ => rfl
  exact ⟨_, _, F, PySem.W.mg_of X G a13, b⟩
theorem at_Primes_init {K : PySem.W.Frag} {h : Heap} {mg : Str → Option Value} (X : K.In h) (G : h.Ns mainGlobals mg) {CO : Addr} (og : PySem.W.nsIn K mainGlobals "Primes" = some (some (.ref CO))) (hc : ClsH K CO) {f14 : Addr} {od14 an14 : Option Addr} {sl14 : Array (Option Value)} {oc14 kV14 dc14 pm14 cd14 ct14 : Value} (a14 : PySem.W.findIn K (.ref CO) "__init__" = some (some (.ref f14))) (i14 : PySem.W.isFn K (.ref f14) = true) (l14 : K.lookup f14 = some ⟨oc14, od14, .func (PySem.W.fnOf "__init__" "Primes.__init__" (defArgs s_Primes_init) (defBody s_Primes_init) (defScope s_Primes_init) .none kV14 dc14 pm14 an14 cd14 ct14), sl14⟩) (c14 : PySem.W.codeIn K cd14 "Primes.__init__" = true) (k14 : PySem.W.keepIn K (.ref f14) = true) : MkAt K mg "Primes" CO "Primes.__init__" s_Primes_init ["self", "modulus", "rests", "singles"] := by
  have F := fun_mk (st := s_Primes_init) l14 c14 k14
  have b := F.binds (ps := ["self", "modulus", "rests", "singles"]) fun _ _ _ _ _ _ us hl => match us, hl with | [_, _, _, _], _ => rfl
  exact ⟨⟨_, _, F, ⟨hc.omk, a14, i14, hc.okc⟩, b⟩, PySem.W.mg_of X G og⟩
theorem at_Primes_str {K : PySem.W.Frag} {CO : Addr} {f15 : Addr} {od15 an15 : Option Addr} {sl15 : Array (Option Value)} {oc15 kV15 dc15 pm15 cd15 ct15 : Value} (a15 : PySem.W.findIn K (.ref CO) "__str__" = some (some (.ref f15))) (i15 : PySem.W.isFn K (.ref f15) = true) (l15 : K.lookup f15 = some ⟨oc15, od15, .func (PySem.W.fnOf "__str__" "Primes.__str__" (defArgs s_Primes_str) (defBody s_Primes_str) (defScope s_Primes_str) .none kV15 dc15 pm15 an15 cd15 ct15), sl15⟩) (c15 : PySem.W.codeIn K cd15 "Primes.__str__" = true) (k15 : PySem.W.keepIn K (.ref f15) = true) : MethAt K CO "__str__" "Primes.__str__" s_Primes_str ["self"] := by
  have F := fun_mk (st := s_Primes_str) l15 c15 k15
  have b := F.binds (ps := ["self"]) fun _ _ _ _ _ _ us hl => match us, hl with | [_], _ => rfl
  exact ⟨_, _, F, ⟨a15, i15, k15⟩, b⟩
theorem at_law_text {K : PySem.W.Frag} {h : Heap} {mg : Str → Option Value} (X : K.In h) (G : h.Ns mainGlobals mg) {f16 : Addr} {od16 an16 : Option Addr} {sl16 : Array (Option Value)} {oc16 kV16 dc16 pm16 cd16 ct16 : Value} (a16 : PySem.W.nsIn K mainGlobals "_law_text" = some (some (.ref f16))) (l16 : K.lookup f16 = some ⟨oc16, od16, .func (PySem.W.fnOf "_law_text" "_law_text" (defArgs s_law_text) (defBody s_law_text) (defScope s_law_text) .none kV16 dc16 pm16 an16 cd16 ct16), sl16⟩) (c16 : PySem.W.codeIn K cd16 "_law_text" = true) (k16 : PySem.W.keepIn K (.ref f16) = true) : DefAt K mg "_law_text" s_law_text ["_law_row"] := by
  have F := fun_mk (st := s_law_text) l16 c16 k16
  have b := F.binds (ps := ["_law_row"]) fun _ _ _ _ _ _ us hl => match us, hl with | [_], _ => rfl
  exact ⟨_, _, F, PySem.W.mg_of X G a16, b⟩
theorem at_is_number {K : PySem.W.Frag} {h : Heap} {mg : Str → Option Value} (X : K.In h) (G : h.Ns mainGlobals mg) {f17 : Addr} {od17 an17 : Option Addr} {sl17 : Array (Option Value)} {oc17 kV17 dc17 pm17 cd17 ct17 : Value} (a17 : PySem.W.nsIn K mainGlobals "is_number" = some (some (.ref f17))) (l17 : K.lookup f17 = some ⟨oc17, od17, .func (PySem.W.fnOf "is_number" "is_number" (defArgs s_is_number) (defBody s_is_number) (defScope s_is_number) .none kV17 dc17 pm17 an17 cd17 ct17), sl17⟩) (c17 : PySem.W.codeIn K cd17 "is_number" = true) (k17 : PySem.W.keepIn K (.ref f17) = true) : DefAt K mg "is_number" s_is_number ["word"] := by
  have F := fun_mk (st := s_is_number) l17 c17 k17
  have b := F.binds (ps := ["word"]) fun _ _ _ _ _ _ us hl => match us, hl with | [_], _ => rfl
  exact ⟨_, _, F, PySem.W.mg_of X G a17, b⟩
theorem at_expected {K : PySem.W.Frag} {h : Heap} {mg : Str → Option Value} (X : K.In h) (G : h.Ns mainGlobals mg) {f18 : Addr} {od18 an18 : Option Addr} {sl18 : Array (Option Value)} {oc18 kV18 dc18 pm18 cd18 ct18 : Value} (a18 : PySem.W.nsIn K mainGlobals "expected" = some (some (.ref f18))) (l18 : K.lookup f18 = some ⟨oc18, od18, .func (PySem.W.fnOf "expected" "expected" (defArgs s_expected) (defBody s_expected) (defScope s_expected) .none kV18 dc18 pm18 an18 cd18 ct18), sl18⟩) (c18 : PySem.W.codeIn K cd18 "expected" = true) (k18 : PySem.W.keepIn K (.ref f18) = true) : DefAt K mg "expected" s_expected ["words", "at", "word"] := by
  have F := fun_mk (st := s_expected) l18 c18 k18
  have b := F.binds (ps := ["words", "at", "word"]) fun _ _ _ _ _ _ us hl => match us, hl with | [_, _, _], _ => rfl
  exact ⟨_, _, F, PySem.W.mg_of X G a18, b⟩
theorem at_numbers_from {K : PySem.W.Frag} {h : Heap} {mg : Str → Option Value} (X : K.In h) (G : h.Ns mainGlobals mg) {f19 : Addr} {od19 an19 : Option Addr} {sl19 : Array (Option Value)} {oc19 kV19 dc19 pm19 cd19 ct19 : Value} (a19 : PySem.W.nsIn K mainGlobals "numbers_from" = some (some (.ref f19))) (l19 : K.lookup f19 = some ⟨oc19, od19, .func (PySem.W.fnOf "numbers_from" "numbers_from" (defArgs s_numbers_from) (defBody s_numbers_from) (defScope s_numbers_from) .none kV19 dc19 pm19 an19 cd19 ct19), sl19⟩) (c19 : PySem.W.codeIn K cd19 "numbers_from" = true) (k19 : PySem.W.keepIn K (.ref f19) = true) : DefAt K mg "numbers_from" s_numbers_from ["words", "at"] := by
  have F := fun_mk (st := s_numbers_from) l19 c19 k19
  have b := F.binds (ps := ["words", "at"]) fun _ _ _ _ _ _ us hl => match us, hl with | [_, _], _ => rfl
  exact ⟨_, _, F, PySem.W.mg_of X G a19, b⟩
theorem at_Primes_read {K : PySem.W.Frag} {CO : Addr} {f20 p20 : Addr} {rs20 : List Value} {od20 an20 : Option Addr} {sl20 : Array (Option Value)} {oc20 kV20 dc20 pm20 cd20 ct20 : Value} (cr20 : PySem.W.readsIn K CO (.type "type") = true) (cg20 : PySem.W.specialIn K (.ref CO) "__getattribute__" = some (some (.builtin "type.__getattribute__"))) (cm20 : PySem.W.findCls K (.ref CO) (.type "type") "read" = some (.get (.builtin "classmethod.__get__") (.ref p20) .none (.ref CO))) (cc20 : PySem.W.recIn K p20 "classmethod" = some (.ref f20 :: rs20)) (cf20 : PySem.W.fnIn K f20 = true) (l20 : K.lookup f20 = some ⟨oc20, od20, .func (PySem.W.fnOf "read" "Primes.read" (defArgs s_Primes_read) (defBody s_Primes_read) (defScope s_Primes_read) .none kV20 dc20 pm20 an20 cd20 ct20), sl20⟩) (c20 : PySem.W.codeIn K cd20 "Primes.read" = true) (k20 : PySem.W.keepIn K (.ref f20) = true) : CMAt K CO "read" "Primes.read" s_Primes_read := by
  have F := fun_mk (st := s_Primes_read) l20 c20 k20
  exact ⟨_, _, _, _, ⟨cr20, cg20⟩, ⟨cm20, ⟨_, cc20⟩, cf20⟩, F⟩
theorem at_law_is_number {K : PySem.W.Frag} {h : Heap} {mg : Str → Option Value} (X : K.In h) (G : h.Ns mainGlobals mg) {f21 : Addr} {od21 an21 : Option Addr} {sl21 : Array (Option Value)} {oc21 kV21 dc21 pm21 cd21 ct21 : Value} (a21 : PySem.W.nsIn K mainGlobals "_law_is_number" = some (some (.ref f21))) (l21 : K.lookup f21 = some ⟨oc21, od21, .func (PySem.W.fnOf "_law_is_number" "_law_is_number" (defArgs s_law_is_number) (defBody s_law_is_number) (defScope s_law_is_number) .none kV21 dc21 pm21 an21 cd21 ct21), sl21⟩) (c21 : PySem.W.codeIn K cd21 "_law_is_number" = true) (k21 : PySem.W.keepIn K (.ref f21) = true) : DefAt K mg "_law_is_number" s_law_is_number ["_law_word"] := by
  have F := fun_mk (st := s_law_is_number) l21 c21 k21
  have b := F.binds (ps := ["_law_word"]) fun _ _ _ _ _ _ us hl => match us, hl with | [_], _ => rfl
  exact ⟨_, _, F, PySem.W.mg_of X G a21, b⟩
theorem at_law_read {K : PySem.W.Frag} {h : Heap} {mg : Str → Option Value} (X : K.In h) (G : h.Ns mainGlobals mg) {f22 : Addr} {od22 an22 : Option Addr} {sl22 : Array (Option Value)} {oc22 kV22 dc22 pm22 cd22 ct22 : Value} (a22 : PySem.W.nsIn K mainGlobals "_law_read" = some (some (.ref f22))) (l22 : K.lookup f22 = some ⟨oc22, od22, .func (PySem.W.fnOf "_law_read" "_law_read" (defArgs s_law_read) (defBody s_law_read) (defScope s_law_read) .none kV22 dc22 pm22 an22 cd22 ct22), sl22⟩) (c22 : PySem.W.codeIn K cd22 "_law_read" = true) (k22 : PySem.W.keepIn K (.ref f22) = true) : DefAt K mg "_law_read" s_law_read ["_law_words"] := by
  have F := fun_mk (st := s_law_read) l22 c22 k22
  have b := F.binds (ps := ["_law_words"]) fun _ _ _ _ _ _ us hl => match us, hl with | [_], _ => rfl
  exact ⟨_, _, F, PySem.W.mg_of X G a22, b⟩
theorem at_law_is_odd_prime {K : PySem.W.Frag} {h : Heap} {mg : Str → Option Value} (X : K.In h) (G : h.Ns mainGlobals mg) {f23 : Addr} {od23 an23 : Option Addr} {sl23 : Array (Option Value)} {oc23 kV23 dc23 pm23 cd23 ct23 : Value} (a23 : PySem.W.nsIn K mainGlobals "_law_is_odd_prime" = some (some (.ref f23))) (l23 : K.lookup f23 = some ⟨oc23, od23, .func (PySem.W.fnOf "_law_is_odd_prime" "_law_is_odd_prime" (defArgs s_law_is_odd_prime) (defBody s_law_is_odd_prime) (defScope s_law_is_odd_prime) .none kV23 dc23 pm23 an23 cd23 ct23), sl23⟩) (c23 : PySem.W.codeIn K cd23 "_law_is_odd_prime" = true) (k23 : PySem.W.keepIn K (.ref f23) = true) : DefAt K mg "_law_is_odd_prime" s_law_is_odd_prime ["_law_n"] := by
  have F := fun_mk (st := s_law_is_odd_prime) l23 c23 k23
  have b := F.binds (ps := ["_law_n"]) fun _ _ _ _ _ _ us hl => match us, hl with | [_], _ => rfl
  exact ⟨_, _, F, PySem.W.mg_of X G a23, b⟩
theorem at_law_due {K : PySem.W.Frag} {h : Heap} {mg : Str → Option Value} (X : K.In h) (G : h.Ns mainGlobals mg) {f24 : Addr} {od24 an24 : Option Addr} {sl24 : Array (Option Value)} {oc24 kV24 dc24 pm24 cd24 ct24 : Value} (a24 : PySem.W.nsIn K mainGlobals "_law_due" = some (some (.ref f24))) (l24 : K.lookup f24 = some ⟨oc24, od24, .func (PySem.W.fnOf "_law_due" "_law_due" (defArgs s_law_due) (defBody s_law_due) (defScope s_law_due) .none kV24 dc24 pm24 an24 cd24 ct24), sl24⟩) (c24 : PySem.W.codeIn K cd24 "_law_due" = true) (k24 : PySem.W.keepIn K (.ref f24) = true) : DefAt K mg "_law_due" s_law_due ["_law_words"] := by
  have F := fun_mk (st := s_law_due) l24 c24 k24
  have b := F.binds (ps := ["_law_words"]) fun _ _ _ _ _ _ us hl => match us, hl with | [_], _ => rfl
  exact ⟨_, _, F, PySem.W.mg_of X G a24, b⟩
theorem at_law_told {K : PySem.W.Frag} {h : Heap} {mg : Str → Option Value} (X : K.In h) (G : h.Ns mainGlobals mg) {f25 : Addr} {od25 an25 : Option Addr} {sl25 : Array (Option Value)} {oc25 kV25 dc25 pm25 cd25 ct25 : Value} (a25 : PySem.W.nsIn K mainGlobals "_law_told" = some (some (.ref f25))) (l25 : K.lookup f25 = some ⟨oc25, od25, .func (PySem.W.fnOf "_law_told" "_law_told" (defArgs s_law_told) (defBody s_law_told) (defScope s_law_told) .none kV25 dc25 pm25 an25 cd25 ct25), sl25⟩) (c25 : PySem.W.codeIn K cd25 "_law_told" = true) (k25 : PySem.W.keepIn K (.ref f25) = true) : DefAt K mg "_law_told" s_law_told ["_law_words"] := by
  have F := fun_mk (st := s_law_told) l25 c25 k25
  have b := F.binds (ps := ["_law_words"]) fun _ _ _ _ _ _ us hl => match us, hl with | [_], _ => rfl
  exact ⟨_, _, F, PySem.W.mg_of X G a25, b⟩
theorem at_Primes_eq {K : PySem.W.Frag} {CO : Addr} {f26 : Addr} {od26 an26 : Option Addr} {sl26 : Array (Option Value)} {oc26 kV26 dc26 pm26 cd26 ct26 : Value} (a26 : PySem.W.findIn K (.ref CO) "__eq__" = some (some (.ref f26))) (i26 : PySem.W.isFn K (.ref f26) = true) (l26 : K.lookup f26 = some ⟨oc26, od26, .func (PySem.W.fnOf "__eq__" "Primes.__eq__" (defArgs s_Primes_eq) (defBody s_Primes_eq) (defScope s_Primes_eq) .none kV26 dc26 pm26 an26 cd26 ct26), sl26⟩) (c26 : PySem.W.codeIn K cd26 "Primes.__eq__" = true) (k26 : PySem.W.keepIn K (.ref f26) = true) : MethAt K CO "__eq__" "Primes.__eq__" s_Primes_eq ["self", "other"] := by
  have F := fun_mk (st := s_Primes_eq) l26 c26 k26
  have b := F.binds (ps := ["self", "other"]) fun _ _ _ _ _ _ us hl => match us, hl with | [_, _], _ => rfl
  exact ⟨_, _, F, ⟨a26, i26, k26⟩, b⟩
theorem at_law_cell {K : PySem.W.Frag} {h : Heap} {mg : Str → Option Value} (X : K.In h) (G : h.Ns mainGlobals mg) {f27 : Addr} {od27 an27 : Option Addr} {sl27 : Array (Option Value)} {oc27 kV27 dc27 pm27 cd27 ct27 : Value} (a27 : PySem.W.nsIn K mainGlobals "_law_cell" = some (some (.ref f27))) (l27 : K.lookup f27 = some ⟨oc27, od27, .func (PySem.W.fnOf "_law_cell" "_law_cell" (defArgs s_law_cell) (defBody s_law_cell) (defScope s_law_cell) .none kV27 dc27 pm27 an27 cd27 ct27), sl27⟩) (c27 : PySem.W.codeIn K cd27 "_law_cell" = true) (k27 : PySem.W.keepIn K (.ref f27) = true) : DefAt K mg "_law_cell" s_law_cell ["_law_script", "_law_k"] := by
  have F := fun_mk (st := s_law_cell) l27 c27 k27
  have b := F.binds (ps := ["_law_script", "_law_k"]) fun _ _ _ _ _ _ us hl => match us, hl with | [_, _], _ => rfl
  exact ⟨_, _, F, PySem.W.mg_of X G a27, b⟩
theorem at_law_pool {K : PySem.W.Frag} {h : Heap} {mg : Str → Option Value} (X : K.In h) (G : h.Ns mainGlobals mg) {f28 : Addr} {od28 an28 : Option Addr} {sl28 : Array (Option Value)} {oc28 kV28 dc28 pm28 cd28 ct28 : Value} (a28 : PySem.W.nsIn K mainGlobals "_law_pool" = some (some (.ref f28))) (l28 : K.lookup f28 = some ⟨oc28, od28, .func (PySem.W.fnOf "_law_pool" "_law_pool" (defArgs s_law_pool) (defBody s_law_pool) (defScope s_law_pool) .none kV28 dc28 pm28 an28 cd28 ct28), sl28⟩) (c28 : PySem.W.codeIn K cd28 "_law_pool" = true) (k28 : PySem.W.keepIn K (.ref f28) = true) : DefAt K mg "_law_pool" s_law_pool ["_law_cell_here"] := by
  have F := fun_mk (st := s_law_pool) l28 c28 k28
  have b := F.binds (ps := ["_law_cell_here"]) fun _ _ _ _ _ _ us hl => match us, hl with | [_], _ => rfl
  exact ⟨_, _, F, PySem.W.mg_of X G a28, b⟩
theorem er_BadModulus {K : PySem.W.Frag} {h : Heap} {mg : Str → Option Value} (X : K.In h) (G : h.Ns mainGlobals mg) {C0 g0 N0 : Addr} {nm0 qq0 : Str} {bs0 bm0 : List Value} {sn0 : List Str} {sub0 : List Value} {ab0 : Bool} {col0 : Option Bool} {dd0 : Option Addr} {m00 m10 m20 m30 m50 : Option Value} {odE0 anE0 : Option Addr} {slE0 : Array (Option Value)} {ocE0 kVE0 dcE0 pmE0 cdE0 ctE0 : Value} (eg0 : PySem.W.nsIn K mainGlobals "BadModulus" = some (some (.ref C0))) (ex0 : K.lookup C0 = some (excClassObj nm0 qq0 C0 N0 bs0 bm0 true sn0 sub0 ab0 col0 dd0 m00 m10 m20 m30 m50 "ValueError.__new__")) (eb0 : PySem.HandSPX.refsVE bm0 = true) (es0 : PySem.W.findIn K (.ref C0) "__setattr__" = some (some (.builtin "object.__setattr__"))) (ee0 : PySem.W.subIn K (.ref C0) (.type "BaseException") = some true) (et0 : PySem.W.typeIn K (.ref C0) = some (.type "type")) (ek0 : PySem.W.keepIn K (.ref C0) = true) (ega0 : PySem.W.findIn K (.ref C0) "__getattribute__" = some (some (.builtin "BaseException.__getattribute__"))) (egg0 : PySem.W.findIn K (.ref C0) "__getattr__" = some none) (eh0 : PySem.W.hasDictIn K C0 = true) (ei0 : PySem.W.isClsIn K C0 = true) (eu0 : PySem.W.subIn K (.ref C0) (.ref C0) = some true) (ef0 : PySem.W.findIn K (.ref C0) "__init__" = some (some (.ref g0))) (ey0 : PySem.W.typeIn K (.ref g0) = some (.type "function")) (el0 : K.lookup g0 = some ⟨ocE0, odE0, .func (PySem.W.fnOf "__init__" "BadModulus.__init__" (defArgs s_BadModulus_init) (defBody s_BadModulus_init) (defScope s_BadModulus_init) .none kVE0 dcE0 pmE0 anE0 cdE0 ctE0), slE0⟩) (ec0 : PySem.W.codeIn K cdE0 "BadModulus.__init__" = true) (ej0 : PySem.W.keepIn K (.ref g0) = true) : ErrRaw K mg "BadModulus" C0 s_BadModulus_init "BadModulus.__init__" ["self", "modulus"] := by
  have F := fun_mk (st := s_BadModulus_init) el0 ec0 ej0
  have b := F.binds (ps := ["self", "modulus"]) fun _ _ _ _ _ _ us hl => match us, hl with | [_, _], _ => rfl
  exact ⟨PySem.W.mg_of X G eg0, ⟨⟨_, _, _, _, _, _, _, _, _, _, _, _, _, _, _, ex0, eb0⟩, es0, ee0, et0, ek0⟩, ⟨ega0, egg0, ee0, eh0⟩, exm_self ee0 ei0 et0 eu0, ⟨_, _, ef0, ey0, F, b⟩⟩
theorem er_BadPrime {K : PySem.W.Frag} {h : Heap} {mg : Str → Option Value} (X : K.In h) (G : h.Ns mainGlobals mg) {C1 g1 N1 : Addr} {nm1 qq1 : Str} {bs1 bm1 : List Value} {sn1 : List Str} {sub1 : List Value} {ab1 : Bool} {col1 : Option Bool} {dd1 : Option Addr} {m01 m11 m21 m31 m51 : Option Value} {odE1 anE1 : Option Addr} {slE1 : Array (Option Value)} {ocE1 kVE1 dcE1 pmE1 cdE1 ctE1 : Value} (eg1 : PySem.W.nsIn K mainGlobals "BadPrime" = some (some (.ref C1))) (ex1 : K.lookup C1 = some (excClassObj nm1 qq1 C1 N1 bs1 bm1 true sn1 sub1 ab1 col1 dd1 m01 m11 m21 m31 m51 "ValueError.__new__")) (eb1 : PySem.HandSPX.refsVE bm1 = true) (es1 : PySem.W.findIn K (.ref C1) "__setattr__" = some (some (.builtin "object.__setattr__"))) (ee1 : PySem.W.subIn K (.ref C1) (.type "BaseException") = some true) (et1 : PySem.W.typeIn K (.ref C1) = some (.type "type")) (ek1 : PySem.W.keepIn K (.ref C1) = true) (ega1 : PySem.W.findIn K (.ref C1) "__getattribute__" = some (some (.builtin "BaseException.__getattribute__"))) (egg1 : PySem.W.findIn K (.ref C1) "__getattr__" = some none) (eh1 : PySem.W.hasDictIn K C1 = true) (ei1 : PySem.W.isClsIn K C1 = true) (eu1 : PySem.W.subIn K (.ref C1) (.ref C1) = some true) (ef1 : PySem.W.findIn K (.ref C1) "__init__" = some (some (.ref g1))) (ey1 : PySem.W.typeIn K (.ref g1) = some (.type "function")) (el1 : K.lookup g1 = some ⟨ocE1, odE1, .func (PySem.W.fnOf "__init__" "BadPrime.__init__" (defArgs s_BadPrime_init) (defBody s_BadPrime_init) (defScope s_BadPrime_init) .none kVE1 dcE1 pmE1 anE1 cdE1 ctE1), slE1⟩) (ec1 : PySem.W.codeIn K cdE1 "BadPrime.__init__" = true) (ej1 : PySem.W.keepIn K (.ref g1) = true) : ErrRaw K mg "BadPrime" C1 s_BadPrime_init "BadPrime.__init__" ["self", "p"] := by
  have F := fun_mk (st := s_BadPrime_init) el1 ec1 ej1
  have b := F.binds (ps := ["self", "p"]) fun _ _ _ _ _ _ us hl => match us, hl with | [_, _], _ => rfl
  exact ⟨PySem.W.mg_of X G eg1, ⟨⟨_, _, _, _, _, _, _, _, _, _, _, _, _, _, _, ex1, eb1⟩, es1, ee1, et1, ek1⟩, ⟨ega1, egg1, ee1, eh1⟩, exm_self ee1 ei1 et1 eu1, ⟨_, _, ef1, ey1, F, b⟩⟩
theorem er_BadRest {K : PySem.W.Frag} {h : Heap} {mg : Str → Option Value} (X : K.In h) (G : h.Ns mainGlobals mg) {C2 g2 N2 : Addr} {nm2 qq2 : Str} {bs2 bm2 : List Value} {sn2 : List Str} {sub2 : List Value} {ab2 : Bool} {col2 : Option Bool} {dd2 : Option Addr} {m02 m12 m22 m32 m52 : Option Value} {odE2 anE2 : Option Addr} {slE2 : Array (Option Value)} {ocE2 kVE2 dcE2 pmE2 cdE2 ctE2 : Value} (eg2 : PySem.W.nsIn K mainGlobals "BadRest" = some (some (.ref C2))) (ex2 : K.lookup C2 = some (excClassObj nm2 qq2 C2 N2 bs2 bm2 true sn2 sub2 ab2 col2 dd2 m02 m12 m22 m32 m52 "ValueError.__new__")) (eb2 : PySem.HandSPX.refsVE bm2 = true) (es2 : PySem.W.findIn K (.ref C2) "__setattr__" = some (some (.builtin "object.__setattr__"))) (ee2 : PySem.W.subIn K (.ref C2) (.type "BaseException") = some true) (et2 : PySem.W.typeIn K (.ref C2) = some (.type "type")) (ek2 : PySem.W.keepIn K (.ref C2) = true) (ega2 : PySem.W.findIn K (.ref C2) "__getattribute__" = some (some (.builtin "BaseException.__getattribute__"))) (egg2 : PySem.W.findIn K (.ref C2) "__getattr__" = some none) (eh2 : PySem.W.hasDictIn K C2 = true) (ei2 : PySem.W.isClsIn K C2 = true) (eu2 : PySem.W.subIn K (.ref C2) (.ref C2) = some true) (ef2 : PySem.W.findIn K (.ref C2) "__init__" = some (some (.ref g2))) (ey2 : PySem.W.typeIn K (.ref g2) = some (.type "function")) (el2 : K.lookup g2 = some ⟨ocE2, odE2, .func (PySem.W.fnOf "__init__" "BadRest.__init__" (defArgs s_BadRest_init) (defBody s_BadRest_init) (defScope s_BadRest_init) .none kVE2 dcE2 pmE2 anE2 cdE2 ctE2), slE2⟩) (ec2 : PySem.W.codeIn K cdE2 "BadRest.__init__" = true) (ej2 : PySem.W.keepIn K (.ref g2) = true) : ErrRaw K mg "BadRest" C2 s_BadRest_init "BadRest.__init__" ["self", "rest"] := by
  have F := fun_mk (st := s_BadRest_init) el2 ec2 ej2
  have b := F.binds (ps := ["self", "rest"]) fun _ _ _ _ _ _ us hl => match us, hl with | [_, _], _ => rfl
  exact ⟨PySem.W.mg_of X G eg2, ⟨⟨_, _, _, _, _, _, _, _, _, _, _, _, _, _, _, ex2, eb2⟩, es2, ee2, et2, ek2⟩, ⟨ega2, egg2, ee2, eh2⟩, exm_self ee2 ei2 et2 eu2, ⟨_, _, ef2, ey2, F, b⟩⟩
theorem er_BadSaying {K : PySem.W.Frag} {h : Heap} {mg : Str → Option Value} (X : K.In h) (G : h.Ns mainGlobals mg) {C3 g3 N3 : Addr} {nm3 qq3 : Str} {bs3 bm3 : List Value} {sn3 : List Str} {sub3 : List Value} {ab3 : Bool} {col3 : Option Bool} {dd3 : Option Addr} {m03 m13 m23 m33 m53 : Option Value} {odE3 anE3 : Option Addr} {slE3 : Array (Option Value)} {ocE3 kVE3 dcE3 pmE3 cdE3 ctE3 : Value} (eg3 : PySem.W.nsIn K mainGlobals "BadSaying" = some (some (.ref C3))) (ex3 : K.lookup C3 = some (excClassObj nm3 qq3 C3 N3 bs3 bm3 true sn3 sub3 ab3 col3 dd3 m03 m13 m23 m33 m53 "ValueError.__new__")) (eb3 : PySem.HandSPX.refsVE bm3 = true) (es3 : PySem.W.findIn K (.ref C3) "__setattr__" = some (some (.builtin "object.__setattr__"))) (ee3 : PySem.W.subIn K (.ref C3) (.type "BaseException") = some true) (et3 : PySem.W.typeIn K (.ref C3) = some (.type "type")) (ek3 : PySem.W.keepIn K (.ref C3) = true) (ega3 : PySem.W.findIn K (.ref C3) "__getattribute__" = some (some (.builtin "BaseException.__getattribute__"))) (egg3 : PySem.W.findIn K (.ref C3) "__getattr__" = some none) (eh3 : PySem.W.hasDictIn K C3 = true) (ei3 : PySem.W.isClsIn K C3 = true) (eu3 : PySem.W.subIn K (.ref C3) (.ref C3) = some true) (ef3 : PySem.W.findIn K (.ref C3) "__init__" = some (some (.ref g3))) (ey3 : PySem.W.typeIn K (.ref g3) = some (.type "function")) (el3 : K.lookup g3 = some ⟨ocE3, odE3, .func (PySem.W.fnOf "__init__" "BadSaying.__init__" (defArgs s_BadSaying_init) (defBody s_BadSaying_init) (defScope s_BadSaying_init) .none kVE3 dcE3 pmE3 anE3 cdE3 ctE3), slE3⟩) (ec3 : PySem.W.codeIn K cdE3 "BadSaying.__init__" = true) (ej3 : PySem.W.keepIn K (.ref g3) = true) : ErrRaw K mg "BadSaying" C3 s_BadSaying_init "BadSaying.__init__" ["self", "at"] := by
  have F := fun_mk (st := s_BadSaying_init) el3 ec3 ej3
  have b := F.binds (ps := ["self", "at"]) fun _ _ _ _ _ _ us hl => match us, hl with | [_, _], _ => rfl
  exact ⟨PySem.W.mg_of X G eg3, ⟨⟨_, _, _, _, _, _, _, _, _, _, _, _, _, _, _, ex3, eb3⟩, es3, ee3, et3, ek3⟩, ⟨ega3, egg3, ee3, eh3⟩, exm_self ee3 ei3 et3 eu3, ⟨_, _, ef3, ey3, F, b⟩⟩
theorem er_TooWide {K : PySem.W.Frag} {h : Heap} {mg : Str → Option Value} (X : K.In h) (G : h.Ns mainGlobals mg) {C4 g4 N4 : Addr} {nm4 qq4 : Str} {bs4 bm4 : List Value} {sn4 : List Str} {sub4 : List Value} {ab4 : Bool} {col4 : Option Bool} {dd4 : Option Addr} {m04 m14 m24 m34 m54 : Option Value} {odE4 anE4 : Option Addr} {slE4 : Array (Option Value)} {ocE4 kVE4 dcE4 pmE4 cdE4 ctE4 : Value} (eg4 : PySem.W.nsIn K mainGlobals "TooWide" = some (some (.ref C4))) (ex4 : K.lookup C4 = some (excClassObj nm4 qq4 C4 N4 bs4 bm4 true sn4 sub4 ab4 col4 dd4 m04 m14 m24 m34 m54 "ValueError.__new__")) (eb4 : PySem.HandSPX.refsVE bm4 = true) (es4 : PySem.W.findIn K (.ref C4) "__setattr__" = some (some (.builtin "object.__setattr__"))) (ee4 : PySem.W.subIn K (.ref C4) (.type "BaseException") = some true) (et4 : PySem.W.typeIn K (.ref C4) = some (.type "type")) (ek4 : PySem.W.keepIn K (.ref C4) = true) (ega4 : PySem.W.findIn K (.ref C4) "__getattribute__" = some (some (.builtin "BaseException.__getattribute__"))) (egg4 : PySem.W.findIn K (.ref C4) "__getattr__" = some none) (eh4 : PySem.W.hasDictIn K C4 = true) (ei4 : PySem.W.isClsIn K C4 = true) (eu4 : PySem.W.subIn K (.ref C4) (.ref C4) = some true) (ef4 : PySem.W.findIn K (.ref C4) "__init__" = some (some (.ref g4))) (ey4 : PySem.W.typeIn K (.ref g4) = some (.type "function")) (el4 : K.lookup g4 = some ⟨ocE4, odE4, .func (PySem.W.fnOf "__init__" "TooWide.__init__" (defArgs s_TooWide_init) (defBody s_TooWide_init) (defScope s_TooWide_init) .none kVE4 dcE4 pmE4 anE4 cdE4 ctE4), slE4⟩) (ec4 : PySem.W.codeIn K cdE4 "TooWide.__init__" = true) (ej4 : PySem.W.keepIn K (.ref g4) = true) : ErrRaw K mg "TooWide" C4 s_TooWide_init "TooWide.__init__" ["self", "modulus"] := by
  have F := fun_mk (st := s_TooWide_init) el4 ec4 ej4
  have b := F.binds (ps := ["self", "modulus"]) fun _ _ _ _ _ _ us hl => match us, hl with | [_, _], _ => rfl
  exact ⟨PySem.W.mg_of X G eg4, ⟨⟨_, _, _, _, _, _, _, _, _, _, _, _, _, _, _, ex4, eb4⟩, es4, ee4, et4, ek4⟩, ⟨ega4, egg4, ee4, eh4⟩, exm_self ee4 ei4 et4 eu4, ⟨_, _, ef4, ey4, F, b⟩⟩
theorem mk_xn_BadModulus_BadSaying {K : PySem.W.Frag} {C0 C3 : Addr} (ee3 : PySem.W.subIn K (.ref C3) (.type "BaseException") = some true) (ei3 : PySem.W.isClsIn K C3 = true) (et3 : PySem.W.typeIn K (.ref C3) = some (.type "type")) (ep_BadModulus_BadSaying : PySem.W.subIn K (.ref C0) (.ref C3) = some false) : PySem.W.exmOne K (.ref C0) (.ref C3) = some false := exm_other ee3 ei3 et3 ep_BadModulus_BadSaying
theorem mk_xn_BadPrime_BadModulus {K : PySem.W.Frag} {C1 C0 : Addr} (ee0 : PySem.W.subIn K (.ref C0) (.type "BaseException") = some true) (ei0 : PySem.W.isClsIn K C0 = true) (et0 : PySem.W.typeIn K (.ref C0) = some (.type "type")) (ep_BadPrime_BadModulus : PySem.W.subIn K (.ref C1) (.ref C0) = some false) : PySem.W.exmOne K (.ref C1) (.ref C0) = some false := exm_other ee0 ei0 et0 ep_BadPrime_BadModulus
theorem mk_xn_BadPrime_BadRest {K : PySem.W.Frag} {C1 C2 : Addr} (ee2 : PySem.W.subIn K (.ref C2) (.type "BaseException") = some true) (ei2 : PySem.W.isClsIn K C2 = true) (et2 : PySem.W.typeIn K (.ref C2) = some (.type "type")) (ep_BadPrime_BadRest : PySem.W.subIn K (.ref C1) (.ref C2) = some false) : PySem.W.exmOne K (.ref C1) (.ref C2) = some false := exm_other ee2 ei2 et2 ep_BadPrime_BadRest
theorem mk_xn_BadPrime_BadSaying {K : PySem.W.Frag} {C1 C3 : Addr} (ee3 : PySem.W.subIn K (.ref C3) (.type "BaseException") = some true) (ei3 : PySem.W.isClsIn K C3 = true) (et3 : PySem.W.typeIn K (.ref C3) = some (.type "type")) (ep_BadPrime_BadSaying : PySem.W.subIn K (.ref C1) (.ref C3) = some false) : PySem.W.exmOne K (.ref C1) (.ref C3) = some false := exm_other ee3 ei3 et3 ep_BadPrime_BadSaying
theorem mk_xn_BadPrime_TooWide {K : PySem.W.Frag} {C1 C4 : Addr} (ee4 : PySem.W.subIn K (.ref C4) (.type "BaseException") = some true) (ei4 : PySem.W.isClsIn K C4 = true) (et4 : PySem.W.typeIn K (.ref C4) = some (.type "type")) (ep_BadPrime_TooWide : PySem.W.subIn K (.ref C1) (.ref C4) = some false) : PySem.W.exmOne K (.ref C1) (.ref C4) = some false := exm_other ee4 ei4 et4 ep_BadPrime_TooWide
theorem mk_xn_BadRest_BadModulus {K : PySem.W.Frag} {C2 C0 : Addr} (ee0 : PySem.W.subIn K (.ref C0) (.type "BaseException") = some true) (ei0 : PySem.W.isClsIn K C0 = true) (et0 : PySem.W.typeIn K (.ref C0) = some (.type "type")) (ep_BadRest_BadModulus : PySem.W.subIn K (.ref C2) (.ref C0) = some false) : PySem.W.exmOne K (.ref C2) (.ref C0) = some false := exm_other ee0 ei0 et0 ep_BadRest_BadModulus
theorem mk_xn_BadRest_BadSaying {K : PySem.W.Frag} {C2 C3 : Addr} (ee3 : PySem.W.subIn K (.ref C3) (.type "BaseException") = some true) (ei3 : PySem.W.isClsIn K C3 = true) (et3 : PySem.W.typeIn K (.ref C3) = some (.type "type")) (ep_BadRest_BadSaying : PySem.W.subIn K (.ref C2) (.ref C3) = some false) : PySem.W.exmOne K (.ref C2) (.ref C3) = some false := exm_other ee3 ei3 et3 ep_BadRest_BadSaying
theorem mk_xn_BadRest_TooWide {K : PySem.W.Frag} {C2 C4 : Addr} (ee4 : PySem.W.subIn K (.ref C4) (.type "BaseException") = some true) (ei4 : PySem.W.isClsIn K C4 = true) (et4 : PySem.W.typeIn K (.ref C4) = some (.type "type")) (ep_BadRest_TooWide : PySem.W.subIn K (.ref C2) (.ref C4) = some false) : PySem.W.exmOne K (.ref C2) (.ref C4) = some false := exm_other ee4 ei4 et4 ep_BadRest_TooWide
theorem mk_xn_TooWide_BadModulus {K : PySem.W.Frag} {C4 C0 : Addr} (ee0 : PySem.W.subIn K (.ref C0) (.type "BaseException") = some true) (ei0 : PySem.W.isClsIn K C0 = true) (et0 : PySem.W.typeIn K (.ref C0) = some (.type "type")) (ep_TooWide_BadModulus : PySem.W.subIn K (.ref C4) (.ref C0) = some false) : PySem.W.exmOne K (.ref C4) (.ref C0) = some false := exm_other ee0 ei0 et0 ep_TooWide_BadModulus
theorem mk_xn_TooWide_BadSaying {K : PySem.W.Frag} {C4 C3 : Addr} (ee3 : PySem.W.subIn K (.ref C3) (.type "BaseException") = some true) (ei3 : PySem.W.isClsIn K C3 = true) (et3 : PySem.W.typeIn K (.ref C3) = some (.type "type")) (ep_TooWide_BadSaying : PySem.W.subIn K (.ref C4) (.ref C3) = some false) : PySem.W.exmOne K (.ref C4) (.ref C3) = some false := exm_other ee3 ei3 et3 ep_TooWide_BadSaying
theorem txt_mk {K : PySem.W.Frag} {h : Heap} {mg : Str → Option Value} (X : K.In h) (G : h.Ns mainGlobals mg) {C0 C1 C2 C3 C4 CO_Primes : Addr} {CB : Addr} {tk_MOST_MODULUS : Tok}
    (z_abs : PySem.W.nsIn K mainGlobals "abs" = some none)
    (z_all : PySem.W.nsIn K mainGlobals "all" = some none)
    (z_int : PySem.W.nsIn K mainGlobals "int" = some none)
    (z_isinstance : PySem.W.nsIn K mainGlobals "isinstance" = some none)
    (z_len : PySem.W.nsIn K mainGlobals "len" = some none)
    (z_list : PySem.W.nsIn K mainGlobals "list" = some none)
    (z_max : PySem.W.nsIn K mainGlobals "max" = some none)
    (z_range : PySem.W.nsIn K mainGlobals "range" = some none)
    (z_set : PySem.W.nsIn K mainGlobals "set" = some none)
    (z_sorted : PySem.W.nsIn K mainGlobals "sorted" = some none)
    (z_str : PySem.W.nsIn K mainGlobals "str" = some none)
    (z_tuple : PySem.W.nsIn K mainGlobals "tuple" = some none)
    (q_MOST_MODULUS : PySem.W.nsIn K mainGlobals "MOST_MODULUS" = some (some (.int 4000 tk_MOST_MODULUS)))
    (og_Primes : PySem.W.nsIn K mainGlobals "Primes" = some (some (.ref CO_Primes)))
    (hc_Primes : ClsH K CO_Primes)
    (onf_Primes_modulus : PySem.W.findIn K (.ref CO_Primes) "modulus" = some none)
    (onf_Primes_rests : PySem.W.findIn K (.ref CO_Primes) "rests" = some none)
    (onf_Primes_singles : PySem.W.findIn K (.ref CO_Primes) "singles" = some none)
    (d_law_take : DefAt K mg "_law_take" s_law_take ["_law_pool_here", "_law_limit"])
    (d_law_common : DefAt K mg "_law_common" s_law_common ["_law_a", "_law_b"])
    (d_law_units : DefAt K mg "_law_units" s_law_units ["_law_modulus"])
    (d_law_described : DefAt K mg "_law_described" s_law_described ["_law_pool_here", "_law_widest"])
    (d_checked_modulus : DefAt K mg "checked_modulus" s_checked_modulus ["modulus"])
    (d_is_prime : DefAt K mg "is_prime" s_is_prime ["n"])
    (d_checked_singles : DefAt K mg "checked_singles" s_checked_singles ["singles"])
    (d_common : DefAt K mg "common" s_common ["a", "b"])
    (d_factors : DefAt K mg "factors" s_factors ["n"])
    (d_units : DefAt K mg "units" s_units ["modulus"])
    (d_shortened : DefAt K mg "shortened" s_shortened ["modulus", "rests", "prime"])
    (d_toggled : DefAt K mg "toggled" s_toggled ["singles", "p"])
    (d_told_by : DefAt K mg "told_by" s_told_by ["modulus", "rests", "p"])
    (d_least_description : DefAt K mg "least_description" s_least_description ["modulus", "rests", "singles"])
    (d_Primes_init : MkAt K mg "Primes" CO_Primes "Primes.__init__" s_Primes_init ["self", "modulus", "rests", "singles"])
    (d_Primes_str : MethAt K CO_Primes "__str__" "Primes.__str__" s_Primes_str ["self"])
    (d_law_text : DefAt K mg "_law_text" s_law_text ["_law_row"])
    (d_is_number : DefAt K mg "is_number" s_is_number ["word"])
    (d_expected : DefAt K mg "expected" s_expected ["words", "at", "word"])
    (d_numbers_from : DefAt K mg "numbers_from" s_numbers_from ["words", "at"])
    (d_Primes_read : CMAt K CO_Primes "read" "Primes.read" s_Primes_read)
    (d_law_is_number : DefAt K mg "_law_is_number" s_law_is_number ["_law_word"])
    (d_law_read : DefAt K mg "_law_read" s_law_read ["_law_words"])
    (d_law_is_odd_prime : DefAt K mg "_law_is_odd_prime" s_law_is_odd_prime ["_law_n"])
    (d_law_due : DefAt K mg "_law_due" s_law_due ["_law_words"])
    (d_law_told : DefAt K mg "_law_told" s_law_told ["_law_words"])
    (d_Primes_eq : MethAt K CO_Primes "__eq__" "Primes.__eq__" s_Primes_eq ["self", "other"])
    (d_law_cell : DefAt K mg "_law_cell" s_law_cell ["_law_script", "_law_k"])
    (d_law_pool : DefAt K mg "_law_pool" s_law_pool ["_law_cell_here"])
    (gB : PySem.W.nsIn K mainGlobals "ClockError" = some (some (.ref CB)))
    (rB : PySem.W.readsIn K CB (.type "type") = true)
    (aB : PySem.W.specialIn K (.ref CB) "__getattribute__" = some (some (.builtin "type.__getattribute__")))
    (iB : PySem.W.findCls K (.ref CB) (.type "type") "__init__" = some (.val (.builtin "ValueError.__init__")))
    (r_BadModulus : ErrRaw K mg "BadModulus" C0 s_BadModulus_init "BadModulus.__init__" ["self", "modulus"])
    (en0_modulus : PySem.W.findIn K (.ref C0) "modulus" = some none)
    (r_BadPrime : ErrRaw K mg "BadPrime" C1 s_BadPrime_init "BadPrime.__init__" ["self", "p"])
    (en1_p : PySem.W.findIn K (.ref C1) "p" = some none)
    (r_BadRest : ErrRaw K mg "BadRest" C2 s_BadRest_init "BadRest.__init__" ["self", "rest"])
    (en2_rest : PySem.W.findIn K (.ref C2) "rest" = some none)
    (r_BadSaying : ErrRaw K mg "BadSaying" C3 s_BadSaying_init "BadSaying.__init__" ["self", "at"])
    (en3_at : PySem.W.findIn K (.ref C3) "at" = some none)
    (r_TooWide : ErrRaw K mg "TooWide" C4 s_TooWide_init "TooWide.__init__" ["self", "modulus"])
    (en4_modulus : PySem.W.findIn K (.ref C4) "modulus" = some none)
    (xn_BadModulus_BadSaying : PySem.W.exmOne K (.ref C0) (.ref C3) = some false)
    (xn_BadPrime_BadModulus : PySem.W.exmOne K (.ref C1) (.ref C0) = some false)
    (xn_BadPrime_BadRest : PySem.W.exmOne K (.ref C1) (.ref C2) = some false)
    (xn_BadPrime_BadSaying : PySem.W.exmOne K (.ref C1) (.ref C3) = some false)
    (xn_BadPrime_TooWide : PySem.W.exmOne K (.ref C1) (.ref C4) = some false)
    (xn_BadRest_BadModulus : PySem.W.exmOne K (.ref C2) (.ref C0) = some false)
    (xn_BadRest_BadSaying : PySem.W.exmOne K (.ref C2) (.ref C3) = some false)
    (xn_BadRest_TooWide : PySem.W.exmOne K (.ref C2) (.ref C4) = some false)
    (xn_TooWide_BadModulus : PySem.W.exmOne K (.ref C4) (.ref C0) = some false)
    (xn_TooWide_BadSaying : PySem.W.exmOne K (.ref C4) (.ref C3) = some false) :
    Txt K mg ⟨C0, C1, C2, C3, C4, CO_Primes, CB, tk_MOST_MODULUS⟩ := {
    b_abs := PySem.W.mg_none_of X G z_abs
    b_all := PySem.W.mg_none_of X G z_all
    b_int := PySem.W.mg_none_of X G z_int
    b_isinstance := PySem.W.mg_none_of X G z_isinstance
    b_len := PySem.W.mg_none_of X G z_len
    b_list := PySem.W.mg_none_of X G z_list
    b_max := PySem.W.mg_none_of X G z_max
    b_range := PySem.W.mg_none_of X G z_range
    b_set := PySem.W.mg_none_of X G z_set
    b_sorted := PySem.W.mg_none_of X G z_sorted
    b_str := PySem.W.mg_none_of X G z_str
    b_tuple := PySem.W.mg_none_of X G z_tuple
    k_MOST_MODULUS := PySem.W.mg_of X G q_MOST_MODULUS
    g_Primes := PySem.W.mg_of X G og_Primes
    cl_Primes := ⟨hc_Primes.opg, hc_Primes.ohd, hc_Primes.opo, hc_Primes.osa⟩
    ty_Primes := fun H a dx fs h => .base (.ins h ⟨hc_Primes.opg, hc_Primes.ohd, hc_Primes.opo, hc_Primes.osa⟩ hc_Primes.oha hc_Primes.ohn hc_Primes.otk hc_Primes.omr)
    ki_Primes := kit_self
    kl_Primes := kit_list hc_Primes.oci hc_Primes.oct
    nl_Primes := notFirst_list
    nf_Primes_modulus := onf_Primes_modulus
    nf_Primes_rests := onf_Primes_rests
    nf_Primes_singles := onf_Primes_singles
    d_law_take := d_law_take
    d_law_common := d_law_common
    d_law_units := d_law_units
    d_law_described := d_law_described
    d_checked_modulus := d_checked_modulus
    d_is_prime := d_is_prime
    d_checked_singles := d_checked_singles
    d_common := d_common
    d_factors := d_factors
    d_units := d_units
    d_shortened := d_shortened
    d_toggled := d_toggled
    d_told_by := d_told_by
    d_least_description := d_least_description
    d_Primes_init := d_Primes_init
    d_Primes_str := d_Primes_str
    d_law_text := d_law_text
    d_is_number := d_is_number
    d_expected := d_expected
    d_numbers_from := d_numbers_from
    d_Primes_read := d_Primes_read
    d_law_is_number := d_law_is_number
    d_law_read := d_law_read
    d_law_is_odd_prime := d_law_is_odd_prime
    d_law_due := d_law_due
    d_law_told := d_law_told
    d_Primes_eq := d_Primes_eq
    d_law_cell := d_law_cell
    d_law_pool := d_law_pool
    base := ⟨PySem.W.mg_of X G gB, rB, aB, iB⟩
    r_BadModulus := r_BadModulus
    no_BadModulus_modulus := en0_modulus
    r_BadPrime := r_BadPrime
    no_BadPrime_p := en1_p
    r_BadRest := r_BadRest
    no_BadRest_rest := en2_rest
    r_BadSaying := r_BadSaying
    no_BadSaying_at := en3_at
    r_TooWide := r_TooWide
    no_TooWide_modulus := en4_modulus
    xn_BadModulus_BadSaying := xn_BadModulus_BadSaying
    xn_BadPrime_BadModulus := xn_BadPrime_BadModulus
    xn_BadPrime_BadRest := xn_BadPrime_BadRest
    xn_BadPrime_BadSaying := xn_BadPrime_BadSaying
    xn_BadPrime_TooWide := xn_BadPrime_TooWide
    xn_BadRest_BadModulus := xn_BadRest_BadModulus
    xn_BadRest_BadSaying := xn_BadRest_BadSaying
    xn_BadRest_TooWide := xn_BadRest_TooWide
    xn_TooWide_BadModulus := xn_TooWide_BadModulus
    xn_TooWide_BadSaying := xn_TooWide_BadSaying
    triv := trivial
  }
theorem all_mk {P : Program} {w : World} {K : PySem.W.Frag} {h : Heap} {mg : Str → Option Value} {fa : Addr} (X : K.In h) (G : h.Ns mainGlobals mg) (hfa : mg "law" = some (.ref fa)) {Ad : Adr} (T : Txt K mg Ad) {f29 : Addr} {od29 an29 : Option Addr} {sl29 : Array (Option Value)} {oc29 kV29 dc29 pm29 cd29 ct29 : Value} (a29 : PySem.W.nsIn K mainGlobals "law" = some (some (.ref f29))) (l29 : K.lookup f29 = some ⟨oc29, od29, .func (PySem.W.fnOf "law" "law" (defArgs s_law) (defBody s_law) (defScope s_law) .none kV29 dc29 pm29 an29 cd29 ct29), sl29⟩) (c29 : PySem.W.codeIn K cd29 "law" = true) (k29 : PySem.W.keepIn K (.ref f29) = true) :
    ∃ fd : FuncData, (∀ (s : Shared) (v : Value), BindsTo s fd ⟨[v], []⟩ [("_law_script", v)]) ∧ ∀ base : Heap, K.In base → base.Ns mainGlobals mg → FnOk P w K mg base (L2.CX P w) 9 fa fd ["_law_script"] (spLaw K) := by
  have e := hfa.symm.trans (PySem.W.mg_of X G a29)
  cases e
  have F := fun_mk (st := s_law) l29 c29 k29
  exact ⟨_, fun s v => .of_eq rfl, fun base _ _ => ok_law (base := base) F T⟩
theorem walk {l : PySem.W.OpenLaw} {q : Program} {loose : List Str} {XP : (Str → Option Value) → Heap → Prop} {YP : World → Heap → Prop} {d : DefRec} {K : Params → PySem.W.Frag} (hn : l.most = some 63) (hdf : d.params.defaults = [])
    (hY : ∀ (w : World) (h : Heap), YP w h → (K w.params).In h)
    (F : ∀ (w : World) (mg : Str → Option Value) (fa : Addr) (h : Heap), (K w.params).In h → h.Ns mainGlobals mg → mg d.name = some (.ref fa) →
      ∃ fd : FuncData, (∀ (s : Shared) (u : Value), BindsTo s fd ⟨[u], []⟩ [("_law_script", u)]) ∧ ∀ base : Heap, (K w.params).In base → base.Ns mainGlobals mg → FnOk l.prog w (K w.params) mg base (L2.CX l.prog w) 9 fa fd ["_law_script"] (spLaw (K w.params))) :
    PySem.W.WalkO q loose XP YP l.row.toRowW d [] (fun f vs => PySem.call f vs) :=
  L2.walk_of (n := 63) (k := 9) (x := "_law_script") (CX := fun w => L2.CX l.prog w) (sp := fun w => spLaw (K w.params)) hn (by decide) hdf ⟨rfl, by decide, by decide⟩ hY F (fun _ _ a ns hl hO hS => ⟨a, ns, rfl, hS, hl, NoT.only hO, fun _ => rfl⟩) fun _ _ _ _ _ h => by
    obtain ⟨_, _, _, _, _, _, _, _, _, _, _, _, z⟩ := h
    exact z.elim
end My
open PySem PySem.W PyProof.Rows
set_option maxRecDepth 100000 in
set_option maxHeartbeats 0 in
theorem PySem.Challenge.cw_everyprime_k45_sets_written_and_read_holds : PySem.Challenge.rw_everyprime_k45_sets_written_and_read.Holds := by
  refine My.hd_top ?_
  k_fill
  refine My.walk (l := PySem.Challenge.rw_everyprime_k45_sets_written_and_read) rfl rfl (fun w h Y => PySem.W.kIn_of Y) ?F
  case F =>
    intro w mg fa h KX G hmg
    refine' My.all_mk KX G hmg (My.txt_mk KX G ?z_abs ?z_all ?z_int ?z_isinstance ?z_len ?z_list ?z_max ?z_range ?z_set ?z_sorted ?z_str ?z_tuple ?q_MOST_MODULUS ?og_Primes ?hc_Primes ?onf_Primes_modulus ?onf_Primes_rests ?onf_Primes_singles ?d_law_take ?d_law_common ?d_law_units ?d_law_described ?d_checked_modulus ?d_is_prime ?d_checked_singles ?d_common ?d_factors ?d_units ?d_shortened ?d_toggled ?d_told_by ?d_least_description ?d_Primes_init ?d_Primes_str ?d_law_text ?d_is_number ?d_expected ?d_numbers_from ?d_Primes_read ?d_law_is_number ?d_law_read ?d_law_is_odd_prime ?d_law_due ?d_law_told ?d_Primes_eq ?d_law_cell ?d_law_pool ?gB ?rB ?aB ?iB ?r_BadModulus ?en0_modulus ?r_BadPrime ?en1_p ?r_BadRest ?en2_rest ?r_BadSaying ?en3_at ?r_TooWide ?en4_modulus ?xn_BadModulus_BadSaying ?xn_BadPrime_BadModulus ?xn_BadPrime_BadRest ?xn_BadPrime_BadSaying ?xn_BadPrime_TooWide ?xn_BadRest_BadModulus ?xn_BadRest_BadSaying ?xn_BadRest_TooWide ?xn_TooWide_BadModulus ?xn_TooWide_BadSaying) ?a29 ?l29 ?c29 ?k29
    (case z_abs => as_aux_lemma => k_is)
    (case z_all => as_aux_lemma => k_is)
    (case z_int => as_aux_lemma => k_is)
    (case z_isinstance => as_aux_lemma => k_is)
    (case z_len => as_aux_lemma => k_is)
    (case z_list => as_aux_lemma => k_is)
    (case z_max => as_aux_lemma => k_is)
    (case z_range => as_aux_lemma => k_is)
    (case z_set => as_aux_lemma => k_is)
    (case z_sorted => as_aux_lemma => k_is)
    (case z_str => as_aux_lemma => k_is)
    (case z_tuple => as_aux_lemma => k_is)
    (case q_MOST_MODULUS => as_aux_lemma => k_is)
    (case og_Primes => as_aux_lemma => k_is)
    (case hc_Primes => (refine' My.ClsH.mk ?y1_opg_Primes ?y1_ohd_Primes ?y1_opo_Primes ?y1_osa_Primes ?y1_omk_Primes ?y1_okc_Primes ?y1_oha_Primes ?y1_ohn_Primes ?y1_otk_Primes ?y1_omr_Primes ?y1_oci_Primes ?y1_oct_Primes; (case y1_opg_Primes => as_aux_lemma => k_is); (case y1_ohd_Primes => as_aux_lemma => k_is); (case y1_opo_Primes => as_aux_lemma => k_is); (case y1_osa_Primes => as_aux_lemma => k_is); (case y1_omk_Primes => as_aux_lemma => k_is); (case y1_okc_Primes => as_aux_lemma => k_is); (case y1_oha_Primes => as_aux_lemma => k_is); (case y1_ohn_Primes => as_aux_lemma => k_is); (case y1_otk_Primes => as_aux_lemma => k_is); (case y1_omr_Primes => as_aux_lemma => k_is); (case y1_oci_Primes => as_aux_lemma => k_is); (case y1_oct_Primes => as_aux_lemma => k_is)))
    (case onf_Primes_modulus => as_aux_lemma => k_is)
    (case onf_Primes_rests => as_aux_lemma => k_is)
    (case onf_Primes_singles => as_aux_lemma => k_is)
    (case d_law_take => (refine' My.at_law_take KX G ?y2_a0 ?y2_l0 ?y2_c0 ?y2_k0; (case y2_a0 => as_aux_lemma => k_is); (case y2_l0 => as_aux_lemma => k_is); (case y2_c0 => as_aux_lemma => k_is); (case y2_k0 => as_aux_lemma => k_is)))
    (case d_law_common => (refine' My.at_law_common KX G ?y3_a1 ?y3_l1 ?y3_c1 ?y3_k1; (case y3_a1 => as_aux_lemma => k_is); (case y3_l1 => as_aux_lemma => k_is); (case y3_c1 => as_aux_lemma => k_is); (case y3_k1 => as_aux_lemma => k_is)))
    (case d_law_units => (refine' My.at_law_units KX G ?y4_a2 ?y4_l2 ?y4_c2 ?y4_k2; (case y4_a2 => as_aux_lemma => k_is); (case y4_l2 => as_aux_lemma => k_is); (case y4_c2 => as_aux_lemma => k_is); (case y4_k2 => as_aux_lemma => k_is)))
    (case d_law_described => (refine' My.at_law_described KX G ?y5_a3 ?y5_l3 ?y5_c3 ?y5_k3; (case y5_a3 => as_aux_lemma => k_is); (case y5_l3 => as_aux_lemma => k_is); (case y5_c3 => as_aux_lemma => k_is); (case y5_k3 => as_aux_lemma => k_is)))
    (case d_checked_modulus => (refine' My.at_checked_modulus KX G ?y6_a4 ?y6_l4 ?y6_c4 ?y6_k4; (case y6_a4 => as_aux_lemma => k_is); (case y6_l4 => as_aux_lemma => k_is); (case y6_c4 => as_aux_lemma => k_is); (case y6_k4 => as_aux_lemma => k_is)))
    (case d_is_prime => (refine' My.at_is_prime KX G ?y7_a5 ?y7_l5 ?y7_c5 ?y7_k5; (case y7_a5 => as_aux_lemma => k_is); (case y7_l5 => as_aux_lemma => k_is); (case y7_c5 => as_aux_lemma => k_is); (case y7_k5 => as_aux_lemma => k_is)))
    (case d_checked_singles => (refine' My.at_checked_singles KX G ?y8_a6 ?y8_l6 ?y8_c6 ?y8_k6; (case y8_a6 => as_aux_lemma => k_is); (case y8_l6 => as_aux_lemma => k_is); (case y8_c6 => as_aux_lemma => k_is); (case y8_k6 => as_aux_lemma => k_is)))
    (case d_common => (refine' My.at_common KX G ?y9_a7 ?y9_l7 ?y9_c7 ?y9_k7; (case y9_a7 => as_aux_lemma => k_is); (case y9_l7 => as_aux_lemma => k_is); (case y9_c7 => as_aux_lemma => k_is); (case y9_k7 => as_aux_lemma => k_is)))
    (case d_factors => (refine' My.at_factors KX G ?y10_a8 ?y10_l8 ?y10_c8 ?y10_k8; (case y10_a8 => as_aux_lemma => k_is); (case y10_l8 => as_aux_lemma => k_is); (case y10_c8 => as_aux_lemma => k_is); (case y10_k8 => as_aux_lemma => k_is)))
    (case d_units => (refine' My.at_units KX G ?y11_a9 ?y11_l9 ?y11_c9 ?y11_k9; (case y11_a9 => as_aux_lemma => k_is); (case y11_l9 => as_aux_lemma => k_is); (case y11_c9 => as_aux_lemma => k_is); (case y11_k9 => as_aux_lemma => k_is)))
    (case d_shortened => (refine' My.at_shortened KX G ?y12_a10 ?y12_l10 ?y12_c10 ?y12_k10; (case y12_a10 => as_aux_lemma => k_is); (case y12_l10 => as_aux_lemma => k_is); (case y12_c10 => as_aux_lemma => k_is); (case y12_k10 => as_aux_lemma => k_is)))
    (case d_toggled => (refine' My.at_toggled KX G ?y13_a11 ?y13_l11 ?y13_c11 ?y13_k11; (case y13_a11 => as_aux_lemma => k_is); (case y13_l11 => as_aux_lemma => k_is); (case y13_c11 => as_aux_lemma => k_is); (case y13_k11 => as_aux_lemma => k_is)))
    (case d_told_by => (refine' My.at_told_by KX G ?y14_a12 ?y14_l12 ?y14_c12 ?y14_k12; (case y14_a12 => as_aux_lemma => k_is); (case y14_l12 => as_aux_lemma => k_is); (case y14_c12 => as_aux_lemma => k_is); (case y14_k12 => as_aux_lemma => k_is)))
    (case d_least_description => (refine' My.at_least_description KX G ?y15_a13 ?y15_l13 ?y15_c13 ?y15_k13; (case y15_a13 => as_aux_lemma => k_is); (case y15_l13 => as_aux_lemma => k_is); (case y15_c13 => as_aux_lemma => k_is); (case y15_k13 => as_aux_lemma => k_is)))
    (case d_Primes_init => (refine' My.at_Primes_init KX G ?y16_og_Primes ?y16_hc_Primes ?y16_a14 ?y16_i14 ?y16_l14 ?y16_c14 ?y16_k14; (case y16_og_Primes => as_aux_lemma => k_is); (case y16_hc_Primes => (refine' My.ClsH.mk ?y16_opg ?y16_ohd ?y16_opo ?y16_osa ?y16_omk ?y16_okc ?y16_oha ?y16_ohn ?y16_otk ?y16_omr ?y16_oci ?y16_oct; (case y16_opg => as_aux_lemma => k_is); (case y16_ohd => as_aux_lemma => k_is); (case y16_opo => as_aux_lemma => k_is); (case y16_osa => as_aux_lemma => k_is); (case y16_omk => as_aux_lemma => k_is); (case y16_okc => as_aux_lemma => k_is); (case y16_oha => as_aux_lemma => k_is); (case y16_ohn => as_aux_lemma => k_is); (case y16_otk => as_aux_lemma => k_is); (case y16_omr => as_aux_lemma => k_is); (case y16_oci => as_aux_lemma => k_is); (case y16_oct => as_aux_lemma => k_is))); (case y16_a14 => as_aux_lemma => k_is); (case y16_i14 => as_aux_lemma => k_is); (case y16_l14 => as_aux_lemma => k_is); (case y16_c14 => as_aux_lemma => k_is); (case y16_k14 => as_aux_lemma => k_is)))
    (case d_Primes_str => (refine' My.at_Primes_str ?y17_a15 ?y17_i15 ?y17_l15 ?y17_c15 ?y17_k15; (case y17_a15 => as_aux_lemma => k_is); (case y17_i15 => as_aux_lemma => k_is); (case y17_l15 => as_aux_lemma => k_is); (case y17_c15 => as_aux_lemma => k_is); (case y17_k15 => as_aux_lemma => k_is)))
    (case d_law_text => (refine' My.at_law_text KX G ?y18_a16 ?y18_l16 ?y18_c16 ?y18_k16; (case y18_a16 => as_aux_lemma => k_is); (case y18_l16 => as_aux_lemma => k_is); (case y18_c16 => as_aux_lemma => k_is); (case y18_k16 => as_aux_lemma => k_is)))
    (case d_is_number => (refine' My.at_is_number KX G ?y19_a17 ?y19_l17 ?y19_c17 ?y19_k17; (case y19_a17 => as_aux_lemma => k_is); (case y19_l17 => as_aux_lemma => k_is); (case y19_c17 => as_aux_lemma => k_is); (case y19_k17 => as_aux_lemma => k_is)))
    (case d_expected => (refine' My.at_expected KX G ?y20_a18 ?y20_l18 ?y20_c18 ?y20_k18; (case y20_a18 => as_aux_lemma => k_is); (case y20_l18 => as_aux_lemma => k_is); (case y20_c18 => as_aux_lemma => k_is); (case y20_k18 => as_aux_lemma => k_is)))
    (case d_numbers_from => (refine' My.at_numbers_from KX G ?y21_a19 ?y21_l19 ?y21_c19 ?y21_k19; (case y21_a19 => as_aux_lemma => k_is); (case y21_l19 => as_aux_lemma => k_is); (case y21_c19 => as_aux_lemma => k_is); (case y21_k19 => as_aux_lemma => k_is)))
    (case d_Primes_read => (refine' My.at_Primes_read ?y22_cr20 ?y22_cg20 ?y22_cm20 ?y22_cc20 ?y22_cf20 ?y22_l20 ?y22_c20 ?y22_k20; (case y22_cr20 => as_aux_lemma => k_is); (case y22_cg20 => as_aux_lemma => k_is); (case y22_cm20 => as_aux_lemma => k_is); (case y22_cc20 => as_aux_lemma => k_is); (case y22_cf20 => as_aux_lemma => k_is); (case y22_l20 => as_aux_lemma => k_is); (case y22_c20 => as_aux_lemma => k_is); (case y22_k20 => as_aux_lemma => k_is)))
    (case d_law_is_number => (refine' My.at_law_is_number KX G ?y23_a21 ?y23_l21 ?y23_c21 ?y23_k21; (case y23_a21 => as_aux_lemma => k_is); (case y23_l21 => as_aux_lemma => k_is); (case y23_c21 => as_aux_lemma => k_is); (case y23_k21 => as_aux_lemma => k_is)))
    (case d_law_read => (refine' My.at_law_read KX G ?y24_a22 ?y24_l22 ?y24_c22 ?y24_k22; (case y24_a22 => as_aux_lemma => k_is); (case y24_l22 => as_aux_lemma => k_is); (case y24_c22 => as_aux_lemma => k_is); (case y24_k22 => as_aux_lemma => k_is)))
    (case d_law_is_odd_prime => (refine' My.at_law_is_odd_prime KX G ?y25_a23 ?y25_l23 ?y25_c23 ?y25_k23; (case y25_a23 => as_aux_lemma => k_is); (case y25_l23 => as_aux_lemma => k_is); (case y25_c23 => as_aux_lemma => k_is); (case y25_k23 => as_aux_lemma => k_is)))
    (case d_law_due => (refine' My.at_law_due KX G ?y26_a24 ?y26_l24 ?y26_c24 ?y26_k24; (case y26_a24 => as_aux_lemma => k_is); (case y26_l24 => as_aux_lemma => k_is); (case y26_c24 => as_aux_lemma => k_is); (case y26_k24 => as_aux_lemma => k_is)))
    (case d_law_told => (refine' My.at_law_told KX G ?y27_a25 ?y27_l25 ?y27_c25 ?y27_k25; (case y27_a25 => as_aux_lemma => k_is); (case y27_l25 => as_aux_lemma => k_is); (case y27_c25 => as_aux_lemma => k_is); (case y27_k25 => as_aux_lemma => k_is)))
    (case d_Primes_eq => (refine' My.at_Primes_eq ?y28_a26 ?y28_i26 ?y28_l26 ?y28_c26 ?y28_k26; (case y28_a26 => as_aux_lemma => k_is); (case y28_i26 => as_aux_lemma => k_is); (case y28_l26 => as_aux_lemma => k_is); (case y28_c26 => as_aux_lemma => k_is); (case y28_k26 => as_aux_lemma => k_is)))
    (case d_law_cell => (refine' My.at_law_cell KX G ?y29_a27 ?y29_l27 ?y29_c27 ?y29_k27; (case y29_a27 => as_aux_lemma => k_is); (case y29_l27 => as_aux_lemma => k_is); (case y29_c27 => as_aux_lemma => k_is); (case y29_k27 => as_aux_lemma => k_is)))
    (case d_law_pool => (refine' My.at_law_pool KX G ?y30_a28 ?y30_l28 ?y30_c28 ?y30_k28; (case y30_a28 => as_aux_lemma => k_is); (case y30_l28 => as_aux_lemma => k_is); (case y30_c28 => as_aux_lemma => k_is); (case y30_k28 => as_aux_lemma => k_is)))
    (case gB => as_aux_lemma => k_is)
    (case rB => as_aux_lemma => k_is)
    (case aB => as_aux_lemma => k_is)
    (case iB => as_aux_lemma => k_is)
    (case r_BadModulus => (refine' My.er_BadModulus KX G ?y31_eg0 ?y31_ex0 ?y31_eb0 ?y31_es0 ?y31_ee0 ?y31_et0 ?y31_ek0 ?y31_ega0 ?y31_egg0 ?y31_eh0 ?y31_ei0 ?y31_eu0 ?y31_ef0 ?y31_ey0 ?y31_el0 ?y31_ec0 ?y31_ej0; (case y31_eg0 => as_aux_lemma => k_is); (case y31_ex0 => as_aux_lemma => k_is); (case y31_eb0 => as_aux_lemma => decide +kernel); (case y31_es0 => as_aux_lemma => k_is); (case y31_ee0 => as_aux_lemma => k_is); (case y31_et0 => as_aux_lemma => k_is); (case y31_ek0 => as_aux_lemma => k_is); (case y31_ega0 => as_aux_lemma => k_is); (case y31_egg0 => as_aux_lemma => k_is); (case y31_eh0 => as_aux_lemma => k_is); (case y31_ei0 => as_aux_lemma => k_is); (case y31_eu0 => as_aux_lemma => first | rfl | k_is); (case y31_ef0 => as_aux_lemma => k_is); (case y31_ey0 => as_aux_lemma => k_is); (case y31_el0 => as_aux_lemma => k_is); (case y31_ec0 => as_aux_lemma => k_is); (case y31_ej0 => as_aux_lemma => k_is)))
    (case en0_modulus => as_aux_lemma => k_is)
    (case r_BadPrime => (refine' My.er_BadPrime KX G ?y32_eg1 ?y32_ex1 ?y32_eb1 ?y32_es1 ?y32_ee1 ?y32_et1 ?y32_ek1 ?y32_ega1 ?y32_egg1 ?y32_eh1 ?y32_ei1 ?y32_eu1 ?y32_ef1 ?y32_ey1 ?y32_el1 ?y32_ec1 ?y32_ej1; (case y32_eg1 => as_aux_lemma => k_is); (case y32_ex1 => as_aux_lemma => k_is); (case y32_eb1 => as_aux_lemma => decide +kernel); (case y32_es1 => as_aux_lemma => k_is); (case y32_ee1 => as_aux_lemma => k_is); (case y32_et1 => as_aux_lemma => k_is); (case y32_ek1 => as_aux_lemma => k_is); (case y32_ega1 => as_aux_lemma => k_is); (case y32_egg1 => as_aux_lemma => k_is); (case y32_eh1 => as_aux_lemma => k_is); (case y32_ei1 => as_aux_lemma => k_is); (case y32_eu1 => as_aux_lemma => first | rfl | k_is); (case y32_ef1 => as_aux_lemma => k_is); (case y32_ey1 => as_aux_lemma => k_is); (case y32_el1 => as_aux_lemma => k_is); (case y32_ec1 => as_aux_lemma => k_is); (case y32_ej1 => as_aux_lemma => k_is)))
    (case en1_p => as_aux_lemma => k_is)
    (case r_BadRest => (refine' My.er_BadRest KX G ?y33_eg2 ?y33_ex2 ?y33_eb2 ?y33_es2 ?y33_ee2 ?y33_et2 ?y33_ek2 ?y33_ega2 ?y33_egg2 ?y33_eh2 ?y33_ei2 ?y33_eu2 ?y33_ef2 ?y33_ey2 ?y33_el2 ?y33_ec2 ?y33_ej2; (case y33_eg2 => as_aux_lemma => k_is); (case y33_ex2 => as_aux_lemma => k_is); (case y33_eb2 => as_aux_lemma => decide +kernel); (case y33_es2 => as_aux_lemma => k_is); (case y33_ee2 => as_aux_lemma => k_is); (case y33_et2 => as_aux_lemma => k_is); (case y33_ek2 => as_aux_lemma => k_is); (case y33_ega2 => as_aux_lemma => k_is); (case y33_egg2 => as_aux_lemma => k_is); (case y33_eh2 => as_aux_lemma => k_is); (case y33_ei2 => as_aux_lemma => k_is); (case y33_eu2 => as_aux_lemma => first | rfl | k_is); (case y33_ef2 => as_aux_lemma => k_is); (case y33_ey2 => as_aux_lemma => k_is); (case y33_el2 => as_aux_lemma => k_is); (case y33_ec2 => as_aux_lemma => k_is); (case y33_ej2 => as_aux_lemma => k_is)))
    (case en2_rest => as_aux_lemma => k_is)
    (case r_BadSaying => (refine' My.er_BadSaying KX G ?y34_eg3 ?y34_ex3 ?y34_eb3 ?y34_es3 ?y34_ee3 ?y34_et3 ?y34_ek3 ?y34_ega3 ?y34_egg3 ?y34_eh3 ?y34_ei3 ?y34_eu3 ?y34_ef3 ?y34_ey3 ?y34_el3 ?y34_ec3 ?y34_ej3; (case y34_eg3 => as_aux_lemma => k_is); (case y34_ex3 => as_aux_lemma => k_is); (case y34_eb3 => as_aux_lemma => decide +kernel); (case y34_es3 => as_aux_lemma => k_is); (case y34_ee3 => as_aux_lemma => k_is); (case y34_et3 => as_aux_lemma => k_is); (case y34_ek3 => as_aux_lemma => k_is); (case y34_ega3 => as_aux_lemma => k_is); (case y34_egg3 => as_aux_lemma => k_is); (case y34_eh3 => as_aux_lemma => k_is); (case y34_ei3 => as_aux_lemma => k_is); (case y34_eu3 => as_aux_lemma => first | rfl | k_is); (case y34_ef3 => as_aux_lemma => k_is); (case y34_ey3 => as_aux_lemma => k_is); (case y34_el3 => as_aux_lemma => k_is); (case y34_ec3 => as_aux_lemma => k_is); (case y34_ej3 => as_aux_lemma => k_is)))
    (case en3_at => as_aux_lemma => k_is)
    (case r_TooWide => (refine' My.er_TooWide KX G ?y35_eg4 ?y35_ex4 ?y35_eb4 ?y35_es4 ?y35_ee4 ?y35_et4 ?y35_ek4 ?y35_ega4 ?y35_egg4 ?y35_eh4 ?y35_ei4 ?y35_eu4 ?y35_ef4 ?y35_ey4 ?y35_el4 ?y35_ec4 ?y35_ej4; (case y35_eg4 => as_aux_lemma => k_is); (case y35_ex4 => as_aux_lemma => k_is); (case y35_eb4 => as_aux_lemma => decide +kernel); (case y35_es4 => as_aux_lemma => k_is); (case y35_ee4 => as_aux_lemma => k_is); (case y35_et4 => as_aux_lemma => k_is); (case y35_ek4 => as_aux_lemma => k_is); (case y35_ega4 => as_aux_lemma => k_is); (case y35_egg4 => as_aux_lemma => k_is); (case y35_eh4 => as_aux_lemma => k_is); (case y35_ei4 => as_aux_lemma => k_is); (case y35_eu4 => as_aux_lemma => first | rfl | k_is); (case y35_ef4 => as_aux_lemma => k_is); (case y35_ey4 => as_aux_lemma => k_is); (case y35_el4 => as_aux_lemma => k_is); (case y35_ec4 => as_aux_lemma => k_is); (case y35_ej4 => as_aux_lemma => k_is)))
    (case en4_modulus => as_aux_lemma => k_is)
    (case xn_BadModulus_BadSaying => (refine' My.mk_xn_BadModulus_BadSaying ?y36_ee3 ?y36_ei3 ?y36_et3 ?y36_ep_BadModulus_BadSaying; (case y36_ee3 => as_aux_lemma => k_is); (case y36_ei3 => as_aux_lemma => k_is); (case y36_et3 => as_aux_lemma => k_is); (case y36_ep_BadModulus_BadSaying => as_aux_lemma => first | rfl | k_is)))
    (case xn_BadPrime_BadModulus => (refine' My.mk_xn_BadPrime_BadModulus ?y37_ee0 ?y37_ei0 ?y37_et0 ?y37_ep_BadPrime_BadModulus; (case y37_ee0 => as_aux_lemma => k_is); (case y37_ei0 => as_aux_lemma => k_is); (case y37_et0 => as_aux_lemma => k_is); (case y37_ep_BadPrime_BadModulus => as_aux_lemma => first | rfl | k_is)))
    (case xn_BadPrime_BadRest => (refine' My.mk_xn_BadPrime_BadRest ?y38_ee2 ?y38_ei2 ?y38_et2 ?y38_ep_BadPrime_BadRest; (case y38_ee2 => as_aux_lemma => k_is); (case y38_ei2 => as_aux_lemma => k_is); (case y38_et2 => as_aux_lemma => k_is); (case y38_ep_BadPrime_BadRest => as_aux_lemma => first | rfl | k_is)))
    (case xn_BadPrime_BadSaying => (refine' My.mk_xn_BadPrime_BadSaying ?y39_ee3 ?y39_ei3 ?y39_et3 ?y39_ep_BadPrime_BadSaying; (case y39_ee3 => as_aux_lemma => k_is); (case y39_ei3 => as_aux_lemma => k_is); (case y39_et3 => as_aux_lemma => k_is); (case y39_ep_BadPrime_BadSaying => as_aux_lemma => first | rfl | k_is)))
    (case xn_BadPrime_TooWide => (refine' My.mk_xn_BadPrime_TooWide ?y40_ee4 ?y40_ei4 ?y40_et4 ?y40_ep_BadPrime_TooWide; (case y40_ee4 => as_aux_lemma => k_is); (case y40_ei4 => as_aux_lemma => k_is); (case y40_et4 => as_aux_lemma => k_is); (case y40_ep_BadPrime_TooWide => as_aux_lemma => first | rfl | k_is)))
    (case xn_BadRest_BadModulus => (refine' My.mk_xn_BadRest_BadModulus ?y41_ee0 ?y41_ei0 ?y41_et0 ?y41_ep_BadRest_BadModulus; (case y41_ee0 => as_aux_lemma => k_is); (case y41_ei0 => as_aux_lemma => k_is); (case y41_et0 => as_aux_lemma => k_is); (case y41_ep_BadRest_BadModulus => as_aux_lemma => first | rfl | k_is)))
    (case xn_BadRest_BadSaying => (refine' My.mk_xn_BadRest_BadSaying ?y42_ee3 ?y42_ei3 ?y42_et3 ?y42_ep_BadRest_BadSaying; (case y42_ee3 => as_aux_lemma => k_is); (case y42_ei3 => as_aux_lemma => k_is); (case y42_et3 => as_aux_lemma => k_is); (case y42_ep_BadRest_BadSaying => as_aux_lemma => first | rfl | k_is)))
    (case xn_BadRest_TooWide => (refine' My.mk_xn_BadRest_TooWide ?y43_ee4 ?y43_ei4 ?y43_et4 ?y43_ep_BadRest_TooWide; (case y43_ee4 => as_aux_lemma => k_is); (case y43_ei4 => as_aux_lemma => k_is); (case y43_et4 => as_aux_lemma => k_is); (case y43_ep_BadRest_TooWide => as_aux_lemma => first | rfl | k_is)))
    (case xn_TooWide_BadModulus => (refine' My.mk_xn_TooWide_BadModulus ?y44_ee0 ?y44_ei0 ?y44_et0 ?y44_ep_TooWide_BadModulus; (case y44_ee0 => as_aux_lemma => k_is); (case y44_ei0 => as_aux_lemma => k_is); (case y44_et0 => as_aux_lemma => k_is); (case y44_ep_TooWide_BadModulus => as_aux_lemma => first | rfl | k_is)))
    (case xn_TooWide_BadSaying => (refine' My.mk_xn_TooWide_BadSaying ?y45_ee3 ?y45_ei3 ?y45_et3 ?y45_ep_TooWide_BadSaying; (case y45_ee3 => as_aux_lemma => k_is); (case y45_ei3 => as_aux_lemma => k_is); (case y45_et3 => as_aux_lemma => k_is); (case y45_ep_TooWide_BadSaying => as_aux_lemma => first | rfl | k_is)))
    (case a29 => as_aux_lemma => k_is)
    (case l29 => as_aux_lemma => k_is)
    (case c29 => as_aux_lemma => k_is)
    (case k29 => as_aux_lemma => k_is)
#print axioms PySem.Challenge.cw_everyprime_k45_sets_written_and_read_holds
