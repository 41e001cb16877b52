import PyProof.Rows.All
import Wide.All
import OpenK.AllK
import Wide.FinOn
import HandS.Base
import HandS.Call
import HandS.List
import HandS.Ends
import HandS.Words
import HandS.Wide
import HandS.WordsList
import HandS.Comp
import HandS.Exc
import HandS.ExcOwn
import HandS.TryOnly
import HandS.WordsExc
import HandS.ExcInit
import HandS.ExcField
import HandS.ClsMeth
import HandS.Codes
import HandS.NoneIn
import HandS.IsInst
import HandS.SortInts
import HandS.Style
import HandS.Star
import HandS.FStr
import HandS.Iter
import HandS.Dict
import HandS.Walk
import HandS.Strs
import HandS.SetBool
import HandS.SetIn
import HandS.TryMany
import HandS.More
import HandS.DictComp
import HandS.Deep
import KE.KOpsOwn
import HandS.Small
import HandS.TupAny
import HandS.SetFor
import KE.SortData
import HandS.Zip
import KE.KDictZip
import PyProof.ListRange
import HandS.Lambda
import HandS.EndTab
import HandS.HeadWalk
import KE.SortKeyHeap
import KE.KNestM
import PySem.Challenge.RW_everyprime_k78_whole_barred_patterns
set_option Elab.async false
set_option linter.all false
set_option maxRecDepth 100000
set_option maxHeartbeats 4000000
namespace My
section
open PySem PySem.W PyProof.Rows
set_option maxHeartbeats 0
open_top hd_top for PySem.Challenge.rw_everyprime_k78_whole_barred_patterns
end
end My
namespace L2
open PySem PySem.Spec PyProof.Rows
/-- one step of a reading, found by its head -/
class Stp (G : Prop) (N : outParam Prop) : Prop where
  mp : N → G
/-! ### forgetting what was made on the way -/
/-- no dict with tuple keys is tracked -/
def noT : HO -> Bool
  | .dT _ => false
  | .frz _ u => noT u
  | _ => true
def NoT (H : Hp) : Prop := ∀ a o, H a = some o → noT o = true
theorem NoT.upd {H : Hp} {p : Addr} {o : HO} (n : NoT H) (h : noT o = true) : NoT (upd H p o) := fun a u e => by
  by_cases hb : a = p
  · subst hb
    rw [upd_same] at e
    cases e
    exact h
  · rw [upd_ne hb] at e
    exact n a u e
theorem obj_back {P : Program} {w : World} {H H' : Hp} {h h' : Heap} {a : Addr} : ∀ {o : HO}, noT o = true → ObjOk P w H' h' a o → ObjOk P w H h a o → ObjOk P w H h' a o := by
  intro o
  induction o with
  | dT kvs => intro n; cases n
  | frz ob u ih =>
    intro n x y
    exact ⟨x.1, ih n x.2 y.2⟩
  | ins C dx fs =>
    intro n x y
    exact ⟨y.1, x.2⟩
  | lst xs => intro n x y; exact x
  | tup xs => intro n x y; exact x
  | dK kvs => intro n x y; exact x
  | set S m => intro n x y; exact x
  | own z => intro n x y; exact x
  | xd fs => intro n x y; exact x
  | rng lo hi => intro n x y; exact x
  | tbl ps => intro n x y; exact x
  | met f z => intro n x y; exact x
  | ext phi => intro n x y; exact x
theorem hok_back {P : Program} {w : World} {H H' : Hp} {h h' : Heap} (n : NoT H) (x : HOk P w H' h') (y : HOk P w H h) (e : Same H H') : HOk P w H h' := fun a o q =>
  obj_back (n a o q) (x a o (e a o q)) (y a o q)
theorem Inv.forget {X : Cx} {pins pins' : List (Addr × Obj)} {σ σ' : St} {H H' : Hp} {s s' : Shared} (I : Inv X pins σ H s) (J : Inv X pins' σ' H' s') (e : Same H H') (n : NoT H) : Inv X pins' σ' H s' :=
  ⟨J.ok, J.os, J.bare, ⟨J.base.keep, J.base.slot, I.base.free, J.base.there, I.base.tups, I.base.frzs, I.base.tbls⟩, J.loc, J.cell, I.free, I.freeC,
    fun p hp => let ⟨a, b, c⟩ := J.pin p hp; ⟨a, e.free b, c⟩, hok_back n J.hok I.hok e, J.len⟩
/-- an expression whose making leaves things behind that nobody asks of -/
def tPure (t : TE) : TE := fun σ H Q => NoT H ∧ t σ H fun v H' => Same H H' ∧ Q v H
def tPureT (t : TT) : TT := fun σ H Q => NoT H ∧ t σ H fun b H' => Same H H' ∧ Q b H
theorem pt_pure {X : Cx} {e : Expr} {t : TT} (h : PT X e t) : PT X e (tPureT t) :=
  ⟨fun pins s σ H Q I ⟨n, q⟩ => thn (h.run pins s σ H _ I q) fun u s' ⟨H', J, sm, q'⟩ => ⟨H, I.forget J sm n, q'⟩⟩
theorem fn_forget {P : Program} {w : World} {K : PySem.W.Frag} {mg : Str → Option Value} {base : Heap} {CX : CXT} {k : Nat} {f : Addr} {fd : FuncData} {ps : List Str} {sp : Sp} (F : FnOk P w K mg base CX k f fd ps sp) :
    FnOk P w K mg base CX k f fd ps (fun vs H Q E => NoT H ∧ sp vs H (fun v H' => Same H H' ∧ Q v H) E) := by
  refine ⟨fun vs H Q E q => F.len vs H _ E q.2, fun A outer s H args us vs Q E hr he hb hv hs => ?_⟩
  refine codeAny_mono (F.run A outer s H args us vs _ E hr he hb hv hs.2) fun r s' q => ?_
  cases r with
  | error er => exact q
  | ok fl =>
    cases fl with
    | ret u =>
      obtain ⟨v, H2, os2, bare2, un2, hok2, rv, sm, q2⟩ := q
      exact ⟨v, H, os2, bare2, ⟨un2.keep, un2.slot, fun _ _ _ n _ => n, un2.there, fun _ _ q => q, fun _ _ _ q => q, fun _ ps q => ⟨#[], by rw [q]; simp⟩⟩, hok_back hs.1 hok2 he.hok sm, rv, q2⟩
    | next => exact q
    | brk => exact q
    | cont => exact q
end L2
namespace L2
open PySem PySem.Spec PyProof.Rows
/-! ### operators in the forms that are used here -/
def CMulB (i j : Int) : Prop := CMul i j ∨ CMulW i j
theorem CMulB.ok {i j : Int} (h : CMulB i j) : IntMulOk i j := by
  rcases h with h | h
  · exact h.ok
  · exact h.ok
def CDivB (_ j : Int) : Prop := 0 < j ∧ j < 2 ^ 250 ∨ 0 < j ∧ j.natAbs < 2 ^ 9000
section
variable {X : Cx}
theorem op_mulB : OpR X (binaryOp .Mult) (rI CMulB fun i j => .int (i * j)) := opI fun _ _ _ _ _ _ _ hc q => mul_int q hc.ok
theorem CDivB.wide {i j : Int} (h : CDivB i j) : CDivW i j := by
  rcases h with ⟨h1, h2⟩ | ⟨h1, h2⟩
  · refine wide_div (b := 250) h1 ?_ (by decide) (by decide)
    have h3 : j = (j.natAbs : Int) := by omega
    have h4 : (j.natAbs : Int) < ((2 ^ 250 : Nat) : Int) := by
      rw [← h3, Int.natCast_pow]
      exact h2
    exact Int.ofNat_lt.mp h4
  · exact wide_div h1 h2 (by decide) (by decide)
theorem op_fdivB : OpR X (binaryOp .FloorDiv) (rI CDivB fun i j => .int (i / j)) := fun pins s σ H x y v u Q I rx ry ⟨i, j, e1, e2, hc, q⟩ =>
  op_fdivW pins s σ H x y v u Q I rx ry ⟨i, j, e1, e2, hc.wide, q⟩
end
/-! ### the readings, one lemma each -/
section
variable {σ : St} {H : Hp} {Q : VK} {R : Bool → Hp → Prop} {RA : List V → Hp → Prop} {K : PySem.W.Frag} {v x y z : V} {i j : Int} {ta tb tc te : TE} {tt uu : TT} {t t1 t2 u : TS} {tr : TA} {r : R2}
variable {nx : St → Hp → Prop} {rt : VK} {bk ct : St → Hp → Prop}
theorem rd_var {n : Nat} (h : σ[n]? = some (some v)) (q : Q v H) : tVar n σ H Q := ⟨v, h, q⟩
theorem rd_c (q : Q v H) : tC v σ H Q := q
instance st_c  : Stp (tC v σ H Q) (Q v H) := ⟨fun h => rd_c h⟩
theorem rd_op (h : ta σ H fun x H1 => tb σ H1 fun y H2 => r x y H2 Q) : tOp r ta tb σ H Q := h
instance st_op  : Stp (tOp r ta tb σ H Q) (ta σ H fun x H1 => tb σ H1 fun y H2 => r x y H2 Q) := ⟨fun h => rd_op h⟩
theorem rd_un {ru : V → Hp → VK → Prop} (h : ta σ H fun x H1 => ru x H1 Q) : tUn ru ta σ H Q := h
instance st_un {ru : V → Hp → VK → Prop} : Stp (tUn ru ta σ H Q) (ta σ H fun x H1 => ru x H1 Q) := ⟨fun h => rd_un h⟩
theorem rd_I {C : Int → Int → Prop} {g : Int → Int → V} (hc : C i j) (q : Q (g i j) H) : rI C g (.int i) (.int j) H Q := ⟨i, j, rfl, rfl, hc, q⟩
theorem rd_I0 {g : Int → Int → V} (q : Q (g i j) H) : rI0 g (.int i) (.int j) H Q := ⟨i, j, rfl, rfl, q⟩
instance st_I0 {g : Int → Int → V} : Stp (rI0 g (.int i) (.int j) H Q) (Q (g i j) H) := ⟨fun h => rd_I0 h⟩
theorem rd_U {g : Int → V} (q : Q (g i) H) : rU g (.int i) H Q := ⟨i, rfl, q⟩
instance st_U {g : Int → V} : Stp (rU g (.int i) H Q) (Q (g i) H) := ⟨fun h => rd_U h⟩
theorem rd_eqI (q : Q (.bl (decide (i = j))) H) : rEq (.int i) (.int j) H Q := ⟨rfl, by
  have e : decide (V.int i = V.int j) = decide (i = j) := decide_eq_decide.mpr ⟨fun z => V.int.inj z, fun z => by rw [z]⟩
  rw [e]
  exact q⟩
instance st_eqI  : Stp (rEq (.int i) (.int j) H Q) (Q (.bl (decide (i = j))) H) := ⟨fun h => rd_eqI h⟩
theorem rd_neI (q : Q (.bl (!decide (i = j))) H) : rNe (.int i) (.int j) H Q := ⟨rfl, by
  have e : decide (V.int i = V.int j) = decide (i = j) := decide_eq_decide.mpr ⟨fun z => V.int.inj z, fun z => by rw [z]⟩
  rw [e]
  exact q⟩
instance st_neI  : Stp (rNe (.int i) (.int j) H Q) (Q (.bl (!decide (i = j))) H) := ⟨fun h => rd_neI h⟩
theorem rd_eqS {i j : Str} (q : Q (.bl (decide (i = j))) H) : rEq (.str i) (.str j) H Q := ⟨rfl, by
  have e : decide (V.str i = V.str j) = decide (i = j) := decide_eq_decide.mpr ⟨fun z => V.str.inj z, fun z => by rw [z]⟩
  rw [e]
  exact q⟩
instance st_eqS {i j : Str} : Stp (rEq (.str i) (.str j) H Q) (Q (.bl (decide (i = j))) H) := ⟨fun h => rd_eqS h⟩
theorem rd_neS {i j : Str} (q : Q (.bl (!decide (i = j))) H) : rNe (.str i) (.str j) H Q := ⟨rfl, by
  have e : decide (V.str i = V.str j) = decide (i = j) := decide_eq_decide.mpr ⟨fun z => V.str.inj z, fun z => by rw [z]⟩
  rw [e]
  exact q⟩
instance st_neS {i j : Str} : Stp (rNe (.str i) (.str j) H Q) (Q (.bl (!decide (i = j))) H) := ⟨fun h => rd_neS h⟩
theorem rd_eqB {i j : Bool} (q : Q (.bl (decide (i = j))) H) : rEq (.bl i) (.bl j) H Q := ⟨rfl, by
  have e : decide (V.bl i = V.bl j) = decide (i = j) := decide_eq_decide.mpr ⟨fun z => V.bl.inj z, fun z => by rw [z]⟩
  rw [e]
  exact q⟩
instance st_eqB {i j : Bool} : Stp (rEq (.bl i) (.bl j) H Q) (Q (.bl (decide (i = j))) H) := ⟨fun h => rd_eqB h⟩
theorem rd_neB {i j : Bool} (q : Q (.bl (!decide (i = j))) H) : rNe (.bl i) (.bl j) H Q := ⟨rfl, by
  have e : decide (V.bl i = V.bl j) = decide (i = j) := decide_eq_decide.mpr ⟨fun z => V.bl.inj z, fun z => by rw [z]⟩
  rw [e]
  exact q⟩
instance st_neB {i j : Bool} : Stp (rNe (.bl i) (.bl j) H Q) (Q (.bl (!decide (i = j))) H) := ⟨fun h => rd_neB h⟩
theorem rd_test (h : te σ H fun x H' => ∃ k, x = .bl k ∧ R k H') : tTest te σ H R := h
instance st_test  : Stp (tTest te σ H R) (te σ H fun x H' => ∃ k, x = .bl k ∧ R k H') := ⟨fun h => rd_test h⟩
theorem rd_B (h : te σ H fun x H' => ∃ k, x = .bl k ∧ R k H') : tB te σ H R := h
instance st_B  : Stp (tB te σ H R) (te σ H fun x H' => ∃ k, x = .bl k ∧ R k H') := ⟨fun h => rd_B h⟩
theorem rd_k {b : Bool} {P : Bool → Prop} (q : P b) : ∃ k, V.bl b = .bl k ∧ P k := ⟨b, rfl, q⟩
instance st_k {b : Bool} {P : Bool → Prop} : Stp (∃ k, V.bl b = .bl k ∧ P k) (P b) := ⟨fun h => rd_k h⟩
theorem rd_and (h : tt σ H fun c H1 => if c = true then uu σ H1 R else R false H1) : tAnd tt uu σ H R := h
instance st_and  : Stp (tAnd tt uu σ H R) (tt σ H fun c H1 => if c = true then uu σ H1 R else R false H1) := ⟨fun h => rd_and h⟩
theorem rd_or (h : tt σ H fun c H1 => if c = true then R true H1 else uu σ H1 R) : tOr tt uu σ H R := h
instance st_or  : Stp (tOr tt uu σ H R) (tt σ H fun c H1 => if c = true then R true H1 else uu σ H1 R) := ⟨fun h => rd_or h⟩
theorem rd_not (h : tt σ H fun c H1 => R (!c) H1) : tNot tt σ H R := h
instance st_not  : Stp (tNot tt σ H R) (tt σ H fun c H1 => R (!c) H1) := ⟨fun h => rd_not h⟩
theorem rd_andV (h : ta σ H fun x H1 => ∃ c, x = .bl c ∧ if c = true then tb σ H1 Q else Q (.bl false) H1) : tAndV ta tb σ H Q := h
instance st_andV  : Stp (tAndV ta tb σ H Q) (ta σ H fun x H1 => ∃ c, x = .bl c ∧ if c = true then tb σ H1 Q else Q (.bl false) H1) := ⟨fun h => rd_andV h⟩
theorem rd_orV (h : ta σ H fun x H1 => ∃ c, x = .bl c ∧ if c = true then Q (.bl true) H1 else tb σ H1 Q) : tOrV ta tb σ H Q := h
instance st_orV  : Stp (tOrV ta tb σ H Q) (ta σ H fun x H1 => ∃ c, x = .bl c ∧ if c = true then Q (.bl true) H1 else tb σ H1 Q) := ⟨fun h => rd_orV h⟩
theorem rd_notV (h : ta σ H fun x H1 => ∃ c, x = .bl c ∧ Q (.bl (!c)) H1) : tNotV ta σ H Q := h
instance st_notV  : Stp (tNotV ta σ H Q) (ta σ H fun x H1 => ∃ c, x = .bl c ∧ Q (.bl (!c)) H1) := ⟨fun h => rd_notV h⟩
theorem rd_ifx (h : tt σ H fun c H1 => if c = true then ta σ H1 Q else tb σ H1 Q) : tIf tt ta tb σ H Q := h
instance st_ifx  : Stp (tIf tt ta tb σ H Q) (tt σ H fun c H1 => if c = true then ta σ H1 Q else tb σ H1 Q) := ⟨fun h => rd_ifx h⟩
theorem rd_chain {r' : R2} (h : ta σ H fun x H1 => tb σ H1 fun y H2 => r x y H2 fun z H3 => ∃ k, z = .bl k ∧ (if k = true then tc σ H3 fun w' H4 => r' y w' H4 Q else Q (.bl false) H3)) : tChain r r' ta tb tc σ H Q := h
instance st_chain {r' : R2} : Stp (tChain r r' ta tb tc σ H Q) (ta σ H fun x H1 => tb σ H1 fun y H2 => r x y H2 fun z H3 => ∃ k, z = .bl k ∧ (if k = true then tc σ H3 fun w' H4 => r' y w' H4 Q else Q (.bl false) H3)) := ⟨fun h => rd_chain h⟩
theorem rd_nil (q : RA [] H) : tNil σ H RA := q
instance st_nil  : Stp (tNil σ H RA) (RA [] H) := ⟨fun h => rd_nil h⟩
theorem rd_cons (h : ta σ H fun x H1 => tr σ H1 fun xs H2 => RA (x :: xs) H2) : tCons ta tr σ H RA := h
instance st_cons  : Stp (tCons ta tr σ H RA) (ta σ H fun x H1 => tr σ H1 fun xs H2 => RA (x :: xs) H2) := ⟨fun h => rd_cons h⟩
theorem rd_tup (h : tr σ H fun xs H1 => xs.length ≤ sizeLine ∧ ∀ p, H1 p = none → Q (.ref p) (upd H1 p (.tup xs))) : tTup tr σ H Q := h
instance st_tup  : Stp (tTup tr σ H Q) (tr σ H fun xs H1 => xs.length ≤ sizeLine ∧ ∀ p, H1 p = none → Q (.ref p) (upd H1 p (.tup xs))) := ⟨fun h => rd_tup h⟩
theorem rd_lst (h : tr σ H fun xs H1 => xs.length ≤ sizeLine ∧ ∀ p, H1 p = none → Q (.ref p) (upd H1 p (.lst xs))) : tLst tr σ H Q := h
instance st_lst  : Stp (tLst tr σ H Q) (tr σ H fun xs H1 => xs.length ≤ sizeLine ∧ ∀ p, H1 p = none → Q (.ref p) (upd H1 p (.lst xs))) := ⟨fun h => rd_lst h⟩
theorem rd_pure (n : NoT H) (h : te σ H fun v H' => Same H H' ∧ Q v H) : tPure te σ H Q := ⟨n, h⟩
theorem rd_pureT (n : NoT H) (h : tt σ H fun v H' => Same H H' ∧ R v H) : tPureT tt σ H R := ⟨n, h⟩
theorem rd_call {sp : Sp} {E : XK} (h : tr σ H fun vs H1 => sp vs H1 Q E) : tCall sp [] E tr σ H Q := by
  show tr σ H fun vs H1 => sp (vs ++ []) H1 Q E
  simp only [List.append_nil]
  exact h
instance st_call {sp : Sp} {E : XK} : Stp (tCall sp [] E tr σ H Q) (tr σ H fun vs H1 => sp vs H1 Q E) := ⟨fun h => rd_call h⟩
theorem rd_cb {rr : List V → Hp → VK → Prop} (h : tr σ H fun vs H1 => rr vs H1 Q) : tCB rr tr σ H Q := h
instance st_cb {rr : List V → Hp → VK → Prop} : Stp (tCB rr tr σ H Q) (tr σ H fun vs H1 => rr vs H1 Q) := ⟨fun h => rd_cb h⟩
/-! statements -/
theorem rd_seq (h : t ⟨u ⟨nx, rt, bk, ct⟩, rt, bk, ct⟩ σ H) : tSeq t u ⟨nx, rt, bk, ct⟩ σ H := h
instance st_seq  : Stp (tSeq t u ⟨nx, rt, bk, ct⟩ σ H) (t ⟨u ⟨nx, rt, bk, ct⟩, rt, bk, ct⟩ σ H) := ⟨fun h => rd_seq h⟩
theorem rd_next (q : nx σ H) : tNext ⟨nx, rt, bk, ct⟩ σ H := q
instance st_next  : Stp (tNext ⟨nx, rt, bk, ct⟩ σ H) (nx σ H) := ⟨fun h => rd_next h⟩
theorem rd_break (q : bk σ H) : tBreak ⟨nx, rt, bk, ct⟩ σ H := q
instance st_break  : Stp (tBreak ⟨nx, rt, bk, ct⟩ σ H) (bk σ H) := ⟨fun h => rd_break h⟩
theorem rd_cont (q : ct σ H) : tCont ⟨nx, rt, bk, ct⟩ σ H := q
instance st_cont  : Stp (tCont ⟨nx, rt, bk, ct⟩ σ H) (ct σ H) := ⟨fun h => rd_cont h⟩
theorem rd_ret (h : te σ H rt) : tRet te ⟨nx, rt, bk, ct⟩ σ H := h
instance st_ret  : Stp (tRet te ⟨nx, rt, bk, ct⟩ σ H) (te σ H rt) := ⟨fun h => rd_ret h⟩
theorem rd_retN (h : rt .non H) : tRetN ⟨nx, rt, bk, ct⟩ σ H := h
instance st_retN  : Stp (tRetN ⟨nx, rt, bk, ct⟩ σ H) (rt .non H) := ⟨fun h => rd_retN h⟩
theorem rd_drop (h : te σ H fun _ H1 => nx σ H1) : tDrop te ⟨nx, rt, bk, ct⟩ σ H := h
instance st_drop  : Stp (tDrop te ⟨nx, rt, bk, ct⟩ σ H) (te σ H fun _ H1 => nx σ H1) := ⟨fun h => rd_drop h⟩
theorem rd_asg {g : TG} (h : te σ H fun x H1 => g x σ H1 nx) : tAsg te g ⟨nx, rt, bk, ct⟩ σ H := h
instance st_asg {g : TG} : Stp (tAsg te g ⟨nx, rt, bk, ct⟩ σ H) (te σ H fun x H1 => g x σ H1 nx) := ⟨fun h => rd_asg h⟩
theorem rd_gname {n : Nat} {N : St → Hp → Prop} (q : N (σ.set n (some v)) H) : gName n v σ H N := q
instance st_gname {n : Nat} {N : St → Hp → Prop} : Stp (gName n v σ H N) (N (σ.set n (some v)) H) := ⟨fun h => rd_gname h⟩
theorem rd_ifS (h : tt σ H fun b H1 => if b = true then t1 ⟨nx, rt, bk, ct⟩ σ H1 else t2 ⟨nx, rt, bk, ct⟩ σ H1) : tIfS tt t1 t2 ⟨nx, rt, bk, ct⟩ σ H := h
instance st_ifS  : Stp (tIfS tt t1 t2 ⟨nx, rt, bk, ct⟩ σ H) (tt σ H fun b H1 => if b = true then t1 ⟨nx, rt, bk, ct⟩ σ H1 else t2 ⟨nx, rt, bk, ct⟩ σ H1) := ⟨fun h => rd_ifS h⟩
theorem rd_par {m n : Nat} (h : tr σ H fun vs H1 => ∃ v w, vs = [v, w] ∧ nx ((σ.set m (some v)).set n (some w)) H1) : tPar m n tr ⟨nx, rt, bk, ct⟩ σ H := h
instance st_par {m n : Nat} : Stp (tPar m n tr ⟨nx, rt, bk, ct⟩ σ H) (tr σ H fun vs H1 => ∃ v w, vs = [v, w] ∧ nx ((σ.set m (some v)).set n (some w)) H1) := ⟨fun h => rd_par h⟩
theorem rd_par2 {v w : V} {P : V → V → Prop} (q : P v w) : ∃ v' w', [v, w] = [v', w'] ∧ P v' w' := ⟨v, w, rfl, q⟩
instance st_par2 {v w : V} {P : V → V → Prop} : Stp (∃ v' w', [v, w] = [v', w'] ∧ P v' w') (P v w) := ⟨fun h => rd_par2 h⟩
theorem rd_augG {n : Nat} {x : V} {te : TE} {ti : TIp} (h : σ[n]? = some (some x)) (q : te σ H fun y H1 => ti x y H1 fun z H2 => nx (σ.set n (some z)) H2) : tAug n te ti ⟨nx, rt, bk, ct⟩ σ H := ⟨x, h, q⟩
theorem rd_ipI {f : Int → Int → Int} {i j : Int} {R : VK} (q : R (.int (f i j)) H) : ipI f (.int i) (.int j) H R := ⟨i, j, rfl, rfl, q⟩
instance st_ipI {f : Int → Int → Int} {i j : Int} {R : VK} : Stp (ipI f (.int i) (.int j) H R) (R (.int (f i j)) H) := ⟨fun h => rd_ipI h⟩
theorem rd_augC {n : Nat} {f : Int → Int → Int} (h : σ[n]? = some (some (.int i))) (q : nx (σ.set n (some (.int (f i j)))) H) : tAug n (tC (.int j)) (ipI f) ⟨nx, rt, bk, ct⟩ σ H := ⟨.int i, h, i, j, rfl, rfl, q⟩
/-! ifs -/
theorem rd_ite {p A B : Prop} [Decidable p] (h1 : p → A) (h2 : ¬ p → B) : if decide p = true then A else B := by
  by_cases h : p
  · rw [if_pos (decide_eq_true h)]
    exact h1 h
  · rw [if_neg (by rw [decide_eq_false h]; decide)]
    exact h2 h
theorem rd_iteN {p A B : Prop} [Decidable p] (h1 : ¬ p → A) (h2 : p → B) : if (!decide p) = true then A else B := by
  by_cases h : p
  · rw [if_neg (by rw [decide_eq_true h]; decide)]
    exact h2 h
  · rw [if_pos (by rw [decide_eq_false h]; decide)]
    exact h1 h
theorem rd_iteb {b : Bool} {A B : Prop} (h1 : b = true → A) (h2 : b = false → B) : if b = true then A else B := by
  cases b with
  | true => exact h1 rfl
  | false => exact h2 rfl
theorem rd_iteNT {A B : Prop} (h : B) : if (!true) = true then A else B := h
instance st_iteNT {A B : Prop} : Stp (if (!true) = true then A else B) (B) := ⟨fun h => rd_iteNT h⟩
theorem rd_iteNF {A B : Prop} (h : A) : if (!false) = true then A else B := h
instance st_iteNF {A B : Prop} : Stp (if (!false) = true then A else B) (A) := ⟨fun h => rd_iteNF h⟩
theorem rd_iteT {A B : Prop} (h : A) : if true = true then A else B := iteT h
instance st_iteT {A B : Prop} : Stp (if true = true then A else B) (A) := ⟨fun h => rd_iteT h⟩
theorem rd_iteF {A B : Prop} (h : B) : if false = true then A else B := iteF h
instance st_iteF {A B : Prop} : Stp (if false = true then A else B) (B) := ⟨fun h => rd_iteF h⟩
/-! while, for -/
def lBody (W : Nat → St → Hp → Prop) (m : Nat) (tb : TS) (nx : St → Hp → Prop) (rt : VK) : St → Hp → Prop := fun σ H =>
  ∃ N : St → Hp → Prop, (∀ σ' H', N σ' H' → ∃ m', m' < m ∧ W m' σ' H') ∧ tb ⟨N, rt, nx, N⟩ σ H
theorem rd_lBody {W : Nat → St → Hp → Prop} {m : Nat} (h : t ⟨fun σ' H' => ∃ m', m' < m ∧ W m' σ' H', rt, nx, fun σ' H' => ∃ m', m' < m ∧ W m' σ' H'⟩ σ H) : lBody W m t nx rt σ H := ⟨_, fun _ _ q => q, h⟩
instance st_lBody {W : Nat → St → Hp → Prop} {m : Nat} : Stp (lBody W m t nx rt σ H) (t ⟨fun σ' H' => ∃ m', m' < m ∧ W m' σ' H', rt, nx, fun σ' H' => ∃ m', m' < m ∧ W m' σ' H'⟩ σ H) := ⟨fun h => rd_lBody h⟩
theorem rd_while (W : Nat → St → Hp → Prop) (m0 : Nat) (h0 : W m0 σ H) (turn : ∀ m σ H, W m σ H → tt σ H fun b H1 => if b = true then lBody W m t nx rt σ H1 else nx σ H1) : tWhile tt t ⟨nx, rt, bk, ct⟩ σ H :=
  ⟨W, ⟨m0, h0⟩, fun m σ H w => turn m σ H w⟩
def fBody (J : It) (g : TG) (tb : TS) (nx : St → Hp → Prop) (rt : VK) : St → Hp → Prop := fun σ H => ∃ W : Nat → Nat → St → Hp → Prop, (∃ m, W 0 m σ H) ∧ ∀ i m σ H, W i m σ H →
  (J.stop i H ∧ nx σ H) ∨ (J.go i H ∧ ∃ N : St → Hp → Prop, (∀ σ' H', N σ' H' → ∃ m', m' < m ∧ W (i + 1) m' σ' H') ∧ ∀ x H', J.yld i H x H' → g x σ H' fun σ2 H2 => tb ⟨N, rt, nx, N⟩ σ2 H2)
theorem rd_for {wi : TI} {g : TG} (h : wi σ H fun J H1 => fBody J g t nx rt σ H1) : tFor wi g t ⟨nx, rt, bk, ct⟩ σ H := h
instance st_for {wi : TI} {g : TG} : Stp (tFor wi g t ⟨nx, rt, bk, ct⟩ σ H) (wi σ H fun J H1 => fBody J g t nx rt σ H1) := ⟨fun h => rd_for h⟩
theorem rd_forR {lo : Int} {n : Nat} {g : TG} (Pv : Nat → St → Hp → Prop) (h0 : Pv 0 σ H)
    (hs : ∀ i σ H, i < n → Pv i σ H → g (.int (lo + i)) σ H fun σ2 H2 => t ⟨Pv (i + 1), rt, nx, Pv (i + 1)⟩ σ2 H2) (hd : ∀ σ H, Pv n σ H → nx σ H) : fBody (Itr lo n) g t nx rt σ H :=
  for_range (D := ⟨nx, rt, fun _ _ => False, fun _ _ => False⟩) Pv h0 hs hd
theorem rd_forL {a : Addr} {xs : List V} {g : TG} (Pv : Nat → St → Hp → Prop) (h0 : Pv 0 σ H) (hl : ∀ i σ H, i ≤ xs.length → Pv i σ H → SqL K H a xs)
    (hs : ∀ i x σ H, xs[i]? = some x → Pv i σ H → g x σ H fun σ2 H2 => t ⟨Pv (i + 1), rt, nx, Pv (i + 1)⟩ σ2 H2) (hd : ∀ σ H, Pv xs.length σ H → nx σ H) : fBody (Itl K a) g t nx rt σ H :=
  for_list (D := ⟨nx, rt, fun _ _ => False, fun _ _ => False⟩) Pv h0 hl hs hd
theorem rd_forT {a : Addr} {xs : List V} {g : TG} (Pv : Nat → St → Hp → Prop) (h0 : Pv 0 σ H) (hl : ∀ i σ H, i ≤ xs.length → Pv i σ H → SqT K H a xs)
    (hs : ∀ i x σ H, xs[i]? = some x → Pv i σ H → g x σ H fun σ2 H2 => t ⟨Pv (i + 1), rt, nx, Pv (i + 1)⟩ σ2 H2) (hd : ∀ σ H, Pv xs.length σ H → nx σ H) : fBody (Itt K a) g t nx rt σ H :=
  for_tup (D := ⟨nx, rt, fun _ _ => False, fun _ _ => False⟩) Pv h0 hl hs hd
theorem rd_ixL {p : Addr} {xs : List V} (h : SqL K H p xs) (ha : atI xs i = some v) (q : Q v H) : rIxL K (.ref p) (.int i) H Q := ⟨p, xs, i, v, rfl, rfl, h, ha, q⟩
theorem rd_ixT {p : Addr} {xs : List V} (h : SqT K H p xs) (ha : atI xs i = some v) (q : Q v H) : rIxT K (.ref p) (.int i) H Q := ⟨p, xs, i, v, rfl, rfl, h, ha, q⟩
theorem rd_inL {p : Addr} {xs : List V} (h : SqL K H p xs) (hx : flatV x = true) (hf : xs.all flatV = true) (q : Q (.bl (inV x xs)) H) : rIn K false x (.ref p) H Q := ⟨p, xs, rfl, .inl h, hx, hf, q⟩
theorem rd_inT {p : Addr} {xs : List V} (h : SqT K H p xs) (hx : flatV x = true) (hf : xs.all flatV = true) (q : Q (.bl (inV x xs)) H) : rIn K false x (.ref p) H Q := ⟨p, xs, rfl, .inr h, hx, hf, q⟩
end
theorem same_new {H : Hp} {p : Addr} {o : HO} (h : H p = none) : Same H (upd H p o) := fun b x e => by
  rw [upd_ne (ne_of_none e h)]
  exact e
end L2
namespace L2
open PySem PySem.Spec PyProof.Rows
section
variable {σ : St} {H : Hp} {Q : VK} {K : PySem.W.Frag} {v : V} {N : St → Hp → Prop} {S : Hp → Prop}
theorem rd_gsub {to ti : TE} {t : TSet} (h : to σ H fun o H1 => ti σ H1 fun i H2 => t o i v H2 fun H3 => N σ H3) : gSub to ti t v σ H N := h
instance st_gsub {to ti : TE} {t : TSet} : Stp (gSub to ti t v σ H N) (to σ H fun o H1 => ti σ H1 fun i H2 => t o i v H2 fun H3 => N σ H3) := ⟨fun h => rd_gsub h⟩
theorem rd_setL {p : Addr} {xs : List V} {k : Int} {j : Nat} (h : H p = some (.lst xs)) (hj : ixN xs.length k = some j) (q : S (upd H p (.lst (xs.set j v)))) : rSetL (.ref p) (.int k) v H S := ⟨p, xs, k, j, rfl, rfl, h, hj, q⟩
end
end L2
namespace L2
open PySem PySem.Spec PyProof.Rows
section
variable {σ : St} {H : Hp} {Q : VK} {K : PySem.W.Frag} {v x y : V} {N : St → Hp → Prop} {S : Hp → Prop} {p : Addr} {o : HO}
theorem rd_new {n : Nat} {F : Addr → Prop} (h : n ≤ sizeLine) (q : ∀ p, H p = none → F p) : n ≤ sizeLine ∧ ∀ p, H p = none → F p := ⟨h, q⟩
theorem rd_back {P : Prop} (hp : H p = none) (q : P) : Same H (upd H p o) ∧ P := ⟨same_new hp, q⟩
theorem rd_backR {P : Prop} (q : P) : Same H H ∧ P := ⟨Same.refl H, q⟩
instance st_backR {P : Prop} : Stp (Same H H ∧ P) (P) := ⟨fun h => rd_backR h⟩
theorem inV2 {i a b : Int} : inV (.int i) [.int a, .int b] = decide (i = a ∨ i = b) := by
  simp only [inV, eqV, List.any_cons, List.any_nil, Bool.or_false]
  by_cases h1 : i = a
  · subst h1
    simp
  · by_cases h2 : i = b
    · subst h2
      simp
    · have e1 : (a == i) = false := by simpa using Ne.symm h1
      have e2 : (b == i) = false := by simpa using Ne.symm h2
      rw [e1, e2]
      simp [h1, h2]
theorem rd_in2 {i a b : Int} (q : Q (.bl (decide (i = a ∨ i = b))) (upd H p (.tup [.int a, .int b]))) : rIn K false (.int i) (.ref p) (upd H p (.tup [.int a, .int b])) Q :=
  ⟨p, _, rfl, .inr (SqT.of upd_same), rfl, rfl, by
    show Q (.bl (inV (.int i) [.int a, .int b])) _
    rw [inV2]
    exact q⟩
instance st_in2 {i a b : Int} : Stp (rIn K false (.int i) (.ref p) (upd H p (.tup [.int a, .int b])) Q) (Q (.bl (decide (i = a ∨ i = b))) (upd H p (.tup [.int a, .int b]))) := ⟨fun h => rd_in2 h⟩
theorem rd_gtup {a : Addr} {xs : List V} {n : Nat} {t : TGs} (h : SqT K H a xs) (hn : xs.length = n) (q : t xs σ H N) : gTup K n t (.ref a) σ H N := ⟨a, xs, rfl, h, hn, q⟩
theorem rd_gcons {t : TG} {u : TGs} {xs : List V} (q : t x σ H fun σ' H' => u xs σ' H' N) : gCons t u (x :: xs) σ H N := ⟨x, xs, rfl, q⟩
instance st_gcons {t : TG} {u : TGs} {xs : List V} : Stp (gCons t u (x :: xs) σ H N) (t x σ H fun σ' H' => u xs σ' H' N) := ⟨fun h => rd_gcons h⟩
theorem rd_gnil (q : N σ H) : gNil [] σ H N := ⟨rfl, q⟩
instance st_gnil  : Stp (gNil [] σ H N) (N σ H) := ⟨fun h => rd_gnil h⟩
theorem rd_bm {T : String} {r : V → List V → Hp → VK → Prop} {to : TE} {t : TA} (h : to σ H fun x H1 => tyV K T x H1 ∧ t σ H1 fun xs H2 => r x xs H2 Q) : tBM K T r to t σ H Q := h
instance st_bm {T : String} {r : V → List V → Hp → VK → Prop} {to : TE} {t : TA} : Stp (tBM K T r to t σ H Q) (to σ H fun x H1 => tyV K T x H1 ∧ t σ H1 fun xs H2 => r x xs H2 Q) := ⟨fun h => rd_bm h⟩
theorem rd_bm0 {T : String} {r : V → List V → Hp → VK → Prop} {to : TE} (h : to σ H fun x H1 => tyV K T x H1 ∧ r x [] H1 Q) : tBM0 K T r to σ H Q := h
instance st_bm0 {T : String} {r : V → List V → Hp → VK → Prop} {to : TE} : Stp (tBM0 K T r to σ H Q) (to σ H fun x H1 => tyV K T x H1 ∧ r x [] H1 Q) := ⟨fun h => rd_bm0 h⟩
theorem rd_tyL {xs : List V} {P : Prop} (h : H p = some (.lst xs)) (q : P) : tyV K "list" (.ref p) H ∧ P := ⟨.inl ⟨rfl, _, SqL.of h⟩, q⟩
theorem rd_append {xs : List V} (h : H p = some (.lst xs)) (hl : xs.length < sizeLine) (q : Q .non (upd H p (.lst (xs ++ [y])))) : rAppend (.ref p) [y] H Q := ⟨p, xs, y, rfl, rfl, h, hl, q⟩
theorem same_upd2 {H' : Hp} {o1 : HO} (h : Same H H') (hp : H p = none) : Same H (upd H' p o1) := fun b x e => by
  rw [upd_ne (ne_of_none e hp)]
  exact h b x e
theorem upd_keep {q : Addr} {u : HO} (h : H p = some o) (hq : H q = none) : upd H q u p = some o := (upd_ne (ne_of_none h hq)).trans h
end
end L2
namespace L2
open PySem PySem.Spec PyProof.Rows
theorem rd_cut {σ : St} {H : Hp} {t u : TS} {nx : St → Hp → Prop} {rt : VK} {bk ct : St → Hp → Prop} (Mid : St → Hp → Prop) (h : t ⟨Mid, rt, bk, ct⟩ σ H) (q : ∀ σ' H', Mid σ' H' → u ⟨nx, rt, bk, ct⟩ σ' H') : C8.tCut t u ⟨nx, rt, bk, ct⟩ σ H := ⟨Mid, h, q⟩
/-! ### built-ins, by name -/
def rLenQ (K : PySem.W.Frag) : List V → Hp → VK → Prop := fun xs H Q => ∃ p ys, xs = [.ref p] ∧ (SqL K H p ys ∨ SqT K H p ys) ∧ Q (.int ys.length) H
def rAbs : List V → Hp → VK → Prop := fun xs H Q => ∃ i, xs = [.int i] ∧ Q (.int (if i < 0 then -i else i)) H
def rMax2 : List V → Hp → VK → Prop := fun xs H Q => ∃ i j, xs = [.int i, .int j] ∧ Q (.int (if j > i then j else i)) H
def rMin2 : List V → Hp → VK → Prop := fun xs H Q => ∃ i j, xs = [.int i, .int j] ∧ Q (.int (if j < i then j else i)) H
def rInt1 : List V → Hp → VK → Prop := fun xs H Q => (∃ i, xs = [.int i] ∧ Q (.int i) H) ∨ ∃ k, xs = [.bl k] ∧ Q (.int (if k then 1 else 0)) H
def rListOf (K : PySem.W.Frag) : List V → Hp → VK → Prop := fun xs H Q => ∃ p ys, xs = [.ref p] ∧ (SqL K H p ys ∨ SqT K H p ys) ∧ ∀ l, H l = none → Q (.ref l) (upd H l (.lst ys))
section
variable {X : Cx}
theorem c_len : CallR X (.builtin "len") (rLenQ X.K) := call_len_seq
theorem c_abs : CallR X (.builtin "abs") rAbs := call_abs
theorem c_int1 : CallR X (.type "int") rInt1 := call_int1
theorem c_listOf : CallR X (.type "list") (rListOf X.K) := call_list_of
end
section
variable {H : Hp} {Q : VK} {K : PySem.W.Frag} {i j : Int} {p : Addr} {ys : List V}
theorem rd_abs (q : Q (.int (if i < 0 then -i else i)) H) : rAbs [.int i] H Q := ⟨i, rfl, q⟩
instance st_abs  : Stp (rAbs [.int i] H Q) (Q (.int (if i < 0 then -i else i)) H) := ⟨fun h => rd_abs h⟩
theorem rd_max2 (q : Q (.int (if j > i then j else i)) H) : rMax2 [.int i, .int j] H Q := ⟨i, j, rfl, q⟩
instance st_max2  : Stp (rMax2 [.int i, .int j] H Q) (Q (.int (if j > i then j else i)) H) := ⟨fun h => rd_max2 h⟩
theorem rd_min2 (q : Q (.int (if j < i then j else i)) H) : rMin2 [.int i, .int j] H Q := ⟨i, j, rfl, q⟩
instance st_min2  : Stp (rMin2 [.int i, .int j] H Q) (Q (.int (if j < i then j else i)) H) := ⟨fun h => rd_min2 h⟩
theorem rd_int (q : Q (.int i) H) : rInt1 [.int i] H Q := .inl ⟨i, rfl, q⟩
instance st_int  : Stp (rInt1 [.int i] H Q) (Q (.int i) H) := ⟨fun h => rd_int h⟩
theorem rd_intB {b : Bool} (q : Q (.int (if b then 1 else 0)) H) : rInt1 [.bl b] H Q := .inr ⟨b, rfl, q⟩
instance st_intB {b : Bool} : Stp (rInt1 [.bl b] H Q) (Q (.int (if b then 1 else 0)) H) := ⟨fun h => rd_intB h⟩
theorem rd_lenL (h : SqL K H p ys) (q : Q (.int ys.length) H) : rLenQ K [.ref p] H Q := ⟨p, ys, rfl, .inl h, q⟩
theorem rd_lenT (h : SqT K H p ys) (q : Q (.int ys.length) H) : rLenQ K [.ref p] H Q := ⟨p, ys, rfl, .inr h, q⟩
theorem rd_listOfL (h : SqL K H p ys) (q : ∀ l, H l = none → Q (.ref l) (upd H l (.lst ys))) : rListOf K [.ref p] H Q := ⟨p, ys, rfl, .inl h, q⟩
theorem rd_listOfT (h : SqT K H p ys) (q : ∀ l, H l = none → Q (.ref l) (upd H l (.lst ys))) : rListOf K [.ref p] H Q := ⟨p, ys, rfl, .inr h, q⟩
end
end L2
namespace L2
open PySem PySem.Spec PyProof.Rows
/-- a power with a written exponent -/
def rPowN (e : Nat) : R2 := fun x y H Q => ∃ i, x = .int i ∧ y = .int (e : Int) ∧ e ≤ 1000000 ∧ i.natAbs < 2 ^ 64 ∧ Q (.int (i ^ e)) H
theorem op_powN {X : Cx} (e : Nat) : OpR X (binaryOp .Pow) (rPowN e) := fun pins s σ H x y v u Q I rx ry ⟨i, e1, e2, h1, h2, q⟩ =>
  op_pow pins s σ H x y v u Q I rx ry ⟨i, (e : Int), e1, e2, ⟨Int.natCast_nonneg _, by omega, h2⟩, q⟩
theorem rd_powN {e : Nat} {i z : Int} {H : Hp} {Q : VK} (hz : z = (e : Int)) (h1 : e ≤ 1000000) (h2 : i.natAbs < 2 ^ 64) (q : Q (.int (i ^ e)) H) : rPowN e (.int i) (.int z) H Q := ⟨i, rfl, by rw [hz], h1, h2, q⟩
end L2
namespace L2
open PySem PySem.Spec PyProof.Rows
/-! ### a def of the text, and what it keeps -/
structure DefAt (K : PySem.W.Frag) (mg : Str → Option Value) (x : Str) (st : Stmt) (ps : List Str) : Prop where
  ex : ∃ (f : Addr) (fd : FuncData), Fun K x x st f fd ∧ mg x = some (.ref f) ∧ Binds K fd ps []
structure Def (P : Program) (w : World) (K : PySem.W.Frag) (mg : Str → Option Value) (base : Heap) (k : Nat) (x : Str) (ps : List Str) (sp : Sp) : Prop where
  ex : ∃ (f : Addr) (fd : FuncData), FnOk P w K mg base (L2.CX P w) k f fd ps sp ∧ mg x = some (.ref f) ∧ PySem.W.keepIn K (.ref f) = true ∧ Binds K fd ps []
section
variable {P : Program} {w : World} {K : PySem.W.Frag} {mg : Str → Option Value} {base : Heap}
theorem DefAt.ok {x : Str} {st : Stmt} {N ps : List Str} {k : Nat} {sp : Sp} (D : DefAt K mg x st ps) (S : FnScope N ps (defScope st)) (len : ∀ vs H Q E, sp vs H Q E → vs.length = ps.length)
    (hbody : ∀ (f : Addr) (cdv : Value) (A : Around) (outer : List Env) (s : Shared) (H : Hp) (vs : List V) (Q : VK) (E : XK), Room k (A.deeper (envOfC x (defScope st) s.heap.objs.size f cdv)) → sp vs H Q E →
      ∃ t, PSs (cxOf (L2.CX P w) P w K mg base N x (defScope st) f cdv A outer s H E) (defBody st) t ∧ t ⟨fun _ H' => Q .non H', Q, fun _ _ => False, fun _ _ => False⟩ (start N vs) H) : Def P w K mg base (k + 1) x ps sp := by
  obtain ⟨f, fd, F, g, b⟩ := D.ex
  exact ⟨f, fd, F.okX S len fun cdv A outer s H vs Q E hr h => hbody f cdv A outer s H vs Q E hr h, g, F.kp, b⟩
theorem Def.imp {k : Nat} {x : Str} {ps : List Str} {sp sp' : Sp} (D : Def P w K mg base k x ps sp) (h : ∀ vs H Q E, sp' vs H Q E → sp vs H Q E) : Def P w K mg base k x ps sp' := by
  obtain ⟨f, fd, F, g, kp, b⟩ := D.ex
  exact ⟨f, fd, F.imp h, g, kp, b⟩
theorem Def.mono {j k : Nat} {x : Str} {ps : List Str} {sp : Sp} (D : Def P w K mg base j x ps sp) (h : j ≤ k) : Def P w K mg base k x ps sp := by
  obtain ⟨f, fd, F, g, kp, b⟩ := D.ex
  exact ⟨f, fd, F.mono h, g, kp, b⟩
theorem Def.forget {k : Nat} {x : Str} {ps : List Str} {sp : Sp} (D : Def P w K mg base k x ps sp) : Def P w K mg base k x ps (fun vs H Q E => NoT H ∧ sp vs H (fun v H' => Same H H' ∧ Q v H) E) := by
  obtain ⟨f, fd, F, g, kp, b⟩ := D.ex
  exact ⟨f, fd, fn_forget F, g, kp, b⟩
end
section
variable {X : Cx}
theorem pe_d {k : Nat} {x : Str} {ps : List Str} {sp : Sp} {E : XK} {p pos : Pos} {e : Expr} {es : List Expr} {t : TA} (D : Def X.prog X.w X.K X.mg X.base k x ps sp) (hr : Room k X.A) (hx : Passes (L2.CX X.prog X.w) X E) (ha : PA X (e :: es) t) (hg : Gl X x := by rfl)
    (hd : (x == ("__debug__" : Str)) = false := by decide) (he : starEach (e :: es) X.env = (false, eval e X.env) :: starEach es X.env := by rfl) (hpl : (backTo pos (starEach es X.env)).any (·.1) = false := by rfl) :
    PE X (.Call (.Name x p) (e :: es) [] pos) (tCall sp [] E t) := by
  obtain ⟨f, fd, F, g, kp, b⟩ := D.ex
  exact pe_call F hr hg g kp b .nil hx ha hd he hpl
/-- within a try's body: what is raised is wished for at the caller's slots -/
theorem pe_dS {k : Nat} {x : Str} {ps : List Str} {sp : Sp} {W : WX} {p pos : Pos} {e : Expr} {es : List Expr} {t : TA} (D : Def X.prog X.w X.K X.mg X.base k x ps sp) (hr : Room k X.A) (tk : Takes X W) (ha : PA X (e :: es) t) (hg : Gl X x := by rfl)
    (hd : (x == ("__debug__" : Str)) = false := by decide) (he : starEach (e :: es) X.env = (false, eval e X.env) :: starEach es X.env := by rfl) (hpl : (backTo pos (starEach es X.env)).any (·.1) = false := by rfl) :
    PE X (.Call (.Name x p) (e :: es) [] pos) (tCallS sp (WE W) t) := by
  obtain ⟨f, fd, F, g, kp, b⟩ := D.ex
  exact pe_callS F hr hg g kp b (fun σ => passAt tk σ) ha hd he hpl
theorem rd_callS {sp : Sp} {W : WX} {tr : TA} {σ : St} {H : Hp} {Q : VK} (h : tr σ H fun vs H1 => sp vs H1 Q (WE W σ)) : tCallS sp (WE W) tr σ H Q := h
instance st_callS {sp : Sp} {W : WX} {tr : TA} {σ : St} {H : Hp} {Q : VK} : Stp (tCallS sp (WE W) tr σ H Q) (tr σ H fun vs H1 => sp vs H1 Q (WE W σ)) := ⟨fun h => rd_callS h⟩
end
/-! ### the program's own errors -/
/-- what the top has written of ClockError, at CC -/
structure BaseC (K : PySem.W.Frag) (mg : Str → Option Value) (CC : Addr) : Prop where
  g : mg "ClockError" = some (.ref CC)
  rd : PySem.W.readsIn K CC (.type "type") = true
  ga : PySem.W.specialIn K (.ref CC) "__getattribute__" = some (some (.builtin "type.__getattribute__"))
  ini : PySem.W.findCls K (.ref CC) (.type "type") "__init__" = some (.val (.builtin "ValueError.__init__"))
section
variable {X : Cx} {e : Expr} {es : List Expr} {ta : TA} {p1 p2 pos : Pos}
theorem pe_ceinit {pl : Sem Bool} {CC : Addr} (B : BaseC X.K X.mg CC) (ha : PA X (e :: es) ta) (hg : Gl X "ClockError" := by rfl)
    (hc : eval (.Call (.Attribute (.Name "ClockError" p1) "__init__" p2) (e :: es) [] pos) X.env = (do
      let ov ← eval (.Name "ClockError" p1) X.env
      standAt p2.atName
      let (f, first) ← holding [ov] (getMethod ov "__init__" pl)
      callWith pos f first (backTo pos (starEach (e :: es) X.env)) (backToKw pos (keywordEach [] X.env))) := by rfl)
    (he : starEach (e :: es) X.env = (false, eval e X.env) :: starEach es X.env := by rfl) (hpl : (backTo pos (starEach es X.env)).any (·.1) = false := by rfl) :
    PE X (.Call (.Attribute (.Name "ClockError" p1) "__init__" p2) (e :: es) [] pos) (tVeI X.K ta) := by
  refine ⟨fun pins s σ H Q I h => ?_⟩
  refine PySem.W.methodCall_KW (ld_glob I hg B.g ?_ (by decide)) hc
  refine PySem.W.method_cls I.kIn B.ga (PySem.W.cls_value I.kIn B.rd B.ini (by decide +kernel) ?_)
  show wpAny _ _ (callWith pos (Value.builtin "ValueError.__init__") [] (backTo pos (starEach (e :: es) X.env)) []) _ _ _
  refine PyProof.Rows.callWith_method1 (thn (ha.run pos pins _ σ H _ (I.tok _) h) fun us s1 ⟨vs, H1, I1, r1, a, C, ws, ev, hl, T, ea, q⟩ => ?_) he hpl
  subst ev
  cases r1 with
  | @cons _ u0 _ ur ra rw' =>
    obtain rfl : u0 = Value.ref a := ra
    have hlen : ur.length ≤ sizeLine := by
      rw [← Paired.length rw', sizeLine_eq]
      omega
    exact oinit_ok T I1 ea hlen fun s' J => ⟨.non, H1, J, rfl, q⟩
end
/-- __init__ of an error with fields: the values ws become fl ws -/
def spErr (C : Addr) (n : Nat) (fl : List V → List (Str × V)) : Sp := fun vs H Q _ => ∃ (a : Addr) (ws : List V), vs = .ref a :: ws ∧ ws.length = n ∧ H a = some (exo a C none) ∧
  ∀ dx, H dx = none → dx ≠ a → Q .non (upd (upd H dx (exd dx (fl ws))) a (exo a C (some dx)))
/-- a class of the program's errors: raised by its name, with n values, the fields fl -/
structure ErrC (P : Program) (w : World) (K : PySem.W.Frag) (mg : Str → Option Value) (base : Heap) (x : Str) (n : Nat) (fl : List V → List (Str × V)) (C : Addr) : Prop where
  g : mg x = some (.ref C)
  T : OexC K C
  X : XfC K C
  self : PySem.W.exmOne K (.ref C) (.ref C) = some true
  ini : ∃ (fI : Addr) (fd : FuncData) (ps : List Str), PySem.W.findIn K (.ref C) "__init__" = some (some (.ref fI)) ∧ PySem.W.typeIn K (.ref fI) = some (.type "function") ∧ FnOk P w K mg base (L2.CX P w) 1 fI fd ps (spErr C n fl) ∧ Binds K fd ps []
theorem pmk_err {X : Cx} {x : Str} {C : Addr} {n : Nat} {fl : List V → List (Str × V)} {e : Expr} {es : List Expr} {ta : TA} {p pos : Pos} (Z : ErrC X.prog X.w X.K X.mg X.base x n fl C) (hr : Room 2 X.A) (ha : PA X (e :: es) ta) (hg : Gl X x := by rfl)
    (hdb : (x == ("__debug__" : Str)) = false := by decide) (he : starEach (e :: es) X.env = (false, eval e X.env) :: starEach es X.env := by rfl) (hpl : (backTo pos (starEach es X.env)).any (·.1) = false := by rfl) :
    PMk X (.Call (.Name x p) (e :: es) [] pos) (tMkO C (spErr C n fl) [] ta) := by
  obtain ⟨fI, fd, ps, iC, tI, F, b⟩ := Z.ini
  exact pmk_oex Z.T iC tI F hr b .nil passL hg Z.g ha hdb he hpl
/-- what the raising asks -/
theorem rd_mk {C : Addr} {n : Nat} {fl : List V → List (Str × V)} {ta : TA} {σ : St} {H : Hp} {Q : XK} (h : ta σ H fun vs H1 => vs.length ≤ 1000 ∧ ∀ a, H1 a = none → spErr C n fl (.ref a :: (vs ++ [])) (upd H1 a (exo a C none))
  (fun v H2 => v = .non ∧ ∃ (d : Addr) (fs : List (Str × V)), H2 a = some (exo a C (some d)) ∧ H2 d = some (exd d fs) ∧ H1 d = none ∧ Q (.ref C) (some d) (upd (del H2 a) d (.xd fs))) (fun _ _ _ => False)) : tMkO C (spErr C n fl) [] ta σ H Q := h
instance st_mk {C : Addr} {n : Nat} {fl : List V → List (Str × V)} {ta : TA} {σ : St} {H : Hp} {Q : XK} : Stp (tMkO C (spErr C n fl) [] ta σ H Q) (ta σ H fun vs H1 => vs.length ≤ 1000 ∧ ∀ a, H1 a = none → spErr C n fl (.ref a :: (vs ++ [])) (upd H1 a (exo a C none))
  (fun v H2 => v = .non ∧ ∃ (d : Addr) (fs : List (Str × V)), H2 a = some (exo a C (some d)) ∧ H2 d = some (exd d fs) ∧ H1 d = none ∧ Q (.ref C) (some d) (upd (del H2 a) d (.xd fs))) (fun _ _ _ => False)) := ⟨fun h => rd_mk h⟩
theorem rd_mk1 {C : Addr} {n : Nat} {fl : List V → List (Str × V)} {vs : List V} {H1 : Hp} {Q : XK} (hl : vs.length = n) (hn : n ≤ 1000) (h : ∀ d, H1 d = none → Q (.ref C) (some d) (upd H1 d (.xd (fl vs)))) :
    vs.length ≤ 1000 ∧ ∀ a, H1 a = none → spErr C n fl (.ref a :: (vs ++ [])) (upd H1 a (exo a C none))
      (fun v H2 => v = .non ∧ ∃ (d : Addr) (fs : List (Str × V)), H2 a = some (exo a C (some d)) ∧ H2 d = some (exd d fs) ∧ H1 d = none ∧ Q (.ref C) (some d) (upd (del H2 a) d (.xd fs))) (fun _ _ _ => False) := by
  refine ⟨by omega, fun a na => ⟨a, vs, by rw [List.append_nil], hl, upd_same, fun dx nd ne => ⟨rfl, dx, fl vs, upd_same, ?_, ?_, ?_⟩⟩⟩
  · rw [upd_ne ne, upd_same]
  · rw [upd_ne ne] at nd
    exact nd
  · have nd' : H1 dx = none := by
      rw [upd_ne ne] at nd
      exact nd
    have z := h dx nd'
    have eq : upd (del (upd (upd (upd H1 a (exo a C none)) dx (exd dx (fl vs))) a (exo a C (some dx))) a) dx (.xd (fl vs)) = upd H1 dx (.xd (fl vs)) := by
      funext b
      by_cases hb : b = dx
      · rw [hb, upd_same, upd_same]
      · rw [upd_ne hb, upd_ne hb]
        by_cases ha : b = a
        · rw [ha, del_same, na]
        · rw [del_ne ha, upd_ne ha, upd_ne hb, upd_ne ha]
    rw [eq]
    exact z
end L2
namespace L2
open PySem PySem.Spec PyProof.Rows
/-- what the top has written of an error's class -/
structure ErrRaw (K : PySem.W.Frag) (mg : Str → Option Value) (x : Str) (C : Addr) (sI : Stmt) (qual : Str) (ps : List Str) : Prop where
  g : mg x = some (.ref C)
  T : OexC K C
  X : XfC K C
  self : PySem.W.exmOne K (.ref C) (.ref C) = some true
  ini : ∃ (fI : Addr) (fd : FuncData), PySem.W.findIn K (.ref C) "__init__" = some (some (.ref fI)) ∧ PySem.W.typeIn K (.ref fI) = some (.type "function") ∧ Fun K "__init__" qual sI fI fd ∧ Binds K fd ps []
theorem ErrC.of {P : Program} {w : World} {K : PySem.W.Frag} {mg : Str → Option Value} {base : Heap} {x : Str} {C : Addr} {sI : Stmt} {qual : Str} {ps : List Str} {n : Nat} {fl : List V → List (Str × V)} (R : ErrRaw K mg x C sI qual ps)
    (h : ∀ (fI : Addr) (fd : FuncData), Fun K "__init__" qual sI fI fd → FnOk P w K mg base (L2.CX P w) 1 fI fd ps (spErr C n fl)) : ErrC P w K mg base x n fl C := by
  obtain ⟨fI, fd, i, t, F, b⟩ := R.ini
  exact ⟨R.g, R.T, R.X, R.self, fI, fd, ps, i, t, h fI fd F, b⟩
/-- an error of the class at S is what «except S» names -/
theorem exm_self {K : PySem.W.Frag} {S : Addr} (h1 : PySem.W.subIn K (.ref S) (.type "BaseException") = some true) (h2 : PySem.W.isClsIn K S = true) (h3 : PySem.W.typeIn K (.ref S) = some (.type "type")) (h4 : PySem.W.subIn K (.ref S) (.ref S) = some true) :
    PySem.W.exmOne K (.ref S) (.ref S) = some true := by
  have e1 : (PySem.W.subIn K (.ref S) (.type "BaseException") == some true) = true := by rw [h1] <;> rfl
  have e2 : ((PySem.W.clsIn K S).isSome && PySem.W.typeIn K (.ref S) == some (.type "type")) = true := by
    have h2' : (PySem.W.clsIn K S).isSome = true := h2
    rw [h2', h3] <;> rfl
  show (if (PySem.W.subIn K (.ref S) (.type "BaseException") == some true) = true then (if ((PySem.W.clsIn K S).isSome && PySem.W.typeIn K (.ref S) == some (.type "type")) = true then PySem.W.subIn K (.ref S) (.ref S) else none) else none) = some true
  rw [if_pos e1, if_pos e2]
  exact h4
theorem len_1 {α : Type} {ws : List α} (h : ws.length = 1) : ∃ a, ws = [a] := match ws, h with | [a], _ => ⟨a, rfl⟩
end L2
namespace L2
open PySem PySem.Spec PyProof.Rows
/-! ### what is walked, by name -/
def rRng1 (S : It → Hp → Prop) (vs : List V) (H : Hp) : Prop := ∃ j : Int, vs = [.int j] ∧ -(2 ^ 62) ≤ j ∧ j < 2 ^ 62 ∧ S (Itr 0 j.toNat) H
def rRng2 (S : It → Hp → Prop) (vs : List V) (H : Hp) : Prop := ∃ i j : Int, vs = [.int i, .int j] ∧ (-(2 ^ 62) ≤ i ∧ i < 2 ^ 62 ∧ -(2 ^ 62) ≤ j ∧ j < 2 ^ 62) ∧ S (Itr i (j - i).toNat) H
def rItL (K : PySem.W.Frag) (S : It → Hp → Prop) (x : V) (H : Hp) : Prop := ∃ a, x = .ref a ∧ (∃ xs, SqL K H a xs) ∧ S (Itl K a) H
def rItT (K : PySem.W.Frag) (S : It → Hp → Prop) (x : V) (H : Hp) : Prop := ∃ a, x = .ref a ∧ (∃ xs, SqT K H a xs) ∧ S (Itt K a) H
section
variable {σ : St} {H : Hp} {Q : VK} {K : PySem.W.Frag} {v x y : V} {ta te : TE} {tt : TT} {tr : TA} {S : It → Hp → Prop}
theorem rd_iR1 (h : tr σ H (rRng1 S)) : iRng1 tr σ H S := h
instance st_iR1  : Stp (iRng1 tr σ H S) (tr σ H (rRng1 S)) := ⟨fun h => rd_iR1 h⟩
theorem rd_iR2 (h : tr σ H (rRng2 S)) : iRng2 tr σ H S := h
instance st_iR2  : Stp (iRng2 tr σ H S) (tr σ H (rRng2 S)) := ⟨fun h => rd_iR2 h⟩
theorem rd_r1 {n : Int} (h1 : -(2 ^ 62) ≤ n) (h2 : n < 2 ^ 62) (q : S (Itr 0 n.toNat) H) : rRng1 S [.int n] H := ⟨n, rfl, h1, h2, q⟩
theorem rd_r2 {m n : Int} (h1 : -(2 ^ 62) ≤ m ∧ m < 2 ^ 62 ∧ -(2 ^ 62) ≤ n ∧ n < 2 ^ 62) (q : S (Itr m (n - m).toNat) H) : rRng2 S [.int m, .int n] H := ⟨m, n, rfl, h1, q⟩
theorem rd_iL (h : ta σ H (rItL K S)) : iList K ta σ H S := h
instance st_iL  : Stp (iList K ta σ H S) (ta σ H (rItL K S)) := ⟨fun h => rd_iL h⟩
theorem rd_iT (h : ta σ H (rItT K S)) : iTup K ta σ H S := h
instance st_iT  : Stp (iTup K ta σ H S) (ta σ H (rItT K S)) := ⟨fun h => rd_iT h⟩
theorem rd_iL1 {a : Addr} {xs : List V} (h : SqL K H a xs) (q : S (Itl K a) H) : rItL K S (.ref a) H := ⟨a, rfl, ⟨xs, h⟩, q⟩
theorem rd_iT1 {a : Addr} {xs : List V} (h : SqT K H a xs) (q : S (Itt K a) H) : rItT K S (.ref a) H := ⟨a, rfl, ⟨xs, h⟩, q⟩
/-! ### list comprehensions -/
def lcB (J : It) (g : TG) (tt : TT) (te : TE) (vs : List Nat) (σ : St) (Q : VK) (H1 : Hp) : Prop := ∀ D, H1 D = none → ∃ W : Nat → Nat → Hp → Prop, (∃ m, W 0 m (upd H1 D (.lst []))) ∧ ∀ i m H, W i m H →
  (J.stop i H ∧ Q (.ref D) H) ∨ (J.go i H ∧ ∃ Nx : Hp → Prop, (∀ H', Nx H' → ∃ m', m' < m ∧ W (i + 1) m' H') ∧ ∀ x H', J.yld i H x H' → g x (wipe σ vs) H' fun σ2 H2 => wipe σ2 vs = wipe σ vs ∧ tt σ2 H2 fun b H3 =>
    if b = true then te σ2 H3 fun y H4 => ∃ acc, H4 D = some (.lst acc) ∧ acc.length < sizeLine ∧ Nx (upd H4 D (.lst (acc ++ [y]))) else Nx H3)
theorem rd_lc {wi : TI} {g : TG} {vs : List Nat} (h : wi σ H fun J H1 => lcB J g tt te vs σ Q H1) : tLc wi g tt te vs σ H Q := h
instance st_lc {wi : TI} {g : TG} {vs : List Nat} : Stp (tLc wi g tt te vs σ H Q) (wi σ H fun J H1 => lcB J g tt te vs σ Q H1) := ⟨fun h => rd_lc h⟩
theorem rd_yes {R : Bool → Hp → Prop} (q : R true H) : tYes σ H R := q
instance st_yes {R : Bool → Hp → Prop} : Stp (tYes σ H R) (R true H) := ⟨fun h => rd_yes h⟩
/-- the item that was made goes onto the list; or none does -/
def LcPut (H : Hp) (D : Addr) (l0 l1 : List V) (y : V) (H4 : Hp) : Prop := ∃ acc, H4 D = some (.lst acc) ∧ acc.length < sizeLine ∧ upd H4 D (.lst (acc ++ [y])) = upd H D (.lst l1)
def LcSkip (H : Hp) (D : Addr) (l1 : List V) (H3 : Hp) : Prop := H3 = upd H D (.lst l1)
def resR (p : Nat → Bool) (f : Nat → V) (i : Nat) : List V := ((List.range i).filter p).map f
theorem resR_len {p : Nat → Bool} {f : Nat → V} {i : Nat} : (resR p f i).length ≤ i := by
  unfold resR
  rw [List.length_map]
  have z : ((List.range i).filter p).length ≤ (List.range i).length := List.length_filter_le _ _
  rw [List.length_range] at z
  exact z
theorem put_R {D : Addr} {p : Nat → Bool} {f : Nat → V} {i : Nat} {y : V} (hi : i < 1000000) (hp : p i = true) (hy : y = f i) : LcPut H D (resR p f i) (resR p f (i + 1)) y (upd H D (.lst (resR p f i))) := by
  refine ⟨_, upd_same, Nat.lt_of_le_of_lt resR_len (Nat.lt_trans hi (by decide)), ?_⟩
  rw [upd_upd]
  unfold resR
  rw [List.range_succ, List.filter_append, List.map_append, hy]
  simp [hp]
theorem skip_R {D : Addr} {p : Nat → Bool} {f : Nat → V} {i : Nat} (hp : p i = false) : LcSkip H D (resR p f (i + 1)) (upd H D (.lst (resR p f i))) := by
  show upd H D _ = _
  unfold resR
  rw [List.range_succ, List.filter_append, List.map_append]
  simp [hp]
theorem rd_lcR {lo : Int} {n : Nat} {g : TG} {vs : List Nat} (p : Nat → Bool) (f : Nat → V)
    (hs : ∀ D i, H D = none → i < n → g (.int (lo + i)) (wipe σ vs) (upd H D (.lst (resR p f i))) fun σ2 H2 => wipe σ2 vs = wipe σ vs ∧ tt σ2 H2 fun b H3 => if b = true then te σ2 H3 (LcPut H D (resR p f i) (resR p f (i + 1))) else LcSkip H D (resR p f (i + 1)) H3)
    (q : ∀ D, H D = none → Q (.ref D) (upd H D (.lst (((List.range n).filter p).map f)))) : lcB (Itr lo n) g tt te vs σ Q H := by
  intro D hD
  refine ⟨fun i m H' => m = n - i ∧ i ≤ n ∧ H' = upd H D (.lst (resR p f i)), ⟨n, by simp, Nat.zero_le _, rfl⟩, ?_⟩
  rintro i m H' ⟨rfl, hi, rfl⟩
  by_cases hlt : i < n
  · refine .inr ⟨hlt, fun H' => H' = upd H D (.lst (resR p f (i + 1))), fun H' p' => ⟨n - (i + 1), by omega, rfl, hlt, p'⟩, fun x H' y => ?_⟩
    obtain ⟨e, y⟩ := y
    subst e y
    exact hs D i hD hlt
  · have e : i = n := by omega
    subst e
    exact .inl ⟨Nat.le_refl _, q D hD⟩
/-! ### deep equality -/
theorem rd_eqD {d e : PyData} (h1 : Dp K H x d) (h2 : Dp K H y e) (s1 : SeqAt.shaped d = true) (s2 : SeqAt.shaped e = true) (q : Q (.bl (PyData.eqv d e)) H) : rEqD K x y H Q := ⟨d, e, h1, h2, s1, s2, q⟩
theorem rd_neD {d e : PyData} (h1 : Dp K H x d) (h2 : Dp K H y e) (s1 : SeqAt.shaped d = true) (s2 : SeqAt.shaped e = true) (q : Q (.bl (!PyData.eqv d e)) H) : rNeD K x y H Q := ⟨d, e, h1, h2, s1, s2, q⟩
end
section
variable {K : PySem.W.Frag} {H : Hp}
theorem dpAll_ints : ∀ ns : List Int, DpAll K H (ns.map V.int) (ns.map PyData.int)
  | [] => .nil
  | n :: r => .cons (.int n) (dpAll_ints r)
theorem dpAll_bls : ∀ ns : List Bool, DpAll K H (ns.map V.bl) (ns.map PyData.bool)
  | [] => .nil
  | n :: r => .cons (.bl n) (dpAll_bls r)
theorem dp_ints {a : Addr} {ns : List Int} (h : SqL K H a (ns.map V.int)) : Dp K H (.ref a) (.list (ns.map PyData.int)) := .lst h (dpAll_ints ns)
end
theorem eqv_ints : ∀ ns ms : List Int, PyData.eqvAll (ns.map PyData.int) (ms.map PyData.int) = decide (ns = ms)
  | [], [] => rfl
  | [], _ :: _ => rfl
  | _ :: _, [] => rfl
  | n :: r, m :: s => by
    rw [List.map_cons, List.map_cons, PyData.eqvAll, eqv_ints r s]
    by_cases h : n = m
    · subst h
      simp [PyData.eqv]
    · have : (n == m) = false := by simpa using h
      simp [PyData.eqv, this, h]
/-! ### a clause of a try -/
section
variable {σ : St} {H : Hp} {K : PySem.W.Frag} {nx : St → Hp → Prop} {rt : VK} {bk ct : St → Hp → Prop} {Q : VK} {te : TE}
theorem rd_wonly {c cls : Value} {ts : Addr → Value → Option Addr → TS} {Wout : WX} {d : Option Addr} (hx : PySem.W.exmOne K cls c = some true)
    (q : ∀ a, H a = none → ts a cls d ⟨nx, rt, bk, ct⟩ σ H) : WE (wOnly K c ts Wout ⟨nx, rt, bk, ct⟩) σ cls d H :=
  ⟨true, hx, fun _ a h => q a h, fun h => nomatch h⟩
def XfB (a : Addr) (cls : Value) (d : Option Addr) (C : Addr) (f : Str) (x : V) (H1 : Hp) (Q : VK) : Prop := x = .ref a ∧ cls = .ref C ∧ ∃ (dd : Addr) (fs : List (Str × V)) (v : V), d = some dd ∧ H1 dd = some (.xd fs) ∧ fs.lookup f = some v ∧ Q v H1
theorem rd_xf {a C : Addr} {cls : Value} {d : Option Addr} {f : Str} (h : te σ H fun x H1 => XfB a cls d C f x H1 Q) : tXf a cls d C f te σ H Q := h
instance st_xf {a C : Addr} {cls : Value} {d : Option Addr} {f : Str} : Stp (tXf a cls d C f te σ H Q) (te σ H fun x H1 => XfB a cls d C f x H1 Q) := ⟨fun h => rd_xf h⟩
theorem rd_xfb {a C dd : Addr} {f : Str} {fs : List (Str × V)} {v : V} (h : H dd = some (.xd fs)) (hl : fs.lookup f = some v) (q : Q v H) : XfB a (.ref C) (some dd) C f (.ref a) H Q := ⟨rfl, rfl, dd, fs, v, rfl, h, hl, q⟩
end
end L2
namespace L2
open PySem PySem.Spec PyProof.Rows
section
variable {σ : St} {H : Hp} {Q : VK} {K : PySem.W.Frag} {N : St → Hp → Prop}
theorem rd_isiII {i : Int} (q : Q (.bl true) H) : rIsi K [.int i, .ty "int"] H Q := ⟨_, _, _, _, true, rfl, .ty _, .base (.int i), kit_ty (by decide +kernel), q⟩
instance st_isiII {i : Int} : Stp (rIsi K [.int i, .ty "int"] H Q) (Q (.bl true) H) := ⟨fun h => rd_isiII h⟩
theorem rd_isiIB {i : Int} (q : Q (.bl false) H) : rIsi K [.int i, .ty "bool"] H Q := ⟨_, _, _, _, false, rfl, .ty _, .base (.int i), kit_ty (by decide +kernel), q⟩
instance st_isiIB {i : Int} : Stp (rIsi K [.int i, .ty "bool"] H Q) (Q (.bl false) H) := ⟨fun h => rd_isiIB h⟩
theorem rd_isiBB {b : Bool} (q : Q (.bl true) H) : rIsi K [.bl b, .ty "bool"] H Q := ⟨_, _, _, _, true, rfl, .ty _, .base (.bl b), kit_ty (by decide +kernel), q⟩
instance st_isiBB {b : Bool} : Stp (rIsi K [.bl b, .ty "bool"] H Q) (Q (.bl true) H) := ⟨fun h => rd_isiBB h⟩
theorem rd_unl {a : Addr} {xs : List V} {n : Nat} {t : TGs} (h : SqL K H a xs) (hn : xs.length = n) (q : t xs σ H N) : gUnl K n t (.ref a) σ H N := ⟨a, xs, rfl, h, hn, q⟩
theorem rd_slL {a : Addr} {xs : List V} {lo hi : Option Int} (h : SqL K H a xs) (q : ∀ p, H p = none → Q (.ref p) (upd H p (.lst (cutV xs lo hi)))) : rSlL K (.ref a) lo hi H Q := ⟨a, xs, rfl, h, q⟩
theorem rd_sl {r : V → Option Int → Option Int → Hp → VK → Prop} {te : TE} {tl th : TO} (h : te σ H fun x H1 => tl σ H1 fun l H2 => th σ H2 fun u H3 => r x l u H3 Q) : tSl r te tl th σ H Q := h
instance st_sl {r : V → Option Int → Option Int → Hp → VK → Prop} {te : TE} {tl th : TO} : Stp (tSl r te tl th σ H Q) (te σ H fun x H1 => tl σ H1 fun l H2 => th σ H2 fun u H3 => r x l u H3 Q) := ⟨fun h => rd_sl h⟩
theorem rd_noPart {R : Option Int → Hp → Prop} (q : R none H) : tNoPart σ H R := q
instance st_noPart {R : Option Int → Hp → Prop} : Stp (tNoPart σ H R) (R none H) := ⟨fun h => rd_noPart h⟩
def rPart (R : Option Int → Hp → Prop) (x : V) (H : Hp) : Prop := ∃ i, x = .int i ∧ R (some i) H
theorem rd_part {te : TE} {R : Option Int → Hp → Prop} (h : te σ H (rPart R)) : tPart te σ H R := h
instance st_part {te : TE} {R : Option Int → Hp → Prop} : Stp (tPart te σ H R) (te σ H (rPart R)) := ⟨fun h => rd_part h⟩
theorem rd_part1 {i : Int} {R : Option Int → Hp → Prop} (q : R (some i) H) : rPart R (.int i) H := ⟨i, rfl, q⟩
instance st_part1 {i : Int} {R : Option Int → Hp → Prop} : Stp (rPart R (.int i) H) (R (some i) H) := ⟨fun h => rd_part1 h⟩
theorem rd_cat {l b : Addr} {xs zs : List V} (h1 : H l = some (.lst xs)) (h2 : H b = some (.lst zs)) (h3 : xs.length + zs.length ≤ sizeLine) (q : ∀ p, H p = none → Q (.ref p) (upd H p (.lst (xs ++ zs)))) : rCat (.ref l) (.ref b) H Q := ⟨l, b, xs, zs, rfl, rfl, h1, h2, h3, q⟩
end
end L2
namespace L2
theorem lt_pow_of {i : Int} {k : Nat} (h1 : -(2 ^ k) < i) (h2 : i < 2 ^ k) : i.natAbs < 2 ^ k := by
  have e : ((2 ^ k : Nat) : Int) = 2 ^ k := by rw [Int.natCast_pow]; rfl
  omega
theorem CMulB.wide {i j : Int} (h1 : -(2 ^ 250) < i ∧ i < 2 ^ 250) (h2 : -(2 ^ 250) < j ∧ j < 2 ^ 250) : CMulB i j :=
  .inr (wide_mul (lt_pow_of h1.1 h1.2) (lt_pow_of h2.1 h2.2) (by decide) (by decide) (by decide))
end L2
namespace L2
open PySem PySem.Spec PyProof.Rows
section
variable {H : Hp} {Q : VK} {K : PySem.W.Frag} {p : Addr}
theorem rd_in2L {i a b : Int} (q : Q (.bl (decide (i = a ∨ i = b))) (upd H p (.lst [.int a, .int b]))) : rIn K false (.int i) (.ref p) (upd H p (.lst [.int a, .int b])) Q :=
  ⟨p, _, rfl, .inl (SqL.of upd_same), rfl, rfl, by
    show Q (.bl (inV (.int i) [.int a, .int b])) _
    rw [inV2]
    exact q⟩
instance st_in2L {i a b : Int} : Stp (rIn K false (.int i) (.ref p) (upd H p (.lst [.int a, .int b])) Q) (Q (.bl (decide (i = a ∨ i = b))) (upd H p (.lst [.int a, .int b]))) := ⟨fun h => rd_in2L h⟩
theorem rd_nin2L {i a b : Int} (q : Q (.bl (!decide (i = a ∨ i = b))) (upd H p (.lst [.int a, .int b]))) : rIn K true (.int i) (.ref p) (upd H p (.lst [.int a, .int b])) Q :=
  ⟨p, _, rfl, .inl (SqL.of upd_same), rfl, rfl, by
    show Q (.bl (!inV (.int i) [.int a, .int b])) _
    rw [inV2]
    exact q⟩
instance st_nin2L {i a b : Int} : Stp (rIn K true (.int i) (.ref p) (upd H p (.lst [.int a, .int b])) Q) (Q (.bl (!decide (i = a ∨ i = b))) (upd H p (.lst [.int a, .int b]))) := ⟨fun h => rd_nin2L h⟩
theorem rd_nin2 {i a b : Int} (q : Q (.bl (!decide (i = a ∨ i = b))) (upd H p (.tup [.int a, .int b]))) : rIn K true (.int i) (.ref p) (upd H p (.tup [.int a, .int b])) Q :=
  ⟨p, _, rfl, .inr (SqT.of upd_same), rfl, rfl, by
    show Q (.bl (!inV (.int i) [.int a, .int b])) _
    rw [inV2]
    exact q⟩
instance st_nin2 {i a b : Int} : Stp (rIn K true (.int i) (.ref p) (upd H p (.tup [.int a, .int b])) Q) (Q (.bl (!decide (i = a ∨ i = b))) (upd H p (.tup [.int a, .int b]))) := ⟨fun h => rd_nin2 h⟩
theorem beq_str {a s : Str} : (a == s) = decide (s = a) := by
  rw [Bool.beq_eq_decide_eq]
  exact decide_eq_decide.mpr eq_comm
theorem inVs4 {s a b c d : Str} : inV (.str s) [.str a, .str b, .str c, .str d] = decide (s = a ∨ s = b ∨ s = c ∨ s = d) := by
  simp only [inV, eqV, List.any_cons, List.any_nil, Bool.or_false, Bool.decide_or, beq_str]
theorem rd_ninS4 {s a b c d : Str} (q : Q (.bl (!decide (s = a ∨ s = b ∨ s = c ∨ s = d))) (upd H p (.lst [.str a, .str b, .str c, .str d]))) : rIn K true (.str s) (.ref p) (upd H p (.lst [.str a, .str b, .str c, .str d])) Q :=
  ⟨p, _, rfl, .inl (SqL.of upd_same), rfl, rfl, by
    show Q (.bl (!inV (.str s) [.str a, .str b, .str c, .str d])) _
    rw [inVs4]
    exact q⟩
instance st_ninS4 {s a b c d : Str} : Stp (rIn K true (.str s) (.ref p) (upd H p (.lst [.str a, .str b, .str c, .str d])) Q) (Q (.bl (!decide (s = a ∨ s = b ∨ s = c ∨ s = d))) (upd H p (.lst [.str a, .str b, .str c, .str d]))) := ⟨fun h => rd_ninS4 h⟩
end
end L2
namespace L2
open PySem PySem.Spec PyProof.Rows
theorem lay_all : ∀ {ds : List PyData}, (∀ d ∈ ds, d.canLay0 = true ∧ d.depth ≤ 60) → PyData.canLayAll0 ds = true ∧ PyData.depthAll ds ≤ 60
  | [], _ => ⟨rfl, Nat.zero_le _⟩
  | d :: ds, h => by
    obtain ⟨a, b⟩ := lay_all (ds := ds) fun e he => h e (List.mem_cons_of_mem _ he)
    obtain ⟨c, e⟩ := h d (List.mem_cons_self ..)
    simp only [PyData.canLayAll0, PyData.depthAll]
    exact ⟨by rw [c, a]; rfl, Nat.max_le.mpr ⟨e, b⟩⟩
theorem shaped_list {ds : List PyData} (h : ∀ d ∈ ds, d.canLay0 = true ∧ d.depth ≤ 60) : SeqAt.shaped (.list ds) = true := by
  obtain ⟨a, b⟩ := lay_all h
  unfold SeqAt.shaped
  have : (PyData.list ds).canLay0 = true := a
  rw [this, Bool.true_and, decide_eq_true_eq]
  show PyData.depthAll ds + 1 ≤ 64
  omega
theorem shaped_ints (ns : List Int) : SeqAt.shaped (.list (ns.map PyData.int)) = true := shaped_list fun d hd => by
  obtain ⟨n, _, rfl⟩ := List.mem_map.mp hd
  exact ⟨rfl, by simp [PyData.depth]⟩
section
variable {H : Hp} {Q : VK} {K : PySem.W.Frag} {a b p : Addr}
/-- two lists of whole numbers -/
theorem rd_eqInts {ns ms : List Int} (h1 : SqL K H a (ns.map V.int)) (h2 : SqL K H b (ms.map V.int)) (q : Q (.bl (decide (ns = ms))) H) : rEqD K (.ref a) (.ref b) H Q :=
  ⟨_, _, dp_ints h1, dp_ints h2, shaped_ints _, shaped_ints _, by rw [PyData.eqv, eqv_ints]; exact q⟩
theorem rd_neInts {ns ms : List Int} (h1 : SqL K H a (ns.map V.int)) (h2 : SqL K H b (ms.map V.int)) (q : Q (.bl (!decide (ns = ms))) H) : rNeD K (.ref a) (.ref b) H Q :=
  ⟨_, _, dp_ints h1, dp_ints h2, shaped_ints _, shaped_ints _, by rw [PyData.eqv, eqv_ints]; exact q⟩
/-- equal data -/
theorem rd_neSame {x y : V} {d : PyData} (h1 : Dp K H x d) (h2 : Dp K H y d) (s : SeqAt.shaped d = true) (q : Q (.bl false) H) : rNeD K x y H Q :=
  ⟨d, d, h1, h2, s, s, by rw [SeqAt.eqv_refl d (SeqAt.canLay_of_shaped s)]; exact q⟩
theorem rd_isiL {xs : List V} (h : H a = some (.lst xs)) (q : Q (.bl true) H) : rIsi K [.ref a, .ty "list"] H Q := ⟨_, _, _, _, true, rfl, .ty _, .base (.lst h), kit_ty (by decide +kernel), q⟩
theorem rd_isiT {xs : List V} (h : H a = some (.tup xs)) (q : Q (.bl true) H) : rIsi K [.ref a, .ty "tuple"] H Q := ⟨_, _, _, _, true, rfl, .ty _, .base (.tup h), kit_ty (by decide +kernel), q⟩
end
end L2
namespace L2
open PySem PySem.Spec PyProof.Rows
theorem Same.lst {K : PySem.W.Frag} {H0 H : Hp} {a : Addr} {xs : List V} (e : Same H0 H) (h : H0 a = some (.lst xs)) : SqL K H a xs := SqL.of (e _ _ h)
end L2
namespace L2
theorem rd_neF {p A B : Prop} [Decidable p] (h : p) (q : B) : if (!decide p) = true then A else B := by
  rw [decide_eq_true h]
  exact q
theorem rd_eqT {p A B : Prop} [Decidable p] (h : p) (q : A) : if decide p = true then A else B := by
  rw [decide_eq_true h]
  exact q
end L2
namespace L2
open PySem PySem.Spec PyProof.Rows
theorem inV_ints {x : Int} : ∀ {ns : List Int}, inV (.int x) (ns.map V.int) = decide (x ∈ ns)
  | [] => by simp [inV]
  | n :: ns => by
    have := inV_ints (x := x) (ns := ns)
    unfold inV at *
    rw [List.map_cons, List.any_cons, this, eqV, Bool.beq_eq_decide_eq, ← Bool.decide_or]
    refine decide_eq_decide.mpr ?_
    rw [List.mem_cons]
    exact or_congr eq_comm Iff.rfl
theorem flat_ints : ∀ {ns : List Int}, (ns.map V.int).all flatV = true
  | [] => rfl
  | _ :: ns => by
    rw [List.map_cons, List.all_cons, flat_ints (ns := ns)]
    rfl
section
variable {σ : St} {H : Hp} {Q : VK} {K : PySem.W.Frag} {p : Addr} {te : TE} {tt : TC}
theorem rd_inIs {x : Int} {ns : List Int} (h : SqL K H p (ns.map V.int)) (q : Q (.bl (decide (x ∈ ns))) H) : rIn K false (.int x) (.ref p) H Q :=
  rd_inL h rfl flat_ints (by rw [inV_ints]; exact q)
end
end L2
namespace L2
open PySem PySem.Spec PyProof.Rows
section
variable {σ : St} {H : Hp} {Q : VK} {K : PySem.W.Frag} {te : TE} {tt : TT}
/-- a list comprehension over a range whose items come from what stands in the heap -/
theorem rd_lcRG {lo : Int} {n : Nat} {g : TG} {vs : List Nat} (J : Addr → Nat → List V → Hp → Prop) (h0 : ∀ D, H D = none → J D 0 [] (upd H D (.lst [])))
    (hs : ∀ D i ys H', H D = none → i < n → H' D = some (.lst ys) → J D i ys H' → g (.int (lo + i)) (wipe σ vs) H' fun σ2 H2 => wipe σ2 vs = wipe σ vs ∧ tt σ2 H2 fun b H3 => if b = true then te σ2 H3 (fun y H4 => ∃ acc, H4 D = some (.lst acc) ∧ acc.length < sizeLine ∧ ∃ ys, (upd H4 D (.lst (acc ++ [y]))) D = some (.lst ys) ∧ J D (i + 1) ys (upd H4 D (.lst (acc ++ [y])))) else ∃ ys, H3 D = some (.lst ys) ∧ J D (i + 1) ys H3)
    (q : ∀ D ys H', H D = none → H' D = some (.lst ys) → J D n ys H' → Q (.ref D) H') : lcB (Itr lo n) g tt te vs σ Q H := by
  intro D hD
  refine ⟨fun i m H' => m = n - i ∧ i ≤ n ∧ ∃ ys, H' D = some (.lst ys) ∧ J D i ys H', ⟨n, by simp, Nat.zero_le _, _, upd_same, h0 D hD⟩, ?_⟩
  rintro i m H' ⟨rfl, hi, ys, hy, hj⟩
  by_cases hlt : i < n
  · refine .inr ⟨hlt, fun H' => ∃ ys, H' D = some (.lst ys) ∧ J D (i + 1) ys H', fun H' p' => ⟨n - (i + 1), by omega, rfl, hlt, p'⟩, fun x H' y => ?_⟩
    obtain ⟨e, y⟩ := y
    subst e y
    exact hs D i ys _ hD hlt hy hj
  · have e : i = n := by omega
    subst e
    exact .inl ⟨Nat.le_refl _, q D ys H' hD hy hj⟩
end
end L2
namespace L2
open PySem PySem.Spec PyProof.Rows
/-! ### classes of the text: fields, methods, making, ==, calls -/
structure MethAt (K : PySem.W.Frag) (C : Addr) (m qual : Str) (st : Stmt) (ps : List Str) : Prop where
  ex : ∃ (f : Addr) (fd : FuncData), Fun K m qual st f fd ∧ Meth K C m f ∧ Binds K fd ps []
structure MDef (P : Program) (w : World) (K : PySem.W.Frag) (mg : Str → Option Value) (base : Heap) (k : Nat) (C : Addr) (m : Str) (ps : List Str) (sp : Sp) : Prop where
  ex : ∃ (f : Addr) (fd : FuncData), FnOk P w K mg base (L2.CX P w) k f fd ps sp ∧ Meth K C m f ∧ Binds K fd ps []
structure MkAt (K : PySem.W.Frag) (mg : Str → Option Value) (x : Str) (C : Addr) (qual : Str) (st : Stmt) (ps : List Str) : Prop where
  ex : ∃ (f : Addr) (fd : FuncData), Fun K "__init__" qual st f fd ∧ Mk K C f ∧ Binds K fd ps []
  g : mg x = some (.ref C)
structure MkDef (P : Program) (w : World) (K : PySem.W.Frag) (mg : Str → Option Value) (base : Heap) (k : Nat) (x : Str) (C : Addr) (ps : List Str) (sp : Sp) : Prop where
  ex : ∃ (f : Addr) (fd : FuncData), FnOk P w K mg base (L2.CX P w) k f fd ps sp ∧ Mk K C f ∧ Binds K fd ps []
  g : mg x = some (.ref C)
section
variable {P : Program} {w : World} {K : PySem.W.Frag} {mg : Str → Option Value} {base : Heap}
theorem MethAt.ok {C : Addr} {m qual : Str} {st : Stmt} {N ps : List Str} {k : Nat} {sp : Sp} (D : MethAt K C m qual st ps) (S : FnScope N ps (defScope st)) (len : ∀ vs H Q E, sp vs H Q E → vs.length = ps.length)
    (hbody : ∀ (f : Addr) (cdv : Value) (A : Around) (outer : List Env) (s : Shared) (H : Hp) (vs : List V) (Q : VK) (E : XK), Room k (A.deeper (envOfC qual (defScope st) s.heap.objs.size f cdv)) → sp vs H Q E →
      ∃ t, PSs (cxOf (L2.CX P w) P w K mg base N qual (defScope st) f cdv A outer s H E) (defBody st) t ∧ t ⟨fun _ H' => Q .non H', Q, fun _ _ => False, fun _ _ => False⟩ (start N vs) H) : MDef P w K mg base (k + 1) C m ps sp := by
  obtain ⟨f, fd, F, g, b⟩ := D.ex
  exact ⟨f, fd, F.okX S len fun cdv A outer s H vs Q E hr h => hbody f cdv A outer s H vs Q E hr h, g, b⟩
theorem MkAt.ok {x : Str} {C : Addr} {qual : Str} {st : Stmt} {N ps : List Str} {k : Nat} {sp : Sp} (D : MkAt K mg x C qual st ps) (S : FnScope N ps (defScope st)) (len : ∀ vs H Q E, sp vs H Q E → vs.length = ps.length)
    (hbody : ∀ (f : Addr) (cdv : Value) (A : Around) (outer : List Env) (s : Shared) (H : Hp) (vs : List V) (Q : VK) (E : XK), Room k (A.deeper (envOfC qual (defScope st) s.heap.objs.size f cdv)) → sp vs H Q E →
      ∃ t, PSs (cxOf (L2.CX P w) P w K mg base N qual (defScope st) f cdv A outer s H E) (defBody st) t ∧ t ⟨fun _ H' => Q .non H', Q, fun _ _ => False, fun _ _ => False⟩ (start N vs) H) : MkDef P w K mg base (k + 1) x C ps sp := by
  obtain ⟨f, fd, F, g, b⟩ := D.ex
  exact ⟨⟨f, fd, F.okX S len fun cdv A outer s H vs Q E hr h => hbody f cdv A outer s H vs Q E hr h, g, b⟩, D.g⟩
theorem MDef.imp {k : Nat} {C : Addr} {m : Str} {ps : List Str} {sp sp' : Sp} (D : MDef P w K mg base k C m ps sp) (h : ∀ vs H Q E, sp' vs H Q E → sp vs H Q E) : MDef P w K mg base k C m ps sp' := by
  obtain ⟨f, fd, F, g, b⟩ := D.ex
  exact ⟨f, fd, F.imp h, g, b⟩
theorem MDef.mono {j k : Nat} {C : Addr} {m : Str} {ps : List Str} {sp : Sp} (D : MDef P w K mg base j C m ps sp) (h : j ≤ k) : MDef P w K mg base k C m ps sp := by
  obtain ⟨f, fd, F, g, b⟩ := D.ex
  exact ⟨f, fd, F.mono h, g, b⟩
theorem MDef.forget {k : Nat} {C : Addr} {m : Str} {ps : List Str} {sp : Sp} (D : MDef P w K mg base k C m ps sp) : MDef P w K mg base k C m ps (fun vs H Q E => NoT H ∧ sp vs H (fun v H' => Same H H' ∧ Q v H) E) := by
  obtain ⟨f, fd, F, g, b⟩ := D.ex
  exact ⟨f, fd, fn_forget F, g, b⟩
end
def tFldC (C : Addr) (ta : TE) (f : Str) : TE := fun σ H Q => ta σ H fun x H1 => ∃ a dx fs v, x = .ref a ∧ H1 a = some (.ins C dx fs) ∧ fs.lookup f = some v ∧ Q v H1
def sFldC (C : Addr) (ta tv : TE) (f : Str) : TS := fun D σ H => tv σ H fun y H1 => ta σ H1 fun x H2 => ∃ a dx fs, x = .ref a ∧ H2 a = some (.ins C dx fs) ∧ fs.length < 1000 ∧ D.nx σ (upd H2 a (.ins C dx (putF f y fs)))
def tCallC (C : Addr) (sp : Sp) (E : XK) (tf : TE) (t : TA) : TE := fun σ H Q => tf σ H fun y H1 => ∃ a, y = V.ref a ∧ t σ H1 fun vs H2 => (∃ dx fs, H2 a = some (.ins C dx fs)) ∧ sp (V.ref a :: vs) H2 Q E
def rEqO (K : PySem.W.Frag) (C : Addr) (sp : Sp) (E : XK) : R2 := fun x y H Q => ∃ a dx fs ty, x = .ref a ∧ H a = some (.ins C dx fs) ∧ TyX K H y ty ∧ PySem.W.notFirst K C ty = true ∧ sp [.ref a, y] H (fun v H' => (∃ b, v = .bl b) ∧ Q v H') E
section
variable {X : Cx} {o e value : Expr} {es : List Expr} {f : Str} {pos pos' tpos apos p : Pos} {ta tv : TE} {t : TA} {C : Addr}
theorem pe_fldC (he : PE X e ta) (c : Cls X.K C) (n : NoAttr X.K C f) (hb : attributeBase e f X.env (eval e X.env) = eval e X.env := by rfl) : PE X (.Attribute e f pos) (tFldC C ta f) := by
  refine ⟨fun pins s σ H Q I h => ?_⟩
  refine attr_of hb (thn (he.run pins s σ H _ I h) fun u s1 ⟨x, H1, I1, rx, a, dx, fs, v, ex, ea, l, q⟩ => ?_)
  subst ex
  obtain rfl : u = Value.ref a := rx
  exact getattr_ok I1 ea c n l fun u' s2 I2 ru => ⟨v, H1, I2, ru, q⟩
theorem ps_fldC (ha : PE X o ta) (hv : PE X value tv) (c : Cls X.K C) (n : NoAttr X.K C f) (hs : swapsWith value (some (.Attribute o f pos')) pos.line X.env = pure false := by rfl) : PS X (.Assign [.Attribute o f pos'] value pos) (sFldC C ta tv f) := by
  refine ⟨fun pins s σ H D I h => ?_⟩
  refine plainObj_wpAny_Assign_Attribute (thn (hv.run pins s σ H _ I h) fun u s1 ⟨y, H1, I1, ry, q⟩ => thn (ha.run pins s1 σ H1 _ I1 q) fun ov s2 ⟨x, H2, I2, rx, a, dx, fs, ex, ea, l, q2⟩ => ?_) hs
  subst ex
  obtain rfl : ov = Value.ref a := rx
  exact setattr_ok I2 ea c n l ry fun s3 I3 => ⟨σ, _, I3, q2⟩
theorem pe_md0 {k : Nat} {m : Str} {ps : List Str} {sp : Sp} {E : XK} {pl : Sem Bool} (D : MDef X.prog X.w X.K X.mg X.base k C m ps sp) (he : PE X o ta) (c : Cls X.K C) (hr : Room k X.A) (hx : Passes (L2.CX X.prog X.w) X E)
    (ht : eval (.Call (.Attribute o m apos) [] [] pos) X.env = (do
      let ov ← eval o X.env
      standAt apos.atName
      let (f, first) ← holding [ov] (getMethod ov m pl)
      callWith pos f first (backTo pos (starEach [] X.env)) (backToKw pos (keywordEach [] X.env))) := by rfl) :
    PE X (.Call (.Attribute o m apos) [] [] pos) (tMeth C m sp [] E ta tNil) := by
  obtain ⟨f, fd, F, g, b⟩ := D.ex
  exact pe_meth0 he c g F hr b .nil hx ht
theorem pe_mkd {k : Nat} {x : Str} {ps : List Str} {sp : Sp} {E : XK} (D : MkDef X.prog X.w X.K X.mg X.base k x C ps sp) (hr : Room (k + 1) X.A) (hx : Passes (L2.CX X.prog X.w) X E) (ha : PA X (e :: es) t) (hg : Gl X x := by rfl)
    (hdb : (x == ("__debug__" : Str)) = false := by decide) (he : starEach (e :: es) X.env = (false, eval e X.env) :: starEach es X.env := by rfl) (hpl : (backTo pos (starEach es X.env)).any (·.1) = false := by rfl) :
    PE X (.Call (.Name x p) (e :: es) [] pos) (tMake C sp [] E t) := by
  obtain ⟨f, fd, F, M, b⟩ := D.ex
  exact pe_make M F hr hg D.g b .nil hx ha hdb he hpl
/-- x == y, x an instance of C with an own __eq__ -/
theorem op_eqO {k : Nat} {ps : List Str} {sp : Sp} {E : XK} (D : MDef X.prog X.w X.K X.mg X.base k C "__eq__" ps sp) (hr : Room k X.A) (hu : X.A.units < cLine) (hx : Passes (L2.CX X.prog X.w) X E) : OpR X (compareOp .Eq) (rEqO X.K C sp E) := by
  intro pins s σ H x y v u Q I rx ry h
  obtain ⟨f, fd, F, g, b⟩ := D.ex
  obtain ⟨a, dx, fs, ty, rfl, ha, hty, hn, hsp⟩ := h
  cases (show v = Value.ref a from rx)
  obtain ⟨mA, J, _⟩ := ins_get I.hok ha
  obtain ⟨od, J, _⟩ := J.look
  obtain ⟨m, hF⟩ := I.fr
  obtain ⟨P, Z, hp, _⟩ := kit_of I ry hty
  show wpAny (model X.prog X.w) X.A (richCompare .Eq (.ref a) u) (EP X pins σ Q) X.xe s
  refine PySem.W.cmp_K (op := .Eq) (tb := ty) hu hF I.ok.mod.kin J (Z.ty _ s.heap I.kIn hp) hn g.at_ g.fn ?_
  have hl := F.len _ _ _ _ hsp
  refine wpAny_mono (run_fn (dvs := []) (ds := []) (us := [.ref a, u]) (vs := [.ref a, y]) F hr b .nil hx I (.cons rfl (.cons ry .nil)) hsp) (fun r s' q => ?_) fun _ _ z => z
  obtain ⟨z, H', I', rz, ⟨bb, rfl⟩, q⟩ := q
  cases (show r = Value.bool bb from rz)
  exact ⟨.bl bb, H', I', rfl, q⟩
end
section
variable {σ : St} {H : Hp} {Q : VK} {C p : Addr} {ta tv : TE} {t : TA} {f m : Str} {v : V} {nx : St → Hp → Prop} {rt : VK} {bk ct : St → Hp → Prop} {sp : Sp} {E : XK}
theorem rd_fldC (h : ta σ H fun x H1 => ∃ a dx fs v, x = .ref a ∧ H1 a = some (.ins C dx fs) ∧ fs.lookup f = some v ∧ Q v H1) : tFldC C ta f σ H Q := h
instance st_fldC  : Stp (tFldC C ta f σ H Q) (ta σ H fun x H1 => ∃ a dx fs v, x = .ref a ∧ H1 a = some (.ins C dx fs) ∧ fs.lookup f = some v ∧ Q v H1) := ⟨fun h => rd_fldC h⟩
theorem rd_fld1 {dx : Addr} {fs : List (Str × V)} {S : V → Prop} (h : H p = some (.ins C dx fs)) (l : fs.lookup f = some v) (q : S v) : ∃ a dx fs v, V.ref p = .ref a ∧ H a = some (.ins C dx fs) ∧ fs.lookup f = some v ∧ S v := ⟨p, dx, fs, v, rfl, h, l, q⟩
theorem rd_sfldC (h : tv σ H fun y H1 => ta σ H1 fun x H2 => ∃ a dx fs, x = .ref a ∧ H2 a = some (.ins C dx fs) ∧ fs.length < 1000 ∧ nx σ (upd H2 a (.ins C dx (putF f y fs)))) : sFldC C ta tv f ⟨nx, rt, bk, ct⟩ σ H := h
instance st_sfldC  : Stp (sFldC C ta tv f ⟨nx, rt, bk, ct⟩ σ H) (tv σ H fun y H1 => ta σ H1 fun x H2 => ∃ a dx fs, x = .ref a ∧ H2 a = some (.ins C dx fs) ∧ fs.length < 1000 ∧ nx σ (upd H2 a (.ins C dx (putF f y fs)))) := ⟨fun h => rd_sfldC h⟩
theorem rd_sfld1 {dx : Addr} {fs : List (Str × V)} {S : Addr → Addr → List (Str × V) → Prop} (h : H p = some (.ins C dx fs)) (l : fs.length < 1000) (q : S p dx fs) : ∃ a dx fs, V.ref p = .ref a ∧ H a = some (.ins C dx fs) ∧ fs.length < 1000 ∧ S a dx fs := ⟨p, dx, fs, rfl, h, l, q⟩
theorem rd_meth (h : ta σ H fun x H1 => ∃ a dx fs, x = .ref a ∧ H1 a = some (.ins C dx fs) ∧ fs.lookup m = none ∧ t σ H1 fun vs H2 => sp (x :: vs) H2 Q E) : tMeth C m sp [] E ta t σ H Q := by
  show ta σ H fun x H1 => ∃ a dx fs, x = .ref a ∧ H1 a = some (.ins C dx fs) ∧ fs.lookup m = none ∧ t σ H1 fun vs H2 => sp (x :: (vs ++ [])) H2 Q E
  simp only [List.append_nil]
  exact h
instance st_meth  : Stp (tMeth C m sp [] E ta t σ H Q) (ta σ H fun x H1 => ∃ a dx fs, x = .ref a ∧ H1 a = some (.ins C dx fs) ∧ fs.lookup m = none ∧ t σ H1 fun vs H2 => sp (x :: vs) H2 Q E) := ⟨fun h => rd_meth h⟩
theorem rd_meth1 {dx : Addr} {fs : List (Str × V)} {S : Prop} (h : H p = some (.ins C dx fs)) (l : fs.lookup m = none) (q : S) : ∃ a dx fs, V.ref p = .ref a ∧ H a = some (.ins C dx fs) ∧ fs.lookup m = none ∧ S := ⟨p, dx, fs, rfl, h, l, q⟩
theorem rd_make (h : t σ H fun vs H1 => ∀ x dx, H1 x = none → H1 dx = none → dx ≠ x → sp (.ref x :: vs) (upd (upd H1 dx (.own x)) x (.ins C dx [])) (fun v H2 => v = .non ∧ Q (.ref x) H2) E) : tMake C sp [] E t σ H Q := by
  show t σ H fun vs H1 => ∀ x dx, H1 x = none → H1 dx = none → dx ≠ x → sp (.ref x :: (vs ++ [])) (upd (upd H1 dx (.own x)) x (.ins C dx [])) (fun v H2 => v = .non ∧ Q (.ref x) H2) E
  simp only [List.append_nil]
  exact h
instance st_make  : Stp (tMake C sp [] E t σ H Q) (t σ H fun vs H1 => ∀ x dx, H1 x = none → H1 dx = none → dx ≠ x → sp (.ref x :: vs) (upd (upd H1 dx (.own x)) x (.ins C dx [])) (fun v H2 => v = .non ∧ Q (.ref x) H2) E) := ⟨fun h => rd_make h⟩
theorem rd_callC (h : ta σ H fun y H1 => ∃ a, y = V.ref a ∧ t σ H1 fun vs H2 => (∃ dx fs, H2 a = some (.ins C dx fs)) ∧ sp (V.ref a :: vs) H2 Q E) : tCallC C sp E ta t σ H Q := h
instance st_callC : Stp (tCallC C sp E ta t σ H Q) (ta σ H fun y H1 => ∃ a, y = V.ref a ∧ t σ H1 fun vs H2 => (∃ dx fs, H2 a = some (.ins C dx fs)) ∧ sp (V.ref a :: vs) H2 Q E) := ⟨fun h => rd_callC h⟩
theorem rd_callO1 {S : Addr → Prop} (q : S p) : ∃ a, V.ref p = V.ref a ∧ S a := ⟨p, rfl, q⟩
instance st_callO1 {S : Addr → Prop} : Stp (∃ a, V.ref p = V.ref a ∧ S a) (S p) := ⟨fun q => rd_callO1 q⟩
theorem rd_callO2 {dx : Addr} {fs : List (Str × V)} {S : Prop} (h : H p = some (.ins C dx fs)) (q : S) : (∃ dx fs, H p = some (.ins C dx fs)) ∧ S := ⟨⟨dx, fs, h⟩, q⟩
theorem rd_isB {a b : Bool} (q : Q (.bl (decide (a = b))) H) : rIsB (.bl a) (.bl b) H Q := ⟨a, b, rfl, rfl, q⟩
instance st_isB {a b : Bool} : Stp (rIsB (.bl a) (.bl b) H Q) (Q (.bl (decide (a = b))) H) := ⟨fun h => rd_isB h⟩
theorem rd_notB {a b : Bool} (q : Q (.bl (!decide (a = b))) H) : rNotB (.bl a) (.bl b) H Q := ⟨a, b, rfl, rfl, q⟩
instance st_notB {a b : Bool} : Stp (rNotB (.bl a) (.bl b) H Q) (Q (.bl (!decide (a = b))) H) := ⟨fun h => rd_notB h⟩
theorem rd_isNone {x : V} (q : Q (.bl (decide (x = .non))) H) : (V.non = V.non) ∧ Q (.bl (decide (x = .non))) H := ⟨rfl, q⟩
instance st_isNone {x : V} : Stp ((V.non = V.non) ∧ Q (.bl (decide (x = .non))) H) (Q (.bl (decide (x = .non))) H) := ⟨fun h => rd_isNone h⟩
end
theorem kit_self {K : PySem.W.Frag} {C : Addr} : PySem.W.kitOne K (.ref C) (.ref C) = some true := if_pos (by simp)
theorem sub_list {K : PySem.W.Frag} {C : Addr} : PySem.W.subIn K (.type "list") (.ref C) = some false := rfl
theorem kit_list {K : PySem.W.Frag} {C : Addr} (h1 : PySem.W.isClsIn K C = true) (h2 : PySem.W.typeIn K (.ref C) = some (.type "type")) : PySem.W.kitOne K (.type "list") (.ref C) = some false := by
  have e : ((PySem.W.clsIn K C).isSome && PySem.W.typeIn K (.ref C) == some (.type "type")) = true := by
    have h1' : (PySem.W.clsIn K C).isSome = true := h1
    rw [h1', h2] <;> rfl
  show (if (Value.type "list" == Value.ref C) = true then some true else if ((PySem.W.clsIn K C).isSome && PySem.W.typeIn K (.ref C) == some (.type "type")) = true then PySem.W.subIn K (.type "list") (.ref C) else none) = some false
  rw [if_neg (by intro z; cases z), if_pos e]
  exact sub_list
theorem notFirst_list {K : PySem.W.Frag} {C : Addr} : PySem.W.notFirst K C (.type "list") = true := by
  unfold PySem.W.notFirst
  rw [sub_list]
  rfl
end L2
namespace L2
open PySem PySem.Spec PyProof.Rows
/-! ### data without bools: what == tells is equality -/
mutual
def okD : PyData → Nat → Bool
  | .none, _ => true
  | .int _, _ => true
  | .str s, _ => PyData.strOk s
  | .list xs, n => decide (0 < n) && okDs xs (n - 1)
  | .tuple xs, n => decide (0 < n) && okDs xs (n - 1)
  | .bool _, _ => false
  | .dict _, _ => false
def okDs : List PyData → Nat → Bool
  | [], _ => true
  | x :: xs, n => okD x n && okDs xs n
end
mutual
theorem okD_lay : ∀ (d : PyData) (n : Nat), okD d n = true → d.canLay0 = true ∧ d.depth ≤ n
  | .none, _, _ => ⟨rfl, by simp [PyData.depth]⟩
  | .int _, _, _ => ⟨rfl, by simp [PyData.depth]⟩
  | .str s, _, h => ⟨by simpa [okD, PyData.canLay0] using h, by simp [PyData.depth]⟩
  | .list xs, n, h => by
    simp only [okD, Bool.and_eq_true, decide_eq_true_eq] at h
    obtain ⟨a, b⟩ := okDs_lay xs (n - 1) h.2
    refine ⟨by rw [PyData.canLay0]; exact a, ?_⟩
    simp only [PyData.depth]
    omega
  | .tuple xs, n, h => by
    simp only [okD, Bool.and_eq_true, decide_eq_true_eq] at h
    obtain ⟨a, b⟩ := okDs_lay xs (n - 1) h.2
    refine ⟨by rw [PyData.canLay0]; exact a, ?_⟩
    simp only [PyData.depth]
    omega
  | .bool _, _, h => by simp [okD] at h
  | .dict _, _, h => by simp [okD] at h
theorem okDs_lay : ∀ (ds : List PyData) (n : Nat), okDs ds n = true → PyData.canLayAll0 ds = true ∧ PyData.depthAll ds ≤ n
  | [], _, _ => ⟨rfl, Nat.zero_le _⟩
  | d :: ds, n, h => by
    simp only [okDs, Bool.and_eq_true] at h
    obtain ⟨a, b⟩ := okD_lay d n h.1
    obtain ⟨c, e⟩ := okDs_lay ds n h.2
    simp only [PyData.canLayAll0, PyData.depthAll]
    exact ⟨by rw [a, c]; rfl, Nat.max_le.mpr ⟨b, e⟩⟩
end
theorem okD_shaped {d : PyData} (h : okD d 60 = true) : SeqAt.shaped d = true := by
  obtain ⟨a, b⟩ := okD_lay d 60 h
  unfold SeqAt.shaped
  rw [a, Bool.true_and, decide_eq_true_eq]
  omega
mutual
theorem okD_eqv : ∀ (d e : PyData) (n m : Nat), okD d n = true → okD e m = true → (PyData.eqv d e = true ↔ d = e)
  | .none, e, _, _, _, h => by cases e <;> simp [PyData.eqv, okD] at h ⊢
  | .int i, e, _, _, _, h => by cases e <;> simp [PyData.eqv, okD] at h ⊢
  | .str s, e, _, _, _, h => by cases e <;> simp [PyData.eqv, okD] at h ⊢
  | .list xs, e, n, m, h1, h => by
    cases e with
    | list ys =>
      simp only [okD, Bool.and_eq_true, decide_eq_true_eq] at h1 h
      rw [PyData.eqv, okDs_eqv xs ys _ _ h1.2 h.2]
      simp
    | _ => simp [PyData.eqv, okD] at h ⊢
  | .tuple xs, e, n, m, h1, h => by
    cases e with
    | tuple ys =>
      simp only [okD, Bool.and_eq_true, decide_eq_true_eq] at h1 h
      rw [PyData.eqv, okDs_eqv xs ys _ _ h1.2 h.2]
      simp
    | _ => simp [PyData.eqv, okD] at h ⊢
  | .bool _, _, _, _, h1, _ => by simp [okD] at h1
  | .dict _, _, _, _, h1, _ => by simp [okD] at h1
theorem okDs_eqv : ∀ (ds es : List PyData) (n m : Nat), okDs ds n = true → okDs es m = true → (PyData.eqvAll ds es = true ↔ ds = es)
  | [], es, _, _, _, _ => by cases es <;> simp [PyData.eqvAll]
  | d :: ds, es, n, m, h1, h2 => by
    cases es with
    | nil => simp [PyData.eqvAll]
    | cons e es =>
      simp only [okDs, Bool.and_eq_true] at h1 h2
      rw [PyData.eqvAll, Bool.and_eq_true, okD_eqv d e n m h1.1 h2.1, okDs_eqv ds es n m h1.2 h2.2]
      simp
end
theorem okD_dec {d e : PyData} [Decidable (d = e)] (h1 : okD d 60 = true) (h2 : okD e 60 = true) : PyData.eqv d e = decide (d = e) := by
  rw [Bool.eq_iff_iff, okD_eqv d e 60 60 h1 h2, decide_eq_true_iff]
theorem okDs_map {α : Type} {f : α → PyData} {n : Nat} : ∀ {l : List α}, (∀ x ∈ l, okD (f x) n = true) → okDs (l.map f) n = true
  | [], _ => rfl
  | x :: l, h => by
    rw [List.map_cons, okDs, h x (List.mem_cons_self ..), okDs_map fun y hy => h y (List.mem_cons_of_mem _ hy)]
    rfl
open Classical in
noncomputable instance decD (d e : PyData) : Decidable (d = e) := Classical.propDecidable _
section
variable {K : PySem.W.Frag} {H H' : Hp} {Q : VK} {x y : V} {d e : PyData}
theorem rd_neP {p : Prop} [Decidable p] (h1 : Dp K H x d) (h2 : Dp K H y e) (o1 : okD d 60 = true) (o2 : okD e 60 = true) (hp : d = e ↔ p) (q : Q (.bl (!decide p)) H) : rNeD K x y H Q :=
  ⟨d, e, h1, h2, okD_shaped o1, okD_shaped o2, by rw [okD_dec o1 o2, decide_eq_decide.mpr hp]; exact q⟩
theorem Same.seqT {K : PySem.W.Frag} {H H' : Hp} {a : Addr} {xs : List V} (e : Same H H') (h : SqT K H a xs) : SqT K H' a xs := by
  rcases h with (h | ⟨o, h⟩) | h
  · exact .inl (.inl (e _ _ h))
  · exact .inl (.inr ⟨o, e _ _ h⟩)
  · exact .inr h
mutual
theorem Dp.same (s : Same H H') : ∀ {v : V} {d : PyData}, Dp K H v d → Dp K H' v d
  | _, _, .non => .non
  | _, _, .bl b => .bl b
  | _, _, .int i => .int i
  | _, _, .str x => .str x
  | _, _, .lst h a => .lst (s.seq h) (DpAll.same s a)
  | _, _, .tup h a => .tup (Same.seqT s h) (DpAll.same s a)
theorem DpAll.same (s : Same H H') : ∀ {vs : List V} {ds : List PyData}, DpAll K H vs ds → DpAll K H' vs ds
  | _, _, .nil => .nil
  | _, _, .cons h a => .cons (Dp.same s h) (DpAll.same s a)
end
theorem DpAll.len : ∀ {vs : List V} {ds : List PyData}, DpAll K H vs ds → vs.length = ds.length
  | _, _, .nil => rfl
  | _, _, .cons _ a => by rw [List.length_cons, List.length_cons, DpAll.len a]
theorem DpAll.at : ∀ {vs : List V} {ds : List PyData} {i : Nat} {v : V}, DpAll K H vs ds → vs[i]? = some v → ∃ d, ds[i]? = some d ∧ Dp K H v d
  | _, _, i, _, .nil, e => by cases e
  | _, _, 0, _, .cons (d := d) h _, e => ⟨d, rfl, by cases e; exact h⟩
  | _, _, i + 1, _, .cons _ a, e => DpAll.at (i := i) a e
theorem DpAll.snoc : ∀ {vs : List V} {ds : List PyData} {v : V} {d : PyData}, DpAll K H vs ds → Dp K H v d → DpAll K H (vs ++ [v]) (ds ++ [d])
  | _, _, _, _, .nil, h => .cons h .nil
  | _, _, _, _, .cons a r, h => .cons a (DpAll.snoc r h)
theorem Dp.int_inv {n : Int} (h : Dp K H x (.int n)) : x = .int n := by
  cases h
  rfl
theorem DpAll.ints : ∀ {ns : List Int} {vs : List V}, DpAll K H vs (ns.map PyData.int) → vs = ns.map V.int
  | [], _, .nil => rfl
  | n :: ns, _, .cons h a => by rw [Dp.int_inv h, DpAll.ints a]; rfl
theorem DpAll.nil_inv {vs : List V} (h : DpAll K H vs []) : vs = [] := by
  cases h
  rfl
theorem DpAll.cons_inv {vs : List V} {ds : List PyData} (h : DpAll K H vs (d :: ds)) : ∃ v vs', vs = v :: vs' ∧ Dp K H v d ∧ DpAll K H vs' ds := by
  cases h with
  | cons a b => exact ⟨_, _, rfl, a, b⟩
end
/-! ### loops that leave the heap -/
section
variable {σ : St} {H : Hp} {K : PySem.W.Frag} {t : TS} {nx : St → Hp → Prop} {rt : VK}
theorem rd_forLs {a : Addr} {xs : List V} {g : TG} (Pv : Nat → St → Prop) (hl : SqL K H a xs) (h0 : Pv 0 σ)
    (hs : ∀ i x σ, xs[i]? = some x → Pv i σ → g x σ H fun σ2 H2 => t ⟨fun σ' H' => H = H' ∧ Pv (i + 1) σ', rt, nx, fun σ' H' => H = H' ∧ Pv (i + 1) σ'⟩ σ2 H2) (hd : ∀ σ, Pv xs.length σ → nx σ H) : fBody (Itl K a) g t nx rt σ H :=
  rd_forL (fun i σ' H' => H = H' ∧ Pv i σ') ⟨rfl, h0⟩ (fun i σ' H' _ p => by obtain ⟨rfl, _⟩ := p; exact hl) (fun i x σ' H' hi p => by obtain ⟨rfl, p⟩ := p; exact hs i x σ' hi p) fun σ' H' p => by obtain ⟨rfl, p⟩ := p; exact hd σ' p
theorem rd_forTs {a : Addr} {xs : List V} {g : TG} (Pv : Nat → St → Prop) (hl : SqT K H a xs) (h0 : Pv 0 σ)
    (hs : ∀ i x σ, xs[i]? = some x → Pv i σ → g x σ H fun σ2 H2 => t ⟨fun σ' H' => H = H' ∧ Pv (i + 1) σ', rt, nx, fun σ' H' => H = H' ∧ Pv (i + 1) σ'⟩ σ2 H2) (hd : ∀ σ, Pv xs.length σ → nx σ H) : fBody (Itt K a) g t nx rt σ H :=
  rd_forT (fun i σ' H' => H = H' ∧ Pv i σ') ⟨rfl, h0⟩ (fun i σ' H' _ p => by obtain ⟨rfl, _⟩ := p; exact hl) (fun i x σ' H' hi p => by obtain ⟨rfl, p⟩ := p; exact hs i x σ' hi p) fun σ' H' p => by obtain ⟨rfl, p⟩ := p; exact hd σ' p
end
section
theorem rd_eqF {p A B : Prop} [Decidable p] (h : ¬ p) (q : B) : if decide p = true then A else B := by
  rw [decide_eq_false h]
  exact q
theorem rd_neT {p A B : Prop} [Decidable p] (h : ¬ p) (q : A) : if (!decide p) = true then A else B := by
  rw [decide_eq_false h]
  exact q
end
instance st_non {P : Prop} : Stp (V.non = V.non ∧ P) P := ⟨fun h => ⟨rfl, h⟩⟩
theorem non_int {k : Int} : ¬ V.int k = V.non := fun z => V.noConfusion z
theorem non_ref {k : Addr} : ¬ V.ref k = V.non := fun z => V.noConfusion z
theorem upd_at {H : Hp} {p q : Addr} {o u : HO} (h : H p = some o) (n : H p = some o → p ≠ q) : upd H q u p = some o := (upd_ne (n h)).trans h
end L2
namespace L2
open PySem PySem.Spec PyProof.Rows
/-! ### sizes of whole numbers, by bits -/
structure Bd (n : Nat) (x : Int) : Prop where
  h : x.natAbs < 2 ^ n
theorem Bd.mono {n m : Nat} {x : Int} (h : Bd n x) (hm : n ≤ m) : Bd m x := ⟨Nat.lt_of_lt_of_le h.h (Nat.pow_le_pow_right (by decide) hm)⟩
theorem Bd.mul {n m : Nat} {x y : Int} (h : Bd n x) (k : Bd m y) : Bd (n + m) (x * y) := ⟨wide_lt h.h k.h⟩
theorem Bd.neg {n : Nat} {x : Int} (h : Bd n x) : Bd n (-x) := ⟨by
  rw [Int.natAbs_neg]
  exact h.h⟩
theorem Bd.add {n m : Nat} {x y : Int} (h : Bd n x) (k : Bd m y) : Bd (max n m + 1) (x + y) := ⟨by
  have a := (Bd.mono h (Nat.le_max_left n m)).h
  have b := (Bd.mono k (Nat.le_max_right n m)).h
  have := Int.natAbs_add_le x y
  rw [Nat.pow_succ]
  omega⟩
theorem Bd.sub {n m : Nat} {x y : Int} (h : Bd n x) (k : Bd m y) : Bd (max n m + 1) (x - y) := by
  rw [Int.sub_eq_add_neg]
  exact Bd.add h k.neg
theorem Bd.lt {n : Nat} {x : Int} (h : Bd n x) : -(2 ^ n) < x ∧ x < 2 ^ n := by
  have e : ((2 ^ n : Nat) : Int) = 2 ^ n := by rw [Int.natCast_pow]; rfl
  have := h.h
  omega
theorem Bd.of {n : Nat} {x : Int} (h : -(2 ^ n) < x) (k : x < 2 ^ n) : Bd n x := ⟨by
  have e : ((2 ^ n : Nat) : Int) = 2 ^ n := by rw [Int.natCast_pow]; rfl
  omega⟩
theorem Bd.le {n : Nat} {x y : Int} (h : Bd n y) (h1 : x.natAbs ≤ y.natAbs) : Bd n x := ⟨Nat.lt_of_le_of_lt h1 h.h⟩
theorem Bd.lit {x : Int} {n : Nat} (h : x.natAbs < 2 ^ 64) (hn : 64 ≤ n) : Bd n x := Bd.mono ⟨h⟩ hn
theorem Bd.mulN {n : Nat} {x y : Int} (h : Bd (n / 2) x) (k : Bd (n / 2) y) : Bd n (x * y) := (h.mul k).mono (by omega)
theorem Bd.addN {n : Nat} {x y : Int} (h : Bd (n - 1) x) (k : Bd (n - 1) y) (hn : 0 < n) : Bd n (x + y) := (h.add k).mono (by omega)
theorem Bd.subN {n : Nat} {x y : Int} (h : Bd (n - 1) x) (k : Bd (n - 1) y) (hn : 0 < n) : Bd n (x - y) := (h.sub k).mono (by omega)
theorem CMulB.bd {x y : Int} (h : Bd 9000 x) (k : Bd 9000 y) : CMulB x y := .inr (wide_mul h.h k.h (by decide) (by decide) (by decide))
end L2
namespace L2
open PySem PySem.Spec PyProof.Rows
/-! ### texts of whole numbers, str(o) of an own __str__ -/
def txI (i : Int) : Str := Str.ofString (toString i)
theorem txI_len {i : Int} {n : Nat} (h : Bd n i) (hn : n ≤ 1000) : (txI i).length ≤ 1001 ∧ i.natAbs.log2 < 1000 := by
  have l : i.natAbs.log2 < 1000 := PySem.Flt.log2_lt_of (by decide) (h.mono hn).h
  have e := int_text_length_le (k := 1000) (by decide) l
  unfold txI
  rw [PySem.ofString_length]
  exact ⟨e, l⟩
def rStrI : List V → Hp → VK → Prop := fun xs H Q => ∃ i, xs = [.int i] ∧ i.natAbs.log2 < 1920 ∧ Q (.str (txI i)) H
section
variable {σ : St} {H : Hp} {Q : VK} {te : TE} {ts : List TE} {acc : Str} {R : Str → Hp → Prop}
def rFmt (Q : VK) : V → Hp → Prop := fun x H1 => (∃ y : Str, x = .str y ∧ y.length ≤ sizeLine ∧ Q (.str y) H1) ∨ ∃ i : Int, x = .int i ∧ i.natAbs.log2 < 1920 ∧ Q (.str (toString i)) H1
instance st_fmt : Stp (tFmt te σ H Q) (te σ H (rFmt Q)) := ⟨fun h => h⟩
theorem rd_fmtI {i : Int} (h : i.natAbs.log2 < 1920) (q : Q (.str (txI i)) H) : rFmt Q (.int i) H := .inr ⟨i, rfl, h, q⟩
instance st_jsN : Stp (tJs [] acc σ H R) (R acc H) := ⟨fun h => h⟩
def rJs (ts : List TE) (acc : Str) (σ : St) (R : Str → Hp → Prop) : V → Hp → Prop := fun x H1 => ∃ y : Str, x = .str y ∧ (acc ++ y).length ≤ sizeLine ∧ tJs ts (acc ++ y) σ H1 R
instance st_jsC : Stp (tJs (te :: ts) acc σ H R) (te σ H (rJs ts acc σ R)) := ⟨fun h => h⟩
theorem rd_strI {i : Int} (h : i.natAbs.log2 < 1920) (q : Q (.str (txI i)) H) : rStrI [.int i] H Q := ⟨i, rfl, h, q⟩
end
end L2
namespace L2
open PySem PySem.Spec PyProof.Rows
/-! ### walks of other kinds -/
section
variable {σ : St} {H : Hp} {K : PySem.W.Frag} {t : TS} {nx : St → Hp → Prop} {rt : VK} {Q : VK} {tr : TA} {te : TE} {tt : TT} {S : It → Hp → Prop} {J : It} {n : Nat} {G : Hp → Prop} {Y : Nat → Hp → V → Hp → Prop}
def rIRev (K : PySem.W.Frag) (S : It → Hp → Prop) (vs : List V) (H : Hp) : Prop := ∃ (a : Addr) (xs : List V), vs = [.ref a] ∧ SqL K H a xs ∧ S (Itv K a xs.length) H
instance st_iRev : Stp (iRev K tr σ H S) (tr σ H (rIRev K S)) := ⟨fun h => h⟩
theorem rd_iRev1 {a : Addr} {xs : List V} (h : SqL K H a xs) (q : S (Itv K a xs.length) H) : rIRev K S [.ref a] H := ⟨a, xs, rfl, h, q⟩
/-- a comprehension over a list; each turn only makes new things -/
theorem rd_lcP {a : Addr} {xs : List V} {g : TG} {vs : List Nat} (P : Nat → List V → Prop) (hS : SqL K H a xs) (nt : NoT H) (h0 : P 0 [])
    (hs : ∀ D i ys x H', xs[i]? = some x → Same H H' → NoT H' → H D = none → H' D = some (.lst ys) → P i ys → g x (wipe σ vs) H' fun σ2 H2 => wipe σ2 vs = wipe σ vs ∧ tt σ2 H2 fun b H3 =>
      if b = true then te σ2 H3 (fun y H4 => ∃ acc, H4 D = some (.lst acc) ∧ acc.length < sizeLine ∧ ∃ ys, upd H4 D (.lst (acc ++ [y])) D = some (.lst ys) ∧ Same H (upd H4 D (.lst (acc ++ [y]))) ∧ NoT (upd H4 D (.lst (acc ++ [y]))) ∧ P (i + 1) ys)
      else ∃ ys, H3 D = some (.lst ys) ∧ Same H H3 ∧ NoT H3 ∧ P (i + 1) ys)
    (q : ∀ D ys H', H D = none → H' D = some (.lst ys) → Same H H' → NoT H' → P xs.length ys → Q (.ref D) H') : lcB (Itl K a) g tt te vs σ Q H := by
  intro D hD
  refine lc_it (walk_list (K := K) (a := a) (xs := xs)) (fun i H' => ∃ ys, H' D = some (.lst ys) ∧ Same H H' ∧ NoT H' ∧ P i ys) ⟨[], upd_same, same_new hD, NoT.upd nt rfl, h0⟩ (fun i H' _ ⟨ys, _, s, _⟩ => s.seq hS) ?_ (fun H' ⟨ys, h1, s, n, p⟩ => q D ys H' hD h1 s n p)
  rintro i x H' H'' hi ⟨ys, h1, s, n, p⟩ ⟨rfl, hx⟩
  exact hs D i ys x _ hx s n hD h1 p
theorem put_P {P : List V → Prop} {D : Addr} {H H4 : Hp} {acc : List V} {y : V} (h : H4 D = some (.lst acc)) (hl : acc.length < sizeLine) (sm : Same H H4) (hD : H D = none) (n : NoT H4) (p : P (acc ++ [y])) :
    ∃ acc, H4 D = some (.lst acc) ∧ acc.length < sizeLine ∧ ∃ ys, upd H4 D (.lst (acc ++ [y])) D = some (.lst ys) ∧ Same H (upd H4 D (.lst (acc ++ [y]))) ∧ NoT (upd H4 D (.lst (acc ++ [y]))) ∧ P ys :=
  ⟨acc, h, hl, _, upd_same, same_upd2 sm hD, NoT.upd n rfl, p⟩
end
def rRevV (K : PySem.W.Frag) (Q : VK) : V → Hp → Prop := fun x H1 => ∃ a xs, x = .ref a ∧ SqL K H1 a xs ∧ ∀ p, H1 p = none → Q (.ref p) (upd H1 p (.lst xs.reverse))
instance st_revL {K : PySem.W.Frag} {te : TE} {σ : St} {H : Hp} {Q : VK} : Stp (tRevL K te σ H Q) (te σ H (rRevV K Q)) := ⟨fun h => h⟩
theorem rd_revV {K : PySem.W.Frag} {H : Hp} {Q : VK} {a : Addr} {xs : List V} (h : SqL K H a xs) (q : ∀ p, H p = none → Q (.ref p) (upd H p (.lst xs.reverse))) : rRevV K Q (.ref a) H := ⟨a, xs, rfl, h, q⟩
theorem room2 {xs zs : List V} {n m : Nat} (h1 : xs.length ≤ n) (h2 : zs.length ≤ m) (h : n + m ≤ 1000000) : xs.length + zs.length ≤ sizeLine := Nat.le_trans (Nat.add_le_add h1 h2) (Nat.le_trans h (by decide))
theorem len_one {v : V} : [v].length ≤ 1 := Nat.le_refl 1
theorem same_upd3 {H H' : Hp} {p : Addr} {o : HO} (h : Same H H') (hp : H' p = none) : Same H (upd H' p o) := same_upd2 h (h.free hp)
section
variable {H : Hp} {Q : VK} {i : Int}
theorem rd_eqNN (q : Q (.bl true) H) : rEq .non .non H Q := ⟨rfl, by simpa using q⟩
instance st_eqNN : Stp (rEq .non .non H Q) (Q (.bl true) H) := ⟨fun h => rd_eqNN h⟩
theorem rd_neNN (q : Q (.bl false) H) : rNe .non .non H Q := ⟨rfl, by simpa using q⟩
instance st_neNN : Stp (rNe .non .non H Q) (Q (.bl false) H) := ⟨fun h => rd_neNN h⟩
theorem rd_eqNI (q : Q (.bl false) H) : rEq .non (.int i) H Q := ⟨rfl, by simpa using q⟩
instance st_eqNI : Stp (rEq .non (.int i) H Q) (Q (.bl false) H) := ⟨fun h => rd_eqNI h⟩
theorem rd_neNI (q : Q (.bl true) H) : rNe .non (.int i) H Q := ⟨rfl, by simpa using q⟩
instance st_neNI : Stp (rNe .non (.int i) H Q) (Q (.bl true) H) := ⟨fun h => rd_neNI h⟩
theorem rd_eqIN (q : Q (.bl false) H) : rEq (.int i) .non H Q := ⟨rfl, by simpa using q⟩
instance st_eqIN : Stp (rEq (.int i) .non H Q) (Q (.bl false) H) := ⟨fun h => rd_eqIN h⟩
theorem rd_neIN (q : Q (.bl true) H) : rNe (.int i) .non H Q := ⟨rfl, by simpa using q⟩
instance st_neIN : Stp (rNe (.int i) .non H Q) (Q (.bl true) H) := ⟨fun h => rd_neIN h⟩
end
end L2
namespace L2
open PySem PySem.Spec PyProof.Rows
/-! ### sets of ints -/
section
variable {X : Cx}
def setNo : Int → Bool := fun _ => false
/-- two ints in braces -/
def tSet2 (w : World) (t1 t2 : TE) : TE := fun σ H Q => ∀ D, H D = none → t1 σ (upd H D (SetO w D setNo 0)) fun x H1 => t2 σ H1 fun y H2 => ∃ i j : Int, x = .int i ∧ y = .int j ∧ H2 D = some (SetO w D setNo 0) ∧
  Q (.ref D) (upd H2 D (SetO w D (fun k => decide (k = i ∨ k = j)) (if i = j then 1 else 2)))
instance st_set2 {w : World} {t1 t2 : TE} {σ : St} {H : Hp} {Q : VK} : Stp (tSet2 w t1 t2 σ H Q) (∀ D, H D = none → t1 σ (upd H D (SetO w D setNo 0)) fun x H1 => t2 σ H1 fun y H2 => ∃ i j : Int, x = .int i ∧ y = .int j ∧ H2 D = some (SetO w D setNo 0) ∧
  Q (.ref D) (upd H2 D (SetO w D (fun k => decide (k = i ∨ k = j)) (if i = j then 1 else 2)))) := ⟨fun h => h⟩
instance st_par3 {i j l : Nat} {ta : TA} {σ : St} {H : Hp} {nx : St → Hp → Prop} {rt : VK} {bk ct : St → Hp → Prop} : Stp (tPar3 i j l ta ⟨nx, rt, bk, ct⟩ σ H) (ta σ H fun vs H1 => ∃ u v w, vs = [u, v, w] ∧ nx (((σ.set i (some u)).set j (some v)).set l (some w)) H1) := ⟨fun h => h⟩
instance st_par3e {u v w : V} {nx : V → V → V → Prop} : Stp (∃ u' v' w', [u, v, w] = [u', v', w'] ∧ nx u' v' w') (nx u v w) := ⟨fun h => ⟨u, v, w, rfl, h⟩⟩
end
end L2
namespace L2
open PySem PySem.Spec PyProof.Rows
section
variable {X : Cx}
/-- a set of whol, made by a comprehension: D the new set, Z what each turn keeps -/
def tScI (w : World) (wi : TI) (g : TG) (tt : TT) (te : TE) (vs : List Nat) : TE := fun σ H Q => wi σ H fun J H1 => ∀ D, H1 D = none → ∃ Z : Nat → Nat → Hp → Prop, (∃ m, Z 0 m (upd H1 D (SetO w D setNo 0))) ∧ ∀ i m G, Z i m G →
  (J.stop i G ∧ Q (.ref D) G) ∨ (J.go i G ∧ ∃ Y : Hp → Prop, (∀ G', Y G' → ∃ l, l < m ∧ Z (i + 1) l G') ∧ ∀ x G', J.yld i G x G' → g x (wipe σ vs) G' fun σ2 G2 => wipe σ2 vs = wipe σ vs ∧ tt σ2 G2 fun b G3 =>
    if b = true then te σ2 G3 fun y G4 => ∃ (c : Int) (S : Int → Bool) (n : Nat), y = .int c ∧ G4 D = some (SetO w D S n) ∧ n + 1 < scanBound ∧ Y (upd G4 D (SetO w D (fun j => S j || decide (j = c)) (if S c = true then n else n + 1))) else Y G3)
end
/-! ### sorted of a set of whol, of any size -/
theorem sortSet_go {P : Program} {w : World} {A : Around} {E : Value → Shared → Prop} {s : Shared} {a : Addr} {S : Int → Bool} {n : Nat} {Q : Value → Shared → Prop} (R : SetR w s.heap a S n) (calm : A.handled = none)
    (go : ∀ s' p (out : List Value) (c : Nat) (ns : List Int), (∀ b o, s.heap.get? b = some o → s'.heap.get? b = some o) → s'.gens = s.gens → s'.os = s.os → s.heap.objs.size ≤ p →
      s'.heap.get? p = some (seqObj "list" out.toArray c) → IntsAre out ns → ns.Pairwise (· < ·) → (∀ k, k ∈ ns ↔ S k = true) → ns.length = n → n < scanBound → Q (.ref p) s') :
    wpAny (model P w) A (call (.builtin "sorted") [.ref a]) Q E s := by
  obtain ⟨ob, cs, cn, tb, atOb, exOb, dOb, good, dis, mem, few, fit, num, ris, led⟩ := R
  refine Calls.call_function_entry kind_sorted plain_sorted entry_sorted (args_sorted1 _) ?_
  unfold Builtin.«sorted»
  refine wpAny_bind (m := checkCount "sorted" 1 1 _) (wpAny_pure ?_)
  refine wpAny_bind (collect_set (A := A.in1) calm ⟨ob, atOb, exOb.1, dOb⟩ fit few ris led fun t vs keep size gens os pm => ?_)
  have lvs : vs.length = n := by rw [pm.length_eq, List.length_map, Array.length_toList, num]
  have small : vs.length ≤ sizeLine := by
    rw [lvs, sizeLine_eq]
    have b1 : cs.size < 4096 := few
    omega
  have whol : IntsAre vs (vs.map Builtin.Re.reRawOf) := ints_of vs fun v hv => by
    obtain ⟨e, he, rfl⟩ := List.mem_map.mp (pm.mem_iff.mp hv)
    obtain ⟨k, tk, h1, _⟩ := good e he
    exact ⟨k, tk, h1⟩
  have keys : (vs.map Builtin.Re.reRawOf).Perm (cs.toList.map keyOf) := by
    have z := pm.map Builtin.Re.reRawOf
    rwa [List.map_map] at z
  refine wpAny_bind (wpAny_newList ?_ small)
  have atL : (t.heap.push (seqObj "list" vs.toArray 0)).get? t.heap.objs.size = some (seqObj "list" vs.toArray 0) := Heap.get?_push_size _ rfl
  refine wpAny_bind (wpAny_holding (wpAny_call_entry slot_list_sort ⟨_, atL, rfl⟩ entry_list_sort (SrtO.list_sort_ord SrtO.swo_int atL small (fun h2 => SrtO.ints_sortable whol h2) fun out h1 h2 => ⟨_, rfl, ?_⟩) (args_list_sort _)))
  obtain ⟨k1, k2, k3⟩ := SrtO.ints_out whol h1 h2
  obtain ⟨c, atS⟩ := sortedHeap_at (vs := vs) (out := out.toArray) atL
  have pn : (out.map SrtO.iv).Perm (cs.toList.map keyOf) := k2.trans keys
  refine wpAny_pure ⟨_, rfl, go _ t.heap.objs.size out c (out.map SrtO.iv) (fun b u e => ?_) gens os size atS k1 (lt_of_le_nodup _ k3 (pn.nodup_iff.mpr dis)) (fun k => by rw [pn.mem_iff, ← mem k]) ?_ (by rw [← num]; exact few)⟩
  · have z := keep b u e
    have lt := Heap.lt_size z
    show (sortedHeap (t.heap.push (seqObj "list" vs.toArray 0)) t.heap.objs.size vs out.toArray).get? b = some u
    rw [sortedHeap_old (Nat.ne_of_lt lt) (by rw [size_push']; exact Nat.lt_succ_of_lt lt)]
    exact Heap.get?_push_of_some _ z
  · rw [pn.length_eq, List.length_map, Array.length_toList, num]
def rSortSetN (w : World) : List V → Hp → VK → Prop := fun vs H Q => ∃ (a : Addr) (S : Int → Bool) (n : Nat), vs = [V.ref a] ∧ H a = some (SetO w a S n) ∧
  ∀ (ns : List Int) (p : Addr), ns.Pairwise (· < ·) → (∀ k : Int, k ∈ ns ↔ S k = true) → ns.length = n → H p = none → Q (.ref p) (upd H p (.lst (ns.map V.int)))
theorem cr_sortSetN {X : Cx} (calm : X.calm = true) : CallR X (.builtin "sorted") (rSortSetN X.w) := by
  intro pins s σ H vs us Q I r ⟨a, S, n, ev, at_, q⟩
  subst ev
  have R := setO_get I at_
  rw [Vals.ref1 r]
  refine sortSet_go R (I.ok.hd calm) fun s' p out c ns k g o hp hg hi hs hm hl few => ?_
  have fits : (ns.map V.int).length ≤ sizeLine := by
    rw [List.length_map, hl, sizeLine_eq]
    have b1 : n < 4096 := few
    omega
  have J : Inv X pins σ (upd H p (.lst (ns.map V.int))) { s with heap := s'.heap, gens := s'.gens, drawn := s'.drawn, toks := s'.toks } :=
    I.call (ch := []) (Un.laid k hp (I.hok.fresh hp)) (I.hok.laid k hp ⟨fits, out, c, vals_of_ints hi, hg⟩) (by rw [g]; exact I.bare) (fun _ z => nomatch z)
  have e : s' = { s with heap := s'.heap, gens := s'.gens, drawn := s'.drawn, toks := s'.toks } := by
    cases s'
    cases s
    cases o
    rfl
  rw [e]
  exact ⟨.ref p, _, J, rfl, q ns p hs hm hl (I.hok.fresh hp)⟩
/-! ### readings -/
section
variable {w : World} {σ : St} {H : Hp} {Q : VK} {K : PySem.W.Frag} {te : TE} {tt : TT}
def inS (l : List Int) : Int → Bool := fun k => decide (k ∈ l)
theorem inS_nil : inS [] = setNo := by
  funext k
  simp [inS, setNo]
theorem inS_snoc {l : List Int} {c : Int} : (fun j => inS l j || decide (j = c)) = inS (l ++ [c]) := by
  funext k
  simp [inS]
def scB (w : World) (J : It) (g : TG) (tt : TT) (te : TE) (vs : List Nat) (σ : St) (Q : VK) (H1 : Hp) : Prop := ∀ D, H1 D = none → ∃ Z : Nat → Nat → Hp → Prop, (∃ m, Z 0 m (upd H1 D (SetO w D setNo 0))) ∧ ∀ i m G, Z i m G →
  (J.stop i G ∧ Q (.ref D) G) ∨ (J.go i G ∧ ∃ Y : Hp → Prop, (∀ G', Y G' → ∃ l, l < m ∧ Z (i + 1) l G') ∧ ∀ x G', J.yld i G x G' → g x (wipe σ vs) G' fun σ2 G2 => wipe σ2 vs = wipe σ vs ∧ tt σ2 G2 fun b G3 =>
    if b = true then te σ2 G3 fun y G4 => ∃ (c : Int) (S : Int → Bool) (n : Nat), y = .int c ∧ G4 D = some (SetO w D S n) ∧ n + 1 < scanBound ∧ Y (upd G4 D (SetO w D (fun j => S j || decide (j = c)) (if S c = true then n else n + 1))) else Y G3)
instance st_scI {wi : TI} {g : TG} {vs : List Nat} : Stp (tScI w wi g tt te vs σ H Q) (wi σ H fun J H1 => scB w J g tt te vs σ Q H1) := ⟨fun h => h⟩
/-- sorted of a set that tells l -/
theorem rd_sortSetN {D : Addr} {l : List Int} {n : Nat} (hD : H D = some (SetO w D (inS l) n)) (q : ∀ (ns : List Int) (p : Addr), ns.Pairwise (· < ·) → (∀ k, k ∈ ns ↔ k ∈ l) → H p = none → Q (.ref p) (upd H p (.lst (ns.map V.int)))) : rSortSetN w [.ref D] H Q :=
  ⟨D, _, n, rfl, hD, fun ns p h1 h2 _ hp => q ns p h1 (fun k => by rw [h2 k]; simp [inS]) hp⟩
end
end L2
namespace L2
open PySem PySem.Spec PyProof.Rows
/-! ### a set of ints by a comprehension of two clauses -/
section
variable {X : Cx}
/-- the inner clause's own loop, from which Y is reached -/
def sc2_inner (w : World) (D : Addr) (g1 : TG) (tt1 : TT) (te : TE) (vs1 : List Nat) (σ2 : St) (Y : Hp → Prop) (J1 : It) (G4 : Hp) : Prop := ∃ Z1 : Nat → Nat → Hp → Prop, (∃ m, Z1 0 m G4) ∧ ∀ j k G, Z1 j k G →
  (J1.stop j G ∧ Y G) ∨ (J1.go j G ∧ ∃ Y1 : Hp → Prop, (∀ G', Y1 G' → ∃ l, l < k ∧ Z1 (j + 1) l G') ∧ ∀ x G', J1.yld j G x G' → g1 x (wipe σ2 vs1) G' fun σ3 G5 => wipe σ3 vs1 = wipe σ2 vs1 ∧ tt1 σ3 G5 fun b G6 =>
    if b = true then te σ3 G6 fun y G7 => ∃ (c : Int) (S : Int → Bool) (n : Nat), y = .int c ∧ G7 D = some (SetO w D S n) ∧ n + 1 < scanBound ∧ Y1 (upd G7 D (SetO w D (fun j => S j || decide (j = c)) (if S c = true then n else n + 1))) else Y1 G6)
def tScI2 (w : World) (wi : TI) (g : TG) (tt : TT) (wi1 : TI) (g1 : TG) (tt1 : TT) (te : TE) (vs vs1 : List Nat) : TE := fun σ H Q => wi σ H fun J H1 => ∀ D, H1 D = none → ∃ Z : Nat → Nat → Hp → Prop, (∃ m, Z 0 m (upd H1 D (SetO w D setNo 0))) ∧ ∀ i m G, Z i m G →
  (J.stop i G ∧ Q (.ref D) G) ∨ (J.go i G ∧ ∃ Y : Hp → Prop, (∀ G', Y G' → ∃ l, l < m ∧ Z (i + 1) l G') ∧ ∀ x G', J.yld i G x G' → g x (wipe σ vs) G' fun σ2 G2 => wipe σ2 vs = wipe σ vs ∧ tt σ2 G2 fun b G3 =>
    if b = true then wi1 σ2 G3 (sc2_inner w D g1 tt1 te vs1 σ2 Y) else Y G3)
end
end L2
/-! ### a set of ints as what was put in, in order -/
namespace L2
open PySem PySem.Spec PyProof.Rows
def insL (l : List Int) (c : Int) : List Int := if c ∈ l then l else l ++ [c]
def ofL (xs : List Int) : List Int := xs.foldl insL []
theorem ofL_snoc {xs : List Int} {c : Int} : ofL (xs ++ [c]) = insL (ofL xs) c := by
  unfold ofL
  rw [List.foldl_append]
  rfl
theorem mem_insL {l : List Int} {c k : Int} : k ∈ insL l c ↔ k ∈ l ∨ k = c := by
  unfold insL
  split
  · rename_i h
    exact ⟨.inl, fun z => z.elim id fun e => e ▸ h⟩
  · simp
theorem mem_foldl : ∀ {xs l : List Int} {k : Int}, k ∈ xs.foldl insL l ↔ k ∈ l ∨ k ∈ xs
  | [], l, k => by simp
  | c :: xs, l, k => by
    rw [List.foldl_cons, mem_foldl (xs := xs), mem_insL, List.mem_cons]
    constructor
    · rintro ((h | h) | h)
      · exact .inl h
      · exact .inr (.inl h)
      · exact .inr (.inr h)
    · rintro (h | h | h)
      · exact .inl (.inl h)
      · exact .inl (.inr h)
      · exact .inr h
theorem mem_ofL {xs : List Int} {k : Int} : k ∈ ofL xs ↔ k ∈ xs := by
  unfold ofL
  rw [mem_foldl]
  simp
theorem nodup_insL {l : List Int} {c : Int} (h : l.Nodup) : (insL l c).Nodup := by
  unfold insL
  split
  · exact h
  · rename_i hc
    refine List.nodup_append.mpr ⟨h, by simp, ?_⟩
    intro a ha b hb e
    rw [List.mem_singleton] at hb
    exact hc (hb ▸ e ▸ ha)
theorem nodup_foldl : ∀ {xs l : List Int}, l.Nodup → (xs.foldl insL l).Nodup
  | [], _, h => h
  | _ :: xs, _, h => nodup_foldl (xs := xs) (nodup_insL h)
theorem nodup_ofL {xs : List Int} : (ofL xs).Nodup := nodup_foldl List.nodup_nil
theorem len_insL {l : List Int} {c : Int} : (insL l c).length ≤ l.length + 1 := by
  unfold insL
  split
  · exact Nat.le_succ _
  · simp
theorem len_foldl : ∀ {xs l : List Int}, (xs.foldl insL l).length ≤ l.length + xs.length
  | [], _ => Nat.le_refl _
  | c :: xs, l => by
    have a := len_foldl (xs := xs) (l := insL l c)
    have b := len_insL (l := l) (c := c)
    rw [List.foldl_cons, List.length_cons]
    omega
theorem len_ofL {xs : List Int} : (ofL xs).length ≤ xs.length := by
  have := len_foldl (xs := xs) (l := [])
  unfold ofL
  simpa using this
/-- distinct ints from 0 on below M are at most M -/
theorem nodup_le : ∀ {M : Nat} {l : List Int}, l.Nodup → (∀ x ∈ l, 0 ≤ x ∧ x < (M : Int)) → l.length ≤ M
  | 0, l, _, h => by
    cases l with
    | nil => exact Nat.le_refl _
    | cons a l => have := h a List.mem_cons_self; omega
  | M + 1, l, nd, h => by
    have e1 : (l.filter (fun x => decide (x ≠ (M : Int)))).length ≤ M := nodup_le (nd.filter _) fun x hx => by
      obtain ⟨a, b⟩ := List.mem_filter.mp hx
      have := h x a
      have := of_decide_eq_true b
      omega
    have e2 : (l.filter (fun x => decide (x = (M : Int)))).length ≤ 1 := by
      match hf : l.filter (fun x => decide (x = (M : Int))) with
      | [] => exact Nat.zero_le _
      | [_] => exact Nat.le_refl _
      | a :: b :: r =>
        have n2 : (a :: b :: r).Nodup := hf ▸ nd.filter _
        have ha : a ∈ l.filter (fun x => decide (x = (M : Int))) := by rw [hf]; exact List.mem_cons_self
        have hb : b ∈ l.filter (fun x => decide (x = (M : Int))) := by rw [hf]; exact List.mem_cons_of_mem _ List.mem_cons_self
        have ea := of_decide_eq_true (List.mem_filter.mp ha).2
        have eb := of_decide_eq_true (List.mem_filter.mp hb).2
        have := (List.nodup_cons.mp n2).1
        rw [ea, eb] at this
        exact absurd List.mem_cons_self this
    have e3 : l.length = (l.filter (fun x => decide (x = (M : Int)))).length + (l.filter (fun x => decide (x ≠ (M : Int)))).length := by
      clear h e1 e2 nd
      induction l with
      | nil => rfl
      | cons a l ih =>
        by_cases z : a = (M : Int)
        · simp [z, ih]
          omega
        · simp [z, ih]
          omega
    omega
section
variable {w : World} {σ : St} {H : Hp} {Q : VK} {K : PySem.W.Frag} {te : TE} {tt : TT}
/-- the heap with the set of what stands in xs at D -/
def SetL (w : World) (H : Hp) (D : Addr) (xs : List Int) : Hp := upd H D (SetO w D (inS (ofL xs)) (ofL xs).length)
theorem SetL.at {D : Addr} {xs : List Int} : SetL w H D xs D = some (SetO w D (inS (ofL xs)) (ofL xs).length) := upd_same
theorem SetL.same {D : Addr} {xs : List Int} (h : H D = none) : Same H (SetL w H D xs) := same_new h
theorem SetL.nt {D : Addr} {xs : List Int} (h : NoT H) : NoT (SetL w H D xs) := NoT.upd h rfl
theorem SetL.nil {D : Addr} : upd H D (SetO w D setNo 0) = SetL w H D [] := by rw [← inS_nil]; rfl
theorem SetL.put {D : Addr} {xs : List Int} {c : Int} : upd (SetL w H D xs) D (SetO w D (fun j => inS (ofL xs) j || decide (j = c)) (if inS (ofL xs) c = true then (ofL xs).length else (ofL xs).length + 1)) = SetL w H D (xs ++ [c]) := by
  unfold SetL
  rw [upd_upd, ofL_snoc, inS_snoc]
  by_cases h : c ∈ ofL xs
  · have e1 : inS (ofL xs) c = true := decide_eq_true h
    have e2 : inS (ofL xs ++ [c]) = inS (ofL xs) := by
      funext k
      refine decide_eq_decide.mpr ?_
      rw [List.mem_append, List.mem_singleton]
      exact ⟨fun z => z.elim id fun e => e ▸ h, .inl⟩
    rw [if_pos e1, e2, show insL (ofL xs) c = ofL xs from if_pos h]
  · have e1 : ¬ inS (ofL xs) c = true := fun z => h (of_decide_eq_true z)
    rw [if_neg e1, show insL (ofL xs) c = ofL xs ++ [c] from if_neg h, List.length_append]
    rfl
/-- two clauses -/
def sc2B (w : World) (J : It) (g : TG) (tt : TT) (wi1 : TI) (g1 : TG) (tt1 : TT) (te : TE) (vs vs1 : List Nat) (σ : St) (Q : VK) (H1 : Hp) : Prop := ∀ D, H1 D = none → ∃ Z : Nat → Nat → Hp → Prop, (∃ m, Z 0 m (upd H1 D (SetO w D setNo 0))) ∧ ∀ i m G, Z i m G →
  (J.stop i G ∧ Q (.ref D) G) ∨ (J.go i G ∧ ∃ Y : Hp → Prop, (∀ G', Y G' → ∃ l, l < m ∧ Z (i + 1) l G') ∧ ∀ x G', J.yld i G x G' → g x (wipe σ vs) G' fun σ2 G2 => wipe σ2 vs = wipe σ vs ∧ tt σ2 G2 fun b G3 =>
    if b = true then wi1 σ2 G3 (sc2_inner w D g1 tt1 te vs1 σ2 Y) else Y G3)
instance st_scI2 {wi wi1 : TI} {g g1 : TG} {tt1 : TT} {vs vs1 : List Nat} : Stp (tScI2 w wi g tt wi1 g1 tt1 te vs vs1 σ H Q) (wi σ H fun J H1 => sc2B w J g tt wi1 g1 tt1 te vs vs1 σ Q H1) := ⟨fun h => h⟩
end
end L2
namespace L2
open PySem PySem.Spec PyProof.Rows
/-! ### list comprehensions over a list of ints -/
section
variable {σ : St} {H : Hp} {Q : VK} {K : PySem.W.Frag} {te : TE} {tt : TT}
def resI (p : Int → Bool) (f : Int → V) (ns : List Int) : List V := (ns.filter p).map f
theorem resI_len {p : Int → Bool} {f : Int → V} {ns : List Int} : (resI p f ns).length ≤ ns.length := by
  unfold resI
  rw [List.length_map]
  exact List.length_filter_le _ _
theorem put_I {D : Addr} {p : Int → Bool} {f : Int → V} {l : List Int} {x : Int} {y : V} (hi : l.length < 1000000) (hp : p x = true) (hy : y = f x) : LcPut H D (resI p f l) (resI p f (l ++ [x])) y (upd H D (.lst (resI p f l))) := by
  refine ⟨_, upd_same, Nat.lt_of_le_of_lt resI_len (Nat.lt_trans hi (by decide)), ?_⟩
  rw [upd_upd]
  unfold resI
  rw [List.filter_append, List.map_append, hy]
  simp [hp]
theorem skip_I {D : Addr} {p : Int → Bool} {f : Int → V} {l : List Int} {x : Int} (hp : p x = false) : LcSkip H D (resI p f (l ++ [x])) (upd H D (.lst (resI p f l))) := by
  show upd H D _ = _
  unfold resI
  rw [List.filter_append, List.map_append]
  simp [hp]
theorem rd_lcI {a : Addr} {ns : List Int} {g : TG} {vs : List Nat} (p : Int → Bool) (f : Int → V) (hS : SqL K H a (ns.map V.int))
    (hs : ∀ D l x r, H D = none → ns = l ++ x :: r → g (.int x) (wipe σ vs) (upd H D (.lst (resI p f l))) fun σ2 H2 => wipe σ2 vs = wipe σ vs ∧ tt σ2 H2 fun b H3 => if b = true then te σ2 H3 (LcPut H D (resI p f l) (resI p f (l ++ [x]))) else LcSkip H D (resI p f (l ++ [x])) H3)
    (q : ∀ D, H D = none → Q (.ref D) (upd H D (.lst ((ns.filter p).map f)))) : lcB (Itl K a) g tt te vs σ Q H := by
  intro D hD
  refine ⟨fun i m H' => m = ns.length - i ∧ i ≤ ns.length ∧ H' = upd H D (.lst (resI p f (ns.take i))), ⟨ns.length, by simp, Nat.zero_le _, rfl⟩, ?_⟩
  rintro i m H' ⟨rfl, hi, rfl⟩
  have hS' : SqL K (upd H D (.lst (resI p f (ns.take i)))) a (ns.map V.int) := (same_new hD).seq hS
  by_cases hlt : i < ns.length
  · have hx : (ns.map V.int)[i]? = some (.int ns[i]) := by simp [hlt]
    have er : ns.take (i + 1) = ns.take i ++ [ns[i]] := by rw [List.take_add_one, List.getElem?_eq_getElem hlt]; rfl
    refine .inr ⟨⟨_, _, hS', hx⟩, fun H' => H' = upd H D (.lst (resI p f (ns.take (i + 1)))), fun H' p' => ⟨ns.length - (i + 1), by omega, rfl, hlt, p'⟩, fun x H' y => ?_⟩
    obtain ⟨e, y⟩ := y
    subst e
    have ex : x = .int ns[i] := Option.some.inj ((y _ hS').symm.trans hx)
    subst ex
    have z := hs D (ns.take i) ns[i] (ns.drop (i + 1)) hD (by rw [List.getElem_cons_drop, List.take_append_drop])
    rw [← er] at z
    exact z
  · have e : i = ns.length := by omega
    subst e
    rw [List.take_length]
    exact .inl ⟨⟨_, (same_new hD).seq hS, by rw [List.length_map]; exact Nat.le_refl _⟩, q D hD⟩
end
end L2
namespace L2
open PySem PySem.Spec PyProof.Rows
/-! ### making and methods within a try -/
section
variable {X : Cx} {k : Nat} {f C : Addr} {fd : FuncData} {ps : List PySem.Str} {sp : Sp} {x m : PySem.Str} {p pos apos : Pos} {e o : Expr} {es : List Expr} {ta : TE} {t : TA} {W : WX}
def tMakeT (C : Addr) (sp : Sp) (E : St → XK) (t : TA) : TE := fun σ H Q => t σ H fun vs H1 => ∀ x dx, H1 x = none → H1 dx = none → dx ≠ x → sp (.ref x :: vs) (upd (upd H1 dx (.own x)) x (.ins C dx [])) (fun v H2 => v = .non ∧ Q (.ref x) H2) (E σ)
instance st_makeS {σ : St} {H : Hp} {Q : VK} {E : St → XK} : Stp (tMakeT C sp E t σ H Q) (t σ H fun vs H1 => ∀ x dx, H1 x = none → H1 dx = none → dx ≠ x → sp (.ref x :: vs) (upd (upd H1 dx (.own x)) x (.ins C dx [])) (fun v H2 => v = .non ∧ Q (.ref x) H2) (E σ)) := ⟨fun h => h⟩
/-- o.m(e, ..) within a try -/
def tMethT (C : Addr) (m : PySem.Str) (sp : Sp) (E : St → XK) (ta : TE) (t : TA) : TE := fun σ H Q => ta σ H fun x H1 => ∃ a dx fs, x = .ref a ∧ H1 a = some (.ins C dx fs) ∧ fs.lookup m = none ∧ t σ H1 fun vs H2 => sp (x :: vs) H2 Q (E σ)
instance st_methT {σ : St} {H : Hp} {Q : VK} {E : St → XK} : Stp (tMethT C m sp E ta t σ H Q) (ta σ H fun x H1 => ∃ a dx fs, x = .ref a ∧ H1 a = some (.ins C dx fs) ∧ fs.lookup m = none ∧ t σ H1 fun vs H2 => sp (x :: vs) H2 Q (E σ)) := ⟨fun h => h⟩
end
end L2
namespace L2
open PySem PySem.Spec PyProof.Rows
section
variable {H : Hp} {Q : VK} {K : PySem.W.Frag} {a : Addr}
theorem rd_sortedI {ns : List Int} (h : SqL K H a (ns.map V.int)) (q : ∀ (ms : List Int) (p : Addr), ms.Perm ns → ms.Pairwise (· ≤ ·) → H p = none → Q (.ref p) (upd H p (.lst (ms.map V.int)))) : rSortedI K [.ref a] H Q := ⟨a, ns, rfl, h, q⟩
end
end L2
namespace L2
open PySem PySem.Spec PyProof.Rows
/-! ### dicts with ints as keys -/
section
variable {σ : St} {H : Hp} {Q : VK} {K : PySem.W.Frag} {v x y : V} {td ty tv : TE} {a : Addr} {i : Int} {kvs : List (Key × V)} {nx : St → Hp → Prop} {rt : VK} {bk ct : St → Hp → Prop}
instance st_dnewK : Stp (tDNewK σ H Q) (∀ p, H p = none → Q (.ref p) (upd H p (.dK []))) := ⟨fun h => h⟩
def rDGetV (Q : VK) : V → V → Hp → Prop := fun x y H => ∃ a v, x = .ref a ∧ DGet H a y (some v) ∧ Q v H
def rDInV (Q : VK) : V → V → Hp → Prop := fun x y H => ∃ a o, x = .ref a ∧ DGet H a y o ∧ Q (.bl o.isSome) H
def rDNinV (Q : VK) : V → V → Hp → Prop := fun x y H => ∃ a o, x = .ref a ∧ DGet H a y o ∧ Q (.bl (!o.isSome)) H
def rDPutV (S : Hp → Prop) : V → V → V → Hp → Prop := fun x y v H => ∃ a H4, x = .ref a ∧ DPut H a y v H4 ∧ S H4
instance st_dget : Stp (tDGet td ty σ H Q) (td σ H fun x H1 => ty σ H1 fun y H2 => rDGetV Q x y H2) := ⟨fun h => h⟩
instance st_din : Stp (tDIn ty td σ H Q) (ty σ H fun y H1 => td σ H1 fun x H2 => rDInV Q x y H2) := ⟨fun h => h⟩
instance st_dnotin : Stp (tDNotIn ty td σ H Q) (ty σ H fun y H1 => td σ H1 fun x H2 => rDNinV Q x y H2) := ⟨fun h => h⟩
instance st_dput : Stp (sDPut td ty tv ⟨nx, rt, bk, ct⟩ σ H) (tv σ H fun v H1 => td σ H1 fun x H2 => ty σ H2 fun y H3 => rDPutV (nx σ) x y v H3) := ⟨fun h => h⟩
theorem rd_din1 {b : Bool} (h : H a = some (.dK kvs)) (hb : (valV kvs (.inl i)).isSome = b) (q : Q (.bl b) H) : rDInV Q (.ref a) (.int i) H := ⟨a, _, rfl, DGet.k (k := .inl i) h, by rw [hb]; exact q⟩
theorem rd_dnotin1 {b : Bool} (h : H a = some (.dK kvs)) (hb : (valV kvs (.inl i)).isSome = b) (q : Q (.bl (!b)) H) : rDNinV Q (.ref a) (.int i) H := ⟨a, _, rfl, DGet.k (k := .inl i) h, by rw [hb]; exact q⟩
theorem rd_dput1 {S : Hp → Prop} (h : H a = some (.dK kvs)) (hl : kvs.length < sizeLine) (q : S (upd H a (.dK (putK kvs (.inl i) v)))) : rDPutV S (.ref a) (.int i) v H := ⟨a, _, rfl, DPut.k (k := .inl i) h hl, q⟩
/-! dicts of flags: {k: True for ..}; ks the keys, in order -/
def dFl (ks : List Int) : List (Key × V) := ks.map fun k => (.inl k, .bl true)
abbrev DFl (ks : List Int) : HO := .dK (dFl ks)
theorem dFl_len {ks : List Int} : (dFl ks).length = ks.length := List.length_map ..
theorem dFl_val {i : Int} : ∀ {ks : List Int}, (valV (dFl ks) (.inl i)).isSome = decide (i ∈ ks)
  | [] => by simp [dFl, valV]
  | k :: ks => by
    have ih := dFl_val (i := i) (ks := ks)
    by_cases e : k = i
    · subst e
      have : valV (dFl (k :: ks)) (.inl k) = some (.bl true) := valV_pos (p := ((Sum.inl k : Key), V.bl true)) (r := dFl ks) (k := Sum.inl k) rfl
      rw [this]
      simp
    · have : valV (dFl (k :: ks)) (.inl i) = valV (dFl ks) (.inl i) := valV_neg (p := ((Sum.inl k : Key), V.bl true)) (r := dFl ks) (k := Sum.inl i) fun z => e (Sum.inl.inj z)
      rw [this, ih]
      refine decide_eq_decide.mpr ?_
      rw [List.mem_cons]
      exact ⟨.inr, fun z => z.elim (fun z => absurd z.symm e) id⟩
theorem dFl_put {ks : List Int} {i : Int} : putK (dFl ks) (.inl i) (.bl true) = dFl (insL ks i) := by
  unfold insL
  by_cases h : i ∈ ks
  · rw [if_pos h]
    unfold putK
    rw [if_pos (by rw [valV_any, dFl_val, decide_eq_true h])]
    unfold dFl
    rw [List.map_map]
    refine List.map_congr_left fun k _ => ?_
    by_cases e : k = i
    · subst e
      simp
    · simp [e]
  · rw [if_neg h]
    have hn : valV (dFl ks) (.inl i) = none := by
      have := dFl_val (i := i) (ks := ks)
      rw [decide_eq_false h] at this
      cases hv : valV (dFl ks) (.inl i) with
      | none => rfl
      | some _ => rw [hv] at this; cases this
    rw [putK_new _ hn]
    unfold dFl
    rw [List.map_append]
    rfl
theorem dFl_keys {ks : List Int} : ((dFl ks).map fun kv => kV kv.1) = ks.map V.int := by
  unfold dFl
  rw [List.map_map]
  rfl
theorem rd_dinF {ks : List Int} (h : H a = some (DFl ks)) (q : Q (.bl (decide (i ∈ ks))) H) : rDInV Q (.ref a) (.int i) H := rd_din1 h dFl_val q
theorem rd_dnotinF {ks : List Int} (h : H a = some (DFl ks)) (q : Q (.bl (!decide (i ∈ ks))) H) : rDNinV Q (.ref a) (.int i) H := rd_dnotin1 h dFl_val q
theorem rd_dputF {ks : List Int} {S : Hp → Prop} (h : H a = some (DFl ks)) (hl : ks.length < 1000000) (q : S (upd H a (DFl (insL ks i)))) : rDPutV S (.ref a) (.int i) (.bl true) H :=
  rd_dput1 h (by rw [dFl_len]; exact Nat.lt_trans hl (by decide)) (by rw [dFl_put]; exact q)
def rListDo : List V → Hp → VK → Prop := fun xs H Q => ∃ (a : Addr) (kvs : List (Key × V)), xs = [.ref a] ∧ Rd H a (.dK kvs) ∧ ∀ p, H p = none → Q (.ref p) (upd H p (.lst (kvs.map fun kv => kV kv.1)))
theorem c_listD {X : Cx} (calm : X.calm = true) : CallR X (.type "list") rListDo := call_listD calm
theorem rd_listF {ks : List Int} (h : H a = some (DFl ks)) (q : ∀ p, H p = none → Q (.ref p) (upd H p (.lst (ks.map V.int)))) : rListDo [.ref a] H Q := ⟨a, dFl ks, rfl, .inl h, by rw [dFl_keys]; exact q⟩
end
end L2
namespace L2
open PySem PySem.Spec PyProof.Rows
theorem room65 {k : Nat} {A : Around} (r : Room k A) : A.units + 65 < cLine := by
  have := r.un
  omega
end L2
namespace L2
open PySem PySem.Spec PyProof.Rows
/-! ### two roads for one expression -/
def tAlt (t u : TE) : TE := fun σ H Q => t σ H Q ∨ u σ H Q
def iAlt (t u : TI) : TI := fun σ H S => t σ H S ∨ u σ H S
section
variable {X : Cx} {e tg : Expr}
theorem pe_alt {t u : TE} (h : PE X e t) (k : PE X e u) : PE X e (tAlt t u) := ⟨fun pins s σ H Q I z => z.elim (h.run pins s σ H Q I) (k.run pins s σ H Q I)⟩
theorem pi_alt {t u : TI} (h : PI X tg e t) (k : PI X tg e u) : PI X tg e (iAlt t u) := ⟨fun pins s σ H S I z => z.elim (h.run pins s σ H S I) (k.run pins s σ H S I)⟩
end
/-! ### operators of own classes -/
def rInO (C : Addr) (sp : Sp) (E : XK) : R2 := fun x y H Q => ∃ a dx fs, y = .ref a ∧ H a = some (.ins C dx fs) ∧ sp [.ref a, x] H (fun v H' => ∃ b, v = .bl b ∧ Q (.bl b) H') E
def rBinO (C : Addr) (sp : Sp) (E : XK) : R2 := fun x y H Q => ∃ a b dx fs dy gs, x = .ref a ∧ y = .ref b ∧ H a = some (.ins C dx fs) ∧ H b = some (.ins C dy gs) ∧ sp [.ref a, .ref b] H (fun v H' => ∃ r, v = .ref r ∧ Q (.ref r) H') E
/-- an own instance's truth -/
def rTruO (C : Addr) (sp : Sp) (E : XK) (R : Bool → Hp → Prop) (x : V) (H : Hp) : Prop := ∃ a dx fs, x = .ref a ∧ H a = some (.ins C dx fs) ∧ sp [.ref a] H (fun v H' => ∃ b, v = .bl b ∧ R b H') E
section
variable {X : Cx} {k : Nat} {C : Addr} {ps : List PySem.Str} {sp : Sp} {E : XK} {m : PySem.Str}
theorem own_at {pins : List (Addr × Obj)} {σ : St} {H : Hp} {s : Shared} {a dx : Addr} {fs : List (PySem.Str × V)} (I : Inv X pins σ H s) (ha : H a = some (.ins C dx fs)) : ∃ ox od, PySem.W.InstAt s.heap a ox C (some od) := by
  obtain ⟨mA, J, _⟩ := ins_get I.hok ha
  obtain ⟨od, J, _⟩ := J.look
  exact ⟨_, od, J⟩
theorem op_inO (D : MDef X.prog X.w X.K X.mg X.base k C "__contains__" ps sp) (hr : Room k X.A) (hx : Passes (L2.CX X.prog X.w) X E) : OpR X (compareOp .In) (rInO C sp E) := by
  intro pins s σ H x y v u Q I rx ry ⟨a, dx, fs, ey, ha, go⟩
  subst ey
  cases (show u = Value.ref a from ry)
  obtain ⟨f, fd, F, g, b⟩ := D.ex
  obtain ⟨ox, od, J⟩ := own_at I ha
  obtain ⟨m, hF⟩ := I.fr
  refine PySem.W.in_K hF I.ok.mod.kin J g.at_ g.fn (wpAny_mono (run_fn (dvs := []) (ds := []) (us := [.ref a, v]) (vs := [.ref a, x]) F hr b .nil hx I (.cons rfl (.cons rx .nil)) go) (fun r t done => ?_) fun _ _ z => z)
  obtain ⟨z, H', I', rz, bb, ez, q⟩ := done
  subst ez
  cases (show r = Value.bool bb from rz)
  exact wpAny_truthy_bool ⟨.bl bb, H', I', rfl, q⟩
theorem op_binO {op : Operator} (D : MDef X.prog X.w X.K X.mg X.base k C m ps sp) (hm : PySem.dunder op.info.2 = m) (first : PySem.W.selfFirst X.K C = true) (ty : ∀ (H : Hp) (a dx : Addr) (fs : List (PySem.Str × V)), H a = some (.ins C dx fs) → TyX X.K H (.ref a) (.ref C)) (hr : Room k X.A) (hx : Passes (L2.CX X.prog X.w) X E) :
    OpR X (binaryOp op) (rBinO C sp E) := by
  intro pins s σ H x y v u Q I rx ry ⟨a, b, dx, fs, dy, gs, ex, ey, ha, hb, go⟩
  subst ex ey hm
  cases (show v = Value.ref a from rx)
  cases (show u = Value.ref b from ry)
  obtain ⟨f, fd, F, g, bd⟩ := D.ex
  obtain ⟨ox, od, J⟩ := own_at I ha
  obtain ⟨m, hF⟩ := I.fr
  obtain ⟨P, Z, hp, _⟩ := kit_of I (show RelV (V.ref b) (Value.ref b) from rfl) (ty H b dy gs hb)
  refine PySem.W.binop_K hF I.ok.mod.kin J (Z.ty _ s.heap I.kIn hp) first g.at_ g.fn (wpAny_mono (run_fn (dvs := []) (ds := []) (us := [.ref a, .ref b]) (vs := [.ref a, .ref b]) F hr bd .nil hx I (.cons rfl (.cons rfl .nil)) go) (fun r t done => ?_) fun _ _ z => z)
  obtain ⟨z, H', I', rz, rr, ez, q⟩ := done
  subst ez
  cases (show r = Value.ref rr from rz)
  exact ⟨.ref rr, H', I', rfl, q⟩
variable {a : Expr} {ta : TE} {pos : Pos}
/-- an instance as a test -/
def tTruO (C : Addr) (sp : Sp) (E : XK) (ta : TE) : TT := fun σ H R => ta σ H (rTruO C sp E R)
/-- not of an instance, as a value -/
def tNotO (C : Addr) (sp : Sp) (E : XK) (ta : TE) : TE := fun σ H Q => ta σ H (rTruO C sp E fun b H' => Q (.bl (!b)) H')
end
section
variable {σ : St} {H : Hp} {Q : VK} {R : Bool → Hp → Prop} {C a b dx dy : Addr} {fs gs : List (PySem.Str × V)} {sp : Sp} {E : XK} {x : V} {ta te : TE} {t u : TE}
instance st_tTruO : Stp (tTruO C sp E ta σ H R) (ta σ H (rTruO C sp E R)) := ⟨fun h => h⟩
instance st_tNotO : Stp (tNotO C sp E ta σ H Q) (ta σ H (rTruO C sp E fun b H' => Q (.bl (!b)) H')) := ⟨fun h => h⟩
theorem rd_inO (h : H a = some (.ins C dx fs)) (q : sp [.ref a, x] H (fun v H' => ∃ b, v = .bl b ∧ Q (.bl b) H') E) : rInO C sp E x (.ref a) H Q := ⟨a, dx, fs, rfl, h, q⟩
theorem rd_binO (h : H a = some (.ins C dx fs)) (k : H b = some (.ins C dy gs)) (q : sp [.ref a, .ref b] H (fun v H' => ∃ r, v = .ref r ∧ Q (.ref r) H') E) : rBinO C sp E (.ref a) (.ref b) H Q := ⟨a, b, dx, fs, dy, gs, rfl, rfl, h, k, q⟩
end
/-! ### bool(o) -/
/-! ### classmethods -/
structure CMAt (K : PySem.W.Frag) (C : Addr) (m qual : PySem.Str) (st : Stmt) : Prop where
  ex : ∃ (mc : Value) (p g : Addr) (fd : FuncData), ClX.CRead K C mc ∧ ClX.CMet K C mc m p g ∧ Fun K m qual st g fd
structure CMDef (P : Program) (w : World) (K : PySem.W.Frag) (mg : PySem.Str → Option Value) (base : Heap) (k : Nat) (C : Addr) (m : PySem.Str) (sp : Sp) : Prop where
  ex : ∃ (mc : Value) (p g : Addr), ClX.CRead K C mc ∧ ClX.CMet K C mc m p g ∧ FnR P w K mg base (L2.CX P w) k g sp
section
variable {P : Program} {w : World} {K : PySem.W.Frag} {mg : PySem.Str → Option Value} {base : Heap}
theorem CMDef.imp {k : Nat} {C : Addr} {m : PySem.Str} {sp sp' : Sp} (D : CMDef P w K mg base k C m sp) (h : ∀ vs H Q E, sp' vs H Q E → sp vs H Q E) : CMDef P w K mg base k C m sp' := by
  obtain ⟨mc, p, g, a, b, F⟩ := D.ex
  exact ⟨mc, p, g, a, b, F.imp h⟩
theorem FnR.forget {k : Nat} {f : Addr} {sp : Sp} (F : FnR P w K mg base (L2.CX P w) k f sp) : FnR P w K mg base (L2.CX P w) k f (fun vs H Q E => NoT H ∧ sp vs H (fun v H' => Same H H' ∧ Q v H) E) := by
  intro A outer s H us vs Q E hr he r q
  refine codeAny_mono (F A outer s H us vs _ E hr he r q.2) fun res t done => ?_
  cases res with
  | error er => exact done
  | ok fl =>
    cases fl with
    | ret u =>
      obtain ⟨v, H2, os2, bare2, un2, hok2, rv, sm, q2⟩ := done
      exact ⟨v, H, os2, bare2, ⟨un2.keep, un2.slot, fun _ _ _ n _ => n, un2.there, fun _ _ q => q, fun _ _ _ q => q, fun _ ps q => ⟨#[], by rw [q]; simp⟩⟩, hok_back q.1 hok2 he.hok sm, rv, q2⟩
    | next => exact done
    | brk => exact done
    | cont => exact done
theorem CMDef.forget {k : Nat} {C : Addr} {m : PySem.Str} {sp : Sp} (D : CMDef P w K mg base k C m sp) : CMDef P w K mg base k C m (fun vs H Q E => NoT H ∧ sp vs H (fun v H' => Same H H' ∧ Q v H) E) := by
  obtain ⟨mc, p, g, a, b, F⟩ := D.ex
  exact ⟨mc, p, g, a, b, FnR.forget F⟩
/-- a classmethod with plain parameters -/
theorem CMAt.ok {C : Addr} {m qual : PySem.Str} {st : Stmt} {N ps : List PySem.Str} {k : Nat} {sp : Sp} (D : CMAt K C m qual st) (S : FnScope N ps (defScope st)) (len : ∀ vs H Q E, sp vs H Q E → vs.length = ps.length)
    (binds : ∀ (f : Addr) (fd : FuncData), Fun K m qual st f fd → Binds K fd ps [])
    (hbody : ∀ (f : Addr) (cdv : Value) (A : Around) (outer : List Env) (s : Shared) (H : Hp) (vs : List V) (Q : VK) (E : XK), Room k (A.deeper (envOfC qual (defScope st) s.heap.objs.size f cdv)) → sp vs H Q E →
      ∃ t, PSs (cxOf (L2.CX P w) P w K mg base N qual (defScope st) f cdv A outer s H E) (defBody st) t ∧ t ⟨fun _ H' => Q .non H', Q, fun _ _ => False, fun _ _ => False⟩ (start N vs) H) : CMDef P w K mg base (k + 1) C m sp := by
  obtain ⟨mc, p, g, fd, a, b, F⟩ := D.ex
  refine ⟨mc, p, g, a, b, FnR.imp (FnOk.raw (F.okX S len fun cdv A outer s H vs Q E hr h => hbody g cdv A outer s H vs Q E hr h) (binds g fd F) .nil) fun vs H Q E h => ?_⟩
  rw [List.append_nil]
  exact h
end
section
variable {X : Cx} {k : Nat} {C : Addr} {m : PySem.Str} {sp : Sp} {E : XK} {o e : Expr} {es : List Expr} {ta : TE} {t : TA} {pos apos : Pos}
theorem pe_cm0 {pl : Sem Bool} (D : CMDef X.prog X.w X.K X.mg X.base k C m sp) (he : PE X o ta) (hr : Room k X.A) (hx : Passes (L2.CX X.prog X.w) X E)
    (ht : eval (.Call (.Attribute o m apos) [] [] pos) X.env = (do
      let self ← eval o X.env
      standAt apos.atName
      let (g, ahead) ← holding [self] (getMethod self m pl)
      callWith pos g ahead (backTo pos (starEach [] X.env)) (backToKw pos (keywordEach [] X.env))) := by rfl) :
    PE X (.Call (.Attribute o m apos) [] [] pos) (ClX.tCMeth C sp E ta tNil) := by
  obtain ⟨mc, p, g, a, b, F⟩ := D.ex
  refine ⟨fun pins s σ H Q I h => PySem.W.methodCall_KW (pl := pl) (thn (he.run pins s σ H _ I h) fun u s1 ⟨x, H1, I1, rx, ex, q⟩ => ?_) ht⟩
  subst ex
  obtain rfl : u = Value.ref C := rx
  refine ClX.getmethcm_ok I1 a b fun s2 I2 => ?_
  exact PySem.W.callWith_M0 (first := []) ⟨ClX.pin_at I2, I2.kIn⟩ b.fi (ClX.run_cm (us := []) F hr hx I2 .nil q)
instance st_cm {σ : St} {H : Hp} {Q : VK} : Stp (ClX.tCMeth C sp E ta t σ H Q) (ta σ H fun x H1 => x = .ref C ∧ t σ H1 fun vs H2 => sp (.ref C :: vs) H2 Q E) := ⟨fun h => h⟩
instance st_cm1 {P : Prop} : Stp (V.ref C = V.ref C ∧ P) P := ⟨fun h => ⟨rfl, h⟩⟩
/-- cls(..), the class in a name -/
def tMakeL (C : Addr) (sp : Sp) (E : XK) (tf : TE) (t : TA) : TE := fun σ H Q => tf σ H fun y H1 => y = .ref C ∧ t σ H1 fun vs H2 => ∀ x dx, H2 x = none → H2 dx = none → dx ≠ x → sp (.ref x :: vs) (upd (upd H2 dx (.own x)) x (.ins C dx [])) (fun v H3 => v = .non ∧ Q (.ref x) H3) E
instance st_makeL {σ : St} {H : Hp} {Q : VK} {tf : TE} : Stp (tMakeL C sp E tf t σ H Q) (tf σ H fun y H1 => y = .ref C ∧ t σ H1 fun vs H2 => ∀ x dx, H2 x = none → H2 dx = none → dx ≠ x → sp (.ref x :: vs) (upd (upd H2 dx (.own x)) x (.ins C dx [])) (fun v H3 => v = .non ∧ Q (.ref x) H3) E) := ⟨fun h => h⟩
end
end L2
namespace L2
open PySem PySem.Spec PyProof.Rows
/-! ### bool(t), a tuple -/
end L2
namespace L2
open PySem PySem.Spec PyProof.Rows
/-! ### a def under a second name -/
structure DefAtA (K : PySem.W.Frag) (mg : PySem.Str → Option Value) (y x : PySem.Str) (st : Stmt) (ps : List PySem.Str) : Prop where
  ex : ∃ (f : Addr) (fd : FuncData), Fun K x x st f fd ∧ mg y = some (.ref f) ∧ Binds K fd ps []
theorem DefAtA.ok {P : Program} {w : World} {K : PySem.W.Frag} {mg : PySem.Str → Option Value} {base : Heap} {y x : PySem.Str} {st : Stmt} {N ps : List PySem.Str} {k : Nat} {sp : Sp} (D : DefAtA K mg y x st ps) (S : FnScope N ps (defScope st)) (len : ∀ vs H Q E, sp vs H Q E → vs.length = ps.length)
    (body : ∀ (f : Addr) (cdv : Value) (A : Around) (outer : List Env) (s : Shared) (H : Hp) (vs : List V) (Q : VK) (E : XK), Room k (A.deeper (envOfC x (defScope st) s.heap.objs.size f cdv)) → sp vs H Q E →
      ∃ t, PSs (cxOf (L2.CX P w) P w K mg base N x (defScope st) f cdv A outer s H E) (defBody st) t ∧ t ⟨fun _ H' => Q .non H', Q, fun _ _ => False, fun _ _ => False⟩ (start N vs) H) : Def P w K mg base (k + 1) y ps sp := by
  obtain ⟨f, fd, F, g, b⟩ := D.ex
  exact ⟨f, fd, F.okX S len fun cdv A outer s H vs Q E hr h => body f cdv A outer s H vs Q E hr h, g, F.kp, b⟩
/-! ### {k: v for ..} given to a name -/
theorem ps_setDc {X : Cx} {i : Nat} {y : PySem.Str} {py spos : Pos} {kx vx tg iter : Expr} {ifs : List Expr} {scope : Scope} {own : List (PySem.Str × Nat)} {pos : Pos} {wi : TI} {g : TG} {tt : TT} {tk tv : TE} (calm : X.calm = true) (nd : X.N.Nodup) (hy : X.N[i]? = some y) (loc : X.env.scope.names.lookup y = some .local)
    (swap : swapsWith (.DictComp kx vx [⟨tg, iter, ifs, 0⟩] scope pos) (some (.Name y py)) spos.line X.env = pure true) (it0 : PI X tg iter wi) (ok : BlkOk X.N X.env.scope scope own)
    (pg0 : ∀ (s0 : Shared) (G : Hp) (C : Addr) (cl : List (PySem.Str × Addr)) (fp : List Addr), PG (X.blk s0 G scope (compEnvC scope cl C X.env) fp) tg g)
    (pt0 : ∀ (s0 : Shared) (G : Hp) (C : Addr) (cl : List (PySem.Str × Addr)) (fp : List Addr), PTs (X.blk s0 G scope (compEnvC scope cl C X.env) fp) ifs tt)
    (pk0 : ∀ (s0 : Shared) (G : Hp) (C : Addr) (cl : List (PySem.Str × Addr)) (fp : List Addr), PE (X.blk s0 G scope (compEnvC scope cl C X.env) fp) kx tk)
    (pe0 : ∀ (s0 : Shared) (G : Hp) (C : Addr) (cl : List (PySem.Str × Addr)) (fp : List Addr), PE (X.blk s0 G scope (compEnvC scope cl C X.env) fp) vx tv) (fold : ∀ x, foldedSetIterable iter X.env x = pure x := by intro _; rfl) :
    PS X (.Assign [.Name y py] (.DictComp kx vx [⟨tg, iter, ifs, 0⟩] scope pos) spos) (tAsg (tDc wi g tt tk tv (own.map (·.2))) (gName i)) := by
  refine ⟨fun pins s σ H D I0 want => ?_⟩
  rw [exec_Assign_Name_used _ _ _ _ swap]
  refine wpAny_bind (wpAny_standAt (wpAny_bind ?_))
  show wpAny _ X.A (do let _ ← comprehension (.DictComp kx vx [⟨tg, iter, ifs, 0⟩] scope pos) scope X.env (firstIterPos [⟨tg, iter, ifs, 0⟩] pos) newDict false (eval iter X.env) (some (assign (.Name y py) X.env))) _ _ s
  replace want : tDc wi g tt tk tv (own.map (·.2)) σ H (fun x G => gName i x σ G D.nx) := want
  refine wpAny_bind (thn (dc_core (Qf := fun _ t => SP X pins D .next t) calm nd I0 it0 ok pg0 pt0 pk0 pe0 fold want fun L C t m G J q ns f => ?_) fun _ t hq => wpAny_pure (wpAny_pure hq))
  show wpAny _ _ (assign (.Name y py) X.env (.ref L)) _ _ _
  refine wpAny_assign_Name (store_ok2 (v := V.ref L) J nd hy (.inl loc) rfl (fun t2 J2 ⟨a, sb, ha⟩ => ?_) (.inr loc))
  obtain ⟨g0, g1, g2, g3, g4, g5⟩ := f
  have away : C ≠ a := by
    rcases ha with z | z
    · exact z ▸ g1
    · exact fun e => g4 y a z e.symm
  exact ⟨m, ns.sameBut sb away, fun h3 sb3 => ⟨_, G, J2.turned (t' := t2.toks) (fun b o ne e => (sb3.2 b ne).trans e) g0 g1 g3 g4 g5, q⟩⟩
theorem sw_dc {kx vx : Expr} {gs : List Comprehension} {scope : Scope} {pos py : Pos} {y : PySem.Str} {l : Nat} {env : Env} (kind : env.scope.kind = .function) (loc : env.scope.names.lookup y = some .local) (line : (py.line == pos.line) = true)
    (other : (scope.names.any fun (n, k) => n == y && (k == .local || k == .cell)) = false) : swapsWith (.DictComp kx vx gs scope pos) (some (.Name y py)) l env = pure true := by
  have k1 : env.kindOf y = some .local := loc
  have k2 : env.blockKind = .function := by unfold Env.blockKind; rw [kind]; rfl
  unfold swapsWith
  simp only [k2, k1, other, Expr.pos, line]
  rfl
/-- {x: True for x in xs}, xs a list or tuple of ints -/
def dcB (J : It) (g : TG) (tt : TT) (tk tv : TE) (vs : List Nat) (σ : St) (Q : VK) (H1 : Hp) : Prop := ∀ D, H1 D = none → ∃ W : Nat → Nat → Hp → Prop, (∃ m, W 0 m (upd H1 D (.dK []))) ∧ ∀ i m H, W i m H →
  (J.stop i H ∧ Q (.ref D) H) ∨ (J.go i H ∧ ∃ Nx : Hp → Prop, (∀ H', Nx H' → ∃ m', m' < m ∧ W (i + 1) m' H') ∧ ∀ x H', J.yld i H x H' → g x (wipe σ vs) H' fun σ2 H2 => wipe σ2 vs = wipe σ vs ∧ tt σ2 H2 fun b H3 =>
    if b = true then tk σ2 H3 fun y H4 => tv σ2 H4 fun z H5 => ∃ kvs k, y = kV k ∧ H5 D = some (.dK kvs) ∧ kvs.length < sizeLine ∧ Nx (upd H5 D (.dK (putK kvs k z))) else Nx H3)
section
variable {σ : St} {H : Hp} {Q : VK} {K : PySem.W.Frag} {tk tv : TE} {tt : TT}
instance st_dc {wi : TI} {g : TG} {vs : List Nat} : Stp (tDc wi g tt tk tv vs σ H Q) (wi σ H fun J H1 => dcB J g tt tk tv vs σ Q H1) := ⟨fun h => h⟩
def DcPut (H : Hp) (D : Addr) (xs : List Int) (y z : V) (H5 : Hp) : Prop := ∃ kvs k, y = kV k ∧ H5 D = some (.dK kvs) ∧ kvs.length < sizeLine ∧ upd H5 D (.dK (putK kvs k z)) = upd H D (DFl (ofL xs))
theorem put_F {D : Addr} {xs ys : List Int} {c : Int} (few : xs.length < 100000) (e : ys = xs ++ [c]) : DcPut H D ys (.int c) (.bl true) (upd H D (DFl (ofL xs))) := by
  refine ⟨_, .inl c, rfl, upd_same, ?_, ?_⟩
  · rw [dFl_len]
    exact Nat.lt_trans (Nat.lt_of_le_of_lt len_ofL few) (by decide)
  · rw [upd_upd, dFl_put, e, ofL_snoc]
theorem rd_dcLF {a : Addr} {ns : List Int} {g : TG} {vs : List Nat} (hS : SqL K H a (ns.map V.int))
    (hs : ∀ D l x r, H D = none → ns = l ++ x :: r → g (.int x) (wipe σ vs) (upd H D (DFl (ofL l))) fun σ2 H2 => wipe σ2 vs = wipe σ vs ∧ tk σ2 H2 fun y H4 => tv σ2 H4 fun z H5 => DcPut H D (l ++ [x]) y z H5)
    (q : ∀ D, H D = none → Q (.ref D) (upd H D (DFl (ofL ns)))) : dcB (Itl K a) g tYes tk tv vs σ Q H := by
  intro D hD
  refine ⟨fun i m G => m = ns.length - i ∧ i ≤ ns.length ∧ G = upd H D (DFl (ofL (ns.take i))), ⟨ns.length, by simp, Nat.zero_le _, rfl⟩, ?_⟩
  rintro i m G ⟨rfl, hi, rfl⟩
  have hS' : SqL K (upd H D (DFl (ofL (ns.take i)))) a (ns.map V.int) := (same_new hD).seq hS
  by_cases hlt : i < ns.length
  · have hx : (ns.map V.int)[i]? = some (.int ns[i]) := by simp [hlt]
    have er : ns.take (i + 1) = ns.take i ++ [ns[i]] := by rw [List.take_add_one, List.getElem?_eq_getElem hlt]; rfl
    refine .inr ⟨⟨_, _, hS', hx⟩, fun G' => G' = upd H D (DFl (ofL (ns.take (i + 1)))), fun G' e => ⟨ns.length - (i + 1), by omega, rfl, hlt, e⟩, fun x G' y => ?_⟩
    obtain ⟨e, y⟩ := y
    subst e
    have ex : x = .int ns[i] := Option.some.inj ((y _ hS').symm.trans hx)
    subst ex
    have z := hs D (ns.take i) ns[i] (ns.drop (i + 1)) hD (by rw [List.getElem_cons_drop, List.take_append_drop])
    rw [← er] at z
    exact z
  · have e : i = ns.length := by omega
    subst e
    rw [List.take_length]
    exact .inl ⟨⟨_, (same_new hD).seq hS, by rw [List.length_map]; exact Nat.le_refl _⟩, q D hD⟩
theorem rd_dcTF {a : Addr} {ns : List Int} {g : TG} {vs : List Nat} (hS : SqT K H a (ns.map V.int))
    (hs : ∀ D l x r, H D = none → ns = l ++ x :: r → g (.int x) (wipe σ vs) (upd H D (DFl (ofL l))) fun σ2 H2 => wipe σ2 vs = wipe σ vs ∧ tk σ2 H2 fun y H4 => tv σ2 H4 fun z H5 => DcPut H D (l ++ [x]) y z H5)
    (q : ∀ D, H D = none → Q (.ref D) (upd H D (DFl (ofL ns)))) : dcB (Itt K a) g tYes tk tv vs σ Q H := by
  intro D hD
  refine ⟨fun i m G => m = ns.length - i ∧ i ≤ ns.length ∧ G = upd H D (DFl (ofL (ns.take i))), ⟨ns.length, by simp, Nat.zero_le _, rfl⟩, ?_⟩
  rintro i m G ⟨rfl, hi, rfl⟩
  have hS' : SqT K (upd H D (DFl (ofL (ns.take i)))) a (ns.map V.int) := (same_new hD).seqT hS
  by_cases hlt : i < ns.length
  · have hx : (ns.map V.int)[i]? = some (.int ns[i]) := by simp [hlt]
    have er : ns.take (i + 1) = ns.take i ++ [ns[i]] := by rw [List.take_add_one, List.getElem?_eq_getElem hlt]; rfl
    refine .inr ⟨⟨_, _, hS', hx⟩, fun G' => G' = upd H D (DFl (ofL (ns.take (i + 1)))), fun G' e => ⟨ns.length - (i + 1), by omega, rfl, hlt, e⟩, fun x G' y => ?_⟩
    obtain ⟨e, y⟩ := y
    subst e
    have ex : x = .int ns[i] := Option.some.inj ((y _ hS').symm.trans hx)
    subst ex
    have z := hs D (ns.take i) ns[i] (ns.drop (i + 1)) hD (by rw [List.getElem_cons_drop, List.take_append_drop])
    rw [← er] at z
    exact z
  · have e : i = ns.length := by omega
    subst e
    rw [List.take_length]
    exact .inl ⟨⟨_, (same_new hD).seqT hS, by rw [List.length_map]; exact Nat.le_refl _⟩, q D hD⟩
end
end L2
namespace L2
open PySem PySem.Spec PyProof.Rows
end L2
namespace PySem.W
open PySem PySem.Spec PySem.Calls PyProof.Rows
end PySem.W
namespace L2
open PySem PySem.Spec PyProof.Rows
end L2
namespace L2
open PySem PySem.Spec PyProof.Rows
end L2
namespace L2
open PySem PySem.Spec PyProof.Rows
/-! ### set(xs), a list of ints -/
section
variable {P : Program} {w : World} {A : Around} {E : Value → Shared → Prop} {s : Shared}
/-- a set as it begins -/
abbrev setAtFirst (w : World) : Obj := { cls := .type "set", dict := none, data := .set #[] 0 (.fresh 0 0 (!w.params.followText "set-order")) }
theorem setOf_list {src : Addr} {its : Array Value} (ks : List Int) {Q : Value → Shared → Prop} (calm : A.handled = none) (isL : s.heap.IsList src its) (whole : IntsAre its.toList ks) (few : ks.length + 1 < scanBound)
    (go : ∀ (h' : Heap) (tk c : Nat), SetR w h' s.heap.objs.size (fun j => decide (j ∈ ks)) c → c ≤ ks.length → (∀ b o, s.heap.get? b = some o → h'.get? b = some o) → Q (.ref s.heap.objs.size) { s with heap := h', toks := tk }) :
    wpAny (model P w) A (call (.type "set") [.ref src]) Q E s := by
  have sizes : its.size = ks.length := by rw [← IntsAre.length whole, Array.length_toList]
  have k1 := F.called_set.made
  have k2 := F.called_set.sub
  have k3 := F.called_set.notType
  have k4 := F.called_set.canCreate
  obtain ⟨mro0, mro1, k5⟩ := F.called_set.mro
  refine wpAny_call ?_
  refine codeAny_of_tree ?_
  show wpAny _ _ (callAny (.type "set") _) _ _ s
  refine wpAny_pure ⟨Code.quiet_builtin _ (by decide +kernel), ?_⟩
  refine codeAny_builtin F.entry_type_call ?_
  rw [Around.under_plain (weight_type_call_type "set" [.ref src] []) rfl]
  have k6 := F.typeCall_set_1 (.ref src)
  repeat (any_goals (first | assumption | wp_step | fail))
  refine codeAny_mono (code_set_led1 (.ref src) (E := E) (Q₁ := fun u t => u = .ref s.heap.objs.size ∧ t = { s with heap := s.heap.push (setAtFirst w) }) ⟨rfl, rfl⟩) fun res t made => ?_
  cases res with
  | error x => exact made
  | ok flow =>
    cases flow with
    | ret u =>
      obtain ⟨rfl, rfl⟩ := made
      have atS : (s.heap.push (setAtFirst w)).get? s.heap.objs.size = some (setAtFirst w) := Heap.get?_push_size _ rfl
      have tyS : Shared.TypeIs { s with heap := s.heap.push (setAtFirst w) } (.ref s.heap.objs.size) "set" := ⟨_, atS, rfl⟩
      have k7 := F.called_set.init.lookup
      have k8 := F.called_set.init.bind (.ref s.heap.objs.size)
      repeat (any_goals (first | assumption | wp_step | fail))
      refine codeAny_mono (codeAny_call_builtin (R := wants (fun r t2 => r = .none ∧ ∃ h' tk c, t2 = { s with heap := h', toks := tk } ∧ SetR w h' s.heap.objs.size (fun j => decide (j ∈ ks)) c ∧ c ≤ ks.length ∧
          (∀ b o, s.heap.get? b = some o → h'.get? b = some o)) E) F.called_set.init.plain F.entry_set_init (check_set_init_1 tyS ?_)) fun res2 t2 done => ?_
      · obtain ⟨⟨cls0, dct0, dat0, slt0⟩, atO, isC, ep, isD⟩ := isL
        dsimp only at isC isD
        subst isC isD
        have atO1 : (s.heap.push (setAtFirst w)).get? src = some { cls := .type "list", dict := dct0, data := .seq its ep, slots := slt0 } := Heap.get?_push_of_some _ atO
        have n1 := F.sub_list_set
        have n2 := F.sub_list_frozenset
        have n3 : (Value.type "list" == Value.type "dict") = false := by decide
        have isL1 : (s.heap.push (setAtFirst w)).IsList src its := ⟨_, atO1, rfl, ep, rfl⟩
        unfold Builtin.«set.__init__» noKeywords Builtin.Frozenset.updateFrom
        generalize hit : pyIter = iterOf
        wp_walk
        subst hit
        refine wpAny_pyIter_list isL1 ?_
        refine wpAny_bind (wpAny_runValue ?_)
        have small : src < s.heap.objs.size := Heap.lt_size atO
        have grow : (s.heap.push (setAtFirst w)).objs.size = s.heap.objs.size + 1 := Heap.size_push ..
        have calm3 : A.in1.in1.in1.handled = none := by simp [calm]
        have apart : src ≠ (s.heap.push (setAtFirst w)).objs.size := by
          rw [grow]
          exact Nat.ne_of_lt (Nat.lt_succ_of_lt small)
        have away : s.heap.objs.size ∉ [(s.heap.push (setAtFirst w)).objs.size, src] := by
          rw [grow, List.mem_cons, List.mem_singleton]
          exact not_or.mpr ⟨Nat.ne_of_lt (Nat.lt_succ_self _), Nat.ne_of_gt small⟩
        have each : ∀ (i : Nat) (v : Value), its[i]? = some v → ∃ k t, ks[i]? = some k ∧ v = .int k t := fun i v hv => by
          have hi : i < ks.length := by
            rw [← sizes]
            exact (Array.getElem?_eq_some_iff.mp hv).1
          obtain ⟨t, e⟩ := PyProof.Rows.IntsAre.int_at whole i v (by rw [Array.getElem?_toList]; exact hv)
          refine ⟨ks[i], t, List.getElem?_eq_getElem hi, ?_⟩
          rw [e, List.getD_eq_getElem?_getD, List.getElem?_eq_getElem hi] <;> rfl
        refine set_update_ints ((Walks.list calm3 _ src apart its).toS) s.heap.objs.size away ks sizes few each (its.size - 0) 0 _ (by omega) (Nat.zero_le _)
          ⟨⟨_, Heap.get?_push_size _ rfl, rfl, rfl⟩, (isL1.push _)⟩ ?first ?last
        case first =>
          refine ⟨0, Nat.le_refl 0, setR_new_at ?_⟩
          exact Heap.get?_push_of_some _ atS
        case last =>
          intro t3 c3 mv le3 R3
          obtain ⟨h3, g3, d3, k3, o3⟩ := t3
          obtain rfl : g3 = s.gens := mv.gens
          obtain rfl : d3 = s.drawn := mv.drawn
          obtain rfl : o3 = s.os := mv.os
          show wpAny _ _ _ _ _ _
          refine wpAny_pure ?_
          show wpAny _ _ (ret Value.none) _ _ _
          refine wpAny_pure ⟨rfl, h3, k3, c3, rfl, R3, by rw [← sizes]; exact le3, fun b o e => ?_⟩
          have lt := Heap.lt_size e
          refine mv.heap b o ?_ (Heap.get?_push_of_some _ (Heap.get?_push_of_some _ e))
          rw [List.mem_cons, List.mem_singleton, grow]
          exact not_or.mpr ⟨Nat.ne_of_lt lt, Nat.ne_of_lt (Nat.lt_succ_of_lt lt)⟩
      · cases res2 with
        | error x => exact done
        | ok flow2 =>
          cases flow2 with
          | ret r =>
            obtain ⟨rfl, h', tk, c, rfl, R3, le3, keep⟩ := done
            repeat (any_goals (first | assumption | wp_step | fail))
            exact go _ _ _ R3 le3 keep
          | _ => exact done.elim
    | _ => exact made.elim
end
/-- set(xs), a list or a tuple of ints -/
def rSetOf (K : PySem.W.Frag) (w : World) : List V → Hp → VK → Prop := fun vs H Q => ∃ (a : Addr) (ns : List Int), vs = [.ref a] ∧ (SqL K H a (ns.map V.int) ∨ SqT K H a (ns.map V.int)) ∧ ns.length < 4095 ∧ ∀ D n, H D = none → Q (.ref D) (upd H D (SetO w D (inS ns) n))
theorem cr_setOf {X : Cx} (calm : X.calm = true) : CallR X (.type "set") (rSetOf X.K X.w) := by
  intro pins s σ H vs us Q I r ⟨a, ns, ev, at_, few, q⟩
  subst ev
  rw [Vals.ref1 r]
  have fin : ∀ (h' : Heap) (tk c : Nat), SetR X.w h' s.heap.objs.size (fun j => decide (j ∈ ns)) c → c ≤ ns.length → (∀ b o, s.heap.get? b = some o → h'.get? b = some o) → EP X pins σ Q (.ref s.heap.objs.size) { s with heap := h', toks := tk } := fun h' tk c R _ keep => by
    have free : H s.heap.objs.size = none := I.hok.fresh (Nat.le_refl _)
    exact ⟨.ref s.heap.objs.size, _, I.laid (t' := tk) keep (Nat.le_refl _) (setO_new R), rfl, q _ c free⟩
  rcases at_ with h | h
  · obtain ⟨its, rv, p, hz⟩ := I.list h
    exact setOf_list ns (I.ok.hd calm) p.isList rv.ints (Nat.succ_lt_succ few) fin
  · obtain ⟨its, rv, p, hz⟩ := I.tuple h
    exact call_set_tupI ns (I.ok.hd calm) (show s.heap.IsTuple a its.toArray from p) (ints_of_vals rv) (Nat.succ_lt_succ few) fin
theorem rd_setOfL {K : PySem.W.Frag} {w : World} {a : Addr} {ns : List Int} {H : Hp} {Q : VK} (h : SqL K H a (ns.map V.int)) (few : ns.length < 4095) (q : ∀ D n, H D = none → Q (.ref D) (upd H D (SetO w D (inS ns) n))) : rSetOf K w [.ref a] H Q := ⟨a, ns, rfl, .inl h, few, q⟩
end L2
namespace PySem.W
open PySem PySem.Spec PySem.Calls PyProof.Rows Builtin
end PySem.W
namespace L2
open PySem PySem.Spec PyProof.Rows
end L2
namespace L2
open PySem PySem.Spec PyProof.Rows
/-! ### a view of the heap: what is kept of an earlier one, what is ours to change, what stands besides, what no list decides -/
def rigid : HO → Bool
  | .ins _ _ _ => true
  | .tup _ => true
  | _ => false
/-- all that is no list, dict or the like still stands -/
def Keeps (G G' : Hp) : Prop := ∀ b o, rigid o = true → G b = some o → G' b = some o
theorem Keeps.refl (G : Hp) : Keeps G G := fun _ _ _ h => h
theorem Keeps.trans {G G' G'' : Hp} (a : Keeps G G') (b : Keeps G' G'') : Keeps G G'' := fun c o r h => b c o r (a c o r h)
theorem Keeps.of {G G' : Hp} (s : Same G G') : Keeps G G' := fun b o _ h => s b o h
theorem Keeps.put {G : Hp} {x : Addr} {o u : HO} (h : G x = some o) (r : rigid o = false) : Keeps G (upd G x u) := fun b v rv hb => by
  by_cases e : b = x
  · subst e
    rw [h] at hb
    cases hb
    rw [r] at rv
    cases rv
  · rw [upd_ne e]
    exact hb
def Rig (P : Hp → Prop) (G : Hp) : Prop := ∀ G', Keeps G G' → P G'
structure Hv (X : Addr → Prop) (H : Hp) (M L : List (Addr × HO)) (Z : List (Hp → Prop)) (G : Hp) : Prop where
  old : ∀ b o, ¬ X b → H b = some o → G b = some o
  nt : NoT G
  m : ∀ q ∈ M, G q.1 = some q.2 ∧ (X q.1 ∨ H q.1 = none) ∧ rigid q.2 = false
  l : ∀ q ∈ L, G q.1 = some q.2
  nd : M.Pairwise fun q r => q.1 ≠ r.1
  ml : ∀ q ∈ M, ∀ r ∈ L, q.1 ≠ r.1
  z : ∀ P ∈ Z, Rig P G
def noX : Addr → Prop := fun _ => False
/-- nothing but x has changed -/
def But (x : Addr) (H H' : Hp) : Prop := ∀ b o, b ≠ x → H b = some o → H' b = some o
theorem But.of {x : Addr} {H H' : Hp} (h : Same H H') : But x H H' := fun b o _ e => h b o e
theorem But.new {x p : Addr} {H G : Hp} {o : HO} (h : But x H G) (hp : G p = none) : But x H (upd G p o) := fun b o1 n e => upd_keep (h b o1 n e) hp
theorem But.put {x : Addr} {H G : Hp} {o : HO} (h : But x H G) : But x H (upd G x o) := fun b o1 n e => by
  rw [upd_ne n]
  exact h b o1 n e
theorem But.refl {x : Addr} {H : Hp} : But x H H := fun _ _ _ e => e
theorem But.trans {x : Addr} {H G L : Hp} (a : But x H G) (b : But x G L) : But x H L := fun c o n e => b c o n (a c o n e)
theorem But.same {x : Addr} {H G L : Hp} (a : But x H G) (b : Same G L) : But x H L := fun c o n e => b c o (a c o n e)
/-- what stood ahead of x still stands -/
theorem But.old {x : Addr} {H0 H G : Hp} (a : But x H G) (s : Same H0 H) (f : H0 x = none) : Same H0 G := fun c o e => a c o (fun z => by
  rw [z, f] at e
  cases e) (s c o e)
theorem But.fresh {x D : Addr} {H G : Hp} {o : HO} (h : But x H G) (f : H D = none) : But x H (upd G D o) := fun b o1 n e => by
  rw [upd_ne (ne_of_none e f)]
  exact h b o1 n e
section
variable {X : Addr → Prop} {H G G' : Hp} {M L : List (Addr × HO)} {Z : List (Hp → Prop)} {a b D p x y : Addr} {o u v : HO} {P : Hp → Prop} {xs : List V}
theorem Hv.start (nt : NoT H) : Hv noX H [] [] [] H := ⟨fun _ _ _ h => h, nt, fun _ h => absurd h List.not_mem_nil, fun _ h => absurd h List.not_mem_nil, List.Pairwise.nil, fun _ h => absurd h List.not_mem_nil, fun _ h => absurd h List.not_mem_nil⟩
theorem Hv.same (B : Hv noX H M L Z G) : Same H G := fun b o h => B.old b o id h
theorem Hv.mAt (B : Hv X H M L Z G) (h : (a, o) ∈ M) : G a = some o := (B.m _ h).1
theorem Hv.lAt (B : Hv X H M L Z G) (h : (a, o) ∈ L) : G a = some o := B.l _ h
theorem Hv.zAt (B : Hv X H M L Z G) (h : P ∈ Z) : P G := B.z P h G (Keeps.refl G)
theorem Hv.oAt (B : Hv noX H M L Z G) (h : H a = some o) : G a = some o := B.old a o id h
theorem Hv.oAtX (B : Hv (· = p) H M L Z G) (h : H a = some o) (n : a ≠ p) : G a = some o := B.old a o n h
theorem Hv.fr (B : Hv noX H M L Z G) (h : (a, o) ∈ M) : H a = none := (B.m _ h).2.1.elim False.elim id
theorem Hv.free (B : Hv noX H M L Z G) (h : G D = none) : H D = none := B.same.free h
theorem Hv.away (B : Hv X H M L Z G) (h : G D = none) : ∀ q ∈ M, q.1 ≠ D := fun q hq e => by
  have := (B.m q hq).1
  rw [e, h] at this
  cases this
theorem Hv.next (B : Hv X H M L Z G) (s : Same G G') (n : NoT G') : Hv X H M L Z G' := ⟨fun b o h e => s b o (B.old b o h e), n, fun q hq => ⟨s _ _ (B.m q hq).1, (B.m q hq).2⟩, fun q hq => s _ _ (B.l q hq), B.nd, B.ml, fun P hP G2 k => B.z P hP G2 ((Keeps.of s).trans k)⟩
theorem Hv.newG (B : Hv X H M L Z G) (h : G D = none) (f : X D ∨ H D = none) (r : rigid o = false) (hn : noT o = true) : Hv X H ((D, o) :: M) L Z (upd G D o) := by
  have C := B.next (same_new (o := o) h) (NoT.upd B.nt hn)
  refine ⟨C.old, C.nt, fun q hq => ?_, C.l, List.pairwise_cons.mpr ⟨fun q hq => (B.away h q hq).symm, C.nd⟩, fun q hq q2 h2 => ?_, C.z⟩
  · rcases List.mem_cons.mp hq with e | hq
    · subst e
      exact ⟨upd_same, f, r⟩
    · exact C.m q hq
  · rcases List.mem_cons.mp hq with e | hq
    · subst e
      exact fun e => by
        have := B.l q2 h2
        rw [← e, h] at this
        cases this
    · exact C.ml q hq q2 h2
/-- a new thing, ours -/
theorem Hv.new (B : Hv noX H M L Z G) (h : G D = none) (r : rigid o = false := by rfl) (hn : noT o = true := by rfl) : Hv noX H ((D, o) :: M) L Z (upd G D o) := B.newG h (.inr (B.free h)) r hn
/-- a new thing that stays as it is -/
theorem Hv.newL (B : Hv X H M L Z G) (h : G D = none) (hn : noT o = true := by rfl) : Hv X H M ((D, o) :: L) Z (upd G D o) := by
  have C := B.next (same_new (o := o) h) (NoT.upd B.nt hn)
  refine ⟨C.old, C.nt, C.m, fun q hq => ?_, C.nd, fun q hq q2 h2 => ?_, C.z⟩
  · rcases List.mem_cons.mp hq with e | hq
    · subst e
      exact upd_same
    · exact C.l q hq
  · rcases List.mem_cons.mp h2 with e | h2
    · subst e
      exact B.away h q hq
    · exact C.ml q hq q2 h2
/-- what stands besides -/
theorem Hv.add (B : Hv X H M L Z G) (h : G a = some o) (n : ∀ q ∈ M, q.1 ≠ a) : Hv X H M ((a, o) :: L) Z G := ⟨B.old, B.nt, B.m, fun q hq => (List.mem_cons.mp hq).elim (fun e => by rw [e]; exact h) (B.l q), B.nd, fun q hq q2 h2 => (List.mem_cons.mp h2).elim (fun e => by rw [e]; exact n q hq) (B.ml q hq q2), B.z⟩
/-- what a call has made: at D, free ahead of it -/
theorem Hv.got (B : Hv X H M L Z G) (s : Same G G') (n : NoT G') (f : G D = none) (h : G' D = some o) : Hv X H M ((D, o) :: L) Z G' := (B.next s n).add h (B.away f)
/-- rigid things -/
theorem Hv.rig (B : Hv X H M L Z G) (h : Rig P G) : Hv X H M L (P :: Z) G := ⟨B.old, B.nt, B.m, B.l, B.nd, B.ml, fun Q hQ => (List.mem_cons.mp hQ).elim (fun e => by rw [e]; exact h) (B.z Q)⟩
/-- ours has changed -/
theorem Hv.but (B : Hv X H ((p, o) :: M) L Z G) (b : But p G G') (n : NoT G') (h : G' p = some u) (r : rigid u = false := by rfl) : Hv X H ((p, u) :: M) L Z G' := by
  obtain ⟨h1, h2, h3⟩ := B.m _ List.mem_cons_self
  obtain ⟨n1, n2⟩ := List.pairwise_cons.mp B.nd
  refine ⟨fun c w hc e => ?_, n, fun q hq => ?_, fun q hq => b _ _ (fun e => B.ml _ List.mem_cons_self q hq e.symm) (B.l q hq), List.pairwise_cons.mpr ⟨fun q hq => n1 q hq, n2⟩, fun q hq q2 k2 => ?_, fun P hP G2 k => B.z P hP G2 (Keeps.trans (fun c w rw hc => ?_) k)⟩
  · by_cases e2 : c = p
    · subst e2
      exact (h2.elim hc fun z => by rw [z] at e; cases e).elim
    · exact b c w e2 (B.old c w hc e)
  · rcases List.mem_cons.mp hq with e | hq
    · subst e
      exact ⟨h, h2, r⟩
    · obtain ⟨k1, k2⟩ := B.m q (List.mem_cons_of_mem _ hq)
      exact ⟨b _ _ (fun e => n1 q hq e.symm) k1, k2⟩
  · rcases List.mem_cons.mp hq with e | hq
    · subst e
      exact B.ml _ List.mem_cons_self q2 k2
    · exact B.ml _ (List.mem_cons_of_mem _ hq) q2 k2
  · refine b c w (fun e => ?_) hc
    subst e
    have : some o = some w := h1.symm.trans hc
    cases this
    have h3' : rigid o = false := h3
    rw [h3'] at rw
    cases rw
theorem Hv.put (B : Hv X H ((x, o) :: M) L Z G) (r : rigid u = false := by rfl) (hn : noT u = true := by rfl) : Hv X H ((x, u) :: M) L Z (upd G x u) := B.but (fun b w n e => by rw [upd_ne n]; exact e) (NoT.upd B.nt hn) upd_same r
theorem Hv.perm {M' : List (Addr × HO)} (B : Hv X H M L Z G) (h : ∀ q ∈ M', q ∈ M) (n : M'.Pairwise fun q r => q.1 ≠ r.1) : Hv X H M' L Z G := ⟨B.old, B.nt, fun q hq => B.m q (h q hq), B.l, n, fun q hq => B.ml q (h q hq), B.z⟩
theorem Hv.drop {q : Addr × HO} (B : Hv X H (q :: M) L Z G) : Hv X H M L Z G := B.perm (fun k hk => List.mem_cons_of_mem _ hk) (List.pairwise_cons.mp B.nd).2
/-- ours no more to change -/
theorem Hv.fix {q : Addr × HO} (B : Hv X H (q :: M) L Z G) : Hv X H M (q :: L) Z G := by
  obtain ⟨h1, h2⟩ := List.pairwise_cons.mp B.nd
  exact B.drop.add (B.m q List.mem_cons_self).1 fun k hk => (h1 k hk).symm
theorem sub_nil {α : Type _} {L : List α} : ∀ q ∈ ([] : List α), q ∈ L := fun _ h => absurd h List.not_mem_nil
theorem sub_cons {α : Type _} {a : α} {L L' : List α} (h : a ∈ L) (k : ∀ q ∈ L', q ∈ L) : ∀ q ∈ a :: L', q ∈ L := fun q hq => (List.mem_cons.mp hq).elim (fun e => by rw [e]; exact h) (k q)
theorem Hv.sub {L' : List (Addr × HO)} {Z' : List (Hp → Prop)} (B : Hv X H M L Z G) (h : ∀ q ∈ L', q ∈ L) (k : ∀ q ∈ Z', q ∈ Z) : Hv X H M L' Z' G := ⟨B.old, B.nt, B.m, fun q hq => B.l q (h q hq), B.nd, fun q hq r hr => B.ml q hq r (h r hr), fun P hP => B.z P (k P hP)⟩
/-- the heap by a letter -/
@[elab_as_elim] theorem Hv.gen {motive : Hp → Prop} (B : Hv X H M L Z G) (k : ∀ G', Hv X H M L Z G' → motive G') : motive G := k G B
end
/-- tuple(xs) -/
abbrev rTupOf (K : PySem.W.Frag) : List V → Hp → VK → Prop := fun xs H Q => ∃ p ys, xs = [.ref p] ∧ ((SqL K H p ys ∧ ∀ l, H l = none → Q (.ref l) (upd H l (.tup ys))) ∨ (SqT K H p ys ∧ Q (.ref p) H))
theorem call_tupN {X : Cx} : CallR X (.type "tuple") (rTupOf X.K) := call_tuple_of
section
variable {K : PySem.W.Frag} {H : Hp} {p : Addr} {ys : List V} {Q : VK}
theorem rd_tupL (h : SqL K H p ys) (q : ∀ l, H l = none → Q (.ref l) (upd H l (.tup ys))) : rTupOf K [.ref p] H Q := ⟨p, ys, rfl, .inl ⟨h, q⟩⟩
theorem rd_tupT (h : SqT K H p ys) (q : Q (.ref p) H) : rTupOf K [.ref p] H Q := ⟨p, ys, rfl, .inr ⟨h, q⟩⟩
end
end L2
namespace L2
open PySem PySem.Spec PyProof.Rows
/-! ### comprehensions over a tuple of ints -/
section
variable {σ : St} {H : Hp} {Q : VK} {K : PySem.W.Frag} {te : TE} {tt : TT}
theorem rd_extend {l b : Addr} {xs zs : List V} (h : H l = some (.lst xs)) (k : H b = some (.lst zs)) (z : xs.length + zs.length ≤ sizeLine) (q : Q .non (upd H l (.lst (xs ++ zs)))) : rExtend (.ref l) [.ref b] H Q := ⟨l, b, xs, zs, rfl, rfl, h, k, z, q⟩
instance st_m1 {r : V → List V → Hp → VK → Prop} {ta tb : TE} : Stp (tM1 r ta tb σ H Q) (ta σ H fun x H1 => (∃ a, x = .str a) ∧ tb σ H1 fun y H2 => r x [y] H2 Q) := ⟨fun h => h⟩
/-! ### ranges with a step -/
def rRng3 (S : It → Hp → Prop) : List V → Hp → Prop := fun vs H1 => ∃ (i j c : Int) (n : Nat), vs = [.int i, .int j, .int c] ∧ RgC i j c n ∧ S (Itc i c n) H1
instance st_iRng3 {ta : TA} {S : It → Hp → Prop} : Stp (iRng3 ta σ H S) (ta σ H (rRng3 S)) := ⟨fun h => h⟩
theorem rd_r3 {S : It → Hp → Prop} {i j c : Int} {n : Nat} (h : RgC i j c n) (q : S (Itc i c n) H) : rRng3 S [.int i, .int j, .int c] H := ⟨i, j, c, n, rfl, h, q⟩
theorem rd_lcC {lo c : Int} {n : Nat} {g : TG} {vs : List Nat} (p : Nat → Bool) (f : Nat → V)
    (hs : ∀ D i, H D = none → i < n → g (.int (lo + (i : Nat) * c)) (wipe σ vs) (upd H D (.lst (resR p f i))) fun σ2 H2 => wipe σ2 vs = wipe σ vs ∧ tt σ2 H2 fun b H3 => if b = true then te σ2 H3 (LcPut H D (resR p f i) (resR p f (i + 1))) else LcSkip H D (resR p f (i + 1)) H3)
    (q : ∀ D, H D = none → Q (.ref D) (upd H D (.lst (((List.range n).filter p).map f)))) : lcB (Itc lo c n) g tt te vs σ Q H := by
  intro D hD
  refine ⟨fun i m H' => m = n - i ∧ i ≤ n ∧ H' = upd H D (.lst (resR p f i)), ⟨n, by simp, Nat.zero_le _, rfl⟩, ?_⟩
  rintro i m H' ⟨rfl, hi, rfl⟩
  by_cases hlt : i < n
  · refine .inr ⟨hlt, fun H' => H' = upd H D (.lst (resR p f (i + 1))), fun H' p' => ⟨n - (i + 1), by omega, rfl, hlt, p'⟩, fun x H' y => ?_⟩
    obtain ⟨e, y⟩ := y
    subst e y
    exact hs D i hD hlt
  · have e : i = n := by omega
    subst e
    exact .inl ⟨Nat.le_refl _, q D hD⟩
end
end L2
namespace L2
open PySem PySem.Spec PyProof.Rows
section
variable {K : PySem.W.Frag} {σ : St} {H : Hp} {Q : VK} {tt : TT} {te : TE}
/-- a comprehension over a list; each turn makes new things, of which something is known -/
theorem rd_lcPH {a : Addr} {xs : List V} {g : TG} {vs : List Nat} (P : Addr → Nat → List V → Hp → Prop) (hS : SqL K H a xs) (nt : NoT H) (h0 : ∀ D, H D = none → P D 0 [] (upd H D (.lst [])))
    (hs : ∀ D i ys x H', xs[i]? = some x → Same H H' → NoT H' → H D = none → H' D = some (.lst ys) → P D i ys H' → g x (wipe σ vs) H' fun σ2 H2 => wipe σ2 vs = wipe σ vs ∧ tt σ2 H2 fun b H3 =>
      if b = true then te σ2 H3 (fun y H4 => ∃ acc, H4 D = some (.lst acc) ∧ acc.length < sizeLine ∧ ∃ ys, upd H4 D (.lst (acc ++ [y])) D = some (.lst ys) ∧ Same H (upd H4 D (.lst (acc ++ [y]))) ∧ NoT (upd H4 D (.lst (acc ++ [y]))) ∧ P D (i + 1) ys (upd H4 D (.lst (acc ++ [y]))))
      else ∃ ys, H3 D = some (.lst ys) ∧ Same H H3 ∧ NoT H3 ∧ P D (i + 1) ys H3)
    (q : ∀ D ys H', H D = none → H' D = some (.lst ys) → Same H H' → NoT H' → P D xs.length ys H' → Q (.ref D) H') : lcB (Itl K a) g tt te vs σ Q H := by
  intro D hD
  refine lc_it (walk_list (K := K) (a := a) (xs := xs)) (fun i H' => ∃ ys, H' D = some (.lst ys) ∧ Same H H' ∧ NoT H' ∧ P D i ys H') ⟨[], upd_same, same_new hD, NoT.upd nt rfl, h0 D hD⟩ (fun i H' _ ⟨ys, _, s, _⟩ => s.seq hS) ?_ (fun H' ⟨ys, h1, s, n, p⟩ => q D ys H' hD h1 s n p)
  rintro i x H' H'' hi ⟨ys, h1, s, n, p⟩ ⟨rfl, hx⟩
  exact hs D i ys x _ hx s n hD h1 p
theorem put_PH {P : List V → Hp → Prop} {D : Addr} {H H4 : Hp} {acc : List V} {y : V} (h : H4 D = some (.lst acc)) (hl : acc.length < sizeLine) (sm : Same H H4) (hD : H D = none) (n : NoT H4) (p : P (acc ++ [y]) (upd H4 D (.lst (acc ++ [y])))) :
    ∃ acc, H4 D = some (.lst acc) ∧ acc.length < sizeLine ∧ ∃ ys, upd H4 D (.lst (acc ++ [y])) D = some (.lst ys) ∧ Same H (upd H4 D (.lst (acc ++ [y]))) ∧ NoT (upd H4 D (.lst (acc ++ [y]))) ∧ P ys (upd H4 D (.lst (acc ++ [y]))) :=
  ⟨acc, h, hl, _, upd_same, same_upd2 sm hD, NoT.upd n rfl, p⟩
end
end L2
/-! ### defs with a star parameter -/
namespace L2
open PySem PySem.Spec PyProof.Rows
/-- a def by its positional promise -/
structure DefR (P : Program) (w : World) (K : PySem.W.Frag) (mg : PySem.Str → Option Value) (base : Heap) (k : Nat) (x : PySem.Str) (sp : Sp) : Prop where
  ex : ∃ f : Addr, FnR P w K mg base (L2.CX P w) k f sp ∧ mg x = some (.ref f) ∧ PySem.W.keepIn K (.ref f) = true
section
variable {P : Program} {w : World} {K : PySem.W.Frag} {mg : PySem.Str → Option Value} {base : Heap}
theorem DefR.imp {k : Nat} {x : PySem.Str} {sp sp' : Sp} (D : DefR P w K mg base k x sp) (h : ∀ vs H Q E, sp' vs H Q E → sp vs H Q E) : DefR P w K mg base k x sp' := by
  obtain ⟨f, F, a, b⟩ := D.ex
  exact ⟨f, F.imp h, a, b⟩
theorem DefR.forget {k : Nat} {x : PySem.Str} {sp : Sp} (D : DefR P w K mg base k x sp) : DefR P w K mg base k x (fun vs H Q E => NoT H ∧ sp vs H (fun v H' => Same H H' ∧ Q v H) E) := by
  obtain ⟨f, F, a, b⟩ := D.ex
  exact ⟨f, FnR.forget F, a, b⟩
end
/-! ### comprehensions with two fors -/
/-- the inner for -/
def lc2I (J1 : It) (g1 : TG) (tt1 : TT) (te : TE) (vs1 : List Nat) (D : Addr) (Nx : Hp → Prop) (σ2 : St) (H4 : Hp) : Prop := ∃ W1 : Nat → Nat → Hp → Prop, (∃ m, W1 0 m H4) ∧ ∀ j k H, W1 j k H →
      (J1.stop j H ∧ Nx H) ∨ (J1.go j H ∧ ∃ Nx1 : Hp → Prop, (∀ H', Nx1 H' → ∃ k', k' < k ∧ W1 (j + 1) k' H') ∧ ∀ x H', J1.yld j H x H' → g1 x (wipe σ2 vs1) H' fun σ3 H5 => wipe σ3 vs1 = wipe σ2 vs1 ∧ tt1 σ3 H5 fun b H6 =>
        if b = true then te σ3 H6 fun y H7 => ∃ acc, H7 D = some (.lst acc) ∧ acc.length < sizeLine ∧ Nx1 (upd H7 D (.lst (acc ++ [y]))) else Nx1 H6)
def lc2B (J : It) (g : TG) (tt : TT) (wi1 : TI) (g1 : TG) (tt1 : TT) (te : TE) (vs vs1 : List Nat) (σ : St) (Q : VK) (H1 : Hp) : Prop := ∀ D, H1 D = none → ∃ W : Nat → Nat → Hp → Prop, (∃ m, W 0 m (upd H1 D (.lst []))) ∧ ∀ i m H, W i m H →
  (J.stop i H ∧ Q (.ref D) H) ∨ (J.go i H ∧ ∃ Nx : Hp → Prop, (∀ H', Nx H' → ∃ m', m' < m ∧ W (i + 1) m' H') ∧ ∀ x H', J.yld i H x H' → g x (wipe σ vs) H' fun σ2 H2 => wipe σ2 vs = wipe σ vs ∧ tt σ2 H2 fun b H3 =>
    if b = true then wi1 σ2 H3 fun J1 H4 => lc2I J1 g1 tt1 te vs1 D Nx σ2 H4 else Nx H3)
instance st_lc2 {wi : TI} {g : TG} {tt : TT} {wi1 : TI} {g1 : TG} {tt1 : TT} {te : TE} {vs vs1 : List Nat} {σ : St} {H : Hp} {Q : VK} : Stp (tLc2 wi g tt wi1 g1 tt1 te vs vs1 σ H Q) (wi σ H fun J H1 => lc2B J g tt wi1 g1 tt1 te vs vs1 σ Q H1) := ⟨fun h => h⟩
end L2
/-! ### sorted(xs) of lists of ints -/
namespace L2
open PySem PySem.Spec PyProof.Rows
def encZ (b : List Int) : PyData := .list (b.map PyData.int)
/-- addresses and the lists of ints that lie there -/
def EachZ (H : Hp) : List Addr → List (List Int) → Prop
  | [], [] => True
  | a :: as, r :: rs => H a = some (.lst (r.map V.int)) ∧ EachZ H as rs
  | _, _ => False
def sortZ (bs : List (List Int)) : List (List Int) := bs.mergeSort (PySem.W.dataLe false encZ)
def rSortedZ (K : PySem.W.Frag) : List V → Hp → VK → Prop := fun vs H Q => ∃ (a : Addr) (as : List Addr) (bs : List (List Int)), vs = [.ref a] ∧ SqL K H a (as.map V.ref) ∧ EachZ H as bs ∧ (∀ b ∈ bs, b.length ≤ 100) ∧ ∀ (as' : List Addr) p, EachZ H as' (sortZ bs) → (∀ b ∈ as', b ∈ as) → H p = none → Q (.ref p) (upd H p (.lst (as'.map V.ref)))
theorem dpAllI {K : PySem.W.Frag} {H : Hp} : ∀ ns : List Int, DpAll K H (ns.map V.int) (ns.map PyData.int)
  | [] => .nil
  | n :: ns => .cons (.int n) (dpAllI ns)
section
variable {X : Cx}
theorem eachZ_vals {pins : List (Addr × Obj)} {s : Shared} {σ : St} {H : Hp} (I : Inv X pins σ H s) : ∀ {as : List Addr} {bs : List (List Int)}, EachZ H as bs → PySem.W.EachIs (fun v b => ∃ a, v = Value.ref a ∧ a ∈ as ∧ H a = some (.lst (b.map V.int))) (as.map Value.ref) bs ∧ PySem.W.EachIs (fun v b => ∃ ws, Reads s.heap v (encZ b) ws) (as.map Value.ref) bs
  | [], [], _ => ⟨.nil, .nil⟩
  | a :: as, b :: bs, h => by
    obtain ⟨e1, e2⟩ := eachZ_vals I (as := as) (bs := bs) h.2
    refine ⟨.cons ⟨a, rfl, List.mem_cons_self, h.1⟩ (PySem.W.EachIs.mono (fun v b ⟨x, e, m, k⟩ => ⟨x, e, List.mem_cons_of_mem _ m, k⟩) e1), .cons ?_ e2⟩
    exact Dp.reads I (encZ b) (.ref a) (.ref a) (.lst (SqL.of h.1) (dpAllI b)) rfl
  | [], _ :: _, h => h.elim
  | _ :: _, [], h => h.elim
theorem vals_refs : ∀ {as : List Addr} {us : List Value}, Vals (as.map V.ref) us → us = as.map Value.ref
  | [], _, h => by cases h; rfl
  | a :: as, _, h => by
    cases h with
    | cons r t =>
      rename_i u us
      have e : u = Value.ref a := r
      rw [vals_refs t, e]
      rfl
theorem refs_valsZ : ∀ as : List Addr, Vals (as.map V.ref) (as.map Value.ref)
  | [] => .nil
  | _ :: as => .cons rfl (refs_valsZ as)
theorem eachZ_out {H : Hp} {as : List Addr} : ∀ {out : List Value} {bs : List (List Int)}, PySem.W.EachIs (fun v b => ∃ a, v = Value.ref a ∧ a ∈ as ∧ H a = some (.lst (b.map V.int))) out bs → ∃ as', out = as'.map Value.ref ∧ EachZ H as' bs ∧ ∀ b ∈ as', b ∈ as
  | _, _, .nil => ⟨[], rfl, trivial, fun _ h => absurd h List.not_mem_nil⟩
  | _, _, .cons ⟨a, e, m, k⟩ t => by
    obtain ⟨as', e2, z, n⟩ := eachZ_out t
    exact ⟨a :: as', by rw [e, e2]; rfl, ⟨k, z⟩, fun b hb => (List.mem_cons.mp hb).elim (fun q => q ▸ m) (n b)⟩
theorem encZ_depth (b : List Int) : (encZ b).depth ≤ 2 := by
  have go : ∀ ns : List Int, PyData.depthAll (ns.map PyData.int) ≤ 1 := fun ns => by
    induction ns with
    | nil => simp [PyData.depthAll]
    | cons n ns ih => simp only [List.map_cons, PyData.depthAll, PyData.depth]; omega
  have := go b
  simp only [encZ, PyData.depth]
  omega
theorem alikeZ (bs : List (List Int)) : PySem.W.AllAlike (bs.map encZ) := PySem.W.AllAlike.of fun b c => by
  have := PySem.W.alike_ints b c
  simpa [encZ, PySem.W.alike] using this
theorem cr_sortedZ (hu : X.A.units + 65 < cLine) : CallR X (.builtin "sorted") (rSortedZ X.K) := by
  intro pins s σ H vs us Q I r h
  obtain ⟨a, as, bs, rfl, hs, hz, hb, q⟩ := h
  obtain ⟨its, rv, hl, hzz⟩ := I.list hs
  obtain ⟨u, rfl, ru⟩ := vals1 r
  obtain rfl : u = Value.ref a := ru
  have ei := vals_refs rv
  subst ei
  obtain ⟨e1, e2⟩ := eachZ_vals I hz
  have ln := e1.length
  refine PySem.W.sorted_data (R := fun v b => ∃ x, v = Value.ref x ∧ x ∈ as ∧ H x = some (.lst (b.map V.int))) (enc := encZ) (bs := bs) hl.isList e1 e2 (alikeZ bs) (.inr fun d hd => ?_) (by rw [← ln, List.length_map, ← List.length_map (f := V.ref)]; exact hzz) (fun b _ => by have := encZ_depth b; omega) fun out ol eo => ?_
  · obtain ⟨b, _, rfl⟩ := List.mem_map.mp hd
    exact ⟨(fun z => by cases z), fun xs z => by cases z⟩
  · obtain ⟨as', eo', z, mm⟩ := eachZ_out eo
    subst eo'
    obtain ⟨ep, he'⟩ := PyProof.Rows.sortedAll_at s.heap (as.map Value.ref) (as'.map Value.ref).toArray
    refine ⟨.ref _, upd H (s.heap.objs.size + 1) (.lst (as'.map V.ref)), I.laid (t' := s.toks) (fun _ _ => PyProof.Rows.sortedAll_old) (Nat.le_succ _) ⟨?_, as'.map Value.ref, ep, refs_valsZ as', he'⟩, rfl, q as' _ z mm (I.hok.fresh (Nat.le_succ _))⟩
    rw [List.length_map, ← List.length_map (f := Value.ref), ol, ← ln, List.length_map, ← List.length_map (f := V.ref)]
    exact hzz
end
theorem rd_sortZ {K : PySem.W.Frag} {H : Hp} {Q : VK} {a : Addr} {as : List Addr} {bs : List (List Int)} (h : SqL K H a (as.map V.ref)) (z : EachZ H as bs) (l : ∀ b ∈ bs, b.length ≤ 100) (q : ∀ (as' : List Addr) p, EachZ H as' (sortZ bs) → (∀ b ∈ as', b ∈ as) → H p = none → Q (.ref p) (upd H p (.lst (as'.map V.ref)))) : rSortedZ K [.ref a] H Q := ⟨a, as, bs, rfl, h, z, l, q⟩
theorem sortZ_le : (PySem.W.dataLe false encZ) = fun p q : List Int => decide (p ≤ q) := PySem.W.dataLe_rows (β := List Int) id
theorem sortZ_of {bs T : List (List Int)} (p : bs.Perm T) (s : T.Pairwise (· ≤ ·)) : sortZ bs = T := by
  have tr : ∀ a b c : List Int, decide (a ≤ b) = true → decide (b ≤ c) = true → decide (a ≤ c) = true := fun a b c h k => decide_eq_true (List.le_trans (of_decide_eq_true h) (of_decide_eq_true k))
  have to : ∀ a b : List Int, (decide (a ≤ b) || decide (b ≤ a)) = true := fun a b => by
    rcases List.le_total a b with h | h <;> simp [h]
  have q : (sortZ bs).Pairwise (· ≤ ·) := by
    unfold sortZ
    rw [sortZ_le]
    exact (List.pairwise_mergeSort tr to bs).imp fun h => of_decide_eq_true h
  have pm : (sortZ bs).Perm T := (List.mergeSort_perm bs _).trans p
  exact List.Perm.eq_of_pairwise (fun a b _ _ h k => List.le_antisymm h k) q s pm
end L2
/-! ### list(zip(xs, ys)) of two lists -/
namespace PySem.F
theorem zip_no_len : typeLookup (.type "zip") "__len__" = pure none := PySem.am_miss_of_fast (by decide +kernel)
theorem zip_no_hint : typeLookup (.type "zip") "__length_hint__" = pure none := PySem.am_miss_of_fast (by decide +kernel)
end PySem.F
namespace L2
open PySem PySem.Spec PyProof.Rows
/-- pairs in tuples -/
def PairsL (H : Hp) : List Addr → List (V × V) → Prop
  | [], [] => True
  | t :: ts, q :: qs => H t = some (.tup [q.1, q.2]) ∧ PairsL H ts qs
  | _, _ => False
theorem PairsL.but {S : Addr} {H G : Hp} (b : ∀ c o, c ≠ S → H c = some o → G c = some o) : ∀ {ts : List Addr} {qs : List (V × V)}, PairsL H ts qs → (∀ t ∈ ts, t ≠ S) → PairsL G ts qs
  | [], [], _, _ => trivial
  | t :: _, _ :: _, h, n => ⟨b _ _ (n t List.mem_cons_self) h.1, PairsL.but b h.2 fun x hx => n x (List.mem_cons_of_mem _ hx)⟩
theorem PairsL.snoc {H : Hp} : ∀ {ts : List Addr} {qs : List (V × V)} {t : Addr} {q : V × V}, PairsL H ts qs → H t = some (.tup [q.1, q.2]) → PairsL H (ts ++ [t]) (qs ++ [q])
  | [], [], _, _, _, k => ⟨k, trivial⟩
  | _ :: _, _ :: _, _, _, h, k => ⟨h.1, PairsL.snoc h.2 k⟩
/-- the zip's own objects, the lists' place i -/
def ZipSt (h : Heap) (z TI TO i1 i2 a b S : Addr) (i : Nat) : Prop := IsPair h TI (.ref i1) (.ref i2) ∧ h.IsListIter i1 a i ∧ h.IsListIter i2 b i ∧ (∃ o, h.get? TO = some o) ∧
  ((IsZip h z TI TO .none ∧ ∃ u v, IsPair h TO u v) ∨ ∃ T f oT, IsZipHeld h z TI TO T f ∧ h.get? T = some oT ∧ T ≠ z ∧ T ≠ i1 ∧ T ≠ i2 ∧ T ≠ S)
theorem ZipSt.keep {h h' : Heap} {z TI TO i1 i2 a b S : Addr} {i : Nat} (st : ZipSt h z TI TO i1 i2 a b S i) (nz : S ∉ [z, TI, TO, i1, i2]) (k : ∀ c o, c ≠ S → h.get? c = some o → h'.get? c = some o) : ZipSt h' z TI TO i1 i2 a b S i := by
  simp only [List.mem_cons, List.not_mem_nil, or_false, not_or] at nz
  obtain ⟨n1, n2, n3, n4, n5⟩ := nz
  obtain ⟨hTI, h1, h2, ⟨oo, eo⟩, hz⟩ := st
  refine ⟨k _ _ (Ne.symm n2) hTI, h1.at fun o e => k _ o (Ne.symm n4) e, h2.at fun o e => k _ o (Ne.symm n5) e, ⟨oo, k _ _ (Ne.symm n3) eo⟩, ?_⟩
  rcases hz with ⟨hz, u, v, hTO⟩ | ⟨T, f, oT, hz, hT, r1, r2, r3, r4⟩
  · exact .inl ⟨k _ _ (Ne.symm n1) hz, u, v, k _ _ (Ne.symm n3) hTO⟩
  · exact .inr ⟨T, f, oT, k _ _ (Ne.symm n1) hz, k _ _ r4 hT, r1, r2, r3, r4⟩
section
variable {X : Cx}
theorem zip_loop {pins : List (Addr × Obj)} {σ : St} {z TI TO i1 i2 a b S : Addr} (D : ZipApart z TI TO i1 i2 a b) (nz : S ∉ [z, TI, TO, i1, i2]) {xs ys : List V} {n : Nat} (hn : n = min xs.length ys.length) (nl : n ≤ 100000) {A : Around} (hh : A.in1.handled = none) {R : Result → Shared → Prop} {res : Value} :
    ∀ (k i : Nat) (s : Shared) (H : Hp) (Ts : List Addr), n - i = k → i ≤ n → Inv X pins σ H s → (∀ G, (∀ c o, c ≠ S → H c = some o → G c = some o) → SqL X.K G a xs ∧ SqL X.K G b ys) → H S = some (.lst (Ts.map V.ref)) → (∀ t ∈ Ts, t ≠ S) → PairsL H Ts ((xs.zip ys).take i) →
      ZipSt s.heap z TI TO i1 i2 a b S i → (∀ c ∈ [z, TI, TO, i1, i2], FpOk X pins H c) →
      (∀ (s' : Shared) (H' : Hp) (Ts' : List Addr), Inv X pins σ H' s' → (∀ c o, c ≠ S → H c = some o → H' c = some o) → (NoT H → NoT H') → H' S = some (.lst (Ts'.map V.ref)) → PairsL H' Ts' (xs.zip ys) → (∀ t ∈ Ts', t ≠ S) → (∀ t ∈ Ts', t ∈ Ts ∨ H t = none) → R (.ok (.ret res)) s') →
      codeAny (model X.prog X.w) A (.builtin "list.extend.loop" ⟨[.ref S, .ref z, res], []⟩) R s := by
  intro k
  induction k with
  | zero =>
    intro i s H Ts hk hi I hq hS nS pr st fp hR
    have hin : i = n := by omega
    subst hin
    obtain ⟨hqx, hqy⟩ := hq H fun _ _ _ e => e
    obtain ⟨its, rv, p, _⟩ := I.list hqx
    obtain ⟨its2, rv2, p2, _⟩ := I.list hqy
    have l1 := rv.length
    have l2 := rv2.length
    have he : its.toArray[i]? = none ∨ its2.toArray[i]? = none := by
      rcases Nat.le_total xs.length ys.length with q | q
      · exact .inl (by simp; omega)
      · exact .inr (by simp; omega)
    have ez : (xs.zip ys).take i = xs.zip ys := List.take_of_length_le (by rw [List.length_zip]; omega)
    rw [ez] at pr
    refine codeAny_builtin F.entry_extend_loop ?_
    rw [Around.under_plainId F.plain_extend_loop _]
    show wpAny _ A.in1 (pyNext (.ref z) >>= _) _ _ s
    obtain ⟨hTI, h1, h2, oTO, hz⟩ := st
    have fin : ∀ h', (∀ c o, c ∉ [z, TI, TO, i1, i2] → s.heap.get? c = some o → h'.get? c = some o) → R (.ok (.ret res)) { s with heap := h' } := fun h' kk =>
      hR _ H Ts (I.turnedL (t' := s.toks) (ch := [z, TI, TO, i1, i2]) kk fp) (fun _ _ _ e => e) id hS pr nS fun t ht => .inl ht
    rcases hz with ⟨hz, u, v, hTO⟩ | ⟨T, f, oT, hz, hT, r1, r2, r3, r4⟩
    · refine wpAny_bind (wpAny_pyNext_zip_end hh D hz hTI hTO h1 h2 p.isList p2.isList he fun h' kk => wpAny_pure (fin h' fun c o hb q => ?_))
      exact kk c o (fun q' => hb (by simp [q'])) (fun q' => hb (by simp [q'])) (fun q' => hb (by simp [q'])) (fun q' => hb (by simp [q'])) q
    · refine wpAny_bind (wpAny_pyNext_zip_end_held hh D hz hT hTI h1 h2 p.isList p2.isList he fun h' kk => wpAny_pure (fin h' fun c o hb q => ?_))
      exact kk c o (fun q' => hb (by simp [q'])) (fun q' => hb (by simp [q'])) (fun q' => hb (by simp [q'])) q
  | succ k ih =>
    intro i s H Ts hk hi I hq hS nS pr st fp hR
    have hlt : i < n := by omega
    obtain ⟨hqx, hqy⟩ := hq H fun _ _ _ e => e
    obtain ⟨its, rv, p, _⟩ := I.list hqx
    obtain ⟨its2, rv2, p2, _⟩ := I.list hqy
    have ix : i < xs.length := by omega
    have iy : i < ys.length := by omega
    have hx : xs[i]? = some xs[i] := List.getElem?_eq_getElem ix
    have hy : ys[i]? = some ys[i] := List.getElem?_eq_getElem iy
    generalize xs[i] = x at hx
    generalize ys[i] = y at hy
    obtain ⟨u, hu, ru⟩ := rv.get hx
    obtain ⟨u2, hu2, ru2⟩ := rv2.get hy
    refine codeAny_builtin F.entry_extend_loop ?_
    rw [Around.under_plainId F.plain_extend_loop _]
    show wpAny _ A.in1 (pyNext (.ref z) >>= _) _ _ s
    obtain ⟨hTI, h1, h2, oTO, hz⟩ := st
    have ez : (xs.zip ys).take (i + 1) = (xs.zip ys).take i ++ [(x, y)] := by
      rw [List.take_add_one, List.getElem?_zip_eq_some (z := (x, y)).mpr ⟨hx, hy⟩]
      rfl
    have lTs : Ts.length = i := by
      have go : ∀ {ts : List Addr} {qs : List (V × V)}, PairsL H ts qs → ts.length = qs.length := fun {ts} => by
        induction ts with
        | nil => intro qs h; cases qs with | nil => rfl | cons q qs => exact h.elim
        | cons t ts ih => intro qs h; cases qs with | nil => exact h.elim | cons q qs => simp [ih h.2]
      have := go pr
      rw [List.length_take, List.length_zip] at this
      omega
    -- the turn itself
    have turn : ∀ (h' : Heap) (T : Addr), T = s.heap.objs.size → ZipSt h' z TI TO i1 i2 a b S (i + 1) → IsPair h' T u u2 → (∀ c o, c ∉ [z, TI, TO, i1, i2] → s.heap.get? c = some o → h'.get? c = some o) →
        wpAny (model X.prog X.w) A.in1 (updateSeq S (·.push (.ref T)) >>= fun _ => (again (.builtin "list.extend.loop" ⟨[.ref S, .ref z, res], []⟩))) (fun fin s' => match fin with | .done f => R (.ok f) s' | .again c' => c'.quiet = true ∧ codeAny (model X.prog X.w) A c' R s') (fun e s' => R (.error e) s') { s with heap := h' } := by
      intro h' T eT st' hT kk
      have new : ObjOk X.prog X.w (upd H T (.tup [x, y])) h' T (.tup [x, y]) := ⟨by show 2 ≤ sizeLine; decide, [u, u2], .cons ru (.cons ru2 .nil), ⟨_, hT, rfl, _, rfl⟩⟩
      have I1 : Inv X pins σ (upd H T (.tup [x, y])) { s with heap := h' } := I.turnedNew (t' := s.toks) (ch := [z, TI, TO, i1, i2]) kk fp (by rw [eT]; exact Nat.le_refl _) new
      have fT : H T = none := I.hok.fresh (by rw [eT]; exact Nat.le_refl _)
      have TS : T ≠ S := fun e => by rw [e, hS] at fT; cases fT
      have hS1 : upd H T (.tup [x, y]) S = some (.lst (Ts.map V.ref)) := by rw [upd_ne (Ne.symm TS)]; exact hS
      obtain ⟨zz, it3, n3, r3, l3, e3⟩ := I1.lstM hS1
      rw [List.length_map, lTs] at l3
      have big : 100001 ≤ sizeLine := by decide
      have fits : it3.toArray.size + 1 ≤ sizeLine := by rw [List.size_toArray]; omega
      refine wpAny_bind (wpAny_updateSeq e3 rfl ?_ (Nat.le_of_succ_le fits) (by show (it3.toArray.push _).size ≤ _; rw [Array.size_push]; exact Nat.le_succ_of_le fits))
      have I2 : Inv X pins σ (upd (upd H T (.tup [x, y])) S (.lst ((Ts ++ [T]).map V.ref))) { s with heap := h'.update S (Obj.mapSeq (·.push (.ref T))) } := I1.lset (t' := s.toks) (its' := it3 ++ [.ref T]) hS1 e3 (by simp) (by rw [List.map_append]; exact r3.append (.cons rfl .nil)) (by rw [List.length_map, List.length_append, lTs, List.length_singleton]; omega)
      have kp : ∀ c o, c ≠ S → H c = some o → upd (upd H T (.tup [x, y])) S (.lst ((Ts ++ [T]).map V.ref)) c = some o := fun c o hc e => by
        rw [upd_ne hc, upd_ne (fun q => by rw [q, fT] at e; cases e)]
        exact e
      have nS2 : ∀ t ∈ Ts ++ [T], t ≠ S := fun t ht => by
        rcases List.mem_append.mp ht with q | q
        · exact nS t q
        · rw [List.mem_singleton.mp q]; exact TS
      refine wpAny_pure ⟨plainId_quiet F.plain_extend_loop _, ih (i + 1) _ _ (Ts ++ [T]) (by omega) (by omega) I2 (fun G g => hq G fun c o hc e => g c o hc (kp c o hc e)) upd_same nS2 ?_ (st'.keep nz fun c o hc e => (Heap.get?_update_other _ _ (Ne.symm hc)).trans e) (fun c hc => ?_) fun s' H' Ts' I' g1 g2 g3 g4 g5 g6 => ?_⟩
      · rw [ez]
        refine PairsL.snoc (pr.but kp nS) ?_
        rw [upd_ne TS]
        exact upd_same
      · obtain ⟨f1, f2⟩ := fp c hc
        refine ⟨?_, f2⟩
        have cS : c ≠ S := fun e => nz (e ▸ hc)
        have cT : c ≠ T := fun e => by
          have ex : ∃ o, s.heap.get? c = some o := by
            simp only [List.mem_cons, List.not_mem_nil, or_false] at hc
            have iz : ∃ o, s.heap.get? z = some o := by rcases hz with ⟨q, _⟩ | ⟨_, _, _, q, _⟩ <;> exact ⟨_, q⟩
            rcases hc with q | q | q | q | q
            · rw [q]; exact iz
            · rw [q]; exact ⟨_, hTI⟩
            · rw [q]; exact oTO
            · rw [q]; obtain ⟨_, e1, _⟩ := h1; exact ⟨_, e1⟩
            · rw [q]; obtain ⟨_, e2, _⟩ := h2; exact ⟨_, e2⟩
          obtain ⟨o, ho⟩ := ex
          have := Heap.lt_size ho
          rw [e, eT] at this
          exact Nat.lt_irrefl _ this
        rw [upd_ne cS, upd_ne cT]
        exact f1
      · refine hR s' H' Ts' I' (fun c o hc e => g1 c o hc (kp c o hc e)) (fun nt => g2 (NoT.upd (NoT.upd nt rfl) rfl)) g3 g4 g5 fun t ht => ?_
        rcases g6 t ht with q | q
        · rcases List.mem_append.mp q with q | q
          · exact .inl q
          · rw [List.mem_singleton.mp q]; exact .inr fT
        · refine .inr ?_
          cases e : H t with
          | none => rfl
          | some o =>
            by_cases c : t = S
            · rw [c, upd_same] at q; cases q
            · rw [kp t o c e] at q; cases q
    have ex := hu
    rcases hz with ⟨hz, u0, v0, hTO⟩ | ⟨T, f, oT, hz, hT, r1, r2, r3, r4⟩
    · have lt : ∀ {c o}, s.heap.get? c = some o → s.heap.objs.size ≠ c := fun e => Nat.ne_of_gt (Heap.lt_size e)
      refine wpAny_bind (wpAny_pyNext_zip_item D hz hTI hTO h1 h2 p.isList p2.isList (x := u) (y := u2) (by simpa using hu) (by simpa using hu2) fun h' a1 a2 a3 a4 a5 a6 kk => ?_)
      refine turn h' _ rfl ⟨kk _ _ D.TIz D.TITO D.TIi1 D.TIi2 hTI, a3, a4, ⟨_, a2⟩, .inr ⟨s.heap.objs.size, false, _, a1, a5, lt hz, let ⟨_, e, _⟩ := h1; lt e, let ⟨_, e, _⟩ := h2; lt e, ?_⟩⟩ a5 fun c o hc e => kk c o (fun q => hc (by simp [q])) (fun q => hc (by simp [q])) (fun q => hc (by simp [q])) (fun q => hc (by simp [q])) e
      exact fun e => by
        have := I.hok.fresh (Nat.le_refl s.heap.objs.size)
        rw [e, hS] at this
        cases this
    · refine wpAny_bind (wpAny_pyNext_zip_item_held D hz hT hTI h1 h2 p.isList p2.isList (x := u) (y := u2) (by simpa using hu) (by simpa using hu2) fun h' a1 a3 a4 a5 a6 kk => ?_)
      exact turn h' _ rfl ⟨kk _ _ D.TIz D.TIi1 D.TIi2 hTI, a3, a4, ⟨_, kk _ _ D.TOz D.TOi1 D.TOi2 oTO.choose_spec⟩, .inr ⟨T, true, oT, a1, kk _ _ r1 r2 r3 hT, r1, r2, r3, r4⟩⟩ a5 fun c o hc e => kk c o (fun q => hc (by simp [q])) (fun q => hc (by simp [q])) (fun q => hc (by simp [q])) e
/-- list(zip(a, b)) -/
def rListZip (K : PySem.W.Frag) : List V → Hp → VK → Prop := fun vs H1 Q => ∃ a b xs ys, vs = [.ref a, .ref b] ∧ SqL K H1 a xs ∧ SqL K H1 b ys ∧ xs.length ≤ 100000 ∧
  ∀ (S : Addr) (Ts : List Addr) (H' : Hp), Same H1 H' → (NoT H1 → NoT H') → H1 S = none → H' S = some (.lst (Ts.map V.ref)) → PairsL H' Ts (xs.zip ys) → (∀ t ∈ Ts, t ≠ S ∧ H1 t = none) → Q (.ref S) H'
def tListZip (K : PySem.W.Frag) (ta : TA) : TE := fun σ H Q => ta σ H fun vs H1 => rListZip K vs H1 Q
instance st_listZip {K : PySem.W.Frag} {ta : TA} {σ : St} {H : Hp} {Q : VK} : Stp (tListZip K ta σ H Q) (ta σ H fun vs H1 => rListZip K vs H1 Q) := ⟨fun h => h⟩
theorem rd_listZip {K : PySem.W.Frag} {H : Hp} {Q : VK} {a b : Addr} {xs ys : List V} (h1 : SqL K H a xs) (h2 : SqL K H b ys) (l : xs.length ≤ 100000) (q : ∀ (S : Addr) (Ts : List Addr) (H' : Hp), Same H H' → (NoT H → NoT H') → H S = none → H' S = some (.lst (Ts.map V.ref)) → PairsL H' Ts (xs.zip ys) → (∀ t ∈ Ts, t ≠ S ∧ H t = none) → Q (.ref S) H') : rListZip K [.ref a, .ref b] H Q := ⟨a, b, xs, ys, rfl, h1, h2, l, q⟩
theorem PairsL.at {H : Hp} : ∀ {ts : List Addr} {qs : List (V × V)} {i : Nat} {v : V}, PairsL H ts qs → (ts.map V.ref)[i]? = some v → ∃ t q, v = .ref t ∧ ts[i]? = some t ∧ qs[i]? = some q ∧ H t = some (.tup [q.1, q.2])
  | [], [], i, v, _, h => by simp at h
  | t :: _, q :: _, 0, v, k, h => ⟨t, q, by simpa using h.symm, rfl, rfl, k.1⟩
  | _ :: _, _ :: _, i + 1, v, k, h => PairsL.at (i := i) k.2 (by simpa using h)
theorem PairsL.mono {H G : Hp} (s : Same H G) : ∀ {ts : List Addr} {qs : List (V × V)}, PairsL H ts qs → PairsL G ts qs
  | [], [], _ => trivial
  | _ :: _, _ :: _, h => ⟨s _ _ h.1, PairsL.mono s h.2⟩
theorem PairsL.len {H : Hp} : ∀ {ts : List Addr} {qs : List (V × V)}, PairsL H ts qs → ts.length = qs.length
  | [], [], _ => rfl
  | _ :: _, _ :: _, h => by simp [PairsL.len h.2]
theorem pe_listZip {e e2 : Expr} {ta : TA} {p p2 pos pos2 : Pos} (hc : X.calm = true) (hgL : Gl X "list") (hmL : X.mg "list" = none) (hg : Gl X "zip") (hm : X.mg "zip" = none) (ha : PA X [e, e2] ta)
    (hs : starEach [e, e2] X.env = (false, eval e X.env) :: starEach [e2] X.env := by rfl) (hpl : (backTo pos2 (starEach [e2] X.env)).any (·.1) = false := by rfl)
    (na : starEach [.Call (.Name "zip" p2) [e, e2] [] pos2] X.env = (false, eval (.Call (.Name "zip" p2) [e, e2] [] pos2) X.env) :: starEach [] X.env := by rfl) :
    PE X (.Call (.Name "list" p) [.Call (.Name "zip" p2) [e, e2] [] pos2] [] pos) (tListZip X.K ta) := by
  refine ⟨fun pins s σ H Q I h => ?_⟩
  refine Call_ (ld_blt I hgL hmL boot_list (PyProof.Rows.callWith_type1 (args_cons ?_ na) na))
  refine Call_ (ld_blt I hg hm PyProof.Rows.boot_zip (PyProof.Rows.callWith_type1 (thn (ha.run pos2 pins s σ H _ I h) fun us s1 ⟨vs, H1, I1, r1, q1⟩ => ?_) hs hpl))
  obtain ⟨a, b, xs, ys, ex, hqx, hqy, lx, q⟩ := q1
  subst ex
  cases r1 with
  | cons r rr =>
  cases rr with
  | cons r' rr =>
  cases rr
  cases r
  cases r'
  obtain ⟨its, rv, p1, _⟩ := I1.list hqx
  obtain ⟨its2, rv2, p2', _⟩ := I1.list hqy
  have la : a < s1.heap.objs.size := p1.lt
  have lb : b < s1.heap.objs.size := p2'.lt
  refine call_zip_2 p1.isList p2'.isList fun h' hz hTI hTO h1 h2 hsz hk => args_nil ?_
  have hhd : X.A.handled = none := I1.ok.hd hc
  generalize ez : s1.heap.objs.size + 4 = z at *
  refine callType_codes (Q₁ := fun obj s₁ => obj = .ref h'.objs.size ∧ s₁ = { s1 with heap := h'.push { cls := .type "list", data := .seq #[] } }) F.called_list (F.typeCall_list_1 _) F.entry_list_init
    (code_list_new _ ⟨rfl, rfl⟩) fun obj s₁ h₁ => ?_
  obtain ⟨rfl, rfl⟩ := h₁
  have hS : (h'.push { cls := .type "list", data := .seq #[] }).get? h'.objs.size = some { cls := .type "list", data := .seq #[] } := Heap.get?_push_size _ rfl
  refine ⟨⟨_, hS, rfl⟩, F.args_list_init_2 _ _, ?_⟩
  have hzs : z < h'.objs.size := by omega
  have nz : h'.objs.size ∉ [z, s1.heap.objs.size + 2, s1.heap.objs.size + 3, s1.heap.objs.size, s1.heap.objs.size + 1] := by
    simp only [List.mem_cons, List.not_mem_nil, or_false, not_or]
    omega
  have hSz : h'.objs.size ≠ z := by omega
  show wpAny _ _ (do let old ← Builtin.List.listItems (.ref h'.objs.size); Builtin.List.listUpdate (.ref h'.objs.size) (fun _ => #[]); letGo old.toList.reverse; Builtin.List.listExtendWith (.ref h'.objs.size) (.ref z) .none) _ _ _
  refine wpAny_bind ?_
  unfold Builtin.List.listItems
  refine wpAny_bind (wpAny_seqItems hS rfl (wpAny_pure ?_))
  show wpAny _ _ (updateSeq h'.objs.size (fun _ => #[]) >>= fun _ => letGo (#[] : Array Value).toList.reverse >>= fun _ => Builtin.List.listExtendWith (.ref h'.objs.size) (.ref z) .none) _ _ _
  refine wpAny_bind (wpAny_updateSeq hS rfl ?_)
  have hS₂ := Heap.get?_update_self (Obj.mapSeq (fun _ => (#[] : Array Value))) hS rfl
  have oth : ∀ b o, b ≠ h'.objs.size → h'.get? b = some o → ((h'.push { cls := .type "list", data := .seq #[] }).update h'.objs.size (Obj.mapSeq (fun _ => (#[] : Array Value)))).get? b = some o :=
    fun b o hb e => (Heap.get?_update_other _ _ (Ne.symm hb)).trans (Heap.get?_push_of_some _ e)
  refine wpAny_bind (wpAny_letGo ?_)
  have tyz : ∀ {h2 : Heap}, (∀ b o, b ≠ h'.objs.size → h'.get? b = some o → h2.get? b = some o) → (Shared.TypeIs { s1 with heap := h2 } (.ref z) "zip") := fun kk => ⟨_, kk _ _ (Ne.symm hSz) hz, rfl⟩
  unfold Builtin.List.listExtendWith
  refine wpAny_bind (wpAny_typeOf (T := "zip") (tyz oth) ?_)
  have e1 : Builtin.List.listSameRef (.ref h'.objs.size) (.ref z) = false := by simp [Builtin.List.listSameRef, hSz]
  have e2 : (Value.type "zip" == Value.type "list") = false := by decide
  have e3 : (Value.type "zip" == Value.type "tuple") = false := by decide
  simp only [e1, e2, e3, Bool.or_false, Bool.false_eq_true, if_false]
  refine wpAny_bind (wpAny_pyIter_zip (oth _ _ (Ne.symm hSz) hz) ?_)
  refine wpAny_bind (wpAny_holding ?_)
  unfold Builtin.List.listLengthHint
  refine wpAny_bind (wpAny_specialOf (tyz oth) F.zip_no_len ?_)
  show wpAny _ _ (specialOf (Value.ref z) (Str.ofString "__length_hint__") >>= _) _ _ _
  refine wpAny_bind (wpAny_specialOf (tyz oth) F.zip_no_hint ?_)
  refine wpAny_pure ?_
  show wpAny _ _ (rule "list.extend.makes-room" >>= fun _ => Builtin.List.listTouch (.ref h'.objs.size) >>= fun _ =>
    again (.builtin "list.extend.loop" ⟨[.ref h'.objs.size, .ref z, .none], []⟩)) _ _ _
  refine wpAny_bind (wpAny_rule ?_)
  refine wpAny_bind ?_
  show wpAny _ _ (updateSeq h'.objs.size (·.push .none) >>= fun _ => updateSeq h'.objs.size (·.pop)) _ _ _
  refine wpAny_bind (wpAny_updateSeq hS₂ rfl ?_)
  have hS₃ := Heap.get?_update_self (Obj.mapSeq (·.push Value.none)) hS₂ rfl
  refine wpAny_updateSeq (hz := by seq_fits) hS₃ rfl ?_
  have hS₄ := Heap.get?_update_self (Obj.mapSeq (·.pop)) hS₃ rfl
  have oth4 : ∀ b o, b ≠ h'.objs.size → h'.get? b = some o → ((((h'.push { cls := .type "list", data := .seq #[] }).update h'.objs.size (Obj.mapSeq (fun _ => (#[] : Array Value)))).update h'.objs.size (Obj.mapSeq (·.push Value.none))).update h'.objs.size (Obj.mapSeq (·.pop))).get? b = some o :=
    fun b o hb e => (Heap.get?_update_other _ _ (Ne.symm hb)).trans ((Heap.get?_update_other _ _ (Ne.symm hb)).trans (oth b o hb e))
  have oth5 : ∀ b o, h'.get? b = some o → ((((h'.push { cls := .type "list", data := .seq #[] }).update h'.objs.size (Obj.mapSeq (fun _ => (#[] : Array Value)))).update h'.objs.size (Obj.mapSeq (·.push Value.none))).update h'.objs.size (Obj.mapSeq (·.pop))).get? b = some o :=
    fun b o e => oth4 b o (Nat.ne_of_lt (Heap.lt_size e)) e
  have I2 : Inv X pins σ H1 { s1 with heap := h' } := I1.kept (t' := s1.toks) hk
  have I3 := I2.laid (t' := s1.toks) (a := h'.objs.size) (o := .lst (([] : List Addr).map V.ref)) oth5 (Nat.le_refl _) ⟨Nat.zero_le _, [], _, .nil, hS₄⟩
  have fS : H1 h'.objs.size = none := I2.hok.fresh (Nat.le_refl _)
  refine wpAny_pure ⟨plainId_quiet F.plain_extend_loop _, zip_loop (X := X) (pins := pins) (σ := σ) (xs := xs) (ys := ys) (A := X.A.in1) (S := h'.objs.size) (by rw [← ez]; exact PySem.W.ktu_apart s1.heap.objs.size a b la lb) nz rfl (Nat.le_trans (Nat.min_le_left ..) lx) hhd _ 0 _ _ [] rfl (Nat.zero_le _) I3 (fun G g => ?_) upd_same (fun t h => absurd h List.not_mem_nil) trivial
    ⟨oth5 _ _ hTI, h1.at fun o e => oth5 _ _ e, h2.at fun o e => oth5 _ _ e, ⟨_, oth5 _ _ hTO⟩, .inl ⟨oth5 _ _ hz, _, _, oth5 _ _ hTO⟩⟩ (fun c hc => ?_) fun s' H' Ts' I' g1 g2 g3 g4 g5 g6 => ?_⟩
  · have sm : Same H1 G := fun c o e => g c o (fun q => by rw [q, fS] at e; cases e) (by rw [upd_ne (fun q => by rw [q, fS] at e; cases e)]; exact e)
    exact ⟨sm.seq hqx, sm.seq hqy⟩
  · have lc : s1.heap.objs.size ≤ c ∧ c ≠ h'.objs.size := by
      have hc' : c = z ∨ c = s1.heap.objs.size + 2 ∨ c = s1.heap.objs.size + 3 ∨ c = s1.heap.objs.size ∨ c = s1.heap.objs.size + 1 := by simpa using hc
      refine ⟨?_, fun e => nz (e ▸ hc)⟩
      rcases hc' with e | e | e | e | e <;> rw [e]
      · exact ez ▸ Nat.le_add_right _ _
      · exact Nat.le_add_right _ _
      · exact Nat.le_add_right _ _
      · exact Nat.le_refl _
      · exact Nat.le_add_right _ _
    obtain ⟨f1, f2⟩ := I1.fpOk lc.1 (I1.hok.fresh lc.1)
    exact ⟨by rw [upd_ne lc.2]; exact f1, f2⟩
  · have sm : Same H1 H' := fun c o e => g1 c o (fun q => by rw [q, fS] at e; cases e) (by rw [upd_ne (fun q => by rw [q, fS] at e; cases e)]; exact e)
    refine ⟨rfl, .ref h'.objs.size, H', I', rfl, q _ Ts' H' sm (fun nt => g2 (NoT.upd nt rfl)) fS g3 g4 fun t ht => ⟨g5 t ht, ?_⟩⟩
    rcases g6 t ht with w | w
    · exact absurd w List.not_mem_nil
    · rw [upd_ne (g5 t ht)] at w
      exact w
end
end L2
/-! sorted(rows, key=lambda row: len(row)) -/
namespace L2
open PySem PySem.Spec PyProof.Rows LamX
/-- the call of the key: the frame is new, all else stands -/
theorem keylen_turn {P : Program} {w : World} {A : Around} {s : Shared} {f r c' : Addr} {q x : Str} {params : Arguments} {scope : Scope} {pm ctv : Value} {mg mb : Str → Option Value} {items : Array Value} {p1 p2 p3 : Pos}
    (hroom : A.depth < recursionLimit) (hf : s.heap.get? f = some (PySem.W.kla_obj "<lambda>" q params (.Call (.Name "len" p1) [.Name x p2] [] p3) scope [] pm c' ctv)) (hcd : s.heap.CodeRec (.ref c') q)
    (hG : s.heap.Ns mainGlobals mg) (hm : mg "len" = none) (hB : s.heap.Ns builtinsNs mb) (hb : mb "len" = some (.builtin "len")) (lim : s.heap.NoLimit)
    (hr : s.heap.IsList r items) (hz : items.size ≤ sizeLine) (hk : scope.kind = .function) (hco : scope.isCoroutine = false) (hgen : scope.isGenerator = false) (hcell : ∀ y ∈ scope.names, y.2 ≠ .cell) (hx : scope.names.lookup x = some .local) (hl : scope.names.lookup ("len" : Str) = some NameKind.globalImplicit) (hxd : (x == ("__debug__" : Str)) = false)
    (hbind : bindArgs (PySem.W.kla_fn "<lambda>" q params (.Call (.Name "len" p1) [.Name x p2] [] p3) scope [] pm (.ref c') ctv) ⟨[.ref r], []⟩ = pure [(x, .ref r)]) :
    wpAny (model P w) A (call (.ref f) [.ref r]) (PySem.W.KeyPure (.int items.size) s) (fun _ _ => False) s := by
  refine wpAny_call (codeAny_mono (R := fun r' s' => ∃ v, r' = .ok (.ret v) ∧ PySem.W.KeyPure (.int items.size) s v s') (PySem.W.kla_callFunE hroom hf rfl hco hgen rfl hcd ?_) fun r' s' hq => ?_)
  · rw [hbind]
    refine wpAny_pure (wpAny_newFunctionEnv hcell (fun y hy => by rw [List.mem_singleton.mp hy]; exact hx) (fun h₁ hns hsb => ⟨lim.fresh _ hsb, ?_⟩) hk)
    have kp : ∀ b o, s.heap.get? b = some o → h₁.get? b = some o := fun b o e => hsb.extBut b o (Nat.ne_of_lt (Heap.lt_size e)) (Heap.get?_push_of_some _ e)
    refine PySem.W.kla_codeExpr ?_
    refine wpAny_Call_Name_kw (Calls.Name_function_global hk hl (Calls.loadGlobal_builtin (hG.keeps kp) hm (hB.keeps kp) hb ?_))
    refine PyProof.Rows.callWith_builtin1 (rest := []) ?_ (by rfl) (by rfl)
    refine Calls.spliced_cons (wpAny_Name (wpAny_loadName_local hk hx hns (v := .ref r) (by simp) ?_) hxd)
    refine Calls.spliced_nil ?_
    have hn := line63
    obtain ⟨o, ho, hc, n, hd⟩ := hr
    refine Calls.call_len_list (items := items) ⟨o, kp _ _ ho, hc, n, hd⟩ (by omega) ?_
    exact ⟨_, rfl, h₁, _, rfl, kp, .int _ _⟩
  · obtain ⟨v, rfl, h⟩ := hq
    exact h
/-- a table may have grown; one that is newer than the def's start is let go -/
def dropT (H0 H H2 : Hp) : Hp := fun b => match H b with
  | some (.tbl _) => match H0 b with
    | some (.tbl _) => H2 b
    | _ => none
  | o => o
theorem dropT_some {H0 H H2 : Hp} {b : Addr} {o : HO} (h : H b = some o) (n : ∀ q, o ≠ .tbl q) : dropT H0 H H2 b = some o := by
  unfold dropT
  rw [h]
  split
  · rename_i q e
    exact absurd (Option.some.inj e) (n q)
  · rfl
theorem dropT_none {H0 H H2 : Hp} {b : Addr} (h : H b = none) : dropT H0 H H2 b = none := by
  unfold dropT
  rw [h]
theorem dropT_tbl {H0 H H2 : Hp} {b : Addr} {q : Array Value} (h : H b = some (.tbl q)) : dropT H0 H H2 b = H2 b ∧ (∃ q0, H0 b = some (.tbl q0)) ∨ dropT H0 H H2 b = none := by
  unfold dropT
  rw [h]
  show (match H0 b with | some (.tbl _) => H2 b | _ => none) = H2 b ∧ _ ∨ (match H0 b with | some (.tbl _) => H2 b | _ => none) = none
  split
  · rename_i q0 e
    exact .inl ⟨rfl, q0, e⟩
  · exact .inr rfl
theorem obj_tab {Pr : Program} {w : World} {H H3 : Hp} {h : Heap} {a : Addr} (hE : ∀ b o, H b = some o → (∀ q, o ≠ .tbl q) → H3 b = some o) : ∀ {o : HO}, noT o = true → ObjOk Pr w H h a o → ObjOk Pr w H3 h a o := by
  intro o
  induction o with
  | dT kvs => intro n; cases n
  | frz ob u ih =>
    intro n x
    exact ⟨x.1, ih n x.2⟩
  | ins C dx fs =>
    intro n x
    exact ⟨hE _ _ x.1 (fun q z => by cases z), x.2⟩
  | lst xs => intro n x; exact x
  | tup xs => intro n x; exact x
  | dK kvs => intro n x; exact x
  | set S m => intro n x; exact x
  | own z => intro n x; exact x
  | xd fs => intro n x; exact x
  | rng lo hi => intro n x; exact x
  | tbl ps => intro n x; exact x
  | met f z => intro n x; exact x
  | ext phi => intro n x; exact x
/-- what was made on the way is forgotten, but for tables -/
theorem Inv.forgetT {X : Cx} {pins pins' : List (Addr × Obj)} {σ σ' : St} {H H2 : Hp} {s s' : Shared} (I : Inv X pins σ H s) (J : Inv X pins' σ' H2 s') (e : ∀ b o, H b = some o → (∀ q, o ≠ .tbl q) → H2 b = some o) (n : NoT H) : Inv X pins' σ' (dropT X.H_0 H H2) s' := by
  refine ⟨J.ok, J.os, J.bare, ⟨J.base.keep, J.base.slot, fun b o h1 h2 h3 => dropT_none (I.base.free b o h1 h2 h3), J.base.there, fun b xs h => dropT_some (I.base.tups b xs h) (fun q z => by cases z), fun b o u h => dropT_some (I.base.frzs b o u h) (fun q z => by cases z), fun b qs h => ?_⟩, J.loc, J.cell, dropT_none I.free, fun y c h => dropT_none (I.freeC y c h), fun p hp => ?_, fun b o h => ?_, J.len⟩
  · obtain ⟨m1, g1⟩ := I.base.tbls b qs h
    obtain ⟨m2, g2⟩ := J.base.tbls b qs h
    refine ⟨m2, ?_⟩
    rw [← g2]
    unfold dropT
    rw [g1]
    show (match X.H_0 b with | some (.tbl _) => H2 b | _ => none) = _
    rw [h]
  · obtain ⟨a, b, c⟩ := J.pin p hp
    refine ⟨a, ?_, c⟩
    cases q : H p.1 with
    | none => exact dropT_none q
    | some o =>
      by_cases t : ∃ q, o = .tbl q
      · obtain ⟨q', rfl⟩ := t
        rcases dropT_tbl (H0 := X.H_0) (H2 := H2) q with ⟨z, _⟩ | z
        · rw [z, b]
        · exact z
      · rw [e _ _ q fun q' z => t ⟨q', z⟩] at b
        cases b
  · cases q : H b with
    | none =>
      rw [dropT_none q] at h
      cases h
    | some o' =>
      by_cases t : ∃ q, o' = .tbl q
      · obtain ⟨q', rfl⟩ := t
        rcases dropT_tbl (H0 := X.H_0) (H2 := H2) q with ⟨z, q0, z0⟩ | z
        · obtain ⟨m2, g2⟩ := J.base.tbls b q0 z0
          rw [z, g2] at h
          cases h
          exact J.hok b _ g2
        · rw [z] at h
          cases h
      · have t' : ∀ q, o' ≠ .tbl q := fun q' z => t ⟨q', z⟩
        rw [dropT_some q t'] at h
        cases h
        exact obj_tab (fun b o h g => dropT_some h g) (n b _ q) (obj_back (n b _ q) (J.hok b _ (e b _ q t')) (I.hok b _ q))
theorem dropT_nt {H0 H H2 : Hp} (n : NoT H) (t : ∀ b q, H0 b = some (.tbl q) → ∃ m, H2 b = some (.tbl m)) : NoT (dropT H0 H H2) := fun b o h => by
  cases q : H b with
  | none =>
    rw [dropT_none q] at h
    cases h
  | some o' =>
    by_cases c : ∃ q, o' = .tbl q
    · obtain ⟨q', rfl⟩ := c
      rcases dropT_tbl (H0 := H0) (H2 := H2) q with ⟨z, q0, z0⟩ | z
      · obtain ⟨m2, g2⟩ := t b q0 z0
        rw [z, g2] at h
        cases h
        rfl
      · rw [z] at h
        cases h
    · rw [dropT_some q fun q' z => c ⟨q', z⟩] at h
      cases h
      exact n b _ q
theorem each_rows : ∀ {rows : List (Addr × List Int)} {its : List Value}, Vals (rows.map fun r => V.ref r.1) its → PySem.W.EachIs (fun (v : Value) (r : Addr × List Int) => v = .ref r.1) its rows
  | [], [], _ => .nil
  | r :: rows, v :: its, .cons h t => .cons h (each_rows t)
theorem rows_each : ∀ {rows : List (Addr × List Int)} {its : List Value}, PySem.W.EachIs (fun (v : Value) (r : Addr × List Int) => v = .ref r.1) its rows → Vals (rows.map fun r => V.ref r.1) its
  | [], [], _ => .nil
  | r :: rows, v :: its, .cons h t => .cons h (rows_each t)
def ltLen (x y : Addr × List Int) : Bool := PySem.W.dataLe false (fun r : Addr × List Int => PySem.PyData.int (r.2.length : Int)) x y
/-- sorted(rows, key=lambda row: len(row)), P the table of the maker's code -/
def tSortLen (K : PySem.W.Frag) (P : Addr) (ta : TA) : TE := fun σ H Q => ta σ H fun vs H1 => ∃ (a : Addr) (rows : List (Addr × List Int)), vs = [.ref a] ∧ SqL K H1 a (rows.map fun r => V.ref r.1) ∧ (∀ r ∈ rows, H1 r.1 = some (.lst (r.2.map V.int))) ∧ NoT H1 ∧ H1 P = some (.tbl #[]) ∧
  ∀ (p : Addr) (G : Hp), p ≠ P → (∀ o, H1 p = some o → ∃ q, o = .tbl q) → NoT G → (∀ b o, H1 b = some o → (∀ q, o ≠ .tbl q) → G b = some o) → Q (.ref p) (upd G p (.lst ((rows.mergeSort ltLen).map fun r => V.ref r.1)))
def rSortLen (K : PySem.W.Frag) (P : Addr) (Q : VK) : List V → Hp → Prop := fun vs H1 => ∃ (a : Addr) (rows : List (Addr × List Int)), vs = [.ref a] ∧ SqL K H1 a (rows.map fun r => V.ref r.1) ∧ (∀ r ∈ rows, H1 r.1 = some (.lst (r.2.map V.int))) ∧ NoT H1 ∧ H1 P = some (.tbl #[]) ∧
  ∀ (p : Addr) (G : Hp), p ≠ P → (∀ o, H1 p = some o → ∃ q, o = .tbl q) → NoT G → (∀ b o, H1 b = some o → (∀ q, o ≠ .tbl q) → G b = some o) → Q (.ref p) (upd G p (.lst ((rows.mergeSort ltLen).map fun r => V.ref r.1)))
instance st_sortLen {K : PySem.W.Frag} {P : Addr} {ta : TA} {σ : St} {H : Hp} {Q : VK} : Stp (tSortLen K P ta σ H Q) (ta σ H (rSortLen K P Q)) := ⟨fun h => h⟩
theorem pe_sortLen {X : Cx} {k : Nat} {c P : Addr} {e : Expr} {ta : TA} {x : Str} {p p1 p2 p3 kp lpos pos : Pos} {params : Arguments} {scope : Scope} (ha : PA X [e] ta) (hr : Room k X.A) (hg : Gl X "sorted") (hm : X.mg "sorted" = none) (hv : bootBuiltins "sorted" = some (.builtin "sorted")) (hml : X.mg "len" = none)
    (TB : TabB X.base X.mg c P) (hcode : X.env.code = .ref c) (hdef : defaultsOf params X.env = ([], [])) (hfree : ∀ y ∈ scope.names, y.2 ≠ .free) (hclo : cloFrom X.env.cells scope.names [] = []) (hk : scope.kind = .function) (hco : scope.isCoroutine = false) (hgen : scope.isGenerator = false) (hcell : ∀ y ∈ scope.names, y.2 ≠ .cell)
    (hx : scope.names.lookup x = some .local) (hl : scope.names.lookup ("len" : Str) = some NameKind.globalImplicit) (hxd : (x == ("__debug__" : Str)) = false)
    (hbind : ∀ (q : Str) (r : Value) (pm cv ctv : Value), bindArgs (PySem.W.kla_fn "<lambda>" q params (.Call (.Name "len" p1) [.Name x p2] [] p3) scope [] pm cv ctv) ⟨[r], []⟩ = pure [(x, r)])
    (he : backTo pos (starEach [e] X.env) = (false, eval e X.env) :: backTo pos (starEach [] X.env) := by rfl) (hpl : (backTo pos (starEach [e] X.env)).any (·.1) = false := by rfl)
    (hall : (backToKw pos (keywordEach [⟨some "key", .Lambda params (.Call (.Name "len" p1) [.Name x p2] [] p3) scope lpos, kp⟩] X.env)).all (·.1.isSome) = true := by rfl) (hnone : (backToKw pos (keywordEach [⟨some "key", .Lambda params (.Call (.Name "len" p1) [.Name x p2] [] p3) scope lpos, kp⟩] X.env)).any (·.1.isNone) = false := by rfl)
    (hks : (backToKw pos (keywordEach [⟨some "key", .Lambda params (.Call (.Name "len" p1) [.Name x p2] [] p3) scope lpos, kp⟩] X.env)).filterMap (·.1) = [("key" : Str)] := by rfl) :
    PE X (.Call (.Name "sorted" p) [e] [⟨some "key", .Lambda params (.Call (.Name "len" p1) [.Name x p2] [] p3) scope lpos, kp⟩] pos) (tSortLen X.K P ta) := by
  refine ⟨fun pins s σ H Q I h => ?_⟩
  refine wpAny_Call_Name_kw (ld_blt I hg hm hv ?_)
  refine PyProof.Rows.callWith_kw (thn (ha.run pos pins s σ H _ I h) fun us s1 ⟨vs, H1, I1, r1, q1⟩ => ?_) he hpl hall hnone
  obtain ⟨a, rows, rfl, hs, hrow, nt, hP, q⟩ := q1
  obtain rfl := Vals.ref1 r1
  refine PyProof.Rows.kwAll_cons ?_
  refine lam_make2 (T := [(P, X.env.qual ++ "<lambda>")]) I1 TB hcode (List.mem_singleton.mpr rfl) (fun p hp _ => by rw [List.mem_singleton.mp hp]) (fun p hp => by rw [List.mem_singleton.mp hp]; exact TabS.nil hP) hdef (fun y hy e => absurd e (hfree y hy)) fun f c' pm ctv H2 s2 I2 eN T2 hf hfn hfr hcO => ?_
  refine PyProof.Rows.kwAll_nil ?_
  rw [hks]
  obtain ⟨ps2, hP2, _, _⟩ := T2 (P, X.env.qual ++ "<lambda>") (List.mem_singleton.mpr rfl)
  have I3 := Inv.forgetT I1 I2 (fun b o h g => eN b o h g) nt
  have nt3 : NoT (dropT X.H_0 H1 H2) := dropT_nt nt fun b q h => by
    obtain ⟨m, g⟩ := I2.base.tbls b q h
    exact ⟨_, g⟩
  have off : ∀ {b : Addr} {o : HO}, H1 b = some o → (∀ q, o ≠ .tbl q) → dropT X.H_0 H1 H2 b = some o := dropT_some
  obtain ⟨⟨oc, cs, ct, hoc, hdc, hvc⟩, _, _⟩ := I2.hok c' _ hcO
  have hpP : s2.heap.objs.size + 1 ≠ P := fun z => by
    have y : H2 (s2.heap.objs.size + 1) = none := I2.hok.fresh (Nat.le_succ _)
    rw [z, hP2] at y
    cases y
  clear I2 eN T2 hcO hP2
  have hs3 : SqL X.K (dropT X.H_0 H1 H2) a (rows.map fun r => V.ref r.1) := hs.imp (fun h => h.imp (fun h => off h fun q z => by cases z) fun ⟨o, h⟩ => ⟨o, off h fun q z => by cases z⟩) id
  obtain ⟨its, rv, hl3, hz3⟩ := I3.list hs3
  obtain ⟨mb, hb1, hb2⟩ := I3.mod.blt
  have hfr3 : dropT X.H_0 H1 H2 (s2.heap.objs.size + 1) = none := I3.hok.fresh (Nat.le_succ _)
  rw [hclo] at hf
  have hall2 : PySem.W.AllAlike (rows.map fun r => PySem.PyData.int (r.2.length : Int)) := fun d hd d' hd' => by
    obtain ⟨r, _, rfl⟩ := List.mem_map.mp hd
    obtain ⟨r', _, rfl⟩ := List.mem_map.mp hd'
    rfl
  have hsort : PySem.W.Sortable (rows.map fun r => PySem.PyData.int (r.2.length : Int)) := .inr fun d hd => by
    obtain ⟨r, _, rfl⟩ := List.mem_map.mp hd
    exact ⟨fun z => (by cases z), fun xs z => (by cases z)⟩
  have hlen := rv.length
  rw [List.length_map] at hlen hz3
  refine PySem.W.sorted_key_data (β := Addr × List Int) (bs := rows) (vs := its) (R := fun v r => v = .ref r.1) (b := false) (fun r => PySem.PyData.int (r.2.length : Int)) hl3.isList (each_rows rv) hall2 hsort hz3 (fun r _ => ?_) (PyProof.Rows.ksk_s1 _ _) (fun _ => PyProof.Rows.ksk_l1 _ _) (fun _ => PyProof.Rows.ksk_t1 _ _) (fun v r hv hr' h tk kp => ?_) fun out cc h' tk kp _ hat hlo hE => ?_
  · have := hr.un
    show X.A.units + 2 + 0 < cLine
    omega
  · subst hv
    obtain ⟨its2, rv2, hl2, hz2⟩ := I3.list (SqL.of (off (hrow r hr') fun q z => by cases z))
    have e2 : its2.toArray.size = r.2.length := by
      rw [List.size_toArray, ← rv2.length, List.length_map]
    obtain ⟨o, ho, hc, n, hd⟩ := hl2.isList
    have key := keylen_turn (P := X.prog) (w := X.w) (A := X.A.in1.in1) (s := { s2 with heap := h, toks := tk }) (items := its2.toArray) (r := r.1) (show X.A.depth < recursionLimit by have := hr.dp; omega) (kp _ _ hf) ⟨c', oc, cs, ct, rfl, kp _ _ hoc, hdc, hvc⟩ ((I3.mod.glob.keeps I3.bk).keeps kp) hml ((hb1.keeps I3.bk).keeps kp) ((hb2 "len" (by decide)).trans rfl) (I3.nolimit.keeps kp) ⟨o, kp _ _ ho, hc, n, hd⟩ (by rw [e2]; rw [List.length_map] at hz2; exact hz2) hk hco hgen hcell hx hl hxd (hbind _ _ _ _ _)
    rw [e2] at key
    exact key
  · have hm2 : ((rows.mergeSort ltLen).map fun r => V.ref r.1).length ≤ sizeLine := by
      rw [List.length_map, List.length_mergeSort]
      exact hz3
    refine ⟨.ref _, upd (dropT X.H_0 H1 H2) (s2.heap.objs.size + 1) (.lst ((rows.mergeSort ltLen).map fun r => V.ref r.1)), I3.laid (t' := tk) kp (Nat.le_succ _) ⟨hm2, out, cc, rows_each hE, hat⟩, rfl, q _ _ hpP (fun o z => ?_) nt3 fun b o h g => off h g⟩
    by_cases t : ∃ q, o = .tbl q
    · exact t
    · rw [off z fun q' y => t ⟨q', y⟩] at hfr3
      cases hfr3
/-! ### a def run with its table alone in sight -/
/-- nothing in sight but one empty table and perhaps one more thing -/
def onlyH (T : Addr) (sc : Option (Addr × HO)) : Hp := fun b => if b = T then some (.tbl #[]) else match sc with
  | some (a, u) => if b = a then some u else none
  | none => none
/-- what came to be, beside what was in sight -/
def mergeH (T : Addr) (H H' : Hp) : Hp := fun b => if b = T then H' b else match H b with
  | some o => some o
  | none => H' b
theorem onlyH_T {T : Addr} {sc : Option (Addr × HO)} : onlyH T sc T = some (.tbl #[]) := if_pos rfl
theorem mergeH_T {T : Addr} {H H' : Hp} : mergeH T H H' T = H' T := if_pos rfl
theorem mergeH_some {T b : Addr} {H H' : Hp} {o : HO} (n : b ≠ T) (h : H b = some o) : mergeH T H H' b = some o := by
  unfold mergeH
  rw [if_neg n, h]
theorem mergeH_none {T b : Addr} {H H' : Hp} (n : b ≠ T) (h : H b = none) : mergeH T H H' b = H' b := by
  unfold mergeH
  rw [if_neg n, h]
theorem run_alone {P : Program} {w : World} {K : PySem.W.Frag} {mg : Str → Option Value} {base : Heap} {k : Nat} {f T : Addr} {fd : FuncData} {ps : List Str} {sp : Sp} (F : FnOk P w K mg base (L2.CX P w) k f fd ps sp)
    {A : Around} {outer : List Env} {s : Shared} {H : Hp} {args : Args} {us : List Value} {vs : List V} {Q : VK} {E : XK} (hr : Room k A) (e0 : Env0 P w K mg base A outer s H) (hb : BindsTo s fd args (ps.zip us)) (hv : Vals vs us) (hT : H T = some (.tbl #[]))
    (sc : Option (Addr × HO)) (hsc : ∀ a u, sc = some (a, u) → a ≠ T ∧ H a ≠ none ∧ (∃ o u', u = .frz o u') ∧ ObjOk P w (onlyH T sc) s.heap a u) (hs : sp vs (onlyH T sc) (fun v H' => (∀ b o, H' b = some o → b ≠ T → (∀ ob u', o ≠ .frz ob u') → H b = none) → Q v (mergeH T H H')) (fun _ _ _ => False)) :
    codeAny (model P w) A (.call (.ref f) args) (CR (L2.CX P w) outer P w H s Q E) s := by
  have ways : ∀ b, b = T ∨ onlyH T sc b = none ∨ ∃ o u', onlyH T sc b = some (.frz o u') ∧ b ≠ T ∧ H b ≠ none := fun b => by
    by_cases z : b = T
    · exact .inl z
    · refine .inr ?_
      unfold onlyH
      rw [if_neg z]
      cases sc with
      | none => exact .inl rfl
      | some q =>
        obtain ⟨a, u⟩ := q
        by_cases y : b = a
        · obtain ⟨_, h2, ⟨o, u', e⟩, _⟩ := hsc a u rfl
          refine .inr ⟨o, u', ?_, z, by rw [y]; exact h2⟩
          show (if b = a then some u else none) = _
          rw [if_pos y, e]
        · refine .inl ?_
          show (if b = a then some u else none) = none
          rw [if_neg y]
  have none_of : ∀ {b}, H b = none → onlyH T sc b = none := fun {b} h => by
    rcases ways b with z | z | ⟨_, _, _, _, z⟩
    · rw [z, hT] at h
      cases h
    · exact z
    · exact absurd h z
  have off : ∀ {b : Addr} {o : HO}, H b = some o → (∀ q, o ≠ .tbl q) → b ≠ T := fun {b o} h g z => by
    rw [z, hT] at h
    exact g _ (Option.some.inj h).symm
  have hok1 : HOk P w (onlyH T sc) s.heap := fun b o h => by
    by_cases z : b = T
    · rw [z, onlyH_T] at h
      cases h
      rw [z]
      exact e0.hok T _ hT
    · have h' := h
      unfold onlyH at h'
      rw [if_neg z] at h'
      cases sc with
      | none => cases h'
      | some q =>
        obtain ⟨a, u⟩ := q
        have h2 : (if b = a then some u else none) = some o := h'
        by_cases y : b = a
        · rw [if_pos y] at h2
          have e := Option.some.inj h2
          rw [← e, y]
          exact (hsc a u rfl).2.2.2
        · rw [if_neg y] at h2
          cases h2
  have e1 : Env0 P w K mg base A outer s (onlyH T sc) := ⟨e0.frames, e0.mod, fun b o h => ⟨(e0.bs b o h).1, none_of (e0.bs b o h).2⟩, e0.bsz, e0.funs, fun b h => none_of (e0.frf b h), hok1, e0.bare⟩
  refine codeAny_mono (F.run A outer s _ args us vs _ _ hr e1 hb hv hs) fun r s' q => ?_
  cases r with
  | error e =>
    obtain ⟨_, _, _, _, _, _, _, _, _, _, _, _, z⟩ := q
    exact z.elim
  | ok fl =>
    cases fl with
    | next => exact q
    | brk => exact q
    | cont => exact q
    | ret u =>
      obtain ⟨v, H', os, bare, un, hok', rv, q⟩ := q
      obtain ⟨more, hT'⟩ := un.tbls T #[] onlyH_T
      have kept : ∀ b o, b ≠ T → H b ≠ none → s.heap.get? b = some o → s'.heap.get? b = some o := fun b o n hn g => by
        rcases ways b with z | z | ⟨ob, u', z, _, _⟩
        · exact absurd z n
        · exact un.keep b o g z (fun m => hn (e0.frf b m)) (by simp)
        · have h1 := (hok1 b _ z).1
          have h2 := (hok' b _ (un.frzs b ob u' z)).1
          rw [g] at h1
          cases h1
          exact h2
      have fresh : ∀ {b : Addr} {o : HO}, H' b = some o → b ≠ T → (∀ ob u', o ≠ .frz ob u') → H b = none := fun {b o} h n g => by
        cases hb : H b with
        | none => rfl
        | some o' =>
          obtain ⟨x, hx⟩ := objOk_get (e0.hok b o' hb)
          rcases ways b with z | z | ⟨ob, u', z, _, _⟩
          · exact absurd z n
          · rw [un.free b x hx z (by simp)] at h
            cases h
          · rw [un.frzs b ob u' z] at h
            exact absurd (Option.some.inj h).symm (g ob u')
      have notT : ∀ {b : Addr} {o : HO}, H' b = some o → (∀ q, o ≠ .tbl q) → b ≠ T := fun {b o} h g z => by
        rw [z, hT'] at h
        exact g _ (Option.some.inj h).symm
      refine ⟨v, mergeH T H H', os, bare, ⟨fun b o g n nf nx => un.keep b o g (none_of n) nf nx, fun b o g n nf nx => un.slot b o g (none_of n) nf nx, fun b o g n nx => ?_, un.there, fun b xs h => mergeH_some (off h fun q z => by cases z) h, fun b o u h => mergeH_some (off h fun q z => by cases z) h, fun b qs h => ?_⟩, fun b o h => ?_, rv, q fun b o h n g => fresh h n g⟩
      · rw [mergeH_none (fun z => by rw [z, hT] at n; cases n) n]
        exact un.free b o g (none_of n) nx
      · by_cases z : b = T
        · rw [z, hT] at h
          cases h
          rw [z, mergeH_T]
          exact ⟨more, hT'⟩
        · exact ⟨#[], by rw [mergeH_some z h]; simp⟩
      · by_cases z : b = T
        · rw [z, mergeH_T, hT'] at h
          cases h
          rw [z]
          exact hok' T _ hT'
        · cases hb : H b with
          | some o' =>
            rw [mergeH_some z hb] at h
            cases h
            refine (e0.hok b o hb).stay (fun d x hd g => ?_) (fun d hd => mergeH_some (off hd fun q z => by cases z) hd) fun d xs hd => mergeH_some (off hd fun q z => by cases z) hd
            rcases hd with hd | hd
            · rw [hd] at g ⊢
              exact kept b x z (by rw [hb]; intro y; cases y) g
            · exact kept d x (off hd fun q z => by cases z) (by rw [hd]; intro y; cases y) g
          | none =>
            rw [mergeH_none z hb] at h
            refine (hok' b o h).stay (fun d x _ g => g) (fun d hd => ?_) fun d xs hd => ?_
            · have n := notT hd fun q y => by cases y
              rw [mergeH_none n (fresh hd n fun _ _ y => by cases y)]
              exact hd
            · have n := notT hd fun q y => by cases y
              rw [mergeH_none n (fresh hd n fun _ _ y => by cases y)]
              exact hd
theorem fn_alone {P : Program} {w : World} {K : PySem.W.Frag} {mg : Str → Option Value} {base : Heap} {k : Nat} {f T : Addr} {fd : FuncData} {ps : List Str} {sp : Sp} (F : FnOk P w K mg base (L2.CX P w) k f fd ps sp) :
    FnOk P w K mg base (L2.CX P w) k f fd ps (fun vs H Q _ => H T = some (.tbl #[]) ∧ sp vs (onlyH T none) (fun v H' => (∀ b o, H' b = some o → b ≠ T → (∀ ob u', o ≠ .frz ob u') → H b = none) → Q v (mergeH T H H')) (fun _ _ _ => False)) :=
  ⟨fun vs H Q E q => F.len _ _ _ _ q.2, fun A outer s H args us vs Q E hr e0 hb hv hs => run_alone F hr e0 hb hv hs.1 none (fun a u z => by cases z) hs.2⟩
theorem Def.alone {P : Program} {w : World} {K : PySem.W.Frag} {mg : Str → Option Value} {base : Heap} {k : Nat} {T : Addr} {x : Str} {ps : List Str} {sp : Sp} (D : Def P w K mg base k x ps sp) :
    Def P w K mg base k x ps (fun vs H Q _ => H T = some (.tbl #[]) ∧ sp vs (onlyH T none) (fun v H' => (∀ b o, H' b = some o → b ≠ T → (∀ ob u', o ≠ .frz ob u') → H b = none) → Q v (mergeH T H H')) (fun _ _ _ => False)) := by
  obtain ⟨f, fd, F, g, kp, b⟩ := D.ex
  exact ⟨f, fd, fn_alone F, g, kp, b⟩
/-- the def of the name x has the code object c -/
def CodeIs (K : PySem.W.Frag) (mg : Str → Option Value) (x : Str) (c : Addr) : Prop := ∀ f fd oc od osl, mg x = some (.ref f) → K.lookup f = some ⟨oc, od, .func fd, osl⟩ → fd.code = .ref c
/-- a def whose text makes a lambda -/
theorem DefAt.okT {P : Program} {w : World} {K : PySem.W.Frag} {mg : Str → Option Value} {base : Heap} {x : Str} {st : Stmt} {N ps : List Str} {k : Nat} {sp : Sp} {c : Addr} (D : DefAt K mg x st ps) (S : FnScope N ps (defScope st)) (hc : CodeIs K mg x c) (len : ∀ vs H Q E, sp vs H Q E → vs.length = ps.length)
    (body : ∀ (f : Addr) (cdv : Value) (_ : cdv = .ref c) (A : Around) (outer : List Env) (s : Shared) (H : Hp) (vs : List V) (Q : VK) (E : XK), Room k (A.deeper (envOfC x (defScope st) s.heap.objs.size f cdv)) → sp vs H Q E →
      ∃ t, PSs (cxOf (L2.CX P w) P w K mg base N x (defScope st) f cdv A outer s H E) (defBody st) t ∧ t ⟨fun _ H' => Q .non H', Q, fun _ _ => False, fun _ _ => False⟩ (start N vs) H) : Def P w K mg base (k + 1) x ps sp := by
  obtain ⟨f, fd, F, g, b⟩ := D.ex
  have kp := F.kp
  obtain ⟨c0, d0, v1, v2, v3, v4, cdv, v5, sl, rfl, lk, hcd⟩ := F.ex
  have hcc : cdv = .ref c := hc f _ _ _ _ g lk
  exact ⟨f, _, fn_of lk hcd S len fun A outer s H vs Q E r h => body f cdv hcc A outer s H vs Q E r h, g, kp, b⟩
/-- what the law asks of its heap when a def below it makes a lambda -/
def spLawT (T : Addr) (K : PySem.W.Frag) : Sp := fun vs H Q _ => ∃ (a : Addr) (ns : List Int), vs = [.ref a] ∧ SqL K H a (ns.map V.int) ∧ ns.length ≤ 63 ∧ NoT H ∧ H T = some (.tbl #[]) ∧ ∀ H', Q (.bl true) H'
theorem no_tab {T : Addr} (sc : Option (Addr × HO)) (h : ∀ a u, sc = some (a, u) → noT u = true) : NoT (onlyH T sc) := fun b o e => by
  unfold onlyH at e
  split at e
  · cases e
    rfl
  · split at e
    · rename_i a u
      split at e
      · cases e
        exact h _ _ rfl
      · cases e
    · cases e
theorem fn_lawT {P : Program} {w : World} {K : PySem.W.Frag} {mg : Str → Option Value} {base : Heap} {k : Nat} {f T : Addr} {fd : FuncData} {ps : List Str} (F : FnOk P w K mg base (L2.CX P w) k f fd ps (spLawT T K)) :
    FnOk P w K mg base (L2.CX P w) k f fd ps (fun vs H Q _ => ∃ (a : Addr) (ns : List Int), vs = [.ref a] ∧ SqL K H a (ns.map V.int) ∧ ns.length ≤ 63 ∧ H T = some (.tbl #[]) ∧ ∀ H', Q (.bl true) H') := by
  refine ⟨fun vs H Q E ⟨a, ns, e, _, hl, _⟩ => ?_, fun A outer s H args us vs Q E hr e0 hb hv ⟨a, ns, e, hs, hl, hT, q⟩ => ?_⟩
  · have z : ([V.ref (T + 1)] : List V).length = ps.length := F.len [V.ref (T + 1)] (onlyH T (some (T + 1, .lst []))) (fun _ _ => True) (fun _ _ _ => False) ⟨T + 1, [], rfl, .inl (.inl ?_), by simp, no_tab _ fun _ _ z => (by cases z; rfl), onlyH_T, fun _ => trivial⟩
    · rw [e]
      exact z
    · show onlyH T (some (T + 1, .lst [])) (T + 1) = some (.lst [])
      unfold onlyH
      rw [if_neg (Nat.succ_ne_self T)]
      exact if_pos rfl
  · rcases hs with hs | hs
    · obtain ⟨ob, hob⟩ : ∃ ob, ObjOk P w (onlyH T none) s.heap a (.frz ob (.lst (ns.map V.int))) := by
        rcases hs with h | ⟨ob, h⟩
        · obtain ⟨z, its, n, r, g⟩ := e0.hok a _ h
          exact ⟨_, g, z, its, n, r, g⟩
        · exact ⟨ob, (e0.hok a _ h).1, (e0.hok a _ h).2⟩
      have hn : H a ≠ none := by
        rcases hs with h | ⟨ob, h⟩ <;> rw [h] <;> intro y <;> cases y
      have nT : a ≠ T := fun z => by
        rcases hs with h | ⟨ob, h⟩ <;> rw [z, hT] at h <;> cases h
      have at_ : onlyH T (some (a, .frz ob (.lst (ns.map V.int)))) a = some (.frz ob (.lst (ns.map V.int))) := by
        unfold onlyH
        rw [if_neg nT]
        exact if_pos rfl
      exact run_alone F hr e0 hb hv hT (some (a, .frz ob (.lst (ns.map V.int)))) (fun a' u z => by
        cases z
        exact ⟨nT, hn, ⟨_, _, rfl⟩, hob.1, hob.2⟩) ⟨a, ns, e, .inl (.inr ⟨ob, at_⟩), hl, no_tab _ fun _ _ z => (by cases z; rfl), onlyH_T, fun H' _ => q _⟩
    · exact run_alone F hr e0 hb hv hT none (fun _ _ z => by cases z) ⟨a, ns, e, .inr hs, hl, no_tab _ fun _ _ z => (by cases z), onlyH_T, fun H' _ => q _⟩
end L2
namespace My
open PySem PySem.Spec PyProof.Rows L2
/-! one step of a reading, by its head -/
local macro_rules | `(tactic| wtm_at "r") => `(tactic| first
  | (with_reducible refine rd_var rfl ?_)
  | (with_reducible refine Stp.mp ?_)
  | (with_reducible first
    | refine rd_I ?_ ?_
    | refine rd_augC rfl ?_
    | refine rd_augG rfl ?_
    | refine rd_r1 ?_ ?_ ?_
    | refine rd_r2 ?_ ?_
    | refine rd_pure ?_ ?_
    | refine rd_pureT ?_ ?_
    | refine rd_back (by assumption) ?_
    | fail)
  | fail)
/-! branch -/
local macro_rules | `(tactic| wtm_at "i") => `(tactic| (with_reducible first
  | refine rd_ite (fun _ => ?_) (fun _ => ?_)
  | refine rd_iteN (fun _ => ?_) (fun _ => ?_)
  | refine rd_iteb (fun _ => ?_) (fun _ => ?_)))
/-! the view of the heap (PreS): membership -/
local macro_rules | `(tactic| wtm_at "mem") => `(tactic| first
  | (with_reducible exact List.mem_cons_self)
  | ((with_reducible refine List.mem_cons_of_mem _ ?_); wtm_at "mem")
  | fail)
local macro_rules | `(tactic| wtm_at "vsub") => `(tactic| first
  | (with_reducible exact sub_nil)
  | ((with_reducible refine sub_cons ?h1 ?h2); (case h1 => wtm_at "mem"); (case h2 => wtm_at "vsub"))
  | fail)
/-! where something stands in the heap; two places differ -/
local macro_rules | `(tactic| wtm_at "ne") => `(tactic| with_reducible first
  | assumption
  | exact Ne.symm (by assumption)
  | exact ne_of_none (by assumption) (by assumption)
  | exact Ne.symm (ne_of_none (by assumption) (by assumption))
  | fail)
local macro_rules | `(tactic| wtm_at "h") => `(tactic| first
  | with_reducible assumption
  | with_reducible exact upd_same
  | ((with_reducible rw [upd_upd]); wtm_at "h")
  | ((with_reducible refine upd_at ?h1 ?h2); (case h1 => wtm_at "h"); (case h2 => intro hh; first | with_reducible exact ne_of_none hh (by assumption) | wtm_at "ne" | fail))
  | (with_reducible exact Hv.mAt (by assumption) (by wtm_at "mem"))
  | (with_reducible exact Hv.lAt (by assumption) (by wtm_at "mem"))
  | (with_reducible exact Hv.oAt (by assumption) (by assumption))
  | (with_reducible exact Hv.oAtX (by assumption) (by assumption) (by wtm_at "ne"))
  | fail)
/-! what was tracked stands -/
local macro_rules | `(tactic| wtm_at "sm") => `(tactic| first
  | with_reducible assumption
  | (with_reducible exact Same.refl _)
  | ((with_reducible refine same_upd3 ?_ (by with_reducible assumption)); wtm_at "sm")
  | ((with_reducible refine same_upd2 ?_ (by with_reducible assumption)); wtm_at "sm")
  | (refine same_upd2 ?_ (by first | with_reducible assumption | (refine Same.free ?_ (by with_reducible assumption); wtm_at "sm") | fail); wtm_at "sm")
  | (refine Same.trans ?_ (by with_reducible assumption); wtm_at "sm")
  | (refine Same.trans (by with_reducible assumption) ?_; wtm_at "sm")
  | (with_reducible exact Hv.same (by assumption))
  | fail)
local macro_rules | `(tactic| wtm_at "q") => `(tactic| first
  | with_reducible assumption
  | ((with_reducible refine SqL.of ?h1); (case h1 => wtm_at "h"))
  | ((with_reducible refine SqT.of ?h1); (case h1 => wtm_at "h"))
  | ((with_reducible refine Same.seq ?_ (by assumption)); wtm_at "sm")
  | ((with_reducible refine Same.seqT ?_ (by assumption)); wtm_at "sm")
  | ((with_reducible refine Same.lst ?_ (by assumption)); wtm_at "sm")
  | assumption
  | fail)
/-! data, read off the heap -/
local macro_rules | `(tactic| wtm_at "dp") => `(tactic| first
  | with_reducible assumption
  | exact Dp.int _
  | exact Dp.bl _
  | exact Dp.str _
  | exact Dp.non
  | exact DpAll.nil
  | (with_reducible exact dpAll_ints _)
  | (with_reducible exact dpAll_bls _)
  | ((with_reducible refine DpAll.cons (d := ?d) (ds := ?ds) ?h1 ?h2); (case h1 => wtm_at "dp"); (case h2 => wtm_at "dp"))
  | ((with_reducible refine Dp.lst (xs := ?xs) (ds := ?ds) ?h1 ?h2); (case h1 => wtm_at "q"); (case h2 => wtm_at "dp"))
  | ((with_reducible refine Dp.tup (xs := ?xs) (ds := ?ds) ?h1 ?h2); (case h1 => wtm_at "q"); (case h2 => wtm_at "dp"))
  | ((with_reducible refine Dp.same ?_ (by assumption)); wtm_at "sm")
  | fail)
/-! no dict with tuple keys -/
local macro_rules | `(tactic| wtm_at "nt") => `(tactic| first
  | with_reducible assumption
  | ((with_reducible refine NoT.upd ?_ rfl); wtm_at "nt")
  | (with_reducible exact Hv.nt (by assumption))
  | fail)
/-! what is asked on the side -/
local macro_rules | `(tactic| wtm_at "s") => `(tactic| first
  | ((with_reducible show NoT _); wtm_at "nt")
  | ((with_reducible show (_ : Int) < _); omega)
  | ((with_reducible show CMulB _ _); assumption)
  | ((with_reducible show CMulB _ _); exact Or.inl (Or.inl ⟨by omega, by omega⟩))
  | ((with_reducible show CMulB _ _); exact Or.inl (Or.inr ⟨by omega, by omega⟩))
  | ((with_reducible show CMulB _ _); exact CMulB.wide ⟨by omega, by omega⟩ ⟨by omega, by omega⟩)
  | ((with_reducible show CDivB _ _); first | exact .inl ⟨by omega, by omega⟩ | exact .inr ⟨by omega, (show Bd 9000 _ by wtm_at "bd").h⟩)
  | ((with_reducible refine rd_powN ?h1 ?h2 ?h3 ?_); (case h1 => rfl); (case h2 => decide); (case h3 => first | decide | omega))
  | ((with_reducible refine rd_setL (xs := ?xs) (j := ?j) ?h1 ?h2 ?_); (case h1 => wtm_at "h"); (case h2 => rfl))
  | ((with_reducible refine rd_ixL (xs := ?xs) (v := ?v) ?h1 ?h2 ?_); (case h1 => wtm_at "q"); (case h2 => rfl))
  | ((with_reducible refine rd_ixT (xs := ?xs) (v := ?v) ?h1 ?h2 ?_); (case h1 => wtm_at "q"); (case h2 => rfl))
  | ((with_reducible show -2 ^ 62 ≤ (_ : Int)); omega)
  | ((with_reducible show (_ : Int) ≤ _); omega)
  | ((with_reducible show (_ : Int) ≤ _ ∧ _); exact ⟨by omega, by omega, by omega, by omega⟩)
  | ((with_reducible refine rd_iL1 (xs := ?xs) ?h1 ?_); (case h1 => wtm_at "q"))
  | ((with_reducible refine rd_iT1 (xs := ?xs) ?h1 ?_); (case h1 => wtm_at "q"))
  | ((with_reducible refine rd_eqD (d := ?d) (e := ?e) ?h1 ?h2 ?h3 ?h4 ?_); (case h1 => wtm_at "dp"); (case h2 => wtm_at "dp"); (case h3 => rfl); (case h4 => rfl))
  | ((with_reducible refine rd_neD (d := ?d) (e := ?e) ?h1 ?h2 ?h3 ?h4 ?_); (case h1 => wtm_at "dp"); (case h2 => wtm_at "dp"); (case h3 => rfl); (case h4 => rfl))
  | ((with_reducible refine rd_xfb (fs := ?fs) (v := ?v) ?h1 ?h2 ?_); (case h1 => wtm_at "h"); (case h2 => rfl))
  | ((with_reducible refine rd_append (xs := ?xs) ?h1 ?h2 ?_); (case h1 => wtm_at "h"); (case h2 => first | assumption | exact Nat.le_of_ble_eq_true rfl | (refine Nat.lt_of_le_of_lt (m := 1000000) ?_ (by decide); omega)))
  | ((with_reducible refine rd_lenL (ys := ?ys) ?h1 ?_); (case h1 => wtm_at "q"))
  | ((with_reducible refine rd_lenT (ys := ?ys) ?h1 ?_); (case h1 => wtm_at "q"))
  | ((with_reducible refine rd_new ?h1 ?_); (case h1 => exact Nat.le_of_ble_eq_true rfl); intro p hp)
  | ((with_reducible refine rd_tyL (xs := ?xs) ?h1 ?_); (case h1 => wtm_at "h"))
  | ((with_reducible refine rd_gtup (xs := ?xs) ?h1 ?h2 ?_); (case h1 => wtm_at "q"); (case h2 => rfl))
  | ((with_reducible refine rd_unl (xs := ?xs) ?h1 ?h2 ?_); (case h1 => wtm_at "q"); (case h2 => rfl))
  | ((with_reducible refine rd_slL (xs := ?xs) ?h1 ?_); (case h1 => wtm_at "q"); intro p hp)
  | ((with_reducible refine rd_cat (xs := ?xs) (zs := ?zs) ?h1 ?h2 ?h3 ?_); (case h1 => wtm_at "h"); (case h2 => wtm_at "h"); (case h3 => first | assumption | exact Nat.le_of_ble_eq_true rfl); intro p hp)
  | ((with_reducible refine rd_isiL (xs := ?xs) ?h1 ?_); (case h1 => wtm_at "h"))
  | ((with_reducible refine rd_isiT (xs := ?xs) ?h1 ?_); (case h1 => wtm_at "h"))
  | ((with_reducible refine rd_mk1 ?h1 ?h2 ?_); (case h1 => rfl); (case h2 => decide)))
local macro_rules | `(tactic| wtm_at "s") => `(tactic| first
  | ((with_reducible refine rd_neF ?h1 ?_); (case h1 => first | with_reducible rfl | assumption | fail))
  | ((with_reducible refine rd_eqT ?h1 ?_); (case h1 => first | with_reducible rfl | assumption | fail))
  | ((with_reducible refine rd_neT ?h1 ?_); (case h1 => first | assumption | exact non_int | exact non_ref | exact Bool.false_ne_true | exact Bool.false_ne_true.symm | fail))
  | ((with_reducible refine rd_eqF ?h1 ?_); (case h1 => first | assumption | exact non_int | exact non_ref | exact Bool.false_ne_true | exact Bool.false_ne_true.symm | fail))
  | fail)
local macro_rules | `(tactic| wtm_at "bd") => `(tactic| first
  | with_reducible assumption
  | exact Bd.mono (by with_reducible assumption) (by decide)
  | exact Bd.lit (by decide) (by decide)
  | ((with_reducible refine Bd.mulN ?_ ?_) <;> wtm_at "bd")
  | ((with_reducible refine Bd.addN ?h1 ?h2 ?h3); (case h1 => wtm_at "bd"); (case h2 => wtm_at "bd"); (case h3 => decide))
  | ((with_reducible refine Bd.subN ?h1 ?h2 ?h3); (case h1 => wtm_at "bd"); (case h2 => wtm_at "bd"); (case h3 => decide))
  | ((with_reducible refine Bd.neg ?h1); (case h1 => wtm_at "bd"))
  | fail)
local macro_rules | `(tactic| wtm_at "s") => `(tactic| first
  | ((with_reducible refine rd_fld1 (dx := ?dx) (fs := ?fs) (v := ?v) ?h1 ?h2 ?_); (case h1 => wtm_at "h"); (case h2 => rfl))
  | ((with_reducible refine rd_meth1 (dx := ?dx) (fs := ?fs) ?h1 ?h2 ?_); (case h1 => wtm_at "h"); (case h2 => rfl))
  | ((with_reducible refine rd_sfld1 (dx := ?dx) (fs := ?fs) ?h1 ?h2 ?_); (case h1 => wtm_at "h"); (case h2 => exact Nat.le_of_ble_eq_true rfl))
  | ((with_reducible refine rd_fmtI ?h1 ?_); (case h1 => exact Nat.lt_trans (txI_len (n := 1000) (by wtm_at "bd") (Nat.le_refl _)).2 (by decide)))
  | ((with_reducible refine rd_strI ?h1 ?_); (case h1 => exact Nat.lt_trans (txI_len (n := 1000) (by wtm_at "bd") (Nat.le_refl _)).2 (by decide)))
  | ((with_reducible refine rd_eqInts (ns := ?ns) (ms := ?ms) ?h1 ?h2 ?_); (case h1 => wtm_at "q"); (case h2 => wtm_at "q"))
  | ((with_reducible refine rd_neInts (ns := ?ns) (ms := ?ms) ?h1 ?h2 ?_); (case h1 => wtm_at "q"); (case h2 => wtm_at "q"))
  | ((with_reducible refine rd_listOfL (ys := ?ys) ?h1 ?_); (case h1 => wtm_at "q"); intro l hl)
  | ((with_reducible refine rd_revV (xs := ?xs) ?h1 ?_); (case h1 => wtm_at "q"); intro p hp)
  | ((with_reducible refine rd_iRev1 (xs := ?xs) ?h1 ?_); (case h1 => wtm_at "q"))
  | ((with_reducible refine rd_callO2 (dx := ?dx) (fs := ?fs) ?h1 ?_); (case h1 => wtm_at "h"))
  | ((with_reducible show CMulB _ _); refine CMulB.bd ?_ ?_ <;> wtm_at "bd")
  | fail)
local macro_rules | `(tactic| wtm_at "s") => `(tactic| first
  | ((with_reducible refine rd_dinF (ks := ?ks) ?h1 ?_); (case h1 => wtm_at "h"))
  | ((with_reducible refine rd_dnotinF (ks := ?ks) ?h1 ?_); (case h1 => wtm_at "h"))
  | ((with_reducible refine rd_listF (ks := ?ks) ?h1 ?_); (case h1 => wtm_at "h"); intro l hl)
  | ((with_reducible refine rd_sortedI (ns := ?ns) ?h1 ?_); (case h1 => wtm_at "q"))
  | fail)
local macro_rules | `(tactic| wtm_at "tp") => `(tactic| first
  | ((with_reducible refine rd_tupL (ys := ?ys) ?h1 ?_); (case h1 => wtm_at "q"); intro l hl)
  | ((with_reducible refine rd_tupT (ys := ?ys) ?h1 ?_); (case h1 => wtm_at "q"))
  | fail)
/-! a test that omega answers -/
local macro_rules | `(tactic| wtm_at "o") => `(tactic| first
  | ((with_reducible refine rd_neF ?h1 ?_); (case h1 => omega))
  | ((with_reducible refine rd_eqT ?h1 ?_); (case h1 => omega))
  | ((with_reducible refine rd_neT ?h1 ?_); (case h1 => omega))
  | ((with_reducible refine rd_eqF ?h1 ?_); (case h1 => omega))
  | fail)
/-! steps while there is one way -/
local macro_rules | `(tactic| wtm_at "rs") => `(tactic| repeat' (first | wtm_at "r" | wtm_at "s" | fail))
/-! all ways -/
local macro_rules | `(tactic| wtm_at "ra") => `(tactic| repeat' (first | wtm_at "r" | wtm_at "s" | wtm_at "i" | fail))
local macro_rules | `(tactic| wtm_at "ro") => `(tactic| repeat' (first | wtm_at "r" | wtm_at "s" | wtm_at "o" | fail))
local macro_rules | `(tactic| wtm_at "rao") => `(tactic| repeat' (first | wtm_at "r" | wtm_at "s" | wtm_at "o" | wtm_at "i" | fail))
/-! ## mathematics -/
/-! part m_prime -/
namespace QR
def Pm (p : Int) : Prop := 2 ≤ p ∧ ∀ d : Int, 2 ≤ d → d < p → ¬ d ∣ p
theorem split_le {n d e : Int} (h2 : 2 ≤ d) (hdn : d < n) (he : n = d * e) : (d * d ≤ n ∨ e * e ≤ n) ∧ 2 ≤ e := by
  have e0 : 2 ≤ e := by
    rcases Int.lt_or_le e 2 with z | z
    · exfalso
      have : d * e ≤ d * 1 := Int.mul_le_mul_of_nonneg_left (by omega) (by omega)
      omega
    · exact z
  refine ⟨?_, e0⟩
  rcases Int.le_total d e with z | z
  · left
    have : d * d ≤ d * e := Int.mul_le_mul_of_nonneg_left z (by omega)
    omega
  · right
    have : e * e ≤ d * e := Int.mul_le_mul_of_nonneg_right z (by omega)
    omega
theorem pm_of_trial {n k : Int} (h2 : 2 ≤ n) (hk0 : 0 ≤ k) (hk : n < k * k) (h : ∀ d : Int, 2 ≤ d → d < k → ¬ d ∣ n) : Pm n := by
  refine ⟨h2, fun d hd hn hdv => ?_⟩
  obtain ⟨e, he⟩ := hdv
  have lt : ∀ x : Int, 0 ≤ x → x * x ≤ n → x < k := fun x hx hxx => by
    rcases Int.lt_or_le x k with z | z
    · exact z
    · exfalso
      have a : k * k ≤ x * k := Int.mul_le_mul_of_nonneg_right z hk0
      have b : x * k ≤ x * x := Int.mul_le_mul_of_nonneg_left z hx
      omega
  obtain ⟨a, b⟩ := split_le hd hn he
  rcases a with a | a
  · exact h d hd (lt d (by omega) a) ⟨e, he⟩
  · exact h e b (lt e (by omega) a) ⟨d, by rw [he, Int.mul_comm]⟩
theorem pm_of_odd_trial {n k : Int} (h3 : 3 ≤ n) (ho : n % 2 = 1) (hk0 : 0 ≤ k) (hk : n < k * k) (h : ∀ d : Int, 3 ≤ d → d % 2 = 1 → d < k → ¬ d ∣ n) : Pm n := by
  refine pm_of_trial (by omega) hk0 hk fun d hd hdk hdv => ?_
  have : d % 2 = 1 := by
    obtain ⟨e, he⟩ := hdv
    rcases Int.emod_two_eq d with z | z
    · exfalso
      rw [he, Int.mul_emod, z, Int.zero_mul] at ho
      simp at ho
    · exact z
  exact h d (by omega) this hdk hdv
theorem not_pm {n k : Int} (h2 : 2 ≤ k) (hk : k * k ≤ n) (hd : n % k = 0) : ¬ Pm n := fun hp => by
  have : k < k * k := by
    have : k * 2 ≤ k * k := Int.mul_le_mul_of_nonneg_left h2 (by omega)
    omega
  exact hp.2 k h2 (by omega) (Int.dvd_of_emod_eq_zero hd)
theorem no_dvd_step {n k : Int} (h : ∀ d : Int, 2 ≤ d → d < k → ¬ d ∣ n) (hd : n % k ≠ 0) : ∀ d : Int, 2 ≤ d → d < k + 1 → ¬ d ∣ n := fun d h2 hk z => by
  by_cases e : d = k
  · rw [e] at z
    exact hd (Int.emod_eq_zero_of_dvd z)
  · exact h d h2 (by omega) z
theorem no_dvd_step2 {n k : Int} (hk : k % 2 = 1) (h : ∀ d : Int, 3 ≤ d → d % 2 = 1 → d < k → ¬ d ∣ n) (hd : n % k ≠ 0) : ∀ d : Int, 3 ≤ d → d % 2 = 1 → d < k + 2 → ¬ d ∣ n := fun d h2 ho hk z => by
  by_cases e : d = k
  · rw [e] at z
    exact hd (Int.emod_eq_zero_of_dvd z)
  · exact h d h2 ho (by omega) z
theorem sq_bound {k n : Int} (h0 : 0 ≤ k) (hk : k * k ≤ n) (hn : n < 2 ^ 120) : k < 2 ^ 60 := by
  rcases Int.lt_or_le k (2 ^ 60) with z | z
  · exact z
  · exfalso
    have a : (2 : Int) ^ 60 * 2 ^ 60 ≤ k * 2 ^ 60 := Int.mul_le_mul_of_nonneg_right z (by decide)
    have b : k * 2 ^ 60 ≤ k * k := Int.mul_le_mul_of_nonneg_left z h0
    have c : (2 : Int) ^ 60 * 2 ^ 60 = 2 ^ 120 := by decide
    omega
theorem le_sq {k : Int} (h : 1 ≤ k) : k ≤ k * k := by
  have : k * 1 ≤ k * k := Int.mul_le_mul_of_nonneg_left h (by omega)
  omega
/-- an odd prime -/
def OP (n : Int) : Prop := Pm n ∧ n % 2 = 1
theorem OP.three {n : Int} (h : OP n) : 3 ≤ n := by
  have := h.1.1
  have := h.2
  omega
theorem pm_two : Pm 2 := ⟨by omega, fun d h1 h2 => by omega⟩
theorem pm_odd {n : Int} (h : Pm n) (h3 : 3 ≤ n) : n % 2 = 1 := by
  rcases Int.emod_two_eq n with z | z
  · exact absurd (Int.dvd_of_emod_eq_zero z) (h.2 2 (by omega) (by omega))
  · exact z
/-- a prime, by looking at all divisors up to a side -/
theorem op_by {n : Nat} (k : Nat) (h3 : 3 ≤ n) (ho : n % 2 = 1) (hk : n < k * k) (h : (List.range k).all (fun d => d < 2 || n % d != 0) = true) : OP n := by
  refine ⟨pm_of_trial (k := k) (by omega) (by omega) (by exact_mod_cast hk) fun d h2 hd hv => ?_, by omega⟩
  have := List.all_eq_true.mp h d.toNat (List.mem_range.mpr (by omega))
  have hz : n % d.toNat = 0 := by
    have e := Int.emod_eq_zero_of_dvd hv
    rw [show d = ((d.toNat : Nat) : Int) by omega, ← Int.natCast_emod] at e
    exact_mod_cast e
  have h2' : ¬ d.toNat < 2 := by omega
  simp [hz, h2'] at this
open Classical in
noncomputable instance decPm (n : Int) : Decidable (Pm n) := Classical.propDecidable _
noncomputable instance decOP (n : Int) : Decidable (OP n) := instDecidableAnd
end QR
/-! part m_rows -/
/-- the list that a list of tuples holds -/
def RowsAt (H : Hp) : List Addr → List (List V) → Prop
  | [], [] => True
  | t :: ts, l :: ls => H t = some (.tup l) ∧ RowsAt H ts ls
  | _, _ => False
theorem RowsAt.mono {H H' : Hp} (s : Same H H') : ∀ {ts : List Addr} {ls : List (List V)}, RowsAt H ts ls → RowsAt H' ts ls
  | [], [], _ => trivial
  | _ :: _, _ :: _, h => ⟨s _ _ h.1, RowsAt.mono s h.2⟩
  | [], _ :: _, h => h.elim
  | _ :: _, [], h => h.elim
theorem RowsAt.len {H : Hp} : ∀ {ts : List Addr} {ls : List (List V)}, RowsAt H ts ls → ts.length = ls.length
  | [], [], _ => rfl
  | _ :: _, _ :: _, h => by rw [List.length_cons, List.length_cons, RowsAt.len h.2]
  | [], _ :: _, h => h.elim
  | _ :: _, [], h => h.elim
theorem RowsAt.snoc {H : Hp} {t : Addr} {l : List V} (ht : H t = some (.tup l)) : ∀ {ts : List Addr} {ls : List (List V)}, RowsAt H ts ls → RowsAt H (ts ++ [t]) (ls ++ [l])
  | [], [], _ => ⟨ht, trivial⟩
  | _ :: _, _ :: _, h => ⟨h.1, RowsAt.snoc ht h.2⟩
  | [], _ :: _, h => h.elim
  | _ :: _, [], h => h.elim
theorem RowsAt.other {H : Hp} {p : Addr} {xs : List V} {o : HO} (hp : H p = some (.lst xs)) : ∀ {ts : List Addr} {ls : List (List V)}, RowsAt H ts ls → RowsAt (upd H p o) ts ls
  | [], [], _ => trivial
  | t :: _, _ :: _, h => ⟨by
      rw [upd_ne (ne_of h.1 hp (by intro z; cases z))]
      exact h.1, RowsAt.other hp h.2⟩
  | [], _ :: _, h => h.elim
  | _ :: _, [], h => h.elim
theorem RowsAt.at {H : Hp} : ∀ {ts : List Addr} {ls : List (List V)} {i : Nat} {v : V}, RowsAt H ts ls → (ts.map V.ref)[i]? = some v → ∃ (t : Addr) (l : List V), v = .ref t ∧ H t = some (.tup l) ∧ ls[i]? = some l
  | t :: ts, l :: ls, 0, v, h, e => ⟨t, l, (Option.some.inj e).symm, h.1, rfl⟩
  | t :: ts, l :: ls, i + 1, v, h, e => RowsAt.at h.2 (i := i) e
  | [], _, _, _, _, e => by cases e
  | _ :: _, [], _, _, h, _ => h.elim
theorem RowsAt.rig {H : Hp} {ts : List Addr} {ls : List (List V)} (h : RowsAt H ts ls) : Rig (fun G => RowsAt G ts ls) H := fun G k => by
  induction ts generalizing ls with
  | nil => cases ls with
    | nil => trivial
    | cons l ls => exact h.elim
  | cons t ts ih => cases ls with
    | nil => exact h.elim
    | cons l ls => exact ⟨k _ _ rfl h.1, ih h.2⟩
/-! part m_factors -/
def prodF : List (Int × Nat) → Int
  | [] => 1
  | x :: l => x.1 ^ x.2 * prodF l
def rowF (x : Int × Nat) : List V := [.int x.1, .int x.2]
/-- the primes of a number with their exponents -/
structure FacOk (n : Int) (fs : List (Int × Nat)) : Prop where
  prod : prodF fs = n
  prime : ∀ x, x ∈ fs → QR.Pm x.1 ∧ 1 ≤ x.2
  asc : fs.Pairwise fun a b => a.1 < b.1
theorem prodF_snoc (x : Int × Nat) : ∀ fs : List (Int × Nat), prodF (fs ++ [x]) = prodF fs * x.1 ^ x.2
  | [] => by simp [prodF]
  | y :: l => by
    simp only [List.cons_append, prodF]
    rw [prodF_snoc x l, Int.mul_assoc]
theorem prodF_big : ∀ fs : List (Int × Nat), (∀ x, x ∈ fs → QR.Pm x.1 ∧ 1 ≤ x.2) → (2 : Int) ^ fs.length ≤ prodF fs
  | [], _ => by simp [prodF]
  | x :: l, h => by
    have hx := h x (List.mem_cons_self ..)
    have ih := prodF_big l fun y hy => h y (List.mem_cons_of_mem _ hy)
    have h2 := hx.1.1
    obtain ⟨e, he⟩ : ∃ e, x.2 = e + 1 := ⟨x.2 - 1, by omega⟩
    have p1 : (1 : Int) ≤ x.1 ^ e := Int.pow_pos (by omega)
    have p0 : (0 : Int) < 2 ^ l.length := Int.pow_pos (by decide)
    simp only [prodF, List.length_cons]
    rw [he, Int.pow_succ, Int.pow_succ, Int.mul_comm (2 ^ l.length) 2]
    have p2 : 2 ≤ x.1 ^ e * x.1 := by
      have : 1 * x.1 ≤ x.1 ^ e * x.1 := Int.mul_le_mul_of_nonneg_right p1 (by omega)
      omega
    have a1 : 2 * 2 ^ l.length ≤ (x.1 ^ e * x.1) * 2 ^ l.length := Int.mul_le_mul_of_nonneg_right p2 (by omega)
    have a2 : (x.1 ^ e * x.1) * 2 ^ l.length ≤ (x.1 ^ e * x.1) * prodF l := Int.mul_le_mul_of_nonneg_left ih (by omega)
    omega
/-- while the factors are found: fs so far, n left, d next -/
structure FacInv (n0 n d : Int) (fs : List (Int × Nat)) : Prop where
  pos : 1 ≤ n
  two : 2 ≤ d
  prod : prodF fs * n = n0
  prime : ∀ x, x ∈ fs → QR.Pm x.1 ∧ 1 ≤ x.2 ∧ x.1 < d
  asc : fs.Pairwise fun a b => a.1 < b.1
  none : ∀ e : Int, 2 ≤ e → e < d → ¬ e ∣ n
theorem FacInv.len {n0 n d : Int} {fs : List (Int × Nat)} (h : FacInv n0 n d fs) (hn : n0 < 2 ^ 100) : fs.length < 100 := by
  have a := prodF_big fs fun x hx => ⟨(h.prime x hx).1, (h.prime x hx).2.1⟩
  have p0 : (0 : Int) < 2 ^ fs.length := Int.pow_pos (by decide)
  have b : prodF fs * 1 ≤ prodF fs * n := Int.mul_le_mul_of_nonneg_left h.pos (by omega)
  rw [h.prod] at b
  rcases Nat.lt_or_ge fs.length 100 with z | z
  · exact z
  · exfalso
    have : (2 : Int) ^ 100 ≤ 2 ^ fs.length := by
      have := Nat.pow_le_pow_right (show 0 < 2 by decide) z
      exact_mod_cast this
    omega
theorem FacInv.start {n : Int} (h : 1 ≤ n) : FacInv n n 2 [] :=
  ⟨h, by omega, by simp [prodF], fun _ h => absurd h List.not_mem_nil, List.Pairwise.nil, fun e h1 h2 => by omega⟩
/-- one divisor: n = m * d ^ e with no d left in m -/
theorem FacInv.next0 {n0 n d : Int} {fs : List (Int × Nat)} (h : FacInv n0 n d fs) (hd : ¬ d ∣ n) : FacInv n0 n (d + 1) fs :=
  ⟨h.pos, by have := h.two; omega, h.prod, fun x hx => ⟨(h.prime x hx).1, (h.prime x hx).2.1, by have := (h.prime x hx).2.2; omega⟩, h.asc, fun e h1 h2 z => by
    by_cases he : e = d
    · rw [he] at z
      exact hd z
    · exact h.none e h1 (by omega) z⟩
theorem FacInv.next {n0 n d m : Int} {e : Nat} {fs : List (Int × Nat)} (h : FacInv n0 n d fs) (he : 0 < e) (hm : m * d ^ e = n) (hm0 : 1 ≤ m) (hd : ¬ d ∣ m) : FacInv n0 m (d + 1) (fs ++ [(d, e)]) := by
  have h2 := h.two
  have dn : d ∣ n := by
    obtain ⟨k, rfl⟩ : ∃ k, e = k + 1 := ⟨e - 1, by omega⟩
    exact ⟨m * d ^ k, by rw [← hm, Int.pow_succ]; grind⟩
  have mn : m ∣ n := ⟨d ^ e, hm.symm⟩
  refine ⟨hm0, by omega, ?_, ?_, ?_, ?_⟩
  · rw [prodF_snoc, ← h.prod, ← hm]
    grind
  · intro x hx
    rcases List.mem_append.mp hx with hx | hx
    · exact ⟨(h.prime x hx).1, (h.prime x hx).2.1, by have := (h.prime x hx).2.2; omega⟩
    · rw [List.mem_singleton.mp hx]
      refine ⟨⟨h2, fun c c1 c2 c3 => h.none c c1 c2 (Int.dvd_trans c3 dn)⟩, he, ?_⟩
      show d < d + 1
      omega
  · rw [List.pairwise_append]
    refine ⟨h.asc, List.pairwise_singleton .., fun a ha b hb => ?_⟩
    rw [List.mem_singleton.mp hb]
    exact (h.prime a ha).2.2
  · intro c c1 c2 c3
    by_cases hc : c = d
    · rw [hc] at c3
      exact hd c3
    · exact h.none c c1 (by omega) (Int.dvd_trans c3 mn)
theorem FacInv.done1 {n0 d : Int} {fs : List (Int × Nat)} (h : FacInv n0 1 d fs) : FacOk n0 fs :=
  ⟨by have := h.prod; omega, fun x hx => ⟨(h.prime x hx).1, (h.prime x hx).2.1⟩, h.asc⟩
theorem FacInv.done {n0 n d : Int} {fs : List (Int × Nat)} (h : FacInv n0 n d fs) (hn : 1 < n) (hd : n < d * d) : FacOk n0 (fs ++ [(n, 1)]) := by
  have hp : QR.Pm n := QR.pm_of_trial (by omega) (by have := h.two; omega) hd h.none
  refine ⟨by rw [prodF_snoc, Int.pow_one]; exact h.prod, ?_, ?_⟩
  · intro x hx
    rcases List.mem_append.mp hx with hx | hx
    · exact ⟨(h.prime x hx).1, (h.prime x hx).2.1⟩
    · rw [List.mem_singleton.mp hx]
      exact ⟨hp, Nat.le_refl 1⟩
  · rw [List.pairwise_append]
    refine ⟨h.asc, List.pairwise_singleton .., fun a ha b hb => ?_⟩
    rw [List.mem_singleton.mp hb]
    have := (h.prime a ha).2.2
    show a.1 < n
    rcases Int.lt_or_le n d with z | z
    · exact absurd (Int.dvd_refl n) (h.none n (by omega) z)
    · omega
/-! part m_signs -/
def factorOf (rule : Str) (n m : Int) : Int :=
  if rule = "two" ∧ (m % 8 = 3 ∨ m % 8 = 5) then -1
  else if rule = "minus" ∧ m % 4 = 3 then -1
  else if rule = "turn" ∧ n % 4 = 3 ∧ m % 4 = 3 then -1
  else 1
theorem factorOf_pm (rule : Str) (n m : Int) : factorOf rule n m = 1 ∨ factorOf rule n m = -1 := by
  unfold factorOf
  split
  · exact .inr rfl
  · split
    · exact .inr rfl
    · split
      · exact .inr rfl
      · exact .inl rfl
def facT (m : Nat) : Int := if m % 8 = 3 ∨ m % 8 = 5 then -1 else 1
def facR (n m : Nat) : Int := if n % 4 = 3 ∧ m % 4 = 3 then -1 else 1
theorem str_ne1 : ¬ (("turn" : Str) = "two") := by decide +kernel
theorem str_ne2 : ¬ (("turn" : Str) = "minus") := by decide +kernel
theorem str_ne3 : ¬ (("two" : Str) = "minus") := by decide +kernel
theorem str_ne4 : ¬ (("two" : Str) = "turn") := by decide +kernel
theorem factorOf_two (n m : Int) (hm : 0 < m) : factorOf "two" n m = facT m.toNat := by
  unfold factorOf facT
  have e : (m % 8 = 3 ∨ m % 8 = 5) ↔ (m.toNat % 8 = 3 ∨ m.toNat % 8 = 5) := by omega
  by_cases h : m % 8 = 3 ∨ m % 8 = 5
  · rw [if_pos ⟨rfl, h⟩, if_pos (e.mp h)]
  · rw [if_neg (fun z => h z.2), if_neg (fun z => str_ne3 z.1), if_neg (fun z => str_ne4 z.1), if_neg (fun z => h (e.mpr z))]
theorem factorOf_turn (n m : Int) (hn : 0 ≤ n) (hm : 0 < m) : factorOf "turn" n m = facR n.toNat m.toNat := by
  unfold factorOf facR
  have e : (n % 4 = 3 ∧ m % 4 = 3) ↔ (n.toNat % 4 = 3 ∧ m.toNat % 4 = 3) := by omega
  by_cases h : n % 4 = 3 ∧ m % 4 = 3
  · rw [if_neg (fun z => str_ne1 z.1), if_neg (fun z => str_ne2 z.1), if_pos ⟨rfl, h⟩, if_pos (e.mp h)]
  · rw [if_neg (fun z => str_ne1 z.1), if_neg (fun z => str_ne2 z.1), if_neg (fun z => h z.2), if_neg (fun z => h (e.mpr z))]
/-- the sign, by the program's own steps -/
def jac (n m : Nat) : Int :=
  if _h : n = 0 then (if m = 1 then 1 else 0)
  else if n % 2 = 0 then facT m * jac (n / 2) m
  else facR n m * jac (m % n) n
termination_by n
decreasing_by
  · omega
  · exact Nat.mod_lt _ (by omega)
theorem jac_zero (m : Nat) : jac 0 m = if m = 1 then 1 else 0 := by
  rw [jac]
  simp
theorem jac_two {n m : Nat} (h0 : n ≠ 0) (h : n % 2 = 0) : jac n m = facT m * jac (n / 2) m := by
  rw [jac, dif_neg h0, if_pos h]
theorem jac_turn {n m : Nat} (h : n % 2 = 1) : jac n m = facR n m * jac (m % n) n := by
  rw [jac, dif_neg (by omega), if_neg (by omega)]
def sgn (n m : Int) : Int := jac (n % m).toNat m.toNat
/-! part m_qr -/
namespace QR
def Pr : Nat → (Nat → Int) → Int
  | 0, _ => 1
  | n + 1, f => Pr n f * f n
theorem P_mul : ∀ (n : Nat) (f g : Nat → Int), Pr n (fun i => f i * g i) = Pr n f * Pr n g
  | 0, _, _ => rfl
  | n + 1, f, g => by
    simp only [Pr, P_mul n]
    grind
theorem P_congr : ∀ (n : Nat) {f g : Nat → Int}, (∀ i, i < n → f i = g i) → Pr n f = Pr n g
  | 0, _, _, _ => rfl
  | n + 1, f, g, h => by
    simp only [Pr]
    rw [P_congr n fun i hi => h i (by omega), h n (by omega)]
theorem P_one : ∀ n : Nat, Pr n (fun _ => 1) = 1
  | 0 => rfl
  | n + 1 => by
    simp only [Pr, P_one n]
    rfl
theorem P_neg : ∀ n : Nat, Pr n (fun _ => -1) = if n % 2 = 0 then 1 else -1
  | 0 => rfl
  | n + 1 => by
    simp only [Pr, P_neg n]
    split <;> split <;> omega
theorem P_swap (k : Nat) (f : Nat → Nat → Int) : ∀ h : Nat, Pr h (fun x => Pr k (fun y => f x y)) = Pr k (fun y => Pr h (fun x => f x y))
  | 0 => by simp only [Pr, P_one]
  | h + 1 => by
    simp only [Pr]
    rw [P_swap k f h, ← P_mul]
theorem P_zero : ∀ (n : Nat) (f : Nat → Int) (i : Nat), i < n → f i = 0 → Pr n f = 0
  | 0, _, _, h, _ => by omega
  | n + 1, f, i, h, e => by
    simp only [Pr]
    by_cases hi : i = n
    · rw [← hi, e, Int.mul_zero]
    · rw [P_zero n f i (by omega) e, Int.zero_mul]
theorem P_pm : ∀ (n : Nat) (f : Nat → Int), (∀ i, i < n → f i = 1 ∨ f i = -1) → Pr n f = 1 ∨ Pr n f = -1
  | 0, _, _ => .inl rfl
  | n + 1, f, h => by
    simp only [Pr]
    rcases P_pm n f (fun i hi => h i (by omega)) with a | a <;> rcases h n (by omega) with b | b <;> rw [a, b] <;> decide
def pl : List Int → Int
  | [] => 1
  | x :: l => x * pl l
theorem pl_append : ∀ l k : List Int, pl (l ++ k) = pl l * pl k
  | [], k => by simp [pl]
  | x :: l, k => by
    simp only [List.cons_append, pl, pl_append l k, Int.mul_assoc]
theorem pl_perm {l k : List Int} (h : l.Perm k) : pl l = pl k := by
  induction h with
  | nil => rfl
  | cons x _ ih => simp only [pl, ih]
  | swap x y l => simp only [pl]; grind
  | trans _ _ a b => exact a.trans b
theorem P_pl : ∀ (n : Nat) (f : Nat → Int), Pr n f = pl ((List.range n).map f)
  | 0, _ => rfl
  | n + 1, f => by
    rw [List.range_succ, List.map_append, pl_append, ← P_pl n f]
    simp [Pr, pl]
theorem perm_of : ∀ (l k : List Nat), l.Nodup → (∀ x, x ∈ l → x ∈ k) → k.length ≤ l.length → l.Perm k
  | [], k, _, _, h => by
    have : k = [] := List.eq_nil_of_length_eq_zero (by simpa using h)
    rw [this]
  | x :: l, k, hn, hs, hl => by
    have hx : x ∈ k := hs x (List.mem_cons_self ..)
    have hp := List.perm_cons_erase hx
    have hn' := List.nodup_cons.mp hn
    have hlen : (k.erase x).length + 1 = k.length := by
      rw [List.length_erase_of_mem hx]
      have := List.length_pos_of_mem hx
      omega
    refine List.Perm.trans (List.Perm.cons x (perm_of l (k.erase x) hn'.2 (fun y hy => ?_) ?_)) hp.symm
    · refine (List.mem_erase_of_ne ?_).mpr (hs y (List.mem_cons_of_mem _ hy))
      rintro rfl
      exact hn'.1 hy
    · simp only [List.length_cons] at hl
      omega
theorem nodup_map {f : Nat → Nat} : ∀ l : List Nat, l.Nodup → (∀ x, x ∈ l → ∀ y, y ∈ l → f x = f y → x = y) → (l.map f).Nodup
  | [], _, _ => List.nodup_nil
  | x :: l, hn, hi => by
    have hn' := List.nodup_cons.mp hn
    rw [List.map_cons, List.nodup_cons]
    refine ⟨fun hm => ?_, nodup_map l hn'.2 fun a ha b hb => hi a (List.mem_cons_of_mem _ ha) b (List.mem_cons_of_mem _ hb)⟩
    obtain ⟨y, hy, e⟩ := List.mem_map.mp hm
    have := hi y (List.mem_cons_of_mem _ hy) x (List.mem_cons_self ..) e
    rw [this] at hy
    exact hn'.1 hy
theorem perm_range {n : Nat} {π : Nat → Nat} (h1 : ∀ i, i < n → π i < n) (h2 : ∀ i, i < n → ∀ j, j < n → π i = π j → i = j) : ((List.range n).map π).Perm (List.range n) := by
  refine perm_of _ _ (nodup_map _ List.nodup_range fun x hx y hy => h2 x (List.mem_range.mp hx) y (List.mem_range.mp hy)) (fun x hx => ?_) (by simp)
  obtain ⟨i, hi, rfl⟩ := List.mem_map.mp hx
  exact List.mem_range.mpr (h1 i (List.mem_range.mp hi))
theorem P_perm {n : Nat} {π : Nat → Nat} (f : Nat → Int) (h1 : ∀ i, i < n → π i < n) (h2 : ∀ i, i < n → ∀ j, j < n → π i = π j → i = j) : Pr n (fun i => f (π i)) = Pr n f := by
  rw [P_pl, P_pl]
  have := pl_perm ((perm_range h1 h2).map f)
  rw [List.map_map] at this
  exact this
theorem P_flip (n : Nat) (f : Nat → Int) : Pr n (fun i => f (n - 1 - i)) = Pr n f :=
  P_perm (π := fun i => n - 1 - i) f (fun i hi => by show n - 1 - i < n; omega) (fun i hi j hj h => by
    have h : n - 1 - i = n - 1 - j := h
    omega)
/-- one mark in a row -/
theorem P_mark (c : Nat) (p : Prop) [Decidable p] : ∀ k : Nat, Pr k (fun y => if y = c ∧ p then -1 else 1) = if c < k ∧ p then -1 else 1
  | 0 => by simp [Pr]
  | k + 1 => by
    simp only [Pr]
    rw [P_mark c p k]
    by_cases hp : p
    · simp only [hp, and_true]
      by_cases h1 : c < k
      · rw [if_pos h1, if_neg (by omega), if_pos (by omega)]
        rfl
      · by_cases h2 : k = c
        · rw [if_neg h1, if_pos h2, if_pos (by omega)]
          rfl
        · rw [if_neg h1, if_neg h2, if_neg (by omega)]
          rfl
    · simp [hp]
/-- the sign of the absolutely least rest, to the modulus 2 h + 1 -/
def sg (h : Nat) (a : Int) : Int :=
  if a % (2 * h + 1) = 0 then 0 else if a % (2 * h + 1) ≤ h then 1 else -1
theorem rem_lo (h : Nat) (a : Int) : 0 ≤ a % (2 * h + 1) := Int.emod_nonneg a (by omega)
theorem rem_hi (h : Nat) (a : Int) : a % (2 * h + 1) ≤ 2 * h := by
  have := Int.emod_lt_of_pos a (show (0 : Int) < 2 * h + 1 by omega)
  omega
theorem dvd_rem (h : Nat) (a : Int) : (2 * (h : Int) + 1) ∣ a - a % (2 * h + 1) := ⟨a / (2 * h + 1), by
  have := Int.mul_ediv_add_emod a (2 * (h : Int) + 1)
  omega⟩
theorem sgv {h : Nat} {a r : Int} (hd : (2 * (h : Int) + 1) ∣ a - r) (h0 : 0 ≤ r) (h1 : r ≤ 2 * h) : sg h a = if r = 0 then 0 else if r ≤ h then 1 else -1 := by
  have e : a % (2 * h + 1) = r := by
    have := Int.emod_eq_emod_iff_emod_sub_eq_zero.mpr (Int.emod_eq_zero_of_dvd hd)
    rw [this, Int.emod_eq_of_lt h0 (by omega)]
  unfold sg
  rw [e]
theorem sg_congr {h : Nat} {a b : Int} (hd : (2 * (h : Int) + 1) ∣ a - b) : sg h a = sg h b := by
  unfold sg
  rw [Int.emod_eq_emod_iff_emod_sub_eq_zero.mpr (Int.emod_eq_zero_of_dvd hd)]
theorem sg_neg (h : Nat) (a : Int) : sg h (-a) = -sg h a := by
  have h0 := rem_lo h a
  have h1 := rem_hi h a
  obtain ⟨k, hk⟩ := dvd_rem h a
  rw [sgv (a := a) (dvd_rem h a) h0 h1]
  by_cases hz : a % (2 * h + 1) = 0
  · rw [sgv (r := 0) ⟨-k, by grind⟩ (by omega) (by omega), if_pos rfl, if_pos hz]
    rfl
  · rw [sgv (r := 2 * h + 1 - a % (2 * h + 1)) ⟨-k - 1, by grind⟩ (by omega) (by omega), if_neg (by omega), if_neg hz]
    split <;> split <;> omega
theorem sg_smul {h : Nat} {s : Int} (hs : s = 1 ∨ s = -1) (a : Int) : sg h (s * a) = s * sg h a := by
  rcases hs with rfl | rfl
  · rw [Int.one_mul, Int.one_mul]
  · rw [Int.neg_mul, Int.one_mul, sg_neg, Int.neg_mul, Int.one_mul]
theorem sg_pm {h : Nat} {a : Int} (ha : a % (2 * h + 1) ≠ 0) : sg h a = 1 ∨ sg h a = -1 := by
  unfold sg
  rw [if_neg ha]
  split
  · exact .inl rfl
  · exact .inr rfl
/-- the absolutely least rest, less one -/
def al (h : Nat) (a : Int) : Nat := if a % (2 * h + 1) ≤ h then (a % (2 * h + 1) - 1).toNat else (2 * h - a % (2 * h + 1)).toNat
theorem al_lt {h : Nat} {a : Int} (ha : a % (2 * h + 1) ≠ 0) : al h a < h := by
  have h0 := rem_lo h a
  have h1 := rem_hi h a
  unfold al
  split <;> omega
theorem al_dvd {h : Nat} {a : Int} (ha : a % (2 * h + 1) ≠ 0) : (2 * (h : Int) + 1) ∣ a - sg h a * (al h a + 1) := by
  have h0 := rem_lo h a
  have h1 := rem_hi h a
  obtain ⟨k, hk⟩ := dvd_rem h a
  unfold sg al
  rw [if_neg ha]
  by_cases hr : a % (2 * h + 1) ≤ h
  · rw [if_pos hr, if_pos hr, show (((a % (2 * h + 1) - 1).toNat : Int)) = a % (2 * h + 1) - 1 by omega]
    exact ⟨k, by omega⟩
  · rw [if_neg hr, if_neg hr, show (((2 * h - a % (2 * h + 1)).toNat : Int)) = 2 * h - a % (2 * h + 1) by omega]
    exact ⟨k + 1, by grind⟩
theorem small_dvd {m x : Int} (hd : m ∣ x) (h1 : -m < x) (h2 : x < m) : x = 0 := by
  rcases Int.lt_trichotomy x 0 with h | h | h
  · have := Int.le_of_dvd (show 0 < -x by omega) (Int.dvd_neg.mpr hd)
    omega
  · exact h
  · have := Int.le_of_dvd h hd
    omega
theorem cop_dvd {b m : Int} (hc : Int.gcd b m = 1) {x : Int} (hd : m ∣ b * x) : m ∣ x := by
  have h1 : m.natAbs ∣ b.natAbs * x.natAbs := by
    rw [← Int.natAbs_mul]
    exact Int.natAbs_dvd_natAbs.mpr hd
  have h2 : m.natAbs.Coprime b.natAbs := by
    unfold Nat.Coprime
    rw [Nat.gcd_comm]
    exact hc
  exact Int.natAbs_dvd_natAbs.mp (h2.dvd_of_dvd_mul_left h1)
def G (a : Int) (h : Nat) : Int := Pr h (fun i => sg h (a * ((i : Int) + 1)))
theorem cop_ne {b : Int} {h : Nat} (hc : Int.gcd b (2 * h + 1) = 1) {i : Nat} (hi : i < h) : (b * ((i : Int) + 1)) % (2 * h + 1) ≠ 0 := by
  intro z
  have := small_dvd (cop_dvd hc (Int.dvd_of_emod_eq_zero z)) (by omega) (by omega)
  omega
theorem G_congr {h : Nat} {a b : Int} (hd : (2 * (h : Int) + 1) ∣ a - b) : G a h = G b h := by
  refine P_congr h fun i hi => sg_congr ?_
  rw [← Int.sub_mul]
  exact Int.dvd_mul_of_dvd_left hd
theorem G_pm {h : Nat} {a : Int} (hc : Int.gcd a (2 * h + 1) = 1) : G a h = 1 ∨ G a h = -1 :=
  P_pm h _ fun i hi => sg_pm (cop_ne hc hi)
theorem G_zero {h : Nat} {a : Int} (hc : Int.gcd a (2 * h + 1) ≠ 1) : G a h = 0 := by
  obtain ⟨k, hk⟩ := Int.gcd_dvd_right a (2 * (h : Int) + 1)
  obtain ⟨l, hl⟩ := Int.gcd_dvd_left a (2 * (h : Int) + 1)
  generalize hg : Int.gcd a (2 * h + 1) = g at *
  have g0 : g ≠ 0 := by
    rintro rfl
    simp at hk
    omega
  have g2 : g ≠ 2 := by
    rintro rfl
    simp at hk
    omega
  have k0 : 0 < k := by
    rcases Int.lt_trichotomy k 0 with z | z | z
    · have := Int.mul_neg_of_pos_of_neg (show (0 : Int) < g by omega) z
      omega
    · rw [z] at hk
      omega
    · exact z
  have k1 : 3 * k ≤ g * k := Int.mul_le_mul_of_nonneg_right (by omega) (by omega)
  refine P_zero h _ (k - 1).toNat (by omega) ?_
  have e : (((k - 1).toNat : Int)) + 1 = k := by omega
  rw [e]
  unfold sg
  rw [if_pos]
  refine Int.emod_eq_zero_of_dvd ⟨l, ?_⟩
  rw [hk]
  conv => lhs; rw [hl]
  grind
theorem G_mul (a b : Int) (h : Nat) : G (a * b) h = G a h * G b h := by
  by_cases hc : Int.gcd b (2 * h + 1) = 1
  · have hp : Pr h (fun i => sg h (a * ((al h (b * ((i : Int) + 1)) : Int) + 1))) = Pr h (fun i => sg h (a * ((i : Int) + 1))) := by
      refine P_perm (π := fun i => al h (b * ((i : Int) + 1))) (fun i => sg h (a * ((i : Int) + 1))) (fun i hi => al_lt (cop_ne hc hi)) (fun i hi j hj e => ?_)
      have e : al h (b * ((i : Int) + 1)) = al h (b * ((j : Int) + 1)) := e
      obtain ⟨u, hu⟩ := al_dvd (cop_ne hc hi)
      obtain ⟨v, hv⟩ := al_dvd (cop_ne hc hj)
      rw [e] at hu
      rcases sg_pm (cop_ne hc hi) with s | s <;> rcases sg_pm (cop_ne hc hj) with t | t <;> rw [s] at hu <;> rw [t] at hv
      · have := small_dvd (cop_dvd (x := (i : Int) - j) hc ⟨u - v, by grind⟩) (by omega) (by omega)
        omega
      · have := small_dvd (cop_dvd (x := (i : Int) + j + 2) hc ⟨u + v, by grind⟩) (by omega) (by omega)
        omega
      · have := small_dvd (cop_dvd (x := (i : Int) + j + 2) hc ⟨u + v, by grind⟩) (by omega) (by omega)
        omega
      · have := small_dvd (cop_dvd (x := (i : Int) - j) hc ⟨u - v, by grind⟩) (by omega) (by omega)
        omega
    have e : G (a * b) h = Pr h (fun i => sg h (a * ((al h (b * ((i : Int) + 1)) : Int) + 1)) * sg h (b * ((i : Int) + 1))) := by
      refine P_congr h fun i hi => ?_
      rw [Int.mul_comm _ (sg h (b * ((i : Int) + 1))), ← sg_smul (sg_pm (cop_ne hc hi))]
      refine sg_congr ?_
      obtain ⟨u, hu⟩ := al_dvd (cop_ne hc hi)
      exact ⟨a * u, by grind⟩
    rw [e, P_mul, hp]
    rfl
  · rw [G_zero hc, Int.mul_zero, G_zero]
    intro z
    apply hc
    have h1 : Int.gcd b (2 * h + 1) ∣ Int.gcd (a * b) (2 * h + 1) := Int.dvd_gcd (Int.dvd_mul_of_dvd_right (Int.gcd_dvd_left ..)) (Int.gcd_dvd_right ..)
    rw [z] at h1
    exact Nat.dvd_one.mp h1
def tq (h k x y : Nat) : Int := (2 * k + 1) * ((x : Int) + 1) - (2 * h + 1) * ((y : Int) + 1)
def eqq (h k x y : Nat) : Int := if tq h k x y < 0 ∧ -(h : Int) ≤ tq h k x y then -1 else 1
theorem tq_comm (h k x y : Nat) : tq k h y x = -tq h k x y := by
  unfold tq
  omega
theorem q_in {h k x : Nat} (hx : x < h) (hr : (h : Int) < ((2 * k + 1) * ((x : Int) + 1)) % (2 * h + 1)) : ((2 * k + 1) * ((x : Int) + 1)) / (2 * h + 1) < k := by
  have e := Int.mul_ediv_add_emod ((2 * (k : Int) + 1) * ((x : Int) + 1)) (2 * (h : Int) + 1)
  generalize ((2 * (k : Int) + 1) * ((x : Int) + 1)) / (2 * (h : Int) + 1) = q at *
  have h1 : (2 * (k : Int) + 1) * ((x : Int) + 1) ≤ (2 * (k : Int) + 1) * h := Int.mul_le_mul_of_nonneg_left (by omega) (by omega)
  have h2 : (2 * (h : Int) + 1) * (q + 1) < (2 * (h : Int) + 1) * (k + 1) := by grind
  have := Int.lt_of_mul_lt_mul_left h2 (by omega)
  omega
theorem inner {h k x : Nat} (hc : Int.gcd (2 * k + 1) (2 * h + 1) = 1) (hx : x < h) : Pr k (fun y => eqq h k x y) = sg h ((2 * k + 1) * ((x : Int) + 1)) := by
  have hne := cop_ne hc hx
  have h0 := rem_lo h ((2 * k + 1) * ((x : Int) + 1))
  have h1 := rem_hi h ((2 * k + 1) * ((x : Int) + 1))
  have e := Int.mul_ediv_add_emod ((2 * (k : Int) + 1) * ((x : Int) + 1)) (2 * (h : Int) + 1)
  have q0 : 0 ≤ ((2 * (k : Int) + 1) * ((x : Int) + 1)) / (2 * (h : Int) + 1) := Int.ediv_nonneg (Int.mul_nonneg (by omega) (by omega)) (by omega)
  have qi := @q_in h k x hx
  unfold sg
  rw [if_neg hne]
  have hm : ∀ y, y < k → eqq h k x y = if y = (((2 * (k : Int) + 1) * ((x : Int) + 1)) / (2 * (h : Int) + 1)).toNat ∧ ¬ ((2 * (k : Int) + 1) * ((x : Int) + 1)) % (2 * h + 1) ≤ h then -1 else 1 := by
    intro y hy
    unfold eqq tq
    generalize ((2 * (k : Int) + 1) * ((x : Int) + 1)) / (2 * (h : Int) + 1) = q at *
    generalize ((2 * (k : Int) + 1) * ((x : Int) + 1)) % (2 * (h : Int) + 1) = r at *
    rw [← e]
    have hz : (2 * (h : Int) + 1) * q + r - (2 * (h : Int) + 1) * ((y : Int) + 1) = (2 * (h : Int) + 1) * (q - y - 1) + r := by grind
    rw [hz]
    congr 1
    refine propext ⟨fun ⟨a, b⟩ => ?_, fun ⟨a, b⟩ => ?_⟩
    · rcases Int.lt_trichotomy (q - y) 0 with z | z | z
      · have : (2 * (h : Int) + 1) * (q - y - 1) ≤ (2 * (h : Int) + 1) * (-2) := Int.mul_le_mul_of_nonneg_left (by omega) (by omega)
        omega
      · have z : q - y - 1 = -1 := by omega
        rw [z] at a b
        omega
      · have : 0 ≤ (2 * (h : Int) + 1) * (q - y - 1) := Int.mul_nonneg (by omega) (by omega)
        omega
    · have z : q - y - 1 = -1 := by omega
      rw [z]
      omega
  rw [P_congr k hm, P_mark]
  by_cases hr : ((2 * (k : Int) + 1) * ((x : Int) + 1)) % (2 * h + 1) ≤ h
  · rw [if_neg (fun z => z.2 hr), if_pos hr]
  · rw [if_pos ⟨by have := qi (by omega); omega, hr⟩, if_neg hr]
theorem tq_ne {h k x y : Nat} (hc : Int.gcd (2 * k + 1) (2 * h + 1) = 1) (hx : x < h) : tq h k x y ≠ 0 := by
  intro z
  apply cop_ne hc hx
  unfold tq at z
  exact Int.emod_eq_zero_of_dvd ⟨(y : Int) + 1, by omega⟩
theorem PP_pm (h k : Nat) (f : Nat → Nat → Int) (hf : ∀ x y, f x y = 1 ∨ f x y = -1) : Pr h (fun x => Pr k (fun y => f x y)) = 1 ∨ Pr h (fun x => Pr k (fun y => f x y)) = -1 :=
  P_pm h _ fun x _ => P_pm k _ fun y _ => hf x y
theorem PP_flip (h k : Nat) (f : Nat → Nat → Int) : Pr h (fun x => Pr k (fun y => f (h - 1 - x) (k - 1 - y))) = Pr h (fun x => Pr k (fun y => f x y)) := by
  rw [P_congr h fun x _ => P_flip k (fun y => f (h - 1 - x) y)]
  exact P_flip h (fun x => Pr k (fun y => f x y))
def bq (h k x y : Nat) : Int := if tq h k x y < -(h : Int) then -1 else 1
def cq (h k x y : Nat) : Int := if (k : Int) < tq h k x y then -1 else 1
theorem bc (h k : Nat) : Pr h (fun x => Pr k (fun y => bq h k x y)) = Pr h (fun x => Pr k (fun y => cq h k x y)) := by
  rw [← PP_flip h k (fun x y => cq h k x y)]
  refine P_congr h fun x hx => P_congr k fun y hy => ?_
  unfold bq cq
  have e : tq h k (h - 1 - x) (k - 1 - y) = k - h - tq h k x y := by
    unfold tq
    rw [show (((h - 1 - x : Nat) : Int)) = h - 1 - x by omega, show (((k - 1 - y : Nat) : Int)) = k - 1 - y by omega]
    grind
  rw [e]
  split <;> split <;> omega
theorem recip0 {h k : Nat} (hc : Int.gcd (2 * k + 1) (2 * h + 1) = 1) : G (2 * k + 1) h * G (2 * h + 1) k = if h % 2 = 1 ∧ k % 2 = 1 then -1 else 1 := by
  have e1 : G (2 * k + 1) h = Pr h (fun x => Pr k (fun y => eqq h k x y)) := P_congr h fun x hx => (inner hc hx).symm
  have e2 : G (2 * h + 1) k = Pr h (fun x => Pr k (fun y => eqq k h y x)) := by
    rw [P_swap]
    exact P_congr k fun y hy => (inner (by rw [Int.gcd_comm]; exact hc) hy).symm
  have e3 : Pr h (fun x => Pr k (fun y => eqq h k x y * eqq k h y x * (bq h k x y * cq h k x y))) = Pr h (fun _ => Pr k (fun _ => -1)) := by
    refine P_congr h fun x hx => P_congr k fun y hy => ?_
    have := tq_ne (y := y) hc hx
    unfold eqq bq cq
    rw [tq_comm h k x y]
    generalize tq h k x y = t at *
    split <;> split <;> split <;> split <;> omega
  have e4 : Pr h (fun x => Pr k (fun y => eqq h k x y * eqq k h y x * (bq h k x y * cq h k x y))) = Pr h (fun x => Pr k (fun y => eqq h k x y)) * Pr h (fun x => Pr k (fun y => eqq k h y x)) * (Pr h (fun x => Pr k (fun y => bq h k x y)) * Pr h (fun x => Pr k (fun y => cq h k x y))) := by
    simp only [P_mul]
  rw [bc, ← e1, ← e2, e3] at e4
  have hb : Pr h (fun x => Pr k (fun y => cq h k x y)) * Pr h (fun x => Pr k (fun y => cq h k x y)) = 1 := by
    rcases PP_pm h k (fun x y => cq h k x y) (fun x y => by unfold cq; split <;> omega) with z | z <;> rw [z] <;> rfl
  rw [hb, Int.mul_one] at e4
  rw [← e4]
  simp only [P_neg]
  split
  · rw [P_one, if_neg (by omega)]
  · rw [P_neg]
    split <;> split <;> omega
def RR (h k : Nat) : Int := if h % 2 = 1 ∧ k % 2 = 1 then -1 else 1
theorem recip (h k : Nat) : G (2 * k + 1) h = RR h k * G (2 * h + 1) k := by
  by_cases hc : Int.gcd (2 * k + 1) (2 * h + 1) = 1
  · have e := recip0 hc
    have h1 : Int.gcd (2 * h + 1) (2 * k + 1) = 1 := by rw [Int.gcd_comm]; exact hc
    unfold RR
    rw [← e, Int.mul_assoc]
    rcases G_pm h1 with z | z <;> rw [z] <;> simp
  · rw [G_zero hc, G_zero (a := 2 * h + 1) (h := k) (by rw [Int.gcd_comm]; exact hc), Int.mul_zero]
theorem P_cut (c : Nat) : ∀ n : Nat, Pr n (fun i => if i < c then 1 else -1) = if (n - c) % 2 = 0 then 1 else -1
  | 0 => by simp [Pr]
  | n + 1 => by
    simp only [Pr]
    rw [P_cut c n]
    split <;> split <;> split <;> omega
theorem G_neg1 (h : Nat) : G (-1) h = if h % 2 = 0 then 1 else -1 := by
  rw [← P_neg]
  refine P_congr h fun i hi => ?_
  rw [Int.neg_mul, Int.one_mul, sg_neg, sgv (r := (i : Int) + 1) ⟨0, by omega⟩ (by omega) (by omega), if_neg (by omega), if_pos (by omega)]
theorem G_two (h : Nat) : G 2 h = if (2 * h + 1) % 8 = 3 ∨ (2 * h + 1) % 8 = 5 then -1 else 1 := by
  have e : G 2 h = Pr h (fun i => if i < h / 2 then 1 else -1) := by
    refine P_congr h fun i hi => ?_
    rw [sgv (r := 2 * ((i : Int) + 1)) ⟨0, by omega⟩ (by omega) (by omega), if_neg (by omega)]
    split <;> split <;> omega
  rw [e, P_cut]
  split <;> split <;> omega
theorem G_at0 (h : Nat) : G 0 h = if h = 0 then 1 else 0 := by
  by_cases hh : h = 0
  · rw [if_pos hh, hh]
    rfl
  · rw [if_neg hh]
    refine P_zero h _ 0 (by omega) ?_
    rw [Int.zero_mul]
    rfl
/-- an odd positive number of the same rest -/
theorem odd_rep (a : Int) (H : Nat) : ∃ k : Nat, (2 * (H : Int) + 1) ∣ a - (2 * (k : Int) + 1) := by
  have h0 := rem_lo H a
  obtain ⟨u, hu⟩ := dvd_rem H a
  by_cases he : a % (2 * H + 1) % 2 = 1
  · refine ⟨((a % (2 * H + 1) - 1) / 2).toNat, u, ?_⟩
    rw [show 2 * ((((a % (2 * H + 1) - 1) / 2).toNat : Int)) + 1 = a % (2 * H + 1) by omega]
    exact hu
  · refine ⟨((a % (2 * H + 1) + 2 * H) / 2).toNat, u - 1, ?_⟩
    rw [show 2 * ((((a % (2 * H + 1) + 2 * H) / 2).toNat : Int)) + 1 = a % (2 * H + 1) + (2 * H + 1) by omega]
    grind
theorem G_mod_mul (a : Int) {h h' H : Nat} (hH : (2 * (H : Int) + 1) = (2 * h + 1) * (2 * h' + 1)) : G a H = G a h * G a h' := by
  obtain ⟨k, u, hu⟩ := odd_rep a H
  rw [G_congr (h := H) ⟨u, hu⟩, G_congr (h := h) (a := a) (b := 2 * k + 1) ⟨(2 * h' + 1) * u, by rw [hu, hH, Int.mul_assoc]⟩, G_congr (h := h') (a := a) (b := 2 * k + 1) ⟨(2 * h + 1) * u, by rw [hu, hH]; grind⟩,
    recip, recip h k, recip h' k, hH, G_mul]
  have e : (H : Int) = 2 * (h * h') + h + h' := by grind
  have e' : H = 2 * (h * h') + h + h' := by exact_mod_cast e
  have er : RR H k = RR h k * RR h' k := by
    unfold RR
    generalize h * h' = z at *
    split <;> split <;> split <;> omega
  rw [er]
  grind
theorem G_eq_zero {a : Int} {h : Nat} : G a h = 0 ↔ Int.gcd a (2 * h + 1) ≠ 1 := by
  constructor
  · intro z hc
    rcases G_pm hc with e | e <;> rw [e] at z <;> cases z
  · exact G_zero
end QR
section
open QR
theorem jac_G : ∀ (n h : Nat), jac n (2 * h + 1) = G n h := by
  intro n
  induction n using Nat.strongRecOn with
  | ind n ih =>
    intro h
    by_cases h0 : n = 0
    · subst h0
      rw [jac_zero, show ((0 : Nat) : Int) = 0 from rfl, G_at0]
      split <;> split <;> omega
    · by_cases h2 : n % 2 = 0
      · rw [jac_two h0 h2, ih (n / 2) (by omega) h, show (n : Int) = 2 * ((n / 2 : Nat) : Int) by omega, G_mul, G_two]
        rfl
      · obtain ⟨k, rfl⟩ : ∃ k, n = 2 * k + 1 := ⟨n / 2, by omega⟩
        rw [jac_turn (by omega), ih ((2 * h + 1) % (2 * k + 1)) (Nat.mod_lt _ (by omega)) k]
        have e : G (((2 * k + 1 : Nat) : Int)) h = RR h k * G (2 * h + 1) k := by
          rw [← recip]
          rfl
        rw [e]
        have e2 : G (((2 * h + 1) % (2 * k + 1) : Nat) : Int) k = G (2 * h + 1) k := by
          refine G_congr ⟨-((2 * (h : Int) + 1) / (2 * k + 1)), ?_⟩
          have := Int.mul_ediv_add_emod (2 * (h : Int) + 1) (2 * k + 1)
          rw [Int.natCast_emod, show ((2 * h + 1 : Nat) : Int) = 2 * (h : Int) + 1 by omega, show ((2 * k + 1 : Nat) : Int) = 2 * (k : Int) + 1 by omega, Int.mul_neg]
          omega
        rw [e2]
        congr 1
        unfold facR RR
        split <;> split <;> omega
theorem sgn_G (n : Int) (h : Nat) : sgn n (2 * h + 1) = G n h := by
  unfold sgn
  rw [show (2 * (h : Int) + 1).toNat = 2 * h + 1 by omega, jac_G]
  have h0 := rem_lo h n
  rw [Int.toNat_of_nonneg h0]
  obtain ⟨u, hu⟩ := dvd_rem h n
  exact G_congr ⟨-u, by rw [Int.mul_neg, ← hu]; omega⟩
theorem odd_half {m : Int} (h1 : 1 ≤ m) (h2 : m % 2 = 1) : ∃ h : Nat, m = 2 * h + 1 := ⟨(m / 2).toNat, by omega⟩
end
section
open QR
variable {m : Int} (h1 : 1 ≤ m) (h2 : m % 2 = 1)
include h1 h2
theorem sgn_mul (a b : Int) : sgn (a * b) m = sgn a m * sgn b m := by
  obtain ⟨h, rfl⟩ := odd_half h1 h2
  rw [sgn_G, sgn_G, sgn_G, G_mul]
theorem sgn_mod_mul (a : Int) {t : Int} (h3 : 1 ≤ t) (h4 : t % 2 = 1) : sgn a (m * t) = sgn a m * sgn a t := by
  obtain ⟨h, rfl⟩ := odd_half h1 h2
  obtain ⟨k, rfl⟩ := odd_half h3 h4
  have e : (2 * (h : Int) + 1) * (2 * k + 1) = 2 * ((2 * (h * k) + h + k : Nat) : Int) + 1 := by
    push_cast
    grind
  rw [e, sgn_G, sgn_G, sgn_G, G_mod_mul a e.symm]
theorem sgn_congr {a b : Int} (hd : m ∣ a - b) : sgn a m = sgn b m := by
  obtain ⟨h, rfl⟩ := odd_half h1 h2
  rw [sgn_G, sgn_G, G_congr hd]
theorem sgn_neg1 : sgn (-1) m = 2 - m % 4 := by
  obtain ⟨h, rfl⟩ := odd_half h1 h2
  rw [sgn_G, G_neg1]
  split <;> omega
theorem sgn_two : sgn 2 m = if m % 8 = 3 ∨ m % 8 = 5 then -1 else 1 := by
  obtain ⟨h, rfl⟩ := odd_half h1 h2
  rw [sgn_G, G_two]
  split <;> split <;> omega
theorem sgn_turn {t : Int} (h3 : 1 ≤ t) (h4 : t % 2 = 1) : sgn t m = (if m % 4 = 3 ∧ t % 4 = 3 then -1 else 1) * sgn m t := by
  obtain ⟨h, rfl⟩ := odd_half h1 h2
  obtain ⟨k, rfl⟩ := odd_half h3 h4
  rw [sgn_G, sgn_G, recip]
  congr 1
  unfold RR
  split <;> split <;> omega
theorem sgn_zero {a : Int} : sgn a m = 0 ↔ Int.gcd a m ≠ 1 := by
  obtain ⟨h, rfl⟩ := odd_half h1 h2
  rw [sgn_G, G_eq_zero]
theorem sgn_pm {a : Int} (hc : Int.gcd a m = 1) : sgn a m = 1 ∨ sgn a m = -1 := by
  obtain ⟨h, rfl⟩ := odd_half h1 h2
  rw [sgn_G]
  exact G_pm hc
theorem sgn_sq (a : Int) : sgn a m * sgn a m = if Int.gcd a m = 1 then 1 else 0 := by
  by_cases hc : Int.gcd a m = 1
  · rw [if_pos hc]
    rcases sgn_pm h1 h2 hc with e | e <;> rw [e] <;> rfl
  · rw [if_neg hc, (sgn_zero h1 h2).mpr hc]
    rfl
end
/-! part m_euler -/
namespace QR
theorem al_inj {b : Int} {h : Nat} (hc : Int.gcd b (2 * h + 1) = 1) : ∀ i, i < h → ∀ j, j < h → al h (b * ((i : Int) + 1)) = al h (b * ((j : Int) + 1)) → i = j := by
  intro i hi j hj e
  obtain ⟨u, hu⟩ := al_dvd (cop_ne hc hi)
  obtain ⟨v, hv⟩ := al_dvd (cop_ne hc hj)
  rw [e] at hu
  rcases sg_pm (cop_ne hc hi) with s | s <;> rcases sg_pm (cop_ne hc hj) with t | t <;> rw [s] at hu <;> rw [t] at hv
  · have := small_dvd (cop_dvd (x := (i : Int) - j) hc ⟨u - v, by grind⟩) (by omega) (by omega)
    omega
  · have := small_dvd (cop_dvd (x := (i : Int) + j + 2) hc ⟨u + v, by grind⟩) (by omega) (by omega)
    omega
  · have := small_dvd (cop_dvd (x := (i : Int) + j + 2) hc ⟨u + v, by grind⟩) (by omega) (by omega)
    omega
  · have := small_dvd (cop_dvd (x := (i : Int) - j) hc ⟨u - v, by grind⟩) (by omega) (by omega)
    omega
theorem Pm.cop {p : Int} (hp : Pm p) {x : Int} (hx : ¬ p ∣ x) : Int.gcd x p = 1 := by
  have hd := Int.gcd_dvd_right x p
  have hl := Int.gcd_dvd_left x p
  have h2 := hp.1
  have hle := Int.le_of_dvd (by omega) hd
  generalize hg : Int.gcd x p = g at *
  by_cases h1 : (g : Int) = p
  · rw [h1] at hl
    exact absurd hl hx
  · by_cases h0 : g = 0
    · rw [h0] at hd
      have := Int.zero_dvd.mp hd
      omega
    · have := hp.2 g
      by_cases hz : g = 1
      · exact hz
      · exact absurd hd (this (by omega) (by omega))
theorem Pm.dvd_mul {p : Int} (hp : Pm p) {x y : Int} (h : p ∣ x * y) : p ∣ x ∨ p ∣ y := by
  by_cases hx : p ∣ x
  · exact .inl hx
  · exact .inr (cop_dvd (hp.cop hx) h)
theorem Pr_dvd {m : Int} : ∀ (n : Nat) (f g : Nat → Int), (∀ i, i < n → m ∣ f i - g i) → m ∣ Pr n f - Pr n g
  | 0, _, _, _ => ⟨0, by simp [Pr]⟩
  | n + 1, f, g, h => by
    obtain ⟨u, hu⟩ := Pr_dvd n f g fun i hi => h i (by omega)
    obtain ⟨v, hv⟩ := h n (by omega)
    exact ⟨u * f n + Pr n g * v, by simp only [Pr]; grind⟩
theorem Pr_cancel {m : Int} : ∀ (n : Nat) (f : Nat → Int) (x : Int), (∀ i, i < n → Int.gcd (f i) m = 1) → m ∣ Pr n f * x → m ∣ x
  | 0, _, x, _, h => by simpa [Pr] using h
  | n + 1, f, x, hc, h => by
    simp only [Pr] at h
    rw [Int.mul_assoc] at h
    exact cop_dvd (hc n (by omega)) (Pr_cancel n f _ (fun i hi => hc i (by omega)) h)
theorem Pr_const (a : Int) (f : Nat → Int) : ∀ n : Nat, Pr n (fun i => a * f i) = a ^ n * Pr n f
  | 0 => by simp [Pr]
  | n + 1 => by
    simp only [Pr]
    rw [Pr_const a f n, Int.pow_succ]
    grind
theorem Pr_first (f : Nat → Int) : ∀ n : Nat, Pr (n + 1) f = f 0 * Pr n (fun i => f (i + 1))
  | 0 => by simp [Pr]
  | n + 1 => by
    have := Pr_first f n
    simp only [Pr] at *
    rw [this]
    grind
theorem gauss {h : Nat} (hp : Pm (2 * h + 1)) {a : Int} (ha : ¬ (2 * (h : Int) + 1) ∣ a) : (2 * (h : Int) + 1) ∣ a ^ h - G a h := by
  have hc := hp.cop ha
  have h1 : (2 * (h : Int) + 1) ∣ Pr h (fun i => a * ((i : Int) + 1)) - Pr h (fun i => sg h (a * ((i : Int) + 1)) * ((al h (a * ((i : Int) + 1)) : Int) + 1)) :=
    Pr_dvd h _ _ fun i hi => al_dvd (cop_ne hc hi)
  have h2 : Pr h (fun i => (al h (a * ((i : Int) + 1)) : Int) + 1) = Pr h (fun i => (i : Int) + 1) :=
    P_perm (π := fun i => al h (a * ((i : Int) + 1))) (fun i => (i : Int) + 1) (fun i hi => al_lt (cop_ne hc hi)) (al_inj hc)
  rw [Pr_const, P_mul, h2] at h1
  refine Pr_cancel h (fun i => (i : Int) + 1) _ (fun i hi => hp.cop fun z => ?_) ?_
  · have := Int.le_of_dvd (by omega) z
    omega
  · obtain ⟨u, hu⟩ := h1
    exact ⟨u, by unfold G; grind⟩
theorem solve {h : Nat} {x : Int} (hc : Int.gcd x (2 * h + 1) = 1) {a : Int} (ha : ¬ (2 * (h : Int) + 1) ∣ a) : ∃ j, j < 2 * h ∧ (2 * (h : Int) + 1) ∣ x * ((j : Int) + 1) - a := by
  have hne : ∀ j : Nat, j < 2 * h → (x * ((j : Int) + 1)) % (2 * h + 1) ≠ 0 := by
    intro j hj z
    have := Int.le_of_dvd (by omega) (cop_dvd hc (Int.dvd_of_emod_eq_zero z))
    omega
  have hp := perm_range (n := 2 * h) (π := fun j => ((x * ((j : Int) + 1)) % (2 * h + 1) - 1).toNat) (fun j hj => by
    have h0 := rem_lo h (x * ((j : Int) + 1))
    have h1 := rem_hi h (x * ((j : Int) + 1))
    have := hne j hj
    show ((x * ((j : Int) + 1)) % (2 * h + 1) - 1).toNat < 2 * h
    omega) (fun i hi j hj e => by
    have e : ((x * ((i : Int) + 1)) % (2 * h + 1) - 1).toNat = ((x * ((j : Int) + 1)) % (2 * h + 1) - 1).toNat := e
    have h0 := rem_lo h (x * ((j : Int) + 1))
    have h1 := rem_lo h (x * ((i : Int) + 1))
    have n0 := hne i hi
    have n1 := hne j hj
    obtain ⟨u, hu⟩ := dvd_rem h (x * ((i : Int) + 1))
    obtain ⟨v, hv⟩ := dvd_rem h (x * ((j : Int) + 1))
    have e2 : (x * ((i : Int) + 1)) % (2 * h + 1) = (x * ((j : Int) + 1)) % (2 * h + 1) := by omega
    have := small_dvd (cop_dvd (x := (i : Int) - j) hc ⟨u - v, by grind⟩) (by omega) (by omega)
    omega)
  have h0 := rem_lo h a
  have h1 := rem_hi h a
  have h2 : a % (2 * h + 1) ≠ 0 := fun z => ha (Int.dvd_of_emod_eq_zero z)
  have hm : (a % (2 * h + 1) - 1).toNat ∈ List.range (2 * h) := List.mem_range.mpr (by omega)
  obtain ⟨j, hj, e⟩ := List.mem_map.mp (hp.mem_iff.mpr hm)
  have hj := List.mem_range.mp hj
  have k0 := rem_lo h (x * ((j : Int) + 1))
  have k1 := hne j hj
  have e2 : (x * ((j : Int) + 1)) % (2 * h + 1) = a % (2 * h + 1) := by omega
  obtain ⟨u, hu⟩ := dvd_rem h (x * ((j : Int) + 1))
  obtain ⟨v, hv⟩ := dvd_rem h a
  exact ⟨j, hj, u - v, by grind⟩
theorem pairs {m a : Int} : ∀ (n : Nat) (L : List Int), L.length ≤ n → L.Nodup → (∀ x, x ∈ L → ∃ y, y ∈ L ∧ y ≠ x ∧ m ∣ x * y - a) → (∀ x, x ∈ L → ∀ y, y ∈ L → ∀ z, z ∈ L → m ∣ x * y - a → m ∣ x * z - a → y = z) → m ∣ pl L - a ^ (L.length / 2) := by
  intro n
  induction n with
  | zero =>
    intro L hl _ _ _
    have : L = [] := List.eq_nil_of_length_eq_zero (by omega)
    subst this
    exact ⟨0, by simp [pl]⟩
  | succ n ih =>
    intro L hl hn hx hu
    match L, hl, hn, hx, hu with
    | [], _, _, _, _ => exact ⟨0, by simp [pl]⟩
    | x :: T, hl, hn, hx, hu =>
      have hn' := List.nodup_cons.mp hn
      obtain ⟨y, hy, yx, hd⟩ := hx x (List.mem_cons_self ..)
      have hyT : y ∈ T := by
        rcases List.mem_cons.mp hy with z | z
        · exact absurd z yx
        · exact z
      have hp := List.perm_cons_erase hyT
      have hlen : (T.erase y).length + 1 = T.length := by
        rw [List.length_erase_of_mem hyT]
        have := List.length_pos_of_mem hyT
        omega
      have hnd : (y :: T.erase y).Nodup := hp.nodup hn'.2
      have hnd' := List.nodup_cons.mp hnd
      have sub : ∀ z, z ∈ T.erase y → z ∈ T := fun z hz => hp.mem_iff.mpr (List.mem_cons_of_mem _ hz)
      have hI := ih (T.erase y) (by simp only [List.length_cons] at hl; omega) hnd'.2 (fun z hz => by
        have hzT := sub z hz
        have hzL := List.mem_cons_of_mem x hzT
        obtain ⟨w, hw, wz, hd2⟩ := hx z hzL
        have wx : w ≠ x := by
          rintro rfl
          have : z = y := hu w (List.mem_cons_self ..) z hzL y hy (by rw [Int.mul_comm]; exact hd2) hd
          rw [this] at hz
          exact hnd'.1 hz
        have wy : w ≠ y := by
          rintro rfl
          have : z = x := hu w hy z hzL x (List.mem_cons_self ..) (by rw [Int.mul_comm]; exact hd2) (by rw [Int.mul_comm]; exact hd)
          rw [this] at hzT
          exact hn'.1 hzT
        refine ⟨w, ?_, wz, hd2⟩
        rcases List.mem_cons.mp hw with q | q
        · exact absurd q wx
        · rcases List.mem_cons.mp (hp.mem_iff.mp q) with q | q
          · exact absurd q wy
          · exact q) (fun z hz w hw v hv => hu z (List.mem_cons_of_mem _ (sub z hz)) w (List.mem_cons_of_mem _ (sub w hw)) v (List.mem_cons_of_mem _ (sub v hv)))
      obtain ⟨s, hs⟩ := hI
      obtain ⟨t, ht⟩ := hd
      have e : pl (x :: T) = x * (y * pl (T.erase y)) := by
        rw [pl, pl_perm hp]
        rfl
      have e2 : (x :: T).length / 2 = (T.erase y).length / 2 + 1 := by
        simp only [List.length_cons]
        omega
      rw [e, e2, Int.pow_succ]
      exact ⟨t * pl (T.erase y) + a * s, by grind⟩
theorem nodup_mapI {f : Nat → Int} : ∀ l : List Nat, l.Nodup → (∀ x y, f x = f y → x = y) → (l.map f).Nodup
  | [], _, _ => List.nodup_nil
  | x :: l, hn, hi => by
    have hn' := List.nodup_cons.mp hn
    rw [List.map_cons, List.nodup_cons]
    refine ⟨fun hm => ?_, nodup_mapI l hn'.2 hi⟩
    obtain ⟨y, hy, e⟩ := List.mem_map.mp hm
    rw [hi y x e] at hy
    exact hn'.1 hy
theorem mem_row {n : Nat} {c x : Int} : x ∈ (List.range n).map (fun i : Nat => (i : Int) + c) ↔ c ≤ x ∧ x < n + c := by
  constructor
  · intro hx
    obtain ⟨i, hi, rfl⟩ := List.mem_map.mp hx
    have := List.mem_range.mp hi
    omega
  · intro ⟨a, b⟩
    exact List.mem_map.mpr ⟨(x - c).toNat, List.mem_range.mpr (by omega), by omega⟩
section
variable {h : Nat} (hp : Pm (2 * h + 1))
include hp
theorem uniq {a x y z : Int} (hx : ¬ (2 * (h : Int) + 1) ∣ x) (h1 : (2 * (h : Int) + 1) ∣ x * y - a) (h2 : (2 * (h : Int) + 1) ∣ x * z - a) (hy : 0 < y ∧ y ≤ 2 * h) (hz : 0 < z ∧ z ≤ 2 * h) : y = z := by
  obtain ⟨u, hu⟩ := h1
  obtain ⟨v, hv⟩ := h2
  have := small_dvd (cop_dvd (x := y - z) (hp.cop hx) ⟨u - v, by grind⟩) (by omega) (by omega)
  omega
theorem not_dvd {x : Int} (h1 : 0 < x) (h2 : x ≤ 2 * h) : ¬ (2 * (h : Int) + 1) ∣ x := fun z => by
  have := Int.le_of_dvd h1 z
  omega
theorem all_prod {a : Int} (ha : ¬ (2 * (h : Int) + 1) ∣ a) (hn : ∀ x : Int, ¬ (2 * (h : Int) + 1) ∣ x * x - a) : (2 * (h : Int) + 1) ∣ Pr (2 * h) (fun i => (i : Int) + 1) - a ^ h := by
  have := pairs (m := 2 * h + 1) (a := a) _ ((List.range (2 * h)).map fun i : Nat => (i : Int) + 1) (Nat.le_refl _) (nodup_mapI _ List.nodup_range fun x y e => by omega) (fun x hx => by
    have hx := mem_row.mp hx
    have nx := not_dvd hp (x := x) (by omega) (by omega)
    obtain ⟨j, hj, hd⟩ := solve (hp.cop nx) ha
    refine ⟨(j : Int) + 1, mem_row.mpr (by omega), ?_, hd⟩
    intro e
    rw [e] at hd
    exact hn x hd) (fun x hx y hy z hz h1 h2 => by
    have hx := mem_row.mp hx
    have hy := mem_row.mp hy
    have hz := mem_row.mp hz
    exact uniq hp (not_dvd hp (by omega) (by omega)) h1 h2 (by omega) (by omega))
  rw [← P_pl] at this
  simpa using this
theorem wilson : (2 * (h : Int) + 1) ∣ Pr (2 * h) (fun i => (i : Int) + 1) + 1 := by
  have h3 := hp.1
  obtain ⟨g, rfl⟩ : ∃ g, h = g + 1 := ⟨h - 1, by omega⟩
  have n1 : ¬ (2 * ((g + 1 : Nat) : Int) + 1) ∣ 1 := not_dvd hp (by omega) (by omega)
  have := pairs (m := 2 * ((g + 1 : Nat) : Int) + 1) (a := 1) _ ((List.range (2 * g)).map fun i : Nat => (i : Int) + 2) (Nat.le_refl _) (nodup_mapI _ List.nodup_range fun x y e => by omega) (fun x hx => by
    have hx := mem_row.mp hx
    have nx := not_dvd hp (x := x) (by omega) (by omega)
    obtain ⟨j, hj, hd⟩ := solve (hp.cop nx) n1
    refine ⟨(j : Int) + 1, mem_row.mpr ?_, ?_, hd⟩
    · by_cases j0 : j = 0
      · subst j0
        have := small_dvd (x := x - 1) (by simpa using hd) (by omega) (by omega)
        omega
      · by_cases j1 : j = 2 * g + 1
        · subst j1
          obtain ⟨u, hu⟩ := hd
          have := small_dvd (m := 2 * ((g + 1 : Nat) : Int) + 1) (x := -x - 1 + (2 * ((g + 1 : Nat) : Int) + 1)) ⟨u - x + 1, by grind⟩ (by omega) (by omega)
          omega
        · omega
    · intro e
      rw [e] at hd
      have hd2 : (2 * ((g + 1 : Nat) : Int) + 1) ∣ (x - 1) * (x + 1) := by
        rw [show (x - 1) * (x + 1) = x * x - 1 by grind]
        exact hd
      rcases hp.dvd_mul hd2 with q | q
      · exact not_dvd hp (by omega) (by omega) q
      · exact not_dvd hp (by omega) (by omega) q) (fun x hx y hy z hz h1 h2 => by
    have hx := mem_row.mp hx
    have hy := mem_row.mp hy
    have hz := mem_row.mp hz
    exact uniq hp (not_dvd hp (by omega) (by omega)) h1 h2 (by omega) (by omega))
  rw [← P_pl, Int.one_pow] at this
  obtain ⟨u, hu⟩ := this
  rw [show 2 * (g + 1) = 2 * g + 1 + 1 by omega]
  have e : Pr (2 * g + 1 + 1) (fun i => (i : Int) + 1) = Pr (2 * g) (fun i => (i : Int) + 2) * (2 * g + 2) := by
    rw [Pr, Pr_first]
    have : Pr (2 * g) (fun i => ((i + 1 : Nat) : Int) + 1) = Pr (2 * g) (fun i => (i : Int) + 2) := P_congr _ fun i _ => by omega
    rw [this]
    simp
    grind
  rw [e]
  exact ⟨u * (2 * g + 2) + 1, by push_cast at *; grind⟩
/-- the sign to a prime modulus is by squares -/
theorem euler {a : Int} (ha : ¬ (2 * (h : Int) + 1) ∣ a) : G a h = 1 ↔ ∃ x : Int, (2 * (h : Int) + 1) ∣ x * x - a := by
  constructor
  · intro hg
    refine Classical.byContradiction fun hn => ?_
    obtain ⟨u, hu⟩ := all_prod hp ha fun x hx => hn ⟨x, hx⟩
    obtain ⟨v, hv⟩ := wilson hp
    obtain ⟨w, hw⟩ := gauss hp ha
    rw [hg] at hw
    have : (2 * (h : Int) + 1) ∣ 2 := ⟨v - u - w, by grind⟩
    have := Int.le_of_dvd (by omega) this
    have := hp.1
    omega
  · rintro ⟨x, hx⟩
    rw [← G_congr hx, G_mul]
    have hc : Int.gcd x (2 * h + 1) = 1 := hp.cop fun z => ha (by
      have := Int.dvd_sub (Int.dvd_mul_of_dvd_left z (c := x)) hx
      rw [show x * x - (x * x - a) = a by omega] at this
      exact this)
    rcases G_pm hc with e | e <;> rw [e] <;> rfl
end
end QR
/-! part m_core -/
def sfL : List (Int × Nat) → Int
  | [] => 1
  | x :: l => (if x.2 % 2 = 1 then x.1 else 1) * sfL l
def sdL : List (Int × Nat) → Int
  | [] => 1
  | x :: l => x.1 ^ (x.2 / 2) * sdL l
theorem sf_sd : ∀ fs : List (Int × Nat), sfL fs * (sdL fs * sdL fs) = prodF fs
  | [] => rfl
  | x :: l => by
    have ih := sf_sd l
    simp only [sfL, sdL, prodF]
    rw [← ih]
    by_cases h : x.2 % 2 = 1
    · rw [if_pos h]
      have e : x.1 ^ x.2 = x.1 * (x.1 ^ (x.2 / 2) * x.1 ^ (x.2 / 2)) := by
        conv => lhs; rw [show x.2 = x.2 / 2 + x.2 / 2 + 1 by omega]
        rw [Int.pow_succ, Int.pow_add, Int.mul_comm]
      rw [e]
      grind
    · rw [if_neg h]
      have e : x.1 ^ x.2 = x.1 ^ (x.2 / 2) * x.1 ^ (x.2 / 2) := by
        conv => lhs; rw [show x.2 = x.2 / 2 + x.2 / 2 by omega]
        rw [Int.pow_add]
      rw [e]
      grind
theorem sdL_pos : ∀ {fs : List (Int × Nat)}, (∀ x, x ∈ fs → QR.Pm x.1 ∧ 1 ≤ x.2) → 1 ≤ sdL fs
  | [], _ => Int.le_refl _
  | x :: l, h => by
    have ih := sdL_pos fun y hy => h y (List.mem_cons_of_mem _ hy)
    have := (h x (List.mem_cons_self ..)).1.1
    simp only [sdL]
    exact Int.mul_pos (Int.pow_pos (by omega)) (by omega)
theorem prime_eq {p q : Int} (hp : QR.Pm p) (hq : QR.Pm q) (h : q ∣ p) : q = p := by
  have := Int.le_of_dvd (by have := hp.1; omega) h
  rcases Int.lt_or_le q p with z | z
  · exact absurd h (hp.2 q hq.1 z)
  · omega
theorem mem_of_dvd {q : Int} (hq : QR.Pm q) : ∀ {fs : List (Int × Nat)}, (∀ x, x ∈ fs → QR.Pm x.1 ∧ 1 ≤ x.2) → q ∣ sfL fs → ∃ x, x ∈ fs ∧ x.1 = q
  | [], _, h => by
    have : q ≤ 1 := Int.le_of_dvd (by decide) h
    have := hq.1
    omega
  | x :: l, hp, h => by
    simp only [sfL] at h
    rcases hq.dvd_mul h with z | z
    · split at z
      · exact ⟨x, List.mem_cons_self .., (prime_eq (hp x (List.mem_cons_self ..)).1 hq z).symm⟩
      · have := Int.le_of_dvd (by decide) z
        have := hq.1
        omega
    · obtain ⟨y, hy, e⟩ := mem_of_dvd hq (fun y hy => hp y (List.mem_cons_of_mem _ hy)) z
      exact ⟨y, List.mem_cons_of_mem _ hy, e⟩
theorem no_sq {q : Int} (hq : QR.Pm q) : ∀ {fs : List (Int × Nat)}, (∀ x, x ∈ fs → QR.Pm x.1 ∧ 1 ≤ x.2) → (fs.Pairwise fun a b => a.1 < b.1) → ¬ q * q ∣ sfL fs
  | [], _, _, h => by
    have : q ≤ 1 := Int.le_of_dvd (by decide) (Int.dvd_trans (Int.dvd_mul_right q q) h)
    have := hq.1
    omega
  | x :: l, hp, ha, h => by
    have hx := (hp x (List.mem_cons_self ..)).1
    have hl := fun y hy => hp y (List.mem_cons_of_mem _ hy)
    have ha' := List.pairwise_cons.mp ha
    simp only [sfL] at h
    by_cases ho : x.2 % 2 = 1
    · rw [if_pos ho] at h
      by_cases hqx : q = x.1
      · obtain ⟨c, hc⟩ := h
        have : q ∣ sfL l := ⟨c, by
          rw [hqx, Int.mul_assoc] at hc
          rw [hqx]
          exact Int.eq_of_mul_eq_mul_left (by have := hx.1; omega) hc⟩
        obtain ⟨y, hy, e⟩ := mem_of_dvd hq hl this
        have := ha'.1 y hy
        omega
      · have nd : ¬ q ∣ x.1 := fun z => hqx (prime_eq hx hq z)
        obtain ⟨c, hc⟩ := h
        have h1 : q ∣ sfL l := by
          rcases hq.dvd_mul (y := sfL l) (x := x.1) ⟨q * c, by rw [hc, Int.mul_assoc]⟩ with z | z
          · exact absurd z nd
          · exact z
        obtain ⟨d, hd⟩ := h1
        have h2 : q ∣ x.1 * d := ⟨c, by
          rw [hd] at hc
          refine Int.eq_of_mul_eq_mul_left (a := q) (by have := hq.1; omega) ?_
          grind⟩
        rcases hq.dvd_mul h2 with z | z
        · exact nd z
        · obtain ⟨g, hg⟩ := z
          exact no_sq hq hl ha'.2 ⟨g, by rw [hd, hg, Int.mul_assoc]⟩
    · rw [if_neg ho, Int.one_mul] at h
      exact no_sq hq hl ha'.2 h
theorem prime_in : ∀ (n : Nat) (k : Int), 2 ≤ k → k ≤ n → ∃ q, QR.Pm q ∧ q ∣ k
  | 0, k, h1, h2 => by omega
  | n + 1, k, h1, h2 => by
    by_cases hp : QR.Pm k
    · exact ⟨k, hp, Int.dvd_refl k⟩
    · have : ∃ d : Int, 2 ≤ d ∧ d < k ∧ d ∣ k := Classical.byContradiction fun hn => hp ⟨h1, fun d a b c => hn ⟨d, a, b, c⟩⟩
      obtain ⟨d, a, b, c⟩ := this
      obtain ⟨q, hq, hd⟩ := prime_in n d a (by omega)
      exact ⟨q, hq, Int.dvd_trans hd c⟩
/-- a number without square divisors, times a square -/
structure CoreOk (n s r : Int) : Prop where
  prod : s * r * r = n
  pos : 1 ≤ r
  free : ∀ k : Int, 2 ≤ k → ¬ k * k ∣ s
theorem core_ok {n : Int} {fs : List (Int × Nat)} (h : FacOk (if n < 0 then -n else n) fs) : CoreOk n ((if n < 0 then -1 else 1) * sfL fs) (sdL fs) := by
  have hs := sf_sd fs
  rw [h.prod] at hs
  refine ⟨?_, sdL_pos h.prime, fun k hk hd => ?_⟩
  · split at hs <;> split <;> grind
  · obtain ⟨q, hq, hqk⟩ := prime_in k.toNat k hk (by omega)
    have h1 : q * q ∣ sfL fs := by
      have h2 : k * k ∣ sfL fs := by
        split at hd
        · rw [Int.neg_mul, Int.one_mul] at hd
          exact Int.dvd_neg.mp hd
        · rw [Int.one_mul] at hd
          exact hd
      exact Int.dvd_trans (Int.mul_dvd_mul hqk hqk) h2
    exact no_sq hq h.prime h.asc h1
theorem pow_le_prod : ∀ {fs : List (Int × Nat)}, (∀ x, x ∈ fs → QR.Pm x.1 ∧ 1 ≤ x.2) → ∀ x, x ∈ fs → x.1 ^ x.2 ≤ prodF fs
  | [], _, _, hx => absurd hx List.not_mem_nil
  | y :: l, h, x, hx => by
    have hy := (h y (List.mem_cons_self ..))
    have hl := fun z hz => h z (List.mem_cons_of_mem _ hz)
    have b := prodF_big l hl
    have p0 : (0 : Int) < 2 ^ l.length := Int.pow_pos (by decide)
    have p1 : (1 : Int) ≤ y.1 ^ y.2 := Int.pow_pos (by have := hy.1.1; omega)
    simp only [prodF]
    rcases List.mem_cons.mp hx with e | e
    · rw [e]
      have : y.1 ^ y.2 * 1 ≤ y.1 ^ y.2 * prodF l := Int.mul_le_mul_of_nonneg_left (by omega) (by omega)
      omega
    · have ih := pow_le_prod hl x e
      have : 1 * prodF l ≤ y.1 ^ y.2 * prodF l := Int.mul_le_mul_of_nonneg_right p1 (by omega)
      omega
theorem fac_small {n : Int} {fs : List (Int × Nat)} (h : FacOk n fs) (hn : n < 2 ^ 60) {x : Int × Nat} (hx : x ∈ fs) : 2 ≤ x.1 ∧ x.1 < 2 ^ 60 ∧ 1 ≤ x.2 ∧ x.2 < 60 := by
  have a := pow_le_prod h.prime x hx
  rw [h.prod] at a
  obtain ⟨p, e⟩ := h.prime x hx
  have p1 := p.1
  refine ⟨p1, ?_, e, ?_⟩
  · obtain ⟨k, hk⟩ : ∃ k, x.2 = k + 1 := ⟨x.2 - 1, by omega⟩
    rw [hk, Int.pow_succ] at a
    have q : (1 : Int) ≤ x.1 ^ k := Int.pow_pos (by omega)
    have : 1 * x.1 ≤ x.1 ^ k * x.1 := Int.mul_le_mul_of_nonneg_right q (by omega)
    omega
  · rcases Nat.lt_or_ge x.2 60 with z | z
    · exact z
    · exfalso
      have b1 : (2 : Int) ^ 60 ≤ 2 ^ x.2 := by
        have := Nat.pow_le_pow_right (show 0 < 2 by decide) z
        exact_mod_cast this
      have b2 : (2 : Int) ^ x.2 ≤ x.1 ^ x.2 := by
        have := Nat.pow_le_pow_left (show 2 ≤ x.1.toNat by omega) x.2
        have e : ((x.1.toNat : Nat) : Int) = x.1 := by omega
        rw [← e]
        exact_mod_cast this
      omega
theorem core_uniq {s r s2 r2 : Int} (hr : 1 ≤ r) (hr2 : 1 ≤ r2) (hf : ∀ k : Int, 2 ≤ k → ¬ k * k ∣ s) (hf2 : ∀ k : Int, 2 ≤ k → ¬ k * k ∣ s2) (e : s * r * r = s2 * r2 * r2) : s = s2 ∧ r = r2 := by
  obtain ⟨a, ha⟩ := Int.gcd_dvd_left r r2
  obtain ⟨b, hb⟩ := Int.gcd_dvd_right r r2
  have g0 : 0 < Int.gcd r r2 := Int.gcd_pos_of_ne_zero_left _ (by omega)
  have hc : Int.gcd a b = 1 := by
    have h1 : Int.gcd ((Int.gcd r r2 : Nat) * a) ((Int.gcd r r2 : Nat) * b) = Int.gcd r r2 := by rw [← ha, ← hb]
    rw [Int.gcd_mul_left] at h1
    have h2 : (((Int.gcd r r2 : Nat)) : Int).natAbs = Int.gcd r r2 := by omega
    rw [h2] at h1
    exact Nat.eq_of_mul_eq_mul_left g0 (by rw [h1, Nat.mul_one])
  generalize hg : (Int.gcd r r2 : Nat) = g at *
  have gp : (0 : Int) < g := by omega
  have a1 : 1 ≤ a := by
    rcases Int.lt_or_le 0 a with z | z
    · exact z
    · have : (g : Int) * a ≤ g * 0 := Int.mul_le_mul_of_nonneg_left z (by omega)
      omega
  have b1 : 1 ≤ b := by
    rcases Int.lt_or_le 0 b with z | z
    · exact z
    · have : (g : Int) * b ≤ g * 0 := Int.mul_le_mul_of_nonneg_left z (by omega)
      omega
  have e2 : s * (a * a) = s2 * (b * b) := by
    refine Int.eq_of_mul_eq_mul_left (a := (g : Int) * g) (by have := Int.mul_pos gp gp; omega) ?_
    rw [ha, hb] at e
    grind
  have hcb : Int.gcd b a = 1 := by rw [Int.gcd_comm]; exact hc
  have da : a * a ∣ s2 := by
    have h1 : a ∣ b * (b * s2) := ⟨s * a, by grind⟩
    obtain ⟨c, hc1⟩ := QR.cop_dvd hcb (QR.cop_dvd hcb h1)
    have h2 : a ∣ b * (b * c) := ⟨s, by
      refine Int.eq_of_mul_eq_mul_left (a := a) (by omega) ?_
      grind⟩
    obtain ⟨d, hd⟩ := QR.cop_dvd hcb (QR.cop_dvd hcb h2)
    exact ⟨d, by rw [hc1, hd, Int.mul_assoc]⟩
  have db : b * b ∣ s := by
    have h1 : b ∣ a * (a * s) := ⟨s2 * b, by grind⟩
    obtain ⟨c, hc1⟩ := QR.cop_dvd hc (QR.cop_dvd hc h1)
    have h2 : b ∣ a * (a * c) := ⟨s2, by
      refine Int.eq_of_mul_eq_mul_left (a := b) (by omega) ?_
      grind⟩
    obtain ⟨d, hd⟩ := QR.cop_dvd hc (QR.cop_dvd hc h2)
    exact ⟨d, by rw [hc1, hd, Int.mul_assoc]⟩
  have ea : a = 1 := by
    rcases Int.lt_or_le a 2 with z | z
    · omega
    · exact absurd da (hf2 a z)
  have eb : b = 1 := by
    rcases Int.lt_or_le b 2 with z | z
    · omega
    · exact absurd db (hf b z)
  subst ea eb
  refine ⟨by omega, by rw [ha, hb]⟩
theorem CoreOk.uniq {n s r s2 r2 : Int} (h : CoreOk n s r) (h2 : CoreOk n s2 r2) : s = s2 ∧ r = r2 := core_uniq h.pos h2.pos h.free h2.free (h.prod.trans h2.prod.symm)
theorem CoreOk.bound {n s r B : Int} (h : CoreOk n s r) (h0 : n ≠ 0) (h1 : -B ≤ n) (h2 : n ≤ B) : s ≠ 0 ∧ -B ≤ s ∧ s ≤ B ∧ r ≤ B := by
  have hp := h.prod
  have hr := h.pos
  have hr2 : 1 ≤ r * r := Int.mul_pos (by omega) (by omega)
  have hr3 : r ≤ r * r := by
    have : r * 1 ≤ r * r := Int.mul_le_mul_of_nonneg_left hr (by omega)
    omega
  rw [Int.mul_assoc] at hp
  rcases Int.lt_trichotomy s 0 with z | z | z
  · have a : 1 * (r * r) ≤ -s * (r * r) := Int.mul_le_mul_of_nonneg_right (by omega) (by omega)
    have b : -s * 1 ≤ -s * (r * r) := Int.mul_le_mul_of_nonneg_left hr2 (by omega)
    simp only [Int.neg_mul] at a b
    omega
  · rw [z, Int.zero_mul] at hp
    omega
  · have a : 1 * (r * r) ≤ s * (r * r) := Int.mul_le_mul_of_nonneg_right (by omega) (by omega)
    have b : s * 1 ≤ s * (r * r) := Int.mul_le_mul_of_nonneg_left hr2 (by omega)
    omega
theorem CoreOk.self {n s r : Int} (h : CoreOk n s r) : CoreOk s s 1 := ⟨by omega, by decide, h.free⟩
/-! part m_sq -/
open QR in
theorem sq_mem {p n : Int} (hp : QR.OP p) (hn : ¬ n % p = 0) : (n % p ∈ (List.range (p - 1).toNat).map (fun i : Nat => (1 + (i : Int)) * (1 + (i : Int)) % p)) ↔ sgn n p = 1 := by
  have p3 := hp.three
  obtain ⟨h, rfl⟩ := odd_half (by omega) hp.2
  rw [sgn_G, euler hp.1 (fun z => hn (Int.emod_eq_zero_of_dvd z)), List.mem_map]
  constructor
  · rintro ⟨i, _, e⟩
    exact ⟨1 + i, Int.dvd_of_emod_eq_zero (Int.emod_eq_emod_iff_emod_sub_eq_zero.mp e)⟩
  · rintro ⟨x, hx⟩
    have h0 := rem_lo h x
    have h1 := rem_hi h x
    have hz : x % (2 * (h : Int) + 1) ≠ 0 := by
      intro z
      obtain ⟨u, hu⟩ := Int.dvd_of_emod_eq_zero z
      obtain ⟨v, hv⟩ := hx
      exact hn (Int.emod_eq_zero_of_dvd ⟨u * x - v, by grind⟩)
    refine ⟨(x % (2 * h + 1) - 1).toNat, List.mem_range.mpr (by omega), ?_⟩
    rw [show 1 + (((x % (2 * h + 1) - 1).toNat : Nat) : Int) = x % (2 * h + 1) by omega]
    obtain ⟨u, hu⟩ := dvd_rem h x
    obtain ⟨v, hv⟩ := hx
    refine Int.emod_eq_emod_iff_emod_sub_eq_zero.mpr (Int.emod_eq_zero_of_dvd ⟨v - u * x - u * (x % (2 * h + 1)), ?_⟩)
    grind
theorem sgn_away {p n : Int} (hp : QR.OP p) (hn : ¬ n % p = 0) : sgn n p = 1 ∨ sgn n p = -1 :=
  sgn_pm (by have := hp.three; omega) hp.2 (hp.1.cop fun z => hn (Int.emod_eq_zero_of_dvd z))
theorem sgn_at0 {p n : Int} (hp : QR.OP p) (hn : n % p = 0) : sgn n p = 0 :=
  (sgn_zero (by have := hp.three; omega) hp.2).mpr fun z => by
    have := hp.three
    have hd := Int.dvd_of_emod_eq_zero hn
    have h1 : p ∣ ((Int.gcd n p : Nat) : Int) := Int.dvd_coe_gcd hd (Int.dvd_refl p)
    rw [z] at h1
    have := Int.le_of_dvd (by decide) h1
    omega
theorem sgn_1 (n : Int) : sgn n 1 = 1 := by
  unfold sgn
  rw [Int.emod_one, show (0 : Int).toNat = 0 from rfl, show (1 : Int).toNat = 1 from rfl, jac_zero, if_pos rfl]
/-! part m_cop -/
namespace QR
theorem exists_pm : ∀ (n : Nat), 2 ≤ n → ∃ p : Int, Pm p ∧ p ∣ (n : Int) := by
  intro n
  induction n using Nat.strongRecOn with
  | _ n ih =>
    intro h2
    by_cases hp : Pm (n : Int)
    · exact ⟨n, hp, Int.dvd_refl _⟩
    · have : ∃ d : Int, 2 ≤ d ∧ d < n ∧ d ∣ (n : Int) := Classical.byContradiction fun h => hp ⟨by omega, fun d a b c => h ⟨d, a, b, c⟩⟩
      obtain ⟨d, a, b, c⟩ := this
      obtain ⟨p, q1, q2⟩ := ih d.toNat (by omega) (by omega)
      rw [show ((d.toNat : Nat) : Int) = d by omega] at q2
      exact ⟨p, q1, Int.dvd_trans q2 c⟩
theorem dvd_gcd {d x m : Int} (h : d ∣ x) (k : d ∣ m) : d ∣ ((Int.gcd x m : Nat) : Int) := Int.dvd_coe_gcd h k
/-- coprime: no prime divides both -/
theorem cop_iff {x m : Int} : Int.gcd x m = 1 ↔ ∀ p : Int, Pm p → p ∣ x → ¬ p ∣ m := by
  constructor
  · intro h p hp a b
    have := dvd_gcd a b
    rw [h] at this
    have := Int.le_of_dvd (by decide) this
    have := hp.1
    omega
  · intro h
    rcases Nat.lt_or_ge (Int.gcd x m) 2 with z | z
    · rcases Nat.lt_or_ge 0 (Int.gcd x m) with y | y
      · omega
      · exfalso
        have e : Int.gcd x m = 0 := by omega
        obtain ⟨e1, e2⟩ := Int.gcd_eq_zero_iff.mp e
        subst e1 e2
        exact h 2 pm_two (Int.dvd_zero 2) (Int.dvd_zero 2)
    · obtain ⟨p, hp, hd⟩ := exists_pm _ z
      exact absurd (Int.dvd_trans hd (Int.gcd_dvd_right ..)) (h p hp (Int.dvd_trans hd (Int.gcd_dvd_left ..)))
theorem cop_dvd_right {x m n : Int} (h : Int.gcd x m = 1) (d : n ∣ m) : Int.gcd x n = 1 := cop_iff.mpr fun p hp a b => cop_iff.mp h p hp a (Int.dvd_trans b d)
theorem cop_congr {x y m : Int} (h : m ∣ x - y) : Int.gcd x m = 1 ↔ Int.gcd y m = 1 := by
  have key : ∀ x y : Int, m ∣ x - y → Int.gcd x m = 1 → Int.gcd y m = 1 := fun x y h hx => cop_iff.mpr fun p hp a b => cop_iff.mp hx p hp (by
    have := Int.dvd_add (Int.dvd_trans b h) a
    rwa [Int.sub_add_cancel] at this) b
  refine ⟨key x y h, key y x ?_⟩
  obtain ⟨k, hk⟩ := h
  exact ⟨-k, by rw [Int.mul_neg, ← hk]; omega⟩
theorem dvd_sub_emod (x m : Int) : m ∣ x - x % m := ⟨x / m, by have := Int.mul_ediv_add_emod x m; omega⟩
theorem cop_emod {x m : Int} : Int.gcd (x % m) m = 1 ↔ Int.gcd x m = 1 := (cop_congr (dvd_sub_emod x m)).symm
theorem cop_mul {x m n : Int} (h : Int.gcd x m = 1) (k : Int.gcd x n = 1) : Int.gcd x (m * n) = 1 := cop_iff.mpr fun p hp a b => (Pm.dvd_mul hp b).elim (cop_iff.mp h p hp a) (cop_iff.mp k p hp a)
theorem emod_eq_of_dvd {x y m : Int} (h : m ∣ x - y) : x % m = y % m := Int.emod_eq_emod_iff_emod_sub_eq_zero.mpr (Int.emod_eq_zero_of_dvd h)
theorem dvd_of_emod_eq {x y m : Int} (h : x % m = y % m) : m ∣ x - y := Int.dvd_of_emod_eq_zero (Int.emod_eq_emod_iff_emod_sub_eq_zero.mp h)
theorem pm_cop {p m : Int} (hp : Pm p) : Int.gcd p m = 1 ↔ ¬ p ∣ m := by
  constructor
  · intro h d
    exact cop_iff.mp h p hp (Int.dvd_refl p) d
  · intro h
    refine cop_iff.mpr fun q hq a b => ?_
    have q2 := hq.1
    have hle := Int.le_of_dvd (by have := hp.1; omega) a
    rcases Int.lt_or_eq_of_le hle with z | z
    · exact hp.2 q q2 z a
    · exact h (z ▸ b)
end QR
/-- the ints from 0 on below m coprime to it -/
def uL (m : Int) : List Int := ((List.range m.toNat).map (fun i : Nat => (i : Int))).filter (fun r => decide (Int.gcd r m = 1))
theorem mem_uL {m k : Int} : k ∈ uL m ↔ 0 ≤ k ∧ k < m ∧ Int.gcd k m = 1 := by
  unfold uL
  rw [List.mem_filter, decide_eq_true_iff, List.mem_map]
  constructor
  · rintro ⟨⟨i, hi, rfl⟩, h⟩
    rw [List.mem_range] at hi
    exact ⟨by omega, by omega, h⟩
  · rintro ⟨a, b, h⟩
    exact ⟨⟨k.toNat, List.mem_range.mpr (by omega), by omega⟩, h⟩
theorem uL_inc {m : Int} : (uL m).Pairwise (· < ·) := by
  unfold uL
  refine List.Pairwise.filter _ (List.pairwise_map.mpr ?_)
  exact List.pairwise_lt_range.imp fun h => by omega
theorem uL_len {m : Int} : (uL m).length ≤ m.toNat := by
  unfold uL
  refine Nat.le_trans (List.length_filter_le _ _) ?_
  rw [List.length_map, List.length_range]
  exact Nat.le_refl _
/-! part m_period -/
/-- the sign depends on the clock modulo four times the number -/
theorem sgn_period : ∀ (k : Nat) {n m t : Int}, n.natAbs ≤ k → 1 ≤ n → 1 ≤ m → m % 2 = 1 → 1 ≤ t → t % 2 = 1 → 4 * n ∣ m - t → sgn n m = sgn n t := by
  intro k
  induction k with
  | zero => intro n m t hk h1; omega
  | succ k ih =>
    intro n m t hk h1 m1 m2 t1 t2 hd
    obtain ⟨c, hc⟩ := hd
    rcases Int.emod_two_eq n with e | e
    · have e2 : n = 2 * (n / 2) := by omega
      have hd2 : 4 * (n / 2) ∣ m - t := ⟨2 * c, by rw [hc]; grind⟩
      have h8 : (8 : Int) ∣ m - t := ⟨n / 2 * c, by rw [hc]; grind⟩
      rw [e2, sgn_mul m1 m2, sgn_mul t1 t2, ih (by omega) (by omega) m1 m2 t1 t2 hd2, sgn_two m1 m2, sgn_two t1 t2]
      have : m % 8 = t % 8 := Int.emod_eq_emod_iff_emod_sub_eq_zero.mpr (Int.emod_eq_zero_of_dvd h8)
      rw [this]
    · have h4 : (4 : Int) ∣ m - t := ⟨n * c, by rw [hc]; grind⟩
      have hn : n ∣ m - t := ⟨4 * c, by rw [hc]; grind⟩
      have : m % 4 = t % 4 := Int.emod_eq_emod_iff_emod_sub_eq_zero.mpr (Int.emod_eq_zero_of_dvd h4)
      rw [sgn_turn m1 m2 h1 e, sgn_turn t1 t2 h1 e, this, sgn_congr h1 e hn]
theorem sgn_per {n m t : Int} (h1 : 1 ≤ n) (m1 : 1 ≤ m) (m2 : m % 2 = 1) (t1 : 1 ≤ t) (t2 : t % 2 = 1) (h : 4 * n ∣ m - t) : sgn n m = sgn n t := sgn_period _ (Nat.le_refl _) h1 m1 m2 t1 t2 h
theorem sgn_perN {n m t : Int} (h1 : 1 ≤ n) (m1 : 1 ≤ m) (m2 : m % 2 = 1) (t1 : 1 ≤ t) (t2 : t % 2 = 1) (h : 4 * n ∣ m - t) : sgn (-n) m = sgn (-n) t := by
  have e : m % 4 = t % 4 := by
    obtain ⟨c, hc⟩ := h
    exact Int.emod_eq_emod_iff_emod_sub_eq_zero.mpr (Int.emod_eq_zero_of_dvd ⟨n * c, by rw [hc]; grind⟩)
  rw [show -n = -1 * n by omega, sgn_mul m1 m2, sgn_mul t1 t2, sgn_per h1 m1 m2 t1 t2 h, sgn_neg1 m1 m2, sgn_neg1 t1 t2, e]
/-! part m_germ -/
/-- rests modulo m tell no less modulo s -/
def Lv (m : Int) (R : List Int) (s : Int) : Prop := ∀ x y : Int, Int.gcd x m = 1 → Int.gcd y m = 1 → s ∣ x - y → (x % m ∈ R ↔ y % m ∈ R)
/-- the same told by a smaller modulus -/
structure Sub (m : Int) (R : List Int) (m' : Int) (R' : List Int) : Prop where
  dvd : m' ∣ m
  same : ∀ x : Int, Int.gcd x m = 1 → (x % m' ∈ R' ↔ x % m ∈ R)
theorem Sub.refl (m : Int) (R : List Int) : Sub m R m R := ⟨Int.dvd_refl m, fun _ _ => Iff.rfl⟩
theorem Sub.trans {m m1 m2 : Int} {R R1 R2 : List Int} (a : Sub m R m1 R1) (b : Sub m1 R1 m2 R2) : Sub m R m2 R2 := ⟨Int.dvd_trans b.dvd a.dvd, fun x h => (b.same x (QR.cop_dvd_right h a.dvd)).trans (a.same x h)⟩
structure Desc (m : Int) (R S : List Int) : Prop where
  pos : 1 ≤ m
  rests : ∀ r ∈ R, 0 ≤ r ∧ r < m ∧ Int.gcd r m = 1
  singles : ∀ p ∈ S, QR.OP p
def toldP (m : Int) (R : List Int) (p : Int) : Prop := ¬ p ∣ m ∧ p % m ∈ R
instance (m : Int) (R : List Int) (p : Int) : Decidable (toldP m R p) := inferInstanceAs (Decidable (¬ p ∣ m ∧ p % m ∈ R))
def memP (m : Int) (R S : List Int) (p : Int) : Prop := ¬ (toldP m R p ↔ p ∈ S)
instance (m : Int) (R S : List Int) (p : Int) : Decidable (memP m R S p) := inferInstanceAs (Decidable (¬ (toldP m R p ↔ p ∈ S)))
/-- what shortening shows -/
structure Short (m : Int) (R : List Int) (s : Int) (L : List Int) : Prop where
  inc : L.Pairwise (· < ·)
  mem : ∀ k ∈ L, k ∈ uL s
  same : ∀ x : Int, Int.gcd x m = 1 → (x % s ∈ L ↔ x % m ∈ R)
def liftsL (r s q : Int) : List Int := (List.range q.toNat).map fun k : Nat => r + (0 + (k : Int)) * s
def lftL (m r s q : Int) : List Int := (liftsL r s q).filter fun l => decide (Int.gcd l m = 1)
section
variable {m s q r : Int} {R : List Int}
theorem mem_lifts {l : Int} : l ∈ liftsL r s q ↔ ∃ k : Int, 0 ≤ k ∧ k < q ∧ l = r + k * s := by
  unfold liftsL
  rw [List.mem_map]
  constructor
  · rintro ⟨k, hk, rfl⟩
    rw [List.mem_range] at hk
    exact ⟨k, by omega, by omega, by rw [Int.zero_add]⟩
  · rintro ⟨k, a, b, rfl⟩
    exact ⟨k.toNat, List.mem_range.mpr (by omega), by rw [Int.zero_add, show ((k.toNat : Nat) : Int) = k by omega]⟩
theorem lift_bound {k : Int} (hs : 0 < s) (hm : m = s * q) (r0 : 0 ≤ r) (r1 : r < s) (k0 : 0 ≤ k) (k1 : k < q) : 0 ≤ r + k * s ∧ r + k * s < m := by
  have a : 0 ≤ k * s := Int.mul_nonneg k0 (by omega)
  have b : k * s ≤ (q - 1) * s := Int.mul_le_mul_of_nonneg_right (by omega) (by omega)
  have c : (q - 1) * s = s * q - s := by grind
  omega
theorem lift_mod {k : Int} (r0 : 0 ≤ r) (r1 : r < s) : (r + k * s) % s = r := by
  rw [Int.add_mul_emod_self_right, Int.emod_eq_of_lt r0 r1]
/-- a coprime lift there is -/
theorem lft_ne (hq : QR.Pm q) (hs : 0 < s) (hm : m = s * q) (hr : r ∈ uL s) : lftL m r s q ≠ [] := by
  obtain ⟨r0, r1, rc⟩ := mem_uL.mp hr
  have q2 := hq.1
  have c0 : ∀ k : Int, Int.gcd (r + k * s) s = 1 := fun k => (QR.cop_congr (y := r) ⟨k, by rw [Int.mul_comm]; omega⟩).mpr rc
  have : ∃ k : Int, 0 ≤ k ∧ k < q ∧ Int.gcd (r + k * s) m = 1 := by
    by_cases a : q ∣ r
    · refine ⟨1, by omega, by omega, ?_⟩
      rw [hm]
      refine QR.cop_mul (c0 1) (QR.cop_iff.mpr fun p hp b c => ?_)
      have pq : p = q := by
        rcases Int.lt_or_eq_of_le (Int.le_of_dvd (by omega) c) with z | z
        · exact absurd c (hq.2 p hp.1 z)
        · exact z
      subst pq
      have d : p ∣ s := by
        have := Int.dvd_sub b a
        rwa [Int.one_mul, Int.add_comm, Int.add_sub_cancel] at this
      exact QR.cop_iff.mp rc p hp a d
    · refine ⟨0, by omega, by omega, ?_⟩
      rw [hm, Int.zero_mul, Int.add_zero]
      refine QR.cop_mul rc (QR.cop_iff.mpr fun p hp b c => ?_)
      have pq : p = q := by
        rcases Int.lt_or_eq_of_le (Int.le_of_dvd (by omega) c) with z | z
        · exact absurd c (hq.2 p hp.1 z)
        · exact z
      exact a (pq ▸ b)
  obtain ⟨k, k0, k1, kc⟩ := this
  intro e
  have : r + k * s ∈ lftL m r s q := List.mem_filter.mpr ⟨mem_lifts.mpr ⟨k, k0, k1, rfl⟩, decide_eq_true kc⟩
  rw [e] at this
  cases this
theorem lft_prop (hs : 0 < s) (hm : m = s * q) (hr : r ∈ uL s) {l : Int} (hl : l ∈ lftL m r s q) : Int.gcd l m = 1 ∧ l % m = l ∧ l % s = r := by
  obtain ⟨r0, r1, rc⟩ := mem_uL.mp hr
  obtain ⟨a, b⟩ := List.mem_filter.mp hl
  obtain ⟨k, k0, k1, rfl⟩ := mem_lifts.mp a
  obtain ⟨b0, b1⟩ := lift_bound hs hm r0 r1 k0 k1
  exact ⟨of_decide_eq_true b, Int.emod_eq_of_lt b0 b1, lift_mod r0 r1⟩
theorem lft_all (hs : 0 < s) (hq : 0 < q) (hm : m = s * q) {x : Int} (hx : Int.gcd x m = 1) (hr : x % s = r) : x % m ∈ lftL m r s q := by
  have m0 : 0 < m := by rw [hm]; exact Int.mul_pos hs hq
  have e0 := Int.emod_nonneg x (show m ≠ 0 by omega)
  have e1 := Int.emod_lt_of_pos x m0
  refine List.mem_filter.mpr ⟨mem_lifts.mpr ⟨x % m / s, ?_, ?_, ?_⟩, decide_eq_true (QR.cop_emod.mpr hx)⟩
  · exact Int.ediv_nonneg e0 (by omega)
  · exact Int.ediv_lt_of_lt_mul hs (by rw [Int.mul_comm]; omega)
  · have e2 : x % m % s = r := by rw [← hr]; exact Int.emod_emod_of_dvd x ⟨q, hm⟩
    have := Int.mul_ediv_add_emod (x % m) s
    rw [e2] at this
    rw [Int.mul_comm (x % m / s)]
    omega
theorem unit_of (h : s ∣ m) {x : Int} (hs : 0 < s) (hx : Int.gcd x m = 1) : x % s ∈ uL s := mem_uL.mpr ⟨Int.emod_nonneg x (by omega), Int.emod_lt_of_pos x hs, QR.cop_emod.mpr (QR.cop_dvd_right hx h)⟩
/-- kept so far: of the units in us -/
structure Kept (m : Int) (R : List Int) (s : Int) (us L : List Int) : Prop where
  inc : L.Pairwise (· < ·)
  mem : ∀ k ∈ L, k ∈ us
  same : ∀ x : Int, Int.gcd x m = 1 → x % s ∈ us → (x % s ∈ L ↔ x % m ∈ R)
theorem Kept.nil : Kept m R s [] [] := ⟨List.Pairwise.nil, fun _ h => absurd h List.not_mem_nil, fun _ _ h => absurd h List.not_mem_nil⟩
theorem Kept.put {us L : List Int} (h : Kept m R s us L) (hlt : ∀ k ∈ us, k < r) (hall : ∀ x : Int, Int.gcd x m = 1 → x % s = r → x % m ∈ R) : Kept m R s (us ++ [r]) (L ++ [r]) := by
  refine ⟨List.pairwise_append.mpr ⟨h.inc, List.pairwise_singleton .., fun a ha b hb => by rw [List.mem_singleton.mp hb]; exact hlt a (h.mem a ha)⟩, fun k hk => ?_, fun x hx hu => ?_⟩
  · rcases List.mem_append.mp hk with hk | hk
    · exact List.mem_append_left _ (h.mem k hk)
    · exact List.mem_append_right _ hk
  · rcases List.mem_append.mp hu with hu | hu
    · rw [List.mem_append, ← h.same x hx hu, List.mem_singleton]
      refine ⟨fun z => z.elim id fun e => ?_, .inl⟩
      have := hlt _ hu
      omega
    · have e := List.mem_singleton.mp hu
      exact ⟨fun _ => hall x hx e, fun _ => List.mem_append_right _ hu⟩
theorem Kept.skip {us L : List Int} (h : Kept m R s us L) (hlt : ∀ k ∈ us, k < r) (hall : ∀ x : Int, Int.gcd x m = 1 → x % s = r → x % m ∉ R) : Kept m R s (us ++ [r]) L := by
  refine ⟨h.inc, fun k hk => List.mem_append_left _ (h.mem k hk), fun x hx hu => ?_⟩
  rcases List.mem_append.mp hu with hu | hu
  · exact h.same x hx hu
  · have e := List.mem_singleton.mp hu
    refine ⟨fun z => ?_, fun z => absurd z (hall x hx e)⟩
    have := hlt _ (h.mem _ z)
    omega
theorem Kept.done {L : List Int} (h : Kept m R s (uL s) L) (hd : s ∣ m) (hs : 0 < s) : Short m R s L := ⟨h.inc, h.mem, fun x hx => h.same x hx (unit_of hd hs hx)⟩
theorem Short.lv {L : List Int} (h : Short m R s L) : Lv m R s := fun x y hx hy d => by
  rw [← h.same x hx, ← h.same y hy, QR.emod_eq_of_dvd d]
theorem Short.sub {L : List Int} (h : Short m R s L) (hd : s ∣ m) : Sub m R s L := ⟨hd, h.same⟩
/-- what stays told no less by a divisor stays so ahead of a shortening -/
theorem Lv.up {m' s' : Int} {R' : List Int} (h : Sub m R m' R') (l : Lv m' R' s') (hd : s' ∣ s) : Lv m R s := fun x y hx hy d => by
  rw [← h.same x hx, ← h.same y hy]
  exact l x y (QR.cop_dvd_right hx h.dvd) (QR.cop_dvd_right hy h.dvd) (Int.dvd_trans hd d)
end
/-- a single prime changes sides -/
def togL (S : List Int) (p : Int) : List Int := if p ∈ S then S.filter (fun o => !decide (o = p)) else S ++ [p]
theorem mem_tog {S : List Int} {p k : Int} : k ∈ togL S p ↔ if k = p then p ∉ S else k ∈ S := by
  unfold togL
  by_cases h : p ∈ S
  · rw [if_pos h]
    by_cases e : k = p
    · subst e
      simp [h]
    · simp [e]
  · rw [if_neg h]
    by_cases e : k = p
    · subst e
      simp [h]
    · simp [e]
theorem tog_nodup {S : List Int} {p : Int} (h : S.Nodup) : (togL S p).Nodup := by
  unfold togL
  split
  · exact h.filter _
  · rename_i hp
    refine List.nodup_append.mpr ⟨h, by simp, fun a ha b hb e => hp ?_⟩
    rw [List.mem_singleton] at hb
    rw [← hb, ← e]
    exact ha
theorem tog_len {S : List Int} {p : Int} : (togL S p).length ≤ S.length + 1 := by
  unfold togL
  split
  · exact Nat.le_succ_of_le (List.length_filter_le _ _)
  · simp
/-- the singles behind a shortening by q -/
def nextS (m : Int) (L S : List Int) (q : Int) : List Int := if q ≠ 2 ∧ toldP m L q then togL S q else S
/-- an odd prime, or coprime to the modulus -/
def PrOk (m p : Int) : Prop := QR.OP p ∨ (2 ≤ p ∧ Int.gcd p m = 1)
theorem PrOk.two {m p : Int} (h : PrOk m p) : 2 ≤ p := h.elim (fun h => h.1.1) (·.1)
theorem PrOk.cop {m p : Int} (h : PrOk m p) (d : ¬ p ∣ m) : Int.gcd p m = 1 := h.elim (fun h => (QR.pm_cop h.1).mpr d) (·.2)
theorem PrOk.dvd {m m' p : Int} (h : PrOk m p) (d : m' ∣ m) : PrOk m' p := h.imp_right fun h => ⟨h.1, QR.cop_dvd_right h.2 d⟩
theorem PrOk.ndvd {m p : Int} (h2 : 2 ≤ p) (h : Int.gcd p m = 1) : ¬ p ∣ m := fun d => by
  have e := QR.dvd_gcd (Int.dvd_refl p) d
  rw [h] at e
  have := Int.le_of_dvd (by decide) e
  omega
theorem memP_next {m q : Int} {R L S : List Int} (hq : QR.Pm q) (hs : 1 ≤ m / q) (hd : q ∣ m) (h : Short m R (m / q) L) {p : Int} (hp : PrOk m p) : memP (m / q) L (nextS (m / q) L S q) p ↔ memP m R S p := by
  have hm : m = m / q * q := (Int.ediv_mul_cancel hd).symm
  unfold memP nextS
  by_cases e : p = q
  · subst e
    have op : QR.OP p := hp.elim id fun z => absurd hd (PrOk.ndvd z.1 z.2)
    have p2 : p ≠ 2 := fun z => by have := op.2; omega
    have t0 : ¬ toldP m R p := fun z => z.1 hd
    by_cases t : toldP (m / p) L p
    · rw [if_pos ⟨p2, t⟩, mem_tog, if_pos rfl]
      simp [t, t0]
    · rw [if_neg fun z => t z.2]
      simp [t, t0]
  · have td : p ∣ m ↔ p ∣ m / q := by
      constructor
      · intro z
        rcases hp with hp | hp
        · rw [hm] at z
          rcases QR.Pm.dvd_mul hp.1 z with z | z
          · exact z
          · exfalso
            have p2 := hp.1.1
            rcases Int.lt_or_eq_of_le (Int.le_of_dvd (by have := hq.1; omega) z) with y | y
            · exact hq.2 p p2 y z
            · exact e y
        · exact absurd z (PrOk.ndvd hp.1 hp.2)
      · intro z
        rw [hm]
        exact Int.dvd_mul_of_dvd_left z
    have t : toldP (m / q) L p ↔ toldP m R p := by
      unfold toldP
      rw [td]
      by_cases z : p ∣ m / q
      · simp [z]
      · have := h.same p (hp.cop fun y => z (td.mp y))
        simp [z, this]
    rw [t]
    have s : p ∈ (if q ≠ 2 ∧ toldP (m / q) L q then togL S q else S) ↔ p ∈ S := by
      split
      · rw [mem_tog, if_neg e]
      · exact Iff.rfl
    rw [s]
/-! part m_facs -/
theorem pow_dvd {p q : Int} (hp : QR.Pm p) (hq : QR.Pm q) : ∀ e : Nat, p ∣ q ^ e → p = q
  | 0, h => by
    rw [Int.pow_zero] at h
    have := Int.le_of_dvd (by decide) h
    have := hp.1
    omega
  | e + 1, h => by
    rw [Int.pow_succ] at h
    rcases QR.Pm.dvd_mul hp h with h | h
    · exact pow_dvd hp hq e h
    · rcases Int.lt_or_eq_of_le (Int.le_of_dvd (by have := hq.1; omega) h) with z | z
      · exact absurd h (hq.2 p hp.1 z)
      · exact z
theorem prodF_dvd {p : Int} (hp : QR.Pm p) : ∀ {fs : List (Int × Nat)}, (∀ x, x ∈ fs → QR.Pm x.1 ∧ 1 ≤ x.2) → (p ∣ prodF fs ↔ ∃ x ∈ fs, x.1 = p)
  | [], _ => by
    constructor
    · intro h
      have := Int.le_of_dvd (by simp [prodF]) h
      have := hp.1
      simp [prodF] at *
      omega
    · rintro ⟨x, h, _⟩
      cases h
  | y :: fs, h => by
    have ih := prodF_dvd hp (fs := fs) fun x hx => h x (List.mem_cons_of_mem _ hx)
    obtain ⟨y1, y2⟩ := h y List.mem_cons_self
    constructor
    · intro d
      rcases QR.Pm.dvd_mul hp (show p ∣ y.1 ^ y.2 * prodF fs from d) with d | d
      · exact ⟨y, List.mem_cons_self, (pow_dvd hp y1 _ d).symm⟩
      · obtain ⟨x, hx, e⟩ := ih.mp d
        exact ⟨x, List.mem_cons_of_mem _ hx, e⟩
    · rintro ⟨x, hx, e⟩
      show p ∣ y.1 ^ y.2 * prodF fs
      rcases List.mem_cons.mp hx with rfl | hx
      · refine Int.dvd_mul_of_dvd_left ?_
        rw [e]
        obtain ⟨k, hk⟩ : ∃ k, x.2 = k + 1 := ⟨x.2 - 1, by omega⟩
        rw [hk, Int.pow_succ]
        exact Int.dvd_mul_left _ _
      · exact Int.dvd_mul_of_dvd_right (ih.mpr ⟨x, hx, e⟩)
theorem FacOk.mem {n p : Int} {fs : List (Int × Nat)} (h : FacOk n fs) : (∃ x ∈ fs, x.1 = p) ↔ QR.Pm p ∧ p ∣ n := by
  constructor
  · rintro ⟨x, hx, rfl⟩
    have hp := (h.prime x hx).1
    exact ⟨hp, by rw [← h.prod]; exact (prodF_dvd hp h.prime).mpr ⟨x, hx, rfl⟩⟩
  · rintro ⟨hp, d⟩
    rw [← h.prod] at d
    exact (prodF_dvd hp h.prime).mp d
theorem FacOk.len {n : Int} {fs : List (Int × Nat)} (h : FacOk n fs) (hn : n < 2 ^ 99) : fs.length < 100 := by
  have := prodF_big fs h.prime
  rw [h.prod] at this
  rcases Nat.lt_or_ge fs.length 100 with z | z
  · exact z
  · exfalso
    have a : (2 : Nat) ^ 100 ≤ 2 ^ fs.length := Nat.pow_le_pow_right (by decide) z
    have b : ((2 ^ fs.length : Nat) : Int) = 2 ^ fs.length := by rw [Int.natCast_pow]; rfl
    have c : (2 : Int) ^ 99 < ((2 ^ 100 : Nat) : Int) := by decide
    omega
/-! part m_least -/
structure LeastOk (m : Int) (R S : List Int) (m' : Int) (R' S' : List Int) : Prop where
  desc : Desc m' R' S'
  sub : Sub m R m' R'
  rn : R'.Nodup
  sn : S'.Nodup
  mem : ∀ p, PrOk m p → (memP m' R' S' p ↔ memP m R S p)
  len : m' * 2 ^ S'.length ≤ m * 2 ^ S.length
  src : ∀ p ∈ S', p ∈ S ∨ p ∣ m
/-- no divisor of the modulus by one of its primes tells as much -/
def LowAt (m : Int) (R : List Int) (q : Int) : Prop := q ∣ m → ¬ Lv m R (m / q)
theorem LeastOk.refl {m : Int} {R S : List Int} (h : Desc m R S) (rn : R.Nodup) (sn : S.Nodup) : LeastOk m R S m R S := ⟨h, Sub.refl m R, rn, sn, fun _ _ => Iff.rfl, Int.le_refl _, fun _ h => .inl h⟩
section
variable {m m' q : Int} {R S R' S' L : List Int}
theorem div_pos_of {m q : Int} (hm : 1 ≤ m) (hq : 2 ≤ q) (hd : q ∣ m) : 1 ≤ m / q ∧ m / q + 1 ≤ m := by
  have e := Int.ediv_mul_cancel hd
  have a : 1 ≤ m / q := by
    rcases Int.lt_or_le 0 (m / q) with z | z
    · exact z
    · have := Int.mul_le_mul_of_nonneg_right z (show 0 ≤ q by omega)
      omega
  refine ⟨a, ?_⟩
  have := Int.mul_le_mul_of_nonneg_left hq (show 0 ≤ m / q by omega)
  omega
theorem pow2_mono {a b : Nat} (h : a ≤ b) : (2 : Int) ^ a ≤ 2 ^ b := by
  have := Nat.pow_le_pow_right (show 0 < 2 by decide) h
  exact_mod_cast this
theorem LeastOk.next (h : LeastOk m R S m' R' S') (hq : QR.Pm q) (hd : q ∣ m') (k : Short m' R' (m' / q) L) : LeastOk m R S (m' / q) L (nextS (m' / q) L S' q) := by
  have q2 := hq.1
  obtain ⟨s1, s2⟩ := div_pos_of h.desc.pos q2 hd
  refine ⟨⟨s1, fun r hr => ?_, fun p hp => ?_⟩, h.sub.trans (k.sub ⟨q, (Int.ediv_mul_cancel hd).symm⟩), k.inc.imp fun h => by omega, ?_, fun p hp => (memP_next hq s1 hd k (hp.dvd h.sub.dvd)).trans (h.mem p hp), ?_, fun p hp => ?_⟩
  · exact mem_uL.mp (k.mem r hr)
  · unfold nextS at hp
    split at hp
    · rename_i z
      rw [mem_tog] at hp
      by_cases e : p = q
      · exact ⟨e ▸ hq, QR.pm_odd (e ▸ hq) (by omega)⟩
      · rw [if_neg e] at hp
        exact h.desc.singles p hp
    · exact h.desc.singles p hp
  · unfold nextS
    split
    · exact tog_nodup h.sn
    · exact h.sn
  · refine Int.le_trans ?_ h.len
    have a : (2 : Int) ^ (nextS (m' / q) L S' q).length ≤ 2 ^ S'.length * 2 := by
      rw [← Int.pow_succ]
      refine pow2_mono ?_
      unfold nextS
      split
      · exact tog_len
      · omega
    refine Int.le_trans (Int.mul_le_mul_of_nonneg_left a (by omega)) ?_
    rw [Int.mul_comm (2 ^ S'.length), ← Int.mul_assoc]
    refine Int.mul_le_mul_of_nonneg_right ?_ (Int.pow_nonneg (by decide))
    have := Int.mul_le_mul_of_nonneg_left q2 (show 0 ≤ m' / q by omega)
    rw [Int.ediv_mul_cancel hd] at this
    exact this
  · unfold nextS at hp
    split at hp
    · rw [mem_tog] at hp
      by_cases e : p = q
      · exact .inr (e ▸ Int.dvd_trans hd h.sub.dvd)
      · rw [if_neg e] at hp
        exact h.src p hp
    · exact h.src p hp
theorem LeastOk.few (h : LeastOk m R S m' R' S') (hm : m ≤ 4000) : S'.length ≤ S.length + 11 := by
  rcases Nat.lt_or_ge (S.length + 11) S'.length with z | z
  · exfalso
    have a := h.len
    have b : (2 : Int) ^ S.length * 2 ^ 12 ≤ 2 ^ S'.length := by
      rw [← Int.pow_add]
      exact pow2_mono (by omega)
    have c : m * 2 ^ S.length ≤ 4000 * 2 ^ S.length := Int.mul_le_mul_of_nonneg_right hm (Int.pow_nonneg (by decide))
    have d := Int.mul_le_mul_of_nonneg_right h.desc.pos (show (0 : Int) ≤ 2 ^ S'.length from Int.pow_nonneg (by decide))
    have p0 : (0 : Int) < 2 ^ S.length := Int.pow_pos (by decide)
    omega
  · exact z
theorem LowAt.next {q0 : Int} (l : LowAt m' R' q0) (hq : QR.Pm q) (hq0 : QR.Pm q0) (p1 : 1 ≤ m') (hd : q ∣ m') (k : Short m' R' (m' / q) L) : LowAt (m' / q) L q0 := by
  intro d z
  have e := (Int.ediv_mul_cancel hd)
  have d' : q0 ∣ m' := by rw [← e]; exact Int.dvd_mul_of_dvd_left d
  have q2 := hq0.1
  have e2 := Int.ediv_mul_cancel d
  have e3 : m' = m' / q / q0 * q * q0 := by rw [Int.mul_assoc, Int.mul_comm q q0, ← Int.mul_assoc, e2, e]
  exact l d' (Lv.up (k.sub ⟨q, e.symm⟩) z ⟨q, Int.ediv_eq_of_eq_mul_left (by omega) e3⟩)
theorem lowAt_of_not (h : ¬ Lv m R (m / q)) : LowAt m R q := fun _ => h
theorem lowAt_nd (h : ¬ q ∣ m) : LowAt m R q := fun z => absurd z h
theorem dvd_next {x : Int} (hx : QR.Pm x) (hq : QR.Pm q) (hd : q ∣ m) (h : x ∣ m) (ne : x ≠ q) : x ∣ m / q := by
  rw [← Int.ediv_mul_cancel hd] at h
  rcases QR.Pm.dvd_mul hx h with z | z
  · exact z
  · exfalso
    rcases Int.lt_or_eq_of_le (Int.le_of_dvd (by have := hq.1; omega) z) with y | y
    · exact hq.2 x hx.1 y z
    · exact ne y
end
/-- a least description, in order -/
structure IsLeast (m : Int) (R S : List Int) : Prop where
  desc : Desc m R S
  ri : R.Pairwise (· < ·)
  si : S.Pairwise (· < ·)
  low : ∀ q, QR.Pm q → LowAt m R q
/-- what making a set gives -/
structure Made (m : Int) (R S : List Int) (m' : Int) (R' S' : List Int) : Prop where
  least : IsLeast m' R' S'
  sub : Sub m R m' R'
  mem : ∀ p, PrOk m p → (memP m' R' S' p ↔ memP m R S p)
  few : S'.length ≤ S.length + 11
  src : ∀ p ∈ S', p ∈ S ∨ p ∣ m
def SameL (a b : List Int) : Prop := ∀ k, k ∈ a ↔ k ∈ b
theorem Lv.congr {m : Int} {R R' : List Int} {s : Int} (h : SameL R R') : Lv m R s ↔ Lv m R' s := by
  unfold Lv
  exact ⟨fun l x y a b c => by rw [← h, ← h]; exact l x y a b c, fun l x y a b c => by rw [h, h]; exact l x y a b c⟩
theorem toldP_congr {m p : Int} {R R' : List Int} (h : SameL R R') : toldP m R p ↔ toldP m R' p := by
  unfold toldP
  rw [h]
theorem memP_congr {m p : Int} {R R' S S' : List Int} (h : SameL R R') (k : SameL S S') : memP m R S p ↔ memP m R' S' p := by
  unfold memP
  rw [toldP_congr h, k]
theorem LeastOk.made {m : Int} {R S R0 S0 : List Int} {m' : Int} {R1 S1 R' S' : List Int} (h : LeastOk m R0 S0 m' R1 S1) (low : ∀ q, QR.Pm q → LowAt m' R1 q) (hm : m ≤ 4000) (e1 : SameL R0 R) (e2 : SameL S0 S) (l0 : S0.length ≤ S.length) (e3 : SameL R' R1) (e4 : SameL S' S1) (l1 : S'.length ≤ S1.length) (r : R'.Pairwise (· < ·)) (s : S'.Pairwise (· < ·)) : Made m R S m' R' S' := by
  refine ⟨⟨⟨h.desc.pos, fun x hx => h.desc.rests x ((e3 x).mp hx), fun x hx => h.desc.singles x ((e4 x).mp hx)⟩, r, s, fun q hq d z => low q hq d ((Lv.congr e3).mp z)⟩, ⟨h.sub.dvd, fun x hx => ?_⟩, fun p hp => ?_, ?_, fun p hp => ?_⟩
  · rw [e3, h.sub.same x hx, e1]
  · rw [memP_congr e3 e4, h.mem p hp, memP_congr e1 e2]
  · have := h.few hm
    omega
  · exact (h.src p ((e4 p).mp hp)).imp_left (e2 p).mp
theorem nodup_sub_len : ∀ {l s : List Int}, l.Nodup → (∀ k ∈ l, k ∈ s) → l.length ≤ s.length
  | [], _, _, _ => Nat.zero_le _
  | k :: l, s, h, hs => by
    have hk := hs k List.mem_cons_self
    obtain ⟨h1, h2⟩ := List.nodup_cons.mp h
    have := nodup_sub_len (l := l) (s := s.erase k) h2 fun j hj => (List.mem_erase_of_ne fun (e : j = k) => h1 (e ▸ hj)).mpr (hs j (List.mem_cons_of_mem _ hj))
    rw [List.length_erase_of_mem hk] at this
    have := List.length_pos_of_mem hk
    rw [List.length_cons]
    omega
/-- a unit of a divisor comes from a unit -/
theorem unit_lift : ∀ (n : Nat) {m s r : Int}, 0 < s → m = s * n → 0 < n → r ∈ uL s → ∃ x, Int.gcd x m = 1 ∧ x % s = r := by
  intro n
  induction n using Nat.strongRecOn with
  | _ n ih =>
    intro m s r hs hm hn hr
    rcases Nat.lt_or_ge n 2 with h | h
    · obtain ⟨r0, r1, rc⟩ := mem_uL.mp hr
      have : n = 1 := by omega
      subst this
      refine ⟨r, ?_, Int.emod_eq_of_lt r0 r1⟩
      rw [hm, show s * ((1 : Nat) : Int) = s by simp]
      exact rc
    · obtain ⟨q, hq, hd⟩ := QR.exists_pm n h
      have q2 := hq.1
      obtain ⟨l, hl⟩ := List.exists_mem_of_ne_nil _ (lft_ne (m := s * q) hq hs rfl hr)
      obtain ⟨c, e1, e2⟩ := lft_prop hs rfl hr hl
      obtain ⟨k, hk⟩ := hd
      have sq : 0 < s * q := Int.mul_pos hs (by omega)
      have k0 : 0 < k := by
        rcases Int.lt_or_le 0 k with z | z
        · exact z
        · have := Int.mul_le_mul_of_nonneg_left z (show 0 ≤ q by omega)
          omega
      have hu : l ∈ uL (s * q) := mem_uL.mpr ⟨by rw [← e1]; exact Int.emod_nonneg _ (by omega), by rw [← e1]; exact Int.emod_lt_of_pos _ sq, c⟩
      have kn : k.toNat < n := by
        have := Int.mul_le_mul_of_nonneg_right q2 (show 0 ≤ k by omega)
        omega
      obtain ⟨x, x1, x2⟩ := ih k.toNat kn sq (show m = s * q * ((k.toNat : Nat) : Int) by rw [hm, hk, show ((k.toNat : Nat) : Int) = k by omega, Int.mul_assoc, Int.mul_comm q k]) (by omega) hu
      refine ⟨x, x1, ?_⟩
      have : x % (s * q) % s = x % s := Int.emod_emod_of_dvd x ⟨q, rfl⟩
      rw [← this, x2, e2]
theorem Sub.lift {m m' : Int} {R R' : List Int} (h : Sub m R m' R') (m1 : 1 ≤ m) (m2 : 1 ≤ m') {r : Int} (hr : r ∈ uL m') : ∃ x, Int.gcd x m = 1 ∧ x % m' = r := by
  obtain ⟨k, hk⟩ := h.dvd
  have k0 : 0 < k := by
    rcases Int.lt_or_le 0 k with z | z
    · exact z
    · have := Int.mul_le_mul_of_nonneg_left z (show 0 ≤ m' by omega)
      omega
  exact unit_lift k.toNat (by omega) (by rw [hk, show ((k.toNat : Nat) : Int) = k by omega]) (by omega) hr
theorem Made.nil_iff {m m' : Int} {R S R' S' : List Int} (h : Made m R S m' R' S') (m1 : 1 ≤ m) (hR : ∀ r ∈ R, 0 ≤ r ∧ r < m ∧ Int.gcd r m = 1) : R' = [] ↔ R = [] := by
  constructor
  · intro e
    refine List.eq_nil_iff_forall_not_mem.mpr fun r hr => ?_
    obtain ⟨r0, r1, rc⟩ := hR r hr
    have := (h.sub.same r rc).mpr (by rw [Int.emod_eq_of_lt r0 r1]; exact hr)
    rw [e] at this
    cases this
  · intro e
    refine List.eq_nil_iff_forall_not_mem.mpr fun r hr => ?_
    obtain ⟨x, x1, x2⟩ := h.sub.lift m1 h.least.desc.pos (mem_uL.mpr (h.least.desc.rests r hr))
    have := (h.sub.same x x1).mp (by rw [x2]; exact hr)
    rw [e] at this
    cases this
/-- no rests, and no singles but those told -/
theorem Made.nil_sing {m m' : Int} {S R' S' : List Int} (h : Made m [] S m' R' S') (m1 : 1 ≤ m) : R' = [] ∧ ∀ p, QR.OP p → (p ∈ S' ↔ p ∈ S) := by
  have e := (h.nil_iff m1 fun r hr => absurd hr List.not_mem_nil).mpr rfl
  refine ⟨e, fun p hp => ?_⟩
  have := h.mem p (.inl hp)
  subst e
  simpa [memP, toldP] using this
/-! part m_can -/
theorem bez : ∀ (b a : Nat), ∃ u v : Int, (a : Int) * u + b * v = (Nat.gcd a b : Nat) := by
  intro b
  induction b using Nat.strongRecOn with
  | _ b ih =>
    intro a
    rcases Nat.eq_zero_or_pos b with h | h
    · subst h
      exact ⟨1, 0, by simp⟩
    · obtain ⟨u, v, e⟩ := ih (a % b) (Nat.mod_lt _ h) b
      refine ⟨v, u - (a / b : Nat) * v, ?_⟩
      have g : Nat.gcd a b = Nat.gcd b (a % b) := by rw [Nat.gcd_comm a b, Nat.gcd_rec b a, Nat.gcd_comm]
      rw [g, ← e]
      have d : (a : Int) = b * (a / b : Nat) + (a % b : Nat) := by
        have := Nat.div_add_mod a b
        omega
      generalize ((a / b : Nat) : Int) = q at *
      generalize ((a % b : Nat) : Int) = r at *
      rw [d]
      grind
theorem crt {s t x y : Int} (hs : 0 ≤ s) (ht : 0 ≤ t) (h : ((Int.gcd s t : Nat) : Int) ∣ x - y) : ∃ z, s ∣ z - x ∧ t ∣ z - y := by
  obtain ⟨u, v, e⟩ := bez t.toNat s.toNat
  obtain ⟨k, hk⟩ := h
  have g : Nat.gcd s.toNat t.toNat = Int.gcd s t := by
    rw [Int.gcd]
    congr 1 <;> omega
  rw [g, show ((s.toNat : Nat) : Int) = s by omega, show ((t.toNat : Nat) : Int) = t by omega] at e
  rw [← e] at hk
  exact ⟨x - s * u * k, ⟨-(u * k), by grind⟩, ⟨v * k, by grind⟩⟩
theorem lift_of_dvd {m L z : Int} (m1 : 1 ≤ m) (L0 : 0 ≤ L) (d : L ∣ m) (h : Int.gcd z L = 1) : ∃ w, Int.gcd w m = 1 ∧ L ∣ w - z := by
  obtain ⟨k, hk⟩ := d
  have L1 : 0 < L := by
    rcases Int.lt_or_eq_of_le L0 with c | c
    · exact c
    · rw [← c, Int.zero_mul] at hk
      omega
  have k0 : 0 < k := by
    rcases Int.lt_or_le 0 k with c | c
    · exact c
    · have := Int.mul_le_mul_of_nonneg_left c (show 0 ≤ L by omega)
      omega
  obtain ⟨w, w1, w2⟩ := unit_lift k.toNat (m := m) (r := z % L) L1 (by rw [hk, show ((k.toNat : Nat) : Int) = k by omega]) (by omega) (mem_uL.mpr ⟨Int.emod_nonneg _ (by omega), Int.emod_lt_of_pos _ L1, QR.cop_emod.mpr h⟩)
  exact ⟨w, w1, QR.dvd_of_emod_eq w2⟩
section
variable {m s t : Int} {R : List Int}
/-- a unit of the whole with given rests, where they agree -/
theorem meet {x y : Int} (m1 : 1 ≤ m) (s1 : 1 ≤ s) (t1 : 1 ≤ t) (hs : s ∣ m) (ht : t ∣ m) (hx : Int.gcd x m = 1) (hy : Int.gcd y m = 1) (d : ((Int.gcd s t : Nat) : Int) ∣ x - y) : ∃ z, Int.gcd z m = 1 ∧ s ∣ z - x ∧ t ∣ z - y := by
  obtain ⟨z, zx, zy⟩ := crt (by omega) (by omega) d
  have hL : ((Int.lcm s t : Nat) : Int) ∣ m := Int.coe_lcm_dvd hs ht
  have sL : s ∣ ((Int.lcm s t : Nat) : Int) := Int.dvd_lcm_left ..
  have tL : t ∣ ((Int.lcm s t : Nat) : Int) := Int.dvd_lcm_right ..
  have Lst : ((Int.lcm s t : Nat) : Int) ∣ s * t := Int.coe_lcm_dvd (Int.dvd_mul_right ..) (Int.dvd_mul_left ..)
  have lcm0 : (0 : Int) ≤ ((Int.lcm s t : Nat) : Int) := by omega
  generalize ((Int.lcm s t : Nat) : Int) = L at *
  have cz : Int.gcd z L = 1 := QR.cop_iff.mpr fun p hp a b => by
    rcases QR.Pm.dvd_mul hp (Int.dvd_trans b Lst) with c | c
    · refine QR.cop_iff.mp hx p hp ?_ (Int.dvd_trans c hs)
      have := Int.dvd_sub a (Int.dvd_trans c zx)
      rwa [show z - (z - x) = x by omega] at this
    · refine QR.cop_iff.mp hy p hp ?_ (Int.dvd_trans c ht)
      have := Int.dvd_sub a (Int.dvd_trans c zy)
      rwa [show z - (z - y) = y by omega] at this
  obtain ⟨w, w1, w2⟩ := lift_of_dvd m1 lcm0 hL cz
  refine ⟨w, w1, ?_, ?_⟩
  · have := Int.dvd_add (Int.dvd_trans sL w2) zx
    rwa [show w - z + (z - x) = w - x by omega] at this
  · have := Int.dvd_add (Int.dvd_trans tL w2) zy
    rwa [show w - z + (z - y) = w - y by omega] at this
/-- what two divisors tell, their common divisor tells -/
theorem Lv.gcd (m1 : 1 ≤ m) (s1 : 1 ≤ s) (t1 : 1 ≤ t) (hs : s ∣ m) (ht : t ∣ m) (a : Lv m R s) (b : Lv m R t) : Lv m R ((Int.gcd s t : Nat) : Int) := by
  intro x y hx hy d
  obtain ⟨w, w1, w2, w3⟩ := meet m1 s1 t1 hs ht hx hy d
  exact (a w x w1 hx w2).symm.trans (b w y w1 hy w3)
theorem Lv.mono (h : Lv m R s) (d : s ∣ t) : Lv m R t := fun x y hx hy e => h x y hx hy (Int.dvd_trans d e)
/-- told ahead of a shortening, told behind it -/
theorem Lv.down {m' : Int} {R' : List Int} (h : Sub m R m' R') (m1 : 1 ≤ m) (p1 : 1 ≤ m') (l : Lv m R s) (d : s ∣ m') : Lv m' R' s := fun x y hx hy e => by
  obtain ⟨u, u1, u2⟩ := lift_of_dvd m1 (by omega) h.dvd hx
  obtain ⟨v, v1, v2⟩ := lift_of_dvd m1 (by omega) h.dvd hy
  have := l u v u1 v1 (by
    have a := Int.dvd_sub (Int.dvd_add (Int.dvd_trans d u2) e) (Int.dvd_trans d v2)
    rwa [show u - x + (x - y) - (v - y) = u - v by omega] at a)
  rw [← h.same u u1, ← h.same v v1, QR.emod_eq_of_dvd u2, QR.emod_eq_of_dvd v2] at this
  exact this
/-- a least modulus divides each that tells as much -/
theorem low_dvd {m' : Int} {R' : List Int} (h : Sub m R m' R') (m1 : 1 ≤ m) (p1 : 1 ≤ m') (low : ∀ q, QR.Pm q → LowAt m' R' q) (t1 : 1 ≤ t) (ht : t ∣ m) (l : Lv m R t) : m' ∣ t := by
  have lm : Lv m R m' := fun x y hx hy e => by rw [← h.same x hx, ← h.same y hy, QR.emod_eq_of_dvd e]
  have lg := Lv.gcd m1 p1 t1 h.dvd ht lm l
  have gd : ((Int.gcd m' t : Nat) : Int) ∣ m' := Int.gcd_dvd_left ..
  have gt : ((Int.gcd m' t : Nat) : Int) ∣ t := Int.gcd_dvd_right ..
  have g0 : 0 ≤ ((Int.gcd m' t : Nat) : Int) := by omega
  generalize ((Int.gcd m' t : Nat) : Int) = g at *
  obtain ⟨k, hk⟩ := gd
  have k1 : 1 ≤ k := by
    rcases Int.lt_or_le 0 k with c | c
    · omega
    · have := Int.mul_le_mul_of_nonneg_left c g0
      omega
  rcases Int.lt_or_le k 2 with c | c
  · have : k = 1 := by omega
    rw [this, Int.mul_one] at hk
    exact hk ▸ gt
  · exfalso
    obtain ⟨q, hq, qd⟩ := QR.exists_pm k.toNat (by omega)
    rw [show ((k.toNat : Nat) : Int) = k by omega] at qd
    obtain ⟨j, hj⟩ := qd
    have q2 := hq.1
    have e : m' = g * j * q := by rw [hk, hj, Int.mul_assoc, Int.mul_comm q j]
    have md : q ∣ m' := ⟨g * j, by rw [e, Int.mul_comm]⟩
    have mq : m' / q = g * j := Int.ediv_eq_of_eq_mul_left (by omega) e
    refine low q hq md (Lv.down h m1 p1 (Lv.mono lg ⟨j, mq⟩) ⟨q, ?_⟩)
    rw [mq]
    exact e
end
theorem inc_same : ∀ {a b : List Int}, a.Pairwise (· < ·) → b.Pairwise (· < ·) → (∀ k, k ∈ a ↔ k ∈ b) → a = b
  | [], [], _, _, _ => rfl
  | [], y :: b, _, _, h => absurd ((h y).mpr List.mem_cons_self) List.not_mem_nil
  | x :: a, [], _, _, h => absurd ((h x).mp List.mem_cons_self) List.not_mem_nil
  | x :: a, y :: b, ha, hb, h => by
    obtain ⟨a1, a2⟩ := List.pairwise_cons.mp ha
    obtain ⟨b1, b2⟩ := List.pairwise_cons.mp hb
    have e : x = y := by
      rcases List.mem_cons.mp ((h x).mp List.mem_cons_self) with e | m1
      · exact e
      · rcases List.mem_cons.mp ((h y).mpr List.mem_cons_self) with e | m2
        · exact e.symm
        · have := b1 x m1
          have := a1 y m2
          omega
    subst e
    rw [inc_same a2 b2 fun k => ?_]
    constructor
    · intro hk
      rcases List.mem_cons.mp ((h k).mp (List.mem_cons_of_mem _ hk)) with e | z
      · have := a1 k hk
        omega
      · exact z
    · intro hk
      rcases List.mem_cons.mp ((h k).mpr (List.mem_cons_of_mem _ hk)) with e | z
      · have := b1 k hk
        omega
      · exact z
/-- two least descriptions with the same germ and members are one -/
theorem least_unique {M m1 m2 : Int} {R1 R2 S1 S2 : List Int} (M1 : 1 ≤ M) (d1 : m1 ∣ M) (d2 : m2 ∣ M) (l1 : IsLeast m1 R1 S1) (l2 : IsLeast m2 R2 S2) (g : ∀ x, Int.gcd x M = 1 → (x % m1 ∈ R1 ↔ x % m2 ∈ R2)) (mem : ∀ p, QR.OP p → (memP m1 R1 S1 p ↔ memP m2 R2 S2 p)) : m1 = m2 ∧ R1 = R2 ∧ S1 = S2 := by
  have p1 := l1.desc.pos
  have p2 := l2.desc.pos
  have s1 : Sub M ((uL M).filter fun u => decide (u % m1 ∈ R1)) m1 R1 := ⟨d1, fun x hx => by
    rw [List.mem_filter, decide_eq_true_iff, Int.emod_emod_of_dvd x d1]
    exact ⟨fun h => ⟨unit_of (Int.dvd_refl M) (by omega) hx, h⟩, fun h => h.2⟩⟩
  have s2 : Sub M ((uL M).filter fun u => decide (u % m1 ∈ R1)) m2 R2 := ⟨d2, fun x hx => by
    rw [← g x hx, s1.same x hx]⟩
  have lv : ∀ {m' : Int} {R' : List Int}, Sub M ((uL M).filter fun u => decide (u % m1 ∈ R1)) m' R' → Lv M ((uL M).filter fun u => decide (u % m1 ∈ R1)) m' := fun h x y hx hy e => by rw [← h.same x hx, ← h.same y hy, QR.emod_eq_of_dvd e]
  have e : m1 = m2 := Int.le_antisymm (Int.le_of_dvd (by omega) (low_dvd s1 M1 p1 l1.low p2 d2 (lv s2))) (Int.le_of_dvd (by omega) (low_dvd s2 M1 p2 l2.low p1 d1 (lv s1)))
  subst e
  have eR : R1 = R2 := inc_same l1.ri l2.ri fun r => by
    constructor
    · intro hr
      obtain ⟨x, x1, x2⟩ := s1.lift M1 p1 (mem_uL.mpr (l1.desc.rests r hr))
      have := (g x x1).mp (by rw [x2]; exact hr)
      rwa [x2] at this
    · intro hr
      obtain ⟨x, x1, x2⟩ := s1.lift M1 p1 (mem_uL.mpr (l2.desc.rests r hr))
      have := (g x x1).mpr (by rw [x2]; exact hr)
      rwa [x2] at this
  subst eR
  refine ⟨rfl, rfl, inc_same l1.si l2.si fun p => ?_⟩
  by_cases hp : QR.OP p
  · have := mem p hp
    unfold memP at this
    by_cases t : toldP m1 R1 p <;> by_cases a : p ∈ S1 <;> by_cases b : p ∈ S2 <;> simp [t, a, b] at this ⊢
  · exact ⟨fun h => absurd (l1.desc.singles p h) hp, fun h => absurd (l2.desc.singles p h) hp⟩
/-! part m_pool -/
/-- a pool of draws, at most j of them made -/
def PoolAt (H : Hp) (p : Addr) (j : Int) : Prop := ∃ c k b, H p = some (.lst [.int c, .int k, .bl b]) ∧ 0 ≤ k ∧ k ≤ j
theorem PoolAt.new {H : Hp} {p : Addr} {n : Int} {b : Bool} : PoolAt (upd H p (.lst [.int n, .int 0, .bl b])) p 0 := ⟨_, _, _, upd_same, by omega, by omega⟩
/-! part m_but -/
/-- a loop over a list or tuple that a name holds -/
theorem rd_forS {K : PySem.W.Frag} {σ : L2.St} {H : Hp} {i : Nat} {a : Addr} {xs : List V} {g : TG} {t : TS} {nx : L2.St → Hp → Prop} {rt : VK} (hv : σ[i]? = some (some (.ref a))) (hS : SqL K H a xs ∨ SqT K H a xs) (Pv : Nat → L2.St → Prop) (h0 : Pv 0 σ)
    (hs : ∀ i x σ, xs[i]? = some x → Pv i σ → g x σ H fun σ2 H2 => t ⟨fun σ' H' => H = H' ∧ Pv (i + 1) σ', rt, nx, fun σ' H' => H = H' ∧ Pv (i + 1) σ'⟩ σ2 H2) (hd : ∀ σ, Pv xs.length σ → nx σ H) :
    iAlt (iList K (tVar i)) (iTup K (tVar i)) σ H fun J H1 => fBody J g t nx rt σ H1 :=
  hS.elim (fun h => .inl (rd_var hv ⟨a, rfl, ⟨_, h⟩, rd_forLs Pv h h0 hs hd⟩)) fun h => .inr (rd_var hv ⟨a, rfl, ⟨_, h⟩, rd_forTs Pv h h0 hs hd⟩)
/-- {x: True for x in xs}, xs a list or tuple of ints that a name holds -/
theorem rd_dcS {K : PySem.W.Frag} {σ : L2.St} {H : Hp} {Q : VK} {tk tv : TE} {i : Nat} {a : Addr} {ns : List Int} {g : TG} {vs : List Nat} (hv : σ[i]? = some (some (.ref a))) (hS : SqL K H a (ns.map V.int) ∨ SqT K H a (ns.map V.int))
    (hs : ∀ D l x r, H D = none → ns = l ++ x :: r → g (.int x) (wipe σ vs) (upd H D (DFl (ofL l))) fun σ2 H2 => wipe σ2 vs = wipe σ vs ∧ tk σ2 H2 fun y H4 => tv σ2 H4 fun z H5 => DcPut H D (l ++ [x]) y z H5)
    (q : ∀ D, H D = none → Q (.ref D) (upd H D (DFl (ofL ns)))) : iAlt (iList K (tVar i)) (iTup K (tVar i)) σ H fun J H1 => dcB J g tYes tk tv vs σ Q H1 :=
  hS.elim (fun h => .inl (rd_var hv ⟨a, rfl, ⟨_, h⟩, rd_dcLF h hs q⟩)) fun h => .inr (rd_var hv ⟨a, rfl, ⟨_, h⟩, rd_dcTF h hs q⟩)
/-! part m_k41 -/
theorem mem_none {p : Int} : ¬ memP 1 [] [] p := by simp [memP, toldP]
theorem mem_only {p : Int} {S : List Int} : memP 1 [] S p ↔ p ∈ S := by simp [memP, toldP]
def RowsOk (ys : List V) (n : Nat) : Prop := ∃ ns : List Int, ys = ns.map V.int ∧ (∀ p ∈ ns, QR.OP p) ∧ ns.length ≤ n
theorem RowsOk.nil : RowsOk [] 0 := ⟨[], rfl, fun p h => absurd h List.not_mem_nil, Nat.le_refl _⟩
theorem RowsOk.put {ys : List V} {n : Nat} {p : Int} (h : RowsOk ys n) (hp : QR.OP p) : RowsOk (ys ++ [.int p]) (n + 1) := by
  obtain ⟨ns, rfl, h1, h2⟩ := h
  refine ⟨ns ++ [p], by rw [List.map_append]; rfl, fun q hq => ?_, by rw [List.length_append, List.length_singleton]; omega⟩
  rcases List.mem_append.mp hq with hq | hq
  · exact h1 q hq
  · rw [List.mem_singleton.mp hq]
    exact hp
theorem RowsOk.skip {ys : List V} {n : Nat} (h : RowsOk ys n) : RowsOk ys (n + 1) := by
  obtain ⟨ns, e, h1, h2⟩ := h
  exact ⟨ns, e, h1, by omega⟩
/-! part m_join -/
/-- a set by what it holds: its modulus divides M, its rests go by g, its primes by P -/
structure Fits (M : Int) (g P : Int → Bool) (m : Int) (R S : List Int) : Prop where
  least : IsLeast m R S
  dvd : m ∣ M
  germ : ∀ x, Int.gcd x M = 1 → decide (x % m ∈ R) = g x
  mem : ∀ p, QR.OP p → decide (memP m R S p) = P p
theorem dec_iff {a b : Prop} [Decidable a] [Decidable b] : decide a = decide b ↔ (a ↔ b) := decide_eq_decide
theorem Fits.eq {M : Int} {g P g' P' : Int → Bool} {m m' : Int} {R S R' S' : List Int} (M1 : 1 ≤ M) (a : Fits M g P m R S) (b : Fits M g' P' m' R' S') (hg : ∀ x, g x = g' x) (hP : ∀ p, P p = P' p) : m = m' ∧ R = R' ∧ S = S' :=
  least_unique M1 a.dvd b.dvd a.least b.least (fun x hx => dec_iff.mp ((a.germ x hx).trans ((hg x).trans (b.germ x hx).symm))) fun p hp => dec_iff.mp ((a.mem p hp).trans ((hP p).trans (b.mem p hp).symm))
/-- two sets joined by a rule -/
structure Comb (J : Bool → Bool → Bool) (m1 : Int) (R1 S1 : List Int) (m2 : Int) (R2 S2 : List Int) (m' : Int) (R' S' : List Int) : Prop where
  least : IsLeast m' R' S'
  dvd : m' ∣ ((Int.lcm m1 m2 : Nat) : Int)
  germ : ∀ x, Int.gcd x ((Int.lcm m1 m2 : Nat) : Int) = 1 → decide (x % m' ∈ R') = J (decide (x % m1 ∈ R1)) (decide (x % m2 ∈ R2))
  mem : ∀ p, QR.OP p → decide (memP m' R' S' p) = J (decide (memP m1 R1 S1 p)) (decide (memP m2 R2 S2 p))
  few : S'.length ≤ S1.length + S2.length + 111
  src : ∀ p ∈ S', p ∈ S1 ∨ p ∈ S2 ∨ p ∣ ((Int.lcm m1 m2 : Nat) : Int)
theorem Comb.fits {J : Bool → Bool → Bool} {M : Int} {g1 P1 g2 P2 : Int → Bool} {m1 m2 m' : Int} {R1 S1 R2 S2 R' S' : List Int} (c : Comb J m1 R1 S1 m2 R2 S2 m' R' S') (a : Fits M g1 P1 m1 R1 S1) (b : Fits M g2 P2 m2 R2 S2) : Fits M (fun x => J (g1 x) (g2 x)) (fun p => J (P1 p) (P2 p)) m' R' S' := by
  have d : ((Int.lcm m1 m2 : Nat) : Int) ∣ M := Int.coe_lcm_dvd a.dvd b.dvd
  exact ⟨c.least, Int.dvd_trans c.dvd d, fun x hx => by rw [c.germ x (QR.cop_dvd_right hx d), a.germ x hx, b.germ x hx], fun p hp => by rw [c.mem p hp, a.mem p hp, b.mem p hp]⟩
/-- the others -/
structure Inv (m : Int) (R S : List Int) (m' : Int) (R' S' : List Int) : Prop where
  least : IsLeast m' R' S'
  dvd : m' ∣ m
  germ : ∀ x, Int.gcd x m = 1 → decide (x % m' ∈ R') = !decide (x % m ∈ R)
  mem : ∀ p, QR.OP p → decide (memP m' R' S' p) = !decide (memP m R S p)
  few : S'.length ≤ S.length + 111
  src : ∀ p ∈ S', p ∈ S ∨ p ∣ m
theorem Inv.fits {M : Int} {g P : Int → Bool} {m m' : Int} {R S R' S' : List Int} (c : Inv m R S m' R' S') (a : Fits M g P m R S) : Fits M (fun x => !g x) (fun p => !P p) m' R' S' :=
  ⟨c.least, Int.dvd_trans c.dvd a.dvd, fun x hx => by rw [c.germ x (QR.cop_dvd_right hx a.dvd), a.germ x hx], fun p hp => by rw [c.mem p hp, a.mem p hp]⟩
theorem Made.fits {M m m' : Int} {R S R' S' : List Int} (h : Made m R S m' R' S') (d : m ∣ M) : Fits M (fun x => decide (x % m ∈ R)) (fun p => decide (memP m R S p)) m' R' S' :=
  ⟨h.least, Int.dvd_trans h.sub.dvd d, fun x hx => dec_iff.mpr (h.sub.same x (QR.cop_dvd_right hx d)), fun p hp => dec_iff.mpr (h.mem p (.inl hp))⟩
theorem IsLeast.fits {M m : Int} {R S : List Int} (h : IsLeast m R S) (d : m ∣ M) : Fits M (fun x => decide (x % m ∈ R)) (fun p => decide (memP m R S p)) m R S := ⟨h, d, fun _ _ => rfl, fun _ _ => rfl⟩
theorem none_fits {M m' : Int} {R' S' : List Int} (h : Made 1 [] [] m' R' S') : Fits M (fun _ => false) (fun _ => false) m' R' S' := by
  have z := h.fits (M := M) (Int.one_dvd M)
  refine ⟨z.least, z.dvd, fun x hx => ?_, fun p hp => ?_⟩
  · rw [z.germ x hx]
    simp
  · rw [z.mem p hp]
    exact decide_eq_false mem_none
/-- the rests and singles that joining works out -/
def jR (J : Bool → Bool → Bool) (L m1 : Int) (R1 : List Int) (m2 : Int) (R2 : List Int) : List Int := (uL L).filter fun r => J (decide (r % m1 ∈ R1)) (decide (r % m2 ∈ R2))
/-- a prime whose side rests do not tell -/
def jT (J : Bool → Bool → Bool) (L m1 : Int) (R1 S1 : List Int) (m2 : Int) (R2 S2 : List Int) (p : Int) : Bool := J (decide (memP m1 R1 S1 p)) (decide (memP m2 R2 S2 p)) != decide (toldP L (jR J L m1 R1 m2 R2) p)
section
variable {J : Bool → Bool → Bool} {L m1 m2 m' : Int} {R1 S1 R2 S2 R' S' C : List Int}
theorem lcm_quot {a b : Int} (ha : 1 ≤ a) (hb : 1 ≤ b) : a * b / ((Int.gcd a b : Nat) : Int) = ((Int.lcm a b : Nat) : Int) := by
  have e : ((Int.gcd a b : Nat) : Int) * ((Int.lcm a b : Nat) : Int) = a * b := by
    have := Int.gcd_mul_lcm a b
    rw [← Int.natCast_mul, this, Int.natCast_mul]
    congr 1 <;> omega
  have g : (0 : Int) < ((Int.gcd a b : Nat) : Int) := by
    have : Int.gcd a b ≠ 0 := fun z => by
      have := (Int.gcd_eq_zero_iff.mp z).1
      omega
    omega
  rw [← e, Int.mul_ediv_cancel_left _ (by omega)]
theorem lcm_pos {a b : Int} (ha : 1 ≤ a) (hb : 1 ≤ b) : 1 ≤ ((Int.lcm a b : Nat) : Int) := by
  have : Int.lcm a b ≠ 0 := by
    intro z
    rw [Int.lcm_eq_zero_iff] at z
    omega
  omega
theorem mem_jR {r : Int} : r ∈ jR J L m1 R1 m2 R2 ↔ r ∈ uL L ∧ J (decide (r % m1 ∈ R1)) (decide (r % m2 ∈ R2)) = true := by
  unfold jR
  rw [List.mem_filter]
theorem emod_div {x a L : Int} (d : a ∣ L) : x % L % a = x % a := Int.emod_emod_of_dvd x d
theorem memP_off {m p : Int} {R S : List Int} (d : ¬ p ∣ m) (s : p ∉ S) : decide (memP m R S p) = decide (p % m ∈ R) := by
  refine dec_iff.mpr ?_
  unfold memP toldP
  simp [d, s]
/-- joining by a common multiple: C holds the primes that rests may not decide -/
theorem comb_of (hL : L = ((Int.lcm m1 m2 : Nat) : Int)) (p1 : 1 ≤ m1) (p2 : 1 ≤ m2) (hC : ∀ p, QR.OP p → (p ∈ C ↔ p ∣ L ∨ p ∈ S1 ∨ p ∈ S2))
    (md : Made L (jR J L m1 R1 m2 R2) (C.filter (jT J L m1 R1 S1 m2 R2 S2)) m' R' S')
    (hc : ∀ p ∈ C, QR.OP p) (few : C.length ≤ S1.length + S2.length + 100) : Comb J m1 R1 S1 m2 R2 S2 m' R' S' := by
  have L1 : 1 ≤ L := by rw [hL]; exact lcm_pos p1 p2
  have d1 : m1 ∣ L := by rw [hL]; exact Int.dvd_lcm_left ..
  have d2 : m2 ∣ L := by rw [hL]; exact Int.dvd_lcm_right ..
  have gj : ∀ x, Int.gcd x L = 1 → decide (x % L ∈ jR J L m1 R1 m2 R2) = J (decide (x % m1 ∈ R1)) (decide (x % m2 ∈ R2)) := fun x hx => by
    have u : x % L ∈ uL L := mem_uL.mpr ⟨Int.emod_nonneg _ (by omega), Int.emod_lt_of_pos _ (by omega), QR.cop_emod.mpr hx⟩
    have e : (x % L ∈ jR J L m1 R1 m2 R2) ↔ J (decide (x % m1 ∈ R1)) (decide (x % m2 ∈ R2)) = true := by
      rw [mem_jR, emod_div d1, emod_div d2]
      exact ⟨fun z => z.2, fun z => ⟨u, z⟩⟩
    cases h : J (decide (x % m1 ∈ R1)) (decide (x % m2 ∈ R2)) with
    | true => exact decide_eq_true (e.mpr h)
    | false => exact decide_eq_false fun z => by rw [e.mp z] at h; cases h
  refine ⟨md.least, by rw [← hL]; exact md.sub.dvd, fun x hx => ?_, fun p hp => ?_, ?_, fun p hp => ?_⟩
  · rw [← hL] at hx
    rw [dec_iff.mpr (md.sub.same x hx), gj x hx]
  · rw [dec_iff.mpr (md.mem p (.inl hp))]
    by_cases c : p ∈ C
    · have e : (p ∈ C.filter (jT J L m1 R1 S1 m2 R2 S2)) ↔ (J (decide (memP m1 R1 S1 p)) (decide (memP m2 R2 S2 p)) != decide (toldP L (jR J L m1 R1 m2 R2) p)) = true := by
        rw [List.mem_filter]
        exact ⟨fun z => z.2, fun z => ⟨c, z⟩⟩
      have e2 : decide (memP L (jR J L m1 R1 m2 R2) (C.filter (jT J L m1 R1 S1 m2 R2 S2)) p) = decide (¬ (toldP L (jR J L m1 R1 m2 R2) p ↔ (J (decide (memP m1 R1 S1 p)) (decide (memP m2 R2 S2 p)) != decide (toldP L (jR J L m1 R1 m2 R2) p)) = true)) := dec_iff.mpr (not_congr (iff_congr Iff.rfl e))
      rw [e2]
      clear e e2
      generalize J (decide (memP m1 R1 S1 p)) (decide (memP m2 R2 S2 p)) = j
      by_cases t : toldP L (jR J L m1 R1 m2 R2) p <;> cases j <;> simp [t]
    · have n := fun z => c ((hC p hp).mpr z)
      have dL : ¬ p ∣ L := fun z => n (.inl z)
      rw [memP_off dL fun z => c (List.mem_filter.mp z).1, memP_off (fun z => dL (Int.dvd_trans z d1)) fun z => n (.inr (.inl z)), memP_off (fun z => dL (Int.dvd_trans z d2)) fun z => n (.inr (.inr z)), gj p ((QR.pm_cop hp.1).mpr dL)]
  · have a := md.few
    have b := List.length_filter_le (jT J L m1 R1 S1 m2 R2 S2) C
    omega
  · rw [← hL]
    rcases md.src p hp with z | z
    · have c := (List.mem_filter.mp z).1
      rcases (hC p (hc p c)).mp c with y | y | y
      · exact .inr (.inr y)
      · exact .inl y
      · exact .inr (.inl y)
    · exact .inr (.inr z)
end
/-- a set as a least description of fair size -/
structure SetOk (m : Int) (R S : List Int) : Prop where
  least : IsLeast m R S
  le : m ≤ 4000
  few : S.length ≤ 1000
  small : ∀ p ∈ S, p < 2 ^ 120
theorem least_len {m : Int} {R S : List Int} (h : IsLeast m R S) (le : m ≤ 4000) : R.length ≤ 4000 := by
  refine nodup_le (M := 4000) (h.ri.imp fun h => by omega) fun k hk => ?_
  have := h.desc.rests k hk
  omega
theorem filt_snoc_t {α : Type} {p : α → Bool} {l : List α} {x : α} (h : p x = true) : (l ++ [x]).filter p = l.filter p ++ [x] := by simp [h]
theorem filt_snoc_f {α : Type} {p : α → Bool} {l : List α} {x : α} (h : p x = false) : (l ++ [x]).filter p = l.filter p := by simp [h]
/-- Fits, of a fair size -/
structure Pf (M : Int) (n : Nat) (g P : Int → Bool) (m : Int) (R S : List Int) : Prop where
  fits : Fits M g P m R S
  few : S.length ≤ n
  small : ∀ p ∈ S, p < 2 ^ 120
section
variable {M m1 m2 m' m : Int} {n n1 n2 : Nat} {g P g1 P1 g2 P2 : Int → Bool} {R S R1 S1 R2 S2 R' S' : List Int}
theorem Pf.ok (h : Pf M n g P m R S) (M1 : 1 ≤ M) (M4 : M ≤ 4000) (hn : n ≤ 1000) : SetOk m R S :=
  ⟨h.fits.least, Int.le_trans (Int.le_of_dvd (by omega) h.fits.dvd) M4, Nat.le_trans h.few hn, h.small⟩
theorem lcm_le (M1 : 1 ≤ M) (a : m1 ∣ M) (b : m2 ∣ M) : ((Int.lcm m1 m2 : Nat) : Int) ≤ M := Int.le_of_dvd (by omega) (Int.coe_lcm_dvd a b)
theorem Comb.pf {J : Bool → Bool → Bool} (c : Comb J m1 R1 S1 m2 R2 S2 m' R' S') (a : Pf M n1 g1 P1 m1 R1 S1) (b : Pf M n2 g2 P2 m2 R2 S2) (M1 : 1 ≤ M) (M4 : M ≤ 4000) : Pf M (n1 + n2 + 111) (fun x => J (g1 x) (g2 x)) (fun p => J (P1 p) (P2 p)) m' R' S' := by
  refine ⟨c.fits a.fits b.fits, ?_, fun p hp => ?_⟩
  · have := c.few
    have := a.few
    have := b.few
    omega
  · have l := lcm_le M1 a.fits.dvd b.fits.dvd
    have p1 := lcm_pos a.fits.least.desc.pos b.fits.least.desc.pos
    rcases c.src p hp with z | z | z
    · exact a.small p z
    · exact b.small p z
    · have := Int.le_of_dvd (by omega) z
      omega
theorem Inv.pf (c : Inv m R S m' R' S') (a : Pf M n g P m R S) (M1 : 1 ≤ M) (M4 : M ≤ 4000) : Pf M (n + 111) (fun x => !g x) (fun p => !P p) m' R' S' := by
  refine ⟨c.fits a.fits, ?_, fun p hp => ?_⟩
  · have := c.few
    have := a.few
    omega
  · have l := Int.le_of_dvd (by omega) a.fits.dvd
    have p1 := a.fits.least.desc.pos
    rcases c.src p hp with z | z
    · exact a.small p z
    · have := Int.le_of_dvd (by omega) z
      omega
theorem Made.pf (h : Made m R S m' R' S') (d : m ∣ M) (m1 : 1 ≤ m) (m4 : m ≤ 4000) (few : S.length ≤ n) (small : ∀ p ∈ S, p < 2 ^ 120) : Pf M (n + 11) (fun x => decide (x % m ∈ R)) (fun p => decide (memP m R S p)) m' R' S' := by
  refine ⟨h.fits d, ?_, fun p hp => ?_⟩
  · have := h.few
    omega
  · rcases h.src p hp with z | z
    · exact small p z
    · have := Int.le_of_dvd (by omega) z
      omega
theorem Pf.imp {g' P' : Int → Bool} (h : Pf M n g P m R S) (hg : ∀ x, Int.gcd x M = 1 → g x = g' x) (hP : ∀ p, QR.OP p → P p = P' p) : Pf M n g' P' m R S := ⟨⟨h.fits.least, h.fits.dvd, fun x hx => (h.fits.germ x hx).trans (hg x hx), fun p hp => (h.fits.mem p hp).trans (hP p hp)⟩, h.few, h.small⟩
theorem Pf.eq (M1 : 1 ≤ M) (a : Pf M n1 g1 P1 m1 R1 S1) (b : Pf M n2 g2 P2 m2 R2 S2) (hg : ∀ x, g1 x = g2 x) (hP : ∀ p, P1 p = P2 p) : decide (m1 = m2 ∧ R1 = R2 ∧ S1 = S2) = true := decide_eq_true (a.fits.eq M1 b.fits hg hP)
theorem least_nil : IsLeast 1 [] [] := ⟨⟨by decide, fun r h => absurd h List.not_mem_nil, fun p h => absurd h List.not_mem_nil⟩, List.Pairwise.nil, List.Pairwise.nil, fun q hq d => by
  have := Int.le_of_dvd (by decide) d
  have := hq.1
  omega⟩
/-- nothing is in it: no rests, no singles -/
theorem Pf.nil (M1 : 1 ≤ M) (a : Pf M n g P m R S) (hg : ∀ x, g x = false) (hP : ∀ p, P p = false) : R = [] ∧ S = [] := by
  have b : Fits M (fun _ => false) (fun _ => false) 1 [] [] := ⟨least_nil, Int.one_dvd _, fun x _ => by simp, fun p _ => decide_eq_false mem_none⟩
  exact (a.fits.eq M1 b hg hP).2
end
/-! part m_k42 -/
def pLst : List Int := [3, 5, 7, 11, 13, 17, 19, 23, 29, 31, 37, 41, 43, 47, 53, 59]
/-- the least description, as this law finds it -/
structure LowRow (m : Int) (R S : List Int) (d : Int) (L T : List Int) : Prop where
  dvd : d ∣ m
  pos : 1 ≤ d
  first : ∀ e, 1 ≤ e → e < d → e ∣ m → ¬ Lv m R e
  short : Short m R d L
  odd : ∀ p, p ∈ T ↔ p ∈ pLst ∧ ¬ (memP m R S p ↔ toldP d L p)
  inc : T.Pairwise (· < ·)
/-- the same set by a multiple of the modulus -/
structure WideRow (m : Int) (R S : List Int) (f : Int) (L T : List Int) : Prop where
  rests : L = (uL (m * f)).filter fun u => decide (u % m ∈ R)
  odd : ∀ p, p ∈ T ↔ p ∈ pLst ∧ ¬ (memP m R S p ↔ toldP (m * f) L p)
  inc : T.Pairwise (· < ·)
  len : T.length ≤ 16
theorem op3 {p : Int} (hp : QR.OP p) : 3 ≤ p := by
  have := hp.1.1
  have := hp.2
  omega
theorem pLst_all {p : Int} (hp : QR.OP p) (h : p ≤ 60) : p ∈ pLst := by
  have h3 := op3 hp
  have key : ∀ n : Nat, n < 61 → 3 ≤ n → (n : Int) ∈ pLst ∨ n % 2 = 0 ∨ ∃ q, q < n ∧ 2 ≤ q ∧ n % q = 0 := by decide
  obtain ⟨n, rfl⟩ : ∃ n : Nat, p = n := ⟨p.toNat, by omega⟩
  rcases key n (by omega) (by omega) with z | z | ⟨q, q1, q2, q3⟩
  · exact z
  · have := hp.2
    omega
  · exact absurd (Int.ofNat_dvd.mpr (Nat.dvd_of_mod_eq_zero q3)) (hp.1.2 (q : Int) (by omega) (by omega))
theorem pLst_op : ∀ p ∈ pLst, QR.OP p := by
  have q : ∀ p ∈ pLst, p = ((p.toNat : Nat) : Int) ∧ 3 ≤ p.toNat ∧ p.toNat % 2 = 1 ∧ ((List.range 9).any fun k => p.toNat < k * k && (List.range k).all fun d => d < 2 || p.toNat % d != 0) = true := by decide +kernel
  intro p hp
  obtain ⟨e, a, b, c⟩ := q p hp
  obtain ⟨k, _, hk⟩ := List.any_eq_true.mp c
  rw [Bool.and_eq_true] at hk
  rw [e]
  exact QR.op_by k a b (of_decide_eq_true hk.1) hk.2
section
variable {m m' d f r : Int} {R S R' S' L T R2 S2 : List Int}
theorem Sub.rests (a : Sub m R m' R') (b : Sub m R m' L) (m1 : 1 ≤ m) (p1 : 1 ≤ m') (ha : R'.Pairwise (· < ·)) (hb : L.Pairwise (· < ·)) (u : ∀ r ∈ R', r ∈ uL m') (v : ∀ r ∈ L, r ∈ uL m') : R' = L := inc_same ha hb fun r => by
  constructor
  · intro hr
    obtain ⟨x, x1, x2⟩ := a.lift m1 p1 (u r hr)
    have := (b.same x x1).mpr ((a.same x x1).mp (by rw [x2]; exact hr))
    rwa [x2] at this
  · intro hr
    obtain ⟨x, x1, x2⟩ := a.lift m1 p1 (v r hr)
    have := (a.same x x1).mpr ((b.same x x1).mp (by rw [x2]; exact hr))
    rwa [x2] at this
theorem Sub.lv (h : Sub m R m' R') : Lv m R m' := fun x y hx hy e => by rw [← h.same x hx, ← h.same y hy, QR.emod_eq_of_dvd e]
theorem Made.low (h : Made m R S m' R' S') (l : LowRow m R S d L T) (m1 : 1 ≤ m) (m6 : m ≤ 60) (hS : ∀ p ∈ S, p ∈ pLst) : m' = d ∧ R' = L ∧ S' = T := by
  have p1 := h.least.desc.pos
  have e : m' = d := by
    have a := Int.le_of_dvd (by have := l.pos; omega) (low_dvd h.sub m1 p1 h.least.low l.pos l.dvd l.short.lv)
    rcases Int.lt_or_eq_of_le a with z | z
    · exact absurd h.sub.lv (l.first m' p1 z h.sub.dvd)
    · exact z
  subst e
  have eR : R' = L := Sub.rests h.sub (l.short.sub l.dvd) m1 p1 h.least.ri l.short.inc (fun r hr => mem_uL.mpr (h.least.desc.rests r hr)) l.short.mem
  subst eR
  refine ⟨rfl, rfl, inc_same h.least.si l.inc fun p => ?_⟩
  rw [l.odd]
  constructor
  · intro hp
    have op := h.least.desc.singles p hp
    refine ⟨(h.src p hp).elim (hS p) fun z => pLst_all op (by have := Int.le_of_dvd (by omega) z; omega), ?_⟩
    rw [← h.mem p (.inl op)]
    simp [memP, hp]
  · rintro ⟨hp, z⟩
    rw [← h.mem p (.inl (pLst_op p hp))] at z
    unfold memP at z
    by_cases t : toldP m' R' p <;> by_cases s : p ∈ S' <;> simp [t, s] at z ⊢
theorem memP_wide (w : WideRow m R S f L T) (m1 : 1 ≤ m) (f1 : 1 ≤ f) (m6 : m ≤ 60) (f6 : f ≤ 12) (hS : ∀ p ∈ S, p ∈ pLst) {p : Int} (hp : QR.OP p) : memP (m * f) L T p ↔ memP m R S p := by
  by_cases c : p ∈ pLst
  · have := w.odd p
    unfold memP at this ⊢
    by_cases t : toldP (m * f) L p <;> by_cases s : p ∈ T <;> by_cases u : toldP m R p <;> by_cases v : p ∈ S <;> simp [t, s, u, v, c] at this ⊢
  · have h60 : 60 < p := by
      rcases Int.lt_or_le 60 p with z | z
      · exact z
      · exact absurd (pLst_all hp z) c
    have nT : p ∉ T := fun z => c ((w.odd p).mp z).1
    have nS : p ∉ S := fun z => c (hS p z)
    have nm : ¬ p ∣ m := fun z => by have := Int.le_of_dvd (by omega) z; omega
    have nf : ¬ p ∣ f := fun z => by have := Int.le_of_dvd (by omega) z; omega
    have nmf : ¬ p ∣ m * f := fun z => (QR.Pm.dvd_mul hp.1 z).elim nm nf
    have mf : 1 ≤ m * f := Int.mul_pos (show 0 < m by omega) (show 0 < f by omega)
    have cu : p % (m * f) ∈ uL (m * f) := unit_of (Int.dvd_refl _) (by omega) ((QR.pm_cop hp.1).mpr nmf)
    have eT : toldP (m * f) L p ↔ toldP m R p := by
      unfold toldP
      rw [w.rests, List.mem_filter, decide_eq_true_iff, Int.emod_emod_of_dvd p ⟨f, rfl⟩]
      simp [nm, nmf, cu]
    unfold memP
    rw [eT]
    simp [nT, nS]
theorem WideRow.made {m2 : Int} (w : WideRow m R S f L T) (h : Made m R S m' R' S') (k : Made (m * f) L T m2 R2 S2) (m1 : 1 ≤ m) (f1 : 1 ≤ f) (m6 : m ≤ 60) (f6 : f ≤ 12) (hS : ∀ p ∈ S, p ∈ pLst) : m' = m2 ∧ R' = R2 ∧ S' = S2 := by
  have mf : 1 ≤ m * f := Int.mul_pos (show 0 < m by omega) (show 0 < f by omega)
  refine least_unique mf (Int.dvd_trans h.sub.dvd ⟨f, rfl⟩) k.sub.dvd h.least k.least (fun x hx => ?_) fun p hp => ?_
  · rw [h.sub.same x (QR.cop_dvd_right hx ⟨f, rfl⟩), k.sub.same x hx, w.rests, List.mem_filter, decide_eq_true_iff, Int.emod_emod_of_dvd x ⟨f, rfl⟩]
    exact ⟨fun z => ⟨unit_of (Int.dvd_refl _) (by omega) hx, z⟩, fun z => z.2⟩
  · rw [h.mem p (.inl hp), k.mem p (.inl hp), memP_wide w m1 f1 m6 f6 hS hp]
/-- the same rests and singles, the same set -/
theorem Made.same {m2 : Int} {R0 S0 : List Int} (h : Made m R S m' R' S') (k : Made m R2 S2 m2 R0 S0) (m1 : 1 ≤ m) (e1 : SameL R R2) (e2 : SameL S S2) : m' = m2 ∧ R' = R0 ∧ S' = S0 :=
  least_unique m1 h.sub.dvd k.sub.dvd h.least k.least (fun x hx => by rw [h.sub.same x hx, k.sub.same x hx, e1]) fun p hp => by
    rw [h.mem p (.inl hp), k.mem p (.inl hp), memP_congr e1 e2]
end
/-! part m_chi -/
/-- the modulus on which the sign of a number without square divisors depends -/
def cond (s : Int) : Int := if s % 4 = 1 then (s.natAbs : Int) else 4 * (s.natAbs : Int)
def oddOf (D r : Int) : Int := if r % 2 = 0 then r + D else r
def chi (s D r : Int) : Int := sgn s (oddOf D r)
section
variable {s a b D x : Int}
theorem cond_pos (h : s ≠ 0) : 1 ≤ cond s := by
  unfold cond
  split <;> omega
theorem sgn_flip {t m : Int} (t1 : 1 ≤ t) (t2 : t % 4 = 3) (m1 : 1 ≤ m) (m2 : m % 2 = 1) : sgn (-t) m = sgn m t := by
  rw [show -t = -1 * t by omega, sgn_mul m1 m2, sgn_neg1 m1 m2, sgn_turn m1 m2 t1 (by omega)]
  have : m % 4 = 1 ∨ m % 4 = 3 := by omega
  rcases this with h | h
  · rw [h, if_neg (by omega)]
    omega
  · rw [h, if_pos ⟨rfl, t2⟩]
    omega
theorem sgn_keep {t m : Int} (t1 : 1 ≤ t) (t2 : t % 4 = 1) (m1 : 1 ≤ m) (m2 : m % 2 = 1) : sgn t m = sgn m t := by
  rw [sgn_turn m1 m2 t1 (by omega), if_neg (by omega)]
  omega
/-- the sign depends on the clock modulo the conductor -/
theorem sgn_cond (h : s ≠ 0) (a1 : 1 ≤ a) (a2 : a % 2 = 1) (b1 : 1 ≤ b) (b2 : b % 2 = 1) (d : cond s ∣ a - b) : sgn s a = sgn s b := by
  unfold cond at d
  rcases Int.lt_or_le 0 s with p | p
  · rw [show (s.natAbs : Int) = s by omega] at d
    split at d
    · rename_i e
      rw [sgn_keep (by omega) e a1 a2, sgn_keep (by omega) e b1 b2]
      exact sgn_congr (by omega) (by omega) d
    · exact sgn_per (by omega) a1 a2 b1 b2 d
  · rw [show (s.natAbs : Int) = -s by omega] at d
    have e0 : s = -(-s) := by omega
    split at d
    · rename_i e
      rw [e0, sgn_flip (by omega) (by omega) a1 a2, sgn_flip (by omega) (by omega) b1 b2]
      exact sgn_congr (by omega) (by omega) d
    · rw [e0]
      exact sgn_perN (by omega) a1 a2 b1 b2 d
theorem oddOf_odd (x : Int) (o : x % 2 = 1 ∨ cond s % 2 = 1) : oddOf (cond s) (x % cond s) % 2 = 1 := by
  unfold oddOf
  by_cases e : cond s % 2 = 0
  · have : x % cond s % 2 = 1 := by
      have d : (2 : Int) ∣ cond s := Int.dvd_of_emod_eq_zero e
      rw [Int.emod_emod_of_dvd x d]
      omega
    rw [if_neg (by omega)]
    exact this
  · split <;> omega
theorem oddOf_pos (h : s ≠ 0) (o : x % 2 = 1 ∨ cond s % 2 = 1) : 1 ≤ oddOf (cond s) (x % cond s) := by
  have c := cond_pos h
  have a := oddOf_odd (s := s) x o
  have b := Int.emod_nonneg x (show cond s ≠ 0 by omega)
  unfold oddOf at *
  split at a <;> split <;> omega
theorem oddOf_dvd (x : Int) : cond s ∣ x - oddOf (cond s) (x % cond s) := by
  have e := QR.dvd_sub_emod x (cond s)
  unfold oddOf
  split
  · rw [show x - (x % cond s + cond s) = x - x % cond s - cond s by omega]
    exact Int.dvd_sub e (Int.dvd_refl _)
  · exact e
theorem chi_eq (h : s ≠ 0) (x1 : 1 ≤ x) (x2 : x % 2 = 1) : chi s (cond s) (x % cond s) = sgn s x :=
  (sgn_cond h x1 x2 (oddOf_pos h (.inl x2)) (oddOf_odd x (.inl x2)) (oddOf_dvd x)).symm
theorem cond_dvd (s : Int) : s ∣ cond s := by
  have : s ∣ (s.natAbs : Int) := Int.dvd_natAbs.mpr (Int.dvd_refl s)
  unfold cond
  split
  · exact this
  · exact Int.dvd_mul_of_dvd_right this
theorem cop_odd (c : Int.gcd x (cond s) = 1) : x % 2 = 1 ∨ cond s % 2 = 1 := by
  rcases Int.emod_two_eq x with e | e
  · right
    rcases Int.emod_two_eq (cond s) with e2 | e2
    · exfalso
      exact QR.cop_iff.mp c 2 QR.pm_two (Int.dvd_of_emod_eq_zero e) (Int.dvd_of_emod_eq_zero e2)
    · exact e2
  · exact .inl e
/-- a unit has a sign -/
theorem chi_pm (h : s ≠ 0) (c : Int.gcd x (cond s) = 1) : chi s (cond s) (x % cond s) = 1 ∨ chi s (cond s) (x % cond s) = -1 := by
  have o := cop_odd c
  refine sgn_pm (oddOf_pos h o) (oddOf_odd x o) ?_
  have c2 : Int.gcd (oddOf (cond s) (x % cond s)) (cond s) = 1 := (QR.cop_congr (oddOf_dvd x)).mp c
  rw [Int.gcd_comm]
  exact QR.cop_dvd_right c2 (cond_dvd s)
end
/-! part m_chi2 -/
theorem sgn_one1 {m : Int} (m1 : 1 ≤ m) (m2 : m % 2 = 1) : sgn 1 m = 1 := by
  have e := sgn_mul m1 m2 1 1
  rcases sgn_pm m1 m2 (a := 1) (by simp) with h | h
  · exact h
  · rw [Int.one_mul, h] at e
    omega
theorem sgn_per1 {u y : Int} (h : u ≠ 0) (y1 : 1 ≤ y) (y2 : y % 2 = 1) (d : 4 * (u.natAbs : Int) ∣ y - 1) : sgn u y = 1 := by
  rcases Int.lt_or_le 0 u with p | p
  · rw [sgn_per (by omega) y1 y2 (show (1 : Int) ≤ 1 by decide) rfl (by rwa [show (u.natAbs : Int) = u by omega] at d), sgn_1]
  · rw [show u = -(-u) by omega, sgn_perN (by omega) y1 y2 (show (1 : Int) ≤ 1 by decide) rfl (by rwa [show (u.natAbs : Int) = -u by omega] at d), sgn_1]
/-- there is a number that is no square -/
theorem nonres {p : Int} (hp : QR.OP p) : ∃ t, sgn t p = -1 := by
  have p3 := hp.three
  obtain ⟨h, rfl⟩ := odd_half (by omega) hp.2
  refine Classical.byContradiction fun no => ?_
  have all : ∀ n : Int, ¬ n % (2 * (h : Int) + 1) = 0 → n % (2 * (h : Int) + 1) ∈ (List.range h).map fun i : Nat => (1 + (i : Int)) * (1 + (i : Int)) % (2 * (h : Int) + 1) := fun n hn => by
    rcases sgn_away hp hn with e | e
    · obtain ⟨i, hi, e2⟩ := List.mem_map.mp ((sq_mem hp hn).mpr e)
      rw [List.mem_range] at hi
      rw [List.mem_map]
      by_cases c : i < h
      · exact ⟨i, List.mem_range.mpr c, e2⟩
      · refine ⟨2 * h - 1 - i, List.mem_range.mpr (by omega), ?_⟩
        rw [← e2, show ((2 * h - 1 - i : Nat) : Int) = 2 * h - 1 - i by omega]
        refine QR.emod_eq_of_dvd ⟨2 * h + 1 - 2 - 2 * i, ?_⟩
        grind
    · exact absurd ⟨n, e⟩ no
  have nd : ((List.range (2 * h)).map fun i : Nat => 1 + (i : Int)).Nodup := List.pairwise_map.mpr (List.nodup_range.imp fun h e => h (by omega))
  have l := nodup_sub_len nd (s := (List.range h).map fun i : Nat => (1 + (i : Int)) * (1 + (i : Int)) % (2 * (h : Int) + 1)) fun k hk => by
    obtain ⟨i, hi, rfl⟩ := List.mem_map.mp hk
    rw [List.mem_range] at hi
    have e : (1 + (i : Int)) % (2 * (h : Int) + 1) = 1 + i := Int.emod_eq_of_lt (by omega) (by omega)
    have := all (1 + i) (by rw [e]; omega)
    rwa [e] at this
  rw [List.length_map, List.length_map, List.length_range, List.length_range] at l
  omega
theorem sgn_keep' {q y : Int} (hq : QR.OP q) (y1 : 1 ≤ y) (y4 : y % 4 = 1) : sgn q y = sgn y q := by
  have := hq.three
  rw [sgn_turn y1 (by omega) (by omega) hq.2, if_neg (by omega)]
  omega
section
variable {s q : Int}
/-- the conductor is least: by each of its primes there is a unit that the rest tells to be like 1, with the sign -1 -/
theorem prim_odd (h : s ≠ 0) (sf : ∀ k : Int, 2 ≤ k → ¬ k * k ∣ s) (hq : QR.OP q) (hd : q ∣ cond s) : ∃ y, 1 ≤ y ∧ y % 2 = 1 ∧ Int.gcd y (cond s) = 1 ∧ cond s / q ∣ y - 1 ∧ sgn s y = -1 := by
  have q3 := hq.three
  have qs : q ∣ s := by
    have four : ¬ q ∣ 4 := fun z => by
      rcases QR.Pm.dvd_mul hq.1 (show q ∣ 2 * 2 from z) with y | y <;> (have := Int.le_of_dvd (by decide) y; omega)
    unfold cond at hd
    split at hd
    · exact Int.dvd_natAbs.mp hd
    · rcases QR.Pm.dvd_mul hq.1 hd with z | z
      · exact absurd z four
      · exact Int.dvd_natAbs.mp z
  obtain ⟨u, rfl⟩ := qs
  have u0 : u ≠ 0 := fun z => h (by rw [z, Int.mul_zero])
  have qu : ¬ q ∣ u := fun z => sf q (by omega) (by obtain ⟨c, rfl⟩ := z; exact ⟨c, by rw [Int.mul_assoc]⟩)
  obtain ⟨N, hN⟩ : ∃ N, N = 4 * (u.natAbs : Int) := ⟨_, rfl⟩
  have N4 : 4 ≤ N := by omega
  have qN : Int.gcd N q = 1 := by
    rw [Int.gcd_comm]
    refine (QR.pm_cop hq.1).mpr fun z => ?_
    rw [hN] at z
    rcases QR.Pm.dvd_mul hq.1 z with y | y
    · rcases QR.Pm.dvd_mul hq.1 (show q ∣ 2 * 2 from y) with y | y <;> (have := Int.le_of_dvd (by decide) y; omega)
    · exact qu (Int.dvd_natAbs.mp y)
  obtain ⟨t, ht⟩ := nonres hq
  obtain ⟨z, z1, z2⟩ := crt (s := N) (t := q) (x := 1) (y := t) (by omega) (by omega) (by rw [qN]; exact Int.one_dvd _)
  have Nq : 0 < N * q := Int.mul_pos (by omega) (by omega)
  obtain ⟨y, hy⟩ : ∃ y, y = z % (N * q) := ⟨_, rfl⟩
  have yd : N * q ∣ z - y := by rw [hy]; exact QR.dvd_sub_emod ..
  have y0 : 0 ≤ y := by rw [hy]; exact Int.emod_nonneg _ (by omega)
  have yN : N ∣ y - 1 := by
    have := Int.dvd_sub z1 (Int.dvd_trans ⟨q, rfl⟩ yd)
    rwa [show z - 1 - (z - y) = y - 1 by omega] at this
  have yq : q ∣ y - t := by
    have := Int.dvd_sub z2 (Int.dvd_trans ⟨N, Int.mul_comm ..⟩ yd)
    rwa [show z - t - (z - y) = y - t by omega] at this
  have y4 : y % 4 = 1 := by
    obtain ⟨c, hc⟩ := yN
    rw [hN, Int.mul_assoc] at hc
    omega
  have y1 : 1 ≤ y := by omega
  have sq : sgn y q = -1 := by rw [sgn_congr (by omega) hq.2 yq, ht]
  refine ⟨y, y1, by omega, ?_, ?_, ?_⟩
  · have c1 : Int.gcd y N = 1 := (QR.cop_congr yN).mpr (by simp)
    have c2 : Int.gcd y q = 1 := by
      refine Classical.byContradiction fun e => ?_
      rw [(sgn_zero (by omega) hq.2).mpr e] at sq
      omega
    refine QR.cop_dvd_right (QR.cop_mul c1 c2) ?_
    rw [hN]
    unfold cond
    rw [Int.natAbs_mul, Int.natCast_mul, show (q.natAbs : Int) = q by omega]
    split
    · exact ⟨4, by grind⟩
    · exact ⟨1, by grind⟩
  · refine Int.dvd_trans ?_ yN
    rw [hN]
    unfold cond
    rw [Int.natAbs_mul, Int.natCast_mul, show (q.natAbs : Int) = q by omega]
    split
    · rw [Int.mul_ediv_cancel_left _ (by omega)]
      exact ⟨4, by grind⟩
    · rw [show 4 * (q * (u.natAbs : Int)) = q * (4 * (u.natAbs : Int)) by grind, Int.mul_ediv_cancel_left _ (by omega)]
      exact Int.dvd_refl _
  · rw [sgn_mul y1 (by omega), sgn_per1 u0 y1 (by omega) (by rw [← hN]; exact yN), sgn_keep' hq y1 y4, sq]
    rfl
end
/-! part m_chi3 -/
section
variable {s q : Int}
theorem prim_two (h : s ≠ 0) (sf : ∀ k : Int, 2 ≤ k → ¬ k * k ∣ s) (hd : (2 : Int) ∣ cond s) : ∃ y, 1 ≤ y ∧ y % 2 = 1 ∧ Int.gcd y (cond s) = 1 ∧ cond s / 2 ∣ y - 1 ∧ sgn s y = -1 := by
  have c4 : ¬ s % 4 = 1 := fun e => by
    unfold cond at hd
    rw [if_pos e] at hd
    omega
  have ce : cond s = 4 * (s.natAbs : Int) := if_neg c4
  have n4 : ¬ s % 4 = 0 := fun e => sf 2 (by decide) (Int.dvd_of_emod_eq_zero e)
  refine ⟨1 + 2 * (s.natAbs : Int), by omega, by omega, ?_, ⟨1, by rw [ce]; omega⟩, ?_⟩
  · rw [ce]
    refine QR.cop_iff.mpr fun p hp a b => ?_
    have a2 : ¬ p ∣ 2 := fun z => by
      have := Int.dvd_sub a (Int.dvd_trans z ⟨(s.natAbs : Int), rfl⟩)
      rw [show 1 + 2 * (s.natAbs : Int) - 2 * (s.natAbs : Int) = 1 by omega] at this
      have := Int.le_of_dvd (by decide) this
      have := hp.1
      omega
    rcases QR.Pm.dvd_mul hp b with z | z
    · rcases QR.Pm.dvd_mul hp (show p ∣ 2 * 2 from z) with z | z <;> exact a2 z
    · have := Int.dvd_sub a (show p ∣ 2 * (s.natAbs : Int) from Int.dvd_trans z ⟨2, Int.mul_comm ..⟩)
      rw [show 1 + 2 * (s.natAbs : Int) - 2 * (s.natAbs : Int) = 1 by omega] at this
      have := Int.le_of_dvd (by decide) this
      have := hp.1
      omega
  · obtain ⟨y, hy⟩ : ∃ y, y = 1 + 2 * (s.natAbs : Int) := ⟨_, rfl⟩
    rw [← hy]
    have y1 : 1 ≤ y := by omega
    have y2 : y % 2 = 1 := by omega
    rcases Int.emod_two_eq s with e | e
    · obtain ⟨u, hu⟩ : ∃ u, s = 2 * u := ⟨s / 2, by omega⟩
      have e1 : sgn u y = 1 := sgn_per1 (by omega) y1 y2 ⟨1, by omega⟩
      rw [hu, sgn_mul y1 y2, e1, sgn_two y1 y2, if_pos (by omega)]
      rfl
    · have s3 : s % 4 = 3 := by omega
      rcases Int.lt_or_le 0 s with p | p
      · have e1 : sgn y s = 1 := by rw [sgn_congr (b := 1) (by omega) e ⟨2, by omega⟩, sgn_one1 (by omega) e]
        rw [sgn_turn y1 y2 (by omega) e, if_pos ⟨by omega, s3⟩, e1]
        rfl
      · obtain ⟨t, ht⟩ : ∃ t, s = -t := ⟨-s, by omega⟩
        have e1 : sgn y t = 1 := by rw [sgn_congr (b := 1) (by omega) (by omega) ⟨2, by omega⟩, sgn_one1 (by omega) (by omega)]
        rw [ht, show -t = -1 * t by omega, sgn_mul y1 y2, sgn_neg1 y1 y2, sgn_keep (by omega) (by omega) y1 y2, e1]
        omega
theorem prim (h : s ≠ 0) (sf : ∀ k : Int, 2 ≤ k → ¬ k * k ∣ s) (hq : QR.Pm q) (hd : q ∣ cond s) : ∃ y, Int.gcd y (cond s) = 1 ∧ cond s / q ∣ y - 1 ∧ chi s (cond s) (y % cond s) = -1 := by
  have : q = 2 ∨ 3 ≤ q := by
    have := hq.1
    omega
  have z : ∃ y, 1 ≤ y ∧ y % 2 = 1 ∧ Int.gcd y (cond s) = 1 ∧ cond s / q ∣ y - 1 ∧ sgn s y = -1 := by
    rcases this with rfl | q3
    · exact prim_two h sf hd
    · exact prim_odd h sf ⟨hq, QR.pm_odd hq q3⟩ hd
  obtain ⟨y, y1, y2, c, d, e⟩ := z
  exact ⟨y, c, d, by rw [chi_eq h y1 y2, e]⟩
theorem chi_one (h : s ≠ 0) : chi s (cond s) (1 % cond s) = 1 := by rw [chi_eq h (by decide) rfl, sgn_1]
/-- the rests with a sign -/
def chiR (s w : Int) : List Int := (uL (cond s)).filter fun r => decide (chi s (cond s) r = w)
theorem mem_chiR {w x : Int} (h : s ≠ 0) (c : Int.gcd x (cond s) = 1) : x % cond s ∈ chiR s w ↔ chi s (cond s) (x % cond s) = w := by
  have p := cond_pos h
  unfold chiR
  rw [List.mem_filter, decide_eq_true_iff]
  exact ⟨fun z => z.2, fun z => ⟨mem_uL.mpr ⟨Int.emod_nonneg _ (by omega), Int.emod_lt_of_pos _ (by omega), QR.cop_emod.mpr c⟩, z⟩⟩
theorem chiR_unit {w r : Int} (h : r ∈ chiR s w) : r ∈ uL (cond s) := (List.mem_filter.mp h).1
theorem chiR_low {w : Int} (h : s ≠ 0) (sf : ∀ k : Int, 2 ≤ k → ¬ k * k ∣ s) (hw : w = 1 ∨ w = -1) (hq : QR.Pm q) : LowAt (cond s) (chiR s w) q := fun hd lv => by
  obtain ⟨y, c, d, e⟩ := prim h sf hq hd
  have := lv y 1 c (by simp) d
  rw [mem_chiR h c, mem_chiR h (by simp), e, chi_one h] at this
  rcases hw with rfl | rfl
  · exact absurd (this.mpr rfl) (by decide)
  · exact absurd (this.mp rfl) (by decide)
theorem sub_full {D m' : Int} {R R' : List Int} (D1 : 1 ≤ D) (p1 : 1 ≤ m') (sb : Sub D R m' R') (low : ∀ q, QR.Pm q → LowAt D R q) : m' = D := by
  refine Classical.byContradiction fun ne => ?_
  obtain ⟨k, hk⟩ := sb.dvd
  have k1 : 1 ≤ k := by
    rcases Int.lt_or_le 0 k with z | z
    · omega
    · have := Int.mul_le_mul_of_nonneg_left z (show 0 ≤ m' by omega)
      omega
  have k2 : 2 ≤ k := by
    rcases Int.lt_or_eq_of_le k1 with z | z
    · omega
    · rw [← z, Int.mul_one] at hk
      exact absurd hk.symm ne
  obtain ⟨q, hq, d⟩ := QR.exists_pm k.toNat (by omega)
  rw [show ((k.toNat : Nat) : Int) = k by omega] at d
  obtain ⟨c, rfl⟩ := d
  have q2 := hq.1
  refine low q hq ⟨m' * c, by rw [hk]; grind⟩ (Lv.mono sb.lv ⟨c, ?_⟩)
  rw [hk, show m' * (q * c) = m' * c * q by grind, Int.mul_ediv_cancel _ (by omega)]
theorem chi_made {w m' : Int} {S R' S' : List Int} (h : s ≠ 0) (sf : ∀ k : Int, 2 ≤ k → ¬ k * k ∣ s) (hw : w = 1 ∨ w = -1) (md : Made (cond s) (chiR s w) S m' R' S') : m' = cond s ∧ R' = chiR s w := by
  have e := sub_full (cond_pos h) md.least.desc.pos md.sub fun q hq => chiR_low h sf hw hq
  refine ⟨e, ?_⟩
  subst e
  refine inc_same md.least.ri (uL_inc.filter _) fun r => ?_
  constructor
  · intro hr
    have u := md.least.desc.rests r hr
    have := (md.sub.same r u.2.2).mp
    rw [Int.emod_eq_of_lt u.1 u.2.1] at this
    exact this hr
  · intro hr
    obtain ⟨u0, u1, u2⟩ := mem_uL.mp (chiR_unit hr)
    have := (md.sub.same r u2).mpr
    rw [Int.emod_eq_of_lt u0 u1] at this
    exact this hr
end
/-! part m_k76 -/
theorem exists_core0 : ∀ (k : Nat) (n : Int), n.natAbs ≤ k → n ≠ 0 → ∃ s r, CoreOk n s r := by
  intro k
  induction k with
  | zero => intro n h h0; omega
  | succ k ih =>
    intro n h h0
    by_cases c : ∃ j : Int, 2 ≤ j ∧ j * j ∣ n
    · obtain ⟨j, j2, m, rfl⟩ := c
      have m0 : m ≠ 0 := fun z => h0 (by rw [z, Int.mul_zero])
      have : 2 * 2 ≤ j * j := Int.mul_le_mul j2 j2 (by decide) (by omega)
      have e : ((j * j * m).natAbs : Int) = j * j * (m.natAbs : Int) := by
        rw [Int.natAbs_mul, Int.natCast_mul, show (((j * j).natAbs : Nat) : Int) = j * j by omega]
      have : 4 * (m.natAbs : Int) ≤ j * j * (m.natAbs : Int) := Int.mul_le_mul_of_nonneg_right (by omega) (by omega)
      obtain ⟨s, r, c⟩ := ih m (by omega) m0
      exact ⟨s, r * j, by rw [← c.prod]; grind, Int.mul_pos (by have := c.pos; omega) (by omega), c.free⟩
    · exact ⟨n, 1, by omega, by decide, fun j j2 z => c ⟨j, j2, z⟩⟩
theorem exists_core {n : Int} (h : n ≠ 0) : ∃ s r, CoreOk n s r := exists_core0 _ n (Nat.le_refl _) h
/-! part m_bar -/
/-! choices of places, products of what is chosen, patterns that are barred -/
/-- the product of what a mask takes -/
def mp : List Bool → List Int → Int
  | true :: m, x :: xs => x * mp m xs
  | false :: m, _ :: xs => mp m xs
  | _, _ => 1
theorem mp_snoc : ∀ {m : List Bool} {xs : List Int} {b : Bool} {x : Int}, m.length = xs.length → mp (m ++ [b]) (xs ++ [x]) = mp m xs * (if b then x else 1)
  | [], [], b, x, _ => by cases b <;> simp [mp]
  | a :: m, y :: xs, b, x, h => by
    have ih := mp_snoc (m := m) (xs := xs) (b := b) (x := x) (by simpa using h)
    cases a <;> simp only [List.cons_append, mp, ih, Int.mul_assoc]
/-- either of two masks, not both -/
def mx : List Bool → List Bool → List Bool
  | a :: m, b :: t => (a != b) :: mx m t
  | _, _ => []
theorem mx_len : ∀ {m t : List Bool} {k : Nat}, m.length = k → t.length = k → (mx m t).length = k
  | [], [], _, h, _ => h
  | _ :: m, _ :: t, k + 1, h, g => by
    have := mx_len (m := m) (t := t) (k := k) (by simpa using h) (by simpa using g)
    simp [mx, this]
theorem mp_ne : ∀ {m : List Bool} {xs : List Int}, (∀ x ∈ xs, x ≠ 0) → mp m xs ≠ 0
  | true :: m, x :: xs, h => Int.mul_ne_zero (h x List.mem_cons_self) (mp_ne fun y hy => h y (List.mem_cons_of_mem _ hy))
  | false :: m, x :: xs, h => mp_ne (m := m) fun y hy => h y (List.mem_cons_of_mem _ hy)
  | [], [], _ => by simp [mp]
  | [], _ :: _, _ => by simp [mp]
  | true :: _, [], _ => by simp [mp]
  | false :: _, [], _ => by simp [mp]
theorem mp_mx : ∀ {m t : List Bool} {xs : List Int}, m.length = xs.length → t.length = xs.length → (∀ x ∈ xs, x ≠ 0) → ∃ r : Int, r ≠ 0 ∧ mp m xs * mp t xs = mp (mx m t) xs * (r * r)
  | [], [], [], _, _, _ => ⟨1, by decide, by simp [mp, mx]⟩
  | [], _ :: _, xs, h, g, _ => by rw [← h] at g; cases g
  | _ :: _, [], xs, h, g, _ => by rw [← g] at h; cases h
  | a :: m, b :: t, x :: xs, h, g, z => by
    obtain ⟨r, r0, e⟩ := mp_mx (m := m) (t := t) (xs := xs) (by simpa using h) (by simpa using g) fun y hy => z y (List.mem_cons_of_mem _ hy)
    have x0 := z x List.mem_cons_self
    cases a <;> cases b
    · exact ⟨r, r0, by simpa [mp, mx] using e⟩
    · refine ⟨r, r0, ?_⟩
      simp only [mp, mx]
      show mp m xs * (x * mp t xs) = x * mp (mx m t) xs * (r * r)
      grind
    · refine ⟨r, r0, ?_⟩
      simp only [mp, mx]
      show x * mp m xs * mp t xs = x * mp (mx m t) xs * (r * r)
      grind
    · refine ⟨x * r, Int.mul_ne_zero x0 r0, ?_⟩
      simp only [mp, mx]
      show x * mp m xs * (x * mp t xs) = mp (mx m t) xs * (x * r * (x * r))
      grind
/-- one or minus one everywhere -/
def Pm1 (σ : List Int) : Prop := ∀ s ∈ σ, s = 1 ∨ s = -1
theorem pm_mul {a b : Int} (h : a = 1 ∨ a = -1) (k : b = 1 ∨ b = -1) : a * b = 1 ∨ a * b = -1 := by rcases h with e | e <;> rcases k with f | f <;> rw [e, f] <;> decide
theorem mp_pm : ∀ {m : List Bool} {σ : List Int}, Pm1 σ → mp m σ = 1 ∨ mp m σ = -1
  | true :: m, x :: xs, h => pm_mul (h x List.mem_cons_self) (mp_pm fun y hy => h y (List.mem_cons_of_mem _ hy))
  | false :: m, x :: xs, h => mp_pm (m := m) fun y hy => h y (List.mem_cons_of_mem _ hy)
  | [], [], _ => .inl rfl
  | [], _ :: _, _ => .inl rfl
  | true :: _, [], _ => .inl rfl
  | false :: _, [], _ => .inl rfl
theorem pm_sq {a : Int} (h : a = 1 ∨ a = -1) : a * a = 1 := by rcases h with e | e <;> rw [e] <;> decide
theorem mp_mx1 : ∀ {m t : List Bool} {σ : List Int}, m.length = σ.length → t.length = σ.length → Pm1 σ → mp (mx m t) σ = mp m σ * mp t σ
  | [], [], [], _, _, _ => by simp [mp, mx]
  | [], _ :: _, xs, h, g, _ => by rw [← h] at g; cases g
  | _ :: _, [], xs, h, g, _ => by rw [← g] at h; cases h
  | a :: m, b :: t, x :: xs, h, g, z => by
    have ih := mp_mx1 (m := m) (t := t) (σ := xs) (by simpa using h) (by simpa using g) fun y hy => z y (List.mem_cons_of_mem _ hy)
    have xx := pm_sq (z x List.mem_cons_self)
    cases a <;> cases b
    · show mp (mx m t) xs = mp m xs * mp t xs
      exact ih
    · show x * mp (mx m t) xs = mp m xs * (x * mp t xs)
      rw [ih]; grind
    · show x * mp (mx m t) xs = x * mp m xs * mp t xs
      rw [ih]; grind
    · show mp (mx m t) xs = x * mp m xs * (x * mp t xs)
      rw [ih]
      have : x * mp m xs * (x * mp t xs) = (x * x) * (mp m xs * mp t xs) := by grind
      rw [this, xx, Int.one_mul]
theorem mp_zip : ∀ {m : List Bool} {a b : List Int}, m.length = a.length → m.length = b.length → mp m (List.zipWith (· * ·) a b) = mp m a * mp m b
  | [], [], [], _, _ => by simp [mp]
  | c :: m, x :: a, y :: b, h, g => by
    have ih := mp_zip (m := m) (a := a) (b := b) (by simpa using h) (by simpa using g)
    cases c <;> simp only [List.zipWith, mp, ih]
    grind
/-- a square -/
def IsSqr (n : Int) : Prop := ∃ r : Int, n = r * r
/-- a choice whose product is a square and whose signs have the product -1 -/
def Bar (ns σ : List Int) : Prop := ∃ m : List Bool, m.length = ns.length ∧ mp m σ = -1 ∧ IsSqr (mp m ns)
/-- a square times a product of the others -/
def Dep (ns : List Int) (n : Int) : Prop := ∃ t : List Bool, t.length = ns.length ∧ IsSqr (n * mp t ns)
theorem sqr_mul {a b : Int} (h : IsSqr a) (k : IsSqr b) : IsSqr (a * b) := by
  obtain ⟨r, rfl⟩ := h
  obtain ⟨s, rfl⟩ := k
  exact ⟨r * s, by grind⟩
/-- a square divided by a square -/
theorem sqr_div {a r : Int} (h0 : r ≠ 0) (h : IsSqr (a * (r * r))) : IsSqr a := by
  obtain ⟨s, hs⟩ := h
  have d : r * r ∣ s * s := ⟨a, by rw [← hs, Int.mul_comm]⟩
  have d2 : r.natAbs * r.natAbs ∣ s.natAbs * s.natAbs := by
    rw [← Int.natAbs_mul, ← Int.natAbs_mul]
    exact Int.natAbs_dvd_natAbs.mpr d
  have d3 : r.natAbs ∣ s.natAbs := by
    have := Nat.pow_dvd_pow_iff (a := r.natAbs) (b := s.natAbs) (n := 2) (by decide)
    rw [Nat.pow_two, Nat.pow_two] at this
    exact this.mp d2
  obtain ⟨t, ht⟩ := Int.natAbs_dvd_natAbs.mp d3
  refine ⟨t, ?_⟩
  have : a * (r * r) = t * t * (r * r) := by rw [hs, ht]; grind
  exact Int.eq_of_mul_eq_mul_right (Int.mul_ne_zero h0 h0) this
theorem sqr_cross {a b : Int} (h : IsSqr (a * b)) (hb : b ≠ 0) {c : Int} (k : IsSqr (b * c)) : IsSqr (a * c) := by
  refine sqr_div hb ?_
  have := sqr_mul h k
  rw [show a * c * (b * b) = a * b * (b * c) by grind]
  exact this
theorem bar_no {ns σ : List Int} {n s : Int} (h : ns.length = σ.length) (k : Bar ns σ) : Bar (ns ++ [n]) (σ ++ [s]) := by
  obtain ⟨m, l, a, b⟩ := k
  refine ⟨m ++ [false], by simp [l], ?_, ?_⟩
  · rw [mp_snoc (l.trans h), a]
    rfl
  · rw [mp_snoc l]
    simpa using b
theorem bar_indep {ns σ : List Int} {n s : Int} (h : ns.length = σ.length) (nd : ¬ Dep ns n) : Bar (ns ++ [n]) (σ ++ [s]) ↔ Bar ns σ := by
  constructor
  · rintro ⟨m, l, a, b⟩
    have ml : m.length = ns.length + 1 := by rw [l]; simp
    obtain ⟨m0, c, rfl⟩ : ∃ m0 c, m = m0 ++ [c] := by
      have hm : m ≠ [] := by intro z; rw [z] at ml; cases ml
      exact ⟨m.dropLast, m.getLast hm, (List.dropLast_concat_getLast hm).symm⟩
    have l0 : m0.length = ns.length := by simpa using ml
    rw [mp_snoc (l0.trans h)] at a
    rw [mp_snoc l0] at b
    cases c with
    | false => exact ⟨m0, l0, by simpa using a, by simpa using b⟩
    | true => exact absurd ⟨m0, l0, by rw [Int.mul_comm]; simpa using b⟩ nd
  · exact bar_no h
theorem bar_dep {ns σ : List Int} {n s : Int} {t : List Bool} (h : ns.length = σ.length) (z : ∀ x ∈ ns, x ≠ 0) (n0 : n ≠ 0) (p : Pm1 σ) (hs : s = 1 ∨ s = -1) (tl : t.length = ns.length) (d : IsSqr (n * mp t ns)) (nb : ¬ Bar ns σ) : Bar (ns ++ [n]) (σ ++ [s]) ↔ s ≠ mp t σ := by
  have pt := mp_pm (m := t) p
  constructor
  · rintro ⟨m, l, a, b⟩ e
    have ml : m.length = ns.length + 1 := by rw [l]; simp
    obtain ⟨m0, c, rfl⟩ : ∃ m0 c, m = m0 ++ [c] := by
      have hm : m ≠ [] := by intro z; rw [z] at ml; cases ml
      exact ⟨m.dropLast, m.getLast hm, (List.dropLast_concat_getLast hm).symm⟩
    have l0 : m0.length = ns.length := by simpa using ml
    rw [mp_snoc (l0.trans h)] at a
    rw [mp_snoc l0] at b
    cases c with
    | false => exact nb ⟨m0, l0, by simpa using a, by simpa using b⟩
    | true =>
      simp only [if_true] at a b
      refine nb ⟨mx m0 t, mx_len l0 tl, ?_, ?_⟩
      · rw [mp_mx1 (l0.trans h) (tl.trans h) p, ← e]
        exact a
      · obtain ⟨r, r0, er⟩ := mp_mx l0 tl z
        refine sqr_div r0 ?_
        rw [← er]
        exact sqr_cross b n0 d
  · intro e
    refine ⟨t ++ [true], by simp [tl], ?_, ?_⟩
    · rw [mp_snoc (tl.trans h)]
      simp only [if_true]
      rcases pt with y | y <;> rcases hs with w | w <;> first | exact absurd (w.trans y.symm) e | (rw [y, w]; decide)
    · rw [mp_snoc tl, Int.mul_comm]
      simpa using d
/-- all rows of signs, in order -/
def rowsP : Nat → List (List Int)
  | 0 => [[]]
  | k + 1 => (rowsP k).flatMap fun r => [r ++ [-1], r ++ [1]]
theorem rowsP_ok : ∀ {k : Nat} {r : List Int}, r ∈ rowsP k ↔ r.length = k ∧ Pm1 r
  | 0, r => by
    simp only [rowsP, List.mem_singleton]
    exact ⟨fun e => by rw [e]; exact ⟨rfl, fun _ h => absurd h List.not_mem_nil⟩, fun h => List.eq_nil_of_length_eq_zero h.1⟩
  | k + 1, r => by
    simp only [rowsP, List.mem_flatMap, List.mem_cons, List.not_mem_nil, or_false]
    constructor
    · rintro ⟨q, hq, e⟩
      obtain ⟨ql, qp⟩ := rowsP_ok.mp hq
      rcases e with e | e <;> subst e <;> refine ⟨by simp [ql], fun s hs => ?_⟩ <;> (rcases List.mem_append.mp hs with h | h; · exact qp s h) <;> rw [List.mem_singleton.mp h] <;> decide
    · rintro ⟨l, p⟩
      have hr : r ≠ [] := by intro z; rw [z] at l; cases l
      refine ⟨r.dropLast, rowsP_ok.mpr ⟨by simp [l], fun s hs => p s (List.dropLast_subset r hs)⟩, ?_⟩
      have e := List.dropLast_concat_getLast hr
      rcases p _ (List.getLast_mem hr) with h | h <;> rw [h] at e
      · exact .inr e.symm
      · exact .inl e.symm
open Classical in
/-- how many rows are not barred -/
noncomputable def freeN (ns : List Int) : Nat := ((rowsP ns.length).filter fun r => decide (¬ Bar ns r)).length
open Classical in
theorem flat_count {ns ns' : List Int} {c : Nat} : ∀ (L : List (List Int)), (∀ r ∈ L, ((([r ++ [-1], r ++ [1]] : List (List Int)).filter fun q => decide (¬ Bar ns' q)).length = if Bar ns r then 0 else c)) → ((L.flatMap fun r => [r ++ [-1], r ++ [1]]).filter fun q => decide (¬ Bar ns' q)).length = c * (L.filter fun r => decide (¬ Bar ns r)).length
  | [], _ => by simp
  | r :: L, h => by
    have ih := flat_count L fun q hq => h q (List.mem_cons_of_mem _ hq)
    have h1 := h r List.mem_cons_self
    rw [List.flatMap_cons, List.filter_append, List.length_append, ih, h1, List.filter_cons]
    by_cases b : Bar ns r
    · simp [b]
    · simp only [b, if_false, not_false_eq_true, decide_true, if_true, List.length_cons]
      rw [Nat.mul_succ, Nat.add_comm]
theorem freeN_indep {ns : List Int} {n : Int} (nd : ¬ Dep ns n) : freeN (ns ++ [n]) = 2 * freeN ns := by
  unfold freeN
  rw [List.length_append, List.length_singleton]
  refine flat_count _ fun r hr => ?_
  obtain ⟨l, p⟩ := rowsP_ok.mp hr
  by_cases b : Bar ns r
  · simp [bar_indep l.symm nd, b]
  · simp [bar_indep l.symm nd, b]
theorem freeN_dep {ns : List Int} {n : Int} (z : ∀ x ∈ ns, x ≠ 0) (n0 : n ≠ 0) (d : Dep ns n) : freeN (ns ++ [n]) = freeN ns := by
  unfold freeN
  rw [List.length_append, List.length_singleton, show (rowsP (ns.length + 1)) = (rowsP ns.length).flatMap fun r => [r ++ [-1], r ++ [1]] from rfl]
  rw [← Nat.one_mul ((rowsP ns.length).filter _).length]
  obtain ⟨t, tl, sq⟩ := d
  refine flat_count _ fun r hr => ?_
  obtain ⟨l, p⟩ := rowsP_ok.mp hr
  by_cases b : Bar ns r
  · have b1 : Bar (ns ++ [n]) (r ++ [-1]) := bar_no l.symm b
    have b2 : Bar (ns ++ [n]) (r ++ [1]) := bar_no l.symm b
    simp [b1, b2, b]
  · have h1 := bar_dep (s := -1) l.symm z n0 p (.inr rfl) tl sq b
    have h2 := bar_dep (s := 1) l.symm z n0 p (.inl rfl) tl sq b
    rcases mp_pm (m := t) p with y | y <;> rw [y] at h1 h2
    · have c1 : Bar (ns ++ [n]) (r ++ [-1]) := h1.mpr (by decide)
      have c2 : ¬ Bar (ns ++ [n]) (r ++ [1]) := fun z => absurd rfl (h2.mp z)
      simp [b, c1, c2]
    · have c1 : Bar (ns ++ [n]) (r ++ [1]) := h2.mpr (by decide)
      have c2 : ¬ Bar (ns ++ [n]) (r ++ [-1]) := fun z => absurd rfl (h1.mp z)
      simp [b, c1, c2]
/-- no square divides it -/
def Fr (s : Int) : Prop := s ≠ 0 ∧ ∀ k : Int, 2 ≤ k → ¬ k * k ∣ s
theorem fr_eq {a b : Int} (ha : Fr a) (hb : Fr b) (h : IsSqr (a * b)) : a = b := by
  obtain ⟨r, hr⟩ := h
  have b0 : b.natAbs ≠ 0 := by have := hb.1; omega
  have r0 : r ≠ 0 := by
    intro z
    rw [z] at hr
    exact Int.mul_ne_zero ha.1 hb.1 (by simpa using hr)
  have bb : ((b.natAbs : Nat) : Int) * ((b.natAbs : Nat) : Int) = b * b := by
    rw [← Int.natCast_mul]; exact Int.natAbs_mul_self
  have rr : ((r.natAbs : Nat) : Int) * ((r.natAbs : Nat) : Int) = r * r := by
    rw [← Int.natCast_mul]; exact Int.natAbs_mul_self
  have c1 : CoreOk (a * b * b) a (b.natAbs : Int) := ⟨by rw [Int.mul_assoc, bb, Int.mul_assoc], by omega, ha.2⟩
  have c2 : CoreOk (a * b * b) b (r.natAbs : Int) := ⟨by rw [Int.mul_assoc, rr, hr, Int.mul_comm], by omega, hb.2⟩
  exact (c1.uniq c2).1
theorem CoreOk.fr {n s r : Int} (h : CoreOk n s r) (h0 : n ≠ 0) : Fr s := ⟨fun z => h0 (by rw [← h.prod, z]; simp), h.free⟩
theorem CoreOk.sqr {n s r : Int} (h : CoreOk n s r) : IsSqr (n * s) := ⟨s * r, by rw [← h.prod]; grind⟩
theorem CoreOk.sqr' {n s r : Int} (h : CoreOk n s r) : IsSqr (s * n) := by rw [Int.mul_comm]; exact h.sqr
theorem CoreOk.one {n s r : Int} (h : CoreOk n s r) (h0 : n ≠ 0) : s = 1 ↔ IsSqr n := by
  constructor
  · intro e
    exact ⟨r, by rw [← h.prod, e]; grind⟩
  · intro k
    refine fr_eq (h.fr h0) ⟨by decide, fun j j2 hd => ?_⟩ ?_
    · have := Int.le_of_dvd (by decide) hd
      have := Int.mul_le_mul j2 j2 (by decide) (by omega)
      omega
    · rw [Int.mul_one]
      refine sqr_div (r := n) h0 ?_
      rw [show s * (n * n) = s * n * n by grind]
      exact sqr_mul h.sqr' k
/-- the list that is doubled where a number is no square times a product of earlier ones -/
structure SpanOk (ns sp : List Int) : Prop where
  fr : ∀ x ∈ sp, Fr x ∧ ∃ t : List Bool, t.length = ns.length ∧ IsSqr (x * mp t ns)
  all : ∀ t : List Bool, t.length = ns.length → ∃ x ∈ sp, IsSqr (x * mp t ns)
  len : sp.length = freeN ns
theorem Fr.one : Fr 1 := ⟨by decide, fun j j2 hd => by
  have := Int.le_of_dvd (by decide) hd
  have := Int.mul_le_mul j2 j2 (by decide) (by omega)
  omega⟩
theorem SpanOk.nil : SpanOk [] [1] := ⟨fun x hx => by rw [List.mem_singleton.mp hx]; exact ⟨Fr.one, [], rfl, 1, by simp [mp]⟩, fun t ht => ⟨1, List.mem_singleton_self _, 1, by
  have : t = [] := List.eq_nil_of_length_eq_zero ht
  subst this
  simp [mp]⟩, by
  have nb : ¬ Bar [] [] := fun ⟨m, l, a, _⟩ => by
    have : m = [] := List.eq_nil_of_length_eq_zero l
    subst this
    simp [mp] at a
  simp [freeN, rowsP, nb]⟩
theorem mp_all {ns : List Int} {n : Int} {t : List Bool} (tl : t.length = (ns ++ [n]).length) : ∃ t0 b, t = t0 ++ [b] ∧ t0.length = ns.length ∧ mp t (ns ++ [n]) = mp t0 ns * (if b then n else 1) := by
  have hm : t ≠ [] := by intro z; rw [z] at tl; simp at tl
  have e := List.dropLast_concat_getLast hm
  have l0 : t.dropLast.length = ns.length := by simp [tl]
  refine ⟨t.dropLast, t.getLast hm, e.symm, l0, ?_⟩
  rw [← mp_snoc l0, e]
theorem SpanOk.stay {ns sp : List Int} {n : Int} (h : SpanOk ns sp) (z : ∀ x ∈ ns, x ≠ 0) (n0 : n ≠ 0) (d : Dep ns n) : SpanOk (ns ++ [n]) sp := by
  refine ⟨fun x hx => ?_, fun t tl => ?_, by rw [freeN_dep z n0 d]; exact h.len⟩
  · obtain ⟨f, t, tl, sq⟩ := h.fr x hx
    refine ⟨f, t ++ [false], by simp [tl], ?_⟩
    rw [mp_snoc tl]
    simpa using sq
  · obtain ⟨t0, b, rfl, l0, e⟩ := mp_all tl
    rw [e]
    cases b with
    | false => simpa using h.all t0 l0
    | true =>
      obtain ⟨t1, l1, sq⟩ := d
      obtain ⟨x, hx, sx⟩ := h.all (mx t0 t1) (mx_len l0 l1)
      refine ⟨x, hx, ?_⟩
      obtain ⟨r, r0, er⟩ := mp_mx l0 l1 z
      simp only [if_true]
      -- x ~ mx ~ t0 * t1 ~ t0 * n
      have a1 : IsSqr (x * (mp t0 ns * mp t1 ns)) := by
        rw [er, ← Int.mul_assoc]
        exact sqr_mul sx ⟨r, rfl⟩
      have m1 := mp_ne (m := t1) z
      refine sqr_div (r := mp t1 ns) m1 ?_
      rw [show x * (mp t0 ns * n) * (mp t1 ns * mp t1 ns) = x * (mp t0 ns * mp t1 ns) * (n * mp t1 ns) by grind]
      exact sqr_mul a1 sq
theorem SpanOk.grow {ns sp : List Int} {n : Int} {f : Int → Int} (h : SpanOk ns sp) (z : ∀ x ∈ ns, x ≠ 0) (n0 : n ≠ 0) (d : ¬ Dep ns n) (hf : ∀ x ∈ sp, ∃ r, CoreOk (n * x) (f x) r) : SpanOk (ns ++ [n]) (sp ++ sp.map f) := by
  refine ⟨fun y hy => ?_, fun t tl => ?_, by rw [List.length_append, List.length_map, freeN_indep d, h.len]; omega⟩
  · rcases List.mem_append.mp hy with hx | hx
    · obtain ⟨f, t, tl, sq⟩ := h.fr y hx
      refine ⟨f, t ++ [false], by simp [tl], ?_⟩
      rw [mp_snoc tl]
      simpa using sq
    · obtain ⟨x, hx2, rfl⟩ := List.mem_map.mp hx
      obtain ⟨fx, t, tl, sq⟩ := h.fr x hx2
      obtain ⟨r, c⟩ := hf x hx2
      have nx : n * x ≠ 0 := Int.mul_ne_zero n0 fx.1
      refine ⟨c.fr nx, t ++ [true], by simp [tl], ?_⟩
      rw [mp_snoc tl]
      simp only [if_true]
      refine sqr_cross c.sqr' nx ?_
      rw [show n * x * (mp t ns * n) = x * mp t ns * (n * n) by grind]
      exact sqr_mul sq ⟨n, rfl⟩
  · obtain ⟨t0, b, rfl, l0, e⟩ := mp_all tl
    rw [e]
    obtain ⟨x, hx, sx⟩ := h.all t0 l0
    cases b with
    | false => exact ⟨x, List.mem_append_left _ hx, by simpa using sx⟩
    | true =>
      obtain ⟨r, c⟩ := hf x hx
      have nx : n * x ≠ 0 := Int.mul_ne_zero n0 (h.fr x hx).1.1
      refine ⟨f x, List.mem_append_right _ (List.mem_map.mpr ⟨x, hx, rfl⟩), ?_⟩
      simp only [if_true]
      refine sqr_cross c.sqr' nx ?_
      rw [show n * x * (mp t0 ns * n) = x * mp t0 ns * (n * n) by grind]
      exact sqr_mul sx ⟨n, rfl⟩
theorem Bar.zip {ns a b : List Int} (la : a.length = ns.length) (lb : b.length = ns.length) (pa : Pm1 a) (pb : Pm1 b) (ha : ¬ Bar ns a) (hb : ¬ Bar ns b) : ¬ Bar ns (List.zipWith (· * ·) a b) := by
  rintro ⟨m, l, e, sq⟩
  rw [mp_zip (l.trans la.symm) (l.trans lb.symm)] at e
  have h1 : mp m a = 1 := (mp_pm pa).resolve_right fun z => ha ⟨m, l, z, sq⟩
  have h2 : mp m b = 1 := (mp_pm pb).resolve_right fun z => hb ⟨m, l, z, sq⟩
  rw [h1, h2] at e
  cases e
/-! part m_places -/
/-! ascending lists of places -/
def Asc (k : Nat) (P : List Nat) : Prop := P.Pairwise (· < ·) ∧ ∀ i ∈ P, i < k
/-- where the next place begins -/
def nextN (r : List Nat) : Nat := match r.getLast? with
  | none => 0
  | some x => x + 1
def stepN (m : Nat) (r : List Nat) : List (List Nat) := (List.range (m - nextN r)).map fun a => r ++ [nextN r + a]
def chL (m : Nat) : Nat → List (List Nat)
  | 0 => [[]]
  | l + 1 => (chL m l).flatMap (stepN m)
theorem asc_snoc {m : Nat} {r : List Nat} {x : Nat} : Asc m (r ++ [x]) ↔ Asc m r ∧ nextN r ≤ x ∧ x < m := by
  unfold Asc nextN
  rw [List.pairwise_append]
  constructor
  · rintro ⟨⟨a, _, c⟩, d⟩
    refine ⟨⟨a, fun i hi => d i (List.mem_append_left _ hi)⟩, ?_, d x (by simp)⟩
    cases h : r.getLast? with
    | none => exact Nat.zero_le _
    | some y => exact c y (List.mem_of_getLast? h) x (by simp)
  · rintro ⟨⟨a, b⟩, c, d⟩
    refine ⟨⟨a, List.pairwise_singleton .., fun y hy z hz => ?_⟩, fun i hi => ?_⟩
    · rw [List.mem_singleton.mp hz]
      cases h : r.getLast? with
      | none =>
        rw [List.getLast?_eq_none_iff.mp h] at hy
        cases hy
      | some w =>
        rw [h] at c
        replace c : w + 1 ≤ x := c
        have hr : r ≠ [] := by intro z; rw [z] at hy; cases hy
        have e : r.getLast hr = w := by
          rw [List.getLast?_eq_some_getLast hr] at h
          exact Option.some.inj h
        have dl := List.dropLast_concat_getLast hr
        rw [← dl] at hy a
        rcases List.mem_append.mp hy with h1 | h1
        · have := (List.pairwise_append.mp a).2.2 y h1 (r.getLast hr) (by simp)
          rw [e] at this
          omega
        · rw [List.mem_singleton.mp h1, e]
          omega
    · rcases List.mem_append.mp hi with h | h
      · exact b i h
      · rw [List.mem_singleton.mp h]
        exact d
theorem mem_stepN {m : Nat} {r P : List Nat} : P ∈ stepN m r ↔ ∃ x, P = r ++ [x] ∧ nextN r ≤ x ∧ x < m := by
  unfold stepN
  rw [List.mem_map]
  constructor
  · rintro ⟨a, ha, rfl⟩
    have := List.mem_range.mp ha
    exact ⟨_, rfl, by omega, by omega⟩
  · rintro ⟨x, rfl, a, b⟩
    exact ⟨x - nextN r, List.mem_range.mpr (by omega), by rw [show nextN r + (x - nextN r) = x by omega]⟩
theorem snoc_of {α : Type} {l : List α} (h : l ≠ []) : ∃ r x, l = r ++ [x] := ⟨l.dropLast, l.getLast h, (List.dropLast_concat_getLast h).symm⟩
theorem mem_chL {m : Nat} : ∀ {l : Nat} {P : List Nat}, P ∈ chL m l ↔ Asc m P ∧ P.length = l
  | 0, P => by
    rw [chL, List.mem_singleton]
    exact ⟨fun e => by rw [e]; exact ⟨⟨List.Pairwise.nil, fun _ h => absurd h List.not_mem_nil⟩, rfl⟩, fun h => List.eq_nil_of_length_eq_zero h.2⟩
  | l + 1, P => by
    rw [chL, List.mem_flatMap]
    constructor
    · rintro ⟨r, hr, hP⟩
      obtain ⟨a, b⟩ := mem_chL.mp hr
      obtain ⟨x, rfl, c, d⟩ := mem_stepN.mp hP
      exact ⟨asc_snoc.mpr ⟨a, c, d⟩, by simp [b]⟩
    · rintro ⟨a, b⟩
      obtain ⟨r, x, rfl⟩ := snoc_of (l := P) (by intro z; rw [z] at b; cases b)
      obtain ⟨c, d, e⟩ := asc_snoc.mp a
      exact ⟨r, mem_chL.mpr ⟨c, by simpa using b⟩, mem_stepN.mpr ⟨x, rfl, d, e⟩⟩
/-- the product of what stands at some places -/
def prodN (P : List Nat) (xs : List Int) : Int := (P.map fun i => xs.getD i 1).foldl (· * ·) 1
theorem prodN_snoc {P : List Nat} {x : Nat} {xs : List Int} : prodN (P ++ [x]) xs = prodN P xs * xs.getD x 1 := by
  unfold prodN
  rw [List.map_append, List.foldl_append]
  rfl
theorem prodN_low {k : Nat} {P : List Nat} {xs : List Int} {x : Int} (h : ∀ i ∈ P, i < k) (l : xs.length = k) : prodN P (xs ++ [x]) = prodN P xs := by
  unfold prodN
  congr 1
  refine List.map_congr_left fun i hi => ?_
  have := h i hi
  rw [List.getD_eq_getElem?_getD, List.getD_eq_getElem?_getD, List.getElem?_append_left (by omega)]
theorem len_snoc {k : Nat} {xs : List Int} (h : xs.length = k + 1) : ∃ ys x, xs = ys ++ [x] ∧ ys.length = k := by
  obtain ⟨ys, x, rfl⟩ := snoc_of (l := xs) (by intro z; rw [z] at h; cases h)
  exact ⟨ys, x, rfl, by simpa using h⟩
theorem mask_places : ∀ (k : Nat) (m : List Bool), m.length = k → ∃ P, Asc k P ∧ ∀ xs : List Int, xs.length = k → prodN P xs = mp m xs
  | 0, m, h => by
    have : m = [] := List.eq_nil_of_length_eq_zero h
    subst this
    exact ⟨[], ⟨List.Pairwise.nil, fun _ h => absurd h List.not_mem_nil⟩, fun xs _ => by simp [prodN, mp]⟩
  | k + 1, m, h => by
    obtain ⟨m0, b, rfl⟩ := snoc_of (l := m) (by intro z; rw [z] at h; cases h)
    have l0 : m0.length = k := by simpa using h
    obtain ⟨P, a, e⟩ := mask_places k m0 l0
    cases b with
    | false =>
      refine ⟨P, ⟨a.1, fun i hi => Nat.lt_succ_of_lt (a.2 i hi)⟩, fun xs hx => ?_⟩
      obtain ⟨ys, x, rfl, ly⟩ := len_snoc hx
      rw [prodN_low a.2 ly, e ys ly, mp_snoc (l0.trans ly.symm)]
      simp
    | true =>
      refine ⟨P ++ [k], ?_, fun xs hx => ?_⟩
      · refine asc_snoc.mpr ⟨⟨a.1, fun i hi => Nat.lt_succ_of_lt (a.2 i hi)⟩, ?_, Nat.lt_succ_self _⟩
        unfold nextN
        cases hl : P.getLast? with
        | none => exact Nat.zero_le _
        | some y => exact a.2 y (List.mem_of_getLast? hl)
      · obtain ⟨ys, x, rfl, ly⟩ := len_snoc hx
        rw [prodN_snoc, prodN_low a.2 ly, e ys ly, mp_snoc (l0.trans ly.symm)]
        rw [List.getD_eq_getElem?_getD, List.getElem?_append_right (by omega), ly]
        simp
theorem places_mask : ∀ (k : Nat) (P : List Nat), Asc k P → ∃ m : List Bool, m.length = k ∧ ∀ xs : List Int, xs.length = k → mp m xs = prodN P xs
  | 0, P, h => by
    have : P = [] := List.eq_nil_iff_forall_not_mem.mpr fun i hi => absurd (h.2 i hi) (Nat.not_lt_zero _)
    subst this
    exact ⟨[], rfl, fun xs hx => by
      have : xs = [] := List.eq_nil_of_length_eq_zero hx
      subst this
      simp [prodN, mp]⟩
  | k + 1, P, h => by
    by_cases hk : k ∈ P
    · obtain ⟨Q, x, rfl⟩ := snoc_of (l := P) (by intro z; rw [z] at hk; cases hk)
      obtain ⟨a, b, c⟩ := asc_snoc.mp h
      have e : x = k := by
        rcases List.mem_append.mp hk with y | y
        · have := (List.pairwise_append.mp h.1).2.2 k y x (by simp)
          omega
        · exact (List.mem_singleton.mp y).symm
      subst e
      have aQ : Asc x Q := ⟨a.1, fun i hi => (List.pairwise_append.mp h.1).2.2 i hi x (by simp)⟩
      obtain ⟨m, l, e⟩ := places_mask x Q aQ
      refine ⟨m ++ [true], by simp [l], fun xs hx => ?_⟩
      obtain ⟨ys, y, rfl, ly⟩ := len_snoc hx
      rw [prodN_snoc, prodN_low aQ.2 ly, ← e ys ly, mp_snoc (l.trans ly.symm)]
      rw [List.getD_eq_getElem?_getD, List.getElem?_append_right (by omega), ly]
      simp
    · have aP : Asc k P := ⟨h.1, fun i hi => by
        have := h.2 i hi
        have : i ≠ k := fun z => hk (z ▸ hi)
        omega⟩
      obtain ⟨m, l, e⟩ := places_mask k P aP
      refine ⟨m ++ [false], by simp [l], fun xs hx => ?_⟩
      obtain ⟨ys, y, rfl, ly⟩ := len_snoc hx
      rw [prodN_low aP.2 ly, ← e ys ly, mp_snoc (l.trans ly.symm)]
      simp
/-- the places bar the pattern -/
def ShowN (ns σ : List Int) (P : List Nat) : Prop := prodN P σ = -1 ∧ IsSqr (prodN P ns)
theorem bar_places {ns σ : List Int} (h : σ.length = ns.length) : Bar ns σ ↔ ∃ P, Asc ns.length P ∧ P ≠ [] ∧ ShowN ns σ P := by
  constructor
  · rintro ⟨m, l, a, b⟩
    obtain ⟨P, c, e⟩ := mask_places _ m l
    refine ⟨P, c, ?_, by rw [← e σ h] at a; exact a, by rw [← e ns rfl] at b; exact b⟩
    rintro rfl
    rw [← e σ h] at a
    cases a
  · rintro ⟨P, c, _, a, b⟩
    obtain ⟨m, l, e⟩ := places_mask _ P c
    exact ⟨m, l, by rw [e σ h]; exact a, by rw [e ns rfl]; exact b⟩
theorem asc_len : ∀ {k : Nat} {P : List Nat}, Asc k P → P.length ≤ k
  | k, [], _ => Nat.zero_le _
  | k, i :: P, h => by
    obtain ⟨r, x, e⟩ := snoc_of (l := i :: P) (by simp)
    rw [e] at h ⊢
    obtain ⟨a, b, c⟩ := asc_snoc.mp h
    have aQ : Asc x r := ⟨a.1, fun i hi => (List.pairwise_append.mp h.1).2.2 i hi x (by simp)⟩
    have : r.length < (i :: P).length := by rw [e]; simp
    have := asc_len aQ
    rw [List.length_append, List.length_singleton]
    omega
  termination_by _ P => P.length
/-! part m_rowz -/
/-! lists of ints in a list, away from an address -/
def RowsZ (p : Addr) (H : Hp) : List Addr → List (List Int) → Prop
  | [], [] => True
  | a :: as, r :: rs => a ≠ p ∧ H a = some (.lst (r.map V.int)) ∧ RowsZ p H as rs
  | _, _ => False
theorem RowsZ.len {p : Addr} {H : Hp} : ∀ {as : List Addr} {rs : List (List Int)}, RowsZ p H as rs → as.length = rs.length
  | [], [], _ => rfl
  | _ :: as, _ :: rs, h => by simp [RowsZ.len h.2.2]
theorem RowsZ.but {p : Addr} {H G : Hp} (b : But p H G) : ∀ {as : List Addr} {rs : List (List Int)}, RowsZ p H as rs → RowsZ p G as rs
  | [], [], _ => trivial
  | _ :: _, _ :: _, h => ⟨h.1, b _ _ h.1 h.2.1, RowsZ.but b h.2.2⟩
theorem RowsZ.mono {p : Addr} {H G : Hp} (s : Same H G) {as : List Addr} {rs : List (List Int)} (h : RowsZ p H as rs) : RowsZ p G as rs := h.but (But.of s)
theorem RowsZ.app {p : Addr} {H : Hp} : ∀ {as bs : List Addr} {rs ss : List (List Int)}, RowsZ p H as rs → RowsZ p H bs ss → RowsZ p H (as ++ bs) (rs ++ ss)
  | [], _, [], _, _, k => k
  | _ :: _, _, _ :: _, _, h, k => ⟨h.1, h.2.1, RowsZ.app h.2.2 k⟩
theorem RowsZ.snoc {p a : Addr} {H : Hp} {as : List Addr} {rs : List (List Int)} {r : List Int} (h : RowsZ p H as rs) (n : a ≠ p) (e : H a = some (.lst (r.map V.int))) : RowsZ p H (as ++ [a]) (rs ++ [r]) := h.app ⟨n, e, trivial⟩
theorem RowsZ.re {p q : Addr} {H : Hp} : ∀ {as : List Addr} {rs : List (List Int)}, RowsZ p H as rs → (∀ a ∈ as, a ≠ q) → RowsZ q H as rs
  | [], [], _, _ => trivial
  | a :: _, _ :: _, h, n => ⟨n a List.mem_cons_self, h.2.1, RowsZ.re h.2.2 fun b hb => n b (List.mem_cons_of_mem _ hb)⟩
theorem RowsZ.ex {p : Addr} {H : Hp} : ∀ {as : List Addr} {rs : List (List Int)}, RowsZ p H as rs → ∀ a ∈ as, H a ≠ none
  | [], [], _, _, h => absurd h List.not_mem_nil
  | b :: _, _ :: _, h, a, ha => by
    rcases List.mem_cons.mp ha with e | e
    · rw [e, h.2.1]
      intro z
      cases z
    · exact RowsZ.ex h.2.2 a e
theorem RowsZ.free {p q : Addr} {H : Hp} {as : List Addr} {rs : List (List Int)} (h : RowsZ p H as rs) (f : H q = none) : RowsZ q H as rs := h.re fun a ha e => h.ex a ha (e ▸ f)
theorem RowsZ.at {p : Addr} {H : Hp} : ∀ {as : List Addr} {rs : List (List Int)} {i : Nat} {v : V}, RowsZ p H as rs → (as.map V.ref)[i]? = some v → ∃ a r, v = .ref a ∧ as[i]? = some a ∧ rs[i]? = some r ∧ a ≠ p ∧ H a = some (.lst (r.map V.int))
  | [], [], i, v, _, h => by simp at h
  | a :: _, r :: _, 0, v, k, h => ⟨a, r, by simpa using h.symm, rfl, rfl, k.1, k.2.1⟩
  | _ :: _, _ :: _, i + 1, v, k, h => RowsZ.at (i := i) k.2.2 (by simpa using h)
/-- a list of lists of ints that a call has made -/
structure NewZ (H G : Hp) (L : Addr) (as : List Addr) (rs : List (List Int)) : Prop where
  s : Same H G
  n : NoT G
  f : H L = none
  l : G L = some (.lst (as.map V.ref))
  r : RowsZ L G as rs
  fa : ∀ a ∈ as, H a = none
/-! part m_form -/
/-- a form's three numbers -/
structure Fm where
  a : Int
  b : Int
  c : Int
deriving DecidableEq
def Fm.D (f : Fm) : Int := f.b * f.b - 4 * f.a * f.c
def Fm.ok (f : Fm) : Prop := 1 ≤ f.a ∧ f.D < 0
def Fm.at (f : Fm) (x y : Int) : Int := f.a * x * x + f.b * x * y + f.c * y * y
def Fm.nx (f : Fm) : Option Int := if ¬ (-f.a < f.b ∧ f.b ≤ f.a) then some ((f.a - f.b) / (2 * f.a)) else if f.c < f.a ∨ f.a = f.c ∧ f.b < 0 then some 0 else none
def Fm.bd (n : Nat) (f : Fm) : Prop := Bd n f.a ∧ Bd n f.b ∧ Bd n f.c
theorem Fm.bd.mono {n m : Nat} {f : Fm} (h : Fm.bd n f) (hm : n ≤ m) : Fm.bd m f := ⟨h.1.mono hm, h.2.1.mono hm, h.2.2.mono hm⟩
/-! part m_row -/
def Fm.ns (f : Fm) : List Int := [f.a, f.b, f.c]
abbrev Fm.row (f : Fm) : List V := f.ns.map V.int
/-! part m_back -/
/-! part m_turn -/
/-! part m_rests -/
/-! part m_gcd -/
theorem gcd_turn {x y : Int} (hx : 0 ≤ x) (hy : 0 < y) : Int.gcd y (x % y) = Int.gcd x y := by
  obtain ⟨m, rfl⟩ : ∃ m : Nat, x = m := ⟨x.toNat, by omega⟩
  obtain ⟨n, rfl⟩ : ∃ n : Nat, y = n := ⟨y.toNat, by omega⟩
  rw [← Int.natCast_emod, Int.gcd_natCast_natCast, Int.gcd_natCast_natCast, Nat.gcd_comm m n, Nat.gcd_rec n m, Nat.gcd_comm]
theorem gcd_abs (a b : Int) : Int.gcd (if a < 0 then -a else a) (if b < 0 then -b else b) = Int.gcd a b := by
  split <;> split <;> simp [Int.gcd_neg, Int.neg_gcd]
/-! part m_bl -/
theorem inV_bl {b : Bool} : ∀ {bs : List Bool}, inV (.bl b) (bs.map V.bl) = decide (b ∈ bs)
  | [] => by simp [inV]
  | c :: bs => by
    have ih := inV_bl (b := b) (bs := bs)
    unfold inV at ih ⊢
    rw [List.map_cons, List.any_cons, ih]
    cases b <;> cases c <;> simp [eqV]
theorem flat_bl : ∀ {bs : List Bool}, (bs.map V.bl).all flatV = true
  | [] => rfl
  | _ :: bs => by
    rw [List.map_cons, List.all_cons, flat_bl]
    rfl
theorem lft_bl {R : List Int} {b : Bool} {ls : List Int} : b ∈ ls.map (fun l => decide (l ∈ R)) ↔ ∃ l ∈ ls, decide (l ∈ R) = b := List.mem_map
/-! part m_insl -/
theorem insL_new {l : List Int} {k : Int} (h : k ∉ l) : insL l k = l ++ [k] := by
  unfold insL
  rw [if_neg h]
/-! part m_cut -/
theorem sIx_nn {n d : Nat} {i : Int} (h : 0 ≤ i) : HT.sIx n d (some i) = min i.toNat n := by
  unfold HT.sIx
  simp
  omega
theorem cut_map {α : Type} {f : α → V} {l : List α} {lo hi : Option Int} : ∃ m : List α, cutV (l.map f) lo hi = m.map f ∧ (∀ x ∈ m, x ∈ l) := by
  refine ⟨(l.drop (HT.sIx l.length 0 lo)).take (HT.sIx l.length l.length hi - HT.sIx l.length 0 lo), ?_, fun x hx => List.mem_of_mem_drop (List.mem_of_mem_take hx)⟩
  unfold cutV
  rw [List.length_map, List.map_take, List.map_drop]
/-! part m_dual -/
/-! patterns that are not barred are told by some odd number -/
section
variable {D : Int → Prop} (hD : ∀ x, D x → 1 ≤ x ∧ x % 2 = 1) (mulD : ∀ x y, D x → D y → D (x * y)) (oneD : D 1)
  (base : ∀ n : Int, n ≠ 0 → (∀ x, D x → sgn n x = 1 ∨ sgn n x = -1) → (∀ x, D x → sgn n x = 1) → IsSqr n)
include hD mulD base
theorem dual : ∀ (ns : List Int) (n : Int), n ≠ 0 → (∀ x, D x → sgn n x = 1 ∨ sgn n x = -1) → (∀ m ∈ ns, m ≠ 0 ∧ ∀ x, D x → sgn m x = 1 ∨ sgn m x = -1) → (∀ x, D x → (∀ m ∈ ns, sgn m x = 1) → sgn n x = 1) → Dep ns n
  | [], n, n0, np, _, h => by
    refine ⟨[], rfl, ?_⟩
    simpa [mp] using base n n0 np fun x dx => h x dx fun m hm => absurd hm List.not_mem_nil
  | m :: r, n, n0, np, hm, h => by
    obtain ⟨m0, mpm⟩ := hm m (by simp)
    have hr : ∀ k ∈ r, k ≠ 0 ∧ ∀ x, D x → sgn k x = 1 ∨ sgn k x = -1 := fun k hk => hm k (List.mem_cons_of_mem _ hk)
    by_cases c : ∀ x, D x → (∀ k ∈ r, sgn k x = 1) → sgn n x = 1
    · obtain ⟨t, tl, sq⟩ := dual r n n0 np hr c
      exact ⟨false :: t, by simp [tl], sq⟩
    · obtain ⟨w, cw⟩ := Classical.not_forall.mp c
      obtain ⟨dw, cw⟩ := Classical.not_imp.mp cw
      obtain ⟨tw, nw⟩ := Classical.not_imp.mp cw
      have nw1 : sgn n w = -1 := (np w dw).resolve_left nw
      have mw : sgn m w = -1 := (mpm w dw).resolve_left fun e => nw (h w dw fun k hk => by
        rcases List.mem_cons.mp hk with y | y
        · rw [y]; exact e
        · exact tw k y)
      have ow := hD w dw
      obtain ⟨t, tl, sq⟩ := dual r (n * m) (Int.mul_ne_zero n0 m0) (fun x dx => by
        rw [sgn_mul (hD x dx).1 (hD x dx).2]
        exact pm_mul (np x dx) (mpm x dx)) hr fun x dx tx => by
        have ox := hD x dx
        rw [sgn_mul ox.1 ox.2]
        rcases mpm x dx with e | e
        · rw [e, h x dx fun k hk => by
            rcases List.mem_cons.mp hk with y | y
            · rw [y]; exact e
            · exact tx k y]
          rfl
        · have f := h (x * w) (mulD x w dx dw) fun k hk => by
            rcases List.mem_cons.mp hk with y | y
            · rw [y, sgn_mod_mul ox.1 ox.2 m ow.1 ow.2, e, mw]; rfl
            · rw [sgn_mod_mul ox.1 ox.2 k ow.1 ow.2, tx k y, tw k y]; rfl
          rw [sgn_mod_mul ox.1 ox.2 n ow.1 ow.2, nw1] at f
          rw [e]
          omega
      refine ⟨true :: t, by simp [tl], ?_⟩
      show IsSqr (n * (m * mp t r))
      rw [← Int.mul_assoc]
      exact sq
omit hD mulD base in
theorem mp_sgnx {x : Int} (x1 : 1 ≤ x) (x2 : x % 2 = 1) : ∀ {m : List Bool} {ns : List Int}, mp m (ns.map fun n => sgn n x) = sgn (mp m ns) x
  | true :: m, y :: ys => by
    show sgn y x * mp m (ys.map fun n => sgn n x) = sgn (y * mp m ys) x
    rw [mp_sgnx x1 x2, sgn_mul x1 x2]
  | false :: m, _ :: ys => mp_sgnx x1 x2 (m := m) (ns := ys)
  | [], [] => (sgn_one1 x1 x2).symm
  | [], _ :: _ => (sgn_one1 x1 x2).symm
  | true :: _, [] => (sgn_one1 x1 x2).symm
  | false :: _, [] => (sgn_one1 x1 x2).symm
include oneD in
/-- a pattern that is not barred is told by some x -/
theorem attain : ∀ (k : Nat) (ns σ : List Int), ns.length = k → σ.length = k → (∀ m ∈ ns, m ≠ 0 ∧ ∀ x, D x → sgn m x = 1 ∨ sgn m x = -1) → Pm1 σ → ¬ Bar ns σ → ∃ x, D x ∧ ns.map (fun n => sgn n x) = σ
  | 0, ns, σ, l1, l2, _, _, _ => by
    have e1 := List.eq_nil_of_length_eq_zero l1
    have e2 := List.eq_nil_of_length_eq_zero l2
    subst e1
    subst e2
    exact ⟨1, oneD, rfl⟩
  | k + 1, ns, σ, l1, l2, hm, p, nb => by
    obtain ⟨ns, n, rfl, l3⟩ : ∃ ys y, ns = ys ++ [y] ∧ ys.length = k := by
      have hn : ns ≠ [] := by intro z; rw [z] at l1; cases l1
      exact ⟨ns.dropLast, ns.getLast hn, (List.dropLast_concat_getLast hn).symm, by simp [l1]⟩
    obtain ⟨σ, s, rfl, l4⟩ : ∃ ys y, σ = ys ++ [y] ∧ ys.length = k := by
      have hn : σ ≠ [] := by intro z; rw [z] at l2; cases l2
      exact ⟨σ.dropLast, σ.getLast hn, (List.dropLast_concat_getLast hn).symm, by simp [l2]⟩
    have hr : ∀ m ∈ ns, m ≠ 0 ∧ ∀ x, D x → sgn m x = 1 ∨ sgn m x = -1 := fun m h => hm m (List.mem_append_left _ h)
    obtain ⟨n0, np⟩ := hm n (by simp)
    have pr : Pm1 σ := fun y h => p y (List.mem_append_left _ h)
    have ps : s = 1 ∨ s = -1 := p s (by simp)
    have z0 : ∀ x ∈ ns, x ≠ 0 := fun x h => (hr x h).1
    have nb0 : ¬ Bar ns σ := fun h => nb (bar_no (l3.trans l4.symm) h)
    obtain ⟨x, dx, ex⟩ := attain k ns σ l3 l4 hr pr nb0
    have ox := hD x dx
    by_cases d : Dep ns n
    · obtain ⟨t, tl, sq⟩ := d
      have es : s = mp t σ := Classical.byContradiction fun e => nb ((bar_dep (l3.trans l4.symm) z0 n0 pr ps tl sq nb0).mpr e)
      refine ⟨x, dx, ?_⟩
      rw [List.map_append, ex]
      congr 1
      obtain ⟨r, hr2⟩ := sq
      have e1 : sgn (n * mp t ns) x = sgn r x * sgn r x := by rw [hr2, sgn_mul ox.1 ox.2]
      rw [sgn_mul ox.1 ox.2, ← mp_sgnx ox.1 ox.2, ex, ← es, sgn_sq ox.1 ox.2] at e1
      show [sgn n x] = [s]
      congr 1
      rcases np x dx with y | y <;> rcases ps with w | w <;> rw [y, w] at e1 ⊢ <;> (split at e1 <;> cases e1)
    · obtain ⟨v, dv, tv, nv⟩ : ∃ v, D v ∧ (∀ m ∈ ns, sgn m v = 1) ∧ sgn n v = -1 := by
        refine Classical.byContradiction fun no => d (dual hD mulD base ns n n0 np hr fun y dy ty => ?_)
        exact (np y dy).resolve_right fun e => no ⟨y, dy, ty, e⟩
      by_cases e : sgn n x = s
      · refine ⟨x, dx, ?_⟩
        rw [List.map_append, ex]
        show σ ++ [sgn n x] = σ ++ [s]
        rw [e]
      · have ov := hD v dv
        refine ⟨x * v, mulD x v dx dv, ?_⟩
        rw [List.map_append, ← ex]
        congr 1
        · refine List.map_congr_left fun m h => ?_
          rw [sgn_mod_mul ox.1 ox.2 m ov.1 ov.2, tv m h, Int.mul_one]
        · show [sgn n (x * v)] = [s]
          rw [sgn_mod_mul ox.1 ox.2 n ov.1 ov.2, nv]
          congr 1
          rcases np x dx with y | y <;> rcases ps with w | w <;> first | exact absurd (y.trans w.symm) e | (rw [y, w]; decide)
end
/-! part m_dual2 -/
/-! a number that is no square has an odd number with the sign -1, away from N -/
theorem sgn_pern {u x y : Int} (h : u ≠ 0) (x1 : 1 ≤ x) (x2 : x % 2 = 1) (y1 : 1 ≤ y) (y2 : y % 2 = 1) (d : 4 * (u.natAbs : Int) ∣ y - x) : sgn u y = sgn u x := by
  rcases Int.lt_or_le 0 u with p | p
  · exact sgn_per (by omega) y1 y2 x1 x2 (by rwa [show (u.natAbs : Int) = u by omega] at d)
  · rw [show u = -(-u) by omega]
    exact sgn_perN (by omega) y1 y2 x1 x2 (by rwa [show (u.natAbs : Int) = -u by omega] at d)
/-- the odd numbers away from N -/
def Odds (N x : Int) : Prop := 1 ≤ x ∧ x % 2 = 1 ∧ Int.gcd x N = 1
theorem odds_base {N : Int} (N1 : 1 ≤ N) (n : Int) (n0 : n ≠ 0) (np : ∀ x, Odds N x → sgn n x = 1 ∨ sgn n x = -1) (h : ∀ x, Odds N x → sgn n x = 1) : IsSqr n := by
  obtain ⟨s, r, c⟩ := exists_core n0
  by_cases s1 : s = 1
  · exact ⟨r, by rw [← c.prod, s1]; grind⟩
  · exfalso
    have s0 := (c.bound n0 (B := (n.natAbs : Int)) (by omega) (by omega)).1
    have c2 : 2 ≤ cond s := by
      unfold cond
      split <;> omega
    obtain ⟨q, qp, qd⟩ := prime_in (cond s).toNat (cond s) c2 (by omega)
    obtain ⟨y, y1, y2, yc, _, ys⟩ : ∃ y, 1 ≤ y ∧ y % 2 = 1 ∧ Int.gcd y (cond s) = 1 ∧ cond s / q ∣ y - 1 ∧ sgn s y = -1 := by
      by_cases q2 : q = 2
      · subst q2
        exact prim_two s0 c.free qd
      · exact prim_odd s0 c.free ⟨qp, Classical.byContradiction fun e => qp.2 2 (by decide) (by have := qp.1; omega) (Int.dvd_of_emod_eq_zero (by omega))⟩ qd
    have sc : (s.natAbs : Int) ∣ cond s := by
      unfold cond
      split
      · exact Int.dvd_refl _
      · exact ⟨4, Int.mul_comm ..⟩
    have pm2 : QR.Pm 2 := ⟨by decide, fun d a b => by omega⟩
    have yt : Int.gcd y 2 = 1 := by
      rw [Int.gcd_comm]
      exact (QR.pm_cop pm2).mpr (by omega)
    have y4 : Int.gcd y (4 * (s.natAbs : Int)) = 1 := QR.cop_mul (show Int.gcd y (2 * 2) = 1 from QR.cop_mul yt yt) (QR.cop_dvd_right yc sc)
    have p4 : 0 < 4 * (s.natAbs : Int) := by omega
    obtain ⟨x0, x0c, x0m⟩ := unit_lift N.toNat p4 rfl (by omega) (unit_of (Int.dvd_refl _) p4 y4)
    rw [Int.toNat_of_nonneg (by omega)] at x0c
    obtain ⟨M, hM⟩ : ∃ M, M = 4 * (s.natAbs : Int) * N := ⟨_, rfl⟩
    rw [← hM] at x0c
    have Mp : 0 < M := by rw [hM]; exact Int.mul_pos p4 (by omega)
    have xc : Int.gcd (x0 % M) M = 1 := QR.cop_emod.mpr x0c
    have x1 := Int.emod_nonneg x0 (show M ≠ 0 by omega)
    have dM : 4 * (s.natAbs : Int) ∣ M := ⟨N, hM⟩
    have xd : 4 * (s.natAbs : Int) ∣ x0 % M - y := by
      have a : 4 * (s.natAbs : Int) ∣ x0 - y := Int.dvd_of_emod_eq_zero (by rw [Int.emod_eq_emod_iff_emod_sub_eq_zero.mp x0m])
      have b : 4 * (s.natAbs : Int) ∣ x0 - x0 % M := Int.dvd_trans dM (QR.dvd_sub_emod ..)
      have := Int.dvd_sub a b
      rwa [show x0 - y - (x0 - x0 % M) = x0 % M - y by omega] at this
    have x2 : x0 % M % 2 = 1 := by
      have := QR.cop_dvd_right xc (show (2 : Int) ∣ M from Int.dvd_trans ⟨2 * (s.natAbs : Int), by omega⟩ dM)
      rw [Int.gcd_comm] at this
      have := (QR.pm_cop pm2).mp this
      omega
    have e := h (x0 % M) ⟨by omega, x2, QR.cop_dvd_right xc ⟨4 * (s.natAbs : Int), by rw [hM, Int.mul_comm]⟩⟩
    rw [← c.prod, Int.mul_assoc, sgn_mul (by omega) x2, sgn_mul (by omega) x2 r r, sgn_sq (by omega) x2, sgn_pern s0 y1 y2 (by omega) x2 xd, ys] at e
    split at e <;> cases e
/-! part m_pow -/
/-! powers on a clock -/
theorem cg_pow {p a b : Int} (h : p ∣ a - b) : ∀ e : Nat, p ∣ a ^ e - b ^ e
  | 0 => ⟨0, by simp⟩
  | e + 1 => by
    obtain ⟨c, hc⟩ := cg_pow h e
    obtain ⟨d, hd⟩ := h
    exact ⟨c * a + b ^ e * d, by rw [Int.pow_succ, Int.pow_succ, Int.mul_add, ← Int.mul_assoc, ← hc, Int.mul_left_comm, ← hd]; grind⟩
theorem sq_pow (b : Int) : ∀ e : Nat, (b * b) ^ e = b ^ (2 * e)
  | 0 => by simp
  | e + 1 => by rw [Int.pow_succ, sq_pow b e, show 2 * (e + 1) = 2 * e + 1 + 1 by omega, Int.pow_succ, Int.pow_succ, Int.mul_assoc]
theorem pw_even {p r b X : Int} {e : Nat} (h : p ∣ r * b ^ e - X) (he : e % 2 = 0) : p ∣ r * (b * b % p) ^ (e / 2) - X := by
  have e1 := Int.mul_ediv_add_emod (b * b) p
  obtain ⟨c, hc⟩ := cg_pow (p := p) (a := b * b % p) (b := b * b) ⟨-(b * b / p), by rw [Int.mul_neg]; omega⟩ (e / 2)
  obtain ⟨d, hd⟩ := h
  rw [sq_pow, show 2 * (e / 2) = e by omega] at hc
  exact ⟨r * c + d, by rw [Int.mul_add, ← hd, Int.mul_left_comm, ← hc]; grind⟩
theorem pw_odd {p r b X : Int} {e : Nat} (h : p ∣ r * b ^ e - X) (he : e % 2 = 1) : p ∣ r * b % p * (b * b % p) ^ (e / 2) - X := by
  refine pw_even (e := e - 1) ?_ (by omega) |> fun z => by rw [show (e - 1) / 2 = e / 2 by omega] at z; exact z
  have e1 := Int.mul_ediv_add_emod (r * b) p
  obtain ⟨d, hd⟩ := h
  rw [show e = (e - 1) + 1 by omega, Int.pow_succ] at hd
  generalize r * b / p = q at *
  generalize r * b % p = s at *
  have es : s = r * b - p * q := by omega
  refine ⟨d - q * b ^ (e - 1), ?_⟩
  rw [Int.mul_sub, ← hd, es]
  clear hd e1 es he
  grind
theorem pw_fin {p r X : Int} (h : p ∣ r * X ^ 0 - Y) (h0 : 0 ≤ r) (h1 : r < p) : r = Y % p := by
  obtain ⟨c, hc⟩ := h
  rw [Int.pow_zero, Int.mul_one] at hc
  rw [show Y = r + p * -c by rw [Int.mul_neg]; omega, Int.add_mul_emod_self_left, Int.emod_eq_of_lt h0 h1]
/-! part m_cip -/
namespace QR
/-! binomial numbers, and that a prime divides the inner ones -/
def ch : Nat → Nat → Int
  | _, 0 => 1
  | 0, _ + 1 => 0
  | n + 1, k + 1 => ch n k + ch n (k + 1)
/-! sums of an integer and a multiple of a root of w -/
def mulQ (w : Int) (x y : Int × Int) : Int × Int := (x.1 * y.1 + x.2 * y.2 * w, x.1 * y.2 + x.2 * y.1)
def powQ (w : Int) (x : Int × Int) : Nat → Int × Int
  | 0 => (1, 0)
  | n + 1 => mulQ w (powQ w x n) x
theorem mulQ_assoc (w : Int) (x y z : Int × Int) : mulQ w (mulQ w x y) z = mulQ w x (mulQ w y z) := by
  simp only [mulQ, Prod.mk.injEq]
  constructor <;> grind
theorem mulQ_comm (w : Int) (x y : Int × Int) : mulQ w x y = mulQ w y x := by
  simp only [mulQ, Prod.mk.injEq]
  constructor <;> grind
theorem powQ_sq (w : Int) (x : Int × Int) (n : Nat) : powQ w (mulQ w x x) n = powQ w x (2 * n) := by
  induction n with
  | zero => rfl
  | succ n ih =>
    rw [powQ, ih, show 2 * (n + 1) = 2 * n + 1 + 1 by omega, powQ, powQ, mulQ_assoc]
end QR
/-! part m_rt -/
/-! roots on a clock -/
def cg (p a b : Int) : Prop := p ∣ a - b
theorem cg.mulQ1 {p w a b c d a' b' c' d' : Int} (h1 : p ∣ a - a') (h2 : p ∣ b - b') (h3 : p ∣ c - c') (h4 : p ∣ d - d') : p ∣ (a * c + b * d * w) % p - (a' * c' + b' * d' * w) := by
  obtain ⟨x, hx⟩ := h1
  obtain ⟨y, hy⟩ := h2
  obtain ⟨z, hz⟩ := h3
  obtain ⟨u, hu⟩ := h4
  have e := Int.mul_ediv_add_emod (a * c + b * d * w) p
  generalize (a * c + b * d * w) / p = q at *
  generalize (a * c + b * d * w) % p = r at *
  have ea : a = a' + p * x := by omega
  have eb : b = b' + p * y := by omega
  have ec : c = c' + p * z := by omega
  have ed : d = d' + p * u := by omega
  refine ⟨a' * z + x * c' + p * x * z + (b' * u + y * d' + p * y * u) * w - q, ?_⟩
  have : r = a * c + b * d * w - p * q := by omega
  rw [this, ea, eb, ec, ed]
  grind
theorem cg.mulQ2 {p a b c d a' b' c' d' : Int} (h1 : p ∣ a - a') (h2 : p ∣ b - b') (h3 : p ∣ c - c') (h4 : p ∣ d - d') : p ∣ (a * d + b * c) % p - (a' * d' + b' * c') := by
  obtain ⟨x, hx⟩ := h1
  obtain ⟨y, hy⟩ := h2
  obtain ⟨z, hz⟩ := h3
  obtain ⟨u, hu⟩ := h4
  have e := Int.mul_ediv_add_emod (a * d + b * c) p
  generalize (a * d + b * c) / p = q at *
  generalize (a * d + b * c) % p = r at *
  have ea : a = a' + p * x := by omega
  have eb : b = b' + p * y := by omega
  have ec : c = c' + p * z := by omega
  have ed : d = d' + p * u := by omega
  refine ⟨a' * u + x * d' + p * x * u + (b' * z + y * c' + p * y * z) - q, ?_⟩
  have : r = a * d + b * c - p * q := by omega
  rw [this, ea, eb, ec, ed]
  grind
namespace QR
/-- what the loop keeps: the pairs stand for sums, and result times power to the exponent is one and the same -/
def Keep (p w t : Int) (h : Nat) (a b c d : Int) (e : Nat) : Prop := ∃ R S : Int × Int, p ∣ a - R.1 ∧ p ∣ b - R.2 ∧ p ∣ c - S.1 ∧ p ∣ d - S.2 ∧ mulQ w R (powQ w S e) = powQ w (t, 1) h
theorem Keep.odd {p w t a b c d : Int} {h e : Nat} (k : Keep p w t h a b c d e) (ho : e % 2 = 1) : Keep p w t h ((a * c + b * d * w) % p) ((a * d + b * c) % p) ((c * c + d * d * w) % p) ((c * d + d * c) % p) (e / 2) := by
  obtain ⟨R, S, h1, h2, h3, h4, he⟩ := k
  refine ⟨mulQ w R S, mulQ w S S, cg.mulQ1 h1 h2 h3 h4, cg.mulQ2 h1 h2 h3 h4, cg.mulQ1 h3 h4 h3 h4, cg.mulQ2 h3 h4 h3 h4, ?_⟩
  rw [powQ_sq, mulQ_assoc, mulQ_comm w S, ← he]
  rw [show e = 2 * (e / 2) + 1 by omega, powQ, show (2 * (e / 2) + 1) / 2 = e / 2 by omega]
end QR
/-! part m_clk -/
/-! odd primes up to 10000019, and Euler's power -/
theorem rest_by {p r Y : Int} (h : p ∣ Y - r) (h0 : 0 ≤ r) (h1 : r < p) : Y % p = r := by
  obtain ⟨c, hc⟩ := h
  rw [show Y = r + p * c by omega, Int.add_mul_emod_self_left, Int.emod_eq_of_lt h0 h1]
theorem euler_pow {n p : Int} (hp : QR.OP p) : n ^ ((p - 1) / 2).toNat % p = p - 1 ↔ sgn n p = -1 := by
  have h3 := hp.three
  obtain ⟨h, rfl⟩ := odd_half (by omega) hp.2
  rw [show ((2 * (h : Int) + 1 - 1) / 2).toNat = h by omega]
  by_cases h0 : n % (2 * (h : Int) + 1) = 0
  · rw [sgn_at0 hp h0]
    obtain ⟨c, hc⟩ := Int.dvd_of_emod_eq_zero h0
    have : n ^ h % (2 * (h : Int) + 1) = 0 := by
      refine Int.emod_eq_zero_of_dvd ?_
      obtain ⟨k, rfl⟩ : ∃ k, h = k + 1 := ⟨h - 1, by omega⟩
      rw [Int.pow_succ]
      exact Int.dvd_mul_of_dvd_right ⟨c, hc⟩
    rw [this]
    omega
  · obtain ⟨c, hc⟩ := QR.gauss hp.1 (a := n) fun z => h0 (Int.emod_eq_zero_of_dvd z)
    rw [sgn_G]
    rcases sgn_away hp h0 with e | e
    · rw [sgn_G] at e
      rw [e] at hc ⊢
      rw [rest_by (r := 1) ⟨c, hc⟩ (by omega) (by omega)]
      omega
    · rw [sgn_G] at e
      rw [e] at hc ⊢
      rw [rest_by (r := 2 * (h : Int) + 1 - 1) ⟨c - 1, by rw [Int.mul_sub]; omega⟩ (by omega) (by omega)]
      omega
/-! part m_gaussl -/
theorem euler_sgn {n p : Int} (hp : QR.OP p) : (if n ^ ((p - 1) / 2).toNat % p = p - 1 then -1 else n ^ ((p - 1) / 2).toNat % p) = sgn n p := by
  have h3 := hp.three
  by_cases e : n ^ ((p - 1) / 2).toNat % p = p - 1
  · rw [if_pos e]
    exact ((euler_pow hp).mp e).symm
  · rw [if_neg e]
    have ne : sgn n p ≠ -1 := fun z => e ((euler_pow hp).mpr z)
    obtain ⟨h, rfl⟩ := odd_half (by omega) hp.2
    rw [show ((2 * (h : Int) + 1 - 1) / 2).toNat = h by omega]
    by_cases h0 : n % (2 * (h : Int) + 1) = 0
    · rw [sgn_at0 hp h0]
      obtain ⟨c, hc⟩ := Int.dvd_of_emod_eq_zero h0
      refine Int.emod_eq_zero_of_dvd ?_
      obtain ⟨k, rfl⟩ : ∃ k, h = k + 1 := ⟨h - 1, by omega⟩
      rw [Int.pow_succ]
      exact Int.dvd_mul_of_dvd_right ⟨c, hc⟩
    · obtain ⟨c, hc⟩ := QR.gauss hp.1 (a := n) fun z => h0 (Int.emod_eq_zero_of_dvd z)
      rcases sgn_away hp h0 with e1 | e1
      · rw [e1]
        rw [sgn_G] at e1
        rw [e1] at hc
        exact rest_by (r := 1) ⟨c, hc⟩ (by omega) (by omega)
      · exact absurd e1 ne
/-! part m_draw -/
/-- what was drawn below each size -/
def DrawOk : List Int → List Int → Prop
  | [], [] => True
  | d :: ds, s :: ss => (0 ≤ d ∧ d < s) ∧ DrawOk ds ss
  | _, _ => False
theorem DrawOk.len : ∀ {ds ss : List Int}, DrawOk ds ss → ds.length = ss.length
  | [], [], _ => rfl
  | _ :: _, _ :: _, h => by rw [List.length_cons, List.length_cons, DrawOk.len h.2]
  | [], _ :: _, h => h.elim
  | _ :: _, [], h => h.elim
theorem DrawOk.snoc : ∀ {ds ss : List Int} {d s : Int}, DrawOk ds ss → 0 ≤ d ∧ d < s → DrawOk (ds ++ [d]) (ss ++ [s])
  | [], [], _, _, _, h => ⟨h, trivial⟩
  | _ :: _, _ :: _, _, _, h, k => ⟨h.1, DrawOk.snoc h.2 k⟩
  | [], _ :: _, _, _, h, _ => h.elim
  | _ :: _, [], _, _, h, _ => h.elim
theorem DrawOk.cons_inv {ds ss : List Int} {s : Int} (h : DrawOk ds (s :: ss)) : ∃ d ds', ds = d :: ds' ∧ 0 ≤ d ∧ d < s ∧ DrawOk ds' ss := by
  cases ds with
  | nil => exact h.elim
  | cons d ds' => exact ⟨d, ds', rfl, h.1.1, h.1.2, h.2⟩
theorem DrawOk.nil_inv {ds : List Int} (h : DrawOk ds []) : ds = [] := by
  cases ds with
  | nil => rfl
  | cons d ds' => exact h.elim
/-! part m_vopt -/
/-! part m_rowd -/
/-! lists of lists of ints, compared and looked up -/
section
open PySem
def zD (r : List Int) : PyData := .list (r.map PyData.int)
def zsD (rs : List (List Int)) : PyData := .list (rs.map zD)
theorem okDs_ints {n : Nat} (r : List Int) : okDs (r.map PyData.int) (n + 1) = true := okDs_map fun _ _ => by simp [okD]
theorem zD_ok {r : List Int} {n : Nat} : okD (zD r) (n + 2) = true := by simp [zD, okD, okDs_ints]
theorem zsD_ok {rs : List (List Int)} : okD (zsD rs) 60 = true := by
  have : okDs (rs.map zD) 59 = true := okDs_map fun r _ => zD_ok
  simp [zsD, okD, this]
theorem zD_inj {r s : List Int} : zD r = zD s ↔ r = s := by
  unfold zD
  constructor
  · intro h
    exact (List.map_inj_right (f := PyData.int) fun x y e => PyData.int.inj e).mp (by injection h)
  · intro h
    rw [h]
theorem zsD_inj {rs ss : List (List Int)} : zsD rs = zsD ss ↔ rs = ss := by
  unfold zsD
  constructor
  · intro h
    exact (List.map_inj_right fun x y e => zD_inj.mp e).mp (by injection h)
  · intro h
    rw [h]
variable {K : PySem.W.Frag} {H : Hp} {Q : VK} {a b t p q : Addr} {as bs : List Addr} {rs ss : List (List Int)} {r : List Int}
theorem z_dp (h : SqL K H t (r.map V.int)) : Dp K H (.ref t) (zD r) := .lst h (dpAll_ints r)
theorem rd_neZs (h1 : Dp K H (.ref a) (zsD rs)) (h2 : Dp K H (.ref b) (zsD ss)) (q : Q (.bl (!decide (rs = ss))) H) : rNeD K (.ref a) (.ref b) H Q := rd_neP h1 h2 zsD_ok zsD_ok zsD_inj q
end
theorem cut_hi {xs : List V} {hi : Int} (h : 0 ≤ hi) : (cutV xs none (some hi)).length = min hi.toNat xs.length := by
  unfold cutV
  rw [show HT.sIx xs.length 0 none = 0 from rfl, List.drop_zero, Nat.sub_zero, List.length_take, sIx_nn h]
  omega
/-! ## the text by places -/
def topS (i : Nat) : Stmt := PySem.Challenge.pw_everyprime_k78_whole_barred_patterns.main.body.getD i (.Pass ⟨0, 0, 0, 0⟩)
abbrev s_choices_of : Stmt := topS 49
theorem sc_choices_of : FnScope ["many", "length", "rows", "row", "start", "at"] ["many", "length"] (defScope s_choices_of) := ⟨rfl, rfl, rfl, by decide +kernel, rfl, by decide +kernel, by decide +kernel⟩
abbrev s_product_of : Stmt := topS 47
theorem sc_product_of : FnScope ["factors_of_it", "result", "factor"] ["factors_of_it"] (defScope s_product_of) := ⟨rfl, rfl, rfl, by decide +kernel, rfl, by decide +kernel, by decide +kernel⟩
abbrev s_factors : Stmt := topS 15
theorem sc_factors : FnScope ["n", "found", "divisor", "exponent"] ["n"] (defScope s_factors) := ⟨rfl, rfl, rfl, by decide +kernel, rfl, by decide +kernel, by decide +kernel⟩
abbrev s_core : Stmt := topS 17
theorem sc_core : FnScope ["n", "squarefree", "side", "prime", "exponent", "count"] ["n"] (defScope s_core) := ⟨rfl, rfl, rfl, by decide +kernel, rfl, by decide +kernel, by decide +kernel⟩
abbrev s_shows : Stmt := topS 48
theorem sc_shows : FnScope ["numbers", "signs", "places", "at", "product"] ["numbers", "signs", "places"] (defScope s_shows) := ⟨rfl, rfl, rfl, by decide +kernel, rfl, by decide +kernel, by decide +kernel⟩
abbrev s_barred : Stmt := topS 50
theorem sc_barred : FnScope ["numbers", "signs", "length", "places"] ["numbers", "signs"] (defScope s_barred) := ⟨rfl, rfl, rfl, by decide +kernel, rfl, by decide +kernel, by decide +kernel⟩
abbrev s_law_lists : Stmt := topS 60
theorem sc_law_lists : FnScope ["_law_many", "_law_rows", "_law_at", "_law_row"] ["_law_many"] (defScope s_law_lists) := ⟨rfl, rfl, rfl, by decide +kernel, rfl, by decide +kernel, by decide +kernel⟩
abbrev s_law_square : Stmt := topS 58
theorem sc_law_square : FnScope ["_law_n", "_law_low", "_law_high", "_law_middle"] ["_law_n"] (defScope s_law_square) := ⟨rfl, rfl, rfl, by decide +kernel, rfl, by decide +kernel, by decide +kernel⟩
abbrev s_law_shows : Stmt := topS 59
theorem sc_law_shows : FnScope ["_law_numbers", "_law_signs", "_law_places", "_law_product", "_law_sign_of_all", "_law_at"] ["_law_numbers", "_law_signs", "_law_places"] (defScope s_law_shows) := ⟨rfl, rfl, rfl, by decide +kernel, rfl, by decide +kernel, by decide +kernel⟩
abbrev s_conductor : Stmt := topS 39
theorem sc_conductor : FnScope ["n", "squarefree"] ["n"] (defScope s_conductor) := ⟨rfl, rfl, rfl, by decide +kernel, rfl, by decide +kernel, by decide +kernel⟩
abbrev s_checked_modulus_signs : Stmt := topS 9
theorem sc_checked_modulus_signs : FnScope ["m"] ["m"] (defScope s_checked_modulus_signs) := ⟨rfl, rfl, rfl, by decide +kernel, rfl, by decide +kernel, by decide +kernel⟩
abbrev s_factor_of : Stmt := topS 11
theorem sc_factor_of : FnScope ["rule", "n", "m"] ["rule", "n", "m"] (defScope s_factor_of) := ⟨rfl, rfl, rfl, by decide +kernel, rfl, by decide +kernel, by decide +kernel⟩
abbrev s_sign : Stmt := topS 12
theorem sc_sign : FnScope ["n", "m", "result"] ["n", "m"] (defScope s_sign) := ⟨rfl, rfl, rfl, by decide +kernel, rfl, by decide +kernel, by decide +kernel⟩
abbrev s_sign_by_rest : Stmt := topS 42
theorem sc_sign_by_rest : FnScope ["n", "rest", "modulus", "odd"] ["n", "rest", "modulus"] (defScope s_sign_by_rest) := ⟨rfl, rfl, rfl, by decide +kernel, rfl, by decide +kernel, by decide +kernel⟩
abbrev s_odd_primes_of : Stmt := topS 43
theorem sc_odd_primes_of : FnScope ["n", "prime", "exponent"] ["n"] (defScope s_odd_primes_of) := ⟨rfl, rfl, rfl, by decide +kernel, rfl, by decide +kernel, by decide +kernel⟩
abbrev s_checked_modulus : Stmt := topS 25
abbrev s_is_prime : Stmt := topS 16
theorem sc_is_prime : FnScope ["n", "divisor"] ["n"] (defScope s_is_prime) := ⟨rfl, rfl, rfl, by decide +kernel, rfl, by decide +kernel, by decide +kernel⟩
abbrev s_checked_singles : Stmt := topS 27
theorem sc_checked_singles : FnScope ["singles", "p"] ["singles"] (defScope s_checked_singles) := ⟨rfl, rfl, rfl, by decide +kernel, rfl, by decide +kernel, by decide +kernel⟩
abbrev s_common : Stmt := topS 14
theorem sc_common : FnScope ["a", "b", "first", "second"] ["a", "b"] (defScope s_common) := ⟨rfl, rfl, rfl, by decide +kernel, rfl, by decide +kernel, by decide +kernel⟩
abbrev s_units_values : Stmt := topS 22
theorem sc_units_values : FnScope ["modulus", "rest"] ["modulus"] (defScope s_units_values) := ⟨rfl, rfl, rfl, by decide +kernel, rfl, by decide +kernel, by decide +kernel⟩
abbrev s_shortened : Stmt := topS 28
theorem sc_shortened : FnScope ["modulus", "rests", "prime", "smaller", "kept", "rest", "lifts", "found", "k", "lift"] ["modulus", "rests", "prime"] (defScope s_shortened) := ⟨rfl, rfl, rfl, by decide +kernel, rfl, by decide +kernel, by decide +kernel⟩
abbrev s_toggled : Stmt := topS 30
theorem sc_toggled : FnScope ["singles", "p", "other"] ["singles", "p"] (defScope s_toggled) := ⟨rfl, rfl, rfl, by decide +kernel, rfl, by decide +kernel, by decide +kernel⟩
abbrev s_told_by : Stmt := topS 29
theorem sc_told_by : FnScope ["modulus", "rests", "p"] ["modulus", "rests", "p"] (defScope s_told_by) := ⟨rfl, rfl, rfl, by decide +kernel, rfl, by decide +kernel, by decide +kernel⟩
abbrev s_least_description : Stmt := topS 31
theorem sc_least_description : FnScope ["modulus", "rests", "singles", "prime", "exponent", "kept"] ["modulus", "rests", "singles"] (defScope s_least_description) := ⟨rfl, rfl, rfl, by decide +kernel, rfl, by decide +kernel, by decide +kernel⟩
abbrev s_checked_modulus_values : Stmt := topS 25
theorem sc_checked_modulus_values : FnScope ["modulus"] ["modulus"] (defScope s_checked_modulus_values) := ⟨rfl, rfl, rfl, by decide +kernel, rfl, by decide +kernel, by decide +kernel⟩
abbrev s_Primes_init : Stmt := inClass (topS 37) 0
theorem sc_Primes_init : FnScope ["self", "modulus", "rests", "singles", "rest", "found"] ["self", "modulus", "rests", "singles"] (defScope s_Primes_init) := ⟨rfl, rfl, rfl, by decide +kernel, rfl, by decide +kernel, by decide +kernel⟩
abbrev s_units_counts : Stmt := topS 40
theorem sc_units_counts : FnScope ["modulus", "rest"] ["modulus"] (defScope s_units_counts) := ⟨rfl, rfl, rfl, by decide +kernel, rfl, by decide +kernel, by decide +kernel⟩
abbrev s_by_sign : Stmt := topS 45
theorem sc_by_sign : FnScope ["n", "s", "modulus", "rests", "left_out", "rest", "p"] ["n", "s"] (defScope s_by_sign) := ⟨rfl, rfl, rfl, by decide +kernel, rfl, by decide +kernel, by decide +kernel⟩
abbrev s_joined_answer : Stmt := topS 32
theorem sc_joined_answer : FnScope ["rule", "first", "second"] ["rule", "first", "second"] (defScope s_joined_answer) := ⟨rfl, rfl, rfl, by decide +kernel, rfl, by decide +kernel, by decide +kernel⟩
abbrev s_Primes_contains : Stmt := inClass (topS 37) 6
theorem sc_Primes_contains : FnScope ["self", "p"] ["self", "p"] (defScope s_Primes_contains) := ⟨rfl, rfl, rfl, by decide +kernel, rfl, by decide +kernel, by decide +kernel⟩
abbrev s_odd_divisors : Stmt := topS 24
theorem sc_odd_divisors : FnScope ["modulus", "prime", "exponent"] ["modulus"] (defScope s_odd_divisors) := ⟨rfl, rfl, rfl, by decide +kernel, rfl, by decide +kernel, by decide +kernel⟩
abbrev s_units : Stmt := topS 40
abbrev s_combined : Stmt := topS 33
theorem sc_combined : FnScope ["first", "second", "rule", "modulus", "rest", "first_rests", "second_rests", "rests", "one", "singles", "p"] ["first", "second", "rule"] (defScope s_combined) := ⟨rfl, rfl, rfl, by decide +kernel, rfl, by decide +kernel, by decide +kernel⟩
abbrev s_Primes_and : Stmt := inClass (topS 37) 7
theorem sc_Primes_and : FnScope ["self", "other"] ["self", "other"] (defScope s_Primes_and) := ⟨rfl, rfl, rfl, by decide +kernel, rfl, by decide +kernel, by decide +kernel⟩
abbrev s_pattern : Stmt := topS 46
theorem sc_pattern : FnScope ["numbers", "signs", "result", "n", "s"] ["numbers", "signs"] (defScope s_pattern) := ⟨rfl, rfl, rfl, by decide +kernel, rfl, by decide +kernel, by decide +kernel⟩
abbrev s_law_set : Stmt := topS 61
theorem sc_law_set : FnScope ["_law_numbers", "_law_signs"] ["_law_numbers", "_law_signs"] (defScope s_law_set) := ⟨rfl, rfl, rfl, by decide +kernel, rfl, by decide +kernel, by decide +kernel⟩
abbrev s_Primes_finite : Stmt := inClass (topS 37) 15
theorem sc_Primes_finite : FnScope ["self"] ["self"] (defScope s_Primes_finite) := ⟨rfl, rfl, rfl, by decide +kernel, rfl, by decide +kernel, by decide +kernel⟩
abbrev s_Primes_none : Stmt := inClass (topS 37) 2
theorem sc_Primes_none : FnScope ["cls"] ["cls"] (defScope s_Primes_none) := ⟨rfl, rfl, rfl, by decide +kernel, rfl, by decide +kernel, by decide +kernel⟩
abbrev s_Primes_eq : Stmt := inClass (topS 37) 11
theorem sc_Primes_eq : FnScope ["self", "other"] ["self", "other"] (defScope s_Primes_eq) := ⟨rfl, rfl, rfl, by decide +kernel, rfl, by decide +kernel, by decide +kernel⟩
abbrev s_law_sign : Stmt := topS 57
theorem sc_law_sign : FnScope ["_law_n", "_law_p", "_law_result", "_law_base", "_law_exponent"] ["_law_n", "_law_p"] (defScope s_law_sign) := ⟨rfl, rfl, rfl, by decide +kernel, rfl, by decide +kernel, by decide +kernel⟩
abbrev s_law_is_prime : Stmt := topS 55
theorem sc_law_is_prime : FnScope ["_law_n", "_law_k"] ["_law_n"] (defScope s_law_is_prime) := ⟨rfl, rfl, rfl, by decide +kernel, rfl, by decide +kernel, by decide +kernel⟩
abbrev s_law_cell : Stmt := topS 52
theorem sc_law_cell : FnScope ["_law_script", "_law_k"] ["_law_script", "_law_k"] (defScope s_law_cell) := ⟨rfl, rfl, rfl, by decide +kernel, rfl, by decide +kernel, by decide +kernel⟩
abbrev s_law_draws : Stmt := topS 53
theorem sc_law_draws : FnScope ["_law_cell_here", "_law_sizes", "_law_drawn", "_law_left", "_law_at", "_law_mixed"] ["_law_cell_here", "_law_sizes"] (defScope s_law_draws) := ⟨rfl, rfl, rfl, by decide +kernel, rfl, by decide +kernel, by decide +kernel⟩
abbrev s_law : Stmt := topS 62
theorem sc_law : FnScope ["_law_script", "_law_head", "_law_menu", "_law_drawn", "_law_numbers", "_law_signs", "_law_due", "_law_places", "_law_holds", "_law_told", "_law_odd", "_law_kept", "_law_found", "_law_clocks", "_law_k", "_law_p", "_law_n"] ["_law_script"] (defScope s_law) := ⟨rfl, rfl, rfl, by decide +kernel, rfl, by decide +kernel, by decide +kernel⟩
abbrev s_BadModulus_init : Stmt := inClass (topS 3) 0
abbrev s_BadPrime_init : Stmt := inClass (topS 5) 0
abbrev s_BadRest_init : Stmt := inClass (topS 4) 0
abbrev s_TooWide_init : Stmt := inClass (topS 6) 0
/-- the addresses of the classes -/
structure Adr where
  c_BadModulus : Addr
  c_BadPrime : Addr
  c_BadRest : Addr
  c_TooWide : Addr
  c_Primes : Addr
  c_base : Addr
  t_MOST_MODULUS : Tok
structure Txt (K : PySem.W.Frag) (mg : Str → Option Value) (Ad : Adr) : Prop where
  b_abs : mg "abs" = none
  b_bool : mg "bool" = none
  b_int : mg "int" = none
  b_isinstance : mg "isinstance" = none
  b_len : mg "len" = none
  b_list : mg "list" = none
  b_range : mg "range" = none
  b_set : mg "set" = none
  b_sorted : mg "sorted" = none
  b_tuple : mg "tuple" = none
  b_zip : mg "zip" = none
  d_choices_of : DefAt K mg "choices_of" s_choices_of ["many", "length"]
  d_product_of : DefAt K mg "product_of" s_product_of ["factors_of_it"]
  d_factors : DefAt K mg "factors" s_factors ["n"]
  d_core : DefAt K mg "core" s_core ["n"]
  d_shows : DefAt K mg "shows" s_shows ["numbers", "signs", "places"]
  d_barred : DefAt K mg "barred" s_barred ["numbers", "signs"]
  d_law_lists : DefAt K mg "_law_lists" s_law_lists ["_law_many"]
  d_law_square : DefAt K mg "_law_square" s_law_square ["_law_n"]
  d_law_shows : DefAt K mg "_law_shows" s_law_shows ["_law_numbers", "_law_signs", "_law_places"]
  d_conductor : DefAt K mg "conductor" s_conductor ["n"]
  d_checked_modulus_signs : DefAtA K mg "checked_modulus_signs" "checked_modulus" s_checked_modulus_signs ["m"]
  d_factor_of : DefAt K mg "factor_of" s_factor_of ["rule", "n", "m"]
  d_sign : DefAt K mg "sign" s_sign ["n", "m"]
  d_sign_by_rest : DefAt K mg "sign_by_rest" s_sign_by_rest ["n", "rest", "modulus"]
  d_odd_primes_of : DefAt K mg "odd_primes_of" s_odd_primes_of ["n"]
  d_checked_modulus : DefAt K mg "checked_modulus" s_checked_modulus ["modulus"]
  d_is_prime : DefAt K mg "is_prime" s_is_prime ["n"]
  d_checked_singles : DefAt K mg "checked_singles" s_checked_singles ["singles"]
  d_common : DefAt K mg "common" s_common ["a", "b"]
  d_units_values : DefAtA K mg "units_values" "units" s_units_values ["modulus"]
  d_shortened : DefAt K mg "shortened" s_shortened ["modulus", "rests", "prime"]
  d_toggled : DefAt K mg "toggled" s_toggled ["singles", "p"]
  d_told_by : DefAt K mg "told_by" s_told_by ["modulus", "rests", "p"]
  d_least_description : DefAt K mg "least_description" s_least_description ["modulus", "rests", "singles"]
  d_checked_modulus_values : DefAtA K mg "checked_modulus_values" "checked_modulus" s_checked_modulus_values ["modulus"]
  d_Primes_init : MkAt K mg "Primes" Ad.c_Primes "Primes.__init__" s_Primes_init ["self", "modulus", "rests", "singles"]
  d_units_counts : DefAtA K mg "units_counts" "units" s_units_counts ["modulus"]
  d_by_sign : DefAt K mg "by_sign" s_by_sign ["n", "s"]
  d_joined_answer : DefAt K mg "joined_answer" s_joined_answer ["rule", "first", "second"]
  d_Primes_contains : MethAt K Ad.c_Primes "__contains__" "Primes.__contains__" s_Primes_contains ["self", "p"]
  d_odd_divisors : DefAt K mg "odd_divisors" s_odd_divisors ["modulus"]
  d_units : DefAt K mg "units" s_units ["modulus"]
  d_combined : DefAt K mg "combined" s_combined ["first", "second", "rule"]
  d_Primes_and : MethAt K Ad.c_Primes "__and__" "Primes.__and__" s_Primes_and ["self", "other"]
  d_pattern : DefAt K mg "pattern" s_pattern ["numbers", "signs"]
  d_law_set : DefAt K mg "_law_set" s_law_set ["_law_numbers", "_law_signs"]
  d_Primes_finite : MethAt K Ad.c_Primes "finite" "Primes.finite" s_Primes_finite ["self"]
  d_Primes_none : CMAt K Ad.c_Primes "none" "Primes.none" s_Primes_none
  d_Primes_eq : MethAt K Ad.c_Primes "__eq__" "Primes.__eq__" s_Primes_eq ["self", "other"]
  d_law_sign : DefAt K mg "_law_sign" s_law_sign ["_law_n", "_law_p"]
  d_law_is_prime : DefAt K mg "_law_is_prime" s_law_is_prime ["_law_n"]
  d_law_cell : DefAt K mg "_law_cell" s_law_cell ["_law_script", "_law_k"]
  d_law_draws : DefAt K mg "_law_draws" s_law_draws ["_law_cell_here", "_law_sizes"]
  g_Primes : mg "Primes" = some (.ref Ad.c_Primes)
  cl_Primes : Cls K Ad.c_Primes
  sf_Primes : PySem.W.selfFirst K Ad.c_Primes = true
  ty_Primes : ∀ (H : Hp) (a dx : Addr) (fs : List (Str × V)), H a = some (.ins Ad.c_Primes dx fs) → TyX K H (.ref a) (.ref Ad.c_Primes)
  ki_Primes : PySem.W.kitOne K (.ref Ad.c_Primes) (.ref Ad.c_Primes) = some true
  kl_Primes : PySem.W.kitOne K (.type "list") (.ref Ad.c_Primes) = some false
  nl_Primes : PySem.W.notFirst K Ad.c_Primes (.type "list") = true
  nf_Primes_modulus : NoAttr K Ad.c_Primes "modulus"
  nf_Primes_rests : NoAttr K Ad.c_Primes "rests"
  nf_Primes_singles : NoAttr K Ad.c_Primes "singles"
  k_MOST_MODULUS : mg "MOST_MODULUS" = some (.int 4000 Ad.t_MOST_MODULUS)
  base : BaseC K mg Ad.c_base
  r_BadModulus : ErrRaw K mg "BadModulus" Ad.c_BadModulus s_BadModulus_init "BadModulus.__init__" ["self", "modulus"]
  no_BadModulus_modulus : PySem.W.findIn K (.ref Ad.c_BadModulus) "modulus" = some none
  r_BadPrime : ErrRaw K mg "BadPrime" Ad.c_BadPrime s_BadPrime_init "BadPrime.__init__" ["self", "p"]
  no_BadPrime_p : PySem.W.findIn K (.ref Ad.c_BadPrime) "p" = some none
  r_BadRest : ErrRaw K mg "BadRest" Ad.c_BadRest s_BadRest_init "BadRest.__init__" ["self", "rest"]
  no_BadRest_rest : PySem.W.findIn K (.ref Ad.c_BadRest) "rest" = some none
  r_TooWide : ErrRaw K mg "TooWide" Ad.c_TooWide s_TooWide_init "TooWide.__init__" ["self", "modulus"]
  no_TooWide_modulus : PySem.W.findIn K (.ref Ad.c_TooWide) "modulus" = some none
  triv : True
section
variable {P : Program} {w : World} {K : PySem.W.Frag} {mg : Str → Option Value} {base : Heap} {Ad : Adr}
def fl_BadModulus (ws : List V) : List (Str × V) := match ws with | [v0] => [("modulus", v0)] | _ => []
theorem sc_BadModulus_init : FnScope ["self", "modulus"] ["self", "modulus"] (defScope s_BadModulus_init) := ⟨rfl, rfl, rfl, by decide +kernel, rfl, by decide +kernel, by decide +kernel⟩
theorem Txt.err_BadModulus (T : Txt K mg Ad) : ErrC P w K mg base "BadModulus" 1 fl_BadModulus Ad.c_BadModulus := by
  refine ErrC.of T.r_BadModulus fun fI fd F => ?_
  refine F.okX sc_BadModulus_init (fun vs H Q E h => ?_) (fun cdv A outer s H vs Q E hr h => ?_)
  · obtain ⟨a, ws, rfl, hl, _⟩ := h
    simp [hl]
  · obtain ⟨a, ws, rfl, hl, ha, q⟩ := h
    obtain ⟨v0, rfl⟩ := len_1 hl
    refine ⟨_, pss_cons (ps_expr (pe_ceinit T.base (pa_cons (pv 0) (pa_cons pe_str pa_nil)))) (pss_one (ps_ost (pv 0) (pv 1))), ?_⟩
    refine ⟨.ref a, rfl, a, Ad.c_BadModulus, [.str _], rfl, by show 1 ≤ 1000; decide, T.r_BadModulus.T, ha, ?_⟩
    refine ⟨v0, rfl, .ref a, rfl, a, Ad.c_BadModulus, rfl, T.r_BadModulus.T, T.no_BadModulus_modulus, .inl ⟨ha, fun dx nd ne => ?_⟩⟩
    exact q dx nd ne
def fl_BadPrime (ws : List V) : List (Str × V) := match ws with | [v0] => [("p", v0)] | _ => []
theorem sc_BadPrime_init : FnScope ["self", "p"] ["self", "p"] (defScope s_BadPrime_init) := ⟨rfl, rfl, rfl, by decide +kernel, rfl, by decide +kernel, by decide +kernel⟩
theorem Txt.err_BadPrime (T : Txt K mg Ad) : ErrC P w K mg base "BadPrime" 1 fl_BadPrime Ad.c_BadPrime := by
  refine ErrC.of T.r_BadPrime fun fI fd F => ?_
  refine F.okX sc_BadPrime_init (fun vs H Q E h => ?_) (fun cdv A outer s H vs Q E hr h => ?_)
  · obtain ⟨a, ws, rfl, hl, _⟩ := h
    simp [hl]
  · obtain ⟨a, ws, rfl, hl, ha, q⟩ := h
    obtain ⟨v0, rfl⟩ := len_1 hl
    refine ⟨_, pss_cons (ps_expr (pe_ceinit T.base (pa_cons (pv 0) (pa_cons pe_str pa_nil)))) (pss_one (ps_ost (pv 0) (pv 1))), ?_⟩
    refine ⟨.ref a, rfl, a, Ad.c_BadPrime, [.str _], rfl, by show 1 ≤ 1000; decide, T.r_BadPrime.T, ha, ?_⟩
    refine ⟨v0, rfl, .ref a, rfl, a, Ad.c_BadPrime, rfl, T.r_BadPrime.T, T.no_BadPrime_p, .inl ⟨ha, fun dx nd ne => ?_⟩⟩
    exact q dx nd ne
def fl_BadRest (ws : List V) : List (Str × V) := match ws with | [v0] => [("rest", v0)] | _ => []
theorem sc_BadRest_init : FnScope ["self", "rest"] ["self", "rest"] (defScope s_BadRest_init) := ⟨rfl, rfl, rfl, by decide +kernel, rfl, by decide +kernel, by decide +kernel⟩
theorem Txt.err_BadRest (T : Txt K mg Ad) : ErrC P w K mg base "BadRest" 1 fl_BadRest Ad.c_BadRest := by
  refine ErrC.of T.r_BadRest fun fI fd F => ?_
  refine F.okX sc_BadRest_init (fun vs H Q E h => ?_) (fun cdv A outer s H vs Q E hr h => ?_)
  · obtain ⟨a, ws, rfl, hl, _⟩ := h
    simp [hl]
  · obtain ⟨a, ws, rfl, hl, ha, q⟩ := h
    obtain ⟨v0, rfl⟩ := len_1 hl
    refine ⟨_, pss_cons (ps_expr (pe_ceinit T.base (pa_cons (pv 0) (pa_cons pe_str pa_nil)))) (pss_one (ps_ost (pv 0) (pv 1))), ?_⟩
    refine ⟨.ref a, rfl, a, Ad.c_BadRest, [.str _], rfl, by show 1 ≤ 1000; decide, T.r_BadRest.T, ha, ?_⟩
    refine ⟨v0, rfl, .ref a, rfl, a, Ad.c_BadRest, rfl, T.r_BadRest.T, T.no_BadRest_rest, .inl ⟨ha, fun dx nd ne => ?_⟩⟩
    exact q dx nd ne
def fl_TooWide (ws : List V) : List (Str × V) := match ws with | [v0] => [("modulus", v0)] | _ => []
theorem sc_TooWide_init : FnScope ["self", "modulus"] ["self", "modulus"] (defScope s_TooWide_init) := ⟨rfl, rfl, rfl, by decide +kernel, rfl, by decide +kernel, by decide +kernel⟩
theorem Txt.err_TooWide (T : Txt K mg Ad) : ErrC P w K mg base "TooWide" 1 fl_TooWide Ad.c_TooWide := by
  refine ErrC.of T.r_TooWide fun fI fd F => ?_
  refine F.okX sc_TooWide_init (fun vs H Q E h => ?_) (fun cdv A outer s H vs Q E hr h => ?_)
  · obtain ⟨a, ws, rfl, hl, _⟩ := h
    simp [hl]
  · obtain ⟨a, ws, rfl, hl, ha, q⟩ := h
    obtain ⟨v0, rfl⟩ := len_1 hl
    refine ⟨_, pss_cons (ps_expr (pe_ceinit T.base (pa_cons (pv 0) (pa_cons pe_str pa_nil)))) (pss_one (ps_ost (pv 0) (pv 1))), ?_⟩
    refine ⟨.ref a, rfl, a, Ad.c_TooWide, [.str _], rfl, by show 1 ≤ 1000; decide, T.r_TooWide.T, ha, ?_⟩
    refine ⟨v0, rfl, .ref a, rfl, a, Ad.c_TooWide, rfl, T.r_TooWide.T, T.no_TooWide_modulus, .inl ⟨ha, fun dx nd ne => ?_⟩⟩
    exact q dx nd ne
/-! ### choices_of -/
/-- places as ints -/
def zN (r : List Nat) : List Int := r.map fun i : Nat => (i : Int)
theorem flat_len {m : Nat} (hm : m ≤ 6) (L : List (List Nat)) : (L.flatMap (stepN m)).length ≤ 6 * L.length := by
  rw [List.length_flatMap]
  induction L with
  | nil => simp
  | cons r L ih =>
    have : (stepN m r).length ≤ 6 := by unfold stepN; rw [List.length_map, List.length_range]; omega
    rw [List.map_cons, List.sum_cons, List.length_cons]
    omega
theorem chL_len {m : Nat} (hm : m ≤ 6) : ∀ l : Nat, l ≤ 8 → (chL m l).length ≤ 6 ^ l
  | 0, _ => by simp [chL]
  | l + 1, h => by
    have ih := chL_len hm l (by omega)
    rw [chL]
    have := flat_len hm (chL m l)
    rw [Nat.pow_succ]
    omega
theorem two_wayz {I P : Hp → Prop} {A : Prop} (h : (∀ G, I G → P G) → A) (k : ∀ G, I G → P G) : A := h k
def spCho (K : PySem.W.Frag) (n : Nat) : Sp := fun vs H Q _ => ∃ (m l : Nat), vs = [.int m, .int l] ∧ m ≤ 6 ∧ l < n ∧ l ≤ 6 ∧ NoT H ∧ ∀ L as G, NewZ H G L as ((chL m l).map zN) → Q (.ref L) G
theorem ok_choices_of_r (T : Txt K mg Ad) (n : Nat) : Def P w K mg base (1 + n) "choices_of" ["many", "length"] (spCho K n) := by
  induction n with
  | zero =>
    refine Def.mono (T.d_choices_of.ok (k := 0) sc_choices_of (fun vs H Q E h => ?_) (fun f cdv A outer s H vs Q E hr h => ?_)) (by omega)
    · obtain ⟨m, l, rfl, _⟩ := h
      rfl
    · obtain ⟨m, l, rfl, _, z, _⟩ := h
      omega
  | succ n ih =>
    refine T.d_choices_of.ok (k := 1 + n) sc_choices_of (fun vs H Q E h => ?_) (fun f cdv A outer s H vs Q E hr h => ?_)
    · obtain ⟨m, l, rfl, _⟩ := h
      rfl
    · obtain ⟨m, l, rfl, m6, ln, l6, nt, q⟩ := h
      refine ⟨_, (pss_cons (ps_if (pt_cmpR op_eq (pv 1) pe_int (nomark _)) (pss_one (ps_ret (pe_lst (pa_cons (pe_lst pa_nil) pa_nil)))) pss_nil)
      (pss_cons (ps_set (i := 2) sc_choices_of.nd rfl (Or.inl rfl) (pe_lst pa_nil))
      (pss_cons (ps_for (passes_of rfl) rfl (pi_list (pe_d ih (hr.mono (by omega)) (passes_call (takes_of rfl rfl rfl rfl) (fun _ _ _ _ h => h)) (pa_cons (pv 0) (pa_cons (pe_op op_sub (pv 1) pe_int) pa_nil)))) (pg_name (i := 3) sc_choices_of.nd rfl (Or.inr rfl)) (pss_cons (ps_set (i := 4) sc_choices_of.nd rfl (Or.inl rfl) (pe_ifExp (pt_cmpR (op_neD hr.units) (pv 3) (pe_lst pa_nil) (nomark _)) (pe_op op_add (pe_ix ix_list (pv 3) (pe_un un_neg pe_int) (fun _ _ => rfl)) pe_int) pe_int))
      (pss_one (ps_expr (pe_bm PySem.F.plainAttrs_list PySem.F.slot_list_extend PySem.F.type_list_extend mt_extend (pv 2) (pa_cons (pe_lc (own := [("at", 5)])  (te := (tOp rCat (tVar 3) (tLst (tCons (tVar 5) tNil)))) rfl sc_choices_of.nd  (pi_range2 (by rfl) T.b_range (pa_cons (pv 4) (pa_cons (pv 0) pa_nil))) (blkOk_by (own := [("at", 5)]) (N := ["many", "length", "rows", "row", "start", "at"]) (sc := defScope s_choices_of) (by decide +kernel)) (fun _ _ _ _ _ => (pg_name (i := 5) sc_choices_of.nd rfl (Or.inl rfl))) (fun _ _ _ _ _ => pts_nil) (fun _ _ _ _ _ => (pe_op op_cat (pv 3) (pe_lst (pa_cons (pv 5) pa_nil))))) pa_nil))))))
      (pss_one (ps_ret (pv 2)))))), ?_⟩
      try dsimp only [cxOf]
      wtm_at "rs"
      cases l with
      | zero =>
        refine rd_eqT rfl ?_
        wtm_at "rs"
        rename_i E0 hE0 L hL
        have EL : E0 ≠ L := fun z => by rw [← z, upd_same] at hL; cases hL
        refine q L [E0] _ ⟨(same_new hE0).trans (same_new hL), NoT.upd (NoT.upd nt rfl) rfl, (same_new (o := .lst []) hE0).free hL, upd_same, ⟨EL, ?_, trivial⟩, fun a ha => by rw [List.mem_singleton.mp ha]; exact hE0⟩
        rw [upd_ne EL]
        exact (upd_same : upd H E0 (.lst (([] : List Int).map V.int)) E0 = _)
      | succ l =>
        refine rd_eqF (by omega) ?_
        have B := Hv.start nt
        wtm_at "rs"
        rename_i M hM
        replace B := B.new (o := .lst (([] : List Addr).map V.ref)) hM
        clear hM
        refine B.gen fun G B => ?_
        rw [show ((l + 1 : Nat) : Int) - 1 = (l : Int) by omega]
        refine ⟨m, l, rfl, m6, by omega, by omega, B.nt, fun R cs G2 z => ?_⟩
        have f2 := B.fr (a := M) (by wtm_at "mem")
        have sM := z.s _ _ (B.mAt (a := M) (by wtm_at "mem"))
        have cM : ∀ a ∈ cs, a ≠ M := fun a ha e => by
          have := z.fa a ha
          rw [e, B.mAt (a := M) (by wtm_at "mem")] at this
          cases this
        have rM : RowsZ M G2 cs ((chL m l).map zN) := z.r.re cM
        replace B := B.got z.s z.n z.f z.l
        have cl := rM.len
        rw [List.length_map] at cl
        clear z sM cM
        revert rM
        refine B.gen fun G B rM => ?_
        wtm_at "rs"
        refine rd_forL (xs := cs.map V.ref) (fun i σ G => ∃ (v3 v4 v5 : Option V) (as : List Addr), σ = [some (.int m), some (.int ((l + 1 : Nat) : Int)), some (.ref M), v3, v4, v5] ∧ Hv noX H [(M, .lst (as.map V.ref))] [(R, .lst (cs.map V.ref))] [] G ∧ RowsZ M G cs ((chL m l).map zN) ∧ RowsZ M G as ((((chL m l).take i).flatMap (stepN m)).map zN) ∧ ∀ a ∈ as, H a = none) ⟨_, _, _, [], rfl, B, rM, trivial, fun a ha => absurd ha List.not_mem_nil⟩ (fun i σ G _ ⟨_, _, _, _, _, B, _⟩ => SqL.of (B.lAt (a := R) (by wtm_at "mem"))) ?_ ?_
        · clear B rM
          rintro i v σ G hi ⟨v3, v4, v5, as, rfl, B, rM, rA, fA⟩
          obtain ⟨a0, r0, rfl, _, hr0, a0M, h0⟩ := rM.at hi
          rw [List.getElem?_map] at hr0
          obtain ⟨r, hr', rfl⟩ := Option.map_eq_some_iff.mp hr0
          have et : ((chL m l).take (i + 1)).flatMap (stepN m) = ((chL m l).take i).flatMap (stepN m) ++ stepN m r := by rw [List.take_add_one, hr', List.flatMap_append]; simp
          rw [et, List.map_append]
          have rin := mem_chL.mp (List.mem_of_getElem? hr')
          have rl : r.length ≤ 6 := by have := asc_len rin.1; omega
          wtm_at "rs"
          rename_i N hN
          replace B := B.newL (o := .lst (([] : List Int).map V.int)) hN
          replace rM := rM.mono (same_new (o := .lst (([] : List Int).map V.int)) hN)
          replace rA := rA.mono (same_new (o := .lst (([] : List Int).map V.int)) hN)
          replace h0 := same_new (o := .lst (([] : List Int).map V.int)) hN _ _ h0
          have hE := B.lAt (a := N) (o := .lst (([] : List Int).map V.int)) (by wtm_at "mem")
          replace B := B.sub (L' := [(R, .lst (cs.map V.ref))]) (by wtm_at "vsub") (by wtm_at "vsub")
          clear hN
          revert rM rA h0 hE
          refine B.gen fun G B rM rA h0 hE => ?_
          refine rd_neInts (ns := zN r) (ms := []) (SqL.of h0) (SqL.of hE) ?_
          refine ⟨_, rfl, ?_⟩
          clear hE hi
          have rst : ∃ x : Int, x = ((nextN r : Nat) : Int) ∧ (r = [] → x = 0) ∧ ∀ y, r.getLast? = some y → x = (y : Int) + 1 := ⟨_, rfl, fun z => by rw [z]; rfl, fun y hy => by unfold nextN; rw [hy]; simp⟩
          obtain ⟨lo, hlo, lo0, lo1⟩ := rst
          refine two_wayz (I := fun G' => G' = G) (P := ?P) (fun fin => ?_) ?_
          rotate_left
          · by_cases r0 : r = []
            · rw [if_neg (by rw [r0]; decide)]
              wtm_at "rs"
              rw [show (0 : Int) = lo from (lo0 r0).symm]
              exact fin _ rfl
            · obtain ⟨r1, y, er⟩ := snoc_of r0
              have gl : r.getLast? = some y := by rw [er]; simp
              have ym : y < m := rin.1.2 y (by rw [er]; simp)
              rw [if_pos (by rw [Bool.not_eq_true', decide_eq_false_iff_not]; intro z; exact r0 (List.map_eq_nil_iff.mp z))]
              wtm_at "rs"
              refine rd_ixL (SqL.of h0) (show atI ((zN r).map V.int) (-1) = some (.int (y : Int)) by rw [er]; unfold zN; rw [List.map_append, List.map_append]; exact atI_last _ _) ?_
              wtm_at "rs"
              rw [← lo1 y gl]
              exact fin _ rfl
          · intro G' eG
            subst eG
            clear lo0 lo1
            have B0 := B
            refine rd_lcRG (fun D i ys H' => ∃ bs : List Addr, ys = bs.map V.ref ∧ Same G' H' ∧ NoT H' ∧ RowsZ D H' bs (((stepN m r).take i).map zN) ∧ bs.length ≤ i ∧ ∀ a ∈ bs, G' a = none) (fun D hD => ⟨[], rfl, same_new hD, NoT.upd B.nt rfl, trivial, Nat.le_refl _, fun a ha => absurd ha List.not_mem_nil⟩) (fun D i ys H' hD hi hys J => ?_) fun D ys H' hD hys J => ?_
            · obtain ⟨bs, rfl, sm, n2, rz, bl, fb⟩ := J
              have h02 := sm _ _ h0
              have C := (Hv.start n2)
              have i6 : i < 6 := by omega
              have bl2 : (bs.map V.ref).length < sizeLine := by rw [List.length_map]; exact Nat.lt_of_lt_of_le (show bs.length < 100 by omega) (by decide)
              wtm_at "r"
              refine ⟨rfl, ?_⟩
              wtm_at "rs"
              rename_i X hX
              refine rd_cat (same_new hX _ _ h02) upd_same (Nat.le_trans (show _ ≤ 100 by unfold zN; simp; omega) (by decide)) fun Y hY => ?_
              have s4 := (same_new (o := .lst [.int (lo + (i : Int))]) hX).trans (same_new (o := .lst ((zN r).map V.int ++ [.int (lo + (i : Int))])) hY)
              have XD : Y ≠ D := fun z => by
                have := (same_new (o := .lst [.int (lo + (i : Int))]) hX) _ _ hys
                rw [← z, hY] at this
                cases this
              have gi : (stepN m r)[i]? = some (r ++ [nextN r + i]) := by
                unfold stepN
                rw [List.getElem?_map, List.getElem?_range (by omega)]
                rfl
              refine ⟨_, s4 _ _ hys, bl2, _, upd_same, bs ++ [Y], by simp, (same_upd2 (sm.trans s4) hD), NoT.upd (NoT.upd (NoT.upd n2 rfl) rfl) rfl, ?_, by rw [List.length_append, List.length_singleton]; omega, fun a ha => ?_⟩
              · rw [List.take_add_one, gi, List.map_append]
                refine RowsZ.snoc ((rz.but (But.of s4)).but (But.put But.refl)) XD ?_
                rw [upd_ne XD, upd_same]
                unfold zN
                rw [hlo]
                simp
              · rcases List.mem_append.mp ha with h | h
                · exact fb a h
                · rw [List.mem_singleton.mp h]
                  exact (sm.trans (same_new (o := .lst [.int (lo + (i : Int))]) hX)).free hY
            · obtain ⟨bs, rfl, sm, n2, rz, bl, fb⟩ := J
              have es : (stepN m r).take ((m : Int) - lo).toNat = stepN m r := List.take_of_length_le (by unfold stepN; rw [List.length_map, List.length_range]; omega)
              rw [es] at rz
              have hM0 := B.mAt (a := M) (by wtm_at "mem")
              have rA2 := rA.mono sm
              have rM2 := rM.mono sm
              replace B := B.next sm n2
              have fM : ∀ a ∈ bs, a ≠ M := fun a ha e => by
                have := fb a ha
                rw [e, hM0] at this
                cases this
              wtm_at "rs"
              have al := rA2.len
              rw [List.length_map] at al
              have fl := flat_len m6 ((chL m l).take i)
              have tl : ((chL m l).take i).length ≤ 6 ^ 6 := Nat.le_trans (List.length_take_le' i _) (Nat.le_trans (chL_len m6 l (by omega)) (Nat.pow_le_pow_right (by decide) (by omega)))
              have bl2 : bs.length ≤ 6 := by omega
              refine rd_extend (B.mAt (a := M) (by wtm_at "mem")) hys (Nat.le_trans (show _ ≤ 1000000 by rw [List.length_map, List.length_map]; omega) (by decide)) ?_
              rw [← List.map_append]
              refine ⟨_, _, _, as ++ bs, rfl, B.put, rM2.but (But.put But.refl), (rA2.app (rz.re fM)).but (But.put But.refl), fun a ha => ?_⟩
              rcases List.mem_append.mp ha with h | h
              · exact fA a h
              · exact B0.free (fb a h)
        · clear B rM
          rintro σ G ⟨v3, v4, v5, as, rfl, B, rM, rA, fA⟩
          rw [List.length_map, cl, List.take_length] at rA
          wtm_at "rs"
          exact q M as G ⟨B.same, B.nt, B.fr (a := M) (by wtm_at "mem"), B.mAt (a := M) (by wtm_at "mem"), rA, fA⟩
theorem ok_choices_of (T : Txt K mg Ad) : Def P w K mg base 10 "choices_of" ["many", "length"] (spCho K 9) := ok_choices_of_r T 9
/-! ### product_of -/
def spProdOf (K : PySem.W.Frag) : Sp := fun vs H Q _ => ∃ (a : Addr) (xs : List Int), vs = [.ref a] ∧ SqL K H a (xs.map V.int) ∧ Pm1 xs ∧ Q (.int (xs.foldl (· * ·) 1)) H
theorem fold_pm {xs : List Int} : ∀ {a : Int}, (a = 1 ∨ a = -1) → Pm1 xs → xs.foldl (· * ·) a = 1 ∨ xs.foldl (· * ·) a = -1 := by
  induction xs with
  | nil => intro a h _; exact h
  | cons x xs ih => intro a h p; exact ih (pm_mul h (p x List.mem_cons_self)) fun y hy => p y (List.mem_cons_of_mem _ hy)
theorem ok_product_of (T : Txt K mg Ad) : Def P w K mg base 1 "product_of" ["factors_of_it"] (spProdOf K) := by
  refine T.d_product_of.ok sc_product_of (fun vs H Q E h => ?_) (fun f cdv A outer s H vs Q E hr h => ?_)
  · obtain ⟨a, xs, rfl, _⟩ := h
    rfl
  · obtain ⟨a, xs, rfl, ha, p, q⟩ := h
    refine ⟨_, (pss_cons (ps_set (i := 1) sc_product_of.nd rfl (Or.inl rfl) pe_int)
      (pss_cons (ps_for (passes_of rfl) rfl (pi_list (pv 0)) (pg_name (i := 2) sc_product_of.nd rfl (Or.inl rfl)) (pss_one (ps_set (i := 1) sc_product_of.nd rfl (Or.inl rfl) (pe_op op_mulB (pv 1) (pv 2)))))
      (pss_one (ps_ret (pv 1))))), ?_⟩
    try dsimp only [cxOf]
    wtm_at "rs"
    refine rd_forLs (fun i σ => ∃ v2, σ = [some (.ref a), some (.int ((xs.take i).foldl (· * ·) 1)), v2]) ha ⟨_, rfl⟩ ?_ ?_
    · rintro i v σ hi ⟨v2, rfl⟩
      rw [List.getElem?_map] at hi
      obtain ⟨x, hx, rfl⟩ := Option.map_eq_some_iff.mp hi
      have px := p x (List.mem_of_getElem? hx)
      have pt := fold_pm (xs := xs.take i) (a := 1) (.inl rfl) fun y hy => p y (List.mem_of_mem_take hy)
      have mb : CMulB ((xs.take i).foldl (· * ·) 1) x := Or.inl (Or.inl ⟨by omega, by omega⟩)
      have e : (xs.take (i + 1)).foldl (· * ·) 1 = (xs.take i).foldl (· * ·) 1 * x := by rw [List.take_add_one, hx, List.foldl_append]; rfl
      rw [e]
      generalize (xs.take i).foldl (· * ·) 1 = z at *
      wtm_at "rs"
      exact ⟨rfl, _, rfl⟩
    · rintro σ ⟨v2, rfl⟩
      rw [show (xs.map V.int).length = xs.length by simp, List.take_length]
      wtm_at "rs"
      exact q
theorem use_prodOf {K : PySem.W.Frag} {a : Addr} {xs : List Int} {H : Hp} {Q : VK} {E : XK} (h : SqL K H a (xs.map V.int)) (p : Pm1 xs) (q : Q (.int (xs.foldl (· * ·) 1)) H) : spProdOf K [.ref a] H Q E := ⟨a, xs, rfl, h, p, q⟩
/-! ### factors -/
def spFactors : Sp := fun vs H Q E => ∃ n : Int, vs = [.int n] ∧ NoT H ∧ 1 ≤ n ∧ n < 2 ^ 100 ∧ ∀ p H' ts fs, Same H H' → NoT H' → H p = none → H' p = some (.lst (ts.map V.ref)) → RowsAt H' ts (fs.map rowF) → FacOk n fs → Q (.ref p) H'
theorem ok_factors (T : Txt K mg Ad) : Def P w K mg base 1 "factors" ["n"] spFactors := by
  refine T.d_factors.ok sc_factors (fun vs H Q E h => ?_) (fun f cdv A outer s H vs Q E hr h => ?_)
  · obtain ⟨n, rfl, _⟩ := h
    rfl
  · obtain ⟨n0, rfl, nt, hn1, hn2, qo⟩ := h
    refine ⟨_, (pss_cons (ps_set (i := 1) sc_factors.nd rfl (Or.inl rfl) (pe_lst pa_nil))
      (pss_cons (ps_set (i := 2) sc_factors.nd rfl (Or.inl rfl) pe_int)
      (pss_cons (ps_while (passes_of rfl) (pt_cmpR op_le (pe_op op_mulB (pv 2) (pv 2)) (pv 0) (nomark _)) (pss_cons (ps_set (i := 3) sc_factors.nd rfl (Or.inl rfl) pe_int)
      (pss_cons (ps_while (passes_of rfl) (pt_cmpR op_eq (pe_op op_mod (pv 0) (pv 2)) pe_int (nomark _)) (pss_cons (ps_set (i := 0) sc_factors.nd rfl (Or.inl rfl) (pe_op op_fdivB (pv 0) (pv 2)))
      (pss_one (ps_aug (i := 3) sc_factors.nd rfl (Or.inl rfl) pe_int ip_add))))
      (pss_cons (ps_if (pt_cmpR op_gt (pv 3) pe_int (nomark _)) (pss_one (ps_expr (pe_bm PySem.F.plainAttrs_list PySem.F.slot_list_append PySem.F.type_list_append mt_append (pv 1) (pa_cons (pe_tup (pa_cons (pv 2) (pa_cons (pv 3) pa_nil))) pa_nil)))) pss_nil)
      (pss_one (ps_aug (i := 2) sc_factors.nd rfl (Or.inl rfl) pe_int ip_add))))))
      (pss_cons (ps_if (pt_cmpR op_gt (pv 0) pe_int (nomark _)) (pss_one (ps_expr (pe_bm PySem.F.plainAttrs_list PySem.F.slot_list_append PySem.F.type_list_append mt_append (pv 1) (pa_cons (pe_tup (pa_cons (pv 0) (pa_cons pe_int pa_nil))) pa_nil)))) pss_nil)
      (pss_one (ps_ret (pv 1))))))), ?_⟩
    try dsimp only [cxOf]
    wtm_at "rs"
    rename_i p hp
    refine rd_while (fun μ σ H' => ∃ (n d : Int) (ts : List Addr) (fs : List (Int × Nat)) (v3 : Option V), μ = (n0 + 2 - d).toNat ∧ σ = [some (.int n), some (.ref p), some (.int d), v3] ∧ Same H H' ∧ NoT H' ∧ H' p = some (.lst (ts.map V.ref)) ∧ RowsAt H' ts (fs.map rowF) ∧ FacInv n0 n d fs ∧ n ≤ n0 ∧ d < 2 ^ 61) n0.toNat
      ⟨n0, 2, [], [], none, by omega, rfl, same_new hp, NoT.upd nt rfl, upd_same, trivial, FacInv.start hn1, by omega, by decide⟩ ?_
    rintro μ σ H' ⟨n, d, ts, fs, v3, rfl, rfl, sm, nt', hp', hl, inv, hle, hd61⟩
    have d2 := inv.two
    have n1 := inv.pos
    wtm_at "rs"
    wtm_at "i"
    · rename_i hdd
      have db := QR.le_sq (show 1 ≤ d by omega)
      have dsq := QR.sq_bound (by omega) hdd (show n < 2 ^ 120 by omega)
      wtm_at "rs"
      refine rd_while (fun μ σ H2 => ∃ (m : Int) (e : Nat), μ = m.toNat ∧ σ = [some (.int m), some (.ref p), some (.int d), some (.int e)] ∧ H' = H2 ∧ m * d ^ e = n ∧ 1 ≤ m ∧ m ≤ n) n.toNat
        ⟨n, 0, rfl, rfl, rfl, by simp, n1, Int.le_refl _⟩ ?_
      rintro μ σ H2 ⟨m, e, rfl, rfl, rfl, hm, hm1, hmn⟩
      wtm_at "rs"
      wtm_at "i"
      · rename_i hz
        have hdv := Int.mul_ediv_add_emod m d
        have hq1 : 1 ≤ m / d := by
          rcases Int.lt_or_le (m / d) 1 with z | z
          · exfalso
            have : d * (m / d) ≤ d * 0 := Int.mul_le_mul_of_nonneg_left (by omega) (by omega)
            omega
          · exact z
        have hq2 : m / d < m := by
          have : 2 * (m / d) ≤ d * (m / d) := Int.mul_le_mul_of_nonneg_right d2 (by omega)
          omega
        wtm_at "rs"
        refine ⟨_, ?_, m / d, e + 1, rfl, rfl, rfl, ?_, hq1, by omega⟩
        · omega
        · rw [Int.pow_succ, ← hm]
          have : m = d * (m / d) := by omega
          conv => rhs; rw [this]
          grind
      · rename_i hz
        have hnd : ¬ d ∣ m := fun z => hz (Int.emod_eq_zero_of_dvd z)
        wtm_at "rs"
        wtm_at "i"
        · rename_i he
          have inv2 := inv.next (by omega) hm hm1 hnd
          have flen := inv.len hn2
          have hroom : (ts.map V.ref).length < sizeLine := by
            rw [List.length_map, hl.len, List.length_map]
            exact Nat.lt_of_le_of_lt (m := 1000000) (by omega) (by decide)
          wtm_at "rs"
          rename_i t ht
          refine ⟨_, ?_, m, d + 1, ts ++ [t], fs ++ [(d, e)], _, rfl, rfl, by wtm_at "sm", by wtm_at "nt", by rw [upd_same, List.map_append]; rfl, ?_, inv2, by omega, by omega⟩
          · omega
          · rw [List.map_append]
            refine RowsAt.other ((same_new ht) _ _ hp') (RowsAt.snoc upd_same (hl.mono (same_new ht)))
        · rename_i he
          have e0 : e = 0 := by omega
          subst e0
          have em : m = n := by simpa using hm
          subst em
          wtm_at "rs"
          exact ⟨_, by omega, m, d + 1, ts, fs, _, rfl, rfl, sm, nt', hp', hl, inv.next0 hnd, by omega, by omega⟩
    · rename_i hdd
      wtm_at "rs"
      wtm_at "i"
      · rename_i h1
        have flen := inv.len hn2
        have hroom : (ts.map V.ref).length < sizeLine := by
          rw [List.length_map, hl.len, List.length_map]
          exact Nat.lt_of_le_of_lt (m := 1000000) (by omega) (by decide)
        wtm_at "rs"
        rename_i t ht
        refine qo p _ (ts ++ [t]) (fs ++ [(n, 1)]) (by wtm_at "sm") (by wtm_at "nt") hp (by rw [upd_same, List.map_append]; rfl) ?_ (inv.done h1 (by omega))
        rw [List.map_append]
        exact RowsAt.other ((same_new ht) _ _ hp') (RowsAt.snoc upd_same (hl.mono (same_new ht)))
      · rename_i h1
        have en : n = 1 := by omega
        subst en
        wtm_at "rs"
        exact qo p H' ts fs sm nt' hp hp' hl inv.done1
/-! ### core -/
def spCore : Sp := fun vs H Q E => ∃ n : Int, vs = [.int n] ∧ NoT H ∧ n ≠ 0 ∧ -(2 ^ 60) < n ∧ n < 2 ^ 60 ∧ ∀ s r, CoreOk n s r → ∀ H' t, Same H H' → NoT H' → H t = none → H' t = some (.tup [.int s, .int r]) → Q (.ref t) H'
local macro_rules | `(tactic| wtm_at "cf") => `(tactic| ((with_reducible show spFactors [.int _] _ _ _); refine ⟨_, rfl, by wtm_at "nt", by first | omega | (split <;> omega), by first | omega | (split <;> omega), ?_⟩; intro p H' ts fs sm nt hp hp' hl hf))
theorem ok_core (T : Txt K mg Ad) : Def P w K mg base 2 "core" ["n"] spCore := by
  refine T.d_core.ok sc_core (fun vs H Q E h => ?_) (fun f cdv A outer s H vs Q E hr h => ?_)
  · obtain ⟨n, rfl, _⟩ := h
    rfl
  · obtain ⟨n, rfl, nt, hn0, hn1, hn2, qo⟩ := h
    refine ⟨_, (pss_cons (ps_set (i := 1) sc_core.nd rfl (Or.inl rfl) pe_int)
      (pss_cons (ps_if (pt_cmpR op_lt (pv 0) pe_int (nomark _)) (pss_one (ps_set (i := 1) sc_core.nd rfl (Or.inl rfl) (pe_un un_neg pe_int))) pss_nil)
      (pss_cons (ps_set (i := 2) sc_core.nd rfl (Or.inl rfl) pe_int)
      (pss_cons (ps_for (passes_of rfl) rfl (pi_list (pe_d (ok_factors T) (hr.mono (by decide)) (passes_call (takes_of rfl rfl rfl rfl) (fun _ _ _ _ h => h)) (pa_cons (pe_callB c_abs (by rfl) T.b_abs (by decide +kernel) (pa_cons (pv 0) pa_nil)) pa_nil))) (pg_tup rfl (pgs_cons (pg_name (i := 3) sc_core.nd rfl (Or.inl rfl)) (pgs_cons (pg_name (i := 4) sc_core.nd rfl (Or.inl rfl)) pgs_nil))) (pss_cons (ps_if (pt_cmpR op_eq (pe_op op_mod (pv 4) pe_int) pe_int (nomark _)) (pss_one (ps_set (i := 1) sc_core.nd rfl (Or.inl rfl) (pe_op op_mulB (pv 1) (pv 3)))) pss_nil)
      (pss_one (ps_for (passes_of rfl) rfl (pi_range1 (by rfl) T.b_range (pa_cons (pe_op op_fdivB (pv 4) pe_int) pa_nil)) (pg_name (i := 5) sc_core.nd rfl (Or.inl rfl)) (pss_one (ps_set (i := 2) sc_core.nd rfl (Or.inl rfl) (pe_op op_mulB (pv 2) (pv 3))))))))
      (pss_one (ps_ret (pe_tup (pa_cons (pv 1) (pa_cons (pv 2) pa_nil))))))))), ?_⟩
    try dsimp only [cxOf]
    repeat' (first | wtm_at "r" | wtm_at "s" | wtm_at "i" | wtm_at "cf" | fail)
    all_goals
      rename_i h0 p H' ts fs sm nt' hp hp' hl hf
      have hnab : (if n < 0 then -n else n) < 2 ^ 60 := by split <;> omega
      refine rd_forL (xs := ts.map V.ref) (fun i σ H2 => ∃ (sf sd : Int) (v3 v4 v5 : Option V), σ = [some (.int n), some (.int sf), some (.int sd), v3, v4, v5] ∧ H' = H2 ∧ sf * sfL (fs.drop i) = (if n < 0 then -1 else 1) * sfL fs ∧ sd * sdL (fs.drop i) = sdL fs)
        ⟨(if n < 0 then -1 else 1), 1, none, none, none, by first | (rw [if_pos h0]; rfl) | (rw [if_neg h0]; rfl), rfl, by simp, by simp⟩ (fun i σ H2 _ ⟨_, _, _, _, _, _, h, _⟩ => by rw [← h]; exact SqL.of hp') ?_ ?_
      · rintro i x σ H2 hi ⟨sf, sd, v3, v4, v5, rfl, rfl, e1, e2⟩
        obtain ⟨t, l, rfl, ht, hlx⟩ := hl.at hi
        rw [List.getElem?_map] at hlx
        obtain ⟨⟨q, e⟩, hy, rfl⟩ := Option.map_eq_some_iff.mp hlx
        have hd : fs.drop i = (q, e) :: fs.drop (i + 1) := by
          obtain ⟨hlt, hv⟩ := List.getElem?_eq_some_iff.mp hy
          rw [List.drop_eq_getElem_cons hlt, hv]
        obtain ⟨b1, b2, b3, b4⟩ := fac_small hf hnab (List.mem_of_getElem? hy)
        replace b1 : 2 ≤ q := b1
        replace b2 : q < 2 ^ 60 := b2
        replace b4 : e < 60 := b4
        have hT : SqT K H' t [.int q, .int (e : Int)] := SqT.of ht
        rw [hd] at e1 e2
        simp only [sfL, sdL] at e1 e2
        have ee : ((e : Int) / 2).toNat = e / 2 := by omega
        wtm_at "rs"
        wtm_at "i"
        · rename_i ho
          rw [if_pos (by omega)] at e1
          wtm_at "rs"
          rw [ee]
          refine rd_forR (fun j σ H2 => ∃ (v5 : Option V), σ = [some (.int n), some (.int (sf * q)), some (.int (sd * q ^ j)), some (.int q), some (.int e), v5] ∧ H' = H2) ⟨v5, by rw [Int.pow_zero, Int.mul_one]; rfl, rfl⟩ ?_ ?_
          · rintro j σ H2 hj ⟨v5, rfl, rfl⟩
            wtm_at "rs"
            exact ⟨_, by rw [Int.pow_succ, ← Int.mul_assoc]; rfl, rfl⟩
          · rintro σ H2 ⟨v5, rfl, rfl⟩
            exact ⟨_, _, _, _, _, rfl, rfl, by rw [← e1, Int.mul_assoc], by rw [← e2, Int.mul_assoc]⟩
        · rename_i ho
          rw [if_neg (by omega), Int.one_mul] at e1
          wtm_at "rs"
          rw [ee]
          refine rd_forR (fun j σ H2 => ∃ (v5 : Option V), σ = [some (.int n), some (.int sf), some (.int (sd * q ^ j)), some (.int q), some (.int e), v5] ∧ H' = H2) ⟨v5, by rw [Int.pow_zero, Int.mul_one]; rfl, rfl⟩ ?_ ?_
          · rintro j σ H2 hj ⟨v5, rfl, rfl⟩
            wtm_at "rs"
            exact ⟨_, by rw [Int.pow_succ, ← Int.mul_assoc]; rfl, rfl⟩
          · rintro σ H2 ⟨v5, rfl, rfl⟩
            exact ⟨_, _, _, _, _, rfl, rfl, e1, by rw [← e2, Int.mul_assoc]⟩
      · rintro σ H2 ⟨sf, sd, v3, v4, v5, rfl, rfl, e1, e2⟩
        rw [List.length_map, hl.len, List.length_map, List.drop_length] at e1 e2
        have e1' : sf = (if n < 0 then -1 else 1) * sfL fs := by rw [← e1]; simp [sfL]
        have e2' : sd = sdL fs := by rw [← e2]; simp [sdL]
        have hc := core_ok hf
        rw [← e1', ← e2'] at hc
        wtm_at "rs"
        rename_i t ht
        exact qo sf sd hc _ t (by wtm_at "sm") (by wtm_at "nt") (Same.free sm ht) upd_same
theorem use_core {n : Int} {H : Hp} {Q : VK} {E : XK} (nt : NoT H) (h0 : n ≠ 0) (h1 : -(2 ^ 60) < n) (h2 : n < 2 ^ 60) (q : ∀ s r, CoreOk n s r → ∀ H' t, Same H H' → NoT H' → H t = none → H' t = some (.tup [.int s, .int r]) → Q (.ref t) H') : spCore [.int n] H Q E := ⟨n, rfl, nt, h0, h1, h2, q⟩
/-! ### shows -/
theorem rd_ixQ {K : PySem.W.Frag} {H : Hp} {Q : VK} {p : Addr} {xs : List V} {i : Int} {v : V} (h : SqL K H p xs ∨ SqT K H p xs) (ha : atI xs i = some v) (q : Q v H) : rIx K (.ref p) (.int i) H Q := h.elim (fun h => .inl ⟨p, xs, i, v, rfl, rfl, h, ha, q⟩) fun h => .inr (.inl ⟨p, xs, i, v, rfl, rfl, h, ha, q⟩)
/-- the places of a list bar a pattern -/
def ShI (ns σ : List Int) (ps : List Int) : Prop := ps ≠ [] ∧ ps.Pairwise (· < ·) ∧ (∀ i ∈ ps, 0 ≤ i ∧ i < ns.length) ∧ ShowN ns σ (ps.map Int.toNat)
theorem prodN_le {ns : List Int} (h : ∀ x ∈ ns, x.natAbs ≤ 100) (P : List Nat) : (prodN P ns).natAbs ≤ 100 ^ P.length := by
  have go : ∀ (P : List Nat) (a : Int), ((P.map fun i => ns.getD i 1).foldl (· * ·) a).natAbs ≤ a.natAbs * 100 ^ P.length := fun P => by
    induction P with
    | nil => intro a; simp
    | cons i P ih =>
      intro a
      refine Nat.le_trans (ih _) ?_
      have hx : (ns.getD i 1).natAbs ≤ 100 := by
        rw [List.getD_eq_getElem?_getD]
        cases e : ns[i]? with
        | none => decide
        | some x => exact h x (List.mem_of_getElem? e)
      rw [Int.natAbs_mul, List.length_cons, Nat.pow_succ, Nat.mul_comm (100 ^ P.length), ← Nat.mul_assoc]
      exact Nat.mul_le_mul_right _ (Nat.mul_le_mul_left _ hx)
  have := go P 1
  simpa [prodN] using this
theorem prodN_ne {ns : List Int} (h : ∀ x ∈ ns, x ≠ 0) (P : List Nat) : prodN P ns ≠ 0 := by
  have go : ∀ (P : List Nat) (a : Int), a ≠ 0 → ((P.map fun i => ns.getD i 1).foldl (· * ·) a) ≠ 0 := fun P => by
    induction P with
    | nil => intro a h; exact h
    | cons i P ih =>
      intro a ha
      refine ih _ (Int.mul_ne_zero ha ?_)
      show ns.getD i 1 ≠ 0
      rw [List.getD_eq_getElem?_getD]
      cases e : ns[i]? with
      | none => decide
      | some x => exact h x (List.mem_of_getElem? e)
  exact go P 1 (by decide)
theorem atI_D {xs : List Int} {i : Int} (h0 : 0 ≤ i) (h1 : i < xs.length) : atI (xs.map V.int) i = some (.int (xs.getD i.toNat 1)) := by
  obtain ⟨j, rfl⟩ : ∃ j : Nat, i = (j : Int) := ⟨i.toNat, by omega⟩
  have hj : j < xs.length := by omega
  exact atI_nat (by rw [List.getElem?_map, Int.toNat_natCast, List.getD_eq_getElem?_getD, List.getElem?_eq_getElem hj]; rfl)
theorem getD_of {xs : List Int} {i : Nat} {P : Int → Prop} (h : ∀ x ∈ xs, P x) (h1 : i < xs.length) : P (xs.getD i 1) := by
  rw [List.getD_eq_getElem?_getD, List.getElem?_eq_getElem h1]
  exact h _ (List.getElem_mem h1)
structure Nums (ns : List Int) : Prop where
  nz : ∀ x ∈ ns, x ≠ 0
  le : ∀ x ∈ ns, x.natAbs ≤ 100
  few : ns.length ≤ 8
noncomputable instance {ns σ ps : List Int} : Decidable (ShI ns σ ps) := Classical.propDecidable _
def spShows (K : PySem.W.Frag) : Sp := fun vs H Q _ => ∃ (a b c : Addr) (ns σ ps : List Int), vs = [.ref a, .ref b, .ref c] ∧ (SqL K H a (ns.map V.int) ∨ SqT K H a (ns.map V.int)) ∧ SqL K H b (σ.map V.int) ∧ SqL K H c (ps.map V.int) ∧ Nums ns ∧ σ.length = ns.length ∧ Pm1 σ ∧ ps.length ≤ 8 ∧ (∀ i ∈ ps, -100 ≤ i ∧ i ≤ 100) ∧ NoT H ∧ ∀ G, Same H G → NoT G → Q (.bl (decide (ShI ns σ ps))) G
theorem ok_shows (T : Txt K mg Ad) : Def P w K mg base 3 "shows" ["numbers", "signs", "places"] (spShows K) := by
  refine T.d_shows.ok sc_shows (fun vs H Q E h => ?_) (fun f cdv A outer s H vs Q E hr h => ?_)
  · obtain ⟨a, b, c, ns, σ, ps, rfl, _⟩ := h
    rfl
  · obtain ⟨a, b, c, ns, sg, ps, rfl, ha, hb, hc, nm, sl, pm, p8, pb, nt, q⟩ := h
    refine ⟨_, (pss_cons (ps_if (PW.pt (pw_or (pt_cmpR (op_eqD hr.units) (pv 2) (pe_lst pa_nil) (nomark _)) (pw_or1 (pt_cmpR (op_neD hr.units) (pv 2) (pe_callB (cr_sortSetN rfl) (by rfl) T.b_sorted (by decide +kernel) (pa_cons (pe_callTy (cr_setOf rfl) (by rfl) T.b_set (by decide +kernel) (pa_cons (pv 2) pa_nil)) pa_nil)) (nomark _))))) (pss_one (ps_ret pe_bl)) pss_nil)
      (pss_cons (ps_if (PW.pt (pw_or (pt_cmpR op_lt (pe_ix ix_list (pv 2) pe_int (fun _ _ => rfl)) pe_int (nomark _)) (pw_or1 (pt_cmpR op_ge (pe_ix ix_list (pv 2) (pe_un un_neg pe_int) (fun _ _ => rfl)) (pe_callB c_len (by rfl) T.b_len PySem.boot_len (pa_cons (pv 0) pa_nil)) (nomark _))))) (pss_one (ps_ret pe_bl)) pss_nil)
      (pss_cons (ps_if (pt_cmpR op_ne (pe_d (ok_product_of T) (hr.mono (by decide)) (passes_call (takes_of rfl rfl rfl rfl) (fun _ _ _ _ h => h)) (pa_cons (pe_lc (own := [("at", 3)])  (te := (tOp (rIxL K) (tVar 1) (tVar 3))) rfl sc_shows.nd  (pi_list (pv 2)) (blkOk_by (own := [("at", 3)]) (N := ["numbers", "signs", "places", "at", "product"]) (sc := defScope s_shows) (by decide +kernel)) (fun _ _ _ _ _ => (pg_name (i := 3) sc_shows.nd rfl (Or.inl rfl))) (fun _ _ _ _ _ => pts_nil) (fun _ _ _ _ _ => (pe_ix ix_list (pv 1) (pv 3) (fun _ _ => rfl)))) pa_nil)) (pe_un un_neg pe_int) (nomark _)) (pss_one (ps_ret pe_bl)) pss_nil)
      (pss_cons (ps_set (i := 4) sc_shows.nd rfl (Or.inl rfl) pe_int)
      (pss_cons (ps_for (passes_of rfl) rfl (pi_list (pv 2)) (pg_name (i := 3) sc_shows.nd rfl (Or.inl rfl)) (pss_one (ps_set (i := 4) sc_shows.nd rfl (Or.inl rfl) (pe_ix ix_tup (pe_d (ok_core T) (hr.mono (by decide)) (passes_call (takes_of rfl rfl rfl rfl) (fun _ _ _ _ h => h)) (pa_cons (pe_op op_mulB (pv 4) (pe_ix ix_seq (pv 0) (pv 3) (fun _ _ => rfl))) pa_nil)) pe_int (fun _ _ => rfl)))))
      (pss_one (ps_ret (pe_cmpR op_eq (pv 4) pe_int (nomark _))))))))), ?_⟩
    try dsimp only [cxOf]
    have B := Hv.start nt
    have no : ¬ ShI ns sg ps → ∀ G, Same H G → NoT G → Q (.bl false) G := fun z G s n => by
      have := q G s n
      rw [decide_eq_false z] at this
      exact this
    wtm_at "rs"
    rename_i L hL
    replace B := B.newL (o := .lst (([] : List Int).map V.int)) hL
    clear hL
    refine B.gen fun G B => ?_
    refine rd_eqInts (ns := ps) (ms := []) (B.same.seq hc) (SqL.of (B.lAt (a := L) (by wtm_at "mem"))) ?_
    refine ⟨_, rfl, ?_⟩
    by_cases p0 : ps = []
    · rw [if_pos (decide_eq_true p0)]
      wtm_at "rs"
      exact no (fun z => z.1 p0) _ B.same B.nt
    rw [if_neg (by rw [decide_eq_true_iff]; exact p0)]
    wtm_at "rs"
    refine rd_setOfL (B.same.seq hc) (by omega) fun D n hD => ?_
    replace B := B.next (same_new (o := SetO w D (inS ps) n) hD) (NoT.upd B.nt rfl)
    have hD2 : upd G D (SetO w D (inS ps) n) D = some (SetO w D (inS ps) n) := upd_same
    clear hD
    revert hD2
    refine B.gen fun G B hD2 => ?_
    wtm_at "rs"
    refine rd_sortSetN hD2 fun us p3 i3 e3 h3 => ?_
    replace B := B.newL (o := .lst (us.map V.int)) h3
    clear h3 hD2
    refine B.gen fun G B => ?_
    refine rd_neInts (ns := ps) (ms := us) (B.same.seq hc) (SqL.of (B.lAt (a := p3) (by wtm_at "mem"))) ?_
    refine ⟨_, rfl, ?_⟩
    by_cases pu : ps = us
    · rw [if_neg (by rw [Bool.not_eq_true, Bool.not_eq_false', decide_eq_true_iff]; exact pu)]
      subst pu
      obtain ⟨x, xs, rfl⟩ : ∃ x xs, ps = x :: xs := by
        cases ps with
        | nil => exact absurd rfl p0
        | cons x xs => exact ⟨x, xs, rfl⟩
      obtain ⟨ys, y, ey⟩ := snoc_of (l := x :: xs) (by simp)
      have hx0 : atI ((x :: xs).map V.int) 0 = some (.int x) := show atI _ ((0 : Nat) : Int) = _ from atI_nat rfl
      have hy0 : atI ((x :: xs).map V.int) (-1) = some (.int y) := by rw [ey, List.map_append]; exact atI_last _ _
      have xm : x ∈ x :: xs := by simp
      have ym : y ∈ x :: xs := by rw [ey]; simp
      have lx : ∀ i ∈ x :: xs, x ≤ i := fun i hi => by
        rcases List.mem_cons.mp hi with e | e
        · omega
        · exact Int.le_of_lt ((List.pairwise_cons.mp i3).1 i e)
      have ly : ∀ i ∈ x :: xs, i ≤ y := fun i hi => by
        rw [ey] at hi i3
        rcases List.mem_append.mp hi with e | e
        · exact Int.le_of_lt ((List.pairwise_append.mp i3).2.2 i e y (by simp))
        · rw [List.mem_singleton.mp e]; exact Int.le_refl _
      clear ey e3
      generalize x :: xs = ps at *
      wtm_at "rs"
      refine rd_ixL (B.same.seq hc) hx0 ?_
      wtm_at "rs"
      by_cases x0 : x < 0
      · rw [if_pos (decide_eq_true x0)]
        wtm_at "rs"
        exact no (fun z => by have := z.2.2.1 x xm; omega) _ B.same B.nt
      rw [if_neg (by rw [decide_eq_true_iff]; exact x0)]
      wtm_at "rs"
      refine rd_ixL (B.same.seq hc) hy0 ?_
      wtm_at "rs"
      refine ⟨a, ns.map V.int, rfl, ha.imp B.same.seq B.same.seqT, ?_⟩
      rw [List.length_map]
      wtm_at "rs"
      by_cases yl : (ns.length : Int) ≤ y
      · rw [if_pos (decide_eq_true yl)]
        wtm_at "rs"
        exact no (fun z => by have := z.2.2.1 y ym; omega) _ B.same B.nt
      rw [if_neg (by rw [decide_eq_true_iff]; exact yl)]
      have rg : ∀ i ∈ ps, 0 ≤ i ∧ i < ns.length := fun i hi => by have := lx i hi; have := ly i hi; omega
      wtm_at "rs"
      refine rd_lcI (fun _ => true) (fun i => V.int (sg.getD i.toNat 1)) (B.same.seq hc) (fun D l x r hD hx => ?_) fun D1 hD1 => ?_
      · have C := B.newL (o := .lst (resI (fun _ => true) (fun i => V.int (sg.getD i.toNat 1)) l)) hD
        have xr := rg x (by rw [hx]; simp)
        wtm_at "r"
        refine ⟨rfl, ?_⟩
        wtm_at "rs"
        refine rd_ixL (C.same.seq hb) (atI_D xr.1 (by rw [sl]; exact xr.2)) ?_
        exact put_I (by
          have := congrArg List.length hx
          rw [List.length_append] at this
          omega) rfl rfl
      have e1 : ((ps.filter fun _ => true).map fun i => V.int (sg.getD i.toNat 1)) = (ps.map fun i => sg.getD i.toNat 1).map V.int := by
        rw [List.filter_eq_self.mpr fun _ _ => rfl, List.map_map]
        rfl
      rw [e1]
      replace B := B.newL (o := .lst ((ps.map fun i => sg.getD i.toNat 1).map V.int)) hD1
      clear hD1 e1
      refine B.gen fun G B => ?_
      wtm_at "rs"
      have pmm : Pm1 (ps.map fun i => sg.getD i.toNat 1) := fun s hs => by
        obtain ⟨i, hi, rfl⟩ := List.mem_map.mp hs
        have := rg i hi
        exact getD_of (P := fun s => s = 1 ∨ s = -1) pm (by omega)
      refine use_prodOf (SqL.of (B.lAt (a := D1) (by wtm_at "mem"))) pmm ?_
      have e2 : (ps.map fun i => sg.getD i.toNat 1).foldl (· * ·) 1 = prodN (ps.map Int.toNat) sg := by
        unfold prodN
        rw [List.map_map]
        rfl
      rw [e2]
      replace B := B.sub (L' := []) (by wtm_at "vsub") (by wtm_at "vsub")
      wtm_at "rs"
      by_cases pr : prodN (ps.map Int.toNat) sg = -1
      · refine rd_neF pr ?_
        wtm_at "rs"
        refine rd_forL (xs := ps.map V.int) (fun i σ G => ∃ (v3 : Option V) (d r : Int), σ = [some (.ref a), some (.ref b), some (.ref c), v3, some (.int d)] ∧ Hv noX H [] [] [] G ∧ CoreOk (prodN ((ps.take i).map Int.toNat) ns) d r) ⟨_, 1, 1, rfl, B, by rw [List.take_zero]; exact ⟨by simp [prodN], by decide, Fr.one.2⟩⟩ (fun i σ G _ ⟨_, _, _, _, B, _⟩ => B.same.seq hc) ?_ ?_
        · clear B
          rintro i v σ G hi ⟨v3, d, r, rfl, B, co⟩
          rw [List.getElem?_map] at hi
          obtain ⟨x, hx, rfl⟩ := Option.map_eq_some_iff.mp hi
          have xr := rg x (List.mem_of_getElem? hx)
          have i8 := (List.getElem?_eq_some_iff.mp hx).1
          have xn : x.toNat < ns.length := by omega
          have n0 := getD_of (P := fun x => x ≠ 0) nm.nz xn
          have nl := getD_of (P := fun x => x.natAbs ≤ 100) nm.le xn
          have p1 := prodN_ne nm.nz ((ps.take i).map Int.toNat)
          have p2 := prodN_le nm.le ((ps.take i).map Int.toNat)
          have p3 : 100 ^ ((ps.take i).map Int.toNat).length ≤ 100 ^ 7 := Nat.pow_le_pow_right (by decide) (by rw [List.length_map, List.length_take]; omega)
          obtain ⟨d0, d1, d2, _⟩ := co.bound p1 (B := 100 ^ 7) (by omega) (by omega)
          have et : prodN ((ps.take (i + 1)).map Int.toNat) ns = prodN ((ps.take i).map Int.toNat) ns * ns.getD x.toNat 1 := by
            rw [List.take_add_one, hx, List.map_append]
            exact prodN_snoc
          rw [et]
          have hz := atI_D xr.1 (xs := ns) (by omega)
          generalize ns.getD x.toNat 1 = z at *
          generalize prodN ((ps.take i).map Int.toNat) ns = pz at *
          have bd : Bd 60 d := Bd.of (by omega) (by omega)
          have bz : Bd 60 z := Bd.of (by omega) (by omega)
          have dz : d * z ≠ 0 := Int.mul_ne_zero d0 n0
          have da : (d * z).natAbs ≤ 100 ^ 7 * 100 := by rw [Int.natAbs_mul]; exact Nat.mul_le_mul (by omega) nl
          wtm_at "rs"
          refine rd_ixQ (ha.imp B.same.seq B.same.seqT) hz ?_
          wtm_at "rs"
          refine use_core B.nt dz (by omega) (by omega) fun s2 r2 c2 H2 t s4 n4 ht ht2 => ?_
          replace B := B.next s4 n4
          wtm_at "rs"
          refine ⟨_, s2, r2 * r, rfl, B, ⟨?_, Int.mul_pos c2.pos co.pos, c2.free⟩⟩
          have e1 := c2.prod
          have e3 := co.prod
          grind
        · clear B
          rintro σ G ⟨v3, d, r, rfl, B, co⟩
          rw [show (ps.map V.int).length = ps.length by simp, List.take_length] at co
          wtm_at "rs"
          have := q G B.same B.nt
          rw [show decide (ShI ns sg ps) = decide (d = 1) from dec_iff.mpr ⟨fun z => (co.one (prodN_ne nm.nz _)).mpr z.2.2.2.2, fun z => ⟨p0, i3, rg, pr, (co.one (prodN_ne nm.nz _)).mp z⟩⟩] at this
          exact this
      · refine rd_neT pr ?_
        wtm_at "rs"
        exact no (fun z => pr z.2.2.2.1) _ B.same B.nt
    · rw [if_pos (by rw [Bool.not_eq_true', decide_eq_false_iff_not]; exact pu)]
      wtm_at "rs"
      refine no (fun z => pu ?_) _ B.same B.nt
      exact inc_same z.2.1 i3 fun k => (e3 k).symm
/-! ### barred -/
/-- all lists of places, by length and order -/
def allK (k i : Nat) : List (List Nat) := (List.range i).flatMap fun l => chL k (l + 1)
def allP (k : Nat) : List (List Nat) := allK k k
theorem allK_succ {k i : Nat} : allK k (i + 1) = allK k i ++ chL k (i + 1) := by
  unfold allK
  rw [List.range_succ, List.flatMap_append]
  simp
theorem allK_split {k i : Nat} (h : i < k) : ∃ B, allP k = allK k i ++ (chL k (i + 1) ++ B) := by
  have go : ∀ d : Nat, ∃ B, allK k (i + 1 + d) = allK k (i + 1) ++ B := fun d => by
    induction d with
    | zero => exact ⟨[], by simp⟩
    | succ d ih =>
      obtain ⟨B, e⟩ := ih
      exact ⟨B ++ chL k (i + 1 + d + 1), by rw [← Nat.add_assoc, allK_succ, e, List.append_assoc]⟩
  obtain ⟨B, e⟩ := go (k - (i + 1))
  rw [show i + 1 + (k - (i + 1)) = k by omega, allK_succ, List.append_assoc] at e
  exact ⟨B, e⟩
theorem zN_nat (P : List Nat) : (zN P).map Int.toNat = P := by
  unfold zN
  rw [List.map_map]
  exact (List.map_congr_left fun i _ => by simp).trans (List.map_id _)
theorem shI_zN {ns σ : List Int} {P : List Nat} (h : Asc ns.length P) (h0 : P ≠ []) : ShI ns σ (zN P) ↔ ShowN ns σ P := by
  unfold ShI
  rw [zN_nat]
  refine ⟨fun z => z.2.2.2, fun z => ⟨fun e => h0 (List.map_eq_nil_iff.mp e), ?_, fun i hi => ?_, z⟩⟩
  · unfold zN
    rw [List.pairwise_map]
    exact h.1.imp fun h => by omega
  · obtain ⟨j, hj, rfl⟩ := List.mem_map.mp hi
    have := h.2 j hj
    omega
theorem allP_mem {k : Nat} {P : List Nat} : P ∈ allP k ↔ Asc k P ∧ P ≠ [] := by
  unfold allP allK
  rw [List.mem_flatMap]
  constructor
  · rintro ⟨l, hl, h⟩
    obtain ⟨a, b⟩ := mem_chL.mp h
    exact ⟨a, by intro z; rw [z] at b; cases b⟩
  · rintro ⟨a, b⟩
    have := asc_len a
    have : P.length ≠ 0 := fun z => b (List.eq_nil_of_length_eq_zero z)
    exact ⟨P.length - 1, List.mem_range.mpr (by omega), mem_chL.mpr ⟨a, by omega⟩⟩
def spBarred (K : PySem.W.Frag) : Sp := fun vs H Q _ => ∃ (a b : Addr) (ns σ : List Int), vs = [.ref a, .ref b] ∧ (SqL K H a (ns.map V.int) ∨ SqT K H a (ns.map V.int)) ∧ SqL K H b (σ.map V.int) ∧ Nums ns ∧ ns.length ≤ 5 ∧ σ.length = ns.length ∧ Pm1 σ ∧ NoT H ∧
  (∀ G, Same H G → NoT G → (∀ P ∈ allP ns.length, ¬ ShowN ns σ P) → Q .non G) ∧ ∀ (A B : List (List Nat)) (P : List Nat) (L : Addr) (G : Hp), allP ns.length = A ++ P :: B → (∀ R ∈ A, ¬ ShowN ns σ R) → ShowN ns σ P → Same H G → NoT G → H L = none → G L = some (.lst ((zN P).map V.int)) → Q (.ref L) G
theorem ok_barred (T : Txt K mg Ad) : Def P w K mg base 11 "barred" ["numbers", "signs"] (spBarred K) := by
  refine T.d_barred.ok sc_barred (fun vs H Q E h => ?_) (fun f cdv A outer s H vs Q E hr h => ?_)
  · obtain ⟨a, b, ns, sg, rfl, _⟩ := h
    rfl
  · obtain ⟨a, b, ns, sg, rfl, ha, hb, nm, n5, sl, pm, nt, q0, q1⟩ := h
    refine ⟨_, (pss_cons (ps_for (passes_of rfl) rfl (pi_range2 (by rfl) T.b_range (pa_cons pe_int (pa_cons (pe_op op_add (pe_callB c_len (by rfl) T.b_len PySem.boot_len (pa_cons (pv 0) pa_nil)) pe_int) pa_nil))) (pg_name (i := 2) sc_barred.nd rfl (Or.inl rfl)) (pss_one (ps_for (passes_of rfl) rfl (pi_list (pe_d (ok_choices_of T) (hr.mono (by decide)) (passes_call (takes_of rfl rfl rfl rfl) (fun _ _ _ _ h => h)) (pa_cons (pe_callB c_len (by rfl) T.b_len PySem.boot_len (pa_cons (pv 0) pa_nil)) (pa_cons (pv 2) pa_nil)))) (pg_name (i := 3) sc_barred.nd rfl (Or.inl rfl)) (pss_one (ps_if (pt_val (pe_d (ok_shows T) (hr.mono (by decide)) (passes_call (takes_of rfl rfl rfl rfl) (fun _ _ _ _ h => h)) (pa_cons (pv 0) (pa_cons (pv 1) (pa_cons (pv 3) pa_nil))))) (pss_one (ps_ret (pv 3))) pss_nil)))))
      (pss_one (ps_ret pe_non))), ?_⟩
    try dsimp only [cxOf]
    have B := Hv.start nt
    wtm_at "rs"
    refine ⟨a, ns.map V.int, rfl, ha, ?_⟩
    rw [List.length_map]
    wtm_at "rs"
    rw [show ((ns.length : Int) + 1 - 1).toNat = ns.length by omega]
    refine rd_forR (fun i σ G => ∃ v2 v3 : Option V, σ = [some (.ref a), some (.ref b), v2, v3] ∧ Hv noX H [] [] [] G ∧ ∀ P ∈ allK ns.length i, ¬ ShowN ns sg P) ⟨_, _, rfl, B, fun P h => absurd h (by simp [allK])⟩ ?_ ?_
    · clear B
      rintro i σ G hi ⟨v2, v3, rfl, B, no⟩
      wtm_at "rs"
      refine ⟨a, ns.map V.int, rfl, ha.imp B.same.seq B.same.seqT, ?_⟩
      rw [List.length_map]
      wtm_at "rs"
      rw [show (1 : Int) + (i : Int) = ((i + 1 : Nat) : Int) by omega]
      refine ⟨ns.length, i + 1, rfl, by omega, by omega, by omega, B.nt, fun R cs G2 z => ?_⟩
      have rz := z.r
      have cl := rz.len
      rw [List.length_map] at cl
      have fc : ∀ a ∈ cs, H a = none := fun a ha => B.free (z.fa a ha)
      replace B := B.got z.s z.n z.f z.l
      clear z
      revert rz
      refine B.gen fun G B rz => ?_
      wtm_at "rs"
      refine rd_forL (xs := cs.map V.ref) (fun j σ G => ∃ v3 : Option V, σ = [some (.ref a), some (.ref b), some (.int ((i + 1 : Nat) : Int)), v3] ∧ Hv noX H [] [(R, .lst (cs.map V.ref))] [] G ∧ RowsZ R G cs ((chL ns.length (i + 1)).map zN) ∧ ∀ P ∈ (chL ns.length (i + 1)).take j, ¬ ShowN ns sg P) ⟨_, rfl, B, rz, fun P h => absurd h (by simp)⟩ (fun i σ G _ ⟨_, _, B, _⟩ => SqL.of (B.lAt (a := R) (by wtm_at "mem"))) ?_ ?_
      · clear B rz
        rintro j v σ G hj ⟨v3, rfl, B, rz, no2⟩
        obtain ⟨a0, r0, rfl, ha0, hr0, _, h0⟩ := rz.at hj
        rw [List.getElem?_map] at hr0
        obtain ⟨P, hP, rfl⟩ := Option.map_eq_some_iff.mp hr0
        obtain ⟨as, pl⟩ := mem_chL.mp (List.mem_of_getElem? hP)
        have p0 : P ≠ [] := by intro z; rw [z] at pl; cases pl
        have pz : ∀ k ∈ zN P, -100 ≤ k ∧ k ≤ 100 := fun k hk => by
          obtain ⟨q, hq, rfl⟩ := List.mem_map.mp hk
          have := as.2 q hq
          omega
        wtm_at "rs"
        refine ⟨a, b, a0, ns, sg, zN P, rfl, ha.imp B.same.seq B.same.seqT, B.same.seq hb, SqL.of h0, nm, sl, pm, by unfold zN; rw [List.length_map]; omega, pz, B.nt, fun G3 s3 n3 => ?_⟩
        replace B := B.next s3 n3
        have rz3 := rz.mono s3
        have h03 := s3 _ _ h0
        refine ⟨_, rfl, ?_⟩
        by_cases sh : ShowN ns sg P
        · rw [if_pos (decide_eq_true ((shI_zN as p0).mpr sh))]
          wtm_at "rs"
          obtain ⟨tl, etl⟩ := allK_split hi
          refine q1 (allK ns.length i ++ (chL ns.length (i + 1)).take j) ((chL ns.length (i + 1)).drop (j + 1) ++ tl) P a0 G3 ?_ (fun R hR => ?_) sh B.same B.nt (fc a0 (List.mem_of_getElem? ha0)) h03
          · rw [etl, List.append_assoc, ← List.cons_append, ← List.append_assoc (List.take j _)]
            congr 2
            obtain ⟨h1, h2⟩ := List.getElem?_eq_some_iff.mp hP
            rw [← h2, ← List.drop_eq_getElem_cons h1, List.take_append_drop]
          · rcases List.mem_append.mp hR with h | h
            · exact no R h
            · exact no2 R h
        · rw [if_neg (by rw [decide_eq_true_iff]; exact fun z => sh ((shI_zN as p0).mp z))]
          wtm_at "rs"
          refine ⟨_, rfl, B, rz3, fun R hR => ?_⟩
          rw [List.take_add_one, hP] at hR
          rcases List.mem_append.mp hR with h | h
          · exact no2 R h
          · rw [List.mem_singleton.mp (show R ∈ [P] from h)]
            exact sh
      · clear B rz
        rintro σ G ⟨v3, rfl, B, rz, no2⟩
        rw [List.length_map, cl, List.take_length] at no2
        wtm_at "rs"
        refine ⟨_, _, rfl, B.sub (by wtm_at "vsub") (by wtm_at "vsub"), fun P hP => ?_⟩
        rw [allK_succ] at hP
        rcases List.mem_append.mp hP with h | h
        · exact no P h
        · exact no2 P h
    · clear B
      rintro σ G ⟨v2, v3, rfl, B, no⟩
      wtm_at "rs"
      exact q0 G B.same B.nt no
/-! ### _law_lists -/
def TabF (K : PySem.W.Frag) (mg : Str → Option Value) (base : Heap) (Tb : Addr) : Prop := ∃ c, CodeIs K mg "_law_lists" c ∧ LamX.TabB base mg c Tb
theorem dec_len : ∀ (n : Nat) (Y : List (List Int)), Y.Pairwise (fun a b => a.length ≤ b.length) → (∀ y ∈ Y, y.length < n) → Y = (List.range n).flatMap fun L => Y.filter fun y => decide (y.length = L)
  | 0, Y, _, h => by
    cases Y with
    | nil => rfl
    | cons y Y => exact absurd (h y List.mem_cons_self) (by omega)
  | n + 1, Y, p, h => by
    have cut : ∀ Z : List (List Int), Z.Pairwise (fun a b => a.length ≤ b.length) → (∀ y ∈ Z, y.length < n + 1) → Z = Z.filter (fun y => decide (y.length < n)) ++ Z.filter fun y => decide (y.length = n) := fun Z => by
      induction Z with
      | nil => exact fun _ _ => rfl
      | cons y Z ih =>
        intro p h
        obtain ⟨p1, p2⟩ := List.pairwise_cons.mp p
        have ih := ih p2 fun z hz => h z (List.mem_cons_of_mem _ hz)
        by_cases c : y.length < n
        · rw [List.filter_cons_of_pos (by simpa using c), List.filter_cons_of_neg (by simp; omega), List.cons_append, ← ih]
        · have cy := h y List.mem_cons_self
          have e1 : Z.filter (fun y => decide (y.length < n)) = [] := List.filter_eq_nil_iff.mpr fun z hz => by
            have := p1 z hz
            simp
            omega
          rw [List.filter_cons_of_neg (by simpa using c), List.filter_cons_of_pos (by simp; omega), e1, List.nil_append]
          rw [e1, List.nil_append] at ih
          rw [← ih]
    have sub := dec_len n (Y.filter fun y => decide (y.length < n)) (p.filter _) fun y hy => of_decide_eq_true (List.mem_filter.mp hy).2
    rw [List.range_succ, List.flatMap_append]
    have e : ((List.range n).flatMap fun L => Y.filter fun y => decide (y.length = L)) = (List.range n).flatMap fun L => (Y.filter fun y => decide (y.length < n)).filter fun y => decide (y.length = L) := by
      rw [List.flatMap_def, List.flatMap_def]
      congr 1
      refine List.map_congr_left fun L hL => ?_
      have := List.mem_range.mp hL
      rw [List.filter_filter]
      refine List.filter_congr fun y _ => ?_
      by_cases c : y.length = L
      · simp [c]
        omega
      · simp [c]
    rw [e, ← sub, List.flatMap_cons, List.flatMap_nil, List.append_nil]
    exact cut Y p h
theorem stable_len {X : List (List Int)} {n : Nat} (hn : ∀ x ∈ X, x.length < n) : X.mergeSort (fun a b => decide ((a.length : Int) ≤ b.length)) = (List.range n).flatMap fun L => X.filter fun x => decide (x.length = L) := by
  have tr : ∀ a b c : List Int, decide ((a.length : Int) ≤ b.length) = true → decide ((b.length : Int) ≤ c.length) = true → decide ((a.length : Int) ≤ c.length) = true := fun a b c h1 h2 => by
    simp only [decide_eq_true_eq] at *
    omega
  have to : ∀ a b : List Int, (decide ((a.length : Int) ≤ b.length) || decide ((b.length : Int) ≤ a.length)) = true := fun a b => by
    simp only [Bool.or_eq_true, decide_eq_true_eq]
    omega
  have pm := List.mergeSort_perm X fun a b => decide ((a.length : Int) ≤ b.length)
  have pw : (X.mergeSort fun a b => decide ((a.length : Int) ≤ b.length)).Pairwise fun a b => a.length ≤ b.length := (List.pairwise_mergeSort tr to X).imp fun h => by
    have := of_decide_eq_true h
    omega
  rw [dec_len n _ pw fun y hy => hn y (pm.mem_iff.mp hy)]
  rw [List.flatMap_def, List.flatMap_def]
  congr 1
  refine List.map_congr_left fun L _ => ?_
  have cp : (X.filter fun x => decide (x.length = L)).Pairwise fun a b => decide ((a.length : Int) ≤ b.length) = true := List.pairwise_iff_getElem.mpr fun i j hi hj _ => by
    have h1 := of_decide_eq_true (List.mem_filter.mp (List.getElem_mem hi)).2
    have h2 := of_decide_eq_true (List.mem_filter.mp (List.getElem_mem hj)).2
    simp only [decide_eq_true_eq]
    omega
  have sb := (List.sublist_mergeSort tr to cp List.filter_sublist).filter fun x => decide (x.length = L)
  rw [List.filter_filter] at sb
  simp only [Bool.and_self] at sb
  exact (sb.eq_of_length (pm.filter _).length_eq.symm).symm
def lexI (x : List Int) : List (List Int) → List (List Int)
  | [] => [x]
  | y :: ys => if x ≤ y then x :: y :: ys else y :: lexI x ys
def allS : Nat → List (List Int)
  | 0 => [[]]
  | i + 1 => allS i ++ (allS i).map fun r => r ++ [(i : Int)]
def lexS (k : Nat) : List (List Int) := (allS k).foldr lexI []
theorem allS_len : ∀ k : Nat, (allS k).length = 2 ^ k
  | 0 => rfl
  | k + 1 => by rw [allS, List.length_append, List.length_map, allS_len k, Nat.pow_succ]; omega
theorem allS_ok : ∀ {k : Nat} {r : List Int}, r ∈ allS k → r.length ≤ k
  | 0, r, h => by rw [List.mem_singleton.mp h]; exact Nat.le_refl _
  | k + 1, r, h => by
    rcases List.mem_append.mp h with h | h
    · have := allS_ok h
      omega
    · obtain ⟨q, hq, rfl⟩ := List.mem_map.mp h
      have := allS_ok hq
      simp
      omega
theorem allS_sort : ∀ k : Nat, k ≤ 5 → sortZ (allS k) = lexS k := by
  intro k hk
  rcases (show k = 0 ∨ k = 1 ∨ k = 2 ∨ k = 3 ∨ k = 4 ∨ k = 5 by omega) with h | h | h | h | h | h <;> subst h <;> exact sortZ_of (by decide +kernel) (by decide +kernel)
theorem ordS_eq : ∀ k : Nat, 1 ≤ k → k ≤ 5 → ((List.range 6).flatMap fun L => (lexS k).filter fun r => decide (r.length = L)) = [] :: (allP k).map zN := by
  intro k h1 hk
  rcases (show k = 1 ∨ k = 2 ∨ k = 3 ∨ k = 4 ∨ k = 5 by omega) with h | h | h | h | h <;> subst h <;> decide +kernel
theorem each_pairs {H : Hp} : ∀ {as : List Addr} {bs : List (List Int)}, EachZ H as bs → ∃ rows : List (Addr × List Int), rows.map (·.1) = as ∧ rows.map (·.2) = bs ∧ ∀ r ∈ rows, H r.1 = some (.lst (r.2.map V.int))
  | [], [], _ => ⟨[], rfl, rfl, fun r h => absurd h List.not_mem_nil⟩
  | a :: as, b :: bs, h => by
    obtain ⟨rows, e1, e2, e3⟩ := each_pairs h.2
    exact ⟨(a, b) :: rows, by rw [List.map_cons, e1], by rw [List.map_cons, e2], fun r hr => (List.mem_cons.mp hr).elim (fun e => by rw [e]; exact h.1) (e3 r)⟩
theorem pairs_rows {H : Hp} {p : Addr} : ∀ {rows : List (Addr × List Int)}, (∀ r ∈ rows, r.1 ≠ p ∧ H r.1 = some (.lst (r.2.map V.int))) → RowsZ p H (rows.map (·.1)) (rows.map (·.2))
  | [], _ => trivial
  | r :: rows, h => ⟨(h r List.mem_cons_self).1, (h r List.mem_cons_self).2, pairs_rows fun q hq => h q (List.mem_cons_of_mem _ hq)⟩
theorem RowsZ.each78 {p : Addr} {H : Hp} : ∀ {as : List Addr} {rs : List (List Int)}, RowsZ p H as rs → EachZ H as rs
  | [], [], _ => trivial
  | _ :: _, _ :: _, h => ⟨h.2.1, RowsZ.each78 h.2.2⟩
theorem lexS_len : ∀ k : Nat, k ≤ 5 → ∀ r ∈ lexS k, r.length < 6 := by
  intro k hk
  rcases (show k = 0 ∨ k = 1 ∨ k = 2 ∨ k = 3 ∨ k = 4 ∨ k = 5 by omega) with h | h | h | h | h | h <;> subst h <;> decide +kernel
theorem sort_len {rows : List (Addr × List Int)} : (rows.mergeSort ltLen).map (·.2) = (rows.map (·.2)).mergeSort fun a b => decide ((a.length : Int) ≤ b.length) :=
  List.map_mergeSort fun a _ b _ => congrFun (congrFun (PySem.W.dataLe_int fun r : Addr × List Int => (r.2.length : Int)) a) b
def spLists0 (Tb : Addr) : Sp := fun vs H Q _ => ∃ k : Nat, vs = [.int k] ∧ 1 ≤ k ∧ k ≤ 5 ∧ H = onlyH Tb none ∧
  ∀ p as G, NoT G → p ≠ Tb → (∀ a ∈ as, a ≠ Tb) → G p = some (.lst (as.map V.ref)) → RowsZ p G as ([] :: (allP k).map zN) → Q (.ref p) G
theorem ok_law_lists0 (T : Txt K mg Ad) {Tb : Addr} (tb : TabF K mg base Tb) : Def P w K mg base 1 "_law_lists" ["_law_many"] (spLists0 Tb) := by
  obtain ⟨c, hc, TB⟩ := tb
  refine T.d_law_lists.okT sc_law_lists hc (fun vs H Q E h => ?_) (fun f cdv hcode A outer s H vs Q E hr h => ?_)
  · obtain ⟨k, rfl, _⟩ := h
    rfl
  · obtain ⟨m, rfl, m1, m5, rfl, q⟩ := h
    have nt : NoT (onlyH Tb none) := no_tab none fun _ _ z => by cases z
    have hTb : onlyH Tb none Tb = some (.tbl #[]) := onlyH_T
    generalize onlyH Tb none = H at *
    refine ⟨_, (pss_cons (ps_set (i := 1) sc_law_lists.nd rfl (Or.inl rfl) (pe_lst (pa_cons (pe_lst pa_nil) pa_nil)))
      (pss_cons (ps_for (passes_of rfl) rfl (pi_range1 (by rfl) T.b_range (pa_cons (pv 0) pa_nil)) (pg_name (i := 2) sc_law_lists.nd rfl (Or.inr rfl)) (pss_one (ps_set (i := 1) sc_law_lists.nd rfl (Or.inl rfl) (pe_op op_cat (pv 1) (pe_lc (own := [("_law_row", 3)])  (te := (tOp rCat (tVar 3) (tLst (tCons (tVar 2) tNil)))) rfl sc_law_lists.nd  (pi_list (pv 1)) (blkOk_by (own := [("_law_row", 3)]) (N := ["_law_many", "_law_rows", "_law_at", "_law_row"]) (sc := defScope s_law_lists) (by decide +kernel)) (fun _ _ _ _ _ => (pg_name (i := 3) sc_law_lists.nd rfl (Or.inl rfl))) (fun _ _ _ _ _ => pts_nil) (fun _ _ _ _ _ => (pe_op op_cat (pv 3) (pe_lst (pa_cons (pv 2) pa_nil)))))))))
      (pss_one (ps_ret (pe_sortLen (k := 0) (x := "_law_row") (pa_cons (pe_callB (cr_sortedZ (room65 hr)) (by rfl) T.b_sorted (by decide +kernel) (pa_cons (pv 1) pa_nil)) pa_nil) (hr.mono (by decide)) (by rfl) T.b_sorted (by decide +kernel) T.b_len TB (by exact hcode) (by rfl) (by decide) (by rfl) (by rfl) (by rfl) (by rfl) (by decide) (by rfl) (by rfl) (by rfl) (fun _ _ _ _ _ => by rfl)))))), ?_⟩
    try dsimp only [cxOf]
    have B := Hv.start nt
    wtm_at "rs"
    rename_i E0 hE0 L hL
    have EL : E0 ≠ L := fun z => by rw [← z, upd_same] at hL; cases hL
    replace B := B.next ((same_new (o := .lst []) hE0).trans (same_new (o := .lst [.ref E0]) hL)) (NoT.upd (NoT.upd nt rfl) rfl)
    have rz : RowsZ L (upd (upd H E0 (.lst [])) L (.lst [.ref E0])) [E0] (allS 0) := ⟨EL, by rw [upd_ne EL]; exact (upd_same : upd H E0 (.lst (([] : List Int).map V.int)) E0 = _), trivial⟩
    have hl : upd (upd H E0 (.lst [])) L (.lst [.ref E0]) L = some (.lst ([E0].map V.ref)) := upd_same
    have fE : ∀ a ∈ [E0], H a = none := fun a ha => by rw [List.mem_singleton.mp ha]; exact hE0
    clear hE0 hL EL
    revert rz hl
    refine B.gen fun G B rz hl => ?_
    rw [show ((m : Int)).toNat = m by omega]
    refine rd_forR (fun i σ G => ∃ (L : Addr) (as : List Addr) (v2 v3 : Option V), σ = [some (.int m), some (.ref L), v2, v3] ∧ Hv noX H [] [] [] G ∧ G L = some (.lst (as.map V.ref)) ∧ RowsZ L G as (allS i) ∧ ∀ a ∈ as, H a = none) ⟨L, [E0], _, _, rfl, B, hl, rz, fE⟩ ?_ ?_
    · clear B rz hl fE
      rintro i σ G i5 ⟨L, as, v2, v3, rfl, B, hl, rz, fa⟩
      have al := rz.len
      have rl : (allS i).length = 2 ^ i := allS_len i
      have p2 : 2 ^ i ≤ 2 ^ 4 := Nat.pow_le_pow_right (by decide) (by omega)
      have B0 := B
      wtm_at "rs"
      refine rd_lcPH (xs := as.map V.ref) (fun D j ys H' => ∃ bs : List Addr, ys = bs.map V.ref ∧ RowsZ D H' bs (((allS i).take j).map fun r => r ++ [(i : Int)]) ∧ bs.length = j ∧ ∀ a ∈ bs, G a = none) (SqL.of hl) B.nt (fun D hD => ⟨[], rfl, trivial, rfl, fun a ha => absurd ha List.not_mem_nil⟩) (fun D j ys x H' hx sm n1 hD hys Pz => ?_) fun D1 ys H' hD hys sm n1 Pz => ?_
      · obtain ⟨bs, rfl, rb, bl, fb⟩ := Pz
        obtain ⟨a0, r, rfl, _, hr0, _, h0⟩ := rz.at hx
        have j5 := (List.getElem?_eq_some_iff.mp hx).1
        rw [List.length_map] at j5
        have h1 := sm _ _ h0
        have rlen := (allS_ok (List.mem_of_getElem? hr0))
        have bl2 : (bs.map V.ref).length < sizeLine := by rw [List.length_map]; exact Nat.lt_of_lt_of_le (show bs.length < 100 by omega) (by decide)
        wtm_at "r"
        refine ⟨rfl, ?_⟩
        wtm_at "rs"
        rename_i X hX
        rw [Int.zero_add] at *
        refine rd_cat (same_new hX _ _ h1) upd_same (Nat.le_trans (show _ ≤ 100 by simp; omega) (by decide)) fun Y hY => ?_
        have s4 := (same_new (o := .lst [.int (i : Int)]) hX).trans (same_new (o := .lst (r.map V.int ++ [.int (i : Int)])) hY)
        have XD : Y ≠ D := fun e => by
          have := (same_new (o := .lst [.int (i : Int)]) hX) _ _ hys
          rw [← e, hY] at this
          cases this
        refine put_PH (P := fun ys H' => ∃ bs : List Addr, ys = bs.map V.ref ∧ RowsZ D H' bs (((allS i).take (j + 1)).map fun r => r ++ [(i : Int)]) ∧ bs.length = j + 1 ∧ ∀ a ∈ bs, G a = none) (s4 _ _ hys) bl2 (sm.trans s4) hD (NoT.upd (NoT.upd n1 rfl) rfl) ⟨bs ++ [Y], by simp, ?_, by rw [List.length_append, List.length_singleton]; omega, fun a ha => ?_⟩
        · rw [List.take_add_one, hr0, List.map_append]
          refine RowsZ.snoc ((rb.but (But.of s4)).but (But.put But.refl)) XD ?_
          rw [upd_ne XD, upd_same]
          simp
        · rcases List.mem_append.mp ha with h | h
          · exact fb a h
          · rw [List.mem_singleton.mp h]
            exact (sm.trans (same_new (o := .lst [.int (i : Int)]) hX)).free hY
      obtain ⟨b1, rfl, r1, bl1, f1⟩ := Pz
      rw [List.length_map, al, List.take_length] at r1
      replace B := B.next sm n1
      have hl := sm _ _ hl
      have rz := rz.mono sm
      wtm_at "rs"
      refine rd_cat hl hys (Nat.le_trans (show _ ≤ 100 by rw [List.length_map, List.length_map]; have := r1.len; have := rz.len; rw [List.length_map] at *; omega) (by decide)) fun L2 hL2 => ?_
      rw [← List.map_append]
      have sL := same_new (o := .lst ((as ++ b1).map V.ref)) hL2
      wtm_at "rs"
      refine ⟨L2, as ++ b1, _, _, rfl, B.next sL (NoT.upd B.nt rfl), upd_same, ((rz.free hL2).mono sL).app ((r1.free hL2).mono sL), fun a ha => ?_⟩
      rcases List.mem_append.mp ha with h | h
      · exact fa a h
      · exact B0.free (f1 a h)
    · clear B rz hl fE
      rintro σ G ⟨L, as, v2, v3, rfl, B, hl, rz, fa⟩
      wtm_at "rs"
      refine rd_sortZ (SqL.of hl) rz.each78 (fun b hb => by have := allS_ok hb; omega) fun as' p ez hm hp => ?_
      rw [allS_sort m m5] at ez
      have sp := same_new (o := .lst (as'.map V.ref)) hp
      have fa' : ∀ a ∈ as', H a = none := fun a ha => fa a (hm a ha)
      obtain ⟨rows, er1, er2, er3⟩ := each_pairs ez
      have hp2 : upd G p (.lst (as'.map V.ref)) p = some (.lst (rows.map fun r => V.ref r.1)) := by
        rw [upd_same, ← er1, List.map_map]
        rfl
      have hT2 : upd G p (.lst (as'.map V.ref)) Tb = some (.tbl #[]) := sp _ _ (B.same _ _ hTb)
      have nt2 : NoT (upd G p (.lst (as'.map V.ref))) := NoT.upd B.nt rfl
      have er3' : ∀ r ∈ rows, upd G p (.lst (as'.map V.ref)) r.1 = some (.lst (r.2.map V.int)) := fun r hr => sp _ _ (er3 r hr)
      wtm_at "rs"
      refine ⟨p, rows, rfl, SqL.of hp2, er3', nt2, hT2, fun p2 G2 np nn n2 keep => ?_⟩
      have ne : ∀ r ∈ rows, r.1 ≠ p2 := fun r hr z => by
        have h := er3' r hr
        rw [z] at h
        obtain ⟨_, e⟩ := nn _ h
        cases e
      have mem : ∀ r ∈ rows.mergeSort ltLen, r ∈ rows := fun r hr => (List.mergeSort_perm rows ltLen).mem_iff.mp hr
      have rs := pairs_rows (H := upd G2 p2 (.lst (((rows.mergeSort ltLen).map (·.1)).map V.ref))) (p := p2) (rows := rows.mergeSort ltLen) fun r hr => ⟨ne r (mem r hr), by
        rw [upd_ne (ne r (mem r hr))]
        exact keep _ _ (er3' r (mem r hr)) fun q z => by cases z⟩
      rw [sort_len, er2, stable_len (lexS_len m m5), ordS_eq m m1 m5] at rs
      have e3 : ((rows.mergeSort ltLen).map fun r => V.ref r.1) = ((rows.mergeSort ltLen).map (·.1)).map V.ref := by rw [List.map_map]; rfl
      rw [e3]
      refine q p2 _ _ (NoT.upd n2 rfl) np (fun a ha z => ?_) upd_same rs
      obtain ⟨r, hr, rfl⟩ := List.mem_map.mp ha
      have h := er3' r (mem r hr)
      rw [z, hT2] at h
      cases h
/-- the lists of places, by length and order -/
def spLists (Tb : Addr) : Sp := fun vs H Q _ => ∃ k : Nat, vs = [.int k] ∧ 1 ≤ k ∧ k ≤ 5 ∧ NoT H ∧ H Tb = some (.tbl #[]) ∧
  ∀ p as G, NoT G → (∀ b o, b ≠ Tb → H b = some o → G b = some o) → H p = none → (∀ a ∈ as, H a = none) → G p = some (.lst (as.map V.ref)) → RowsZ p G as ([] :: (allP k).map zN) → Q (.ref p) G
theorem RowsZ.look {p : Addr} {H G : Hp} : ∀ {as : List Addr} {rs : List (List Int)}, RowsZ p H as rs → (∀ a ∈ as, ∀ r : List Int, H a = some (.lst (r.map V.int)) → G a = some (.lst (r.map V.int))) → RowsZ p G as rs
  | [], [], _, _ => trivial
  | a :: _, r :: _, h, g => ⟨h.1, g a List.mem_cons_self r h.2.1, RowsZ.look h.2.2 fun b hb => g b (List.mem_cons_of_mem _ hb)⟩
theorem RowsZ.has {p : Addr} {H : Hp} : ∀ {as : List Addr} {rs : List (List Int)}, RowsZ p H as rs → ∀ a ∈ as, ∃ r : List Int, H a = some (.lst (r.map V.int))
  | _ :: _, r :: _, h, b, hb => by
    rcases List.mem_cons.mp hb with e | hb
    · rw [e]
      exact ⟨r, h.2.1⟩
    · exact RowsZ.has h.2.2 b hb
theorem ok_law_lists (T : Txt K mg Ad) {Tb : Addr} (tb : TabF K mg base Tb) : Def P w K mg base 1 "_law_lists" ["_law_many"] (spLists Tb) :=
  (Def.alone (T := Tb) (ok_law_lists0 (P := P) (w := w) T tb)).imp fun vs H Q E h => by
    obtain ⟨k, rfl, k1, k5, nt, hT, q⟩ := h
    refine ⟨hT, k, rfl, k1, k5, rfl, fun p as G n np na gp rz fr => ?_⟩
    have fp : H p = none := fr p _ gp np fun _ _ z => by cases z
    have fa : ∀ a ∈ as, H a = none := fun a ha => by
      obtain ⟨r, e⟩ := rz.has a ha
      exact fr a _ e (na a ha) fun _ _ z => by cases z
    have gl : ∀ {b o}, b ≠ Tb → H b = none → G b = some o → mergeH Tb H G b = some o := fun {b o} n h g => by
      rw [mergeH_none n h, g]
    refine q p as _ (fun b o h => ?_) (fun b o n h => mergeH_some n h) fp fa (gl np fp gp) (rz.look fun a ha r e => gl (na a ha) (fa a ha) e)
    by_cases z : b = Tb
    · rw [z, mergeH_T] at h
      exact n _ _ h
    · cases hb : H b with
      | some o' =>
        rw [mergeH_some z hb] at h
        cases h
        exact nt b _ hb
      | none =>
        rw [mergeH_none z hb] at h
        exact n _ _ h
/-! ### _law_square -/
noncomputable instance {n : Int} : Decidable (IsSqr n) := Classical.propDecidable _
theorem sq_lt78 {a b : Int} (ha : 0 ≤ a) (h : a < b) : a * a < b * b := by
  have h1 : a * a ≤ a * b := Int.mul_le_mul_of_nonneg_left (by omega) ha
  have h2 : a * b < b * b := Int.mul_lt_mul_of_pos_right h (by omega)
  omega
theorem sqr_low {n lo : Int} (l0 : 0 ≤ lo) (h1 : lo * lo ≤ n) (h2 : n < (lo + 1) * (lo + 1)) : IsSqr n ↔ lo * lo = n := by
  constructor
  · rintro ⟨r, hr⟩
    have hr2 : (r.natAbs : Int) * r.natAbs = n := by rw [hr, ← Int.natCast_mul, Int.natAbs_mul_self]
    by_cases a : (r.natAbs : Int) < lo
    · have := sq_lt78 (Int.natCast_nonneg _) a
      omega
    · by_cases b : lo < (r.natAbs : Int)
      · have : (lo + 1) * (lo + 1) ≤ (r.natAbs : Int) * r.natAbs := Int.mul_le_mul (by omega) (by omega) (by omega) (by omega)
        omega
      · have e : (r.natAbs : Int) = lo := by omega
        rw [e] at hr2
        exact hr2
  · intro e
    exact ⟨lo, e.symm⟩
def spSq78 : Sp := fun vs H Q _ => ∃ n : Int, vs = [.int n] ∧ n < 2 ^ 60 ∧ Q (.bl (decide (IsSqr n))) H
theorem use_Sq78 {n : Int} {H : Hp} {Q : VK} {E : XK} (h : n < 2 ^ 60) (q : Q (.bl (decide (IsSqr n))) H) : spSq78 [.int n] H Q E := ⟨n, rfl, h, q⟩
theorem ok_law_square (T : Txt K mg Ad) : Def P w K mg base 1 "_law_square" ["_law_n"] spSq78 := by
  refine T.d_law_square.ok sc_law_square (fun vs H Q E h => ?_) (fun f cdv A outer s H vs Q E hr h => ?_)
  · obtain ⟨n, rfl, _⟩ := h
    rfl
  · obtain ⟨n, rfl, hn, q⟩ := h
    refine ⟨_, (pss_cons (ps_if (pt_cmpR op_lt (pv 0) pe_int (nomark _)) (pss_one (ps_ret pe_bl)) pss_nil)
      (pss_cons (ps_set (i := 1) sc_law_square.nd rfl (Or.inl rfl) pe_int)
      (pss_cons (ps_set (i := 2) sc_law_square.nd rfl (Or.inl rfl) (pe_op op_add (pv 0) pe_int))
      (pss_cons (ps_while (passes_of rfl) (pt_cmpR op_gt (pe_op op_sub (pv 2) (pv 1)) pe_int (nomark _)) (pss_cons (ps_set (i := 3) sc_law_square.nd rfl (Or.inl rfl) (pe_op op_fdivB (pe_op op_add (pv 1) (pv 2)) pe_int))
      (pss_one (ps_if (pt_cmpR op_le (pe_op op_mulB (pv 3) (pv 3)) (pv 0) (nomark _)) (pss_one (ps_set (i := 1) sc_law_square.nd rfl (Or.inl rfl) (pv 3))) (pss_one (ps_set (i := 2) sc_law_square.nd rfl (Or.inl rfl) (pv 3)))))))
      (pss_one (ps_ret (pe_cmpR op_eq (pe_op op_mulB (pv 1) (pv 1)) (pv 0) (nomark _)))))))), ?_⟩
    try dsimp only [cxOf]
    wtm_at "rs"
    by_cases n0 : n < 0
    · rw [if_pos (decide_eq_true n0)]
      wtm_at "rs"
      rw [decide_eq_false (fun ⟨r, e⟩ => by
        have : (r.natAbs : Int) * r.natAbs = r * r := by rw [← Int.natCast_mul, Int.natAbs_mul_self]
        have : 0 ≤ (r.natAbs : Int) * r.natAbs := Int.mul_nonneg (by omega) (by omega)
        omega)] at q
      exact q
    · rw [if_neg (by rw [decide_eq_true_iff]; exact n0)]
      wtm_at "rs"
      refine rd_while (fun μ σ H' => ∃ lo hi : Int, ∃ v3, μ = (hi - lo).toNat ∧ σ = [some (.int n), some (.int lo), some (.int hi), v3] ∧ H = H' ∧ 0 ≤ lo ∧ lo < hi ∧ hi ≤ n + 1 ∧ lo * lo ≤ n ∧ n < hi * hi) (n + 1).toNat ⟨0, n + 1, _, by omega, rfl, rfl, by omega, by omega, by omega, by omega, ?_⟩ ?_
      · have := sq_lt78 (a := 0) (b := n + 1) (by omega) (by omega)
        have : (n + 1) * 1 ≤ (n + 1) * (n + 1) := Int.mul_le_mul_of_nonneg_left (by omega) (by omega)
        omega
      rintro μ σ H' ⟨lo, hi, v3, rfl, rfl, rfl, h1, h2, h3, h4, h5⟩
      have bl : Bd 61 lo := Bd.of (by omega) (by omega)
      have bm : Bd 61 ((lo + hi) / 2) := Bd.of (by omega) (by omega)
      wtm_at "rs"
      by_cases c : 1 < hi - lo
      · rw [if_pos (decide_eq_true c)]
        wtm_at "rs"
        by_cases d : (lo + hi) / 2 * ((lo + hi) / 2) ≤ n
        · rw [if_pos (decide_eq_true d)]
          wtm_at "rs"
          exact ⟨_, by omega, _, hi, _, rfl, rfl, rfl, by omega, by omega, h3, d, h5⟩
        · rw [if_neg (by rw [decide_eq_true_iff]; exact d)]
          wtm_at "rs"
          exact ⟨_, by omega, lo, _, _, rfl, rfl, rfl, h1, by omega, by omega, h4, by omega⟩
      · rw [if_neg (by rw [decide_eq_true_iff]; exact c)]
        wtm_at "rs"
        have e : hi = lo + 1 := by omega
        subst e
        rw [decide_eq_decide.mpr (sqr_low h1 h4 h5)] at q
        exact q
/-! ### _law_shows -/
def spShowL (K : PySem.W.Frag) : Sp := fun vs H Q _ => ∃ (a b c : Addr) (ns σ ps : List Int), vs = [.ref a, .ref b, .ref c] ∧ SqL K H a (ns.map V.int) ∧ SqL K H b (σ.map V.int) ∧ SqL K H c (ps.map V.int) ∧ Nums ns ∧ σ.length = ns.length ∧ Pm1 σ ∧ ps.length ≤ 8 ∧ (∀ i ∈ ps, -100 ≤ i ∧ i ≤ 100) ∧ NoT H ∧ ∀ G, Same H G → NoT G → Q (.bl (decide (ShI ns σ ps))) G
theorem pm_prod {σ : List Int} (h : Pm1 σ) : ∀ P : List Nat, (∀ i ∈ P, i < σ.length) → prodN P σ = 1 ∨ prodN P σ = -1 := fun P => by
  have go : ∀ (P : List Nat) (a : Int), (a = 1 ∨ a = -1) → (∀ i ∈ P, i < σ.length) → ((P.map fun i => σ.getD i 1).foldl (· * ·) a = 1 ∨ (P.map fun i => σ.getD i 1).foldl (· * ·) a = -1) := fun P => by
    induction P with
    | nil => exact fun a h _ => h
    | cons i P ih =>
      intro a ha hP
      refine ih _ ?_ fun j hj => hP j (List.mem_cons_of_mem _ hj)
      have := getD_of (P := fun x => x = 1 ∨ x = -1) h (hP i List.mem_cons_self)
      show a * σ.getD i 1 = 1 ∨ a * σ.getD i 1 = -1
      rcases ha with rfl | rfl <;> rcases this with e | e <;> rw [e] <;> decide
  exact go P 1 (.inl rfl)
theorem ok_law_shows (T : Txt K mg Ad) : Def P w K mg base 2 "_law_shows" ["_law_numbers", "_law_signs", "_law_places"] (spShowL K) := by
  refine T.d_law_shows.ok sc_law_shows (fun vs H Q E h => ?_) (fun f cdv A outer s H vs Q E hr h => ?_)
  · obtain ⟨a, b, c, ns, σ, ps, rfl, _⟩ := h
    rfl
  · obtain ⟨a, b, c, ns, sg, ps, rfl, ha, hb, hc, nm, sl, pm, p8, pb, nt, q⟩ := h
    refine ⟨_, (pss_cons (ps_if (PW.pt (pw_or (pt_cmpR (op_eqD hr.units) (pv 2) (pe_lst pa_nil) (nomark _)) (pw_or (pt_cmpR (op_neD hr.units) (pv 2) (pe_callB (cr_sortSetN rfl) (by rfl) T.b_sorted (by decide +kernel) (pa_cons (pe_callTy (cr_setOf rfl) (by rfl) T.b_set (by decide +kernel) (pa_cons (pv 2) pa_nil)) pa_nil)) (nomark _)) (pw_or (pt_cmpR op_lt (pe_ix ix_list (pv 2) pe_int (fun _ _ => rfl)) pe_int (nomark _)) (pw_or1 (pt_cmpR op_ge (pe_ix ix_list (pv 2) (pe_un un_neg pe_int) (fun _ _ => rfl)) (pe_callB c_len (by rfl) T.b_len PySem.boot_len (pa_cons (pv 0) pa_nil)) (nomark _))))))) (pss_one (ps_ret pe_bl)) pss_nil)
      (pss_cons (ps_set (i := 3) sc_law_shows.nd rfl (Or.inl rfl) pe_int)
      (pss_cons (ps_set (i := 4) sc_law_shows.nd rfl (Or.inl rfl) pe_int)
      (pss_cons (ps_for (passes_of rfl) rfl (pi_list (pv 2)) (pg_name (i := 5) sc_law_shows.nd rfl (Or.inl rfl)) (pss_cons (ps_set (i := 3) sc_law_shows.nd rfl (Or.inl rfl) (pe_op op_mulB (pv 3) (pe_ix ix_list (pv 0) (pv 5) (fun _ _ => rfl))))
      (pss_one (ps_set (i := 4) sc_law_shows.nd rfl (Or.inl rfl) (pe_op op_mulB (pv 4) (pe_ix ix_list (pv 1) (pv 5) (fun _ _ => rfl)))))))
      (pss_one (ps_ret (pe_and (pe_cmpR op_eq (pv 4) (pe_un un_neg pe_int) (nomark _)) (pe_one (pe_d (ok_law_square T) (hr.mono (by decide)) (passes_call (takes_of rfl rfl rfl rfl) (fun _ _ _ _ h => h)) (pa_cons (pv 3) pa_nil)))))))))), ?_⟩
    try dsimp only [cxOf]
    have B := Hv.start nt
    have no : ¬ ShI ns sg ps → ∀ G, Same H G → NoT G → Q (.bl false) G := fun z G s n => by
      have := q G s n
      rw [decide_eq_false z] at this
      exact this
    wtm_at "rs"
    rename_i L hL
    replace B := B.newL (o := .lst (([] : List Int).map V.int)) hL
    clear hL
    refine B.gen fun G B => ?_
    refine rd_eqInts (ns := ps) (ms := []) (B.same.seq hc) (SqL.of (B.lAt (a := L) (by wtm_at "mem"))) ?_
    refine ⟨_, rfl, ?_⟩
    by_cases p0 : ps = []
    · rw [if_pos (decide_eq_true p0)]
      wtm_at "rs"
      exact no (fun z => z.1 p0) _ B.same B.nt
    rw [if_neg (by rw [decide_eq_true_iff]; exact p0)]
    wtm_at "rs"
    refine rd_setOfL (B.same.seq hc) (by omega) fun D n hD => ?_
    replace B := B.next (same_new (o := SetO w D (inS ps) n) hD) (NoT.upd B.nt rfl)
    have hD2 : upd G D (SetO w D (inS ps) n) D = some (SetO w D (inS ps) n) := upd_same
    clear hD
    revert hD2
    refine B.gen fun G B hD2 => ?_
    wtm_at "rs"
    refine rd_sortSetN hD2 fun us p3 i3 e3 h3 => ?_
    replace B := B.newL (o := .lst (us.map V.int)) h3
    clear h3 hD2
    refine B.gen fun G B => ?_
    refine rd_neInts (ns := ps) (ms := us) (B.same.seq hc) (SqL.of (B.lAt (a := p3) (by wtm_at "mem"))) ?_
    refine ⟨_, rfl, ?_⟩
    by_cases pu : ps = us
    · rw [if_neg (by rw [Bool.not_eq_true, Bool.not_eq_false', decide_eq_true_iff]; exact pu)]
      subst pu
      obtain ⟨x, xs, rfl⟩ : ∃ x xs, ps = x :: xs := by
        cases ps with
        | nil => exact absurd rfl p0
        | cons x xs => exact ⟨x, xs, rfl⟩
      obtain ⟨ys, y, ey⟩ := snoc_of (l := x :: xs) (by simp)
      have hx0 : atI ((x :: xs).map V.int) 0 = some (.int x) := show atI _ ((0 : Nat) : Int) = _ from atI_nat rfl
      have hy0 : atI ((x :: xs).map V.int) (-1) = some (.int y) := by rw [ey, List.map_append]; exact atI_last _ _
      have xm : x ∈ x :: xs := by simp
      have ym : y ∈ x :: xs := by rw [ey]; simp
      have lx : ∀ i ∈ x :: xs, x ≤ i := fun i hi => by
        rcases List.mem_cons.mp hi with e | e
        · omega
        · exact Int.le_of_lt ((List.pairwise_cons.mp i3).1 i e)
      have ly : ∀ i ∈ x :: xs, i ≤ y := fun i hi => by
        rw [ey] at hi i3
        rcases List.mem_append.mp hi with e | e
        · exact Int.le_of_lt ((List.pairwise_append.mp i3).2.2 i e y (by simp))
        · rw [List.mem_singleton.mp e]; exact Int.le_refl _
      clear ey e3
      generalize x :: xs = ps at *
      wtm_at "rs"
      refine rd_ixL (B.same.seq hc) hx0 ?_
      wtm_at "rs"
      by_cases x0 : x < 0
      · rw [if_pos (decide_eq_true x0)]
        wtm_at "rs"
        exact no (fun z => by have := z.2.2.1 x xm; omega) _ B.same B.nt
      rw [if_neg (by rw [decide_eq_true_iff]; exact x0)]
      wtm_at "rs"
      refine rd_ixL (B.same.seq hc) hy0 ?_
      wtm_at "rs"
      have aL := B.same.seq ha
      wtm_at "rs"
      rw [List.length_map]
      by_cases yl : (ns.length : Int) ≤ y
      · rw [if_pos (decide_eq_true yl)]
        wtm_at "rs"
        exact no (fun z => by have := z.2.2.1 y ym; omega) _ B.same B.nt
      rw [if_neg (by rw [decide_eq_true_iff]; exact yl)]
      have rg : ∀ i ∈ ps, 0 ≤ i ∧ i < ns.length := fun i hi => by have := lx i hi; have := ly i hi; omega
      replace B := B.sub (L' := []) (by wtm_at "vsub") (by wtm_at "vsub")
      wtm_at "rs"
      refine rd_forL (xs := ps.map V.int) (fun i σ G => ∃ v5 : Option V, σ = [some (.ref a), some (.ref b), some (.ref c), some (.int (prodN ((ps.take i).map Int.toNat) ns)), some (.int (prodN ((ps.take i).map Int.toNat) sg)), v5] ∧ Hv noX H [] [] [] G) ⟨_, rfl, B⟩ (fun i σ G _ ⟨_, _, B⟩ => B.same.seq hc) ?_ ?_
      · clear B aL
        rintro i v σ G hi ⟨v5, rfl, B⟩
        rw [List.getElem?_map] at hi
        obtain ⟨x, hx, rfl⟩ := Option.map_eq_some_iff.mp hi
        have xr := rg x (List.mem_of_getElem? hx)
        have i8 := (List.getElem?_eq_some_iff.mp hx).1
        have xn : x.toNat < ns.length := by omega
        have nl := getD_of (P := fun x => x.natAbs ≤ 100) nm.le xn
        have p2 := prodN_le nm.le ((ps.take i).map Int.toNat)
        have p3 : 100 ^ ((ps.take i).map Int.toNat).length ≤ 100 ^ 7 := Nat.pow_le_pow_right (by decide) (by rw [List.length_map, List.length_take]; omega)
        have tk : ps.take (i + 1) = ps.take i ++ [x] := by rw [List.take_add_one, hx]; rfl
        have et : ∀ l : List Int, prodN ((ps.take (i + 1)).map Int.toNat) l = prodN ((ps.take i).map Int.toNat) l * l.getD x.toNat 1 := fun l => by
          rw [tk, List.map_append]
          exact prodN_snoc
        have pm1 := pm_prod pm ((ps.take i).map Int.toNat) fun j hj => by
          obtain ⟨k, hk, rfl⟩ := List.mem_map.mp hj
          have := rg k (List.mem_of_mem_take hk)
          omega
        have hz := atI_D xr.1 (xs := ns) (by omega)
        have hw := atI_D xr.1 (xs := sg) (by rw [sl]; omega)
        have sp := getD_of (P := fun x => x = 1 ∨ x = -1) pm (show x.toNat < sg.length by omega)
        rw [et ns, et sg]
        generalize ns.getD x.toNat 1 = z at *
        generalize sg.getD x.toNat 1 = y2 at *
        generalize prodN ((ps.take i).map Int.toNat) ns = pz at *
        generalize prodN ((ps.take i).map Int.toNat) sg = py at *
        have bp : Bd 60 pz := Bd.of (by omega) (by omega)
        have bz : Bd 60 z := Bd.of (by omega) (by omega)
        have bq : Bd 60 py := Bd.of (by omega) (by omega)
        have bw : Bd 60 y2 := Bd.of (by omega) (by omega)
        wtm_at "rs"
        refine rd_ixL (B.same.seq ha) hz ?_
        wtm_at "rs"
        refine rd_ixL (B.same.seq hb) hw ?_
        wtm_at "rs"
        exact ⟨_, rfl, B⟩
      · clear B aL
        rintro σ G ⟨v5, rfl, B⟩
        rw [show (ps.map V.int).length = ps.length by simp, List.take_length]
        have p2 := prodN_le nm.le (ps.map Int.toNat)
        have p3 : 100 ^ (ps.map Int.toNat).length ≤ 100 ^ 8 := Nat.pow_le_pow_right (by decide) (by rw [List.length_map]; omega)
        wtm_at "rs"
        by_cases pr : prodN (ps.map Int.toNat) sg = -1
        · rw [if_pos (decide_eq_true pr)]
          wtm_at "rs"
          refine use_Sq78 (by omega) ?_
          have := q G B.same B.nt
          rw [decide_eq_decide.mpr (show ShI ns sg ps ↔ IsSqr (prodN (ps.map Int.toNat) ns) from ⟨fun z => z.2.2.2.2, fun z => ⟨p0, i3, rg, pr, z⟩⟩)] at this
          exact this
        · rw [if_neg (by rw [decide_eq_true_iff]; exact pr)]
          wtm_at "rs"
          exact no (fun z => pr z.2.2.2.1) _ B.same B.nt
    · rw [if_pos (by rw [Bool.not_eq_true', decide_eq_false_iff_not]; exact pu)]
      wtm_at "rs"
      refine no (fun z => pu ?_) _ B.same B.nt
      exact inc_same z.2.1 i3 fun k => (e3 k).symm
/-! ### conductor -/
def spCond0 : Sp := fun vs H Q _ => ∃ n : Int, vs = [.int n] ∧ NoT H ∧ n ≠ 0 ∧ -(2 ^ 60) < n ∧ n < 2 ^ 60 ∧ ∀ s r, CoreOk n s r → ∀ H', Same H H' → Q (.int (cond s)) H'
def spCond : Sp := fun vs H Q _ => ∃ n s r : Int, vs = [.int n] ∧ NoT H ∧ n ≠ 0 ∧ -(2 ^ 60) < n ∧ n < 2 ^ 60 ∧ CoreOk n s r ∧ Q (.int (cond s)) H
theorem use_cond {n s r : Int} {H : Hp} {Q : VK} {E : XK} (nt : NoT H) (h0 : n ≠ 0) (h1 : -(2 ^ 60) < n) (h2 : n < 2 ^ 60) (c : CoreOk n s r) (q : Q (.int (cond s)) H) : spCond [.int n] H Q E := ⟨n, s, r, rfl, nt, h0, h1, h2, c, q⟩
theorem abs_nat (s : Int) : (if s < 0 then -s else s) = (s.natAbs : Int) := by split <;> omega
theorem ok_conductor0 (T : Txt K mg Ad) : Def P w K mg base 3 "conductor" ["n"] spCond0 := by
  refine T.d_conductor.ok sc_conductor (fun vs H Q E h => ?_) (fun f cdv A outer s H vs Q E hr h => ?_)
  · obtain ⟨n, rfl, _⟩ := h
    rfl
  · obtain ⟨n, rfl, nt, h0, h1, h2, q⟩ := h
    refine ⟨_, (pss_cons (ps_set (i := 1) sc_conductor.nd rfl (Or.inl rfl) (pe_ix ix_tup (pe_d (ok_core T) (hr.mono (by decide)) (passes_call (takes_of rfl rfl rfl rfl) (fun _ _ _ _ h => h)) (pa_cons (pv 0) pa_nil)) pe_int (fun _ _ => rfl)))
      (pss_cons (ps_if (pt_cmpR op_eq (pe_op op_mod (pv 1) pe_int) pe_int (nomark _)) (pss_one (ps_ret (pe_callB c_abs (by rfl) T.b_abs (by decide +kernel) (pa_cons (pv 1) pa_nil)))) pss_nil)
      (pss_one (ps_ret (pe_op op_mulB pe_int (pe_callB c_abs (by rfl) T.b_abs (by decide +kernel) (pa_cons (pv 1) pa_nil))))))), ?_⟩
    try dsimp only [cxOf]
    wtm_at "rs"
    refine ⟨n, rfl, nt, h0, h1, h2, fun s r c H' t sm n' ft ht => ?_⟩
    have bd := c.bound h0 (B := 2 ^ 60) (by omega) (by omega)
    have q := q s r c
    unfold cond at q
    wtm_at "rs"
    by_cases e : s % 4 = 1
    · rw [if_pos (decide_eq_true e)]
      rw [if_pos e, ← abs_nat] at q
      wtm_at "rs"
      exact q _ sm
    · rw [if_neg (by rw [decide_eq_true_iff]; exact e)]
      rw [if_neg e, ← abs_nat] at q
      wtm_at "rs"
      exact q _ sm
theorem ok_conductor (T : Txt K mg Ad) : Def P w K mg base 3 "conductor" ["n"] spCond :=
  (ok_conductor0 T).forget.imp fun vs H Q E ⟨n, s, r, e, nt, h0, h1, h2, c, k⟩ => ⟨nt, n, e, nt, h0, h1, h2, fun s' r' c' H' sm => ⟨sm, by rw [(c'.uniq c).1]; exact k⟩⟩
/-! ### checked_modulus_signs -/
def spCheckedModulus (C : Addr) : Sp := fun vs H Q E => ∃ m : Int, vs = [.int m] ∧ (m < 1 ∨ m % 2 = 0 → ∀ d, H d = none → E (.ref C) (some d) (upd H d (.xd [("modulus", .int m)]))) ∧ (1 ≤ m → m % 2 = 1 → Q .non H)
theorem ok_checked_modulus_signs (T : Txt K mg Ad) : Def P w K mg base 3 "checked_modulus_signs" ["m"] (spCheckedModulus Ad.c_BadModulus) := by
  refine T.d_checked_modulus_signs.ok sc_checked_modulus_signs (fun vs H Q E h => ?_) (fun f cdv A outer s H vs Q E hr h => ?_)
  · obtain ⟨m, rfl, _⟩ := h
    rfl
  · obtain ⟨m, rfl, qe, qo⟩ := h
    refine ⟨_, (pss_one (ps_if (PW.pt (pw_or (pt_cmpR op_lt (pv 0) pe_int (nomark _)) (pw_or1 (pt_cmpR op_eq (pe_op op_mod (pv 0) pe_int) pe_int (nomark _))))) (pss_one (ps_raise rfl (takes_of rfl rfl rfl rfl) (pmk_err (T.err_BadModulus) (hr.mono (by decide)) (pa_cons (pv 0) pa_nil)))) pss_nil)), ?_⟩
    try dsimp only [cxOf]
    wtm_at "ra"
    · exact qe (by omega)
    · exact qe (by omega)
    · exact qo (by omega) (by omega)
/-! ### factor_of -/
def spFactorOf : Sp := fun vs H Q _ => ∃ (rule : Str) (n m : Int), vs = [.str rule, .int n, .int m] ∧ NoT H ∧ Q (.int (factorOf rule n m)) H
theorem ok_factor_of (T : Txt K mg Ad) : Def P w K mg base 1 "factor_of" ["rule", "n", "m"] spFactorOf := by
  refine T.d_factor_of.ok sc_factor_of (fun vs H Q E h => ?_) (fun f cdv A outer s H vs Q E hr h => ?_)
  · obtain ⟨rule, n, m, rfl, _⟩ := h
    rfl
  · obtain ⟨rule, n, m, rfl, nt, q⟩ := h
    refine ⟨_, (pss_cons (ps_if (PW.pt (pw_and (pt_cmpR op_eq (pv 0) pe_str (nomark _)) (pw_and1 (pt_pure (pt_cmpR op_in_seq (pe_op op_mod (pv 2) pe_int) (pe_tup (pa_cons pe_int (pa_cons pe_int pa_nil))) (by rfl)))))) (pss_one (ps_ret (pe_un un_neg pe_int))) pss_nil)
      (pss_cons (ps_if (PW.pt (pw_and (pt_cmpR op_eq (pv 0) pe_str (nomark _)) (pw_and1 (pt_cmpR op_eq (pe_op op_mod (pv 2) pe_int) pe_int (nomark _))))) (pss_one (ps_ret (pe_un un_neg pe_int))) pss_nil)
      (pss_cons (ps_if (PW.pt (pw_and (pt_cmpR op_eq (pv 0) pe_str (nomark _)) (pw_and (pt_cmpR op_eq (pe_op op_mod (pv 1) pe_int) pe_int (nomark _)) (pw_and1 (pt_cmpR op_eq (pe_op op_mod (pv 2) pe_int) pe_int (nomark _)))))) (pss_one (ps_ret (pe_un un_neg pe_int))) pss_nil)
      (pss_one (ps_ret pe_int))))), ?_⟩
    try dsimp only [cxOf]
    wtm_at "ra"
    all_goals (refine Eq.mp (congrArg (fun z => Q (V.int z) H) ?_) q; first | (simp [factorOf, *]; done) | (subst_vars; simp [factorOf, str_ne1, str_ne2, str_ne3, str_ne4, *]))
theorem use_factor_of {rule : Str} {n m : Int} {H : Hp} {Q : VK} {E : XK} (nt : NoT H) (q : ∀ z : Int, z = factorOf rule n m → z = 1 ∨ z = -1 → Q (.int z) H) : spFactorOf [.str rule, .int n, .int m] H Q E :=
  ⟨rule, n, m, rfl, nt, q _ rfl (factorOf_pm rule n m)⟩
local macro_rules | `(tactic| wtm_at "s") => `(tactic| ((with_reducible refine use_factor_of (by wtm_at "nt") ?_); intro z hz hpm))
/-! ### sign -/
def spSign (C : Addr) : Sp := fun vs H Q E => ∃ (n m : Int), vs = [.int n, .int m] ∧ NoT H ∧ (m < 1 ∨ m % 2 = 0 → ∀ d, H d = none → E (.ref C) (some d) (upd H d (.xd [("modulus", .int m)]))) ∧ (1 ≤ m → m % 2 = 1 → Q (.int (sgn n m)) H)
theorem ok_sign (T : Txt K mg Ad) : Def P w K mg base 4 "sign" ["n", "m"] (spSign Ad.c_BadModulus) := by
  refine T.d_sign.ok sc_sign (fun vs H Q E h => ?_) (fun f cdv A outer s H vs Q E hr h => ?_)
  · obtain ⟨n, m, rfl, _⟩ := h
    rfl
  · obtain ⟨n, m, rfl, nt, qe, qo⟩ := h
    refine ⟨_, (pss_cons (ps_expr (pe_d (ok_checked_modulus_signs T) (hr.mono (by decide)) (passes_call (takes_of rfl rfl rfl rfl) (fun _ _ _ _ h => h)) (pa_cons (pv 1) pa_nil)))
      (pss_cons (ps_set (i := 2) sc_sign.nd rfl (Or.inl rfl) pe_int)
      (pss_cons (ps_set (i := 0) sc_sign.nd rfl (Or.inl rfl) (pe_op op_mod (pv 0) (pv 1)))
      (pss_cons (ps_while (passes_of rfl) (pt_cmpR op_ne (pv 0) pe_int (nomark _)) (pss_cons (ps_while (passes_of rfl) (pt_cmpR op_eq (pe_op op_mod (pv 0) pe_int) pe_int (nomark _)) (pss_cons (ps_set (i := 0) sc_sign.nd rfl (Or.inl rfl) (pe_op op_fdivB (pv 0) pe_int))
      (pss_one (ps_set (i := 2) sc_sign.nd rfl (Or.inl rfl) (pe_op op_mulB (pv 2) (pe_d (ok_factor_of T) (hr.mono (by decide)) (passes_call (takes_of rfl rfl rfl rfl) (fun _ _ _ _ h => h)) (pa_cons pe_str (pa_cons (pv 0) (pa_cons (pv 1) pa_nil)))))))))
      (pss_cons (ps_set (i := 2) sc_sign.nd rfl (Or.inl rfl) (pe_op op_mulB (pv 2) (pe_d (ok_factor_of T) (hr.mono (by decide)) (passes_call (takes_of rfl rfl rfl rfl) (fun _ _ _ _ h => h)) (pa_cons pe_str (pa_cons (pv 0) (pa_cons (pv 1) pa_nil))))))
      (pss_one (ps_par (i := 0) (j := 1) rfl sc_sign.nd rfl rfl (by decide) rfl rfl (pa_cons (pe_op op_mod (pv 1) (pv 0)) (pa_cons (pv 0) pa_nil)) (by rfl))))))
      (pss_cons (ps_if (pt_cmpR op_eq (pv 1) pe_int (nomark _)) (pss_one (ps_ret (pv 2))) pss_nil)
      (pss_one (ps_ret pe_int))))))), ?_⟩
    try dsimp only [cxOf]
    wtm_at "rs"
    refine ⟨m, rfl, qe, fun h1 h2 => ?_⟩
    wtm_at "rs"
    refine rd_while (fun μ σ H' => ∃ (r a b : Int), μ = a.toNat ∧ σ = [some (.int a), some (.int b), some (.int r)] ∧ H = H' ∧ 0 ≤ a ∧ 0 < b ∧ b % 2 = 1 ∧ r * jac a.toNat b.toNat = sgn n m) (n % m).toNat
      ⟨1, n % m, m, rfl, rfl, rfl, Int.emod_nonneg _ (by omega), by omega, h2, by rw [Int.one_mul]; rfl⟩ ?_
    rintro μ σ H' ⟨r, a, b, rfl, rfl, rfl, ha, hb, hb2, inv⟩
    wtm_at "rs"
    wtm_at "i"
    · wtm_at "rs"
      refine rd_while (fun μ σ H' => ∃ (r a' : Int), μ = a'.toNat ∧ σ = [some (.int a'), some (.int b), some (.int r)] ∧ H = H' ∧ 0 < a' ∧ a' ≤ a ∧ r * jac a'.toNat b.toNat = sgn n m) a.toNat
        ⟨r, a, rfl, rfl, rfl, by omega, by omega, inv⟩ ?_
      rintro μ σ H' ⟨r, a', rfl, rfl, rfl, ha', hle, inv⟩
      wtm_at "rs"
      wtm_at "i"
      · wtm_at "rs"
        rename_i h0 _ he z hz hpm
        refine ⟨_, ?_, r * z, a' / 2, rfl, rfl, rfl, by omega, by omega, ?_⟩
        · omega
        · rw [hz, factorOf_two _ _ hb]
          rw [jac_two (by omega) (by omega)] at inv
          rw [show (a' / 2).toNat = a'.toNat / 2 by omega, Int.mul_assoc]
          exact inv
      · wtm_at "rs"
        rename_i h0 _ he z hz hpm
        refine ⟨_, ?_, r * z, b % a', a', rfl, rfl, rfl, Int.emod_nonneg _ (by omega), by omega, by omega, ?_⟩
        · have := Int.emod_lt_of_pos b ha'
          omega
        · rw [hz, factorOf_turn _ _ (by omega) hb]
          rw [jac_turn (by omega)] at inv
          rw [show (b % a').toNat = b.toNat % a'.toNat from Int.toNat_emod (by omega) (by omega), Int.mul_assoc]
          exact inv
    · rename_i h0
      have e0 : a = 0 := by simpa using h0
      subst e0
      have jz := jac_zero b.toNat
      rw [show (0 : Int).toNat = 0 from rfl, jz] at inv
      have q := qo h1 h2
      rw [← inv] at q
      wtm_at "ra"
      · rename_i hb1
        rw [if_pos (by omega), Int.mul_one] at q
        exact q
      · rename_i hb1
        rw [if_neg (by omega), Int.mul_zero] at q
        exact q
/-! ### sign_by_rest -/
def spSbr0 : Sp := fun vs H Q _ => ∃ n k s r : Int, vs = [.int n, .int k, .int (cond s)] ∧ NoT H ∧ n ≠ 0 ∧ -(2 ^ 60) < n ∧ n < 2 ^ 60 ∧ CoreOk n s r ∧ k ∈ uL (cond s) ∧ ∀ H', Same H H' → Q (.int (chi s (cond s) k)) H'
def spSbr : Sp := fun vs H Q _ => ∃ n k s r : Int, vs = [.int n, .int k, .int (cond s)] ∧ NoT H ∧ n ≠ 0 ∧ -(2 ^ 60) < n ∧ n < 2 ^ 60 ∧ CoreOk n s r ∧ k ∈ uL (cond s) ∧ Q (.int (chi s (cond s) k)) H
theorem use_sbr {n k s r : Int} {H : Hp} {Q : VK} {E : XK} (nt : NoT H) (h0 : n ≠ 0) (h1 : -(2 ^ 60) < n) (h2 : n < 2 ^ 60) (c : CoreOk n s r) (u : k ∈ uL (cond s)) (q : Q (.int (chi s (cond s) k)) H) : spSbr [.int n, .int k, .int (cond s)] H Q E := ⟨n, k, s, r, rfl, nt, h0, h1, h2, c, u, q⟩
theorem ok_sign_by_rest0 (T : Txt K mg Ad) : Def P w K mg base 5 "sign_by_rest" ["n", "rest", "modulus"] spSbr0 := by
  refine T.d_sign_by_rest.ok sc_sign_by_rest (fun vs H Q E h => ?_) (fun f cdv A outer s H vs Q E hr h => ?_)
  · obtain ⟨n, k, s, r, rfl, _⟩ := h
    rfl
  · obtain ⟨n, k, s, r, rfl, nt, h0, h1, h2, c, u, q⟩ := h
    refine ⟨_, (pss_cons (ps_set (i := 3) sc_sign_by_rest.nd rfl (Or.inl rfl) (pv 1))
      (pss_cons (ps_if (pt_cmpR op_eq (pe_op op_mod (pv 3) pe_int) pe_int (nomark _)) (pss_one (ps_set (i := 3) sc_sign_by_rest.nd rfl (Or.inl rfl) (pe_op op_add (pv 1) (pv 2)))) pss_nil)
      (pss_one (ps_ret (pe_d (ok_sign T) (hr.mono (by decide)) (passes_call (takes_of rfl rfl rfl rfl) (fun _ _ _ _ h => h)) (pa_cons (pe_ix ix_tup (pe_d (ok_core T) (hr.mono (by decide)) (passes_call (takes_of rfl rfl rfl rfl) (fun _ _ _ _ h => h)) (pa_cons (pv 0) pa_nil)) pe_int (fun _ _ => rfl)) (pa_cons (pv 3) pa_nil))))))), ?_⟩
    try dsimp only [cxOf]
    have bd := c.bound h0 (B := 2 ^ 60) (by omega) (by omega)
    obtain ⟨k0, k1, kc⟩ := mem_uL.mp u
    have ek : k % cond s = k := Int.emod_eq_of_lt k0 k1
    have o1 := oddOf_odd (s := s) k (cop_odd kc)
    have o2 := oddOf_pos bd.1 (cop_odd kc)
    rw [ek] at o1 o2
    unfold chi at q
    have fin : ∀ (o : Int), o = oddOf (cond s) k → ∀ (σ : L2.St) (nx : L2.St → Hp → Prop) (bk ct : L2.St → Hp → Prop), σ = [some (.int n), some (.int k), some (.int (cond s)), some (.int o)] → tRet (tCall (spSign Ad.c_BadModulus) [] E (tCons (tOp (rIxT K) (tCall spCore [] E (tCons (tVar 0) tNil)) (tC (.int 0))) (tCons (tVar 3) tNil))) ⟨nx, Q, bk, ct⟩ σ H := fun o ho σ nx bk ct hσ => by
      subst hσ
      wtm_at "rs"
      refine ⟨n, rfl, nt, h0, h1, h2, fun s' r' c' H' t sm n' ft ht => ?_⟩
      rw [(c'.uniq c).1] at ht
      wtm_at "rs"
      refine ⟨s, o, rfl, n', fun z => absurd z (by rw [ho]; omega), fun _ _ => ?_⟩
      rw [ho]
      exact q _ sm
    wtm_at "rs"
    by_cases e : k % 2 = 0
    · rw [if_pos (decide_eq_true e)]
      wtm_at "r"
      wtm_at "r"
      wtm_at "r"
      wtm_at "r"
      wtm_at "r"
      wtm_at "r"
      exact fin _ (by unfold oddOf; rw [if_pos e]) _ _ _ _ rfl
    · rw [if_neg (by rw [decide_eq_true_iff]; exact e)]
      wtm_at "r"
      exact fin _ (by unfold oddOf; rw [if_neg e]) _ _ _ _ rfl
theorem ok_sign_by_rest (T : Txt K mg Ad) : Def P w K mg base 5 "sign_by_rest" ["n", "rest", "modulus"] spSbr :=
  (ok_sign_by_rest0 T).forget.imp fun vs H Q E ⟨n, k, s, r, e, nt, h0, h1, h2, c, u, z⟩ => ⟨nt, n, k, s, r, e, nt, h0, h1, h2, c, u, fun H' sm => ⟨sm, z⟩⟩
/-! ### odd_primes_of -/
def oddQ (fs : List (Int × Nat)) : List Int := (fs.filter fun x => decide (x.1 ≠ 2)).map (·.1)
def OddQ (n : Int) (l : List Int) : Prop := l.Pairwise (· < ·) ∧ (∀ p, p ∈ l ↔ QR.OP p ∧ p ∣ n) ∧ l.length < 100
theorem oddQ_of {n : Int} {fs : List (Int × Nat)} (h : FacOk (if n < 0 then -n else n) fs) (hn : (if n < 0 then -n else n) < 2 ^ 99) : OddQ n (oddQ fs) := by
  have dv : ∀ p : Int, p ∣ (if n < 0 then -n else n) ↔ p ∣ n := fun p => by
    split
    · exact Int.dvd_neg
    · exact Iff.rfl
  refine ⟨?_, fun p => ?_, ?_⟩
  · unfold oddQ
    exact List.pairwise_map.mpr ((h.asc.filter _).imp fun z => z)
  · unfold oddQ
    rw [List.mem_map]
    constructor
    · rintro ⟨x, hx, rfl⟩
      obtain ⟨hx, ne⟩ := List.mem_filter.mp hx
      have ne := of_decide_eq_true ne
      obtain ⟨hp, d⟩ := h.mem.mp ⟨x, hx, rfl⟩
      refine ⟨⟨hp, QR.pm_odd hp ?_⟩, (dv _).mp d⟩
      have := hp.1
      omega
    · rintro ⟨hp, d⟩
      obtain ⟨x, hx, e⟩ := h.mem.mpr ⟨hp.1, (dv _).mpr d⟩
      refine ⟨x, List.mem_filter.mpr ⟨hx, decide_eq_true fun z => ?_⟩, e⟩
      have := hp.2
      omega
  · unfold oddQ
    rw [List.length_map]
    exact Nat.lt_of_le_of_lt (List.length_filter_le _ _) (h.len hn)
def spOddQ : Sp := fun vs H Q E => ∃ n : Int, vs = [.int n] ∧ NoT H ∧ n ≠ 0 ∧ -(2 ^ 60) < n ∧ n < 2 ^ 60 ∧ ∀ D H' l, Same H H' → NoT H' → H D = none → H' D = some (.lst (l.map V.int)) → OddQ n l → Q (.ref D) H'
theorem use_oddQ {n : Int} {H : Hp} {Q : VK} {E : XK} (nt : NoT H) (h0 : n ≠ 0) (h1 : -(2 ^ 60) < n) (h2 : n < 2 ^ 60) (q : ∀ D H' l, Same H H' → NoT H' → H D = none → H' D = some (.lst (l.map V.int)) → OddQ n l → Q (.ref D) H') : spOddQ [.int n] H Q E := ⟨n, rfl, nt, h0, h1, h2, q⟩
local macro_rules | `(tactic| wtm_at "of") => `(tactic| ((with_reducible show spFactors [.int _] _ _ _); refine ⟨_, rfl, by wtm_at "nt", by first | omega | (split <;> omega), by first | omega | (split <;> omega), ?_⟩; intro p H' ts fs sm nt hp hp' hl hf))
theorem ok_odd_primes_of (T : Txt K mg Ad) : Def P w K mg base 2 "odd_primes_of" ["n"] spOddQ := by
  refine T.d_odd_primes_of.ok sc_odd_primes_of (fun vs H Q E h => ?_) (fun f cdv A outer s H vs Q E hr h => ?_)
  · obtain ⟨n, rfl, _⟩ := h
    rfl
  · obtain ⟨n, rfl, nt, n0, n1, n2, q⟩ := h
    refine ⟨_, (pss_one (ps_ret (pe_lc (own := [("prime", 1), ("exponent", 2)])  (g := (gTup K 2 (gCons (gName 1) (gCons (gName 2) gNil)))) (te := (tVar 1)) (tt := (tTest (tOp rNe (tVar 1) (tC (.int 2))))) rfl sc_odd_primes_of.nd  (pi_list (pe_d (ok_factors T) (hr.mono (by decide)) (passes_call (takes_of rfl rfl rfl rfl) (fun _ _ _ _ h => h)) (pa_cons (pe_callB c_abs (by rfl) T.b_abs (by decide +kernel) (pa_cons (pv 0) pa_nil)) pa_nil))) (blkOk_by (own := [("prime", 1), ("exponent", 2)]) (N := ["n", "prime", "exponent"]) (sc := defScope s_odd_primes_of) (by decide +kernel)) (fun _ _ _ _ _ => (pg_tup rfl (pgs_cons (pg_name (i := 1) sc_odd_primes_of.nd rfl (Or.inl rfl)) (pgs_cons (pg_name (i := 2) sc_odd_primes_of.nd rfl (Or.inl rfl)) pgs_nil)))) (fun _ _ _ _ _ => (pts_one (pt_cmpR op_ne (pv 1) pe_int (nomark _)))) (fun _ _ _ _ _ => (pv 1))))), ?_⟩
    try dsimp only [cxOf]
    have ab : 1 ≤ (if n < 0 then -n else n) ∧ (if n < 0 then -n else n) < 2 ^ 60 := by split <;> omega
    repeat' (first | wtm_at "r" | wtm_at "s" | wtm_at "of" | fail)
    rename_i J H1 ts fs sm nt1 hp hp' hl hf
    refine rd_lcP (fun i ys => ys = (oddQ (fs.take i)).map V.int) (SqL.of hp') nt1 (by simp [oddQ]) ?_ ?_
    · rintro D i ys x H2 hx sm2 nt2 hD h2 rfl
      obtain ⟨t, l, rfl, ht, hlx⟩ := hl.at hx
      rw [List.getElem?_map] at hlx
      obtain ⟨⟨q, e⟩, hy, rfl⟩ := Option.map_eq_some_iff.mp hlx
      have er : fs.take (i + 1) = fs.take i ++ [(q, e)] := by rw [List.take_add_one, hy]; rfl
      have hT : SqT K H2 t [.int q, .int (e : Int)] := SqT.of (sm2 _ _ ht)
      have few : ((oddQ (fs.take i)).map V.int).length < sizeLine := by
        refine Nat.lt_of_le_of_lt ?_ (show 100 < sizeLine by decide)
        unfold oddQ
        rw [List.length_map, List.length_map]
        refine Nat.le_trans (List.length_filter_le _ _) ?_
        rw [List.length_take]
        have := hf.len (by omega)
        omega
      refine rd_gtup hT rfl ?_
      wtm_at "rs"
      refine ⟨rfl, ?_⟩
      wtm_at "rs"
      wtm_at "i"
      · rename_i h
        wtm_at "rs"
        refine put_P (P := fun ys => ys = (oddQ (fs.take (i + 1))).map V.int) h2 few sm2 hD nt2 ?_
        rw [er]
        unfold oddQ
        simp [h]
      · rename_i h
        wtm_at "rs"
        refine ⟨_, h2, sm2, nt2, ?_⟩
        rw [er]
        unfold oddQ
        have h : q = 2 := by omega
        simp [h]
    · rintro D ys H2 hD h2 sm2 nt2 rfl
      rw [List.length_map, hl.len, List.length_map, List.take_length] at h2
      exact q D H2 _ (sm.trans sm2) nt2 (Same.free sm hD) h2 (oddQ_of hf (by omega))
/-! ### checked_modulus -/
def spChkM (CM CW : Addr) : Sp := fun vs H Q E => ∃ m : Int, vs = [.int m] ∧ (m < 1 → ∀ d, H d = none → E (.ref CM) (some d) (upd H d (.xd [("modulus", .int m)]))) ∧ (4000 < m → ∀ d, H d = none → E (.ref CW) (some d) (upd H d (.xd [("modulus", .int m)]))) ∧ (1 ≤ m → m ≤ 4000 → Q .non H)
/-! ### is_prime -/
def spPm : Sp := fun vs H Q _ => ∃ n : Int, vs = [.int n] ∧ n < 2 ^ 120 ∧ Q (.bl (decide (QR.Pm n))) H
theorem ok_is_prime (T : Txt K mg Ad) : Def P w K mg base 1 "is_prime" ["n"] spPm := by
  refine T.d_is_prime.ok sc_is_prime (fun vs H Q E h => ?_) (fun f cdv A outer s H vs Q E hr h => ?_)
  · obtain ⟨n, rfl, _⟩ := h
    rfl
  · obtain ⟨n, rfl, hn, q⟩ := h
    refine ⟨_, (pss_cons (ps_if (pt_cmpR op_lt (pv 0) pe_int (nomark _)) (pss_one (ps_ret pe_bl)) pss_nil)
      (pss_cons (ps_set (i := 1) sc_is_prime.nd rfl (Or.inl rfl) pe_int)
      (pss_cons (ps_while (passes_of rfl) (pt_cmpR op_le (pe_op op_mulB (pv 1) (pv 1)) (pv 0) (nomark _)) (pss_cons (ps_if (pt_cmpR op_eq (pe_op op_mod (pv 0) (pv 1)) pe_int (nomark _)) (pss_one (ps_ret pe_bl)) pss_nil)
      (pss_one (ps_aug (i := 1) sc_is_prime.nd rfl (Or.inl rfl) pe_int ip_add))))
      (pss_one (ps_ret pe_bl))))), ?_⟩
    try dsimp only [cxOf]
    wtm_at "ra"
    · rw [decide_eq_false (fun z : QR.Pm n => by have := z.1; omega)] at q
      exact q
    · refine rd_while (fun μ σ H' => ∃ k : Int, μ = (n + 1 - k).toNat ∧ σ = [some (.int n), some (.int k)] ∧ H = H' ∧ 2 ≤ k ∧ k < 2 ^ 61 ∧ ∀ d : Int, 2 ≤ d → d < k → ¬ d ∣ n) (n - 1).toNat
        ⟨2, by omega, rfl, rfl, by omega, by omega, fun d _ _ => by omega⟩ ?_
      rintro μ σ H' ⟨k, rfl, rfl, rfl, hk, hk3, inv⟩
      wtm_at "ra"
      · rename_i hle hz
        rw [decide_eq_false (fun z : QR.Pm n => QR.not_pm (by omega) hle hz z)] at q
        exact q
      · rename_i hle hz
        have b := QR.sq_bound (by omega) hle hn
        have c := QR.le_sq (show 1 ≤ k by omega)
        exact ⟨_, by omega, k + 1, rfl, rfl, rfl, by omega, by omega, QR.no_dvd_step inv hz⟩
      · rename_i hgt
        rw [decide_eq_true (show QR.Pm n from QR.pm_of_trial (by omega) (by omega) (by omega) inv)] at q
        exact q
theorem use_Pm {n : Int} {H : Hp} {Q : VK} {E : XK} (h : n < 2 ^ 120) (q : Q (.bl (decide (QR.Pm n))) H) : spPm [.int n] H Q E := ⟨n, rfl, h, q⟩
local macro_rules | `(tactic| wtm_at "s") => `(tactic| ((with_reducible refine use_Pm ?h1 ?_); (case h1 => omega)))
/-! ### checked_singles -/
def spChkS (K : PySem.W.Frag) (CP : Addr) : Sp := fun vs H Q E => ∃ (a : Addr) (S : List Int), vs = [.ref a] ∧ (SqL K H a (S.map V.int) ∨ SqT K H a (S.map V.int)) ∧ (∀ p ∈ S, p < 2 ^ 120) ∧
  (∀ l p r, S = l ++ p :: r → (∀ o ∈ l, QR.OP o) → ¬ QR.OP p → ∀ d, H d = none → E (.ref CP) (some d) (upd H d (.xd [("p", .int p)]))) ∧ ((∀ p ∈ S, QR.OP p) → Q .non H)
theorem ok_checked_singles (T : Txt K mg Ad) : Def P w K mg base 3 "checked_singles" ["singles"] (spChkS K Ad.c_BadPrime) := by
  refine T.d_checked_singles.ok sc_checked_singles (fun vs H Q E h => ?_) (fun f cdv A outer s H vs Q E hr h => ?_)
  · obtain ⟨a, S, rfl, _⟩ := h
    rfl
  · obtain ⟨a, S, rfl, hS, hb, qe, q⟩ := h
    refine ⟨_, (pss_one (ps_for (passes_of rfl) rfl (pi_alt (pi_list (pv 0)) (pi_tup (pv 0))) (pg_name (i := 1) sc_checked_singles.nd rfl (Or.inl rfl)) (pss_one (ps_if (PW.pt (pw_or (pt_cmpR op_eq (pv 1) pe_int (nomark _)) (pw_or1 (pt_not (pt_val (pe_d (ok_is_prime T) (hr.mono (by decide)) (passes_call (takes_of rfl rfl rfl rfl) (fun _ _ _ _ h => h)) (pa_cons (pv 1) pa_nil))))))) (pss_one (ps_raise rfl (takes_of rfl rfl rfl rfl) (pmk_err (T.err_BadPrime) (hr.mono (by decide)) (pa_cons (pv 1) pa_nil)))) pss_nil)))), ?_⟩
    try dsimp only [cxOf]
    have lp : ∀ (p : Int), p < 2 ^ 120 → ∀ (R : Bool → Hp → Prop), (¬ QR.OP p → R true H) → (QR.OP p → R false H) → tOr (tTest (tOp rEq (tVar 1) (tC (.int 2)))) (tNot (tB (tCall spPm [] E (tCons (tVar 1) tNil)))) [some (.ref a), some (.int p)] H R := fun p hp R r1 r2 => by
      wtm_at "rs"
      wtm_at "i"
      · rename_i h
        exact r1 fun z : QR.OP p => by have := z.2; omega
      · rename_i h
        wtm_at "rs"
        by_cases z : QR.Pm p
        · rw [decide_eq_true z]
          exact r2 ⟨z, QR.pm_odd z (by have := z.1; omega)⟩
        · rw [decide_eq_false z]
          exact r1 fun o => z o.1
    have turn : ∀ (i : Nat) (x : V), (S.map V.int)[i]? = some x → (∀ o ∈ S.take i, QR.OP o) → ∀ (σ : L2.St) (v1 : Option V), σ = [some (.ref a), v1] → ∀ (nx : L2.St → Hp → Prop), (∀ p, (∀ o ∈ S.take (i + 1), QR.OP o) → nx [some (.ref a), some (.int p)] H) → gName 1 x σ H fun σ2 H2 =>
        (tIfS (tOr (tTest (tOp rEq (tVar 1) (tC (.int 2)))) (tNot (tB (tCall spPm [] E (tCons (tVar 1) tNil))))) (fun D σ H => tMkO Ad.c_BadPrime (spErr Ad.c_BadPrime 1 fl_BadPrime) [] (tCons (tVar 1) tNil) σ H fun cls d H' => E cls d H') tNext) ⟨nx, Q, fun σ' H' => Q .non H', nx⟩ σ2 H2 := fun i x hx hl σ v1 hσ nx hn => by
      subst hσ
      rw [List.getElem?_map] at hx
      obtain ⟨p, hp, rfl⟩ := Option.map_eq_some_iff.mp hx
      have hi := (List.getElem?_eq_some_iff.mp hp).1
      have hm : p ∈ S := List.mem_of_getElem? hp
      have er : S.take (i + 1) = S.take i ++ [p] := by rw [List.take_add_one, hp]; rfl
      wtm_at "r"
      show tIfS _ _ _ _ [some (.ref a), some (.int p)] H
      refine Stp.mp ?_
      refine lp p (hb p hm) _ (fun ho => ?_) (fun ho => ?_)
      · wtm_at "rs"
        exact qe (S.take i) p (S.drop (i + 1)) (by
          have := (List.take_append_drop i S).symm
          rw [List.drop_eq_getElem_cons hi, (List.getElem?_eq_some_iff.mp hp).2] at this
          exact this) hl ho
      · wtm_at "rs"
        refine hn p fun o h => ?_
        rw [er] at h
        rcases List.mem_append.mp h with h | h
        · exact hl o h
        · rw [List.mem_singleton.mp h]
          exact ho
    wtm_at "r"
    rcases hS with hS | hS
    · refine .inl ?_
      wtm_at "rs"
      refine rd_forLs (fun i σ => ∃ v1, σ = [some (.ref a), v1] ∧ ∀ o ∈ S.take i, QR.OP o) hS ⟨_, rfl, by simp⟩ (fun i x σ hx ⟨v1, hσ, hl⟩ => turn i x hx hl σ v1 hσ _ fun p h => ⟨rfl, _, rfl, h⟩) fun σ ⟨v1, _, hl⟩ => q ?_
      rwa [List.length_map, List.take_length] at hl
    · refine .inr ?_
      wtm_at "rs"
      refine rd_forTs (fun i σ => ∃ v1, σ = [some (.ref a), v1] ∧ ∀ o ∈ S.take i, QR.OP o) hS ⟨_, rfl, by simp⟩ (fun i x σ hx ⟨v1, hσ, hl⟩ => turn i x hx hl σ v1 hσ _ fun p h => ⟨rfl, _, rfl, h⟩) fun σ ⟨v1, _, hl⟩ => q ?_
      rwa [List.length_map, List.take_length] at hl
/-! ### common -/
def spCommon : Sp := fun vs H Q _ => ∃ a b : Int, vs = [.int a, .int b] ∧ Q (.int ((Int.gcd a b : Nat) : Int)) H
theorem ok_common (T : Txt K mg Ad) : Def P w K mg base 1 "common" ["a", "b"] spCommon := by
  refine T.d_common.ok sc_common (fun vs H Q E h => ?_) (fun f cdv A outer s H vs Q E hr h => ?_)
  · obtain ⟨a, b, rfl, _⟩ := h
    rfl
  · obtain ⟨a, b, rfl, q⟩ := h
    refine ⟨_, (pss_cons (ps_par (i := 2) (j := 3) rfl sc_common.nd rfl rfl (by decide) rfl rfl (pa_cons (pe_callB c_abs (by rfl) T.b_abs (by decide +kernel) (pa_cons (pv 0) pa_nil)) (pa_cons (pe_callB c_abs (by rfl) T.b_abs (by decide +kernel) (pa_cons (pv 1) pa_nil)) pa_nil)) (by rfl))
      (pss_cons (ps_while (passes_of rfl) (pt_cmpR op_gt (pv 3) pe_int (nomark _)) (pss_one (ps_par (i := 2) (j := 3) rfl sc_common.nd rfl rfl (by decide) rfl rfl (pa_cons (pv 3) (pa_cons (pe_op op_mod (pv 2) (pv 3)) pa_nil)) (by rfl))))
      (pss_one (ps_ret (pv 2))))), ?_⟩
    try dsimp only [cxOf]
    wtm_at "rs"
    refine rd_while (fun μ σ H' => ∃ x y : Int, μ = y.toNat ∧ σ = [some (.int a), some (.int b), some (.int x), some (.int y)] ∧ H = H' ∧ 0 ≤ x ∧ 0 ≤ y ∧ Int.gcd x y = Int.gcd a b) (if b < 0 then -b else b).toNat
      ⟨_, _, rfl, rfl, rfl, by split <;> omega, by split <;> omega, gcd_abs a b⟩ ?_
    rintro μ σ H' ⟨x, y, rfl, rfl, rfl, hx, hy, hg⟩
    wtm_at "ra"
    · rename_i h0
      have m0 := Int.emod_nonneg x (show y ≠ 0 by omega)
      have m1 := Int.emod_lt_of_pos x h0
      exact ⟨_, by omega, y, x % y, rfl, rfl, rfl, hy, m0, by rw [gcd_turn hx h0, hg]⟩
    · rename_i h0
      have e : y = 0 := by omega
      subst e
      rw [← hg] at q
      rw [Int.gcd_zero_right] at q
      rw [show x = (x.natAbs : Int) by omega]
      exact q
theorem use_common {a b : Int} {H : Hp} {Q : VK} {E : XK} (q : Q (.int ((Int.gcd a b : Nat) : Int)) H) : spCommon [.int a, .int b] H Q E := ⟨a, b, rfl, q⟩
local macro_rules | `(tactic| wtm_at "s") => `(tactic| (with_reducible refine use_common ?_))
/-! ### units_values -/
def spUnits : Sp := fun vs H Q E => ∃ m : Int, vs = [.int m] ∧ 1 ≤ m ∧ m ≤ 100000 ∧ ∀ D, H D = none → Q (.ref D) (upd H D (.lst ((uL m).map V.int)))
theorem units_res {m : Int} : ((List.range m.toNat).filter (fun i : Nat => decide (Int.gcd (0 + (i : Int)) m = 1))).map (fun i : Nat => V.int (0 + (i : Int))) = (uL m).map V.int := by
  unfold uL
  rw [List.filter_map, List.map_map]
  refine congr (congrArg List.map (funext fun i => by simp)) (List.filter_congr fun i _ => by simp)
theorem use_units {m : Int} {H : Hp} {Q : VK} {E : XK} (h1 : 1 ≤ m) (h2 : m ≤ 100000) (q : ∀ D, H D = none → Q (.ref D) (upd H D (.lst ((uL m).map V.int)))) : spUnits [.int m] H Q E := ⟨m, rfl, h1, h2, q⟩
theorem ok_units_values (T : Txt K mg Ad) : Def P w K mg base 2 "units_values" ["modulus"] spUnits := by
  refine T.d_units_values.ok sc_units_values (fun vs H Q E h => ?_) (fun f cdv A outer s H vs Q E hr h => ?_)
  · obtain ⟨m, rfl, _⟩ := h
    rfl
  · obtain ⟨m, rfl, m1, m2, q⟩ := h
    refine ⟨_, (pss_one (ps_ret (pe_lc (own := [("rest", 1)])  (te := (tVar 1)) (tt := (tTest (tOp rEq (tCall (spCommon) [] E0 (tCons (tVar 1) (tCons (tVar 0) tNil))) (tC (.int 1))))) rfl sc_units_values.nd  (pi_range1 (by rfl) T.b_range (pa_cons (pv 0) pa_nil)) (blkOk_by (own := [("rest", 1)]) (N := ["modulus", "rest"]) (sc := defScope s_units_values) (by decide +kernel)) (fun _ _ _ _ _ => (pg_name (i := 1) sc_units_values.nd rfl (Or.inl rfl))) (fun _ _ _ _ _ => (pts_one (pt_cmpR op_eq (pe_d (E := E0) (ok_common T) (hr.mono (by decide)) passL (pa_cons (pv 1) (pa_cons (pv 0) pa_nil))) pe_int (nomark _)))) (fun _ _ _ _ _ => (pv 1))))), ?_⟩
    try dsimp only [cxOf]
    wtm_at "rs"
    refine rd_lcR (fun i : Nat => decide (Int.gcd (0 + (i : Int)) m = 1)) (fun i : Nat => V.int (0 + (i : Int))) (fun D i hD hi => ?_) fun D hD => ?_
    · wtm_at "r"
      refine ⟨rfl, ?_⟩
      wtm_at "rs"
      wtm_at "i"
      · rename_i h
        wtm_at "rs"
        exact put_R (by omega) (decide_eq_true (by omega)) rfl
      · rename_i h
        wtm_at "rs"
        exact skip_R (decide_eq_false (by omega))
    · rw [units_res]
      wtm_at "rs"
      exact q D hD
/-! ### shortened -/
def spShort : Sp := fun vs H Q E => ∃ (a : Addr) (m q : Int) (R : List Int), vs = [.int m, .ref a, .int q] ∧ NoT H ∧ H a = some (DFl R) ∧ 1 ≤ m ∧ m ≤ 4000 ∧ QR.Pm q ∧ q ∣ m ∧
  (∀ H', Same H H' → NoT H' → ¬ Lv m R (m / q) → Q .non H') ∧ (∀ D L H', Same H H' → NoT H' → H D = none → H' D = some (DFl L) → Short m R (m / q) L → Q (.ref D) H')
theorem use_short {a : Addr} {m q : Int} {R : List Int} {H : Hp} {Q : VK} {E : XK} (nt : NoT H) (ha : H a = some (DFl R)) (h1 : 1 ≤ m) (h2 : m ≤ 4000) (hq : QR.Pm q) (hd : q ∣ m)
    (k1 : ∀ H', Same H H' → NoT H' → ¬ Lv m R (m / q) → Q .non H') (k2 : ∀ D L H', Same H H' → NoT H' → H D = none → H' D = some (DFl L) → Short m R (m / q) L → Q (.ref D) H') : spShort [.int m, .ref a, .int q] H Q E := ⟨a, m, q, R, rfl, nt, ha, h1, h2, hq, hd, k1, k2⟩
theorem lifts_res {r s q : Int} : (((List.range q.toNat).filter fun _ => true).map fun k : Nat => V.int (r + (0 + (k : Int)) * s)) = (liftsL r s q).map V.int := by
  unfold liftsL
  rw [List.map_map, List.filter_eq_self.mpr fun _ _ => rfl]
  rfl
theorem liftsL_len {r s q : Int} : (liftsL r s q).length = q.toNat := by
  unfold liftsL
  rw [List.length_map, List.length_range]
theorem same_updN {H H' : Hp} {p : Addr} {o : HO} (h : Same H H') (hp : H p = none) : Same H (upd H' p o) := same_upd2 h hp
theorem ok_shortened (T : Txt K mg Ad) : Def P w K mg base 3 "shortened" ["modulus", "rests", "prime"] spShort := by
  refine T.d_shortened.ok sc_shortened (fun vs H Q E h => ?_) (fun f cdv A outer s H vs Q E hr h => ?_)
  · obtain ⟨a, m, q, R, rfl, _⟩ := h
    rfl
  · obtain ⟨a, m, q, R, rfl, nt, ha, m1, m2, hq, hd, kn, kd⟩ := h
    refine ⟨_, (pss_cons (ps_set (i := 3) sc_shortened.nd rfl (Or.inr rfl) (pe_op op_fdivB (pv 0) (pv 2)))
      (pss_cons (ps_set (i := 4) sc_shortened.nd rfl (Or.inl rfl) pe_dnewK)
      (pss_cons (ps_for (passes_of rfl) rfl (pi_list (pe_d (ok_units_values T) (hr.mono (by decide)) (passes_call (takes_of rfl rfl rfl rfl) (fun _ _ _ _ h => h)) (pa_cons (pv 3) pa_nil))) (pg_name (i := 5) sc_shortened.nd rfl (Or.inr rfl)) (pss_cons (ps_setLc (i := 6) (own := [("k", 8)])  (te := (tOp (rI0 fun i j => .int (i + j)) (tVar 5) (tOp (rI CMulB fun i j => .int (i * j)) (tVar 8) (tVar 3)))) rfl sc_shortened.nd rfl rfl (sw_true rfl rfl rfl (by decide +kernel)) (pi_range1 (by rfl) T.b_range (pa_cons (pv 2) pa_nil)) (blkOk_by (own := [("k", 8)]) (N := ["modulus", "rests", "prime", "smaller", "kept", "rest", "lifts", "found", "k", "lift"]) (sc := defScope s_shortened) (by decide +kernel)) (fun _ _ _ _ _ => (pg_name (i := 8) sc_shortened.nd rfl (Or.inl rfl))) (fun _ _ _ _ _ => pts_nil) (fun _ _ _ _ _ => (pe_op op_add (pv 5) (pe_op op_mulB (pv 8) (pv 3)))))
      (pss_cons (ps_setLc (i := 7) (own := [("lift", 9)])  (te := (tDIn (tVar 9) (tVar 1))) (tt := (tTest (tOp rEq (tCall (spCommon) [] E0 (tCons (tVar 9) (tCons (tVar 0) tNil))) (tC (.int 1))))) rfl sc_shortened.nd rfl rfl (sw_true rfl rfl rfl (by decide +kernel)) (pi_list (pv 6)) (blkOk_by (own := [("lift", 9)]) (N := ["modulus", "rests", "prime", "smaller", "kept", "rest", "lifts", "found", "k", "lift"]) (sc := defScope s_shortened) (by decide +kernel)) (fun _ _ _ _ _ => (pg_name (i := 9) sc_shortened.nd rfl (Or.inl rfl))) (fun _ _ _ _ _ => (pts_one (pt_cmpR op_eq (pe_d (E := E0) (ok_common T) (hr.mono (by decide)) passL (pa_cons (pv 9) (pa_cons (pv 0) pa_nil))) pe_int (nomark _)))) (fun _ _ _ _ _ => (pe_cmp (pc_din (hu_of hr) (pv 9) (pv 1)) rfl)))
      (pss_cons (ps_if (PW.pt (pw_and (pt_cmpR op_in_seq pe_bl (pv 7) (by rfl)) (pw_and1 (pt_cmpR op_in_seq pe_bl (pv 7) (by rfl))))) (pss_one (ps_ret pe_non)) pss_nil)
      (pss_one (ps_if (pt_val (pe_ix ix_list (pv 7) pe_int (fun _ _ => rfl))) (pss_one (ps_dput (hu_of hr) (pv 4) (pv 5) pe_bl rfl)) pss_nil))))))
      (pss_one (ps_ret (pv 4)))))), ?_⟩
    try dsimp only [cxOf]
    have q2 := hq.1
    have qm := Int.le_of_dvd (by omega) hd
    have hm : m = m / q * q := (Int.ediv_mul_cancel hd).symm
    have s1 : 1 ≤ m / q := by
      rcases Int.lt_or_le 0 (m / q) with z | z
      · exact z
      · have := Int.mul_le_mul_of_nonneg_right z (show 0 ≤ q by omega)
        omega
    have s2 : m / q ≤ 4000 := by
      have := Int.mul_le_mul_of_nonneg_left (show 1 ≤ q by omega) (show 0 ≤ m / q by omega)
      omega
    have sd : m / q ∣ m := ⟨q, hm⟩
    wtm_at "rs"
    intro Dk hDk
    wtm_at "rs"
    refine use_units s1 (by omega) fun U hU => ?_
    have hDk' : upd H Dk (DFl []) Dk = some (DFl []) := upd_same
    have hUU : upd (upd H Dk (DFl [])) U (.lst ((uL (m / q)).map V.int)) U = some (.lst ((uL (m / q)).map V.int)) := upd_same
    have hDU : upd (upd H Dk (DFl [])) U (.lst ((uL (m / q)).map V.int)) Dk = some (DFl []) := upd_keep hDk' hU
    have hne : Dk ≠ U := by
      rintro rfl
      cases hDk'.symm.trans hU
    generalize m / q = s at *
    wtm_at "rs"
    refine rd_forL (xs := (uL s).map V.int) (fun i σ H' => ∃ (L : List Int) (v5 v6 v7 : Option V), σ = [some (.int m), some (.ref a), some (.int q), some (.int s), some (.ref Dk), v5, v6, v7, none, none] ∧ Same H H' ∧ NoT H' ∧ H' Dk = some (DFl L) ∧ H' U = some (.lst ((uL s).map V.int)) ∧ Kept m R s ((uL s).take i) L)
      ⟨[], none, none, none, rfl, by wtm_at "sm", by wtm_at "nt", hDU, hUU, Kept.nil⟩ (fun i σ H' _ ⟨_, _, _, _, _, _, _, _, h, _⟩ => SqL.of h) ?_ ?_
    · rintro i x σ H' hi ⟨L, v5, v6, v7, rfl, sm, nt', hD, hU', inv⟩
      rw [List.getElem?_map] at hi
      obtain ⟨r, hr, rfl⟩ := Option.map_eq_some_iff.mp hi
      have hil := (List.getElem?_eq_some_iff.mp hr).1
      have er : (uL s).take (i + 1) = (uL s).take i ++ [r] := by rw [List.take_add_one, hr]; rfl
      have hru := List.mem_of_getElem? hr
      obtain ⟨r0, r1, rc⟩ := mem_uL.mp hru
      have hlt : ∀ k ∈ (uL s).take i, k < r := by
        have h := @uL_inc s
        rw [← List.take_append_drop (i + 1) (uL s), er, List.append_assoc] at h
        exact fun k hk => (List.pairwise_append.mp h).2.2 k hk r List.mem_cons_self
      have ha' := sm _ _ ha
      wtm_at "rs"
      refine rd_lcR (fun _ => true) (fun k => V.int (r + (0 + (k : Int)) * s)) (fun D i hD hi => ?_) fun D1 hD1 => ?_
      · wtm_at "r"
        refine ⟨rfl, ?_⟩
        wtm_at "rs"
        exact put_R (by omega) rfl rfl
      · rw [lifts_res]
        wtm_at "rs"
        refine rd_lcI (fun l => decide (Int.gcd l m = 1)) (fun l => V.bl (decide (l ∈ R))) (SqL.of upd_same) (fun D l x rr hD hx => ?_) fun D2 hD2 => ?_
        · have few : l.length < 1000000 := by
            have := congrArg List.length hx
            rw [List.length_append, liftsL_len] at this
            omega
          wtm_at "r"
          refine ⟨rfl, ?_⟩
          wtm_at "rs"
          wtm_at "i"
          · rename_i h
            wtm_at "rs"
            exact put_I few (decide_eq_true (by omega)) rfl
          · rename_i h
            exact skip_I (decide_eq_false fun z => h (by omega))
        · rw [show ((liftsL r s q).filter fun l => decide (Int.gcd l m = 1)).map (fun l => V.bl (decide (l ∈ R))) = ((lftL m r s q).map fun l => decide (l ∈ R)).map V.bl by rw [List.map_map]; rfl]
          have smn : Same H' (upd (upd H' D1 (.lst ((liftsL r s q).map V.int))) D2 (.lst (((lftL m r s q).map fun l => decide (l ∈ R)).map V.bl))) := (same_new hD1).trans (same_new hD2)
          have hF : SqL K (upd (upd H' D1 (.lst ((liftsL r s q).map V.int))) D2 (.lst (((lftL m r s q).map fun l => decide (l ∈ R)).map V.bl))) D2 (((lftL m r s q).map fun l => decide (l ∈ R)).map V.bl) := SqL.of upd_same
          have ntn : NoT (upd (upd H' D1 (.lst ((liftsL r s q).map V.int))) D2 (.lst (((lftL m r s q).map fun l => decide (l ∈ R)).map V.bl))) := NoT.upd (NoT.upd nt' rfl) rfl
          generalize upd (upd H' D1 (.lst ((liftsL r s q).map V.int))) D2 (.lst (((lftL m r s q).map fun l => decide (l ∈ R)).map V.bl)) = Hn at *
          have hne0 := lft_ne (r := r) hq (by omega) hm hru
          have lp := fun l hl => lft_prop (q := q) (by omega) hm hru (l := l) hl
          have mix : ∀ l1 ∈ lftL m r s q, ∀ l2 ∈ lftL m r s q, l1 ∈ R → l2 ∉ R → ¬ Lv m R s := fun l1 h1 l2 h2 a1 a2 z => by
            obtain ⟨c1, e1, f1⟩ := lp l1 h1
            obtain ⟨c2, e2, f2⟩ := lp l2 h2
            have := z l1 l2 c1 c2 (QR.dvd_of_emod_eq (by rw [f1, f2]))
            rw [e1, e2] at this
            exact a2 (this.mp a1)
          have all : ∀ x : Int, Int.gcd x m = 1 → x % s = r → x % m ∈ lftL m r s q := fun x hx hr => lft_all (by omega) (by omega) hm hx hr
          have step : ∀ (σ : L2.St) (nx : L2.St → Hp → Prop) (bk ct : L2.St → Hp → Prop), σ = [some (.int m), some (.ref a), some (.int q), some (.int s), some (.ref Dk), some (.int r), some (.ref D1), some (.ref D2), none, none] →
              ((∃ l ∈ lftL m r s q, l ∈ R) → (∃ l ∈ lftL m r s q, l ∉ R) → False) →
              (∀ H2 L', Same H H2 → NoT H2 → H2 Dk = some (DFl L') → H2 U = some (.lst ((uL s).map V.int)) → Kept m R s ((uL s).take (i + 1)) L' → nx σ H2) →
              tIfS (tB (tOp (rIxL K) (tVar 7) (tC (.int 0)))) (sDPut (tVar 4) (tVar 5) (tC (.bl true))) tNext ⟨nx, Q, bk, ct⟩ σ Hn := fun σ nx bk ct hσ one hn => by
            subst hσ
            obtain ⟨l0, ls, el⟩ := List.exists_cons_of_ne_nil hne0
            have h0 : l0 ∈ lftL m r s q := by rw [el]; exact List.mem_cons_self
            rw [el, List.map_cons, List.map_cons] at hF
            wtm_at "rs"
            refine rd_ixL (v := .bl (decide (l0 ∈ R))) hF (by simp [atI, ixN]) ?_
            refine ⟨_, rfl, ?_⟩
            have hlL : L.length < 1000000 := by
              have := nodup_le (M := 4000) (l := L) (inv.inc.imp fun h => by omega) fun k hk => by
                have := mem_uL.mp (List.mem_of_mem_take (inv.mem k hk))
                exact ⟨this.1, by omega⟩
              omega
            by_cases z : l0 ∈ R
            · rw [if_pos (decide_eq_true z)]
              wtm_at "rs"
              refine rd_dputF (smn _ _ hD) hlL ?_
              rw [insL_new fun hk => by have := hlt r (inv.mem r hk); omega]
              refine hn _ (L ++ [r]) (same_updN (sm.trans smn) hDk) (NoT.upd ntn rfl) upd_same (by rw [upd_ne (fun z => hne z.symm)]; exact smn _ _ hU') ?_
              rw [er]
              refine inv.put hlt fun x hx hr => ?_
              refine Classical.byContradiction fun y => one ⟨l0, h0, z⟩ ⟨_, all x hx hr, y⟩
            · rw [if_neg (by rw [decide_eq_true_iff]; exact z)]
              wtm_at "rs"
              refine hn _ L (sm.trans smn) ntn (smn _ _ hD) (smn _ _ hU') ?_
              rw [er]
              refine inv.skip hlt fun x hx hr y => ?_
              exact one ⟨_, all x hx hr, y⟩ ⟨l0, h0, z⟩
          wtm_at "rs"
          refine rd_inL hF rfl flat_bl ?_
          rw [inV_bl]
          refine ⟨_, rfl, ?_⟩
          by_cases z1 : true ∈ (lftL m r s q).map fun l => decide (l ∈ R)
          · rw [if_pos (decide_eq_true z1)]
            wtm_at "rs"
            refine rd_inL hF rfl flat_bl ?_
            rw [inV_bl]
            refine ⟨_, rfl, ?_⟩
            obtain ⟨l1, a1, b1⟩ := lft_bl.mp z1
            by_cases z2 : false ∈ (lftL m r s q).map fun l => decide (l ∈ R)
            · rw [if_pos (decide_eq_true z2)]
              obtain ⟨l2, a2, b2⟩ := lft_bl.mp z2
              wtm_at "rs"
              exact kn Hn (sm.trans smn) ntn (mix l1 a1 l2 a2 (of_decide_eq_true b1) (of_decide_eq_false b2))
            · rw [if_neg (by rw [decide_eq_true_iff]; exact z2)]
              refine step _ _ _ _ rfl (fun _ ⟨l2, a2, b2⟩ => z2 (lft_bl.mpr ⟨l2, a2, decide_eq_false b2⟩)) fun H2 L' c1 c2 c3 c4 c5 => ?_
              exact ⟨L', _, _, _, rfl, c1, c2, c3, c4, c5⟩
          · rw [if_neg (by rw [decide_eq_true_iff]; exact z1)]
            refine step _ _ _ _ rfl (fun ⟨l2, a2, b2⟩ _ => z1 (lft_bl.mpr ⟨l2, a2, decide_eq_true b2⟩)) fun H2 L' c1 c2 c3 c4 c5 => ?_
            exact ⟨L', _, _, _, rfl, c1, c2, c3, c4, c5⟩
    · rintro σ H' ⟨L, v5, v6, v7, rfl, sm, nt', hD, hU', inv⟩
      rw [List.length_map, List.take_length] at inv
      wtm_at "rs"
      exact kd Dk L H' sm nt' hDk hD (inv.done sd (by omega))
/-! ### toggled -/
def spTog : Sp := fun vs H Q E => ∃ (a : Addr) (p : Int) (S : List Int), vs = [.ref a, .int p] ∧ NoT H ∧ H a = some (.lst (S.map V.int)) ∧ S.length < 1000000 ∧ ∀ D H', Same H H' → NoT H' → H D = none → H' D = some (.lst ((togL S p).map V.int)) → Q (.ref D) H'
theorem use_tog {a : Addr} {p : Int} {S : List Int} {H : Hp} {Q : VK} {E : XK} (nt : NoT H) (ha : H a = some (.lst (S.map V.int))) (h1 : S.length < 1000000) (q : ∀ D H', Same H H' → NoT H' → H D = none → H' D = some (.lst ((togL S p).map V.int)) → Q (.ref D) H') : spTog [.ref a, .int p] H Q E := ⟨a, p, S, rfl, nt, ha, h1, q⟩
theorem ok_toggled (T : Txt K mg Ad) : Def P w K mg base 1 "toggled" ["singles", "p"] spTog := by
  refine T.d_toggled.ok sc_toggled (fun vs H Q E h => ?_) (fun f cdv A outer s H vs Q E hr h => ?_)
  · obtain ⟨a, p, S, rfl, _⟩ := h
    rfl
  · obtain ⟨a, p, S, rfl, nt, ha, few, q⟩ := h
    refine ⟨_, (pss_cons (ps_if (pt_cmpR op_in_seq (pv 1) (pv 0) (by rfl)) (pss_one (ps_ret (pe_lc (own := [("other", 2)])  (te := (tVar 2)) (tt := (tTest (tOp rNe (tVar 2) (tVar 1)))) rfl sc_toggled.nd  (pi_list (pv 0)) (blkOk_by (own := [("other", 2)]) (N := ["singles", "p", "other"]) (sc := defScope s_toggled) (by decide +kernel)) (fun _ _ _ _ _ => (pg_name (i := 2) sc_toggled.nd rfl (Or.inl rfl))) (fun _ _ _ _ _ => (pts_one (pt_cmpR op_ne (pv 2) (pv 1) (nomark _)))) (fun _ _ _ _ _ => (pv 2))))) pss_nil)
      (pss_one (ps_ret (pe_op op_cat (pv 0) (pe_lst (pa_cons (pv 1) pa_nil)))))), ?_⟩
    try dsimp only [cxOf]
    wtm_at "rs"
    refine rd_inL (SqL.of ha) rfl flat_ints ?_
    rw [inV_ints]
    refine ⟨_, rfl, ?_⟩
    by_cases z : p ∈ S
    · rw [if_pos (decide_eq_true z)]
      have e : togL S p = S.filter fun o => !decide (o = p) := if_pos z
      wtm_at "rs"
      refine rd_lcI (fun o => !decide (o = p)) V.int (SqL.of ha) (fun D l x r hD hx => ?_) fun D hD => ?_
      · have fl : l.length < 1000000 := by
          have := congrArg List.length hx
          rw [List.length_append] at this
          omega
        wtm_at "r"
        refine ⟨rfl, ?_⟩
        wtm_at "rs"
        by_cases y : x = p
        · rw [if_neg (by simp [y])]
          exact skip_I (by simp [y])
        · rw [if_pos (by simp [y])]
          wtm_at "rs"
          exact put_I fl (by simp [y]) rfl
      · rw [← e]
        exact q D _ (same_new hD) (NoT.upd nt rfl) hD upd_same
    · rw [if_neg (by rw [decide_eq_true_iff]; exact z)]
      have e : togL S p = S ++ [p] := if_neg z
      wtm_at "rs"
      rename_i p0 hp0
      refine rd_cat (upd_keep ha hp0) upd_same (room2 (n := 999999) (m := 1) (by rw [List.length_map]; omega) len_one (by decide)) fun D hD => ?_
      rw [show S.map V.int ++ [V.int p] = (togL S p).map V.int by rw [e, List.map_append]; rfl]
      exact q D _ ((same_new hp0).trans (same_new hD)) (NoT.upd (NoT.upd nt rfl) rfl) ((same_new hp0).free hD) upd_same
/-! ### told_by -/
def Rests (K : PySem.W.Frag) (H : Hp) (a : Addr) (R : List Int) : Prop := H a = some (DFl R) ∨ SqL K H a (R.map V.int) ∨ SqT K H a (R.map V.int)
theorem Rests.mono {K : PySem.W.Frag} {H H' : Hp} {a : Addr} {R : List Int} (sm : Same H H') (h : Rests K H a R) : Rests K H' a R := h.elim (fun z => .inl (sm _ _ z)) fun z => .inr (z.elim (fun z => .inl (sm.seq z)) fun z => .inr (sm.seqT z))
def spTold (K : PySem.W.Frag) : Sp := fun vs H Q E => ∃ (a : Addr) (m p : Int) (R : List Int), vs = [.int m, .ref a, .int p] ∧ Rests K H a R ∧ 1 ≤ m ∧ 1 ≤ p ∧ Q (.bl (decide (toldP m R p))) H
theorem use_told {K : PySem.W.Frag} {a : Addr} {m p : Int} {R : List Int} {H : Hp} {Q : VK} {E : XK} (ha : Rests K H a R) (h1 : 1 ≤ m) (h2 : 1 ≤ p) (q : Q (.bl (decide (toldP m R p))) H) : spTold K [.int m, .ref a, .int p] H Q E := ⟨a, m, p, R, rfl, ha, h1, h2, q⟩
theorem ok_told_by (T : Txt K mg Ad) : Def P w K mg base 1 "told_by" ["modulus", "rests", "p"] (spTold K) := by
  refine T.d_told_by.ok sc_told_by (fun vs H Q E h => ?_) (fun f cdv A outer s H vs Q E hr h => ?_)
  · obtain ⟨a, m, p, R, rfl, _⟩ := h
    rfl
  · obtain ⟨a, m, p, R, rfl, ha, m1, p1, q⟩ := h
    refine ⟨_, (pss_one (ps_ret (pe_and (pe_cmpR op_ne (pe_op op_mod (pv 0) (pv 2)) pe_int (nomark _)) (pe_one (pe_alt (pe_cmpR op_in_seq (pe_op op_mod (pv 2) (pv 0)) (pv 1) (by rfl)) (pe_cmp (pc_din (hu_of hr) (pe_op op_mod (pv 2) (pv 0)) (pv 1)) rfl)))))), ?_⟩
    try dsimp only [cxOf]
    wtm_at "rs"
    have e1 : (m % p = 0) ↔ p ∣ m := ⟨Int.dvd_of_emod_eq_zero, Int.emod_eq_zero_of_dvd⟩
    by_cases z : p ∣ m
    · rw [if_neg (by rw [decide_eq_true (e1.mpr z)]; decide)]
      rw [show decide (toldP m R p) = false from decide_eq_false fun y => y.1 z] at q
      exact q
    · rw [if_pos (by rw [decide_eq_false (fun y => z (e1.mp y))]; rfl)]
      have e2 : decide (toldP m R p) = decide (p % m ∈ R) := decide_eq_decide.mpr ⟨fun y => y.2, fun y => ⟨z, y⟩⟩
      rw [e2] at q
      rcases ha with ha | ha | ha
      · refine .inr ?_
        wtm_at "rs"
        first | exact q | exact rd_dinF ha q
      · refine .inl ?_
        wtm_at "rs"
        first | exact q | exact rd_inL ha rfl flat_ints (by rw [inV_ints]; exact q)
      · refine .inl ?_
        wtm_at "rs"
        first | exact q | exact rd_inT ha rfl flat_ints (by rw [inV_ints]; exact q)
/-! ### least_description -/
def spLeast : Sp := fun vs H Q E => ∃ (a b : Addr) (m : Int) (R S : List Int), vs = [.int m, .ref a, .ref b] ∧ NoT H ∧ H a = some (DFl R) ∧ H b = some (.lst (S.map V.int)) ∧ m ≤ 4000 ∧ Desc m R S ∧ R.Nodup ∧ S.Nodup ∧ S.length ≤ 900000 ∧
  ∀ (H' : Hp) (t a' b' : Addr) (m' : Int) (R' S' : List Int), Same H H' → NoT H' → H t = none → H' t = some (.tup [.int m', .ref a', .ref b']) → H' a' = some (DFl R') → H' b' = some (.lst (S'.map V.int)) → LeastOk m R S m' R' S' → (∀ q, QR.Pm q → LowAt m' R' q) → Q (.ref t) H'
/-- what shortening has told -/
def ShW (H' : Hp) (v : V) (m : Int) (R : List Int) (q : Int) : Prop := (v = .non ∧ LowAt m R q) ∨ ∃ D L, v = .ref D ∧ H' D = some (DFl L) ∧ q ∣ m ∧ Short m R (m / q) L
theorem use_shortW {a : Addr} {m q : Int} {R : List Int} {H : Hp} {Q : VK} {E : XK} (nt : NoT H) (ha : H a = some (DFl R)) (h1 : 1 ≤ m) (h2 : m ≤ 4000) (hq : QR.Pm q) (hd : q ∣ m)
    (k : ∀ v H', Same H H' → NoT H' → ShW H' v m R q → Q v H') : spShort [.int m, .ref a, .int q] H Q E :=
  use_short nt ha h1 h2 hq hd (fun H' a b c => k _ H' a b (.inl ⟨rfl, lowAt_of_not c⟩)) fun D L H' a b _ c d => k _ H' a b (.inr ⟨D, L, rfl, c, hd, d⟩)
theorem ok_least_description (T : Txt K mg Ad) : Def P w K mg base 4 "least_description" ["modulus", "rests", "singles"] spLeast := by
  refine T.d_least_description.ok sc_least_description (fun vs H Q E h => ?_) (fun f cdv A outer s H vs Q E hr h => ?_)
  · obtain ⟨a, b, m, R, S, rfl, _⟩ := h
    rfl
  · obtain ⟨a, b, m, R, S, rfl, nt, ha, hb, m2, de, rn, sn, few, q⟩ := h
    have m1 := de.pos
    refine ⟨_, (pss_cons (ps_for (passes_of rfl) rfl (pi_list (pe_d (ok_factors T) (hr.mono (by decide)) (passes_call (takes_of rfl rfl rfl rfl) (fun _ _ _ _ h => h)) (pa_cons (pv 0) pa_nil))) (pg_tup rfl (pgs_cons (pg_name (i := 3) sc_least_description.nd rfl (Or.inl rfl)) (pgs_cons (pg_name (i := 4) sc_least_description.nd rfl (Or.inl rfl)) pgs_nil))) (pss_cons (ps_set (i := 5) sc_least_description.nd rfl (Or.inl rfl) (pe_d (ok_shortened T) (hr.mono (by decide)) (passes_call (takes_of rfl rfl rfl rfl) (fun _ _ _ _ h => h)) (pa_cons (pv 0) (pa_cons (pv 1) (pa_cons (pv 3) pa_nil)))))
      (pss_one (ps_while (passes_of rfl) (pt_cmpR op_notN (pv 5) pe_non (nomark _)) (pss_cons (ps_set (i := 0) sc_least_description.nd rfl (Or.inl rfl) (pe_op op_fdivB (pv 0) (pv 3)))
      (pss_cons (ps_set (i := 1) sc_least_description.nd rfl (Or.inl rfl) (pv 5))
      (pss_cons (ps_if (PW.pt (pw_and (pt_cmpR op_ne (pv 3) pe_int (nomark _)) (pw_and (pt_cmpR op_ne (pe_op op_mod (pv 0) (pv 3)) pe_int (nomark _)) (pw_and1 (pt_val (pe_d (ok_told_by T) (hr.mono (by decide)) (passes_call (takes_of rfl rfl rfl rfl) (fun _ _ _ _ h => h)) (pa_cons (pv 0) (pa_cons (pv 1) (pa_cons (pv 3) pa_nil))))))))) (pss_one (ps_set (i := 2) sc_least_description.nd rfl (Or.inl rfl) (pe_d (ok_toggled T) (hr.mono (by decide)) (passes_call (takes_of rfl rfl rfl rfl) (fun _ _ _ _ h => h)) (pa_cons (pv 2) (pa_cons (pv 3) pa_nil))))) pss_nil)
      (pss_cons (ps_set (i := 5) sc_least_description.nd rfl (Or.inl rfl) pe_non)
      (pss_one (ps_if (pt_cmpR op_eq (pe_op op_mod (pv 0) (pv 3)) pe_int (nomark _)) (pss_one (ps_set (i := 5) sc_least_description.nd rfl (Or.inl rfl) (pe_d (ok_shortened T) (hr.mono (by decide)) (passes_call (takes_of rfl rfl rfl rfl) (fun _ _ _ _ h => h)) (pa_cons (pv 0) (pa_cons (pv 1) (pa_cons (pv 3) pa_nil)))))) pss_nil))))))))))
      (pss_one (ps_ret (pe_tup (pa_cons (pv 0) (pa_cons (pv 1) (pa_cons (pv 2) pa_nil))))))), ?_⟩
    try dsimp only [cxOf]
    wtm_at "rs"
    refine ⟨_, rfl, nt, m1, by omega, ?_⟩
    intro J H1 ts fs sm nt1 hJ hJ' hl hf
    wtm_at "rs"
    refine rd_forL (xs := ts.map V.ref) (fun i σ H2 => ∃ (a' b' : Addr) (m' : Int) (R' S' : List Int) (v3 v4 v5 : Option V), σ = [some (.int m'), some (.ref a'), some (.ref b'), v3, v4, v5] ∧ Same H1 H2 ∧ NoT H2 ∧ H2 a' = some (DFl R') ∧ H2 b' = some (.lst (S'.map V.int)) ∧ LeastOk m R S m' R' S' ∧ (∀ x ∈ fs.take i, LowAt m' R' x.1) ∧ ∀ x ∈ fs.drop i, x.1 ∣ m')
      ⟨a, b, m, R, S, none, none, none, rfl, Same.refl _, nt1, sm _ _ ha, sm _ _ hb, LeastOk.refl de rn sn, fun x h => absurd h (by simp), fun x hx => (hf.mem.mp ⟨x, List.mem_of_mem_drop hx, rfl⟩).2⟩ (fun i σ H2 _ ⟨_, _, _, _, _, _, _, _, _, s, _⟩ => s.seq (SqL.of hJ')) ?_ ?_
    · rintro i x σ H2 hi ⟨a', b', m', R', S', v3, v4, v5, rfl, sm2, nt2, ha2, hb2, ok, low, div⟩
      obtain ⟨t, l, rfl, ht, hlx⟩ := hl.at hi
      rw [List.getElem?_map] at hlx
      obtain ⟨⟨p, e⟩, hy, rfl⟩ := Option.map_eq_some_iff.mp hlx
      have hil := (List.getElem?_eq_some_iff.mp hy).1
      have hdr : fs.drop i = (p, e) :: fs.drop (i + 1) := by rw [List.drop_eq_getElem_cons hil, (List.getElem?_eq_some_iff.mp hy).2]
      have er : fs.take (i + 1) = fs.take i ++ [(p, e)] := by rw [List.take_add_one, hy]; rfl
      have hp : QR.Pm p := (hf.prime _ (List.mem_of_getElem? hy)).1
      have hpd : p ∣ m' := div (p, e) (by rw [hdr]; exact List.mem_cons_self)
      have hT : SqT K H2 t [.int p, .int (e : Int)] := SqT.of (sm2 _ _ ht)
      have asc : ∀ x ∈ fs.drop (i + 1), QR.Pm x.1 ∧ x.1 ≠ p := fun x hx => by
        refine ⟨(hf.prime _ (List.mem_of_mem_drop hx)).1, ?_⟩
        have h := hf.asc
        rw [← List.take_append_drop i fs, hdr] at h
        have := (List.pairwise_cons.mp (List.pairwise_append.mp h).2.1).1 x hx
        dsimp only at this
        omega
      have tk : ∀ x ∈ fs.take i, QR.Pm x.1 := fun x hx => (hf.prime _ (List.mem_of_mem_take hx)).1
      have small : ∀ {m' : Int} {R' S' : List Int}, LeastOk m R S m' R' S' → 1 ≤ m' ∧ m' ≤ 4000 := fun ok => by
        have h1 := ok.desc.pos
        have h2 := Int.le_of_dvd (by omega) ok.sub.dvd
        omega
      wtm_at "rs"
      refine use_shortW nt2 ha2 (small ok).1 (small ok).2 hp hpd fun v H3 sm3 nt3 hv => ?_
      wtm_at "rs"
      refine rd_while (fun μ σ H' => ∃ (a' b' : Addr) (m' : Int) (R' S' : List Int) (v : V), μ = m'.toNat ∧ σ = [some (.int m'), some (.ref a'), some (.ref b'), some (.int p), some (.int (e : Int)), some v] ∧ Same H1 H' ∧ NoT H' ∧ H' a' = some (DFl R') ∧ H' b' = some (.lst (S'.map V.int)) ∧ LeastOk m R S m' R' S' ∧ (∀ x ∈ fs.take i, LowAt m' R' x.1) ∧ (∀ x ∈ fs.drop (i + 1), x.1 ∣ m') ∧ ShW H' v m' R' p) _
        ⟨a', b', m', R', S', v, rfl, rfl, sm2.trans sm3, nt3, sm3 _ _ ha2, sm3 _ _ hb2, ok, low, fun x hx => div x (by rw [hdr]; exact List.mem_cons_of_mem _ hx), hv⟩ ?_
      clear v H3 sm3 nt3 hv ha2 hb2 ok low div hpd a' b' m' R' S' v3 v4 v5
      rintro μ σ H3 ⟨a', b', m', R', S', v, rfl, rfl, sm3, nt3, ha2, hb2, ok, low, div, hv⟩
      rcases hv with ⟨rfl, hlow⟩ | ⟨D, L, rfl, hD, hpd, hsh⟩
      · wtm_at "rs"
        refine ⟨a', b', m', R', S', _, _, _, rfl, sm3, nt3, ha2, hb2, ok, fun x hx => ?_, div⟩
        rw [er] at hx
        rcases List.mem_append.mp hx with hx | hx
        · exact low x hx
        · rw [List.mem_singleton.mp hx]
          exact hlow
      · have ok2 := ok.next hp hpd hsh
        have sm0 := small ok
        have sm1 := small ok2
        have p2 := hp.1
        obtain ⟨d1, d2⟩ := div_pos_of sm0.1 p2 hpd
        have md : ∀ {s : Int}, s % p = 0 ↔ p ∣ s := ⟨Int.dvd_of_emod_eq_zero, Int.emod_eq_zero_of_dvd⟩
        have tail : ∀ (s : Int) (b4 : Addr) (S4 : List Int) (H4 : Hp) (σ : L2.St) (nx : L2.St → Hp → Prop) (bk ct : L2.St → Hp → Prop), σ = [some (.int s), some (.ref D), some (.ref b4), some (.int p), some (.int (e : Int)), some .non] → 1 ≤ s ∧ s ≤ 4000 → Same H1 H4 → NoT H4 → H4 D = some (DFl L) → H4 b4 = some (.lst (S4.map V.int)) →
            (∀ v H5, Same H1 H5 → NoT H5 → H5 D = some (DFl L) → H5 b4 = some (.lst (S4.map V.int)) → ShW H5 v s L p → nx [some (.int s), some (.ref D), some (.ref b4), some (.int p), some (.int (e : Int)), some v] H5) →
            if decide (s % p = 0) = true then tAsg (tCall spShort [] E (tCons (tVar 0) (tCons (tVar 1) (tCons (tVar 3) tNil)))) (gName 5) ⟨nx, Q, bk, ct⟩ σ H4 else tNext ⟨nx, Q, bk, ct⟩ σ H4 := fun s b4 S4 H4 σ nx bk ct hσ hs sm4 nt4 hD4 hb4 hn => by
          subst hσ
          wtm_at "i"
          · rename_i h
            wtm_at "rs"
            refine use_shortW nt4 hD4 hs.1 hs.2 hp (md.mp (by omega)) fun v H5 sm5 nt5 hv => ?_
            wtm_at "rs"
            exact hn v H5 (sm4.trans sm5) nt5 (sm5 _ _ hD4) (sm5 _ _ hb4) hv
          · rename_i h
            wtm_at "rs"
            exact hn .non H4 sm4 nt4 hD4 hb4 (.inl ⟨rfl, lowAt_nd fun z => h (md.mpr z)⟩)
        have low2 : ∀ x ∈ fs.take i, LowAt (m' / p) L x.1 := fun x hx => (low x hx).next hp (tk x hx) sm0.1 hpd hsh
        have div2 : ∀ x ∈ fs.drop (i + 1), x.1 ∣ m' / p := fun x hx => dvd_next (asc x hx).1 hp hpd (div x hx) (asc x hx).2
        have fewS : S'.length < 1000000 := by
          have := ok.few m2
          omega
        have pm := Int.le_of_dvd (by omega) hpd
        wtm_at "rs"
        clear hpd hsh
        generalize hs : m' / p = s at *
        have skip : nextS s L S' p = S' → ∀ (nx bk ct : L2.St → Hp → Prop), (∀ v H5, Same H1 H5 → NoT H5 → H5 D = some (DFl L) → H5 b' = some (.lst (S'.map V.int)) → ShW H5 v s L p → LeastOk m R S s L S' → nx [some (.int s), some (.ref D), some (.ref b'), some (.int p), some (.int (e : Int)), some v] H5) → ∀ σ, σ = [some (.int s), some (.ref D), some (.ref b'), some (.int p), some (.int (e : Int)), some .non] →
            if decide (s % p = 0) = true then tAsg (tCall spShort [] E (tCons (tVar 0) (tCons (tVar 1) (tCons (tVar 3) tNil)))) (gName 5) ⟨nx, Q, bk, ct⟩ σ H3 else tNext ⟨nx, Q, bk, ct⟩ σ H3 := fun en nx bk ct hn σ hσ => by
          rw [en] at ok2
          exact tail s b' S' H3 σ nx bk ct hσ sm1 sm3 nt3 hD hb2 fun v H5 c1 c2 c3 c4 c5 => hn v H5 c1 c2 c3 c4 c5 ok2
        by_cases c1 : p = 2
        · rw [if_neg (by rw [decide_eq_true c1]; decide)]
          wtm_at "rs"
          refine skip (if_neg fun z => z.1 c1) _ _ _ (fun v H5 c1 c2 c3 c4 c5 ok2 => ?_) _ rfl
          exact ⟨_, by omega, D, b', s, L, S', v, rfl, rfl, c1, c2, c3, c4, ok2, low2, div2, c5⟩
        · rw [if_pos (by rw [decide_eq_false c1]; rfl)]
          wtm_at "rs"
          by_cases c2 : p ∣ s
          · rw [if_neg (by rw [decide_eq_true (md.mpr c2)]; decide)]
            wtm_at "rs"
            refine skip (if_neg fun z => z.2.1 c2) _ _ _ (fun v H5 c1 c2 c3 c4 c5 ok2 => ?_) _ rfl
            exact ⟨_, by omega, D, b', s, L, S', v, rfl, rfl, c1, c2, c3, c4, ok2, low2, div2, c5⟩
          · rw [if_pos (by rw [decide_eq_false fun z => c2 (md.mp z)]; rfl)]
            wtm_at "rs"
            refine use_told (.inl hD) sm1.1 (by omega) ?_
            refine ⟨_, rfl, ?_⟩
            by_cases c3 : toldP s L p
            · rw [if_pos (decide_eq_true c3)]
              wtm_at "rs"
              refine use_tog nt3 hb2 fewS fun D5 H5 sm5 nt5 _ hD5 => ?_
              rw [show nextS s L S' p = togL S' p from if_pos ⟨c1, c3⟩] at ok2
              wtm_at "rs"
              refine tail s D5 _ H5 _ _ _ _ rfl sm1 (sm3.trans sm5) nt5 (sm5 _ _ hD) hD5 fun v H6 c1 c2 c3 c4 c5 => ?_
              exact ⟨_, by omega, D, D5, s, L, _, v, rfl, rfl, c1, c2, c3, c4, ok2, low2, div2, c5⟩
            · rw [if_neg (by rw [decide_eq_true_iff]; exact c3)]
              wtm_at "rs"
              refine skip (if_neg fun z => c3 z.2) _ _ _ (fun v H5 c1 c2 c3 c4 c5 ok2 => ?_) _ rfl
              exact ⟨_, by omega, D, b', s, L, S', v, rfl, rfl, c1, c2, c3, c4, ok2, low2, div2, c5⟩
    · rintro σ H2 ⟨a', b', m', R', S', v3, v4, v5, rfl, sm2, nt2, ha2, hb2, ok, low, div⟩
      rw [List.length_map, hl.len, List.length_map, List.take_length] at low
      wtm_at "rs"
      rename_i t ht
      refine q _ t a' b' m' R' S' ((sm.trans sm2).trans (same_new ht)) (NoT.upd nt2 rfl) ((sm.trans sm2).free ht) upd_same (upd_keep ha2 ht) (upd_keep hb2 ht) ok fun p hp d => ?_
      obtain ⟨x, hx, e⟩ := hf.mem.mpr ⟨hp, Int.dvd_trans d ok.sub.dvd⟩
      exact e ▸ low x hx (e ▸ d)
/-! ### checked_modulus_values -/
theorem ok_checked_modulus_values (T : Txt K mg Ad) : Def P w K mg base 3 "checked_modulus_values" ["modulus"] (spChkM Ad.c_BadModulus Ad.c_TooWide) := by
  refine T.d_checked_modulus_values.ok sc_checked_modulus_values (fun vs H Q E h => ?_) (fun f cdv A outer s H vs Q E hr h => ?_)
  · obtain ⟨m, rfl, _⟩ := h
    rfl
  · obtain ⟨m, rfl, q1, q2, q3⟩ := h
    refine ⟨_, (pss_cons (ps_if (pt_cmpR op_lt (pv 0) pe_int (nomark _)) (pss_one (ps_raise rfl (takes_of rfl rfl rfl rfl) (pmk_err (T.err_BadModulus) (hr.mono (by decide)) (pa_cons (pv 0) pa_nil)))) pss_nil)
      (pss_one (ps_if (pt_cmpR op_gt (pv 0) (pe_glob (v := .int 4000) rfl T.k_MOST_MODULUS ⟨_, rfl⟩) (nomark _)) (pss_one (ps_raise rfl (takes_of rfl rfl rfl rfl) (pmk_err (T.err_TooWide) (hr.mono (by decide)) (pa_cons (pv 0) pa_nil)))) pss_nil))), ?_⟩
    try dsimp only [cxOf]
    wtm_at "ra"
    · exact q1 (by omega)
    · exact q2 (by omega)
    · exact q3 (by omega) (by omega)
/-! ### Primes.__init__ -/
def pfl (m : Int) (tR tS : Addr) : List (Str × V) := [("modulus", .int m), ("rests", .ref tR), ("singles", .ref tS)]
theorem nmr : ¬ (("modulus" : Str) = "rests") := by decide +kernel
theorem nms : ¬ (("modulus" : Str) = "singles") := by decide +kernel
theorem nrs : ¬ (("rests" : Str) = "singles") := by decide +kernel
theorem pfl_put (a b c : V) : putF "singles" c (putF "rests" b (putF "modulus" a [])) = ([("modulus", a), ("rests", b), ("singles", c)] : List (Str × V)) := by
  simp only [putF, if_neg nmr, if_neg nms, if_neg nrs]
def RestOk (m r : Int) : Prop := 0 ≤ r ∧ r < m ∧ Int.gcd r m = 1
theorem sort_lt {ms l : List Int} (h : ms.Pairwise (· ≤ ·)) (p : ms.Perm l) (n : l.Nodup) : ms.Pairwise (· < ·) := (h.and (p.nodup_iff.mpr n)).imp fun h => by omega
theorem upd_off {G : Hp} {x b : Addr} {o o1 o2 : HO} (hx : G x = some o) (hb : G b = some o1) (h : o1 ≠ o) : upd G x o2 b = some o1 := by
  rw [upd_ne (ne_of hb hx h)]
  exact hb
def spPI (K : PySem.W.Frag) (C CM CW CR CP : Addr) : Sp := fun vs H Q E => ∃ (x dx a b : Addr) (m : Int) (R S : List Int), vs = [.ref x, .int m, .ref a, .ref b] ∧ H x = some (.ins C dx []) ∧ NoT H ∧ (SqL K H a (R.map V.int) ∨ SqT K H a (R.map V.int)) ∧ (SqL K H b (S.map V.int) ∨ SqT K H b (S.map V.int)) ∧ R.length ≤ 90000 ∧ S.length ≤ 4000 ∧ (∀ p ∈ S, p < 2 ^ 120) ∧
  (m < 1 → ∀ d, H d = none → E (.ref CM) (some d) (upd H d (.xd [("modulus", .int m)]))) ∧ (4000 < m → ∀ d, H d = none → E (.ref CW) (some d) (upd H d (.xd [("modulus", .int m)]))) ∧
  (1 ≤ m → m ≤ 4000 → (∀ l r rs, R = l ++ r :: rs → (∀ o ∈ l, RestOk m o) → ¬ RestOk m r → ∀ d, H d = none → E (.ref CR) (some d) (upd H d (.xd [("rest", .int r)]))) ∧
    ((∀ r ∈ R, RestOk m r) → (∀ l p r, S = l ++ p :: r → (∀ o ∈ l, QR.OP o) → ¬ QR.OP p → ∀ d, H d = none → E (.ref CP) (some d) (upd H d (.xd [("p", .int p)]))) ∧
      ((∀ p ∈ S, QR.OP p) → ∀ (H' : Hp) (tR tS : Addr) (m' : Int) (R' S' : List Int), But x H H' → NoT H' → H' x = some (.ins C dx (pfl m' tR tS)) → H' tR = some (.tup (R'.map V.int)) → H' tS = some (.tup (S'.map V.int)) → Made m R S m' R' S' → Q .non H')))
/-- the object p is the set with this description -/
def IsP (C : Addr) (H : Hp) (p : Addr) (m : Int) (R S : List Int) : Prop := ∃ dx tR tS, H p = some (.ins C dx (pfl m tR tS)) ∧ H tR = some (.tup (R.map V.int)) ∧ H tS = some (.tup (S.map V.int))
theorem IsP.mono {C : Addr} {H H' : Hp} {p : Addr} {m : Int} {R S : List Int} (h : IsP C H p m R S) (s : Same H H') : IsP C H' p m R S := let ⟨dx, tR, tS, a, b, c⟩ := h; ⟨dx, tR, tS, s _ _ a, s _ _ b, s _ _ c⟩
theorem IsP.rig {C : Addr} {H : Hp} {p : Addr} {m : Int} {R S : List Int} (h : IsP C H p m R S) : Rig (fun G => IsP C G p m R S) H := fun G k => let ⟨dx, tR, tS, a, b, c⟩ := h; ⟨dx, tR, tS, k _ _ rfl a, k _ _ rfl b, k _ _ rfl c⟩
local macro_rules | `(tactic| wtm_at "ip") => `(tactic| first
  | with_reducible assumption
  | (with_reducible exact Hv.zAt (P := fun G => IsP _ G _ _ _ _) (by assumption) (by wtm_at "mem"))
  | (with_reducible refine IsP.mono ?_ (by with_reducible assumption); wtm_at "ip")
  | fail)
theorem mk_P {K : PySem.W.Frag} {C CM CW CR CP : Addr} {H1 : Hp} {Rk : Addr → Hp → Prop} {E : XK} {a b : Addr} {m : Int} {R S : List Int} (nt : NoT H1) (ha : SqL K H1 a (R.map V.int) ∨ SqT K H1 a (R.map V.int)) (hb : SqL K H1 b (S.map V.int) ∨ SqT K H1 b (S.map V.int)) (lR : R.length ≤ 90000) (lS : S.length ≤ 4000) (bS : ∀ p ∈ S, p < 2 ^ 120)
    (m1 : 1 ≤ m) (m2 : m ≤ 4000) (hR : ∀ r ∈ R, RestOk m r) (hS : ∀ p ∈ S, QR.OP p) (q : ∀ (x : Addr) (H' : Hp) (m' : Int) (R' S' : List Int), Same H1 H' → NoT H' → H1 x = none → IsP C H' x m' R' S' → Made m R S m' R' S' → Rk x H') :
    ∀ x dx, H1 x = none → H1 dx = none → dx ≠ x → spPI K C CM CW CR CP [.ref x, .int m, .ref a, .ref b] (upd (upd H1 dx (.own x)) x (.ins C dx [])) (fun v H2 => v = .non ∧ Rk x H2) E := by
  intro x dx nx nd ne
  have sm : Same H1 (upd (upd H1 dx (.own x)) x (.ins C dx [])) := same_upd2 (same_new nd) nx
  refine ⟨x, dx, a, b, m, R, S, rfl, upd_same, NoT.upd (NoT.upd nt rfl) rfl, ha.imp sm.seq sm.seqT, hb.imp sm.seq sm.seqT, lR, lS, bS, fun z => by omega, fun z => by omega, fun _ _ => ⟨fun l r rs e _ n => absurd (hR r (by rw [e]; simp)) n, fun _ => ⟨fun l p r e _ n => absurd (hS p (by rw [e]; simp)) n, fun _ H' tR tS m' R' S' bu n' hx h1 h2 md => ⟨rfl, ?_⟩⟩⟩⟩
  refine q x H' m' R' S' (fun b o e => bu b o (fun z => ?_) (sm b o e)) n' nx ⟨dx, tR, tS, hx, h1, h2⟩ md
  rw [z, nx] at e
  cases e
theorem ok_Primes_init (T : Txt K mg Ad) : MkDef P w K mg base 5 "Primes" Ad.c_Primes ["self", "modulus", "rests", "singles"] (spPI K Ad.c_Primes Ad.c_BadModulus Ad.c_TooWide Ad.c_BadRest Ad.c_BadPrime) := by
  refine T.d_Primes_init.ok sc_Primes_init (fun vs H Q E h => ?_) (fun f cdv A outer s H vs Q E hr h => ?_)
  · obtain ⟨x, dx, a, b, m, R, S, rfl, _⟩ := h
    rfl
  · obtain ⟨x, dx, a, b, m, R, S, rfl, hx, nt, ha, hb, lR, lS, bS, qm, qw, h⟩ := h
    refine ⟨_, (pss_cons (ps_expr (pe_d (ok_checked_modulus_values T) (hr.mono (by decide)) (passes_call (takes_of rfl rfl rfl rfl) (fun _ _ _ _ h => h)) (pa_cons (pv 1) pa_nil)))
      (pss_cons (ps_for (passes_of rfl) rfl (pi_alt (pi_list (pv 2)) (pi_tup (pv 2))) (pg_name (i := 4) sc_Primes_init.nd rfl (Or.inl rfl)) (pss_one (ps_if (PW.pt (pw_or (pt_cmpR op_lt (pv 4) pe_int (nomark _)) (pw_or (pt_cmpR op_ge (pv 4) (pv 1) (nomark _)) (pw_or1 (pt_cmpR op_ne (pe_d (ok_common T) (hr.mono (by decide)) (passes_call (takes_of rfl rfl rfl rfl) (fun _ _ _ _ h => h)) (pa_cons (pv 4) (pa_cons (pv 1) pa_nil))) pe_int (nomark _)))))) (pss_one (ps_raise rfl (takes_of rfl rfl rfl rfl) (pmk_err (T.err_BadRest) (hr.mono (by decide)) (pa_cons (pv 4) pa_nil)))) pss_nil)))
      (pss_cons (ps_expr (pe_d (ok_checked_singles T) (hr.mono (by decide)) (passes_call (takes_of rfl rfl rfl rfl) (fun _ _ _ _ h => h)) (pa_cons (pv 3) pa_nil)))
      (pss_cons (ps_set (i := 5) sc_Primes_init.nd rfl (Or.inl rfl) (pe_d (ok_least_description T) (hr.mono (by decide)) (passes_call (takes_of rfl rfl rfl rfl) (fun _ _ _ _ h => h)) (pa_cons (pv 1) (pa_cons (pe_dc (own := [("rest", 4)]) (tk := (tVar 4)) (tv := (tC (.bl true))) rfl sc_Primes_init.nd  (pi_alt (pi_list (pv 2)) (pi_tup (pv 2))) (blkOk_by (own := [("rest", 4)]) (N := ["self", "modulus", "rests", "singles", "rest", "found"]) (sc := defScope s_Primes_init) (by decide +kernel)) (fun _ _ _ _ _ => (pg_name (i := 4) sc_Primes_init.nd rfl (Or.inl rfl))) (fun _ _ _ _ _ => pts_nil) (fun _ _ _ _ _ => (pv 4)) (fun _ _ _ _ _ => pe_bl)) (pa_cons (pe_callB (cr_sortSetN rfl) (by rfl) T.b_sorted (by decide +kernel) (pa_cons (pe_callTy (cr_setOf rfl) (by rfl) T.b_set (by decide +kernel) (pa_cons (pv 3) pa_nil)) pa_nil)) pa_nil)))))
      (pss_cons (ps_fldC (pv 0) (pe_ix ix_tup (pv 5) pe_int (fun _ _ => rfl)) T.cl_Primes T.nf_Primes_modulus)
      (pss_cons (ps_fldC (pv 0) (pe_callTy call_tupN (by rfl) T.b_tuple (by decide +kernel) (pa_cons (pe_callB cr_sortedI (by rfl) T.b_sorted (by decide +kernel) (pa_cons (pe_callTy (c_listD rfl) (by rfl) T.b_list (by decide +kernel) (pa_cons (pe_ix ix_tup (pv 5) pe_int (fun _ _ => rfl)) pa_nil)) pa_nil)) pa_nil)) T.cl_Primes T.nf_Primes_rests)
      (pss_one (ps_fldC (pv 0) (pe_callTy call_tupN (by rfl) T.b_tuple (by decide +kernel) (pa_cons (pe_callB cr_sortedI (by rfl) T.b_sorted (by decide +kernel) (pa_cons (pe_ix ix_tup (pv 5) pe_int (fun _ _ => rfl)) pa_nil)) pa_nil)) T.cl_Primes T.nf_Primes_singles)))))))), ?_⟩
    try dsimp only [cxOf]
    wtm_at "rs"
    refine ⟨m, rfl, qm, qw, fun m1 m2 => ?_⟩
    obtain ⟨qr, h⟩ := h m1 m2
    wtm_at "rs"
    refine rd_forS rfl ha (fun i σ => ∃ v4, σ = [some (.ref x), some (.int m), some (.ref a), some (.ref b), v4, none] ∧ ∀ o ∈ R.take i, RestOk m o) ⟨none, rfl, by simp⟩ ?_ ?_
    · rintro i v σ hi ⟨v4, rfl, low⟩
      rw [List.getElem?_map] at hi
      obtain ⟨r, hr, rfl⟩ := Option.map_eq_some_iff.mp hi
      have hil := (List.getElem?_eq_some_iff.mp hr).1
      have er : R.take (i + 1) = R.take i ++ [r] := by rw [List.take_add_one, hr]; rfl
      have bad : ¬ RestOk m r → ∀ d, H d = none → E (.ref Ad.c_BadRest) (some d) (upd H d (.xd [("rest", .int r)])) := qr (R.take i) r (R.drop (i + 1)) (by
        have := (List.take_append_drop i R).symm
        rw [List.drop_eq_getElem_cons hil, (List.getElem?_eq_some_iff.mp hr).2] at this
        exact this) low
      have fin : RestOk m r → ∀ (σ' : L2.St), σ' = [some (.ref x), some (.int m), some (.ref a), some (.ref b), some (.int r), none] → H = H ∧ ∃ v4, σ' = [some (.ref x), some (.int m), some (.ref a), some (.ref b), v4, none] ∧ ∀ o ∈ R.take (i + 1), RestOk m o := fun ok σ' e => ⟨rfl, _, e, fun o ho => by
        rw [er] at ho
        rcases List.mem_append.mp ho with ho | ho
        · exact low o ho
        · rw [List.mem_singleton.mp ho]
          exact ok⟩
      wtm_at "rs"
      by_cases h1 : r < 0
      · rw [if_pos (decide_eq_true h1), if_pos rfl]
        wtm_at "rs"
        exact bad fun z => by have := z.1; omega
      · rw [if_neg (by rw [decide_eq_true_iff]; exact h1)]
        wtm_at "rs"
        by_cases h2 : m ≤ r
        · rw [if_pos (decide_eq_true h2), if_pos rfl]
          wtm_at "rs"
          exact bad fun z => by have := z.2.1; omega
        · rw [if_neg (by rw [decide_eq_true_iff]; exact h2)]
          wtm_at "rs"
          by_cases h3 : Int.gcd r m = 1
          · rw [if_neg (by simp [h3])]
            wtm_at "rs"
            exact fin ⟨by omega, by omega, h3⟩ _ rfl
          · rw [if_pos (by rw [Bool.not_eq_true', decide_eq_false_iff_not]; omega)]
            wtm_at "rs"
            exact bad fun z => h3 z.2.2
    · rintro σ ⟨v4, rfl, low⟩
      rw [List.length_map, List.take_length] at low
      obtain ⟨qp, q⟩ := h low
      wtm_at "rs"
      refine ⟨b, S, rfl, hb, bS, qp, fun hS => ?_⟩
      replace q := q hS
      wtm_at "rs"
      refine rd_dcS rfl ha (fun D l r rs hD hx => ?_) fun D1 hD1 => ?_
      · wtm_at "r"
        refine ⟨rfl, ?_⟩
        wtm_at "rs"
        exact put_F (by
          have := congrArg List.length hx
          rw [List.length_append] at this
          omega) rfl
      · have s1 : Same H (upd H D1 (DFl (ofL R))) := same_new hD1
        have n1 : NoT (upd H D1 (DFl (ofL R))) := NoT.upd nt rfl
        have d1 : upd H D1 (DFl (ofL R)) D1 = some (DFl (ofL R)) := upd_same
        generalize upd H D1 (DFl (ofL R)) = G1 at *
        wtm_at "rs"
        refine ⟨b, S, rfl, hb.imp s1.seq s1.seqT, by omega, fun D2 n hD2 => ?_⟩
        have s2 : Same G1 (upd G1 D2 (SetO w D2 (inS S) n)) := same_new hD2
        have n2 : NoT (upd G1 D2 (SetO w D2 (inS S) n)) := NoT.upd n1 rfl
        have d2 : upd G1 D2 (SetO w D2 (inS S) n) D2 = some (SetO w D2 (inS S) n) := upd_same
        generalize upd G1 D2 (SetO w D2 (inS S) n) = G2 at *
        wtm_at "rs"
        refine rd_sortSetN d2 fun ns p3 i3 e3 h3 => ?_
        have s3 : Same G2 (upd G2 p3 (.lst (ns.map V.int))) := same_new h3
        have n3 : NoT (upd G2 p3 (.lst (ns.map V.int))) := NoT.upd n2 rfl
        have d3 : upd G2 p3 (.lst (ns.map V.int)) p3 = some (.lst (ns.map V.int)) := upd_same
        generalize upd G2 p3 (.lst (ns.map V.int)) = G3 at *
        have nsn : ns.Nodup := i3.imp fun h => by omega
        have nsl : ns.length ≤ S.length := nodup_sub_len nsn fun k hk => (e3 k).mp hk
        wtm_at "rs"
        refine ⟨D1, p3, m, ofL R, ns, rfl, n3, s3 _ _ (s2 _ _ d1), d3, m2, ⟨m1, fun r hr => low r (mem_ofL.mp hr), fun p hp => hS p ((e3 p).mp hp)⟩, nodup_ofL, nsn, by omega, fun G4 t a' b' m' R' S' s4 n4 _ ht ha4 hb4 ok lo => ?_⟩
        have few := ok.few m2
        have s04 : Same H G4 := ((s1.trans s2).trans s3).trans s4
        have x4 : G4 x = some (.ins Ad.c_Primes dx []) := s04 _ _ hx
        have hT : SqT K G4 t [.int m', .ref a', .ref b'] := SqT.of ht
        clear s1 s2 s3 s4 n1 n2 n3 d1 d2 d3 hD1 hD2 h3 hb ha
        have x5 : upd G4 x (.ins Ad.c_Primes dx (putF "modulus" (.int m') [])) x = some (.ins Ad.c_Primes dx (putF "modulus" (.int m') [])) := upd_same
        have t5 : upd G4 x (.ins Ad.c_Primes dx (putF "modulus" (.int m') [])) t = some (.tup [.int m', .ref a', .ref b']) := upd_off x4 ht (by intro z; cases z)
        have a5 : upd G4 x (.ins Ad.c_Primes dx (putF "modulus" (.int m') [])) a' = some (DFl R') := upd_off x4 ha4 (by intro z; cases z)
        have b5 : upd G4 x (.ins Ad.c_Primes dx (putF "modulus" (.int m') [])) b' = some (.lst (S'.map V.int)) := upd_off x4 hb4 (by intro z; cases z)
        have n5 : NoT (upd G4 x (.ins Ad.c_Primes dx (putF "modulus" (.int m') []))) := NoT.upd n4 rfl
        have B5 : But x H (upd G4 x (.ins Ad.c_Primes dx (putF "modulus" (.int m') []))) := (But.of s04).put
        have tT5 := SqT.of (K := K) t5
        wtm_at "rs"
        rename_i D6 h6
        generalize upd G4 x (.ins Ad.c_Primes dx (putF "modulus" (.int m') [])) = G5 at *
        intro ms D7 perm le7 h7
        have B7 := (B5.new (o := .lst (R'.map V.int)) h6).new (o := .lst (ms.map V.int)) h7
        have x7 := upd_keep (u := .lst (ms.map V.int)) (upd_keep (u := .lst (R'.map V.int)) x5 h6) h7
        have t7 := upd_keep (u := .lst (ms.map V.int)) (upd_keep (u := .lst (R'.map V.int)) t5 h6) h7
        have b7 := upd_keep (u := .lst (ms.map V.int)) (upd_keep (u := .lst (R'.map V.int)) b5 h6) h7
        have n7 : NoT (upd (upd G5 D6 (.lst (R'.map V.int))) D7 (.lst (ms.map V.int))) := NoT.upd (NoT.upd n5 rfl) rfl
        have d7 : upd (upd G5 D6 (.lst (R'.map V.int))) D7 (.lst (ms.map V.int)) D7 = some (.lst (ms.map V.int)) := upd_same
        generalize upd (upd G5 D6 (.lst (R'.map V.int))) D7 (.lst (ms.map V.int)) = G7 at *
        wtm_at "rs"
        refine ⟨D7, _, rfl, .inl ⟨SqL.of d7, fun t8 h8 => ?_⟩⟩
        have B8 := B7.new (o := .tup (ms.map V.int)) h8
        have x8 := upd_keep (u := .tup (ms.map V.int)) x7 h8
        have t8' := upd_keep (u := .tup (ms.map V.int)) t7 h8
        have b8 := upd_keep (u := .tup (ms.map V.int)) b7 h8
        have n8 : NoT (upd G7 t8 (.tup (ms.map V.int))) := NoT.upd n7 rfl
        have d8 : upd G7 t8 (.tup (ms.map V.int)) t8 = some (.tup (ms.map V.int)) := upd_same
        generalize upd G7 t8 (.tup (ms.map V.int)) = G8 at *
        wtm_at "rs"
        have O9 : But x H (upd G8 x (.ins Ad.c_Primes dx (putF "rests" (.ref t8) (putF "modulus" (.int m') [])))) := B8.put
        have x9 : upd G8 x (.ins Ad.c_Primes dx (putF "rests" (.ref t8) (putF "modulus" (.int m') []))) x = some (.ins Ad.c_Primes dx (putF "rests" (.ref t8) (putF "modulus" (.int m') []))) := upd_same
        have n9 : NoT (upd G8 x (.ins Ad.c_Primes dx (putF "rests" (.ref t8) (putF "modulus" (.int m') [])))) := NoT.upd n8 rfl
        have t9 := SqT.of (K := K) (upd_off (o2 := .ins Ad.c_Primes dx (putF "rests" (.ref t8) (putF "modulus" (.int m') []))) x8 t8' (by intro z; cases z))
        have b9 := upd_off (o2 := .ins Ad.c_Primes dx (putF "rests" (.ref t8) (putF "modulus" (.int m') []))) x8 b8 (by intro z; cases z)
        have r9 := upd_off (o2 := .ins Ad.c_Primes dx (putF "rests" (.ref t8) (putF "modulus" (.int m') []))) x8 d8 (by intro z; cases z)
        generalize upd G8 x (.ins Ad.c_Primes dx (putF "rests" (.ref t8) (putF "modulus" (.int m') []))) = G9 at *
        wtm_at "rs"
        intro ns2 D10 perm2 le10 h10
        have B10 := O9.new (o := .lst (ns2.map V.int)) h10
        have x10 := upd_keep (u := .lst (ns2.map V.int)) x9 h10
        have r10 := upd_keep (u := .lst (ns2.map V.int)) r9 h10
        have n10 : NoT (upd G9 D10 (.lst (ns2.map V.int))) := NoT.upd n9 rfl
        have d10 : upd G9 D10 (.lst (ns2.map V.int)) D10 = some (.lst (ns2.map V.int)) := upd_same
        generalize upd G9 D10 (.lst (ns2.map V.int)) = G10 at *
        wtm_at "rs"
        refine ⟨D10, _, rfl, .inl ⟨SqL.of d10, fun t11 h11 => ?_⟩⟩
        have B11 := B10.new (o := .tup (ns2.map V.int)) h11
        have x11 := upd_keep (u := .tup (ns2.map V.int)) x10 h11
        have r11 := upd_keep (u := .tup (ns2.map V.int)) r10 h11
        have n11 : NoT (upd G10 t11 (.tup (ns2.map V.int))) := NoT.upd n10 rfl
        have d11 : upd G10 t11 (.tup (ns2.map V.int)) t11 = some (.tup (ns2.map V.int)) := upd_same
        generalize upd G10 t11 (.tup (ns2.map V.int)) = G11 at *
        wtm_at "rs"
        refine q _ t8 t11 m' ms ns2 B11.put (NoT.upd n11 rfl) (by rw [upd_same, pfl_put]; rfl) (upd_off x11 r11 (by intro z; cases z)) (upd_off x11 d11 (by intro z; cases z)) ?_
        exact ok.made lo m2 (fun k => mem_ofL) e3 nsl (fun k => perm.mem_iff) (fun k => perm2.mem_iff) (Nat.le_of_eq perm2.length_eq) (sort_lt le7 perm ok.rn) (sort_lt le10 perm2 ok.sn)
/-! ### units_counts -/
theorem ok_units_counts (T : Txt K mg Ad) : Def P w K mg base 2 "units_counts" ["modulus"] spUnits := by
  refine T.d_units_counts.ok sc_units_counts (fun vs H Q E h => ?_) (fun f cdv A outer s H vs Q E hr h => ?_)
  · obtain ⟨m, rfl, _⟩ := h
    rfl
  · obtain ⟨m, rfl, m1, m2, q⟩ := h
    refine ⟨_, (pss_one (ps_ret (pe_lc (own := [("rest", 1)])  (te := (tVar 1)) (tt := (tTest (tOp rEq (tCall (spCommon) [] E0 (tCons (tVar 1) (tCons (tVar 0) tNil))) (tC (.int 1))))) rfl sc_units_counts.nd  (pi_range1 (by rfl) T.b_range (pa_cons (pv 0) pa_nil)) (blkOk_by (own := [("rest", 1)]) (N := ["modulus", "rest"]) (sc := defScope s_units_counts) (by decide +kernel)) (fun _ _ _ _ _ => (pg_name (i := 1) sc_units_counts.nd rfl (Or.inl rfl))) (fun _ _ _ _ _ => (pts_one (pt_cmpR op_eq (pe_d (E := E0) (ok_common T) (hr.mono (by decide)) passL (pa_cons (pv 1) (pa_cons (pv 0) pa_nil))) pe_int (nomark _)))) (fun _ _ _ _ _ => (pv 1))))), ?_⟩
    try dsimp only [cxOf]
    wtm_at "rs"
    refine rd_lcR (fun i : Nat => decide (Int.gcd (0 + (i : Int)) m = 1)) (fun i : Nat => V.int (0 + (i : Int))) (fun D i hD hi => ?_) fun D hD => ?_
    · wtm_at "r"
      refine ⟨rfl, ?_⟩
      wtm_at "rs"
      wtm_at "i"
      · rename_i h
        wtm_at "rs"
        exact put_R (by omega) (decide_eq_true (by omega)) rfl
      · rename_i h
        wtm_at "rs"
        exact skip_R (decide_eq_false (by omega))
    · rw [units_res]
      wtm_at "rs"
      exact q D hD
/-! ### by_sign -/
/-- the set of the primes with a sign -/
structure SgSet (n w s : Int) (m' : Int) (R' S' : List Int) : Prop where
  pf : Pf (cond s) 111 (fun x => decide (chi s (cond s) (x % cond s) = w)) (fun p => decide (sgn n p = w)) m' R' S'
  full : w ≠ 0 → m' = cond s ∧ R' = chiR s w
  zero : w = 0 → R' = []
theorem sgn_core {n s r p : Int} (c : CoreOk n s r) (hp : QR.OP p) (h : ¬ p ∣ n) : sgn n p = sgn s p := by
  have p3 := hp.three
  have hr : ¬ p ∣ r := fun z => h (by rw [← c.prod]; exact Int.dvd_mul_of_dvd_right z)
  rw [← c.prod, Int.mul_assoc, sgn_mul (by omega) hp.2, sgn_mul (by omega) hp.2 r r, sgn_sq (by omega) hp.2, if_pos, Int.mul_one]
  rw [Int.gcd_comm]
  exact (QR.pm_cop hp.1).mpr hr
theorem sg_set {n s r w m' : Int} {R' S' l : List Int} (c : CoreOk n s r) (h0 : n ≠ 0) (c4 : cond s ≤ 4000) (hw : w = 1 ∨ w = -1) (oq : OddQ n l) (md : Made (cond s) (chiR s w) (l.filter fun p => decide (p % cond s ∈ chiR s w)) m' R' S') (sm : ∀ p ∈ l, p < 2 ^ 120) : SgSet n w s m' R' S' := by
  have s0 := (c.bound h0 (B := (n.natAbs : Int)) (by omega) (by omega)).1
  have full := chi_made s0 c.free hw md
  refine ⟨⟨⟨md.least, by rw [full.1]; exact Int.dvd_refl _, fun x hx => ?_, fun p hp => ?_⟩, ?_, fun p hp => ?_⟩, fun _ => full, fun z => by rcases hw with e | e <;> omega⟩
  · rw [full.1, full.2]
    exact dec_iff.mpr (mem_chiR s0 hx)
  · rw [dec_iff.mpr (md.mem p (.inl hp))]
    refine dec_iff.mpr ?_
    have p3 := hp.three
    unfold memP toldP
    have e : p ∈ l.filter (fun p => decide (p % cond s ∈ chiR s w)) ↔ p ∣ n ∧ p % cond s ∈ chiR s w := by
      rw [List.mem_filter, oq.2.1 p, decide_eq_true_iff]
      simp [hp]
    rw [e]
    by_cases d : p ∣ n
    · have z : sgn n p = 0 := sgn_at0 hp (Int.emod_eq_zero_of_dvd d)
      rw [z]
      by_cases d2 : p ∣ cond s
      · have : p % cond s ∉ chiR s w := fun y => by
          have := (mem_uL.mp (chiR_unit y)).2.2
          have := QR.cop_emod.mp this
          exact (QR.pm_cop hp.1).mp this d2
        simp [d2, this]
        rcases hw with e | e <;> omega
      · simp [d, d2]
        rcases hw with e | e <;> omega
    · have d2 : ¬ p ∣ cond s := fun y => d (by
        rw [← c.prod]
        refine Int.dvd_mul_of_dvd_left (Int.dvd_mul_of_dvd_left ?_)
        unfold cond at y
        split at y
        · exact Int.dvd_natAbs.mp y
        · rcases QR.Pm.dvd_mul hp.1 y with z | z
          · rcases QR.Pm.dvd_mul hp.1 (show p ∣ 2 * 2 from z) with z | z <;> (have := Int.le_of_dvd (by decide) z; omega)
          · exact Int.dvd_natAbs.mp z)
      rw [mem_chiR s0 ((QR.pm_cop hp.1).mpr d2), chi_eq s0 (by omega) hp.2, sgn_core c hp d]
      simp [d, d2]
  · have a := md.few
    have b := List.length_filter_le (fun p => decide (p % cond s ∈ chiR s w)) l
    have := oq.2.2
    omega
  · have p1 := cond_pos s0
    rcases md.src p hp with z | z
    · exact sm p (List.mem_filter.mp z).1
    · have := Int.le_of_dvd (by omega) z
      omega
theorem sg_zero {n s r m' : Int} {R' S' l : List Int} (c : CoreOk n s r) (h0 : n ≠ 0) (oq : OddQ n l) (md : Made 1 [] l m' R' S') (sm : ∀ p ∈ l, p < 2 ^ 120) : SgSet n 0 s m' R' S' := by
  have s0 := (c.bound h0 (B := (n.natAbs : Int)) (by omega) (by omega)).1
  have z := md.fits (M := cond s) (Int.one_dvd _)
  have lo := oq.2.2
  have fe := md.few
  refine ⟨⟨⟨z.least, z.dvd, fun x hx => ?_, fun p hp => ?_⟩, by omega, fun p hp => ?_⟩, fun e => absurd rfl e, fun _ => (md.nil_sing (by decide)).1⟩
  · rw [z.germ x hx]
    have := chi_pm s0 hx
    refine dec_iff.mpr ?_
    simp
    omega
  · rw [z.mem p hp]
    refine dec_iff.mpr ?_
    rw [mem_only, oq.2.1 p]
    constructor
    · exact fun y => sgn_at0 hp (Int.emod_eq_zero_of_dvd y.2)
    · intro y
      refine ⟨hp, Classical.byContradiction fun d => ?_⟩
      rcases sgn_away hp (fun e => d (Int.dvd_of_emod_eq_zero e)) with e | e <;> omega
  · rcases md.src p hp with y | y
    · exact sm p y
    · have := Int.le_of_dvd (by decide) y
      omega
def spBySg (C : Addr) : Sp := fun vs H Q _ => ∃ n w s r : Int, vs = [.int n, .int w] ∧ NoT H ∧ n ≠ 0 ∧ -(2 ^ 60) < n ∧ n < 2 ^ 60 ∧ CoreOk n s r ∧ cond s ≤ 4000 ∧ (w = 0 ∨ w = 1 ∨ w = -1) ∧ ∀ (x : Addr) (H' : Hp) (m' : Int) (R' S' : List Int), Same H H' → NoT H' → H x = none → IsP C H' x m' R' S' → SgSet n w s m' R' S' → Q (.ref x) H'
theorem use_bySg {C : Addr} {n w s r : Int} {H : Hp} {Q : VK} {E : XK} (nt : NoT H) (h0 : n ≠ 0) (h1 : -(2 ^ 60) < n) (h2 : n < 2 ^ 60) (c : CoreOk n s r) (c4 : cond s ≤ 4000) (hw : w = 0 ∨ w = 1 ∨ w = -1) (q : ∀ (x : Addr) (H' : Hp) (m' : Int) (R' S' : List Int), Same H H' → NoT H' → H x = none → IsP C H' x m' R' S' → SgSet n w s m' R' S' → Q (.ref x) H') : spBySg C [.int n, .int w] H Q E := ⟨n, w, s, r, rfl, nt, h0, h1, h2, c, c4, hw, q⟩
theorem ok_by_sign (T : Txt K mg Ad) : Def P w K mg base 7 "by_sign" ["n", "s"] (spBySg Ad.c_Primes) := by
  refine T.d_by_sign.ok sc_by_sign (fun vs H Q E h => ?_) (fun f cdv A outer s H vs Q E hr h => ?_)
  · obtain ⟨n, w, s, r, rfl, _⟩ := h
    rfl
  · obtain ⟨n, wd, s, r, rfl, nt, h0, h1, h2, c, c4, hw, q⟩ := h
    refine ⟨_, (pss_cons (ps_if (pt_cmpR op_eq (pv 1) pe_int (nomark _)) (pss_one (ps_ret (pe_mkd (ok_Primes_init T) (hr.mono (by decide)) (passes_call (takes_of rfl rfl rfl rfl) (fun _ _ _ _ h => h)) (pa_cons pe_int (pa_cons (pe_lst pa_nil) (pa_cons (pe_d (ok_odd_primes_of T) (hr.mono (by decide)) (passes_call (takes_of rfl rfl rfl rfl) (fun _ _ _ _ h => h)) (pa_cons (pv 0) pa_nil)) pa_nil)))))) pss_nil)
      (pss_cons (ps_set (i := 2) sc_by_sign.nd rfl (Or.inr rfl) (pe_d (ok_conductor T) (hr.mono (by decide)) (passes_call (takes_of rfl rfl rfl rfl) (fun _ _ _ _ h => h)) (pa_cons (pv 0) pa_nil)))
      (pss_cons (ps_set (i := 3) sc_by_sign.nd rfl (Or.inr rfl) (pe_lc (own := [("rest", 5)])  (te := (tVar 5)) (tt := (tTest (tOp rEq (tCall (spSbr) [] E0 (tCons (tVar 0) (tCons (tVar 5) (tCons (tVar 2) tNil)))) (tVar 1)))) rfl sc_by_sign.nd  (pi_list (pe_d (ok_units_counts T) (hr.mono (by decide)) (passes_call (takes_of rfl rfl rfl rfl) (fun _ _ _ _ h => h)) (pa_cons (pv 2) pa_nil))) (blkOk_by (own := [("rest", 5)]) (N := ["n", "s", "modulus", "rests", "left_out", "rest", "p"]) (sc := defScope s_by_sign) (by decide +kernel)) (fun _ _ _ _ _ => (pg_name (i := 5) sc_by_sign.nd rfl (Or.inl rfl))) (fun _ _ _ _ _ => (pts_one (pt_cmpR op_eq (pe_d (E := E0) (ok_sign_by_rest T) (hr.mono (by decide)) passL (pa_cons (pv 0) (pa_cons (pv 5) (pa_cons (pv 2) pa_nil)))) (pv 1) (nomark _)))) (fun _ _ _ _ _ => (pv 5))))
      (pss_cons (ps_setLc (i := 4) (own := [("p", 6)])  (te := (tVar 6)) (tt := (tTest (tOp (rIn K false) (tOp (rI (fun _ j => 0 < j) fun i j => .int (i % j)) (tVar 6) (tVar 2)) (tVar 3)))) rfl sc_by_sign.nd rfl rfl (sw_true rfl rfl rfl (by decide +kernel)) (pi_list (pe_d (ok_odd_primes_of T) (hr.mono (by decide)) (passes_call (takes_of rfl rfl rfl rfl) (fun _ _ _ _ h => h)) (pa_cons (pv 0) pa_nil))) (blkOk_by (own := [("p", 6)]) (N := ["n", "s", "modulus", "rests", "left_out", "rest", "p"]) (sc := defScope s_by_sign) (by decide +kernel)) (fun _ _ _ _ _ => (pg_name (i := 6) sc_by_sign.nd rfl (Or.inl rfl))) (fun _ _ _ _ _ => (pts_one (pt_cmpR op_in_seq (pe_op op_mod (pv 6) (pv 2)) (pv 3) (by rfl)))) (fun _ _ _ _ _ => (pv 6)))
      (pss_one (ps_ret (pe_mkd (ok_Primes_init T) (hr.mono (by decide)) (passes_call (takes_of rfl rfl rfl rfl) (fun _ _ _ _ h => h)) (pa_cons (pv 2) (pa_cons (pv 3) (pa_cons (pv 4) pa_nil)))))))))), ?_⟩
    try dsimp only [cxOf]
    have B := Hv.start nt
    have s0 := (c.bound h0 (B := (n.natAbs : Int)) (by omega) (by omega)).1
    have p1 := cond_pos s0
    have sml : ∀ {l : List Int}, OddQ n l → ∀ p ∈ l, p < 2 ^ 120 := fun {l} oq p hp => by
      have d := ((oq.2.1 p).mp hp).2
      have := Int.le_of_dvd (b := (n.natAbs : Int)) (by omega) (Int.dvd_natAbs.mpr d)
      omega
    wtm_at "rs"
    by_cases w0 : wd = 0
    · subst w0
      rw [if_pos (by decide)]
      wtm_at "rs"
      rename_i L hL
      have B := B.newL (o := .lst []) hL
      clear hL
      refine B.gen fun G B => ?_
      refine use_oddQ B.nt h0 h1 h2 fun O G2 l s2 n2 hO hO' oq => ?_
      have B := B.got s2 n2 hO hO'
      clear s2 n2 hO hO'
      refine B.gen fun G B => ?_
      have lo := oq.2.2
      wtm_at "rs"
      refine mk_P (R := []) B.nt (.inl (SqL.of (B.lAt (a := L) (o := .lst []) (by wtm_at "mem")))) (.inl (SqL.of (B.lAt (a := O) (by wtm_at "mem")))) (by simp) (by omega) (sml oq) (by decide) (by decide) (fun r hr => absurd hr List.not_mem_nil) (fun p hp => ((oq.2.1 p).mp hp).1) fun x G2 m' R' S' s2 n2 hx ip md => ?_
      exact q x G2 m' R' S' (B.same.trans s2) n2 (B.free hx) ip (sg_zero c h0 oq md (sml oq))
    rw [if_neg (by rw [decide_eq_true_iff]; exact w0)]
    have hw : wd = 1 ∨ wd = -1 := by omega
    wtm_at "rs"
    refine use_cond B.nt h0 h1 h2 c ?_
    wtm_at "rs"
    refine use_units p1 (by omega) fun U hU => ?_
    have B := B.newL (o := .lst ((uL (cond s)).map V.int)) hU
    clear hU
    refine B.gen fun G B => ?_
    wtm_at "rs"
    have ul := @uL_len (cond s)
    refine rd_lcI (fun r => decide (chi s (cond s) r = wd)) V.int (SqL.of (B.lAt (a := U) (by wtm_at "mem"))) (fun D l x r hD hx => ?_) fun D1 hD1 => ?_
    · have B := B.newL (o := .lst (resI (fun r => decide (chi s (cond s) r = wd)) V.int l)) hD
      have ux : x ∈ uL (cond s) := by rw [hx]; simp
      wtm_at "r"
      refine ⟨rfl, ?_⟩
      wtm_at "rs"
      refine use_sbr B.nt h0 h1 h2 c ux ?_
      wtm_at "rs"
      by_cases e : chi s (cond s) x = wd
      · rw [if_pos (decide_eq_true e)]
        wtm_at "rs"
        exact put_I (by
          have := congrArg List.length hx
          rw [List.length_append] at this
          omega) (decide_eq_true e) rfl
      · rw [if_neg (by rw [decide_eq_true_iff]; exact e)]
        exact skip_I (decide_eq_false e)
    have B := B.newL (o := .lst ((chiR s wd).map V.int)) hD1
    change Hv noX H [] _ _ (upd G D1 (.lst (((uL (cond s)).filter fun r => decide (chi s (cond s) r = wd)).map V.int))) at B
    have cl : (chiR s wd).length ≤ 4000 := Nat.le_trans (List.length_filter_le _ _) (by omega)
    clear hD1
    revert B
    generalize upd G D1 (.lst (((uL (cond s)).filter fun r => decide (chi s (cond s) r = wd)).map V.int)) = G
    intro B
    wtm_at "rs"
    refine use_oddQ B.nt h0 h1 h2 fun O G2 ol s2 n2 hO hO' oq => ?_
    have B := B.got s2 n2 hO hO'
    clear s2 n2 hO hO'
    refine B.gen fun G B => ?_
    have lo := oq.2.2
    wtm_at "rs"
    refine rd_lcI (fun p => decide (p % cond s ∈ chiR s wd)) V.int (SqL.of (B.lAt (a := O) (by wtm_at "mem"))) (fun D l x r hD hx => ?_) fun D2 hD2 => ?_
    · have B := B.newL (o := .lst (resI (fun p => decide (p % cond s ∈ chiR s wd)) V.int l)) hD
      wtm_at "r"
      refine ⟨rfl, ?_⟩
      wtm_at "rs"
      refine rd_inIs (SqL.of (B.lAt (a := D1) (by wtm_at "mem"))) ?_
      refine ⟨_, rfl, ?_⟩
      by_cases e : x % cond s ∈ chiR s wd
      · rw [if_pos (decide_eq_true e)]
        wtm_at "rs"
        exact put_I (by
          have := congrArg List.length hx
          rw [List.length_append] at this
          omega) (decide_eq_true e) rfl
      · rw [if_neg (by rw [decide_eq_true_iff]; exact e)]
        exact skip_I (decide_eq_false e)
    have B := B.newL (o := .lst ((ol.filter fun p => decide (p % cond s ∈ chiR s wd)).map V.int)) hD2
    clear hD2
    refine B.gen fun G B => ?_
    have fl := List.length_filter_le (fun p => decide (p % cond s ∈ chiR s wd)) ol
    wtm_at "rs"
    refine mk_P B.nt (.inl (SqL.of (B.lAt (a := D1) (by wtm_at "mem")))) (.inl (SqL.of (B.lAt (a := D2) (by wtm_at "mem")))) (by omega) (by omega) (fun p hp => sml oq p (List.mem_filter.mp hp).1) p1 c4 (fun r hr => mem_uL.mp (chiR_unit hr)) (fun p hp => ((oq.2.1 p).mp (List.mem_filter.mp hp).1).1) fun x G2 m' R' S' s2 n2 hx ip md => ?_
    exact q x G2 m' R' S' (B.same.trans s2) n2 (B.free hx) ip (sg_set c h0 c4 hw oq md (sml oq))
/-! ### joined_answer -/
def joinB (r : Str) (a b : Bool) : Bool := if r = "and" then a && b else if r = "or" then a || b else a && !b
def spJoined : Sp := fun vs H Q _ => ∃ (r : Str) (a b : Bool), vs = [.str r, .bl a, .bl b] ∧ Q (.bl (joinB r a b)) H
theorem use_joined {r : Str} {a b : Bool} {H : Hp} {Q : VK} {E : XK} (q : Q (.bl (joinB r a b)) H) : spJoined [.str r, .bl a, .bl b] H Q E := ⟨r, a, b, rfl, q⟩
local macro_rules | `(tactic| wtm_at "s") => `(tactic| (with_reducible refine use_joined ?_))
theorem join_and : joinB "and" = (· && ·) := by funext a b; unfold joinB; rw [if_pos rfl]
theorem ok_joined_answer (T : Txt K mg Ad) : Def P w K mg base 1 "joined_answer" ["rule", "first", "second"] spJoined := by
  refine T.d_joined_answer.ok sc_joined_answer (fun vs H Q E h => ?_) (fun f cdv A outer s H vs Q E hr h => ?_)
  · obtain ⟨r, a, b, rfl, _⟩ := h
    rfl
  · obtain ⟨r, a, b, rfl, q⟩ := h
    refine ⟨_, (pss_cons (ps_if (pt_cmpR op_eq (pv 0) pe_str (nomark _)) (pss_one (ps_ret (pe_and (pv 1) (pe_one (pv 2))))) pss_nil)
      (pss_cons (ps_if (pt_cmpR op_eq (pv 0) pe_str (nomark _)) (pss_one (ps_ret (pe_or (pv 1) (pe_one (pv 2))))) pss_nil)
      (pss_one (ps_ret (pe_and (pv 1) (pe_one (pe_not (pv 2)))))))), ?_⟩
    try dsimp only [cxOf]
    unfold joinB at q
    wtm_at "rs"
    by_cases h1 : r = "and"
    · rw [if_pos (decide_eq_true h1)]
      rw [if_pos h1] at q
      cases a <;> (wtm_at "rs"; exact q)
    · rw [if_neg (by rw [decide_eq_true_iff]; exact h1)]
      rw [if_neg h1] at q
      wtm_at "rs"
      by_cases h2 : r = "or"
      · rw [if_pos (decide_eq_true h2)]
        rw [if_pos h2] at q
        cases a <;> (wtm_at "rs"; exact q)
      · rw [if_neg (by rw [decide_eq_true_iff]; exact h2)]
        rw [if_neg h2] at q
        cases a <;> (wtm_at "rs"; exact q)
/-! ### Primes.__contains__ -/
def spPIn (C : Addr) : Sp := fun vs H Q E => ∃ (q : Addr) (m p : Int) (R S : List Int), vs = [.ref q, .int p] ∧ IsP C H q m R S ∧ 1 ≤ m ∧ 1 ≤ p ∧ Q (.bl (decide (memP m R S p))) H
theorem memP_ne {m p : Int} {R S : List Int} : decide (memP m R S p) = !decide (V.bl (decide (toldP m R p)) = V.bl (decide (p ∈ S))) := by
  unfold memP
  by_cases a : toldP m R p <;> by_cases b : p ∈ S <;> simp [a, b]
theorem use_inP {C y : Addr} {m t : Int} {R S : List Int} {H : Hp} {Q : VK} {E : XK} (ip : IsP C H y m R S) (m1 : 1 ≤ m) (t1 : 1 ≤ t) (q : Q (.bl (decide (memP m R S t))) H) : rInO C (spPIn C) E (.int t) (.ref y) H Q := by
  obtain ⟨dx, tR, tS, a, b, c⟩ := ip
  exact rd_inO a ⟨y, m, t, R, S, rfl, ⟨dx, tR, tS, a, b, c⟩, m1, t1, _, rfl, q⟩
theorem ok_Primes_contains (T : Txt K mg Ad) : MDef P w K mg base 2 Ad.c_Primes "__contains__" ["self", "p"] (spPIn Ad.c_Primes) := by
  refine T.d_Primes_contains.ok sc_Primes_contains (fun vs H Q E h => ?_) (fun f cdv A outer s H vs Q E hr h => ?_)
  · obtain ⟨q, m, p, R, S, rfl, _⟩ := h
    rfl
  · obtain ⟨q, m, p, R, S, rfl, ⟨dx, tR, tS, hq, hR, hS⟩, m1, p1, qo⟩ := h
    refine ⟨_, (pss_one (ps_ret (pe_cmpR op_ne (pe_d (ok_told_by T) (hr.mono (by decide)) (passes_call (takes_of rfl rfl rfl rfl) (fun _ _ _ _ h => h)) (pa_cons (pe_fldC (pv 0) T.cl_Primes T.nf_Primes_modulus) (pa_cons (pe_fldC (pv 0) T.cl_Primes T.nf_Primes_rests) (pa_cons (pv 1) pa_nil)))) (pe_cmpR op_in_seq (pv 1) (pe_fldC (pv 0) T.cl_Primes T.nf_Primes_singles) (by rfl)) (nomark _)))), ?_⟩
    try dsimp only [cxOf]
    wtm_at "rs"
    refine use_told (.inr (.inr (SqT.of hR))) m1 p1 ?_
    wtm_at "rs"
    refine rd_inT (SqT.of hS) rfl flat_ints ?_
    rw [inV_ints]
    refine ⟨rfl, ?_⟩
    rw [← memP_ne]
    exact qo
/-! ### odd_divisors -/
/-- the odd primes of a number, in order -/
def oddL (fs : List (Int × Nat)) : List Int := (fs.filter fun x => decide (x.1 ≠ 2)).map (·.1)
def OddOf (n : Int) (l : List Int) : Prop := l.Pairwise (· < ·) ∧ (∀ p, p ∈ l ↔ QR.OP p ∧ p ∣ n) ∧ l.length < 100
theorem oddL_of {n : Int} {fs : List (Int × Nat)} (h : FacOk n fs) (hn : n < 2 ^ 99) : OddOf n (oddL fs) := by
  refine ⟨?_, fun p => ?_, ?_⟩
  · unfold oddL
    exact List.pairwise_map.mpr ((h.asc.filter _).imp fun z => z)
  · unfold oddL
    rw [List.mem_map]
    constructor
    · rintro ⟨x, hx, rfl⟩
      obtain ⟨hx, ne⟩ := List.mem_filter.mp hx
      have ne := of_decide_eq_true ne
      obtain ⟨hp, d⟩ := h.mem.mp ⟨x, hx, rfl⟩
      refine ⟨⟨hp, QR.pm_odd hp ?_⟩, d⟩
      have := hp.1
      omega
    · rintro ⟨hp, d⟩
      obtain ⟨x, hx, e⟩ := h.mem.mpr ⟨hp.1, d⟩
      refine ⟨x, List.mem_filter.mpr ⟨hx, decide_eq_true fun z => ?_⟩, e⟩
      have := hp.2
      omega
  · unfold oddL
    rw [List.length_map]
    exact Nat.lt_of_le_of_lt (List.length_filter_le _ _) (h.len hn)
def spOddDiv0 : Sp := fun vs H Q E => ∃ n : Int, vs = [.int n] ∧ NoT H ∧ 1 ≤ n ∧ n < 2 ^ 99 ∧ ∀ D H' l, Same H H' → NoT H' → H D = none → H' D = some (.lst (l.map V.int)) → OddOf n l → Q (.ref D) H'
theorem use_oddDiv {n : Int} {H : Hp} {Q : VK} {E : XK} (nt : NoT H) (h1 : 1 ≤ n) (h2 : n < 2 ^ 99) (q : ∀ D H' l, Same H H' → NoT H' → H D = none → H' D = some (.lst (l.map V.int)) → OddOf n l → Q (.ref D) H') : spOddDiv0 [.int n] H Q E := ⟨n, rfl, nt, h1, h2, q⟩
theorem ok_odd_divisors (T : Txt K mg Ad) : Def P w K mg base 2 "odd_divisors" ["modulus"] spOddDiv0 := by
  refine T.d_odd_divisors.ok sc_odd_divisors (fun vs H Q E h => ?_) (fun f cdv A outer s H vs Q E hr h => ?_)
  · obtain ⟨n, rfl, _⟩ := h
    rfl
  · obtain ⟨n, rfl, nt, n1, n2, q⟩ := h
    refine ⟨_, (pss_one (ps_ret (pe_lc (own := [("prime", 1), ("exponent", 2)])  (g := (gTup K 2 (gCons (gName 1) (gCons (gName 2) gNil)))) (te := (tVar 1)) (tt := (tTest (tOp rNe (tVar 1) (tC (.int 2))))) rfl sc_odd_divisors.nd  (pi_list (pe_d (ok_factors T) (hr.mono (by decide)) (passes_call (takes_of rfl rfl rfl rfl) (fun _ _ _ _ h => h)) (pa_cons (pv 0) pa_nil))) (blkOk_by (own := [("prime", 1), ("exponent", 2)]) (N := ["modulus", "prime", "exponent"]) (sc := defScope s_odd_divisors) (by decide +kernel)) (fun _ _ _ _ _ => (pg_tup rfl (pgs_cons (pg_name (i := 1) sc_odd_divisors.nd rfl (Or.inl rfl)) (pgs_cons (pg_name (i := 2) sc_odd_divisors.nd rfl (Or.inl rfl)) pgs_nil)))) (fun _ _ _ _ _ => (pts_one (pt_cmpR op_ne (pv 1) pe_int (nomark _)))) (fun _ _ _ _ _ => (pv 1))))), ?_⟩
    try dsimp only [cxOf]
    wtm_at "rs"
    refine ⟨_, rfl, nt, n1, by omega, ?_⟩
    intro J H1 ts fs sm nt1 hp hp' hl hf
    wtm_at "rs"
    refine rd_lcP (fun i ys => ys = (oddL (fs.take i)).map V.int) (SqL.of hp') nt1 (by simp [oddL]) ?_ ?_
    · rintro D i ys x H2 hx sm2 nt2 hD h2 rfl
      obtain ⟨t, l, rfl, ht, hlx⟩ := hl.at hx
      rw [List.getElem?_map] at hlx
      obtain ⟨⟨q, e⟩, hy, rfl⟩ := Option.map_eq_some_iff.mp hlx
      have er : fs.take (i + 1) = fs.take i ++ [(q, e)] := by rw [List.take_add_one, hy]; rfl
      have hq := hf.prime _ (List.mem_of_getElem? hy)
      have hT : SqT K H2 t [.int q, .int (e : Int)] := SqT.of (sm2 _ _ ht)
      have few : ((oddL (fs.take i)).map V.int).length < sizeLine := by
        refine Nat.lt_of_le_of_lt ?_ (show 100 < sizeLine by decide)
        unfold oddL
        rw [List.length_map, List.length_map]
        refine Nat.le_trans (List.length_filter_le _ _) ?_
        rw [List.length_take]
        have := hf.len n2
        omega
      refine rd_gtup hT rfl ?_
      wtm_at "rs"
      refine ⟨rfl, ?_⟩
      wtm_at "rs"
      wtm_at "i"
      · rename_i h
        wtm_at "rs"
        refine put_P (P := fun ys => ys = (oddL (fs.take (i + 1))).map V.int) h2 few sm2 hD nt2 ?_
        rw [er]
        unfold oddL
        simp [h]
      · rename_i h
        wtm_at "rs"
        refine ⟨_, h2, sm2, nt2, ?_⟩
        rw [er]
        unfold oddL
        have h : q = 2 := by omega
        simp [h]
    · rintro D ys H2 hD h2 sm2 nt2 rfl
      rw [List.length_map, hl.len, List.length_map, List.take_length] at h2
      exact q D H2 _ (sm.trans sm2) nt2 (Same.free sm hD) h2 (oddL_of hf n2)
/-! ### units -/
/-! ### combined -/
def spComb (C CW : Addr) : Sp := fun vs H Q E => ∃ (a b : Addr) (rule : Str) (m1 m2 : Int) (R1 S1 R2 S2 : List Int), vs = [.ref a, .ref b, .str rule] ∧ NoT H ∧ IsP C H a m1 R1 S1 ∧ IsP C H b m2 R2 S2 ∧ SetOk m1 R1 S1 ∧ SetOk m2 R2 S2 ∧
  (4000 < ((Int.lcm m1 m2 : Nat) : Int) → ∀ d, H d = none → E (.ref CW) (some d) (upd H d (.xd [("modulus", .int ((Int.lcm m1 m2 : Nat) : Int))]))) ∧
  (((Int.lcm m1 m2 : Nat) : Int) ≤ 4000 → ∀ (x : Addr) (H' : Hp) (m' : Int) (R' S' : List Int), Same H H' → NoT H' → H x = none → IsP C H' x m' R' S' → Comb (joinB rule) m1 R1 S1 m2 R2 S2 m' R' S' → Q (.ref x) H')
theorem ok_combined (T : Txt K mg Ad) : Def P w K mg base 7 "combined" ["first", "second", "rule"] (spComb Ad.c_Primes Ad.c_TooWide) := by
  refine T.d_combined.ok sc_combined (fun vs H Q E h => ?_) (fun f cdv A outer s H vs Q E hr h => ?_)
  · obtain ⟨a, b, r, m1, m2, R1, S1, R2, S2, rfl, _⟩ := h
    rfl
  · obtain ⟨a, b, r, m1, m2, R1, S1, R2, S2, rfl, nt, ip1, ip2, o1, o2, qw, q⟩ := h
    refine ⟨_, (pss_cons (ps_set (i := 3) sc_combined.nd rfl (Or.inl rfl) (pe_op op_fdivB (pe_op op_mulB (pe_fldC (pv 0) T.cl_Primes T.nf_Primes_modulus) (pe_fldC (pv 1) T.cl_Primes T.nf_Primes_modulus)) (pe_d (ok_common T) (hr.mono (by decide)) (passes_call (takes_of rfl rfl rfl rfl) (fun _ _ _ _ h => h)) (pa_cons (pe_fldC (pv 0) T.cl_Primes T.nf_Primes_modulus) (pa_cons (pe_fldC (pv 1) T.cl_Primes T.nf_Primes_modulus) pa_nil)))))
      (pss_cons (ps_if (pt_cmpR op_gt (pv 3) (pe_glob (v := .int 4000) rfl T.k_MOST_MODULUS ⟨_, rfl⟩) (nomark _)) (pss_one (ps_raise rfl (takes_of rfl rfl rfl rfl) (pmk_err (T.err_TooWide) (hr.mono (by decide)) (pa_cons (pv 3) pa_nil)))) pss_nil)
      (pss_cons (ps_setDc (i := 5) (own := [("rest", 4)]) (tk := (tVar 4)) (tv := (tC (.bl true))) rfl sc_combined.nd rfl rfl (sw_dc rfl rfl rfl (by decide +kernel)) (pi_tup (pe_fldC (pv 0) T.cl_Primes T.nf_Primes_rests)) (blkOk_by (own := [("rest", 4)]) (N := ["first", "second", "rule", "modulus", "rest", "first_rests", "second_rests", "rests", "one", "singles", "p"]) (sc := defScope s_combined) (by decide +kernel)) (fun _ _ _ _ _ => (pg_name (i := 4) sc_combined.nd rfl (Or.inl rfl))) (fun _ _ _ _ _ => pts_nil) (fun _ _ _ _ _ => (pv 4)) (fun _ _ _ _ _ => pe_bl))
      (pss_cons (ps_setDc (i := 6) (own := [("rest", 4)]) (tk := (tVar 4)) (tv := (tC (.bl true))) rfl sc_combined.nd rfl rfl (sw_dc rfl rfl rfl (by decide +kernel)) (pi_tup (pe_fldC (pv 1) T.cl_Primes T.nf_Primes_rests)) (blkOk_by (own := [("rest", 4)]) (N := ["first", "second", "rule", "modulus", "rest", "first_rests", "second_rests", "rests", "one", "singles", "p"]) (sc := defScope s_combined) (by decide +kernel)) (fun _ _ _ _ _ => (pg_name (i := 4) sc_combined.nd rfl (Or.inl rfl))) (fun _ _ _ _ _ => pts_nil) (fun _ _ _ _ _ => (pv 4)) (fun _ _ _ _ _ => pe_bl))
      (pss_cons (ps_set (i := 7) sc_combined.nd rfl (Or.inl rfl) pe_dnewK)
      (pss_cons (ps_for (passes_of rfl) rfl (pi_list (pe_d (ok_units_values T) (hr.mono (by decide)) (passes_call (takes_of rfl rfl rfl rfl) (fun _ _ _ _ h => h)) (pa_cons (pv 3) pa_nil))) (pg_name (i := 4) sc_combined.nd rfl (Or.inl rfl)) (pss_cons (ps_set (i := 8) sc_combined.nd rfl (Or.inl rfl) (pe_cmp (pc_din (hu_of hr) (pe_op op_mod (pv 4) (pe_fldC (pv 0) T.cl_Primes T.nf_Primes_modulus)) (pv 5)) rfl))
      (pss_one (ps_if (pt_val (pe_d (ok_joined_answer T) (hr.mono (by decide)) (passes_call (takes_of rfl rfl rfl rfl) (fun _ _ _ _ h => h)) (pa_cons (pv 2) (pa_cons (pv 8) (pa_cons (pe_cmp (pc_din (hu_of hr) (pe_op op_mod (pv 4) (pe_fldC (pv 1) T.cl_Primes T.nf_Primes_modulus)) (pv 6)) rfl) pa_nil))))) (pss_one (ps_dput (hu_of hr) (pv 7) (pv 4) pe_bl rfl)) pss_nil))))
      (pss_cons (ps_set (i := 9) sc_combined.nd rfl (Or.inl rfl) (pe_lst pa_nil))
      (pss_cons (ps_for (passes_of rfl) rfl (pi_list (pe_callB (cr_sortSetN rfl) (by rfl) T.b_sorted (by decide +kernel) (pa_cons (pe_callTy (cr_setOf rfl) (by rfl) T.b_set (by decide +kernel) (pa_cons (pe_op op_cat (pe_op op_cat (pe_d (ok_odd_divisors T) (hr.mono (by decide)) (passes_call (takes_of rfl rfl rfl rfl) (fun _ _ _ _ h => h)) (pa_cons (pv 3) pa_nil)) (pe_callTy c_listOf (by rfl) T.b_list (by decide +kernel) (pa_cons (pe_fldC (pv 0) T.cl_Primes T.nf_Primes_singles) pa_nil))) (pe_callTy c_listOf (by rfl) T.b_list (by decide +kernel) (pa_cons (pe_fldC (pv 1) T.cl_Primes T.nf_Primes_singles) pa_nil))) pa_nil)) pa_nil))) (pg_name (i := 10) sc_combined.nd rfl (Or.inl rfl)) (pss_one (ps_if (pt_cmpR op_ne (pe_d (ok_joined_answer T) (hr.mono (by decide)) (passes_call (takes_of rfl rfl rfl rfl) (fun _ _ _ _ h => h)) (pa_cons (pv 2) (pa_cons (pe_cmpR (op_inO (ok_Primes_contains T) (hr.mono (by decide)) (passes_call (takes_of rfl rfl rfl rfl) (fun _ _ _ _ h => h))) (pv 10) (pv 0) (by rfl)) (pa_cons (pe_cmpR (op_inO (ok_Primes_contains T) (hr.mono (by decide)) (passes_call (takes_of rfl rfl rfl rfl) (fun _ _ _ _ h => h))) (pv 10) (pv 1) (by rfl)) pa_nil)))) (pe_d (ok_told_by T) (hr.mono (by decide)) (passes_call (takes_of rfl rfl rfl rfl) (fun _ _ _ _ h => h)) (pa_cons (pv 3) (pa_cons (pv 7) (pa_cons (pv 10) pa_nil)))) (nomark _)) (pss_one (ps_expr (pe_bm PySem.F.plainAttrs_list PySem.F.slot_list_append PySem.F.type_list_append mt_append (pv 9) (pa_cons (pv 10) pa_nil)))) pss_nil)))
      (pss_one (ps_ret (pe_mkd (ok_Primes_init T) (hr.mono (by decide)) (passes_call (takes_of rfl rfl rfl rfl) (fun _ _ _ _ h => h)) (pa_cons (pv 3) (pa_cons (pe_callTy (c_listD rfl) (by rfl) T.b_list (by decide +kernel) (pa_cons (pv 7) pa_nil)) (pa_cons (pv 9) pa_nil)))))))))))))), ?_⟩
    try dsimp only [cxOf]
    have B := (Hv.start nt).rig ip1.rig |>.rig ip2.rig
    obtain ⟨dx, tR, tS, h1, h2, h3⟩ := id ip1
    obtain ⟨dy, uR, uS, g1, g2, g3⟩ := id ip2
    have p1 := o1.least.desc.pos
    have p2 := o2.least.desc.pos
    have l1 := o1.le
    have l2 := o2.le
    have gp : 1 ≤ ((Int.gcd m1 m2 : Nat) : Int) := by
      have : Int.gcd m1 m2 ≠ 0 := fun z => by
        have := (Int.gcd_eq_zero_iff.mp z).1
        omega
      omega
    have pp : 0 ≤ m1 * m2 := Int.mul_nonneg (by omega) (by omega)
    have pq : m1 * m2 ≤ 4000 * 4000 := Int.mul_le_mul l1 l2 (by omega) (by omega)
    have gm : ((Int.gcd m1 m2 : Nat) : Int) ≤ m1 := Int.le_of_dvd (by omega) (Int.gcd_dvd_left ..)
    wtm_at "rs"
    rw [lcm_quot p1 p2]
    have Lp := lcm_pos p1 p2
    have hLd : ∃ L, L = ((Int.lcm m1 m2 : Nat) : Int) := ⟨_, rfl⟩
    obtain ⟨L, hL⟩ := hLd
    rw [← hL] at qw q Lp ⊢
    by_cases wd : 4000 < L
    · rw [if_pos (decide_eq_true wd)]
      wtm_at "rs"
      exact qw wd
    rw [if_neg (by rw [decide_eq_true_iff]; exact wd)]
    have L4 : L ≤ 4000 := by omega
    replace q := q L4
    clear qw
    have lr1 := least_len o1.least l1
    have lr2 := least_len o2.least l2
    wtm_at "rs"
    refine rd_dcTF (SqT.of h2) (fun D l x r hD hx => ?_) fun D1 hD1 => ?_
    · wtm_at "r"
      refine ⟨rfl, ?_⟩
      wtm_at "rs"
      exact put_F (by
        have := congrArg List.length hx
        rw [List.length_append] at this
        omega) rfl
    have B := B.newL (o := DFl (ofL R1)) hD1
    clear hD1
    refine B.gen fun G B => ?_
    wtm_at "rs"
    refine rd_dcTF (SqT.of (B.oAt g2)) (fun D l x r hD hx => ?_) fun D2 hD2 => ?_
    · wtm_at "r"
      refine ⟨rfl, ?_⟩
      wtm_at "rs"
      exact put_F (by
        have := congrArg List.length hx
        rw [List.length_append] at this
        omega) rfl
    have B := B.newL (o := DFl (ofL R2)) hD2
    clear hD2
    refine B.gen fun G B => ?_
    wtm_at "rs"
    intro Dk hDk
    have B := B.new (o := DFl []) hDk
    clear hDk
    refine B.gen fun G B => ?_
    wtm_at "rs"
    refine use_units Lp (by omega) fun U hU => ?_
    have B := B.newL (o := .lst ((uL L).map V.int)) hU
    clear hU
    refine B.gen fun G B => ?_
    wtm_at "rs"
    refine rd_forL (xs := (uL L).map V.int) (fun i σ G => ∃ v4 v8, σ = [some (.ref a), some (.ref b), some (.str r), some (.int L), v4, some (.ref D1), some (.ref D2), some (.ref Dk), v8, none, none] ∧ Hv noX H [(Dk, DFl (((uL L).take i).filter fun r' => joinB r (decide (r' % m1 ∈ R1)) (decide (r' % m2 ∈ R2))))] [(U, .lst ((uL L).map V.int)), (D2, DFl (ofL R2)), (D1, DFl (ofL R1))] [fun G => IsP Ad.c_Primes G b m2 R2 S2, fun G => IsP Ad.c_Primes G a m1 R1 S1] G) ⟨_, _, rfl, B⟩ (fun i σ G _ ⟨_, _, _, B⟩ => SqL.of (B.lAt (a := U) (by wtm_at "mem"))) ?_ ?_
    · clear B
      rintro i v σ G hi ⟨v4, v8, rfl, B⟩
      rw [List.getElem?_map] at hi
      obtain ⟨x, hx, rfl⟩ := Option.map_eq_some_iff.mp hi
      have er : (uL L).take (i + 1) = (uL L).take i ++ [x] := by rw [List.take_add_one, hx]; rfl
      have hil := (List.getElem?_eq_some_iff.mp hx).1
      have few : (((uL L).take i).filter fun r' => joinB r (decide (r' % m1 ∈ R1)) (decide (r' % m2 ∈ R2))).length < 1000000 := by
        have := List.length_filter_le (fun r' => joinB r (decide (r' % m1 ∈ R1)) (decide (r' % m2 ∈ R2))) ((uL L).take i)
        rw [List.length_take] at this
        have := @uL_len L
        omega
      have nw : x ∉ ((uL L).take i).filter fun r' => joinB r (decide (r' % m1 ∈ R1)) (decide (r' % m2 ∈ R2)) := fun z => by
        have h := @uL_inc L
        rw [← List.take_append_drop (i + 1) (uL L), er, List.append_assoc] at h
        have := (List.pairwise_append.mp h).2.2 x ((List.mem_filter.mp z).1) x List.mem_cons_self
        omega
      wtm_at "rs"
      rw [show decide (x % m1 ∈ ofL R1) = decide (x % m1 ∈ R1) from dec_iff.mpr mem_ofL, show decide (x % m2 ∈ ofL R2) = decide (x % m2 ∈ R2) from dec_iff.mpr mem_ofL]
      cases hj : joinB r (decide (x % m1 ∈ R1)) (decide (x % m2 ∈ R2)) with
      | true =>
        rw [if_pos rfl]
        wtm_at "rs"
        refine rd_dputF (B.mAt (a := Dk) (by wtm_at "mem")) few ?_
        rw [insL_new nw]
        refine ⟨_, _, rfl, ?_⟩
        rw [er, filt_snoc_t (p := fun r' => joinB r (decide (r' % m1 ∈ R1)) (decide (r' % m2 ∈ R2))) hj]
        exact B.put
      | false =>
        rw [if_neg Bool.false_ne_true]
        wtm_at "rs"
        refine ⟨_, _, rfl, ?_⟩
        rw [er, filt_snoc_f (p := fun r' => joinB r (decide (r' % m1 ∈ R1)) (decide (r' % m2 ∈ R2))) hj]
        exact B
    clear B
    rintro σ G ⟨v4, v8, rfl, B⟩
    rw [List.length_map, List.take_length] at B
    have eJ : ((uL L).filter fun r' => joinB r (decide (r' % m1 ∈ R1)) (decide (r' % m2 ∈ R2))) = jR (joinB r) L m1 R1 m2 R2 := rfl
    rw [eJ] at B
    have B := B.fix
    have JRu : ∀ k ∈ jR (joinB r) L m1 R1 m2 R2, k ∈ uL L := fun k hk => (mem_jR.mp hk).1
    have JRn : (jR (joinB r) L m1 R1 m2 R2).length ≤ 4000 := Nat.le_trans (List.length_filter_le _ _) (by have := @uL_len L; omega)
    wtm_at "rs"
    rename_i Dg hDg
    have B := B.new (o := .lst []) hDg
    clear hDg
    refine B.gen fun G B => ?_
    refine use_oddDiv B.nt Lp (by omega) fun O G2 ol s2 n2 hO hO' oo => ?_
    have B := B.got s2 n2 hO hO'
    clear s2 n2 hO hO'
    refine B.gen fun G B => ?_
    wtm_at "rs"
    refine rd_listOfT (SqT.of (B.oAt h3)) fun K1 hK1 => ?_
    have B := B.newL (o := .lst (S1.map V.int)) hK1
    clear hK1
    refine B.gen fun G B => ?_
    have f1 := o1.few
    have f2 := o2.few
    have f3 := oo.2.2
    wtm_at "rs"
    refine rd_cat (B.lAt (a := O) (by wtm_at "mem")) (B.lAt (a := K1) (by wtm_at "mem")) (room2 (n := 100) (m := 1000) (by rw [List.length_map]; omega) (by rw [List.length_map]; omega) (by decide)) fun K2 hK2 => ?_
    have B := B.newL (o := .lst (ol.map V.int ++ S1.map V.int)) hK2
    clear hK2
    refine B.gen fun G B => ?_
    wtm_at "rs"
    refine rd_listOfT (SqT.of (B.oAt g3)) fun K3 hK3 => ?_
    have B := B.newL (o := .lst (S2.map V.int)) hK3
    clear hK3
    refine B.gen fun G B => ?_
    wtm_at "rs"
    refine rd_cat (B.lAt (a := K2) (by wtm_at "mem")) (B.lAt (a := K3) (by wtm_at "mem")) (room2 (n := 1100) (m := 1000) (by rw [List.length_append, List.length_map, List.length_map]; omega) (by rw [List.length_map]; omega) (by decide)) fun K4 hK4 => ?_
    rw [← List.map_append, ← List.map_append] at *
    have B := B.newL (o := .lst ((ol ++ S1 ++ S2).map V.int)) hK4
    clear hK4
    refine B.gen fun G B => ?_
    wtm_at "rs"
    refine rd_setOfL (SqL.of (B.lAt (a := K4) (by wtm_at "mem"))) (by rw [List.length_append, List.length_append]; omega) fun D5 n5 hD5 => ?_
    have B := B.newL (o := SetO w D5 (inS (ol ++ S1 ++ S2)) n5) hD5
    clear hD5
    refine B.gen fun G B => ?_
    wtm_at "rs"
    refine rd_sortSetN (B.lAt (a := D5) (by wtm_at "mem")) fun Cs K6 ci ce hK6 => ?_
    have B := (B.newL (o := .lst (Cs.map V.int)) hK6).sub (L' := [(K6, .lst (Cs.map V.int)), (Dk, DFl (jR (joinB r) L m1 R1 m2 R2))]) (by wtm_at "vsub") (fun _ h => h)
    clear hK6
    have hCs : ∀ p, p ∈ Cs ↔ p ∈ ol ∨ p ∈ S1 ∨ p ∈ S2 := fun p => by rw [ce p]; simp
    have cop : ∀ p ∈ Cs, QR.OP p := fun p hp => by
      rcases (hCs p).mp hp with z | z | z
      · exact ((oo.2.1 p).mp z).1
      · exact o1.least.desc.singles p z
      · exact o2.least.desc.singles p z
    have csm : ∀ p ∈ Cs, p < 2 ^ 120 := fun p hp => by
      rcases (hCs p).mp hp with z | z | z
      · have := Int.le_of_dvd (by omega) ((oo.2.1 p).mp z).2
        omega
      · exact o1.small p z
      · exact o2.small p z
    have cdv : ∀ p, QR.OP p → (p ∈ Cs ↔ p ∣ L ∨ p ∈ S1 ∨ p ∈ S2) := fun p hp => by
      rw [hCs, oo.2.1 p]
      simp [hp]
    have cfew : Cs.length ≤ S1.length + S2.length + 100 := by
      have := nodup_sub_len (l := Cs) (s := ol ++ S1 ++ S2) (ci.imp fun h => by omega) fun k hk => (ce k).mp hk
      rw [List.length_append, List.length_append] at this
      omega
    clear ce hCs oo f3
    refine B.gen fun G B => ?_
    wtm_at "rs"
    refine rd_forL (xs := Cs.map V.int) (fun i σ G => ∃ v4 v8 v10, σ = [some (.ref a), some (.ref b), some (.str r), some (.int L), v4, some (.ref D1), some (.ref D2), some (.ref Dk), v8, some (.ref Dg), v10] ∧ Hv noX H [(Dg, .lst (((Cs.take i).filter (jT (joinB r) L m1 R1 S1 m2 R2 S2)).map V.int))] [(K6, .lst (Cs.map V.int)), (Dk, DFl (jR (joinB r) L m1 R1 m2 R2))] [fun G => IsP Ad.c_Primes G b m2 R2 S2, fun G => IsP Ad.c_Primes G a m1 R1 S1] G) ⟨_, _, _, rfl, B⟩ (fun i σ G _ ⟨_, _, _, _, B⟩ => SqL.of (B.lAt (a := K6) (by wtm_at "mem"))) ?_ ?_
    · clear B
      rintro i v σ G hi ⟨v4, v8, v10, rfl, B⟩
      rw [List.getElem?_map] at hi
      obtain ⟨p, hp, rfl⟩ := Option.map_eq_some_iff.mp hi
      have er : Cs.take (i + 1) = Cs.take i ++ [p] := by rw [List.take_add_one, hp]; rfl
      have hpm := List.mem_of_getElem? hp
      have p3 := (cop p hpm).1.1
      have few : (((Cs.take i).filter (jT (joinB r) L m1 R1 S1 m2 R2 S2)).map V.int).length < 1000000 := by
        have := List.length_filter_le (jT (joinB r) L m1 R1 S1 m2 R2 S2) (Cs.take i)
        rw [List.length_take] at this
        rw [List.length_map]
        omega
      wtm_at "rs"
      refine use_inP (B.zAt (P := fun G => IsP Ad.c_Primes G a m1 R1 S1) (by wtm_at "mem")) p1 (by omega) ?_
      wtm_at "rs"
      refine use_inP (B.zAt (P := fun G => IsP Ad.c_Primes G b m2 R2 S2) (by wtm_at "mem")) p2 (by omega) ?_
      wtm_at "rs"
      refine use_told (.inl (B.lAt (a := Dk) (by wtm_at "mem"))) Lp (by omega) ?_
      wtm_at "rs"
      cases hj : jT (joinB r) L m1 R1 S1 m2 R2 S2 p with
      | true =>
        rw [if_pos (by rw [← hj]; unfold jT; cases joinB r _ _ <;> cases decide (toldP L (jR (joinB r) L m1 R1 m2 R2) p) <;> rfl)]
        wtm_at "rs"
        refine ⟨_, _, _, rfl, ?_⟩
        rw [er, filt_snoc_t hj, List.map_append]
        exact B.put
      | false =>
        rw [if_neg (by rw [Bool.not_eq_true, ← hj]; unfold jT; cases joinB r _ _ <;> cases decide (toldP L (jR (joinB r) L m1 R1 m2 R2) p) <;> rfl)]
        wtm_at "rs"
        refine ⟨_, _, _, rfl, ?_⟩
        rw [er, filt_snoc_f hj]
        exact B
    clear B
    rintro σ G ⟨v4, v8, v10, rfl, B⟩
    rw [List.length_map, List.take_length] at B
    have fl := List.length_filter_le (jT (joinB r) L m1 R1 S1 m2 R2 S2) Cs
    wtm_at "rs"
    rename_i K7 hK7
    have B := B.newL (o := .lst ((jR (joinB r) L m1 R1 m2 R2).map V.int)) hK7
    clear hK7
    refine B.gen fun G B => ?_
    wtm_at "rs"
    refine mk_P B.nt (.inl (SqL.of (B.lAt (a := K7) (by wtm_at "mem")))) (.inl (SqL.of (B.mAt (a := Dg) (by wtm_at "mem")))) (by omega) (by omega) (fun p hp => csm p ((List.mem_filter.mp hp).1)) Lp L4 (fun k hk => mem_uL.mp (JRu k hk)) (fun p hp => cop p ((List.mem_filter.mp hp).1)) fun x G2 m' R' S' s2 n2' hx ip md => ?_
    exact q x G2 m' R' S' (B.same.trans s2) n2' (B.free hx) ip (comb_of hL p1 p2 cdv md cop cfew)
/-! ### Primes.__and__ -/
def spPand (C CW : Addr) : Sp := fun vs H Q E => ∃ (a b : Addr) (m1 m2 : Int) (R1 S1 R2 S2 : List Int), vs = [.ref a, .ref b] ∧ NoT H ∧ IsP C H a m1 R1 S1 ∧ IsP C H b m2 R2 S2 ∧ SetOk m1 R1 S1 ∧ SetOk m2 R2 S2 ∧
  (4000 < ((Int.lcm m1 m2 : Nat) : Int) → ∀ d, H d = none → E (.ref CW) (some d) (upd H d (.xd [("modulus", .int ((Int.lcm m1 m2 : Nat) : Int))]))) ∧
  (((Int.lcm m1 m2 : Nat) : Int) ≤ 4000 → ∀ (x : Addr) (H' : Hp) (m' : Int) (R' S' : List Int), Same H H' → NoT H' → H x = none → IsP C H' x m' R' S' → Comb (joinB "and") m1 R1 S1 m2 R2 S2 m' R' S' → Q (.ref x) H')
theorem ok_Primes_and (T : Txt K mg Ad) : MDef P w K mg base 8 Ad.c_Primes "__and__" ["self", "other"] (spPand Ad.c_Primes Ad.c_TooWide) := by
  refine T.d_Primes_and.ok sc_Primes_and (fun vs H Q E h => ?_) (fun f cdv A outer s H vs Q E hr h => ?_)
  · obtain ⟨a, b, m1, m2, R1, S1, R2, S2, rfl, _⟩ := h
    rfl
  · obtain ⟨a, b, m1, m2, R1, S1, R2, S2, rfl, nt, ip1, ip2, o1, o2, qw, q⟩ := h
    refine ⟨_, (pss_one (ps_ret (pe_d (ok_combined T) (hr.mono (by decide)) (passes_call (takes_of rfl rfl rfl rfl) (fun _ _ _ _ h => h)) (pa_cons (pv 0) (pa_cons (pv 1) (pa_cons pe_str pa_nil)))))), ?_⟩
    try dsimp only [cxOf]
    wtm_at "rs"
    exact ⟨a, b, "and", m1, m2, R1, S1, R2, S2, rfl, nt, ip1, ip2, o1, o2, qw, q⟩
/-! ### pattern -/
/-- the set of a pattern, made from the left; the pairs stand from behind -/
def PatR : List (Int × Int) → Int → List Int → List Int → Prop
  | [], _, _, _ => False
  | [q], m, R, S => ∃ s r, CoreOk q.1 s r ∧ SgSet q.1 q.2 s m R S
  | q :: q' :: l, m, R, S => ∃ (m1 : Int) (R1 S1 : List Int) (m2 : Int) (R2 S2 : List Int) (s r : Int), PatR (q' :: l) m1 R1 S1 ∧ CoreOk q.1 s r ∧ SgSet q.1 q.2 s m2 R2 S2 ∧ ((Int.lcm m1 m2 : Nat) : Int) ≤ 4000 ∧ Comb (joinB "and") m1 R1 S1 m2 R2 S2 m R S
/-- where it grows too wide -/
def PatW : List (Int × Int) → Int → Prop
  | q :: q' :: l, M => PatW (q' :: l) M ∨ ∃ (m1 : Int) (R1 S1 : List Int) (m2 : Int) (R2 S2 : List Int) (s r : Int), PatR (q' :: l) m1 R1 S1 ∧ CoreOk q.1 s r ∧ SgSet q.1 q.2 s m2 R2 S2 ∧ 4000 < ((Int.lcm m1 m2 : Nat) : Int) ∧ M = ((Int.lcm m1 m2 : Nat) : Int)
  | _, _ => False
theorem SgSet.uniq {n w s s2 r r2 m m' : Int} {R S R' S' : List Int} (h0 : n ≠ 0) (c : CoreOk n s r) (c2 : CoreOk n s2 r2) (a : SgSet n w s m R S) (b : SgSet n w s2 m' R' S') : m = m' ∧ R = R' ∧ S = S' := by
  have e := (c.uniq c2).1
  subst e
  have s0 := (c.bound h0 (B := (n.natAbs : Int)) (by omega) (by omega)).1
  exact a.pf.fits.eq (cond_pos s0) b.pf.fits (fun _ => rfl) fun _ => rfl
theorem Comb.uniq {J : Bool → Bool → Bool} {m1 m2 m m' : Int} {R1 S1 R2 S2 R S R' S' : List Int} (p1 : 1 ≤ m1) (p2 : 1 ≤ m2) (a : Comb J m1 R1 S1 m2 R2 S2 m R S) (b : Comb J m1 R1 S1 m2 R2 S2 m' R' S') : m = m' ∧ R = R' ∧ S = S' := by
  have lp : 1 ≤ ((Int.lcm m1 m2 : Nat) : Int) := by
    have : Int.lcm m1 m2 ≠ 0 := Int.lcm_ne_zero (by omega) (by omega)
    omega
  exact least_unique lp a.dvd b.dvd a.least b.least (fun x hx => dec_iff.mp ((a.germ x hx).trans (b.germ x hx).symm)) fun p hp => dec_iff.mp ((a.mem p hp).trans (b.mem p hp).symm)
theorem PatR.least : ∀ {l : List (Int × Int)} {m : Int} {R S : List Int}, PatR l m R S → IsLeast m R S
  | [_], _, _, _, ⟨_, _, _, h⟩ => h.pf.fits.least
  | _ :: _ :: _, _, _, _, ⟨_, _, _, _, _, _, _, _, _, _, _, _, c⟩ => c.least
theorem PatR.uniq : ∀ {l : List (Int × Int)} {m m' : Int} {R S R' S' : List Int}, (∀ q ∈ l, q.1 ≠ 0) → PatR l m R S → PatR l m' R' S' → m = m' ∧ R = R' ∧ S = S'
  | [q], _, _, _, _, _, _, z, ⟨_, _, c, h⟩, ⟨_, _, c2, h2⟩ => SgSet.uniq (z q (by simp)) c c2 h h2
  | q :: q' :: l, _, _, _, _, _, _, z, ⟨m1, R1, S1, m2, R2, S2, s, r, a, c, h, _, k⟩, ⟨m3, R3, S3, m4, R4, S4, s2, r2, a2, c2, h2, _, k2⟩ => by
    obtain ⟨rfl, rfl, rfl⟩ := PatR.uniq (fun x hx => z x (List.mem_cons_of_mem _ hx)) a a2
    obtain ⟨rfl, rfl, rfl⟩ := SgSet.uniq (z q (by simp)) c c2 h h2
    exact Comb.uniq a.least.desc.pos h.pf.fits.least.desc.pos k k2
theorem PatR.not_wide : ∀ {l : List (Int × Int)} {m M : Int} {R S : List Int}, (∀ q ∈ l, q.1 ≠ 0) → PatR l m R S → ¬ PatW l M
  | [_], _, _, _, _, _, _, h => h.elim
  | q :: q' :: l, _, _, _, _, z, ⟨m1, R1, S1, m2, R2, S2, s, r, a, c, h, le, k⟩, w => by
    rcases w with w | ⟨m3, R3, S3, m4, R4, S4, s2, r2, a2, c2, h2, lt, _⟩
    · exact a.not_wide (fun x hx => z x (List.mem_cons_of_mem _ hx)) w
    · obtain ⟨rfl, rfl, rfl⟩ := PatR.uniq (fun x hx => z x (List.mem_cons_of_mem _ hx)) a a2
      obtain ⟨rfl, rfl, rfl⟩ := SgSet.uniq (z q (by simp)) c c2 h h2
      omega
theorem PatW.uniq : ∀ {l : List (Int × Int)} {M M' : Int}, (∀ q ∈ l, q.1 ≠ 0) → PatW l M → PatW l M' → M = M'
  | [_], _, _, _, h, _ => h.elim
  | [], _, _, _, h, _ => h.elim
  | q :: q' :: l, _, _, z, w, w2 => by
    have z' : ∀ x ∈ q' :: l, x.1 ≠ 0 := fun x hx => z x (List.mem_cons_of_mem _ hx)
    rcases w with w | ⟨m1, R1, S1, m2, R2, S2, s, r, a, c, h, lt, e⟩ <;> rcases w2 with w2 | ⟨m3, R3, S3, m4, R4, S4, s2, r2, a2, c2, h2, lt2, e2⟩
    · exact PatW.uniq z' w w2
    · exact absurd w (a2.not_wide z')
    · exact absurd w2 (a.not_wide z')
    · obtain ⟨rfl, rfl, rfl⟩ := PatR.uniq z' a a2
      obtain ⟨rfl, rfl, rfl⟩ := SgSet.uniq (z q (by simp)) c c2 h h2
      rw [e, e2]
theorem PatR.mem : ∀ {l : List (Int × Int)} {m : Int} {R S : List Int}, PatR l m R S → ∀ p, QR.OP p → (memP m R S p ↔ ∀ q ∈ l, sgn q.1 p = q.2)
  | [q], _, _, _, ⟨_, _, _, h⟩, p, hp => by
    have := dec_iff.mp (h.pf.fits.mem p hp)
    rw [this]
    simp
  | q :: q' :: l, m, R, S, ⟨m1, R1, S1, m2, R2, S2, s, r, a, c, h, le, k⟩, p, hp => by
    have e := k.mem p hp
    rw [join_and] at e
    have h1 := a.mem p hp
    have h2 := dec_iff.mp (h.pf.fits.mem p hp)
    have e' : memP m R S p ↔ (memP m1 R1 S1 p ∧ memP m2 R2 S2 p) := by
      have e : decide (memP m R S p) = (decide (memP m1 R1 S1 p) && decide (memP m2 R2 S2 p)) := e
      rw [← Bool.decide_and] at e
      exact decide_eq_decide.mp e
    rw [e', h1, h2, List.forall_mem_cons (a := q)]
    exact And.comm
/-- a number with a sign -/
structure NumS (q : Int × Int) : Prop where
  nz : q.1 ≠ 0
  le : q.1.natAbs ≤ 100
  pm : q.2 = 1 ∨ q.2 = -1
theorem PatR.few : ∀ {l : List (Int × Int)} {m : Int} {R S : List Int}, (∀ q ∈ l, NumS q) → PatR l m R S → S.length + 111 ≤ 222 * l.length ∧ (∀ p ∈ S, p < 2 ^ 120) ∧ m ≤ 4000
  | [q], m, _, _, z, ⟨s, r, c, h⟩ => by
    have nq := z q (by simp)
    have a := h.pf.few
    have le := nq.le
    have cb := c.bound nq.nz (B := 100) (by omega) (by omega)
    have cp := cond_pos cb.1
    refine ⟨by simp; omega, h.pf.small, ?_⟩
    have := Int.le_of_dvd (by omega) h.pf.fits.dvd
    have cs : cond s ≤ 400 := by
      unfold cond
      split <;> omega
    omega
  | q :: q' :: l, m, _, _, z, ⟨m1, R1, S1, m2, R2, S2, s, r, a, c, h, le, k⟩ => by
    obtain ⟨f1, f2, f3⟩ := a.few fun x hx => z x (List.mem_cons_of_mem _ hx)
    have p1 := a.least.desc.pos
    have p2 := h.pf.fits.least.desc.pos
    have lp : ((Int.lcm m1 m2 : Nat) : Int) ≠ 0 := by
      have : Int.lcm m1 m2 ≠ 0 := Int.lcm_ne_zero (by omega) (by omega)
      omega
    have b := k.few
    have d := h.pf.few
    refine ⟨by simp at f1 ⊢; omega, fun p hp => ?_, ?_⟩
    · rcases k.src p hp with y | y | y
      · exact f2 p y
      · exact h.pf.small p y
      · have := Int.le_of_dvd (by omega) y
        omega
    · have := Int.le_of_dvd (by omega) k.dvd
      omega
theorem PatR.ok {l : List (Int × Int)} {m : Int} {R S : List Int} (h : PatR l m R S) (z : ∀ q ∈ l, NumS q) (l5 : l.length ≤ 5) : SetOk m R S := by
  obtain ⟨a, b, c⟩ := h.few z
  exact ⟨h.least, c, by omega, b⟩
def spPattern (C CW : Addr) (K : PySem.W.Frag) : Sp := fun vs H Q E => ∃ (a b : Addr) (ps : List (Int × Int)), vs = [.ref a, .ref b] ∧ SqL K H a ((ps.map (·.1)).map V.int) ∧ SqL K H b ((ps.map (·.2)).map V.int) ∧ 1 ≤ ps.length ∧ ps.length ≤ 5 ∧ (∀ q ∈ ps, NumS q) ∧ NoT H ∧
  (∀ M, PatW ps.reverse M → ∀ H1 d, Same H H1 → NoT H1 → H1 d = none → E (.ref CW) (some d) (upd H1 d (.xd [("modulus", .int M)]))) ∧
  (∀ (x : Addr) (H' : Hp) (m : Int) (R S : List Int), Same H H' → NoT H' → H x = none → IsP C H' x m R S → PatR ps.reverse m R S → Q (.ref x) H')
theorem NumS.core {q : Int × Int} (h : NumS q) : ∃ s r, CoreOk q.1 s r ∧ cond s ≤ 4000 := by
  obtain ⟨s, r, c⟩ := exists_core h.nz
  have le := h.le
  have cb := c.bound h.nz (B := 100) (by omega) (by omega)
  refine ⟨s, r, c, ?_⟩
  unfold cond
  split <;> omega
theorem PatW.later : ∀ {k l : List (Int × Int)} {M : Int}, PatW l M → PatW (k ++ l) M
  | [], _, _, h => h
  | q :: k, l, _, h => by
    have ih := PatW.later (k := k) h
    cases hk : k ++ l with
    | nil => rw [hk] at ih; exact ih.elim
    | cons q' t =>
      rw [hk] at ih
      show PatW (q :: (k ++ l)) _
      rw [hk]
      exact .inl ih
theorem PatR.grow {q : Int × Int} {l : List (Int × Int)} {m1 m2 m : Int} {R1 S1 R2 S2 R S : List Int} {s r : Int} (a : PatR l m1 R1 S1) (c : CoreOk q.1 s r) (h : SgSet q.1 q.2 s m2 R2 S2) (le : ((Int.lcm m1 m2 : Nat) : Int) ≤ 4000) (k : Comb (joinB "and") m1 R1 S1 m2 R2 S2 m R S) : PatR (q :: l) m R S := by
  cases l with
  | nil => exact a.elim
  | cons q' l => exact ⟨m1, R1, S1, m2, R2, S2, s, r, a, c, h, le, k⟩
theorem PatR.wide {q : Int × Int} {l : List (Int × Int)} {m1 m2 : Int} {R1 S1 R2 S2 : List Int} {s r : Int} (a : PatR l m1 R1 S1) (c : CoreOk q.1 s r) (h : SgSet q.1 q.2 s m2 R2 S2) (lt : 4000 < ((Int.lcm m1 m2 : Nat) : Int)) : PatW (q :: l) ((Int.lcm m1 m2 : Nat) : Int) := by
  cases l with
  | nil => exact a.elim
  | cons q' l => exact .inr ⟨m1, R1, S1, m2, R2, S2, s, r, a, c, h, lt, rfl⟩
theorem take_rev {l : List (Int × Int)} {i : Nat} {q : Int × Int} (h : l[i]? = some q) : (l.take (i + 1)).reverse = q :: (l.take i).reverse := by
  rw [List.take_add_one, h]
  simp
theorem wide_all {l : List (Int × Int)} {i : Nat} {M : Int} (h : PatW (l.take i).reverse M) : PatW l.reverse M := by
  have e : l.reverse = (l.drop i).reverse ++ (l.take i).reverse := by rw [← List.reverse_append, List.take_append_drop]
  rw [e]
  exact h.later
theorem cutF {x : V} {l : List V} : cutV (x :: l) (some 1) none = l := by
  unfold cutV
  rw [sIx_nn (by decide), show HT.sIx (x :: l).length (x :: l).length none = (x :: l).length from rfl, show min (1 : Int).toNat (x :: l).length = 1 by simp]
  simp
theorem zip_at {ps : List (Int × Int)} {i : Nat} {q : V × V} (h : (((ps.map (·.1)).map V.int).zip ((ps.map (·.2)).map V.int))[i]? = some q) : ∃ p, ps[i]? = some p ∧ q = (.int p.1, .int p.2) := by
  obtain ⟨x1, x2⟩ := List.getElem?_zip_eq_some.mp h
  rw [List.getElem?_map, List.getElem?_map] at x1 x2
  cases hp : ps[i]? with
  | none => rw [hp] at x1; cases x1
  | some p =>
    rw [hp] at x1 x2
    refine ⟨p, rfl, ?_⟩
    have e1 := Option.some.inj x1
    have e2 := Option.some.inj x2
    exact Prod.ext e1.symm e2.symm
theorem ok_pattern (T : Txt K mg Ad) : Def P w K mg base 9 "pattern" ["numbers", "signs"] (spPattern Ad.c_Primes Ad.c_TooWide K) := by
  refine T.d_pattern.ok sc_pattern (fun vs H Q E h => ?_) (fun f cdv A outer s H vs Q E hr h => ?_)
  · obtain ⟨a, b, ps, rfl, _⟩ := h
    rfl
  · obtain ⟨a, b, ps, rfl, ha, hb, p1, p5, nq, nt, qw, q⟩ := h
    refine ⟨_, (pss_cons (ps_set (i := 2) sc_pattern.nd rfl (Or.inl rfl) (pe_d (ok_by_sign T) (hr.mono (by decide)) (passes_call (takes_of rfl rfl rfl rfl) (fun _ _ _ _ h => h)) (pa_cons (pe_ix ix_list (pv 0) pe_int (fun _ _ => rfl)) (pa_cons (pe_ix ix_list (pv 1) pe_int (fun _ _ => rfl)) pa_nil))))
      (pss_cons (ps_for (passes_of rfl) rfl (pi_list (pe_slice sl_list (pe_listZip rfl (by rfl) T.b_list (by rfl) T.b_zip (pa_cons (pv 0) (pa_cons (pv 1) pa_nil))) (po_some pe_int) po_none)) (pg_tup rfl (pgs_cons (pg_name (i := 3) sc_pattern.nd rfl (Or.inl rfl)) (pgs_cons (pg_name (i := 4) sc_pattern.nd rfl (Or.inl rfl)) pgs_nil))) (pss_one (ps_set (i := 2) sc_pattern.nd rfl (Or.inl rfl) (pe_op (op_binO (m := "__and__") (ok_Primes_and T) (by decide +kernel) T.sf_Primes T.ty_Primes (hr.mono (by decide)) (passes_call (takes_of rfl rfl rfl rfl) (fun _ _ _ _ h => h))) (pv 2) (pe_d (ok_by_sign T) (hr.mono (by decide)) (passes_call (takes_of rfl rfl rfl rfl) (fun _ _ _ _ h => h)) (pa_cons (pv 3) (pa_cons (pv 4) pa_nil)))))))
      (pss_one (ps_ret (pv 2))))), ?_⟩
    try dsimp only [cxOf]
    have B := Hv.start nt
    obtain ⟨q0, rest, rfl⟩ : ∃ q0 rest, ps = q0 :: rest := by
      cases ps with
      | nil => cases p1
      | cons x l => exact ⟨x, l, rfl⟩
    obtain ⟨s0, r0, c0, c04⟩ := (nq q0 (by simp)).core
    have n0 := nq q0 (by simp)
    have n0le := n0.le
    wtm_at "rs"
    refine rd_ixL ha (show atI (((q0 :: rest).map (·.1)).map V.int) ((0 : Nat) : Int) = some (.int q0.1) from atI_nat rfl) ?_
    wtm_at "rs"
    refine rd_ixL hb (show atI (((q0 :: rest).map (·.2)).map V.int) ((0 : Nat) : Int) = some (.int q0.2) from atI_nat rfl) ?_
    wtm_at "rs"
    refine use_bySg nt n0.nz (by omega) (by omega) c0 c04 (.inr n0.pm) fun x G m0 R0 S0 sx nx fx ix g0 => ?_
    replace B := B.next sx nx
    have pr : PatR [q0] m0 R0 S0 := ⟨s0, r0, c0, g0⟩
    have fx' : H x = none := fx
    clear g0
    wtm_at "rs"
    refine rd_listZip (B.same.seq ha) (B.same.seq hb) (by simp only [List.length_map]; omega) fun Z Ts G1 s1 n1 fZ hZ pz tz => ?_
    have n1 := n1 B.nt
    replace B := B.next s1 n1
    have zl := pz.len
    obtain ⟨t0, Tr, rfl⟩ : ∃ t0 Tr, Ts = t0 :: Tr := by
      cases Ts with
      | nil => simp at zl
      | cons x l => exact ⟨x, l, rfl⟩
    have pz : PairsL G1 Tr (((rest.map (·.1)).map V.int).zip ((rest.map (·.2)).map V.int)) := pz.2
    have ix := ix.mono s1
    wtm_at "rs"
    rename_i W hW
    rw [List.map_cons, cutF]
    have sW := same_new (o := .lst (Tr.map V.ref)) hW
    replace B := B.newL (o := .lst (Tr.map V.ref)) hW
    replace pz := pz.mono sW
    replace ix := ix.mono sW
    have zl : Tr.length = rest.length := by have := pz.len; simpa using this
    clear hW sW hZ fZ tz s1 n1
    revert pz ix
    refine B.gen fun G B pz ix => ?_
    wtm_at "rs"
    refine rd_forL (xs := Tr.map V.ref) (fun i σ' G' => ∃ (y : Addr) (m : Int) (R S : List Int) (v3 v4 : Option V), σ' = [some (.ref a), some (.ref b), some (.ref y), v3, v4] ∧ Hv noX H [] [(W, .lst (Tr.map V.ref))] [] G' ∧ IsP Ad.c_Primes G' y m R S ∧ PatR ((q0 :: rest).take (i + 1)).reverse m R S ∧ PairsL G' Tr (((rest.map (·.1)).map V.int).zip ((rest.map (·.2)).map V.int)) ∧ H y = none) ⟨x, m0, R0, S0, _, _, rfl, B, ix, by simpa using pr, pz, fx'⟩ (fun i σ' G' _ ⟨_, _, _, _, _, _, _, B, _⟩ => SqL.of (B.lAt (a := W) (by wtm_at "mem"))) ?_ ?_
    · clear B pz ix pr fx'
      rintro i v σ' G hi ⟨y, m, R, S, v3, v4, rfl, B, ix, pr, pz, fx'⟩
      obtain ⟨t, z, rfl, ht, hz, h3⟩ := pz.at hi
      obtain ⟨p, hp, rfl⟩ := zip_at hz
      have i5 := (List.getElem?_eq_some_iff.mp hp).1
      have hp' : (q0 :: rest)[i + 1]? = some p := hp
      have np := nq p (List.mem_of_getElem? hp')
      have nple := np.le
      obtain ⟨s1, r1, c1, c14⟩ := np.core
      refine rd_gtup (SqT.of h3) rfl ?_
      wtm_at "r"
      refine ⟨_, _, rfl, ?_⟩
      wtm_at "r"
      refine ⟨rfl, ?_⟩
      dsimp only
      wtm_at "rs"
      refine use_bySg B.nt np.nz (by omega) (by omega) c1 c14 (.inr np.pm) fun x2 G2 m2 R2 S2 sx nx fx2 ix2 g2 => ?_
      replace B := B.next sx nx
      replace ix := ix.mono sx
      replace pz := pz.mono sx
      have ok1 : SetOk m R S := pr.ok (fun q hq => nq q (List.mem_of_mem_take (List.mem_reverse.mp hq))) (by rw [List.length_reverse, List.length_take]; exact Nat.le_trans (Nat.min_le_right ..) p5)
      have ok2 : SetOk m2 R2 S2 := PatR.ok (l := [p]) ⟨s1, r1, c1, g2⟩ (fun q hq => by rw [List.mem_singleton.mp hq]; exact np) (by simp)
      obtain ⟨dx, tR, tS, h1, _, _⟩ := id ix
      obtain ⟨dy, uR, uS, h2, _, _⟩ := id ix2
      wtm_at "rs"
      refine rd_binO h1 h2 ⟨y, x2, m, m2, R, S, R2, S2, rfl, B.nt, ix, ix2, ok1, ok2, fun wd d hd => ?_, fun le x3 G3 m' R' S' s3 n3 f3 i3 k3 => ⟨x3, rfl, ?_⟩⟩
      · refine qw _ (wide_all (i := i + 1 + 1) ?_) _ _ B.same B.nt hd
        rw [take_rev hp']
        exact pr.wide c1 g2 wd
      · wtm_at "rs"
        refine ⟨x3, m', R', S', _, _, rfl, B.next s3 n3, i3, ?_, pz.mono s3, B.free f3⟩
        rw [take_rev hp']
        exact pr.grow c1 g2 le k3
    · clear B pz ix pr fx'
      rintro σ' G ⟨y, m, R, S, v3, v4, rfl, B, ix, pr, pz, fx'⟩
      rw [List.length_map, zl, show (q0 :: rest).take (rest.length + 1) = q0 :: rest from List.take_of_length_le (by simp)] at pr
      wtm_at "rs"
      exact q y G m R S B.same B.nt fx' ix pr
/-- the rests of a pattern: an odd x away from its numbers -/
theorem NumS.cop {q : Int × Int} {s r x : Int} (h : NumS q) (c : CoreOk q.1 s r) (x2 : x % 2 = 1) (g : Int.gcd x q.1 = 1) : Int.gcd x (cond s) = 1 ∧ Int.gcd r x = 1 := by
  have pm2 : QR.Pm 2 := ⟨by decide, fun d a b => by omega⟩
  have xt : Int.gcd x 2 = 1 := by
    rw [Int.gcd_comm]
    exact (QR.pm_cop pm2).mpr (by omega)
  have gs : Int.gcd x (s.natAbs : Int) = 1 := QR.cop_dvd_right g (Int.natAbs_dvd.mpr ⟨r * r, by rw [← c.prod]; grind⟩)
  refine ⟨?_, ?_⟩
  · unfold cond
    split
    · exact gs
    · exact QR.cop_mul (show Int.gcd x (2 * 2) = 1 from QR.cop_mul xt xt) gs
  · rw [Int.gcd_comm]
    exact QR.cop_dvd_right g ⟨s * r, by rw [← c.prod]; grind⟩
theorem SgSet.germ {q : Int × Int} {s r m x : Int} {R S : List Int} (nq : NumS q) (c : CoreOk q.1 s r) (h : SgSet q.1 q.2 s m R S) (x1 : 1 ≤ x) (x2 : x % 2 = 1) (g : Int.gcd x q.1 = 1) : Int.gcd x m = 1 ∧ (x % m ∈ R ↔ sgn q.1 x = q.2) := by
  have s0 := (c.bound nq.nz (B := (q.1.natAbs : Int)) (by omega) (by omega)).1
  obtain ⟨g1, g2⟩ := nq.cop c x2 g
  refine ⟨QR.cop_dvd_right g1 h.pf.fits.dvd, ?_⟩
  have e := dec_iff.mp (h.pf.fits.germ x g1)
  have e2 : sgn q.1 x = sgn s x := by
    rw [← c.prod, Int.mul_assoc, sgn_mul x1 x2, sgn_mul x1 x2 r r, sgn_sq x1 x2, if_pos g2, Int.mul_one]
  rw [e, chi_eq s0 x1 x2, ← e2]
theorem PatR.germ : ∀ {l : List (Int × Int)} {m : Int} {R S : List Int}, (∀ q ∈ l, NumS q) → PatR l m R S → ∀ x : Int, 1 ≤ x → x % 2 = 1 → (∀ q ∈ l, Int.gcd x q.1 = 1) → Int.gcd x m = 1 ∧ (x % m ∈ R ↔ ∀ q ∈ l, sgn q.1 x = q.2)
  | [q], m, R, S, z, ⟨s, r, c, h⟩, x, x1, x2, g => by
    have := h.germ (z q (by simp)) c x1 x2 (g q (by simp))
    simpa using this
  | q :: q' :: l, m, R, S, z, ⟨m1, R1, S1, m2, R2, S2, s, r, a, c, h, le, k⟩, x, x1, x2, g => by
    obtain ⟨g1, e1⟩ := a.germ (fun y hy => z y (List.mem_cons_of_mem _ hy)) x x1 x2 fun y hy => g y (List.mem_cons_of_mem _ hy)
    obtain ⟨g2, e2⟩ := h.germ (z q (by simp)) c x1 x2 (g q (by simp))
    have gl : Int.gcd x ((Int.lcm m1 m2 : Nat) : Int) = 1 := QR.cop_dvd_right (QR.cop_mul g1 g2) (Int.coe_lcm_dvd ⟨m2, rfl⟩ ⟨m1, Int.mul_comm ..⟩)
    refine ⟨QR.cop_dvd_right gl k.dvd, ?_⟩
    have e := k.germ x gl
    rw [join_and] at e
    have e : decide (x % m ∈ R) = (decide (x % m1 ∈ R1) && decide (x % m2 ∈ R2)) := e
    rw [← Bool.decide_and] at e
    rw [decide_eq_decide.mp e, e1, e2, List.forall_mem_cons (a := q)]
    exact And.comm
/-! ### _law_set -/
theorem absN : ∀ (l : List (Int × Int)), (∀ q ∈ l, q.1 ≠ 0) → ∃ N : Int, 1 ≤ N ∧ ∀ q ∈ l, q.1 ∣ N
  | [], _ => ⟨1, by decide, fun q h => absurd h List.not_mem_nil⟩
  | q :: l, h => by
    obtain ⟨N, N1, d⟩ := absN l fun r hr => h r (List.mem_cons_of_mem _ hr)
    have q0 := h q List.mem_cons_self
    have p : 0 < (q.1.natAbs : Int) * N := Int.mul_pos (by omega) (by omega)
    refine ⟨(q.1.natAbs : Int) * N, by omega, fun r hr => ?_⟩
    rcases List.mem_cons.mp hr with e | hr
    · rw [e]
      exact Int.dvd_mul_of_dvd_left (Int.dvd_natAbs.mpr (Int.dvd_refl _))
    · exact Int.dvd_mul_of_dvd_right (d r hr)
theorem sgn_cop1 {n x : Int} (x1 : 1 ≤ x) (x2 : x % 2 = 1) (g : Int.gcd x n = 1) : sgn n x = 1 ∨ sgn n x = -1 := sgn_pm x1 x2 (by rw [Int.gcd_comm]; exact g)
/-- a pattern that is not barred has rests -/
theorem PatR.rests {ps : List (Int × Int)} {m : Int} {R S : List Int} (h : PatR ps.reverse m R S) (z : ∀ q ∈ ps, NumS q) (nb : ¬ Bar (ps.map (·.1)) (ps.map (·.2))) : R ≠ [] := by
  obtain ⟨N, N1, dN⟩ := absN ps fun q hq => (z q hq).nz
  have cop : ∀ n : Int, n ∣ N → ∀ x, Odds N x → sgn n x = 1 ∨ sgn n x = -1 := fun n d x ox => sgn_cop1 ox.1 ox.2.1 (QR.cop_dvd_right ox.2.2 d)
  obtain ⟨x, ox, ex⟩ := attain (D := Odds N) (fun x h => ⟨h.1, h.2.1⟩) (fun x y a b => ⟨by have := Int.mul_le_mul a.1 b.1 (by decide) (by have := a.1; omega); omega, by rw [Int.mul_emod, a.2.1, b.2.1]; rfl, by
    rw [Int.gcd_comm]
    exact QR.cop_mul (by rw [Int.gcd_comm]; exact a.2.2) (by rw [Int.gcd_comm]; exact b.2.2)⟩) ⟨by decide, by decide, by simp⟩ (fun n n0 np h => odds_base N1 n n0 np h) ps.length (ps.map (·.1)) (ps.map (·.2)) (List.length_map ..) (List.length_map ..) (fun n hn => by
      obtain ⟨q, hq, rfl⟩ := List.mem_map.mp hn
      exact ⟨(z q hq).nz, cop _ (dN q hq)⟩) (fun s hs => by
      obtain ⟨q, hq, rfl⟩ := List.mem_map.mp hs
      exact (z q hq).pm) nb
  have key := (h.germ (fun q hq => z q (List.mem_reverse.mp hq)) x ox.1 ox.2.1 fun q hq => QR.cop_dvd_right ox.2.2 (dN q (List.mem_reverse.mp hq))).2.mpr fun q hq => by
    rw [List.map_map, List.map_inj_left] at ex
    exact ex q (List.mem_reverse.mp hq)
  intro e
  rw [e] at key
  cases key
theorem no_odd78 {ns σ : List Int} {x : Int} (x1 : 1 ≤ x) (x2 : x % 2 = 1) (b : Bar ns σ) : ns.map (fun n => sgn n x) ≠ σ := fun h => by
  obtain ⟨m, l, e, r, hr⟩ := b
  rw [← h, mp_sgnx x1 x2, hr, sgn_mul x1 x2, sgn_sq x1 x2] at e
  split at e <;> cases e
/-- a barred pattern has no rests and no primes -/
theorem PatR.barred {ps : List (Int × Int)} {m m' : Int} {R S R' S' : List Int} (h : PatR ps.reverse m R S) (z : ∀ q ∈ ps, NumS q) (b : Bar (ps.map (·.1)) (ps.map (·.2))) (mk : Made 1 [] [] m' R' S') : m = m' ∧ R = R' ∧ S = S' := by
  have no : ∀ x : Int, 1 ≤ x → x % 2 = 1 → ¬ ∀ q ∈ ps.reverse, sgn q.1 x = q.2 := fun x x1 x2 e => by
    refine no_odd78 x1 x2 b ?_
    rw [List.map_map, List.map_inj_left]
    exact fun q hq => e q (List.mem_reverse.mpr hq)
  have ls := h.least
  have m1 := ls.desc.pos
  obtain ⟨N, N1, dN⟩ := absN ps fun q hq => (z q hq).nz
  have R0 : R = [] := List.eq_nil_iff_forall_not_mem.mpr fun r hr => by
    obtain ⟨r0, r1, rc⟩ := ls.desc.rests r hr
    -- an odd number of this rest, away from the numbers
    obtain ⟨x, xm, x2, xN⟩ : ∃ x : Int, x % m = r ∧ x % 2 = 1 ∧ Int.gcd x N = 1 := by
      obtain ⟨x, c, e⟩ := unit_lift (2 * N).toNat (m := m * (2 * N)) (s := m) (r := r) (by omega) (by rw [Int.toNat_of_nonneg (by omega)]) (by omega) (mem_uL.mpr ⟨r0, r1, rc⟩)
      have pm2 : QR.Pm 2 := ⟨by decide, fun d a b => by omega⟩
      have c2 := QR.cop_dvd_right c (show (2 : Int) ∣ m * (2 * N) from ⟨m * N, by grind⟩)
      rw [Int.gcd_comm] at c2
      have := (QR.pm_cop pm2).mp c2
      exact ⟨x, e, by omega, QR.cop_dvd_right c ⟨m * 2, by grind⟩⟩
    have p : 0 < m * (2 * N) := Int.mul_pos (by omega) (by omega)
    obtain ⟨y, y1, ye⟩ : ∃ y : Int, 1 ≤ y ∧ ∃ t : Int, y = x + t * (m * (2 * N)) := by
      refine ⟨x % (m * (2 * N)) + m * (2 * N), by have := Int.emod_nonneg x (show m * (2 * N) ≠ 0 by omega); omega, 1 - x / (m * (2 * N)), ?_⟩
      have := Int.mul_ediv_add_emod x (m * (2 * N))
      grind
    obtain ⟨t, ye⟩ := ye
    have ym : y % m = r := by rw [ye, show x + t * (m * (2 * N)) = x + m * (t * (2 * N)) by grind, Int.add_mul_emod_self_left, xm]
    have y2 : y % 2 = 1 := by rw [ye, show x + t * (m * (2 * N)) = x + 2 * (t * (m * N)) by grind, Int.add_mul_emod_self_left, x2]
    have yN : Int.gcd y N = 1 := by
      rw [ye, show x + t * (m * (2 * N)) = x + N * (t * (m * 2)) by grind]
      rw [← QR.cop_emod, Int.add_mul_emod_self_left, QR.cop_emod]
      exact xN
    have g := (h.germ (fun q hq => z q (List.mem_reverse.mp hq)) y y1 y2 fun q hq => QR.cop_dvd_right yN (dN q (List.mem_reverse.mp hq))).2.mp (by rw [ym]; exact hr)
    exact no y y1 y2 g
  have f : Fits m (fun _ => false) (fun _ => false) m R S := ⟨ls, Int.dvd_refl _, fun x _ => by rw [R0]; simp, fun p op => decide_eq_false fun hm => no p (by have := op.three; omega) op.2 ((h.mem p op).mp hm)⟩
  exact f.eq m1 (none_fits mk) (fun _ => rfl) fun _ => rfl
def spSet78 (C : Addr) (K : PySem.W.Frag) : Sp := fun vs H Q _ => ∃ (a b : Addr) (ps : List (Int × Int)), vs = [.ref a, .ref b] ∧ SqL K H a ((ps.map (·.1)).map V.int) ∧ SqL K H b ((ps.map (·.2)).map V.int) ∧ 1 ≤ ps.length ∧ ps.length ≤ 5 ∧ (∀ q ∈ ps, NumS q) ∧ NoT H ∧
  (∀ H', Same H H' → NoT H' → Q .non H') ∧
  (∀ (x : Addr) (H' : Hp) (m : Int) (R S : List Int), Same H H' → NoT H' → H x = none → IsP C H' x m R S → PatR ps.reverse m R S → Q (.ref x) H')
theorem ok_law_set (T : Txt K mg Ad) : Def P w K mg base 10 "_law_set" ["_law_numbers", "_law_signs"] (spSet78 Ad.c_Primes K) := by
  refine T.d_law_set.ok sc_law_set (fun vs H Q E h => ?_) (fun f cdv A outer s H vs Q E hr h => ?_)
  · obtain ⟨a, b, ps, rfl, _⟩ := h
    rfl
  · obtain ⟨a, b, ps, rfl, ha, hb, p1, p5, nq, nt, qw, q⟩ := h
    refine ⟨_, (pss_one (ps_try_only (tb := fun W => (tRet (tCallS ((spPattern Ad.c_Primes Ad.c_TooWide K)) (WE W) (tCons (tVar 0) (tCons (tVar 1) tNil))))) (ts := fun a cls d => (tRet (tC .non))) (Wout := fun cls d _ H => E cls d H) rfl rfl ⟨rfl, by decide, .inl T.r_TooWide.g⟩ (takes_of rfl rfl rfl rfl) (fun W pn xe tk ow => (pss_one (ps_ret (by exact (pe_dS (ok_pattern T) (hr.mono (by decide)) tk (pa_cons (pv 0) (pa_cons (pv 1) pa_nil))))))) (fun a oe cls d pn hz hf => (pss_one (ps_ret pe_non))))), ?_⟩
    try dsimp only [cxOf]
    wtm_at "rs"
    refine ⟨a, b, ps, rfl, ha, hb, p1, p5, nq, nt, fun M hM H1 d s1 n1 hd => ?_, fun x H' m R S s1 n1 fx ix pr => ?_⟩
    · show wOnly _ _ _ _ _ _ _ _ _
      refine rd_wonly T.r_TooWide.self fun x hx => ?_
      wtm_at "rs"
      exact qw _ (s1.trans (same_new hd)) (NoT.upd n1 rfl)
    · wtm_at "rs"
      exact q x H' m R S s1 n1 fx ix pr
/-! ### Primes.finite -/
def spPFin (C : Addr) : Sp := fun vs H Q E => ∃ (q : Addr) (m : Int) (R S : List Int), vs = [.ref q] ∧ IsP C H q m R S ∧ R.length ≤ 1000000 ∧ Q (.bl (decide (R = []))) H
theorem fin_look (m : Int) (tR tS : Addr) : List.lookup ("finite" : Str) (pfl m tR tS) = none := rfl
theorem ok_Primes_finite (T : Txt K mg Ad) : MDef P w K mg base 1 Ad.c_Primes "finite" ["self"] (spPFin Ad.c_Primes) := by
  refine T.d_Primes_finite.ok sc_Primes_finite (fun vs H Q E h => ?_) (fun f cdv A outer s H vs Q E hr h => ?_)
  · obtain ⟨q, m, R, S, rfl, _⟩ := h
    rfl
  · obtain ⟨q, m, R, S, rfl, ⟨dx, tR, tS, hq, hR, hS⟩, lR, qo⟩ := h
    refine ⟨_, (pss_one (ps_ret (pe_cmpR op_eq (pe_callB c_len (by rfl) T.b_len PySem.boot_len (pa_cons (pe_fldC (pv 0) T.cl_Primes T.nf_Primes_rests) pa_nil)) pe_int (nomark _)))), ?_⟩
    try dsimp only [cxOf]
    wtm_at "rs"
    have e : decide (((R.map V.int).length : Int) = 0) = decide (R = []) := decide_eq_decide.mpr (by rw [List.length_map]; exact ⟨fun h => List.length_eq_zero_iff.mp (by omega), fun h => by rw [h]; rfl⟩)
    rw [e]
    exact qo
/-! ### Primes.none -/
def spNoneP (C : Addr) : Sp := fun vs H Q E => vs = [.ref C] ∧ NoT H ∧ ∀ (x : Addr) (H' : Hp) (m' : Int) (R' S' : List Int), Same H H' → NoT H' → H x = none → IsP C H' x m' R' S' → Made 1 [] [] m' R' S' → Q (.ref x) H'
theorem ok_Primes_none (T : Txt K mg Ad) : CMDef P w K mg base 7 Ad.c_Primes "none" (spNoneP Ad.c_Primes) := by
  refine T.d_Primes_none.ok sc_Primes_none (fun vs H Q E h => ?_) (fun f fd F => F.binds (ps := ["cls"]) fun _ _ _ _ _ _ us hl => match us, hl with | [_], _ => rfl) (fun f cdv A outer s H vs Q E hr h => ?_)
  · obtain ⟨rfl, _⟩ := h
    rfl
  · obtain ⟨rfl, nt, q⟩ := h
    refine ⟨_, (pss_one (ps_ret (pe_mkd (ok_Primes_init T) (hr.mono (by decide)) (passes_call (takes_of rfl rfl rfl rfl) (fun _ _ _ _ h => h)) (pa_cons pe_int (pa_cons (pe_lst pa_nil) (pa_cons (pe_lst pa_nil) pa_nil)))))), ?_⟩
    try dsimp only [cxOf]
    wtm_at "rs"
    rename_i a ha b hb
    refine mk_P (R := []) (S := []) (by wtm_at "nt") (.inl (SqL.of (upd_keep upd_same hb))) (.inl (SqL.of upd_same)) (by decide) (by decide) (fun p h => absurd h List.not_mem_nil) (by decide) (by decide) (fun r h => absurd h List.not_mem_nil) (fun p h => absurd h List.not_mem_nil) fun x H' m' R' S' sm n' hx ip md => ?_
    have s0 := (same_new (o := .lst []) ha).trans (same_new (o := .lst []) hb)
    exact q x H' m' R' S' (s0.trans sm) n' (s0.free hx) ip md
/-! ### Primes.__eq__ -/
def spPEq (C : Addr) : Sp := fun vs H Q E => ∃ (p : Addr) (m : Int) (R S : List Int) (y : V), vs = [.ref p, y] ∧ IsP C H p m R S ∧ NoT H ∧ ((∃ q m' R' S', y = .ref q ∧ IsP C H q m' R' S' ∧ Q (.bl (decide (m = m' ∧ R = R' ∧ S = S'))) H) ∨ ∃ l xs, y = .ref l ∧ H l = some (.lst xs) ∧ Q (.bl false) H)
theorem intsD_inj : ∀ {a b : List Int}, a.map PyData.int = b.map PyData.int ↔ a = b
  | [], [] => by simp
  | [], _ :: _ => by simp
  | _ :: _, [] => by simp
  | x :: a, y :: b => by
    have := intsD_inj (a := a) (b := b)
    simp [this]
theorem dpI {K : PySem.W.Frag} {H : Hp} : ∀ (ns : List Int), DpAll K H (ns.map V.int) (ns.map PyData.int)
  | [] => .nil
  | n :: ns => .cons (.int n) (dpI ns)
def pD (m : Int) (R S : List Int) : PyData := .tuple [.int m, .tuple (R.map PyData.int), .tuple (S.map PyData.int)]
theorem pD_ok {m : Int} {R S : List Int} : okD (pD m R S) 60 = true := by
  have a : ∀ ns : List Int, okDs (ns.map PyData.int) 58 = true := fun ns => okDs_map fun x _ => by simp [okD]
  simp [pD, okD, okDs, a R, a S]
theorem pD_eq {m m' : Int} {R R' S S' : List Int} : pD m R S = pD m' R' S' ↔ m = m' ∧ R = R' ∧ S = S' := by
  simp [pD, intsD_inj]
theorem ok_Primes_eq0 (T : Txt K mg Ad) : MDef P w K mg base 1 Ad.c_Primes "__eq__" ["self", "other"] (fun vs H Q E => ∃ (p : Addr) (m : Int) (R S : List Int) (y : V), vs = [.ref p, y] ∧ IsP Ad.c_Primes H p m R S ∧ ((∃ q m' R' S', y = .ref q ∧ IsP Ad.c_Primes H q m' R' S' ∧ ∀ H', Same H H' → Q (.bl (decide (m = m' ∧ R = R' ∧ S = S'))) H') ∨ ∃ l xs, y = .ref l ∧ H l = some (.lst xs) ∧ Q (.bl false) H)) := by
  refine T.d_Primes_eq.ok sc_Primes_eq (fun vs H Q E h => ?_) (fun f cdv A outer s H vs Q E hr h => ?_)
  · obtain ⟨p, m, R, S, y, rfl, _⟩ := h
    rfl
  · obtain ⟨p, m, R, S, y, rfl, ⟨dx, tR, tS, hp, hR, hS⟩, h⟩ := h
    rcases h with ⟨q, m', R', S', rfl, ⟨dy, uR, uS, hq, gR, gS⟩, qo⟩ | ⟨l, xs, rfl, hl, qo⟩
    · refine ⟨_, (pss_cons (ps_if (pt_not (pt_val (pe_callB call_isi (by rfl) T.b_isinstance (by decide +kernel) (pa_cons (pv 1) (pa_cons (pe_glob (v := .ref Ad.c_Primes) rfl T.g_Primes rfl) pa_nil))))) (pss_one (ps_ret pe_bl)) pss_nil)
      (pss_one (ps_ret (pe_cmpR (op_eqD hr.units) (pe_tup (pa_cons (pe_fldC (pv 0) T.cl_Primes T.nf_Primes_modulus) (pa_cons (pe_fldC (pv 0) T.cl_Primes T.nf_Primes_rests) (pa_cons (pe_fldC (pv 0) T.cl_Primes T.nf_Primes_singles) pa_nil)))) (pe_tup (pa_cons (pe_fldC (pv 1) T.cl_Primes T.nf_Primes_modulus) (pa_cons (pe_fldC (pv 1) T.cl_Primes T.nf_Primes_rests) (pa_cons (pe_fldC (pv 1) T.cl_Primes T.nf_Primes_singles) pa_nil)))) (nomark _))))), ?_⟩
      try dsimp only [cxOf]
      wtm_at "rs"
      refine ⟨_, _, _, _, true, rfl, .own _, T.ty_Primes _ _ _ _ hq, T.ki_Primes, ?_⟩
      wtm_at "rs"
      rename_i t1 h1 t2 h2
      have sm := (same_new (o := .tup [.int m, .ref tR, .ref tS]) h1).trans (same_new (o := .tup [.int m', .ref uR, .ref uS]) h2)
      refine rd_eqD (d := pD m R S) (e := pD m' R' S') (.tup (SqT.of (upd_keep upd_same h2)) (.cons (.int _) (.cons (.tup (SqT.of (sm _ _ hR)) (dpI _)) (.cons (.tup (SqT.of (sm _ _ hS)) (dpI _)) .nil)))) (.tup (SqT.of upd_same) (.cons (.int _) (.cons (.tup (SqT.of (sm _ _ gR)) (dpI _)) (.cons (.tup (SqT.of (sm _ _ gS)) (dpI _)) .nil)))) (okD_shaped pD_ok) (okD_shaped pD_ok) ?_
      rw [okD_dec pD_ok pD_ok, decide_eq_decide.mpr pD_eq]
      exact qo _ sm
    · refine ⟨_, (pss_cons (ps_if (pt_not (pt_val (pe_callB call_isi (by rfl) T.b_isinstance (by decide +kernel) (pa_cons (pv 1) (pa_cons (pe_glob (v := .ref Ad.c_Primes) rfl T.g_Primes rfl) pa_nil))))) (pss_one (ps_ret pe_bl)) pss_nil)
      (pss_one (ps_ret (pe_cmpR (op_eqD hr.units) (pe_tup (pa_cons (pe_fldC (pv 0) T.cl_Primes T.nf_Primes_modulus) (pa_cons (pe_fldC (pv 0) T.cl_Primes T.nf_Primes_rests) (pa_cons (pe_fldC (pv 0) T.cl_Primes T.nf_Primes_singles) pa_nil)))) (pe_tup (pa_cons (pe_fldC (pv 1) T.cl_Primes T.nf_Primes_modulus) (pa_cons (pe_fldC (pv 1) T.cl_Primes T.nf_Primes_rests) (pa_cons (pe_fldC (pv 1) T.cl_Primes T.nf_Primes_singles) pa_nil)))) (nomark _))))), ?_⟩
      try dsimp only [cxOf]
      wtm_at "rs"
      refine ⟨_, _, _, _, false, rfl, .own _, .base (.lst hl), T.kl_Primes, ?_⟩
      wtm_at "rs"
      exact qo
theorem ok_Primes_eq (T : Txt K mg Ad) : MDef P w K mg base 1 Ad.c_Primes "__eq__" ["self", "other"] (spPEq Ad.c_Primes) :=
  (ok_Primes_eq0 T).forget.imp fun vs H Q E ⟨p, m, R, S, y, e, hp, nt, h⟩ => ⟨nt, p, m, R, S, y, e, hp, h.elim (fun ⟨q, m', R', S', e, hq, q'⟩ => .inl ⟨q, m', R', S', e, hq, fun H' s => ⟨s, q'⟩⟩) fun ⟨l, xs, e, hl, q'⟩ => .inr ⟨l, xs, e, hl, Same.refl _, q'⟩⟩
theorem use_PEq (T : Txt K mg Ad) {p q : Addr} {m m' : Int} {R S R' S' : List Int} {H : Hp} {Q : VK} {E : XK} (hp : IsP Ad.c_Primes H p m R S) (hq : IsP Ad.c_Primes H q m' R' S') (nt : NoT H) (k : Q (.bl (decide (m = m' ∧ R = R' ∧ S = S'))) H) : rEqO K Ad.c_Primes (spPEq Ad.c_Primes) E (.ref p) (.ref q) H Q := by
  obtain ⟨dx, tR, tS, h1, h2, h3⟩ := id hp
  obtain ⟨dy, uR, uS, g1, g2, g3⟩ := id hq
  exact ⟨p, dx, _, _, rfl, h1, T.ty_Primes _ _ _ _ g1, by unfold PySem.W.notFirst; simp, p, m, R, S, _, rfl, hp, nt, .inl ⟨q, m', R', S', rfl, hq, ⟨_, rfl⟩, k⟩⟩
/-! ### _law_sign -/
def spLSgn : Sp := fun vs H Q E => ∃ (n p : Int), vs = [.int n, .int p] ∧ QR.OP p ∧ p < 2 ^ 100 ∧ Q (.int (sgn n p)) H
theorem use_LSgn {n p : Int} {H : Hp} {Q : VK} {E : XK} (hp : QR.OP p) (hb : p < 2 ^ 100) (q : Q (.int (sgn n p)) H) : spLSgn [.int n, .int p] H Q E := ⟨n, p, rfl, hp, hb, q⟩
theorem ok_law_sign (T : Txt K mg Ad) : Def P w K mg base 1 "_law_sign" ["_law_n", "_law_p"] spLSgn := by
  refine T.d_law_sign.ok sc_law_sign (fun vs H Q E h => ?_) (fun f cdv A outer s H vs Q E hr h => ?_)
  · obtain ⟨n, p, rfl, _⟩ := h
    rfl
  · obtain ⟨n, p, rfl, hp, hb, q⟩ := h
    refine ⟨_, (pss_cons (ps_set (i := 2) sc_law_sign.nd rfl (Or.inl rfl) pe_int)
      (pss_cons (ps_set (i := 3) sc_law_sign.nd rfl (Or.inl rfl) (pe_op op_mod (pe_callTy c_int1 (by rfl) T.b_int (by decide +kernel) (pa_cons (pv 0) pa_nil)) (pv 1)))
      (pss_cons (ps_set (i := 4) sc_law_sign.nd rfl (Or.inl rfl) (pe_op op_fdivB (pe_op op_sub (pv 1) pe_int) pe_int))
      (pss_cons (ps_while (passes_of rfl) (pt_cmpR op_gt (pv 4) pe_int (nomark _)) (pss_cons (ps_if (pt_cmpR op_eq (pe_op op_mod (pv 4) pe_int) pe_int (nomark _)) (pss_one (ps_set (i := 2) sc_law_sign.nd rfl (Or.inl rfl) (pe_op op_mod (pe_callTy c_int1 (by rfl) T.b_int (by decide +kernel) (pa_cons (pe_op op_mulB (pv 2) (pv 3)) pa_nil)) (pv 1)))) pss_nil)
      (pss_cons (ps_set (i := 3) sc_law_sign.nd rfl (Or.inl rfl) (pe_op op_mod (pe_callTy c_int1 (by rfl) T.b_int (by decide +kernel) (pa_cons (pe_op op_mulB (pv 3) (pv 3)) pa_nil)) (pv 1)))
      (pss_one (ps_set (i := 4) sc_law_sign.nd rfl (Or.inl rfl) (pe_op op_fdivB (pv 4) pe_int))))))
      (pss_cons (ps_if (pt_cmpR op_eq (pv 2) (pe_op op_sub (pv 1) pe_int) (nomark _)) (pss_one (ps_ret (pe_un un_neg pe_int))) pss_nil)
      (pss_one (ps_ret (pv 2)))))))), ?_⟩
    try dsimp only [cxOf]
    have h3 := hp.three
    have m1 := fun z => Int.emod_nonneg z (show p ≠ 0 by omega)
    have m2 := fun z => Int.emod_lt_of_pos z (show 0 < p by omega)
    have m3 := m1 n
    have m4 := m2 n
    obtain ⟨e0, he0⟩ : ∃ e0, e0 = ((p - 1) / 2).toNat := ⟨_, rfl⟩
    have he1 : (p - 1) / 2 = (e0 : Int) := by omega
    have eu := euler_sgn (n := n) hp
    rw [← he0] at eu
    wtm_at "rs"
    rw [he1]
    refine rd_while (fun μ σ H' => ∃ (d : Nat) (r b : Int), μ = d ∧ σ = [some (.int n), some (.int p), some (.int r), some (.int b), some (.int (d : Int))] ∧ H = H' ∧ 0 ≤ r ∧ r < p ∧ 0 ≤ b ∧ b < p ∧ p ∣ r * b ^ d - n ^ e0) _
      ⟨e0, 1, n % p, rfl, rfl, rfl, by omega, by omega, m3, m4, by rw [Int.one_mul]; exact cg_pow ⟨-(n / p), by have := Int.mul_ediv_add_emod n p; rw [Int.mul_neg]; omega⟩ e0⟩ ?_
    rintro μ σ H' ⟨d, r, b, rfl, rfl, rfl, r0, r1, b0, b1, inv⟩
    have Br : Bd 100 r := Bd.of (by omega) (by omega)
    have Bb : Bd 100 b := Bd.of (by omega) (by omega)
    wtm_at "rs"
    wtm_at "i"
    · wtm_at "rs"
      wtm_at "i"
      · wtm_at "rs"
        exact ⟨_, by omega, μ / 2, _, _, rfl, by rw [show ((μ / 2 : Nat) : Int) = (μ : Int) / 2 by omega]; rfl, rfl, m1 _, m2 _, m1 _, m2 _, pw_odd inv (by omega)⟩
      · wtm_at "rs"
        exact ⟨_, by omega, μ / 2, _, _, rfl, by rw [show ((μ / 2 : Nat) : Int) = (μ : Int) / 2 by omega]; rfl, rfl, r0, r1, m1 _, m2 _, pw_even inv (by omega)⟩
    · rename_i h0
      have e : μ = 0 := by omega
      subst e
      have er := pw_fin (Y := n ^ e0) inv r0 r1
      rw [← er] at eu
      wtm_at "rs"
      by_cases c : r = p - 1
      · rw [if_pos (decide_eq_true c)]
        rw [if_pos c] at eu
        wtm_at "rs"
        rw [eu]
        exact q
      · rw [if_neg (by rw [decide_eq_true_iff]; exact c)]
        rw [if_neg c] at eu
        wtm_at "rs"
        rw [eu]
        exact q
/-! ### _law_is_prime -/
def spOP : Sp := fun vs H Q _ => ∃ n : Int, vs = [.int n] ∧ n < 2 ^ 120 ∧ Q (.bl (decide (QR.OP n))) H
theorem ok_law_is_prime (T : Txt K mg Ad) : Def P w K mg base 1 "_law_is_prime" ["_law_n"] spOP := by
  refine T.d_law_is_prime.ok sc_law_is_prime (fun vs H Q E h => ?_) (fun f cdv A outer s H vs Q E hr h => ?_)
  · obtain ⟨n, rfl, _⟩ := h
    rfl
  · obtain ⟨n, rfl, hn, q⟩ := h
    refine ⟨_, (pss_cons (ps_if (PW.pt (pw_or (pt_cmpR op_lt (pv 0) pe_int (nomark _)) (pw_or1 (pt_cmpR op_eq (pe_op op_mod (pv 0) pe_int) pe_int (nomark _))))) (pss_one (ps_ret pe_bl)) pss_nil)
      (pss_cons (ps_set (i := 1) sc_law_is_prime.nd rfl (Or.inl rfl) pe_int)
      (pss_cons (ps_while (passes_of rfl) (pt_cmpR op_le (pe_op op_mulB (pv 1) (pv 1)) (pv 0) (nomark _)) (pss_cons (ps_if (pt_cmpR op_eq (pe_op op_mod (pv 0) (pv 1)) pe_int (nomark _)) (pss_one (ps_ret pe_bl)) pss_nil)
      (pss_one (ps_set (i := 1) sc_law_is_prime.nd rfl (Or.inl rfl) (pe_op op_add (pv 1) pe_int)))))
      (pss_one (ps_ret pe_bl))))), ?_⟩
    try dsimp only [cxOf]
    wtm_at "ra"
    · rw [decide_eq_false (fun z : QR.OP n => by have := z.three; omega)] at q
      exact q
    · rw [decide_eq_false (fun z : QR.OP n => by have := z.2; omega)] at q
      exact q
    · refine rd_while (fun μ σ H' => ∃ k : Int, μ = (n + 2 - k).toNat ∧ σ = [some (.int n), some (.int k)] ∧ H = H' ∧ 3 ≤ k ∧ k % 2 = 1 ∧ k < 2 ^ 61 ∧ ∀ d : Int, 3 ≤ d → d % 2 = 1 → d < k → ¬ d ∣ n) (n - 1).toNat
        ⟨3, by omega, rfl, rfl, by omega, by omega, by omega, fun d _ _ _ => by omega⟩ ?_
      rintro μ σ H' ⟨k, rfl, rfl, rfl, hk, hk2, hk3, inv⟩
      wtm_at "ra"
      · rename_i hle hz
        rw [decide_eq_false (fun z : QR.OP n => QR.not_pm (by omega) hle hz z.1)] at q
        exact q
      · rename_i hle hz
        have b := QR.sq_bound (by omega) hle hn
        have c := QR.le_sq (show 1 ≤ k by omega)
        exact ⟨_, by omega, k + 2, rfl, rfl, rfl, by omega, by omega, by omega, QR.no_dvd_step2 hk2 inv hz⟩
      · rename_i hgt
        rw [decide_eq_true (show QR.OP n from ⟨QR.pm_of_odd_trial (by omega) (by omega) (by omega) (by omega) inv, by omega⟩)] at q
        exact q
theorem use_OP {n : Int} {H : Hp} {Q : VK} {E : XK} (h : n < 2 ^ 120) (q : Q (.bl (decide (QR.OP n))) H) : spOP [.int n] H Q E := ⟨n, rfl, h, q⟩
local macro_rules | `(tactic| wtm_at "s") => `(tactic| ((with_reducible refine use_OP ?h1 ?_); (case h1 => omega)))
/-! ### _law_cell -/
theorem getD_at {ns : List Int} {i : Nat} (h : i < ns.length) : atI (ns.map V.int) (i : Int) = some (.int (ns.getD i 0)) := by
  refine atI_nat ?_
  rw [List.getElem?_map, List.getElem?_eq_getElem h, List.getD_eq_getElem?_getD, List.getElem?_eq_getElem h]
  rfl
theorem getD_out {ns : List Int} {i : Nat} (h : ¬ i < ns.length) : ns.getD i 0 = 0 := by
  rw [List.getD_eq_getElem?_getD, List.getElem?_eq_none (by omega)]
  rfl
def spCell (K : PySem.W.Frag) : Sp := fun vs H Q _ => ∃ (a : Addr) (ns : List Int) (i : Nat), vs = [.ref a, .int i] ∧ SqL K H a (ns.map V.int) ∧ Q (.int (ns.getD i 0)) H
theorem ok_law_cell (T : Txt K mg Ad) : Def P w K mg base 1 "_law_cell" ["_law_script", "_law_k"] (spCell K) := by
  refine T.d_law_cell.ok sc_law_cell (fun vs H Q E h => ?_) (fun f cdv A outer s H vs Q E hr h => ?_)
  · obtain ⟨a, ns, i, rfl, _⟩ := h
    rfl
  · obtain ⟨a, ns, i, rfl, hS, q⟩ := h
    refine ⟨_, (pss_cons (ps_if (pt_cmpR op_lt (pv 1) (pe_callB c_len (by rfl) T.b_len PySem.boot_len (pa_cons (pv 0) pa_nil)) (nomark _)) (pss_one (ps_ret (pe_ix ix_list (pv 0) (pv 1) (fun _ _ => rfl)))) pss_nil)
      (pss_one (ps_ret pe_int))), ?_⟩
    try dsimp only [cxOf]
    wtm_at "rs"
    wtm_at "i"
    · rename_i h
      rw [List.length_map] at h
      wtm_at "rs"
      exact rd_ixL hS (getD_at (by omega)) q
    · rename_i h
      rw [List.length_map] at h
      rw [getD_out (by omega)] at q
      wtm_at "rs"
      exact q
theorem use_cell {a : Addr} {ns : List Int} {i : Nat} {H : Hp} {Q : VK} {E : XK} {z : Int} (hS : SqL K H a (ns.map V.int)) (hz : z = (i : Int)) (q : Q (.int (ns.getD i 0)) H) : spCell K [.ref a, .int z] H Q E :=
  ⟨a, ns, i, by rw [hz], hS, q⟩
local macro_rules | `(tactic| wtm_at "s") => `(tactic| ((with_reducible refine use_cell (ns := ?ns) (i := ?i) ?h1 ?h2 ?_); (case h1 => wtm_at "q"); (case h2 => first | rfl | exact (Int.zero_add _) | exact (Int.natCast_succ _).symm)))
/-! ### _law_draws -/
def spDraws (K : PySem.W.Frag) : Sp := fun vs H Q E => ∃ (c : Int) (a : Addr) (ss : List Int), vs = [.int c, .ref a] ∧ SqL K H a (ss.map V.int) ∧ (∀ s ∈ ss, 0 < s ∧ s < 2 ^ 240) ∧ ss.length ≤ 1000 ∧ NoT H ∧ ∀ D ds H', Same H H' → NoT H' → H D = none → H' D = some (.lst (ds.map V.int)) → DrawOk ds ss → Q (.ref D) H'
theorem ok_law_draws (T : Txt K mg Ad) : Def P w K mg base 1 "_law_draws" ["_law_cell_here", "_law_sizes"] (spDraws K) := by
  refine T.d_law_draws.ok sc_law_draws (fun vs H Q E h => ?_) (fun f cdv A outer s H vs Q E hr h => ?_)
  · obtain ⟨c, a, ss, rfl, _⟩ := h
    rfl
  · obtain ⟨c, a, ss, rfl, hS, hs, hlen, nt, q⟩ := h
    have hml : (ss.map V.int).length = ss.length := List.length_map ..
    refine ⟨_, (pss_cons (ps_set (i := 2) sc_law_draws.nd rfl (Or.inl rfl) (pe_lst pa_nil))
      (pss_cons (ps_set (i := 3) sc_law_draws.nd rfl (Or.inl rfl) (pe_callB c_abs (by rfl) T.b_abs (by decide +kernel) (pa_cons (pv 0) pa_nil)))
      (pss_cons (ps_for (passes_of rfl) rfl (pi_range1 (by rfl) T.b_range (pa_cons (pe_callB c_len (by rfl) T.b_len PySem.boot_len (pa_cons (pv 1) pa_nil)) pa_nil)) (pg_name (i := 4) sc_law_draws.nd rfl (Or.inl rfl)) (pss_one (ps_if (pt_cmpR op_ge (pe_callB c_abs (by rfl) T.b_abs (by decide +kernel) (pa_cons (pv 0) pa_nil)) (pe_op (op_powN 18) pe_int pe_int) (nomark _)) (pss_cons (ps_expr (pe_bm PySem.F.plainAttrs_list PySem.F.slot_list_append PySem.F.type_list_append mt_append (pv 2) (pa_cons (pe_op op_mod (pe_callTy c_int1 (by rfl) T.b_int (by decide +kernel) (pa_cons (pv 3) pa_nil)) (pe_ix ix_list (pv 1) (pv 4) (fun _ _ => rfl))) pa_nil)))
      (pss_one (ps_set (i := 3) sc_law_draws.nd rfl (Or.inl rfl) (pe_op op_fdivB (pv 3) (pe_ix ix_list (pv 1) (pv 4) (fun _ _ => rfl)))))) (pss_cons (ps_set (i := 5) sc_law_draws.nd rfl (Or.inl rfl) (pe_op op_mod (pe_callTy c_int1 (by rfl) T.b_int (by decide +kernel) (pa_cons (pe_op op_mulB (pe_op op_add (pe_op op_add (pv 3) (pe_op op_mulB pe_int (pv 4))) pe_int) pe_int) pa_nil)) pe_int))
      (pss_cons (ps_set (i := 5) sc_law_draws.nd rfl (Or.inl rfl) (pe_op op_mod (pe_callTy c_int1 (by rfl) T.b_int (by decide +kernel) (pa_cons (pe_op op_add (pe_op op_add (pe_op op_mulB (pe_op op_mulB (pv 5) (pv 5)) pe_int) (pe_op op_mulB pe_int (pv 4))) (pv 5)) pa_nil)) pe_int))
      (pss_one (ps_expr (pe_bm PySem.F.plainAttrs_list PySem.F.slot_list_append PySem.F.type_list_append mt_append (pv 2) (pa_cons (pe_op op_mod (pe_op op_fdivB (pv 5) pe_int) (pe_ix ix_list (pv 1) (pv 4) (fun _ _ => rfl))) pa_nil)))))))))
      (pss_one (ps_ret (pv 2)))))), ?_⟩
    try dsimp only [cxOf]
    wtm_at "rs"
    rename_i D hD
    refine rd_forR (fun i σ H' => ∃ (L : Int) (ds : List Int) (v4 v5 : Option V), σ = [some (.int c), some (.ref a), some (.ref D), some (.int L), v4, v5] ∧ Same H H' ∧ NoT H' ∧ H' D = some (.lst (ds.map V.int)) ∧ DrawOk ds (ss.take i)) ⟨_, [], _, _, rfl, same_new hD, NoT.upd nt rfl, upd_same, trivial⟩ ?_ ?_
    · rintro i σ H' hi ⟨L, ds, v4, v5, rfl, sm, nt', hd, hok⟩
      have hil : i < ss.length := by simpa using hi
      have hS' := sm.seq hS
      have hix : atI (ss.map V.int) (0 + (i : Int)) = some (.int (ss.getD i 0)) := by
        rw [Int.zero_add]
        refine atI_nat ?_
        rw [List.getElem?_map, List.getElem?_eq_getElem hil, List.getD_eq_getElem?_getD, List.getElem?_eq_getElem hil]
        rfl
      obtain ⟨s0, s1⟩ := hs (ss.getD i 0) (by rw [List.getD_eq_getElem?_getD, List.getElem?_eq_getElem hil]; exact List.getElem_mem hil)
      have htk : ss.take (i + 1) = ss.take i ++ [ss.getD i 0] := by
        rw [List.take_add_one, List.getElem?_eq_getElem hil, List.getD_eq_getElem?_getD, List.getElem?_eq_getElem hil]
        rfl
      generalize ss.getD i 0 = z at *
      have hroom : (ds.map V.int).length < 10000 := by
        rw [List.length_map, hok.len, List.length_take]
        omega
      have hDa : D = D := rfl
      wtm_at "ra"
      · refine rd_ixL hS' hix ?_
        wtm_at "rs"
        refine rd_ixL ((show Same H _ by wtm_at "sm").seq hS) hix ?_
        wtm_at "rs"
        exact ⟨_, ds ++ [L % z], _, _, rfl, by wtm_at "sm", by wtm_at "nt", by rw [upd_same, List.map_append]; rfl, by rw [htk]; exact hok.snoc ⟨Int.emod_nonneg _ (by omega), Int.emod_lt_of_pos _ s0⟩⟩
      · refine rd_ixL hS' hix ?_
        wtm_at "rs"
        exact ⟨_, ds ++ [_ % z], _, _, rfl, by wtm_at "sm", by wtm_at "nt", by rw [upd_same, List.map_append]; rfl, by rw [htk]; exact hok.snoc ⟨Int.emod_nonneg _ (by omega), Int.emod_lt_of_pos _ s0⟩⟩
    · rintro σ H' ⟨L, ds, v4, v5, rfl, sm, nt', hd, hok⟩
      rw [show (Int.toNat ((ss.map V.int).length : Int)) = ss.length by simp, List.take_length] at hok
      wtm_at "rs"
      exact q D ds H' sm nt' hD hd hok
theorem use_draws {c : Int} {a : Addr} {ss : List Int} {H : Hp} {Q : VK} {E : XK} (hS : SqL K H a (ss.map V.int)) (hs : ∀ s ∈ ss, 0 < s ∧ s < 2 ^ 240) (hl : ss.length ≤ 1000) (nt : NoT H) (q : ∀ D ds H', Same H H' → NoT H' → H D = none → H' D = some (.lst (ds.map V.int)) → DrawOk ds ss → Q (.ref D) H') : spDraws K [.int c, .ref a] H Q E :=
  ⟨c, a, ss, rfl, hS, hs, hl, nt, q⟩
/-! ### law -/
def menuR : List Int := [-1, 2, -2, 3, -3, 6, 5, -5, 12, 15, -15, 4, 8, 10, 1, 18, -9, 30]
def menuS : List Int := [7, -7, 11, -11, 13, -13, 14, 22, 26, -14, -22, -26, 28, -1, 2, 1, 21, -21]
theorem menu78 : ∀ n ∈ menuR ++ menuS, n ≠ 0 ∧ n.natAbs ≤ 100 := by decide
theorem rep_flat {x : V} : ∀ n : Nat, (List.replicate n [x]).flatten = List.replicate n x
  | 0 => rfl
  | n + 1 => by rw [List.replicate_succ, List.flatten_cons, rep_flat n, List.replicate_succ]; rfl
theorem rd_rep78 {H : Hp} {Q : VK} {l : Addr} {k x : Int} (h : H l = some (.lst [.int x])) (k1 : k ≤ 1000) (k0 : 0 ≤ k) (q : ∀ p, H p = none → Q (.ref p) (upd H p (.lst ((List.replicate k.toNat x).map V.int)))) : rRep (.ref l) (.int k) H Q :=
  ⟨l, k, _, rfl, rfl, h, by omega, by omega, Nat.le_trans (show 1 * k.toNat ≤ 1000 by omega) (by decide), fun p hp => by
    rw [rep_flat, ← List.map_replicate]
    exact q p hp⟩
/-- the first of the rows so far that shows, or none -/
def DueI (ns σ : List Int) (as : List Addr) (rows : List (List Int)) (i : Nat) (due : V) : Prop := (due = .non ∧ ∀ (j : Nat) (r : List Int), j < i → rows[j]? = some r → ¬ ShI ns σ r) ∨ ∃ (j : Nat) (a : Addr) (r : List Int), due = .ref a ∧ rows[j]? = some r ∧ as[j]? = some a ∧ ShI ns σ r ∧ ∀ (j' : Nat) (r' : List Int), j' < j → rows[j']? = some r' → ¬ ShI ns σ r'
theorem allP_show {ns σ : List Int} {P : List Nat} (h : P ∈ allP ns.length) : ShI ns σ (zN P) ↔ ShowN ns σ P := by
  obtain ⟨a, b⟩ := allP_mem.mp h
  exact shI_zN a b
theorem due_end {ns σ : List Int} {as : List Addr} {due : V} (h : DueI ns σ as ([] :: (allP ns.length).map zN) (1 + (allP ns.length).length) due) :
    (due = .non ∧ ∀ P ∈ allP ns.length, ¬ ShowN ns σ P) ∨ ∃ (j : Nat) (a : Addr) (P : List Nat), due = .ref a ∧ (allP ns.length)[j]? = some P ∧ as[j + 1]? = some a ∧ ShowN ns σ P ∧ ∀ (j' : Nat) (P' : List Nat), j' < j → (allP ns.length)[j']? = some P' → ¬ ShowN ns σ P' := by
  rcases h with ⟨rfl, h⟩ | ⟨j, a, r, rfl, hr, ha, hs, no⟩
  · refine .inl ⟨rfl, fun P hP => ?_⟩
    obtain ⟨j, hj, e⟩ := List.getElem_of_mem hP
    rw [← allP_show hP]
    exact h (j + 1) _ (by omega) (by rw [List.getElem?_cons_succ, List.getElem?_map, List.getElem?_eq_getElem hj, e]; rfl)
  · cases j with
    | zero =>
      rw [List.getElem?_cons_zero] at hr
      cases hr
      exact absurd rfl hs.1
    | succ j =>
      rw [List.getElem?_cons_succ, List.getElem?_map] at hr
      obtain ⟨P, hP, rfl⟩ := Option.map_eq_some_iff.mp hr
      refine .inr ⟨j, a, P, rfl, hP, ha, (allP_show (List.mem_of_getElem? hP)).mp hs, fun j' P' lt hP' => ?_⟩
      rw [← allP_show (List.mem_of_getElem? hP')]
      exact no (j' + 1) _ (by omega) (by rw [List.getElem?_cons_succ, List.getElem?_map, hP']; rfl)
theorem bar_all {ns σ : List Int} (l : σ.length = ns.length) : Bar ns σ ↔ ∃ P ∈ allP ns.length, ShowN ns σ P := by
  rw [bar_places l]
  exact ⟨fun ⟨P, a, b, c⟩ => ⟨P, allP_mem.mpr ⟨a, b⟩, c⟩, fun ⟨P, h, c⟩ => ⟨P, (allP_mem.mp h).1, (allP_mem.mp h).2, c⟩⟩
theorem DueI.more {ns σ : List Int} {as : List Addr} {rows : List (List Int)} {i : Nat} {r : List Int} {due : V} (h : DueI ns σ as rows i due) (hr : rows[i]? = some r) (k : due ≠ .non ∨ ¬ ShI ns σ r) : DueI ns σ as rows (i + 1) due := by
  rcases h with ⟨e, h⟩ | h
  · refine .inl ⟨e, fun j r' lt hj => ?_⟩
    rcases Nat.lt_or_eq_of_le (Nat.le_of_lt_succ lt) with l | l
    · exact h j r' l hj
    · subst l
      rw [hr] at hj
      cases hj
      exact k.resolve_left fun z => z e
  · exact .inr h
theorem allP_len : ∀ k : Nat, k ≤ 5 → (allP k).length ≤ 31 ∧ ∀ P ∈ allP k, P.length ≤ 5 := by
  intro k hk
  refine ⟨?_, fun P hP => ?_⟩
  · rcases (show k = 0 ∨ k = 1 ∨ k = 2 ∨ k = 3 ∨ k = 4 ∨ k = 5 by omega) with h | h | h | h | h | h <;> subst h <;> decide +kernel
  · have := asc_len (allP_mem.mp hP).1
    omega
theorem row78 {k : Nat} (hk : k ≤ 5) {r : List Int} (h : r ∈ [] :: (allP k).map zN) : r.length ≤ 8 ∧ ∀ i ∈ r, -100 ≤ i ∧ i ≤ 100 := by
  rcases List.mem_cons.mp h with e | h
  · rw [e]
    exact ⟨by simp, fun i hi => absurd hi List.not_mem_nil⟩
  · obtain ⟨P, hP, rfl⟩ := List.mem_map.mp h
    have l5 := (allP_len k hk).2 P hP
    refine ⟨by unfold zN; rw [List.length_map]; omega, fun i hi => ?_⟩
    unfold zN at hi
    obtain ⟨j, hj, rfl⟩ := List.mem_map.mp hi
    have := (allP_mem.mp hP).1.2 j hj
    omega
theorem sqL_keep {K : PySem.W.Frag} {H G : Hp} {a Tb : Addr} {xs : List V} (hT : H Tb = some (.tbl #[])) (keep : ∀ b o, b ≠ Tb → H b = some o → G b = some o) (h : SqL K H a xs) : SqL K G a xs := by
  rcases h with (h | ⟨o, h⟩) | h
  · exact .inl (.inl (keep _ _ (fun z => by rw [z, hT] at h; cases h) h))
  · exact .inl (.inr ⟨o, keep _ _ (fun z => by rw [z, hT] at h; cases h) h⟩)
  · exact .inr h
theorem rz_at {p : Addr} {H : Hp} {as : List Addr} {rs : List (List Int)} {j : Nat} {a : Addr} {r : List Int} (rz : RowsZ p H as rs) (ha : as[j]? = some a) (hr : rs[j]? = some r) : H a = some (.lst (r.map V.int)) := by
  obtain ⟨a', r', e, e1, e2, _, h⟩ := rz.at (i := j) (v := .ref a) (by rw [List.getElem?_map, ha]; rfl)
  rw [ha] at e1
  rw [hr] at e2
  cases e1
  cases e2
  exact h
theorem use_bar78 {K : PySem.W.Frag} {H : Hp} {a b : Addr} {ns σ : List Int} {due : V} {Q : VK} {E : XK} (ha : H a = some (.lst (ns.map V.int))) (hb : H b = some (.lst (σ.map V.int))) (nm : Nums ns) (n5 : ns.length ≤ 5) (sl : σ.length = ns.length) (pm : Pm1 σ) (nt : NoT H)
    (hd : (due = .non ∧ ∀ P ∈ allP ns.length, ¬ ShowN ns σ P) ∨ ∃ (j : Nat) (c : Addr) (P : List Nat), due = .ref c ∧ (allP ns.length)[j]? = some P ∧ H c = some (.lst ((zN P).map V.int)) ∧ ShowN ns σ P ∧ ∀ (j' : Nat) (P' : List Nat), j' < j → (allP ns.length)[j']? = some P' → ¬ ShowN ns σ P')
    (q : ∀ t G, Same H G → NoT G → (∀ Q' : VK, Q' (.bl false) G → rNeD K t due G Q') → (due = .non ∧ ¬ Bar ns σ ∨ (∃ b, due = .ref b) ∧ Bar ns σ) → Q t G) : spBarred K [.ref a, .ref b] H Q E := by
  refine ⟨a, b, ns, σ, rfl, .inl (SqL.of ha), SqL.of hb, nm, n5, sl, pm, nt, fun G s n no => ?_, fun A1 B1 P L G eP no hP s n fL hL => ?_⟩
  · rcases hd with ⟨rfl, nd⟩ | ⟨j, c, P', rfl, e1, _, e3, _⟩
    · refine q _ _ s n (fun Q' q' => rd_neSame (d := .none) .non .non rfl q') (.inl ⟨rfl, fun z => ?_⟩)
      obtain ⟨P, hP, sh⟩ := (bar_all sl).mp z
      exact nd P hP sh
    · exact absurd e3 (no P' (List.mem_of_getElem? e1))
  · have hj : (allP ns.length)[A1.length]? = some P := by rw [eP, List.getElem?_append_right (Nat.le_refl _), Nat.sub_self]; rfl
    rcases hd with ⟨rfl, nd⟩ | ⟨j, c, P', rfl, e1, e2, e3, e4⟩
    · exact absurd hP (nd P (List.mem_of_getElem? hj))
    · have ej : j = A1.length := by
        rcases Nat.lt_trichotomy j A1.length with l | l | l
        · rw [eP, List.getElem?_append_left l] at e1
          exact absurd e3 (no P' (List.mem_of_getElem? e1))
        · exact l
        · exact absurd hP (e4 _ _ l hj)
      subst ej
      rw [hj] at e1
      cases e1
      exact q _ _ s n (fun Q' q' => rd_neInts (SqL.of hL) (SqL.of (s _ _ e2)) (by rw [decide_eq_true rfl]; exact q')) (.inr ⟨⟨c, rfl⟩, (bar_all sl).mpr ⟨P, List.mem_of_getElem? hj, hP⟩⟩)
/-- the clocks below 400 -/
noncomputable def clk8 : List Int := ((List.range 199).filter fun i : Nat => decide (QR.OP (3 + (i : Int) * 2))).map fun i : Nat => 3 + (i : Int) * 2
theorem mem_clk8 {p : Int} : p ∈ clk8 ↔ QR.OP p ∧ p < 400 := by
  unfold clk8
  rw [List.mem_map]
  constructor
  · rintro ⟨i, hi, rfl⟩
    obtain ⟨a, b⟩ := List.mem_filter.mp hi
    have := List.mem_range.mp a
    exact ⟨of_decide_eq_true b, by omega⟩
  · rintro ⟨op, lt⟩
    have p3 := op.three
    have p2 := op.2
    have e : 3 + (((p / 2 - 1).toNat : Nat) : Int) * 2 = p := by omega
    exact ⟨(p / 2 - 1).toNat, List.mem_filter.mpr ⟨List.mem_range.mpr (by omega), by rw [e]; exact decide_eq_true op⟩, e⟩
theorem use_set78 {C : Addr} {K : PySem.W.Frag} {H : Hp} {a b : Addr} {ns σ : List Int} {ps : List (Int × Int)} {Q : VK} {E : XK} (ha : H a = some (.lst (ns.map V.int))) (hb : H b = some (.lst (σ.map V.int))) (e1 : ps.map (·.1) = ns) (e2 : ps.map (·.2) = σ) (p1 : 1 ≤ ps.length) (p5 : ps.length ≤ 5) (nq : ∀ q ∈ ps, NumS q) (nt : NoT H)
    (q : ∀ t G, Same H G → NoT G → (t = .non ∨ ∃ x m R S, t = .ref x ∧ IsP C G x m R S ∧ PatR ps.reverse m R S) → Q t G) : spSet78 C K [.ref a, .ref b] H Q E :=
  ⟨a, b, ps, rfl, by rw [e1]; exact SqL.of ha, by rw [e2]; exact SqL.of hb, p1, p5, nq, nt, fun G s n => q _ _ s n (.inl rfl), fun x G m R S s n _ ix pr => q _ _ s n (.inr ⟨x, m, R, S, rfl, ix, pr⟩)⟩
theorem use_PEq78 (T : Txt K mg Ad) {t : V} {p q : Addr} {m m' : Int} {R S R' S' : List Int} {H : Hp} {Q : VK} {E : XK} (et : t = .ref p) (hp : IsP Ad.c_Primes H p m R S) (hq : IsP Ad.c_Primes H q m' R' S') (nt : NoT H) (k : Q (.bl (decide (m = m' ∧ R = R' ∧ S = S'))) H) : rEqO K Ad.c_Primes (spPEq Ad.c_Primes) E t (.ref q) H Q := by
  subst et
  exact use_PEq T hp hq nt k
theorem two_ways78 {A : Prop} {I P : Hp → Prop} (h1 : (∀ G, I G → P G) → A) (h2 : ∀ G, I G → P G) : A := h1 h2
theorem ok_law {f : Addr} {fd : FuncData} (F : Fun K "law" "law" s_law f fd) (T : Txt K mg Ad) {Tb : Addr} (tb : TabF K mg base Tb) : FnOk P w K mg base (L2.CX P w) 12 f fd ["_law_script"] (spLawT Tb K) := by
  refine F.okX sc_law (fun vs H Q E h => ?_) (fun cdv A outer s H vs Q E hr h => ?_)
  · obtain ⟨a, ns, rfl, _⟩ := h
    rfl
  · obtain ⟨a, ns, rfl, hS, hlen, nt, hTb, kq⟩ := h
    refine ⟨_, (pss_cons (ps_set (i := 1) sc_law.nd rfl (Or.inl rfl) (pe_d (ok_law_draws T) (hr.mono (by decide)) (passes_call (takes_of rfl rfl rfl rfl) (fun _ _ _ _ h => h)) (pa_cons (pe_d (ok_law_cell T) (hr.mono (by decide)) (passes_call (takes_of rfl rfl rfl rfl) (fun _ _ _ _ h => h)) (pa_cons (pv 0) (pa_cons pe_int pa_nil))) (pa_cons (pe_lst (pa_cons pe_int (pa_cons pe_int (pa_cons pe_int (pa_cons pe_int (pa_cons pe_int (pa_cons pe_int pa_nil))))))) pa_nil))))
      (pss_cons (ps_set (i := 2) sc_law.nd rfl (Or.inr rfl) (pe_lst (pa_cons (pe_un un_neg pe_int) (pa_cons pe_int (pa_cons (pe_un un_neg pe_int) (pa_cons pe_int (pa_cons (pe_un un_neg pe_int) (pa_cons pe_int (pa_cons pe_int (pa_cons (pe_un un_neg pe_int) (pa_cons pe_int (pa_cons pe_int (pa_cons (pe_un un_neg pe_int) (pa_cons pe_int (pa_cons pe_int (pa_cons pe_int (pa_cons pe_int (pa_cons pe_int (pa_cons (pe_un un_neg pe_int) (pa_cons pe_int pa_nil))))))))))))))))))))
      (pss_cons (ps_set (i := 3) sc_law.nd rfl (Or.inl rfl) (pe_d (ok_law_draws T) (hr.mono (by decide)) (passes_call (takes_of rfl rfl rfl rfl) (fun _ _ _ _ h => h)) (pa_cons (pe_d (ok_law_cell T) (hr.mono (by decide)) (passes_call (takes_of rfl rfl rfl rfl) (fun _ _ _ _ h => h)) (pa_cons (pv 0) (pa_cons pe_int pa_nil))) (pa_cons (pe_op op_cat (pe_op op_rep (pe_lst (pa_cons pe_int pa_nil)) pe_int) (pe_lst (pa_cons pe_int pa_nil))) pa_nil))))
      (C8.pss_cut (ps_if (pt_cmpR op_eq (pe_ix ix_list (pv 3) pe_int (fun _ _ => rfl)) pe_int (nomark _)) (pss_one (ps_set (i := 2) sc_law.nd rfl (Or.inr rfl) (pe_lst (pa_cons pe_int (pa_cons (pe_un un_neg pe_int) (pa_cons pe_int (pa_cons (pe_un un_neg pe_int) (pa_cons pe_int (pa_cons (pe_un un_neg pe_int) (pa_cons pe_int (pa_cons pe_int (pa_cons pe_int (pa_cons (pe_un un_neg pe_int) (pa_cons (pe_un un_neg pe_int) (pa_cons (pe_un un_neg pe_int) (pa_cons pe_int (pa_cons (pe_un un_neg pe_int) (pa_cons pe_int (pa_cons pe_int (pa_cons pe_int (pa_cons (pe_un un_neg pe_int) pa_nil))))))))))))))))))))) pss_nil)
      (pss_cons (ps_set (i := 4) sc_law.nd rfl (Or.inr rfl) (pe_lc (own := [("_law_k", 14)])  (te := (tOp (rIxL K) (tVar 2) (tVar 14))) rfl sc_law.nd  (pi_list (pe_slice sl_list (pv 3) po_none (po_some (pe_op op_add pe_int (pe_ix ix_list (pv 1) pe_int (fun _ _ => rfl)))))) (blkOk_by (own := [("_law_k", 14)]) (N := ["_law_script", "_law_head", "_law_menu", "_law_drawn", "_law_numbers", "_law_signs", "_law_due", "_law_places", "_law_holds", "_law_told", "_law_odd", "_law_kept", "_law_found", "_law_clocks", "_law_k", "_law_p", "_law_n"]) (sc := defScope s_law) (by decide +kernel)) (fun _ _ _ _ _ => (pg_name (i := 14) sc_law.nd rfl (Or.inl rfl))) (fun _ _ _ _ _ => pts_nil) (fun _ _ _ _ _ => (pe_ix ix_list (pv 2) (pv 14) (fun _ _ => rfl)))))
      (pss_cons (ps_set (i := 5) sc_law.nd rfl (Or.inr rfl) (pe_lc (own := [("_law_k", 14)])  (te := (tOp (rIxL K) (tLst (tCons (tC (.int 1)) (tCons (tUn (rU fun i => .int (-i)) (tC (.int 1))) tNil))) (tVar 14))) rfl sc_law.nd  (pi_list (pe_slice sl_list (pv 1) (po_some pe_int) (po_some (pe_op op_add pe_int (pe_ix ix_list (pv 1) pe_int (fun _ _ => rfl)))))) (blkOk_by (own := [("_law_k", 14)]) (N := ["_law_script", "_law_head", "_law_menu", "_law_drawn", "_law_numbers", "_law_signs", "_law_due", "_law_places", "_law_holds", "_law_told", "_law_odd", "_law_kept", "_law_found", "_law_clocks", "_law_k", "_law_p", "_law_n"]) (sc := defScope s_law) (by decide +kernel)) (fun _ _ _ _ _ => (pg_name (i := 14) sc_law.nd rfl (Or.inl rfl))) (fun _ _ _ _ _ => pts_nil) (fun _ _ _ _ _ => (pe_ix ix_list (pe_lst (pa_cons pe_int (pa_cons (pe_un un_neg pe_int) pa_nil))) (pv 14) (fun _ _ => rfl)))))
      (pss_cons (ps_set (i := 6) sc_law.nd rfl (Or.inl rfl) pe_non)
      (pss_cons (ps_for (passes_of rfl) rfl (pi_list (pe_d (ok_law_lists T tb) (hr.mono (by decide)) (passes_call (takes_of rfl rfl rfl rfl) (fun _ _ _ _ h => h)) (pa_cons (pe_callB c_len (by rfl) T.b_len PySem.boot_len (pa_cons (pv 4) pa_nil)) pa_nil))) (pg_name (i := 7) sc_law.nd rfl (Or.inl rfl)) (pss_cons (ps_set (i := 8) sc_law.nd rfl (Or.inl rfl) (pe_d (ok_law_shows T) (hr.mono (by decide)) (passes_call (takes_of rfl rfl rfl rfl) (fun _ _ _ _ h => h)) (pa_cons (pv 4) (pa_cons (pv 5) (pa_cons (pv 7) pa_nil)))))
      (pss_cons (ps_if (pt_cmpR op_ne (pe_d (ok_shows T) (hr.mono (by decide)) (passes_call (takes_of rfl rfl rfl rfl) (fun _ _ _ _ h => h)) (pa_cons (pv 4) (pa_cons (pv 5) (pa_cons (pv 7) pa_nil)))) (pv 8) (nomark _)) (pss_one (ps_ret pe_bl)) pss_nil)
      (pss_one (ps_if (PW.pt (pw_and (pt_val (pv 8)) (pw_and1 (pt_cmpR op_isN (pv 6) pe_non (nomark _))))) (pss_one (ps_set (i := 6) sc_law.nd rfl (Or.inl rfl) (pv 7))) pss_nil)))))
      (pss_cons (ps_set (i := 9) sc_law.nd rfl (Or.inl rfl) (pe_d (ok_barred T) (hr.mono (by decide)) (passes_call (takes_of rfl rfl rfl rfl) (fun _ _ _ _ h => h)) (pa_cons (pv 4) (pa_cons (pv 5) pa_nil))))
      (pss_cons (ps_if (pt_cmpR (op_neD hr.units) (pv 9) (pv 6) (nomark _)) (pss_one (ps_ret pe_bl)) pss_nil)
      (pss_cons (ps_setLc (i := 10) (own := [("_law_k", 14)])  (te := (tOp (rI0 fun i j => .int (i - j)) (tVar 14) (tC (.int 1)))) rfl sc_law.nd rfl rfl (sw_true rfl rfl rfl (by decide +kernel)) (pi_list (pe_slice sl_list (pe_d (ok_law_draws T) (hr.mono (by decide)) (passes_call (takes_of rfl rfl rfl rfl) (fun _ _ _ _ h => h)) (pa_cons (pe_d (ok_law_cell T) (hr.mono (by decide)) (passes_call (takes_of rfl rfl rfl rfl) (fun _ _ _ _ h => h)) (pa_cons (pv 0) (pa_cons pe_int pa_nil))) (pa_cons (pe_lst (pa_cons pe_int (pa_cons pe_int (pa_cons pe_int (pa_cons pe_int (pa_cons pe_int pa_nil)))))) pa_nil))) po_none (po_some (pe_op op_add (pe_op op_add pe_int (pe_op op_mulB (pe_ix ix_list (pv 1) pe_int (fun _ _ => rfl)) pe_int)) (pe_op op_mod (pe_ix ix_list (pv 1) pe_int (fun _ _ => rfl)) pe_int))))) (blkOk_by (own := [("_law_k", 14)]) (N := ["_law_script", "_law_head", "_law_menu", "_law_drawn", "_law_numbers", "_law_signs", "_law_due", "_law_places", "_law_holds", "_law_told", "_law_odd", "_law_kept", "_law_found", "_law_clocks", "_law_k", "_law_p", "_law_n"]) (sc := defScope s_law) (by decide +kernel)) (fun _ _ _ _ _ => (pg_name (i := 14) sc_law.nd rfl (Or.inl rfl))) (fun _ _ _ _ _ => pts_nil) (fun _ _ _ _ _ => (pe_op op_sub (pv 14) pe_int)))
      (pss_cons (ps_set (i := 11) sc_law.nd rfl (Or.inl rfl) (pe_lst (pa_cons (pe_callTy c_listOf (by rfl) T.b_list (by decide +kernel) (pa_cons (pv 4) pa_nil)) (pa_cons (pe_callTy c_listOf (by rfl) T.b_list (by decide +kernel) (pa_cons (pv 5) pa_nil)) (pa_cons (pe_callTy c_listOf (by rfl) T.b_list (by decide +kernel) (pa_cons (pv 10) pa_nil)) pa_nil)))))
      (pss_cons (ps_set (i := 8) sc_law.nd rfl (Or.inl rfl) (pe_d (ok_shows T) (hr.mono (by decide)) (passes_call (takes_of rfl rfl rfl rfl) (fun _ _ _ _ h => h)) (pa_cons (pv 4) (pa_cons (pv 5) (pa_cons (pv 10) pa_nil)))))
      (pss_cons (ps_if (PW.pt (pw_or (pt_not (pt_val (pe_callB call_isi (by rfl) T.b_isinstance (by decide +kernel) (pa_cons (pv 8) (pa_cons (pe_bltn (v := .ty "bool") (by rfl) T.b_bool (by decide +kernel) rfl) pa_nil))))) (pw_or (pt_cmpR (op_neD hr.units) (pe_lst (pa_cons (pv 4) (pa_cons (pv 5) (pa_cons (pv 10) pa_nil)))) (pv 11) (nomark _)) (pw_or1 (pt_cmpR op_ne (pv 8) (pe_d (ok_law_shows T) (hr.mono (by decide)) (passes_call (takes_of rfl rfl rfl rfl) (fun _ _ _ _ h => h)) (pa_cons (pv 4) (pa_cons (pv 5) (pa_cons (pv 10) pa_nil)))) (nomark _)))))) (pss_one (ps_ret pe_bl)) pss_nil)
      (pss_cons (ps_set (i := 12) sc_law.nd rfl (Or.inl rfl) (pe_d (ok_law_set T) (hr.mono (by decide)) (passes_call (takes_of rfl rfl rfl rfl) (fun _ _ _ _ h => h)) (pa_cons (pv 4) (pa_cons (pv 5) pa_nil))))
      (pss_cons (ps_if (PW.pt (pw_and (pt_cmpR op_notN (pv 12) pe_non (nomark _)) (pw_and (pt_cmpR op_isN (pv 6) pe_non (nomark _)) (pw_and1 (pt_val (pe_md0 (ok_Primes_finite T) (pv 12) T.cl_Primes (hr.mono (by decide)) (passes_call (takes_of rfl rfl rfl rfl) (fun _ _ _ _ h => h)))))))) (pss_one (ps_ret pe_bl)) pss_nil)
      (pss_cons (ps_if (pt_cmpR op_isN (pv 6) pe_non (nomark _)) (pss_one (ps_ret pe_bl)) pss_nil)
      (pss_cons (ps_if (PW.pt (pw_and (pt_cmpR op_notN (pv 12) pe_non (nomark _)) (pw_and1 (pt_not (pt_cmpR (op_eqO (ok_Primes_eq T) (hr.mono (by decide)) (Nat.lt_of_succ_lt (hu_of hr)) (passes_call (takes_of rfl rfl rfl rfl) (fun _ _ _ _ h => h))) (pv 12) (pe_cm0 (ok_Primes_none T) (pe_glob (v := .ref Ad.c_Primes) rfl T.g_Primes rfl) (hr.mono (by decide)) (passes_call (takes_of rfl rfl rfl rfl) (fun _ _ _ _ h => h))) (nomark _)))))) (pss_one (ps_ret pe_bl)) pss_nil)
      (pss_cons (ps_setLc (i := 13) (own := [("_law_p", 15)])  (te := (tVar 15)) (tt := (tB (tCall (spOP) [] E0 (tCons (tVar 15) tNil)))) rfl sc_law.nd rfl rfl (sw_true rfl rfl rfl (by decide +kernel)) (pi_range3 (by rfl) T.b_range (pa_cons pe_int (pa_cons pe_int (pa_cons pe_int pa_nil)))) (blkOk_by (own := [("_law_p", 15)]) (N := ["_law_script", "_law_head", "_law_menu", "_law_drawn", "_law_numbers", "_law_signs", "_law_due", "_law_places", "_law_holds", "_law_told", "_law_odd", "_law_kept", "_law_found", "_law_clocks", "_law_k", "_law_p", "_law_n"]) (sc := defScope s_law) (by decide +kernel)) (fun _ _ _ _ _ => (pg_name (i := 15) sc_law.nd rfl (Or.inl rfl))) (fun _ _ _ _ _ => (pts_one (pt_val (pe_d (E := E0) (ok_law_is_prime T) (hr.mono (by decide)) passL (pa_cons (pv 15) pa_nil))))) (fun _ _ _ _ _ => (pv 15)))
      (pss_one (ps_ret (pe_cmpR (op_eqD hr.units) (pe_lc (own := [("_law_p", 15)])  (te := (tVar 15)) (tt := (tTest (tOp (rEqD K) (tLc (iList K (tVar 4)) (gName 16) tYes (tCall (spLSgn) [] E0 (tCons (tVar 16) (tCons (tVar 15) tNil))) [16]) (tVar 5)))) rfl sc_law.nd  (pi_list (pv 13)) (blkOk_by (own := [("_law_p", 15)]) (N := ["_law_script", "_law_head", "_law_menu", "_law_drawn", "_law_numbers", "_law_signs", "_law_due", "_law_places", "_law_holds", "_law_told", "_law_odd", "_law_kept", "_law_found", "_law_clocks", "_law_k", "_law_p", "_law_n"]) (sc := defScope s_law) (by decide +kernel)) (fun _ _ _ _ _ => (pg_name (i := 15) sc_law.nd rfl (Or.inr rfl))) (fun _ _ _ _ _ => (pts_one (pt_cmpR (show OpR _ _ (rEqD K) from op_eqD hr.units) (by exact (pe_lc (own := [("_law_n", 16)])  (te := (tCall (spLSgn) [] E0 (tCons (tVar 16) (tCons (tVar 15) tNil)))) rfl sc_law.nd  (pi_list (pv 4)) (show BlkOk _ { kind := .function, names := [(".0", .local), ("_law_p", .cell), ("_law_numbers", .cell), ("_law_signs", .cell)], isGenerator := false, isCoroutine := false } _ _ from blkOk_by (own := [("_law_n", 16)]) (N := ["_law_script", "_law_head", "_law_menu", "_law_drawn", "_law_numbers", "_law_signs", "_law_due", "_law_places", "_law_holds", "_law_told", "_law_odd", "_law_kept", "_law_found", "_law_clocks", "_law_k", "_law_p", "_law_n"]) (by decide +kernel)) (fun _ _ _ _ _ => (pg_name (i := 16) sc_law.nd rfl (Or.inl rfl))) (fun _ _ _ _ _ => pts_nil) (fun _ _ _ _ _ => (pe_d (E := E0) (ok_law_sign T) (hr.mono (by decide)) passL (pa_cons (pv 16) (pa_cons (pv 15) pa_nil)))))) (pv 5) (nomark _)))) (fun _ _ _ _ _ => (pv 15))) (pe_lst pa_nil) (nomark _))))))))))))))))))))))), ?_⟩
    try dsimp only [cxOf]
    have B := Hv.start nt
    wtm_at "rs"
    rename_i D0 hD0
    replace B := B.newL (o := .lst (([5, 2, 2, 2, 2, 2] : List Int).map V.int)) hD0
    refine use_draws (ss := [5, 2, 2, 2, 2, 2]) (SqL.of upd_same) (by decide) (by decide) (by wtm_at "nt") fun D ds H1 sm1 nt1 hDn hD dok => ?_
    obtain ⟨d0, ds, rfl, d00, d01, dok⟩ := dok.cons_inv
    obtain ⟨d1, ds, rfl, d10, d11, dok⟩ := dok.cons_inv
    obtain ⟨d2, ds, rfl, d20, d21, dok⟩ := dok.cons_inv
    obtain ⟨d3, ds, rfl, d30, d31, dok⟩ := dok.cons_inv
    obtain ⟨d4, ds, rfl, d40, d41, dok⟩ := dok.cons_inv
    obtain ⟨d5, ds, rfl, d50, d51, dok⟩ := dok.cons_inv
    cases dok.nil_inv
    replace hD : H1 D = some (.lst ([d0, d1, d2, d3, d4, d5].map V.int)) := hD
    replace B := (B.got sm1 nt1 hDn hD).sub (L' := [(D, .lst ([d0, d1, d2, d3, d4, d5].map V.int))]) (by wtm_at "vsub") (by wtm_at "vsub")
    clear dok sm1 nt1 hDn hD hD0
    refine B.gen fun G B => ?_
    wtm_at "rs"
    rename_i M hM R5 hR5
    replace B := (B.newL (o := .lst (menuR.map V.int)) hM).newL (o := .lst [.int 18]) hR5
    clear hM hR5
    refine B.gen fun G B => ?_
    refine rd_rep78 (B.lAt (a := R5) (by wtm_at "mem")) (by decide) (by decide) fun R6 hR6 => ?_
    replace B := (B.newL (o := .lst ((List.replicate (5 : Int).toNat (18 : Int)).map V.int)) hR6).sub (L' := [(R6, .lst ((List.replicate (5 : Int).toNat (18 : Int)).map V.int)), (M, .lst (menuR.map V.int)), (D, .lst ([d0, d1, d2, d3, d4, d5].map V.int))]) (by wtm_at "vsub") (by wtm_at "vsub")
    clear hR6
    refine B.gen fun G B => ?_
    wtm_at "rs"
    rename_i R7 hR7 R8 hR8
    have s7 := same_new (o := .lst [.int 3]) hR7
    replace B := B.next s7 (NoT.upd B.nt rfl)
    replace B := (B.newL (o := .lst (([18, 18, 18, 18, 18, 3] : List Int).map V.int)) hR8).sub (L' := [(R8, .lst (([18, 18, 18, 18, 18, 3] : List Int).map V.int)), (M, .lst (menuR.map V.int)), (D, .lst ([d0, d1, d2, d3, d4, d5].map V.int))]) (by wtm_at "vsub") (by wtm_at "vsub")
    clear hR8 s7
    refine use_draws (ss := [18, 18, 18, 18, 18, 3]) (SqL.of upd_same) (by decide) (by decide) B.nt fun D2 ds H1 sm1 nt1 hDn hD dok => ?_
    obtain ⟨e0, ds, rfl, e00, e01, dok⟩ := dok.cons_inv
    obtain ⟨e1, ds, rfl, e10, e11, dok⟩ := dok.cons_inv
    obtain ⟨e2, ds, rfl, e20, e21, dok⟩ := dok.cons_inv
    obtain ⟨e3, ds, rfl, e30, e31, dok⟩ := dok.cons_inv
    obtain ⟨e4, ds, rfl, e40, e41, dok⟩ := dok.cons_inv
    obtain ⟨e5, ds, rfl, e50, e51, dok⟩ := dok.cons_inv
    cases dok.nil_inv
    replace hD : H1 D2 = some (.lst ([e0, e1, e2, e3, e4, e5].map V.int)) := hD
    replace B := (B.got sm1 nt1 hDn hD).sub (L' := [(D2, .lst ([e0, e1, e2, e3, e4, e5].map V.int)), (M, .lst (menuR.map V.int)), (D, .lst ([d0, d1, d2, d3, d4, d5].map V.int))]) (by wtm_at "vsub") (by wtm_at "vsub")
    clear dok sm1 nt1 hDn hD hR7
    refine B.gen fun G B => ?_
    wtm_at "rs"
    refine rd_cut (fun σ2 G2 => ∃ (M2 : Addr) (mn : List Int), σ2 = [some (.ref a), some (.ref D), some (.ref M2), some (.ref D2), none, none, none, none, none, none, none, none, none, none, none, none, none] ∧ Hv noX H [] [(M2, .lst (mn.map V.int)), (D2, .lst ([e0, e1, e2, e3, e4, e5].map V.int)), (D, .lst ([d0, d1, d2, d3, d4, d5].map V.int))] [] G2 ∧ mn.length = 18 ∧ ∀ n ∈ mn, n ≠ 0 ∧ n.natAbs ≤ 100) ?_ ?_
    · wtm_at "rs"
      by_cases z : e5 = 0
      · refine rd_eqT z ?_
        wtm_at "rs"
        rename_i M2 hM2
        replace B := B.newL (o := .lst (menuS.map V.int)) hM2
        exact ⟨M2, menuS, rfl, B.sub (by wtm_at "vsub") (by wtm_at "vsub"), rfl, fun n h => menu78 n (List.mem_append_right _ h)⟩
      · refine rd_eqF z ?_
        wtm_at "rs"
        exact ⟨M, menuR, rfl, B.sub (by wtm_at "vsub") (by wtm_at "vsub"), rfl, fun n h => menu78 n (List.mem_append_left _ h)⟩
    clear B
    rintro σ2 G ⟨M2, mn, rfl, B, ml, mok⟩
    wtm_at "rs"
    rename_i S hS1
    obtain ⟨ks, eks, hks⟩ := cut_map (f := V.int) (l := [e0, e1, e2, e3, e4, e5]) (lo := none) (hi := some (1 + d0))
    have ek2 : ks = [e0, e1, e2, e3, e4].take (1 + d0.toNat) := by
      refine (List.map_inj_right (f := V.int) fun x y e => V.int.inj e).mp ?_
      rw [← eks]
      rcases (show d0 = 0 ∨ d0 = 1 ∨ d0 = 2 ∨ d0 = 3 ∨ d0 = 4 by omega) with z | z | z | z | z <;> rw [z] <;> rfl
    have kl : (ks.length : Int) = 1 + d0 := by
      rw [ek2, List.length_take]
      simp only [List.length_cons, List.length_nil]
      omega
    have kb : ∀ k ∈ ks, 0 ≤ k ∧ k < 18 := fun k hk => by
      rw [ek2] at hk
      have := List.mem_of_mem_take hk
      simp only [List.mem_cons, List.not_mem_nil, or_false] at this
      omega
    clear hks ek2
    replace B := B.newL (o := .lst (cutV (List.map V.int [e0, e1, e2, e3, e4, e5]) none (some (1 + d0)))) hS1
    have hM2 := B.lAt (a := M2) (by wtm_at "mem")
    refine rd_lcI (ns := ks) (fun _ => true) (fun k => .int (mn.getD k.toNat 1)) (by rw [eks]; exact SqL.of upd_same) (fun D l x r hD e => ?_) fun N hN => ?_
    · have xb := kb x (by rw [e]; simp)
      have lk : l.length < 6 := by
        have := congrArg List.length e
        rw [List.length_append, List.length_cons] at this
        omega
      wtm_at "r"
      refine ⟨rfl, ?_⟩
      wtm_at "rs"
      refine rd_ixL (SqL.of (same_new hD _ _ hM2)) (atI_D xb.1 (by omega)) ?_
      exact put_I (by omega) rfl rfl
    rw [show ks.filter (fun _ => true) = ks by simp]
    obtain ⟨nn, hnn⟩ : ∃ nn, nn = ks.map fun k => mn.getD k.toNat 1 := ⟨_, rfl⟩
    have eN : (ks.map fun k => V.int (mn.getD k.toNat 1)) = nn.map V.int := by rw [hnn, List.map_map]; rfl
    rw [eN]
    have nok : ∀ n ∈ nn, n ≠ 0 ∧ n.natAbs ≤ 100 := fun n hn => by
      rw [hnn] at hn
      obtain ⟨k, hk, rfl⟩ := List.mem_map.mp hn
      have := kb k hk
      rw [List.getD_eq_getElem?_getD, List.getElem?_eq_getElem (by omega), Option.getD_some]
      exact mok _ (List.getElem_mem _)
    have nl : (nn.length : Int) = 1 + d0 := by rw [hnn, List.length_map]; omega
    replace B := (B.newL (o := .lst (nn.map V.int)) hN).sub (L' := [(N, .lst (nn.map V.int)), (D, .lst ([d0, d1, d2, d3, d4, d5].map V.int))]) (by wtm_at "vsub") (by wtm_at "vsub")
    clear hnn eN hN hM2 eks kl kb mok ml hS1
    refine B.gen fun G B => ?_
    wtm_at "rs"
    rename_i S2 hS2
    obtain ⟨ks, eks, hks⟩ := cut_map (f := V.int) (l := [d0, d1, d2, d3, d4, d5]) (lo := some 1) (hi := some (2 + d0))
    have ek2 : ks = [d1, d2, d3, d4, d5].take (1 + d0.toNat) := by
      refine (List.map_inj_right (f := V.int) fun x y e => V.int.inj e).mp ?_
      rw [← eks]
      rcases (show d0 = 0 ∨ d0 = 1 ∨ d0 = 2 ∨ d0 = 3 ∨ d0 = 4 by omega) with z | z | z | z | z <;> rw [z] <;> rfl
    have kl : (ks.length : Int) = 1 + d0 := by
      rw [ek2, List.length_take]
      simp only [List.length_cons, List.length_nil]
      omega
    have kb : ∀ (i : Nat) (k : Int), ks[i]? = some k → k = 0 ∨ k = 1 := fun i k hk => by
      have hm := List.mem_of_getElem? hk
      rw [ek2] at hm
      have := List.mem_of_mem_take hm
      simp only [List.mem_cons, List.not_mem_nil, or_false] at this
      omega
    clear hks ek2
    replace B := B.newL (o := .lst (cutV (List.map V.int [d0, d1, d2, d3, d4, d5]) (some 1) (some (2 + d0)))) hS2
    refine rd_lcP (xs := ks.map V.int) (fun i ys => ys = (ks.take i).map fun k => V.int (if k = 0 then 1 else -1)) (by rw [eks]; exact SqL.of upd_same) B.nt rfl ?_ ?_
    · rintro D4 j ys x H4 hx sm4 nt4 hD4 h4 rfl
      rw [List.getElem?_map] at hx
      obtain ⟨k, hk, rfl⟩ := Option.map_eq_some_iff.mp hx
      have k01 := kb j k hk
      have j5 := (List.getElem?_eq_some_iff.mp hk).1
      wtm_at "r"
      refine ⟨rfl, ?_⟩
      wtm_at "rs"
      rename_i P1 hP1
      have s1 := same_new (o := .lst [.int 1, .int (-1)]) hP1
      have sl : ((ks.take j).map fun k => V.int (if k = 0 then 1 else -1)).length < sizeLine := by
        rw [List.length_map, List.length_take]
        exact Nat.lt_of_lt_of_le (show min j ks.length < 100 by omega) (by decide)
      refine rd_ixL (v := .int (if k = 0 then 1 else -1)) (SqL.of upd_same) (by rcases k01 with z | z <;> rw [z] <;> rfl) ?_
      exact put_P (P := fun ys => ys = (ks.take (j + 1)).map fun k => V.int (if k = 0 then 1 else -1)) (s1 _ _ h4) sl (sm4.trans s1) hD4 (NoT.upd nt4 rfl) (by rw [List.take_add_one, hk, List.map_append]; rfl)
    · rintro Sg ys H4 hSg h4 sm n1 rfl
      rw [List.length_map, List.take_length] at h4
      obtain ⟨sg, hsg⟩ : ∃ sg, sg = ks.map fun k => if k = 0 then (1 : Int) else -1 := ⟨_, rfl⟩
      have eS : (ks.map fun k => V.int (if k = 0 then 1 else -1)) = sg.map V.int := by rw [hsg, List.map_map]; rfl
      rw [eS] at h4
      have sl : (sg.length : Int) = 1 + d0 := by rw [hsg, List.length_map]; exact kl
      have spm : Pm1 sg := fun x hx => by
        rw [hsg] at hx
        obtain ⟨k, _, rfl⟩ := List.mem_map.mp hx
        split
        · exact .inl rfl
        · exact .inr rfl
      replace B := (B.got sm n1 hSg h4).sub (L' := [(Sg, .lst (sg.map V.int)), (N, .lst (nn.map V.int)), (D, .lst ([d0, d1, d2, d3, d4, d5].map V.int))]) (by wtm_at "vsub") (by wtm_at "vsub")
      clear hsg eS h4 sm n1 hSg kb kl eks hS2
      refine B.gen fun G B => ?_
      wtm_at "rs"
      have n5 : nn.length ≤ 5 := by omega
      have nm : Nums nn := ⟨fun n hn => (nok n hn).1, fun n hn => (nok n hn).2, by omega⟩
      have gT := B.same _ _ hTb
      have gN := B.lAt (a := N) (by wtm_at "mem")
      have gS := B.lAt (a := Sg) (by wtm_at "mem")
      have gD := B.lAt (a := D) (by wtm_at "mem")
      have gA := B.same.seq hS
      refine ⟨nn.length, by rw [List.length_map], by omega, n5, B.nt, gT, fun p as G2 n2 keep _ _ hp rz => ?_⟩
      have hN : G2 N = _ := keep _ _ (fun z => by rw [z, gT] at gN; cases gN) gN
      have hSg : G2 Sg = _ := keep _ _ (fun z => by rw [z, gT] at gS; cases gS) gS
      have hD : G2 D = _ := keep _ _ (fun z => by rw [z, gT] at gD; cases gD) gD
      have hA := sqL_keep gT keep gA
      clear gN gS gD gA gT keep B hTb hS nt
      have B := Hv.start n2
      have al := rz.len
      wtm_at "rs"
      refine rd_forL (xs := as.map V.ref) (fun i σ G => ∃ (v7 v8 : Option V) (due : V), σ = [some (.ref a), some (.ref D), some (.ref M2), some (.ref D2), some (.ref N), some (.ref Sg), some due, v7, v8, none, none, none, none, none, none, none, none] ∧ Hv noX G2 [] [] [] G ∧ DueI nn sg as ([] :: (allP nn.length).map zN) i due) ⟨_, _, .non, rfl, B, .inl ⟨rfl, fun j r h => absurd h (Nat.not_lt_zero j)⟩⟩ (fun i σ G _ ⟨_, _, _, _, B, _⟩ => B.same.seq (SqL.of hp)) ?_ ?_
      · clear B
        rintro i v σ G hi ⟨v7, v8, due, rfl, B, hdue⟩
        obtain ⟨a0, r, rfl, ha0, hr0, _, h0⟩ := rz.at hi
        obtain ⟨r8, rb⟩ := row78 n5 (List.mem_of_getElem? hr0)
        have h0 := B.same _ _ h0
        have gN := B.same _ _ hN
        have gS := B.same _ _ hSg
        wtm_at "rs"
        refine ⟨N, Sg, a0, nn, sg, r, rfl, SqL.of gN, SqL.of gS, SqL.of h0, nm, by omega, spm, r8, rb, B.nt, fun G3 s3 n3 => ?_⟩
        replace B := B.next s3 n3
        wtm_at "rs"
        refine ⟨N, Sg, a0, nn, sg, r, rfl, .inl (SqL.of (s3 _ _ gN)), SqL.of (s3 _ _ gS), SqL.of (s3 _ _ h0), nm, by omega, spm, r8, rb, n3, fun G4 s4 n4 => ?_⟩
        replace B := B.next s4 n4
        wtm_at "rs"
        by_cases sh : ShI nn sg r
        · rw [if_pos (decide_eq_true sh)]
          wtm_at "rs"
          rcases hdue with ⟨rfl, no⟩ | ⟨j, a1, r1, rfl, q⟩
          · rw [if_pos (by decide)]
            wtm_at "rs"
            exact ⟨_, _, _, rfl, B, .inr ⟨i, a0, r, rfl, hr0, ha0, sh, no⟩⟩
          · rw [if_neg (by simp)]
            wtm_at "rs"
            exact ⟨_, _, _, rfl, B, .inr ⟨j, a1, r1, rfl, q⟩⟩
        · rw [if_neg (by rw [decide_eq_true_iff]; exact sh)]
          wtm_at "rs"
          exact ⟨_, _, due, rfl, B, hdue.more hr0 (.inr sh)⟩
      clear B
      rintro σ G ⟨v7, v8, due, rfl, B, hdue⟩
      have al2 : (as.map V.ref).length = 1 + (allP nn.length).length := by
        rw [List.length_map, rz.len]
        simp
        omega
      rw [al2] at hdue
      have hdue := due_end hdue
      have gN := B.same _ _ hN
      have gS := B.same _ _ hSg
      have sl2 : sg.length = nn.length := by omega
      wtm_at "rs"
      refine use_bar78 gN gS nm n5 sl2 spm B.nt (hdue.imp (fun h => h) fun ⟨j, c, P, e0, e1, e2, e3, e4⟩ => ⟨j, c, P, e0, e1, B.same _ _ (rz_at rz e2 (by rw [List.getElem?_cons_succ, List.getElem?_map, e1]; rfl)), e3, e4⟩) fun t G3 s3 n3 ne hd => ?_
      clear hdue al2
      replace B := B.next s3 n3
      wtm_at "rs"
      refine ne _ ?_
      refine ⟨false, rfl, ?_⟩
      rw [if_neg (by decide)]
      clear ne s3 n3 gN gS
      refine B.gen fun G B => ?_
      wtm_at "rs"
      rename_i R9 hR9
      replace B := B.newL (o := .lst (([7, 7, 7, 7, 7] : List Int).map V.int)) hR9
      clear hR9
      refine use_draws (ss := [7, 7, 7, 7, 7]) (SqL.of upd_same) (by decide) (by decide) B.nt fun D3 ds H1 sm1 nt1 hDn hD3 dok => ?_
      obtain ⟨f0, ds, rfl, f00, f01, dok⟩ := dok.cons_inv
      obtain ⟨f1, ds, rfl, f10, f11, dok⟩ := dok.cons_inv
      obtain ⟨f2, ds, rfl, f20, f21, dok⟩ := dok.cons_inv
      obtain ⟨f3, ds, rfl, f30, f31, dok⟩ := dok.cons_inv
      obtain ⟨f4, ds, rfl, f40, f41, dok⟩ := dok.cons_inv
      cases dok.nil_inv
      replace hD3 : H1 D3 = some (.lst ([f0, f1, f2, f3, f4].map V.int)) := hD3
      replace B := (B.got sm1 nt1 hDn hD3).sub (L' := [(D3, .lst ([f0, f1, f2, f3, f4].map V.int))]) (by wtm_at "vsub") (by wtm_at "vsub")
      clear dok sm1 nt1 hDn hD3
      refine B.gen fun G B => ?_
      have gD := B.same _ _ hD
      wtm_at "rs"
      rename_i S3 hS3
      obtain ⟨ks, eks, hks⟩ := cut_map (f := V.int) (l := [f0, f1, f2, f3, f4]) (lo := none) (hi := some (1 + d5 * 2 + d0 % 3))
      have kl : ks.length = min (1 + d5 * 2 + d0 % 3).toNat 5 := by
        rw [← List.length_map (f := V.int), ← eks, cut_hi (by omega)]
        rfl
      have kb : ∀ k ∈ ks, 0 ≤ k ∧ k < 7 := fun k hk => by
        have := hks k hk
        simp only [List.mem_cons, List.not_mem_nil, or_false] at this
        omega
      replace B := B.newL (o := .lst (cutV (List.map V.int [f0, f1, f2, f3, f4]) none (some (1 + d5 * 2 + d0 % 3)))) hS3
      refine rd_lcI (ns := ks) (fun _ => true) (fun k => .int (k - 1)) (by rw [eks]; exact SqL.of upd_same) (fun D l x r hD e => ?_) fun O hO => ?_
      · have xb := kb x (by rw [e]; simp)
        have lk : l.length < 6 := by
          have := congrArg List.length e
          rw [List.length_append, List.length_cons] at this
          omega
        wtm_at "r"
        refine ⟨rfl, ?_⟩
        wtm_at "rs"
        exact put_I (by omega) rfl rfl
      rw [show ks.filter (fun _ => true) = ks by simp]
      obtain ⟨od, hod⟩ : ∃ od, od = ks.map fun k => k - 1 := ⟨_, rfl⟩
      have eO : (ks.map fun k => V.int (k - 1)) = od.map V.int := by rw [hod, List.map_map]; rfl
      rw [eO]
      have o8 : od.length ≤ 8 := by rw [hod, List.length_map]; omega
      have ob : ∀ i ∈ od, -100 ≤ i ∧ i ≤ 100 := fun i hi => by
        rw [hod] at hi
        obtain ⟨k, hk, rfl⟩ := List.mem_map.mp hi
        have := kb k hk
        omega
      replace B := (B.newL (o := .lst (od.map V.int)) hO).sub (L' := [(O, .lst (od.map V.int))]) (by wtm_at "vsub") (by wtm_at "vsub")
      clear hod eO hO eks hks kl kb hS3 gD f00 f01 f10 f11 f20 f21 f30 f31 f40 f41
      refine B.gen fun G B => ?_
      have gN := B.same _ _ hN
      have gS := B.same _ _ hSg
      have gO := B.lAt (a := O) (by wtm_at "mem")
      wtm_at "rs"
      rename_i A1 hA1 A2 hA2 A3 hA3 Kp hKp
      replace B := (((B.newL (o := .lst (nn.map V.int)) hA1).newL (o := .lst (sg.map V.int)) hA2).newL (o := .lst (od.map V.int)) hA3).newL (o := .lst [.ref A1, .ref A2, .ref A3]) hKp
      clear hA1 hA2 hA3 hKp gN gS gO
      refine B.gen fun G B => ?_
      have gN := B.same _ _ hN
      have gS := B.same _ _ hSg
      have gO := B.lAt (a := O) (by wtm_at "mem")
      refine ⟨N, Sg, O, nn, sg, od, rfl, .inl (SqL.of gN), SqL.of gS, SqL.of gO, nm, by omega, spm, o8, ob, B.nt, fun G4 s4 n4 => ?_⟩
      replace B := B.next s4 n4
      clear s4 n4 gN gS gO
      wtm_at "rs"
      rename_i X hX
      have gN := B.same _ _ hN
      have gS := B.same _ _ hSg
      have gO := B.lAt (a := O) (by wtm_at "mem")
      have hKp := B.lAt (a := Kp) (by wtm_at "mem")
      have hA1 := B.lAt (a := A1) (by wtm_at "mem")
      have hA2 := B.lAt (a := A2) (by wtm_at "mem")
      have hA3 := B.lAt (a := A3) (by wtm_at "mem")
      have sX := same_new (o := .lst [.ref N, .ref Sg, .ref O]) hX
      refine rd_neZs (rs := [nn, sg, od]) (ss := [nn, sg, od]) (.lst (SqL.of upd_same) (.cons (z_dp (SqL.of (sX _ _ gN))) (.cons (z_dp (SqL.of (sX _ _ gS))) (.cons (z_dp (SqL.of (sX _ _ gO))) .nil)))) (.lst (SqL.of (sX _ _ hKp)) (.cons (z_dp (SqL.of (sX _ _ hA1))) (.cons (z_dp (SqL.of (sX _ _ hA2))) (.cons (z_dp (SqL.of (sX _ _ hA3))) .nil)))) ?_
      rw [decide_eq_true rfl]
      replace B := (B.next sX (NoT.upd B.nt rfl)).sub (L' := [(O, .lst (od.map V.int))]) (by wtm_at "vsub") (by wtm_at "vsub")
      clear sX hKp hA1 hA2 hA3 hX gN gS gO
      refine B.gen fun G B => ?_
      have gN := B.same _ _ hN
      have gS := B.same _ _ hSg
      have gO := B.lAt (a := O) (by wtm_at "mem")
      wtm_at "rs"
      refine ⟨N, Sg, O, nn, sg, od, rfl, SqL.of gN, SqL.of gS, SqL.of gO, nm, by omega, spm, o8, ob, B.nt, fun G5 s5 n5 => ?_⟩
      replace B := (B.next s5 n5).sub (L' := []) (by wtm_at "vsub") (by wtm_at "vsub")
      clear s5 n5 gN gS gO
      wtm_at "rs"
      have gN := B.same _ _ hN
      have gS := B.same _ _ hSg
      obtain ⟨prs, hp1, hp2⟩ : ∃ prs : List (Int × Int), prs.map (·.1) = nn ∧ prs.map (·.2) = sg := ⟨nn.zip sg, by rw [List.map_fst_zip]; omega, by rw [List.map_snd_zip]; omega⟩
      have prl : prs.length = nn.length := by rw [← hp1, List.length_map]
      have pok : ∀ q ∈ prs, NumS q := fun q hq => by
        have a1 := nok q.1 (by rw [← hp1]; exact List.mem_map.mpr ⟨q, hq, rfl⟩)
        exact ⟨a1.1, a1.2, spm q.2 (by rw [← hp2]; exact List.mem_map.mpr ⟨q, hq, rfl⟩)⟩
      refine use_set78 gN gS hp1 hp2 (by omega) (by omega) pok B.nt fun u G6 s6 n6 hu => ?_
      replace B := B.next s6 n6
      clear gN gS s6 n6
      rcases hd with ⟨rfl, nb⟩ | ⟨⟨b, rfl⟩, br⟩
      · rcases hu with rfl | ⟨x, m, R, S, rfl, ix, pr⟩
        · wtm_at "rs"
          exact kq _
        · have ok : SetOk m R S := pr.ok (fun q hq => pok q (List.mem_reverse.mp hq)) (by rw [List.length_reverse]; omega)
          have r1 := least_len ok.least ok.le
          have rn := pr.rests pok (by rw [hp1, hp2]; exact nb)
          wtm_at "rs"
          obtain ⟨dx, tR, tS, i1, i2, i3⟩ := id ix
          refine ⟨x, dx, pfl m tR tS, rfl, i1, fin_look m tR tS, ?_⟩
          wtm_at "rs"
          refine ⟨x, m, R, S, rfl, ix, by omega, ?_⟩
          rw [decide_eq_false rn]
          wtm_at "rs"
          exact kq _
      · wtm_at "rs"
        refine two_ways78 (I := fun G => Hv noX G2 [] [] [] G) (P := ?P) (fun fin => ?_) ?_
        rotate_left
        · rcases hu with eu | ⟨x, m, R, S, eu, ix, pr⟩
          · rw [if_neg (by rw [eu]; decide)]
            wtm_at "rs"
            exact fin _ B
          · rw [if_pos (by rw [eu]; rfl)]
            wtm_at "rs"
            rw [if_pos (by rw [eu]; rfl)]
            wtm_at "rs"
            refine ⟨rfl, B.nt, fun x2 G7 m' R' S' s7 n7 fx ix2 mk => ?_⟩
            wtm_at "rs"
            refine use_PEq78 T eu (ix.mono s7) ix2 n7 ?_
            rw [decide_eq_true (pr.barred pok (by rw [hp1, hp2]; exact br) mk)]
            refine ⟨true, rfl, ?_⟩
            rw [if_neg (by decide)]
            wtm_at "rs"
            exact fin _ (B.next s7 n7)
        clear B
        intro G B
        refine rd_r3 (n := 199) ⟨by decide, by decide, by decide, by decide⟩ ?_
        refine rd_lcC (fun i : Nat => decide (QR.OP (3 + (i : Int) * 2))) (fun i : Nat => .int (3 + (i : Int) * 2)) (fun D i hD i9 => ?_) fun Ck hCk => ?_
        · wtm_at "r"
          refine ⟨rfl, ?_⟩
          wtm_at "rs"
          by_cases op : QR.OP (3 + (i : Int) * 2)
          · rw [if_pos (decide_eq_true op)]
            wtm_at "rs"
            exact put_R (by omega) (decide_eq_true op) rfl
          · rw [if_neg (by rw [decide_eq_true_iff]; exact op)]
            exact skip_R (decide_eq_false op)
        rw [show ((List.range 199).filter fun i : Nat => decide (QR.OP (3 + (i : Int) * 2))).map (fun i : Nat => V.int (3 + (i : Int) * 2)) = clk8.map V.int by unfold clk8; rw [List.map_map]; rfl]
        replace B := B.newL (o := .lst (clk8.map V.int)) hCk
        clear hCk
        refine B.gen fun G B => ?_
        have hCk := B.lAt (a := Ck) (by wtm_at "mem")
        have gN := B.same _ _ hN
        have gS := B.same _ _ hSg
        wtm_at "rs"
        refine rd_lcP (xs := clk8.map V.int) (fun i ys => ys = []) (SqL.of hCk) B.nt rfl ?_ ?_
        · rintro D4 j ys x H4 hx sm4 nt4 hD4 h4 rfl
          rw [List.getElem?_map] at hx
          obtain ⟨p, hp, rfl⟩ := Option.map_eq_some_iff.mp hx
          obtain ⟨op, p4⟩ := mem_clk8.mp (List.mem_of_getElem? hp)
          have p3 := op.three
          wtm_at "r"
          refine ⟨rfl, ?_⟩
          wtm_at "rs"
          refine rd_lcI (ns := nn) (fun _ => true) (fun n => .int (sgn n p)) (SqL.of (sm4 _ _ gN)) (fun D l x r hD e => ?_) fun D5 hD5 => ?_
          · have lk : l.length < 8 := by
              have := congrArg List.length e
              rw [List.length_append, List.length_cons] at this
              omega
            wtm_at "r"
            refine ⟨rfl, ?_⟩
            wtm_at "rs"
            refine use_LSgn op (by omega) ?_
            exact put_I (by omega) rfl rfl
          rw [show nn.filter (fun _ => true) = nn by simp]
          have e6 : (nn.map fun n => V.int (sgn n p)) = (nn.map fun n => sgn n p).map V.int := by rw [List.map_map]; rfl
          rw [e6]
          have s6 := same_new (o := .lst ((nn.map fun n => sgn n p).map V.int)) hD5
          have h6 : upd H4 D5 (.lst ((nn.map fun n => sgn n p).map V.int)) D5 = some (.lst ((nn.map fun n => sgn n p).map V.int)) := upd_same
          have hb6 := s6 _ _ (sm4 _ _ gS)
          wtm_at "rs"
          rw [if_neg (by rw [decide_eq_true_iff]; exact no_odd78 (by omega) op.2 br)]
          exact ⟨[], s6 _ _ h4, sm4.trans s6, NoT.upd nt4 rfl, rfl⟩
        · rintro Fd ys H4 hFd h4 sm n1 rfl
          wtm_at "rs"
          exact kq _
end
/-! ## what the top has left, and the end -/
structure ClsH (K : PySem.W.Frag) (C : Addr) : Prop where
  opg : PySem.W.plainGet K C Str.empty = true
  ohd : PySem.W.hasDictIn K C = true
  opo : PySem.W.plainOver K C = true
  osa : PySem.W.findIn K (.ref C) "__setattr__" = some (some (.builtin "object.__setattr__"))
  omk : PySem.W.makesIn K C = true
  okc : PySem.W.keepIn K (.ref C) = true
  oha : PySem.W.findIn K (.ref C) "__class__" = some (some (.builtin "object.__class__"))
  ohn : PySem.W.specialIn K (.builtin "object.__class__") "__get__" = some (some (.builtin "getset_descriptor.__get__"))
  otk : PySem.W.takesIn K (.builtin "object.__class__") = some true
  omr : PySem.W.mroIn K C (.type "object") = some true
  oci : PySem.W.isClsIn K C = true
  oct : PySem.W.typeIn K (.ref C) = some (.type "type")
theorem at_choices_of {K : PySem.W.Frag} {h : Heap} {mg : Str → Option Value} (X : K.In h) (G : h.Ns mainGlobals mg) {f0 : Addr} {od0 an0 : Option Addr} {sl0 : Array (Option Value)} {oc0 kV0 dc0 pm0 cd0 ct0 : Value} (a0 : PySem.W.nsIn K mainGlobals "choices_of" = some (some (.ref f0))) (l0 : K.lookup f0 = some ⟨oc0, od0, .func (PySem.W.fnOf "choices_of" "choices_of" (defArgs s_choices_of) (defBody s_choices_of) (defScope s_choices_of) .none kV0 dc0 pm0 an0 cd0 ct0), sl0⟩) (c0 : PySem.W.codeIn K cd0 "choices_of" = true) (k0 : PySem.W.keepIn K (.ref f0) = true) : DefAt K mg "choices_of" s_choices_of ["many", "length"] := by
  have F := fun_mk (st := s_choices_of) l0 c0 k0
  have b := F.binds (ps := ["many", "length"]) fun _ _ _ _ _ _ us hl => match us, hl with | [_, _], _ => rfl
  exact ⟨_, _, F, PySem.W.mg_of X G a0, b⟩
theorem at_product_of {K : PySem.W.Frag} {h : Heap} {mg : Str → Option Value} (X : K.In h) (G : h.Ns mainGlobals mg) {f1 : Addr} {od1 an1 : Option Addr} {sl1 : Array (Option Value)} {oc1 kV1 dc1 pm1 cd1 ct1 : Value} (a1 : PySem.W.nsIn K mainGlobals "product_of" = some (some (.ref f1))) (l1 : K.lookup f1 = some ⟨oc1, od1, .func (PySem.W.fnOf "product_of" "product_of" (defArgs s_product_of) (defBody s_product_of) (defScope s_product_of) .none kV1 dc1 pm1 an1 cd1 ct1), sl1⟩) (c1 : PySem.W.codeIn K cd1 "product_of" = true) (k1 : PySem.W.keepIn K (.ref f1) = true) : DefAt K mg "product_of" s_product_of ["factors_of_it"] := by
  have F := fun_mk (st := s_product_of) l1 c1 k1
  have b := F.binds (ps := ["factors_of_it"]) fun _ _ _ _ _ _ us hl => match us, hl with | [_], _ => rfl
  exact ⟨_, _, F, PySem.W.mg_of X G a1, b⟩
theorem at_factors {K : PySem.W.Frag} {h : Heap} {mg : Str → Option Value} (X : K.In h) (G : h.Ns mainGlobals mg) {f2 : Addr} {od2 an2 : Option Addr} {sl2 : Array (Option Value)} {oc2 kV2 dc2 pm2 cd2 ct2 : Value} (a2 : PySem.W.nsIn K mainGlobals "factors" = some (some (.ref f2))) (l2 : K.lookup f2 = some ⟨oc2, od2, .func (PySem.W.fnOf "factors" "factors" (defArgs s_factors) (defBody s_factors) (defScope s_factors) .none kV2 dc2 pm2 an2 cd2 ct2), sl2⟩) (c2 : PySem.W.codeIn K cd2 "factors" = true) (k2 : PySem.W.keepIn K (.ref f2) = true) : DefAt K mg "factors" s_factors ["n"] := by
  have F := fun_mk (st := s_factors) l2 c2 k2
  have b := F.binds (ps := ["n"]) fun _ _ _ _ _ _ us hl => match us, hl with | [_], _ => rfl
  exact ⟨_, _, F, PySem.W.mg_of X G a2, b⟩
theorem at_core {K : PySem.W.Frag} {h : Heap} {mg : Str → Option Value} (X : K.In h) (G : h.Ns mainGlobals mg) {f3 : Addr} {od3 an3 : Option Addr} {sl3 : Array (Option Value)} {oc3 kV3 dc3 pm3 cd3 ct3 : Value} (a3 : PySem.W.nsIn K mainGlobals "core" = some (some (.ref f3))) (l3 : K.lookup f3 = some ⟨oc3, od3, .func (PySem.W.fnOf "core" "core" (defArgs s_core) (defBody s_core) (defScope s_core) .none kV3 dc3 pm3 an3 cd3 ct3), sl3⟩) (c3 : PySem.W.codeIn K cd3 "core" = true) (k3 : PySem.W.keepIn K (.ref f3) = true) : DefAt K mg "core" s_core ["n"] := by
  have F := fun_mk (st := s_core) l3 c3 k3
  have b := F.binds (ps := ["n"]) fun _ _ _ _ _ _ us hl => match us, hl with | [_], _ => rfl
  exact ⟨_, _, F, PySem.W.mg_of X G a3, b⟩
theorem at_shows {K : PySem.W.Frag} {h : Heap} {mg : Str → Option Value} (X : K.In h) (G : h.Ns mainGlobals mg) {f4 : Addr} {od4 an4 : Option Addr} {sl4 : Array (Option Value)} {oc4 kV4 dc4 pm4 cd4 ct4 : Value} (a4 : PySem.W.nsIn K mainGlobals "shows" = some (some (.ref f4))) (l4 : K.lookup f4 = some ⟨oc4, od4, .func (PySem.W.fnOf "shows" "shows" (defArgs s_shows) (defBody s_shows) (defScope s_shows) .none kV4 dc4 pm4 an4 cd4 ct4), sl4⟩) (c4 : PySem.W.codeIn K cd4 "shows" = true) (k4 : PySem.W.keepIn K (.ref f4) = true) : DefAt K mg "shows" s_shows ["numbers", "signs", "places"] := by
  have F := fun_mk (st := s_shows) l4 c4 k4
  have b := F.binds (ps := ["numbers", "signs", "places"]) fun _ _ _ _ _ _ us hl => match us, hl with | [_, _, _], _ => rfl
  exact ⟨_, _, F, PySem.W.mg_of X G a4, b⟩
theorem at_barred {K : PySem.W.Frag} {h : Heap} {mg : Str → Option Value} (X : K.In h) (G : h.Ns mainGlobals mg) {f5 : Addr} {od5 an5 : Option Addr} {sl5 : Array (Option Value)} {oc5 kV5 dc5 pm5 cd5 ct5 : Value} (a5 : PySem.W.nsIn K mainGlobals "barred" = some (some (.ref f5))) (l5 : K.lookup f5 = some ⟨oc5, od5, .func (PySem.W.fnOf "barred" "barred" (defArgs s_barred) (defBody s_barred) (defScope s_barred) .none kV5 dc5 pm5 an5 cd5 ct5), sl5⟩) (c5 : PySem.W.codeIn K cd5 "barred" = true) (k5 : PySem.W.keepIn K (.ref f5) = true) : DefAt K mg "barred" s_barred ["numbers", "signs"] := by
  have F := fun_mk (st := s_barred) l5 c5 k5
  have b := F.binds (ps := ["numbers", "signs"]) fun _ _ _ _ _ _ us hl => match us, hl with | [_, _], _ => rfl
  exact ⟨_, _, F, PySem.W.mg_of X G a5, b⟩
theorem at_law_lists {K : PySem.W.Frag} {h : Heap} {mg : Str → Option Value} (X : K.In h) (G : h.Ns mainGlobals mg) {f6 : Addr} {od6 an6 : Option Addr} {sl6 : Array (Option Value)} {oc6 kV6 dc6 pm6 cd6 ct6 : Value} (a6 : PySem.W.nsIn K mainGlobals "_law_lists" = some (some (.ref f6))) (l6 : K.lookup f6 = some ⟨oc6, od6, .func (PySem.W.fnOf "_law_lists" "_law_lists" (defArgs s_law_lists) (defBody s_law_lists) (defScope s_law_lists) .none kV6 dc6 pm6 an6 cd6 ct6), sl6⟩) (c6 : PySem.W.codeIn K cd6 "_law_lists" = true) (k6 : PySem.W.keepIn K (.ref f6) = true) : DefAt K mg "_law_lists" s_law_lists ["_law_many"] := by
  have F := fun_mk (st := s_law_lists) l6 c6 k6
  have b := F.binds (ps := ["_law_many"]) fun _ _ _ _ _ _ us hl => match us, hl with | [_], _ => rfl
  exact ⟨_, _, F, PySem.W.mg_of X G a6, b⟩
theorem at_law_square {K : PySem.W.Frag} {h : Heap} {mg : Str → Option Value} (X : K.In h) (G : h.Ns mainGlobals mg) {f7 : Addr} {od7 an7 : Option Addr} {sl7 : Array (Option Value)} {oc7 kV7 dc7 pm7 cd7 ct7 : Value} (a7 : PySem.W.nsIn K mainGlobals "_law_square" = some (some (.ref f7))) (l7 : K.lookup f7 = some ⟨oc7, od7, .func (PySem.W.fnOf "_law_square" "_law_square" (defArgs s_law_square) (defBody s_law_square) (defScope s_law_square) .none kV7 dc7 pm7 an7 cd7 ct7), sl7⟩) (c7 : PySem.W.codeIn K cd7 "_law_square" = true) (k7 : PySem.W.keepIn K (.ref f7) = true) : DefAt K mg "_law_square" s_law_square ["_law_n"] := by
  have F := fun_mk (st := s_law_square) l7 c7 k7
  have b := F.binds (ps := ["_law_n"]) fun _ _ _ _ _ _ us hl => match us, hl with | [_], _ => rfl
  exact ⟨_, _, F, PySem.W.mg_of X G a7, b⟩
theorem at_law_shows {K : PySem.W.Frag} {h : Heap} {mg : Str → Option Value} (X : K.In h) (G : h.Ns mainGlobals mg) {f8 : Addr} {od8 an8 : Option Addr} {sl8 : Array (Option Value)} {oc8 kV8 dc8 pm8 cd8 ct8 : Value} (a8 : PySem.W.nsIn K mainGlobals "_law_shows" = some (some (.ref f8))) (l8 : K.lookup f8 = some ⟨oc8, od8, .func (PySem.W.fnOf "_law_shows" "_law_shows" (defArgs s_law_shows) (defBody s_law_shows) (defScope s_law_shows) .none kV8 dc8 pm8 an8 cd8 ct8), sl8⟩) (c8 : PySem.W.codeIn K cd8 "_law_shows" = true) (k8 : PySem.W.keepIn K (.ref f8) = true) : DefAt K mg "_law_shows" s_law_shows ["_law_numbers", "_law_signs", "_law_places"] := by
  have F := fun_mk (st := s_law_shows) l8 c8 k8
  have b := F.binds (ps := ["_law_numbers", "_law_signs", "_law_places"]) fun _ _ _ _ _ _ us hl => match us, hl with | [_, _, _], _ => rfl
  exact ⟨_, _, F, PySem.W.mg_of X G a8, b⟩
theorem at_conductor {K : PySem.W.Frag} {h : Heap} {mg : Str → Option Value} (X : K.In h) (G : h.Ns mainGlobals mg) {f9 : Addr} {od9 an9 : Option Addr} {sl9 : Array (Option Value)} {oc9 kV9 dc9 pm9 cd9 ct9 : Value} (a9 : PySem.W.nsIn K mainGlobals "conductor" = some (some (.ref f9))) (l9 : K.lookup f9 = some ⟨oc9, od9, .func (PySem.W.fnOf "conductor" "conductor" (defArgs s_conductor) (defBody s_conductor) (defScope s_conductor) .none kV9 dc9 pm9 an9 cd9 ct9), sl9⟩) (c9 : PySem.W.codeIn K cd9 "conductor" = true) (k9 : PySem.W.keepIn K (.ref f9) = true) : DefAt K mg "conductor" s_conductor ["n"] := by
  have F := fun_mk (st := s_conductor) l9 c9 k9
  have b := F.binds (ps := ["n"]) fun _ _ _ _ _ _ us hl => match us, hl with | [_], _ => rfl
  exact ⟨_, _, F, PySem.W.mg_of X G a9, b⟩
theorem at_checked_modulus_signs {K : PySem.W.Frag} {h : Heap} {mg : Str → Option Value} (X : K.In h) (G : h.Ns mainGlobals mg) {f10 : Addr} {od10 an10 : Option Addr} {sl10 : Array (Option Value)} {oc10 kV10 dc10 pm10 cd10 ct10 : Value} (a10 : PySem.W.nsIn K mainGlobals "checked_modulus_signs" = some (some (.ref f10))) (l10 : K.lookup f10 = some ⟨oc10, od10, .func (PySem.W.fnOf "checked_modulus" "checked_modulus" (defArgs s_checked_modulus_signs) (defBody s_checked_modulus_signs) (defScope s_checked_modulus_signs) .none kV10 dc10 pm10 an10 cd10 ct10), sl10⟩) (c10 : PySem.W.codeIn K cd10 "checked_modulus" = true) (k10 : PySem.W.keepIn K (.ref f10) = true) : DefAtA K mg "checked_modulus_signs" "checked_modulus" s_checked_modulus_signs ["m"] := by
  have F := fun_mk (st := s_checked_modulus_signs) l10 c10 k10
  have b := F.binds (ps := ["m"]) fun _ _ _ _ _ _ us hl => match us, hl with | [_], _ => rfl
  exact ⟨_, _, F, PySem.W.mg_of X G a10, b⟩
theorem at_factor_of {K : PySem.W.Frag} {h : Heap} {mg : Str → Option Value} (X : K.In h) (G : h.Ns mainGlobals mg) {f11 : Addr} {od11 an11 : Option Addr} {sl11 : Array (Option Value)} {oc11 kV11 dc11 pm11 cd11 ct11 : Value} (a11 : PySem.W.nsIn K mainGlobals "factor_of" = some (some (.ref f11))) (l11 : K.lookup f11 = some ⟨oc11, od11, .func (PySem.W.fnOf "factor_of" "factor_of" (defArgs s_factor_of) (defBody s_factor_of) (defScope s_factor_of) .none kV11 dc11 pm11 an11 cd11 ct11), sl11⟩) (c11 : PySem.W.codeIn K cd11 "factor_of" = true) (k11 : PySem.W.keepIn K (.ref f11) = true) : DefAt K mg "factor_of" s_factor_of ["rule", "n", "m"] := by
  have F := fun_mk (st := s_factor_of) l11 c11 k11
  have b := F.binds (ps := ["rule", "n", "m"]) fun _ _ _ _ _ _ us hl => match us, hl with | [_, _, _], _ => rfl
  exact ⟨_, _, F, PySem.W.mg_of X G a11, b⟩
theorem at_sign {K : PySem.W.Frag} {h : Heap} {mg : Str → Option Value} (X : K.In h) (G : h.Ns mainGlobals mg) {f12 : Addr} {od12 an12 : Option Addr} {sl12 : Array (Option Value)} {oc12 kV12 dc12 pm12 cd12 ct12 : Value} (a12 : PySem.W.nsIn K mainGlobals "sign" = some (some (.ref f12))) (l12 : K.lookup f12 = some ⟨oc12, od12, .func (PySem.W.fnOf "sign" "sign" (defArgs s_sign) (defBody s_sign) (defScope s_sign) .none kV12 dc12 pm12 an12 cd12 ct12), sl12⟩) (c12 : PySem.W.codeIn K cd12 "sign" = true) (k12 : PySem.W.keepIn K (.ref f12) = true) : DefAt K mg "sign" s_sign ["n", "m"] := by
  have F := fun_mk (st := s_sign) l12 c12 k12
  have b := F.binds (ps := ["n", "m"]) fun _ _ _ _ _ _ us hl => match us, hl with | [_, _], _ => rfl
  exact ⟨_, _, F, PySem.W.mg_of X G a12, b⟩
theorem at_sign_by_rest {K : PySem.W.Frag} {h : Heap} {mg : Str → Option Value} (X : K.In h) (G : h.Ns mainGlobals mg) {f13 : Addr} {od13 an13 : Option Addr} {sl13 : Array (Option Value)} {oc13 kV13 dc13 pm13 cd13 ct13 : Value} (a13 : PySem.W.nsIn K mainGlobals "sign_by_rest" = some (some (.ref f13))) (l13 : K.lookup f13 = some ⟨oc13, od13, .func (PySem.W.fnOf "sign_by_rest" "sign_by_rest" (defArgs s_sign_by_rest) (defBody s_sign_by_rest) (defScope s_sign_by_rest) .none kV13 dc13 pm13 an13 cd13 ct13), sl13⟩) (c13 : PySem.W.codeIn K cd13 "sign_by_rest" = true) (k13 : PySem.W.keepIn K (.ref f13) = true) : DefAt K mg "sign_by_rest" s_sign_by_rest ["n", "rest", "modulus"] := by
  have F := fun_mk (st := s_sign_by_rest) l13 c13 k13
  have b := F.binds (ps := ["n", "rest", "modulus"]) fun _ _ _ _ _ _ us hl => match us, hl with | [_, _, _], _ => rfl
  exact ⟨_, _, F, PySem.W.mg_of X G a13, b⟩
theorem at_odd_primes_of {K : PySem.W.Frag} {h : Heap} {mg : Str → Option Value} (X : K.In h) (G : h.Ns mainGlobals mg) {f14 : Addr} {od14 an14 : Option Addr} {sl14 : Array (Option Value)} {oc14 kV14 dc14 pm14 cd14 ct14 : Value} (a14 : PySem.W.nsIn K mainGlobals "odd_primes_of" = some (some (.ref f14))) (l14 : K.lookup f14 = some ⟨oc14, od14, .func (PySem.W.fnOf "odd_primes_of" "odd_primes_of" (defArgs s_odd_primes_of) (defBody s_odd_primes_of) (defScope s_odd_primes_of) .none kV14 dc14 pm14 an14 cd14 ct14), sl14⟩) (c14 : PySem.W.codeIn K cd14 "odd_primes_of" = true) (k14 : PySem.W.keepIn K (.ref f14) = true) : DefAt K mg "odd_primes_of" s_odd_primes_of ["n"] := by
  have F := fun_mk (st := s_odd_primes_of) l14 c14 k14
  have b := F.binds (ps := ["n"]) fun _ _ _ _ _ _ us hl => match us, hl with | [_], _ => rfl
  exact ⟨_, _, F, PySem.W.mg_of X G a14, b⟩
theorem at_checked_modulus {K : PySem.W.Frag} {h : Heap} {mg : Str → Option Value} (X : K.In h) (G : h.Ns mainGlobals mg) {f15 : Addr} {od15 an15 : Option Addr} {sl15 : Array (Option Value)} {oc15 kV15 dc15 pm15 cd15 ct15 : Value} (a15 : PySem.W.nsIn K mainGlobals "checked_modulus" = some (some (.ref f15))) (l15 : K.lookup f15 = some ⟨oc15, od15, .func (PySem.W.fnOf "checked_modulus" "checked_modulus" (defArgs s_checked_modulus) (defBody s_checked_modulus) (defScope s_checked_modulus) .none kV15 dc15 pm15 an15 cd15 ct15), sl15⟩) (c15 : PySem.W.codeIn K cd15 "checked_modulus" = true) (k15 : PySem.W.keepIn K (.ref f15) = true) : DefAt K mg "checked_modulus" s_checked_modulus ["modulus"] := by
  have F := fun_mk (st := s_checked_modulus) l15 c15 k15
  have b := F.binds (ps := ["modulus"]) fun _ _ _ _ _ _ us hl => match us, hl with | [_], _ => rfl
  exact ⟨_, _, F, PySem.W.mg_of X G a15, b⟩
theorem at_is_prime {K : PySem.W.Frag} {h : Heap} {mg : Str → Option Value} (X : K.In h) (G : h.Ns mainGlobals mg) {f16 : Addr} {od16 an16 : Option Addr} {sl16 : Array (Option Value)} {oc16 kV16 dc16 pm16 cd16 ct16 : Value} (a16 : PySem.W.nsIn K mainGlobals "is_prime" = some (some (.ref f16))) (l16 : K.lookup f16 = some ⟨oc16, od16, .func (PySem.W.fnOf "is_prime" "is_prime" (defArgs s_is_prime) (defBody s_is_prime) (defScope s_is_prime) .none kV16 dc16 pm16 an16 cd16 ct16), sl16⟩) (c16 : PySem.W.codeIn K cd16 "is_prime" = true) (k16 : PySem.W.keepIn K (.ref f16) = true) : DefAt K mg "is_prime" s_is_prime ["n"] := by
  have F := fun_mk (st := s_is_prime) l16 c16 k16
  have b := F.binds (ps := ["n"]) fun _ _ _ _ _ _ us hl => match us, hl with | [_], _ => rfl
  exact ⟨_, _, F, PySem.W.mg_of X G a16, b⟩
theorem at_checked_singles {K : PySem.W.Frag} {h : Heap} {mg : Str → Option Value} (X : K.In h) (G : h.Ns mainGlobals mg) {f17 : Addr} {od17 an17 : Option Addr} {sl17 : Array (Option Value)} {oc17 kV17 dc17 pm17 cd17 ct17 : Value} (a17 : PySem.W.nsIn K mainGlobals "checked_singles" = some (some (.ref f17))) (l17 : K.lookup f17 = some ⟨oc17, od17, .func (PySem.W.fnOf "checked_singles" "checked_singles" (defArgs s_checked_singles) (defBody s_checked_singles) (defScope s_checked_singles) .none kV17 dc17 pm17 an17 cd17 ct17), sl17⟩) (c17 : PySem.W.codeIn K cd17 "checked_singles" = true) (k17 : PySem.W.keepIn K (.ref f17) = true) : DefAt K mg "checked_singles" s_checked_singles ["singles"] := by
  have F := fun_mk (st := s_checked_singles) l17 c17 k17
  have b := F.binds (ps := ["singles"]) fun _ _ _ _ _ _ us hl => match us, hl with | [_], _ => rfl
  exact ⟨_, _, F, PySem.W.mg_of X G a17, b⟩
theorem at_common {K : PySem.W.Frag} {h : Heap} {mg : Str → Option Value} (X : K.In h) (G : h.Ns mainGlobals mg) {f18 : Addr} {od18 an18 : Option Addr} {sl18 : Array (Option Value)} {oc18 kV18 dc18 pm18 cd18 ct18 : Value} (a18 : PySem.W.nsIn K mainGlobals "common" = some (some (.ref f18))) (l18 : K.lookup f18 = some ⟨oc18, od18, .func (PySem.W.fnOf "common" "common" (defArgs s_common) (defBody s_common) (defScope s_common) .none kV18 dc18 pm18 an18 cd18 ct18), sl18⟩) (c18 : PySem.W.codeIn K cd18 "common" = true) (k18 : PySem.W.keepIn K (.ref f18) = true) : DefAt K mg "common" s_common ["a", "b"] := by
  have F := fun_mk (st := s_common) l18 c18 k18
  have b := F.binds (ps := ["a", "b"]) fun _ _ _ _ _ _ us hl => match us, hl with | [_, _], _ => rfl
  exact ⟨_, _, F, PySem.W.mg_of X G a18, b⟩
theorem at_units_values {K : PySem.W.Frag} {h : Heap} {mg : Str → Option Value} (X : K.In h) (G : h.Ns mainGlobals mg) {f19 : Addr} {od19 an19 : Option Addr} {sl19 : Array (Option Value)} {oc19 kV19 dc19 pm19 cd19 ct19 : Value} (a19 : PySem.W.nsIn K mainGlobals "units_values" = some (some (.ref f19))) (l19 : K.lookup f19 = some ⟨oc19, od19, .func (PySem.W.fnOf "units" "units" (defArgs s_units_values) (defBody s_units_values) (defScope s_units_values) .none kV19 dc19 pm19 an19 cd19 ct19), sl19⟩) (c19 : PySem.W.codeIn K cd19 "units" = true) (k19 : PySem.W.keepIn K (.ref f19) = true) : DefAtA K mg "units_values" "units" s_units_values ["modulus"] := by
  have F := fun_mk (st := s_units_values) l19 c19 k19
  have b := F.binds (ps := ["modulus"]) fun _ _ _ _ _ _ us hl => match us, hl with | [_], _ => rfl
  exact ⟨_, _, F, PySem.W.mg_of X G a19, b⟩
theorem at_shortened {K : PySem.W.Frag} {h : Heap} {mg : Str → Option Value} (X : K.In h) (G : h.Ns mainGlobals mg) {f20 : Addr} {od20 an20 : Option Addr} {sl20 : Array (Option Value)} {oc20 kV20 dc20 pm20 cd20 ct20 : Value} (a20 : PySem.W.nsIn K mainGlobals "shortened" = some (some (.ref f20))) (l20 : K.lookup f20 = some ⟨oc20, od20, .func (PySem.W.fnOf "shortened" "shortened" (defArgs s_shortened) (defBody s_shortened) (defScope s_shortened) .none kV20 dc20 pm20 an20 cd20 ct20), sl20⟩) (c20 : PySem.W.codeIn K cd20 "shortened" = true) (k20 : PySem.W.keepIn K (.ref f20) = true) : DefAt K mg "shortened" s_shortened ["modulus", "rests", "prime"] := by
  have F := fun_mk (st := s_shortened) l20 c20 k20
  have b := F.binds (ps := ["modulus", "rests", "prime"]) fun _ _ _ _ _ _ us hl => match us, hl with | [_, _, _], _ => rfl
  exact ⟨_, _, F, PySem.W.mg_of X G a20, b⟩
theorem at_toggled {K : PySem.W.Frag} {h : Heap} {mg : Str → Option Value} (X : K.In h) (G : h.Ns mainGlobals mg) {f21 : Addr} {od21 an21 : Option Addr} {sl21 : Array (Option Value)} {oc21 kV21 dc21 pm21 cd21 ct21 : Value} (a21 : PySem.W.nsIn K mainGlobals "toggled" = some (some (.ref f21))) (l21 : K.lookup f21 = some ⟨oc21, od21, .func (PySem.W.fnOf "toggled" "toggled" (defArgs s_toggled) (defBody s_toggled) (defScope s_toggled) .none kV21 dc21 pm21 an21 cd21 ct21), sl21⟩) (c21 : PySem.W.codeIn K cd21 "toggled" = true) (k21 : PySem.W.keepIn K (.ref f21) = true) : DefAt K mg "toggled" s_toggled ["singles", "p"] := by
  have F := fun_mk (st := s_toggled) l21 c21 k21
  have b := F.binds (ps := ["singles", "p"]) fun _ _ _ _ _ _ us hl => match us, hl with | [_, _], _ => rfl
  exact ⟨_, _, F, PySem.W.mg_of X G a21, b⟩
theorem at_told_by {K : PySem.W.Frag} {h : Heap} {mg : Str → Option Value} (X : K.In h) (G : h.Ns mainGlobals mg) {f22 : Addr} {od22 an22 : Option Addr} {sl22 : Array (Option Value)} {oc22 kV22 dc22 pm22 cd22 ct22 : Value} (a22 : PySem.W.nsIn K mainGlobals "told_by" = some (some (.ref f22))) (l22 : K.lookup f22 = some ⟨oc22, od22, .func (PySem.W.fnOf "told_by" "told_by" (defArgs s_told_by) (defBody s_told_by) (defScope s_told_by) .none kV22 dc22 pm22 an22 cd22 ct22), sl22⟩) (c22 : PySem.W.codeIn K cd22 "told_by" = true) (k22 : PySem.W.keepIn K (.ref f22) = true) : DefAt K mg "told_by" s_told_by ["modulus", "rests", "p"] := by
  have F := fun_mk (st := s_told_by) l22 c22 k22
  have b := F.binds (ps := ["modulus", "rests", "p"]) fun _ _ _ _ _ _ us hl => match us, hl with | [_, _, _], _ => rfl
  exact ⟨_, _, F, PySem.W.mg_of X G a22, b⟩
theorem at_least_description {K : PySem.W.Frag} {h : Heap} {mg : Str → Option Value} (X : K.In h) (G : h.Ns mainGlobals mg) {f23 : Addr} {od23 an23 : Option Addr} {sl23 : Array (Option Value)} {oc23 kV23 dc23 pm23 cd23 ct23 : Value} (a23 : PySem.W.nsIn K mainGlobals "least_description" = some (some (.ref f23))) (l23 : K.lookup f23 = some ⟨oc23, od23, .func (PySem.W.fnOf "least_description" "least_description" (defArgs s_least_description) (defBody s_least_description) (defScope s_least_description) .none kV23 dc23 pm23 an23 cd23 ct23), sl23⟩) (c23 : PySem.W.codeIn K cd23 "least_description" = true) (k23 : PySem.W.keepIn K (.ref f23) = true) : DefAt K mg "least_description" s_least_description ["modulus", "rests", "singles"] := by
  have F := fun_mk (st := s_least_description) l23 c23 k23
  have b := F.binds (ps := ["modulus", "rests", "singles"]) fun _ _ _ _ _ _ us hl => match us, hl with | [_, _, _], _ => rfl
  exact ⟨_, _, F, PySem.W.mg_of X G a23, b⟩
theorem at_checked_modulus_values {K : PySem.W.Frag} {h : Heap} {mg : Str → Option Value} (X : K.In h) (G : h.Ns mainGlobals mg) {f24 : Addr} {od24 an24 : Option Addr} {sl24 : Array (Option Value)} {oc24 kV24 dc24 pm24 cd24 ct24 : Value} (a24 : PySem.W.nsIn K mainGlobals "checked_modulus_values" = some (some (.ref f24))) (l24 : K.lookup f24 = some ⟨oc24, od24, .func (PySem.W.fnOf "checked_modulus" "checked_modulus" (defArgs s_checked_modulus_values) (defBody s_checked_modulus_values) (defScope s_checked_modulus_values) .none kV24 dc24 pm24 an24 cd24 ct24), sl24⟩) (c24 : PySem.W.codeIn K cd24 "checked_modulus" = true) (k24 : PySem.W.keepIn K (.ref f24) = true) : DefAtA K mg "checked_modulus_values" "checked_modulus" s_checked_modulus_values ["modulus"] := by
  have F := fun_mk (st := s_checked_modulus_values) l24 c24 k24
  have b := F.binds (ps := ["modulus"]) fun _ _ _ _ _ _ us hl => match us, hl with | [_], _ => rfl
  exact ⟨_, _, F, PySem.W.mg_of X G a24, b⟩
theorem at_Primes_init {K : PySem.W.Frag} {h : Heap} {mg : Str → Option Value} (X : K.In h) (G : h.Ns mainGlobals mg) {CO : Addr} (og : PySem.W.nsIn K mainGlobals "Primes" = some (some (.ref CO))) (hc : ClsH K CO) {f25 : Addr} {od25 an25 : Option Addr} {sl25 : Array (Option Value)} {oc25 kV25 dc25 pm25 cd25 ct25 : Value} (a25 : PySem.W.findIn K (.ref CO) "__init__" = some (some (.ref f25))) (i25 : PySem.W.isFn K (.ref f25) = true) (l25 : K.lookup f25 = some ⟨oc25, od25, .func (PySem.W.fnOf "__init__" "Primes.__init__" (defArgs s_Primes_init) (defBody s_Primes_init) (defScope s_Primes_init) .none kV25 dc25 pm25 an25 cd25 ct25), sl25⟩) (c25 : PySem.W.codeIn K cd25 "Primes.__init__" = true) (k25 : PySem.W.keepIn K (.ref f25) = true) : MkAt K mg "Primes" CO "Primes.__init__" s_Primes_init ["self", "modulus", "rests", "singles"] := by
  have F := fun_mk (st := s_Primes_init) l25 c25 k25
  have b := F.binds (ps := ["self", "modulus", "rests", "singles"]) fun _ _ _ _ _ _ us hl => match us, hl with | [_, _, _, _], _ => rfl
  exact ⟨⟨_, _, F, ⟨hc.omk, a25, i25, hc.okc⟩, b⟩, PySem.W.mg_of X G og⟩
theorem at_units_counts {K : PySem.W.Frag} {h : Heap} {mg : Str → Option Value} (X : K.In h) (G : h.Ns mainGlobals mg) {f26 : Addr} {od26 an26 : Option Addr} {sl26 : Array (Option Value)} {oc26 kV26 dc26 pm26 cd26 ct26 : Value} (a26 : PySem.W.nsIn K mainGlobals "units_counts" = some (some (.ref f26))) (l26 : K.lookup f26 = some ⟨oc26, od26, .func (PySem.W.fnOf "units" "units" (defArgs s_units_counts) (defBody s_units_counts) (defScope s_units_counts) .none kV26 dc26 pm26 an26 cd26 ct26), sl26⟩) (c26 : PySem.W.codeIn K cd26 "units" = true) (k26 : PySem.W.keepIn K (.ref f26) = true) : DefAtA K mg "units_counts" "units" s_units_counts ["modulus"] := by
  have F := fun_mk (st := s_units_counts) l26 c26 k26
  have b := F.binds (ps := ["modulus"]) fun _ _ _ _ _ _ us hl => match us, hl with | [_], _ => rfl
  exact ⟨_, _, F, PySem.W.mg_of X G a26, b⟩
theorem at_by_sign {K : PySem.W.Frag} {h : Heap} {mg : Str → Option Value} (X : K.In h) (G : h.Ns mainGlobals mg) {f27 : Addr} {od27 an27 : Option Addr} {sl27 : Array (Option Value)} {oc27 kV27 dc27 pm27 cd27 ct27 : Value} (a27 : PySem.W.nsIn K mainGlobals "by_sign" = some (some (.ref f27))) (l27 : K.lookup f27 = some ⟨oc27, od27, .func (PySem.W.fnOf "by_sign" "by_sign" (defArgs s_by_sign) (defBody s_by_sign) (defScope s_by_sign) .none kV27 dc27 pm27 an27 cd27 ct27), sl27⟩) (c27 : PySem.W.codeIn K cd27 "by_sign" = true) (k27 : PySem.W.keepIn K (.ref f27) = true) : DefAt K mg "by_sign" s_by_sign ["n", "s"] := by
  have F := fun_mk (st := s_by_sign) l27 c27 k27
  have b := F.binds (ps := ["n", "s"]) fun _ _ _ _ _ _ us hl => match us, hl with | [_, _], _ => rfl
  exact ⟨_, _, F, PySem.W.mg_of X G a27, b⟩
theorem at_joined_answer {K : PySem.W.Frag} {h : Heap} {mg : Str → Option Value} (X : K.In h) (G : h.Ns mainGlobals mg) {f28 : Addr} {od28 an28 : Option Addr} {sl28 : Array (Option Value)} {oc28 kV28 dc28 pm28 cd28 ct28 : Value} (a28 : PySem.W.nsIn K mainGlobals "joined_answer" = some (some (.ref f28))) (l28 : K.lookup f28 = some ⟨oc28, od28, .func (PySem.W.fnOf "joined_answer" "joined_answer" (defArgs s_joined_answer) (defBody s_joined_answer) (defScope s_joined_answer) .none kV28 dc28 pm28 an28 cd28 ct28), sl28⟩) (c28 : PySem.W.codeIn K cd28 "joined_answer" = true) (k28 : PySem.W.keepIn K (.ref f28) = true) : DefAt K mg "joined_answer" s_joined_answer ["rule", "first", "second"] := by
  have F := fun_mk (st := s_joined_answer) l28 c28 k28
  have b := F.binds (ps := ["rule", "first", "second"]) fun _ _ _ _ _ _ us hl => match us, hl with | [_, _, _], _ => rfl
  exact ⟨_, _, F, PySem.W.mg_of X G a28, b⟩
theorem at_Primes_contains {K : PySem.W.Frag} {CO : Addr} {f29 : Addr} {od29 an29 : Option Addr} {sl29 : Array (Option Value)} {oc29 kV29 dc29 pm29 cd29 ct29 : Value} (a29 : PySem.W.findIn K (.ref CO) "__contains__" = some (some (.ref f29))) (i29 : PySem.W.isFn K (.ref f29) = true) (l29 : K.lookup f29 = some ⟨oc29, od29, .func (PySem.W.fnOf "__contains__" "Primes.__contains__" (defArgs s_Primes_contains) (defBody s_Primes_contains) (defScope s_Primes_contains) .none kV29 dc29 pm29 an29 cd29 ct29), sl29⟩) (c29 : PySem.W.codeIn K cd29 "Primes.__contains__" = true) (k29 : PySem.W.keepIn K (.ref f29) = true) : MethAt K CO "__contains__" "Primes.__contains__" s_Primes_contains ["self", "p"] := by
  have F := fun_mk (st := s_Primes_contains) l29 c29 k29
  have b := F.binds (ps := ["self", "p"]) fun _ _ _ _ _ _ us hl => match us, hl with | [_, _], _ => rfl
  exact ⟨_, _, F, ⟨a29, i29, k29⟩, b⟩
theorem at_odd_divisors {K : PySem.W.Frag} {h : Heap} {mg : Str → Option Value} (X : K.In h) (G : h.Ns mainGlobals mg) {f30 : Addr} {od30 an30 : Option Addr} {sl30 : Array (Option Value)} {oc30 kV30 dc30 pm30 cd30 ct30 : Value} (a30 : PySem.W.nsIn K mainGlobals "odd_divisors" = some (some (.ref f30))) (l30 : K.lookup f30 = some ⟨oc30, od30, .func (PySem.W.fnOf "odd_divisors" "odd_divisors" (defArgs s_odd_divisors) (defBody s_odd_divisors) (defScope s_odd_divisors) .none kV30 dc30 pm30 an30 cd30 ct30), sl30⟩) (c30 : PySem.W.codeIn K cd30 "odd_divisors" = true) (k30 : PySem.W.keepIn K (.ref f30) = true) : DefAt K mg "odd_divisors" s_odd_divisors ["modulus"] := by
  have F := fun_mk (st := s_odd_divisors) l30 c30 k30
  have b := F.binds (ps := ["modulus"]) fun _ _ _ _ _ _ us hl => match us, hl with | [_], _ => rfl
  exact ⟨_, _, F, PySem.W.mg_of X G a30, b⟩
theorem at_units {K : PySem.W.Frag} {h : Heap} {mg : Str → Option Value} (X : K.In h) (G : h.Ns mainGlobals mg) {f31 : Addr} {od31 an31 : Option Addr} {sl31 : Array (Option Value)} {oc31 kV31 dc31 pm31 cd31 ct31 : Value} (a31 : PySem.W.nsIn K mainGlobals "units" = some (some (.ref f31))) (l31 : K.lookup f31 = some ⟨oc31, od31, .func (PySem.W.fnOf "units" "units" (defArgs s_units) (defBody s_units) (defScope s_units) .none kV31 dc31 pm31 an31 cd31 ct31), sl31⟩) (c31 : PySem.W.codeIn K cd31 "units" = true) (k31 : PySem.W.keepIn K (.ref f31) = true) : DefAt K mg "units" s_units ["modulus"] := by
  have F := fun_mk (st := s_units) l31 c31 k31
  have b := F.binds (ps := ["modulus"]) fun _ _ _ _ _ _ us hl => match us, hl with | [_], _ => rfl
  exact ⟨_, _, F, PySem.W.mg_of X G a31, b⟩
theorem at_combined {K : PySem.W.Frag} {h : Heap} {mg : Str → Option Value} (X : K.In h) (G : h.Ns mainGlobals mg) {f32 : Addr} {od32 an32 : Option Addr} {sl32 : Array (Option Value)} {oc32 kV32 dc32 pm32 cd32 ct32 : Value} (a32 : PySem.W.nsIn K mainGlobals "combined" = some (some (.ref f32))) (l32 : K.lookup f32 = some ⟨oc32, od32, .func (PySem.W.fnOf "combined" "combined" (defArgs s_combined) (defBody s_combined) (defScope s_combined) .none kV32 dc32 pm32 an32 cd32 ct32), sl32⟩) (c32 : PySem.W.codeIn K cd32 "combined" = true) (k32 : PySem.W.keepIn K (.ref f32) = true) : DefAt K mg "combined" s_combined ["first", "second", "rule"] := by
  have F := fun_mk (st := s_combined) l32 c32 k32
  have b := F.binds (ps := ["first", "second", "rule"]) fun _ _ _ _ _ _ us hl => match us, hl with | [_, _, _], _ => rfl
  exact ⟨_, _, F, PySem.W.mg_of X G a32, b⟩
theorem at_Primes_and {K : PySem.W.Frag} {CO : Addr} {f33 : Addr} {od33 an33 : Option Addr} {sl33 : Array (Option Value)} {oc33 kV33 dc33 pm33 cd33 ct33 : Value} (a33 : PySem.W.findIn K (.ref CO) "__and__" = some (some (.ref f33))) (i33 : PySem.W.isFn K (.ref f33) = true) (l33 : K.lookup f33 = some ⟨oc33, od33, .func (PySem.W.fnOf "__and__" "Primes.__and__" (defArgs s_Primes_and) (defBody s_Primes_and) (defScope s_Primes_and) .none kV33 dc33 pm33 an33 cd33 ct33), sl33⟩) (c33 : PySem.W.codeIn K cd33 "Primes.__and__" = true) (k33 : PySem.W.keepIn K (.ref f33) = true) : MethAt K CO "__and__" "Primes.__and__" s_Primes_and ["self", "other"] := by
  have F := fun_mk (st := s_Primes_and) l33 c33 k33
  have b := F.binds (ps := ["self", "other"]) fun _ _ _ _ _ _ us hl => match us, hl with | [_, _], _ => rfl
  exact ⟨_, _, F, ⟨a33, i33, k33⟩, b⟩
theorem at_pattern {K : PySem.W.Frag} {h : Heap} {mg : Str → Option Value} (X : K.In h) (G : h.Ns mainGlobals mg) {f34 : Addr} {od34 an34 : Option Addr} {sl34 : Array (Option Value)} {oc34 kV34 dc34 pm34 cd34 ct34 : Value} (a34 : PySem.W.nsIn K mainGlobals "pattern" = some (some (.ref f34))) (l34 : K.lookup f34 = some ⟨oc34, od34, .func (PySem.W.fnOf "pattern" "pattern" (defArgs s_pattern) (defBody s_pattern) (defScope s_pattern) .none kV34 dc34 pm34 an34 cd34 ct34), sl34⟩) (c34 : PySem.W.codeIn K cd34 "pattern" = true) (k34 : PySem.W.keepIn K (.ref f34) = true) : DefAt K mg "pattern" s_pattern ["numbers", "signs"] := by
  have F := fun_mk (st := s_pattern) l34 c34 k34
  have b := F.binds (ps := ["numbers", "signs"]) fun _ _ _ _ _ _ us hl => match us, hl with | [_, _], _ => rfl
  exact ⟨_, _, F, PySem.W.mg_of X G a34, b⟩
theorem at_law_set {K : PySem.W.Frag} {h : Heap} {mg : Str → Option Value} (X : K.In h) (G : h.Ns mainGlobals mg) {f35 : Addr} {od35 an35 : Option Addr} {sl35 : Array (Option Value)} {oc35 kV35 dc35 pm35 cd35 ct35 : Value} (a35 : PySem.W.nsIn K mainGlobals "_law_set" = some (some (.ref f35))) (l35 : K.lookup f35 = some ⟨oc35, od35, .func (PySem.W.fnOf "_law_set" "_law_set" (defArgs s_law_set) (defBody s_law_set) (defScope s_law_set) .none kV35 dc35 pm35 an35 cd35 ct35), sl35⟩) (c35 : PySem.W.codeIn K cd35 "_law_set" = true) (k35 : PySem.W.keepIn K (.ref f35) = true) : DefAt K mg "_law_set" s_law_set ["_law_numbers", "_law_signs"] := by
  have F := fun_mk (st := s_law_set) l35 c35 k35
  have b := F.binds (ps := ["_law_numbers", "_law_signs"]) fun _ _ _ _ _ _ us hl => match us, hl with | [_, _], _ => rfl
  exact ⟨_, _, F, PySem.W.mg_of X G a35, b⟩
theorem at_Primes_finite {K : PySem.W.Frag} {CO : Addr} {f36 : Addr} {od36 an36 : Option Addr} {sl36 : Array (Option Value)} {oc36 kV36 dc36 pm36 cd36 ct36 : Value} (a36 : PySem.W.findIn K (.ref CO) "finite" = some (some (.ref f36))) (i36 : PySem.W.isFn K (.ref f36) = true) (l36 : K.lookup f36 = some ⟨oc36, od36, .func (PySem.W.fnOf "finite" "Primes.finite" (defArgs s_Primes_finite) (defBody s_Primes_finite) (defScope s_Primes_finite) .none kV36 dc36 pm36 an36 cd36 ct36), sl36⟩) (c36 : PySem.W.codeIn K cd36 "Primes.finite" = true) (k36 : PySem.W.keepIn K (.ref f36) = true) : MethAt K CO "finite" "Primes.finite" s_Primes_finite ["self"] := by
  have F := fun_mk (st := s_Primes_finite) l36 c36 k36
  have b := F.binds (ps := ["self"]) fun _ _ _ _ _ _ us hl => match us, hl with | [_], _ => rfl
  exact ⟨_, _, F, ⟨a36, i36, k36⟩, b⟩
theorem at_Primes_none {K : PySem.W.Frag} {CO : Addr} {f37 p37 : Addr} {rs37 : List Value} {od37 an37 : Option Addr} {sl37 : Array (Option Value)} {oc37 kV37 dc37 pm37 cd37 ct37 : Value} (cr37 : PySem.W.readsIn K CO (.type "type") = true) (cg37 : PySem.W.specialIn K (.ref CO) "__getattribute__" = some (some (.builtin "type.__getattribute__"))) (cm37 : PySem.W.findCls K (.ref CO) (.type "type") "none" = some (.get (.builtin "classmethod.__get__") (.ref p37) .none (.ref CO))) (cc37 : PySem.W.recIn K p37 "classmethod" = some (.ref f37 :: rs37)) (cf37 : PySem.W.fnIn K f37 = true) (l37 : K.lookup f37 = some ⟨oc37, od37, .func (PySem.W.fnOf "none" "Primes.none" (defArgs s_Primes_none) (defBody s_Primes_none) (defScope s_Primes_none) .none kV37 dc37 pm37 an37 cd37 ct37), sl37⟩) (c37 : PySem.W.codeIn K cd37 "Primes.none" = true) (k37 : PySem.W.keepIn K (.ref f37) = true) : CMAt K CO "none" "Primes.none" s_Primes_none := by
  have F := fun_mk (st := s_Primes_none) l37 c37 k37
  exact ⟨_, _, _, _, ⟨cr37, cg37⟩, ⟨cm37, ⟨_, cc37⟩, cf37⟩, F⟩
theorem at_Primes_eq {K : PySem.W.Frag} {CO : Addr} {f38 : Addr} {od38 an38 : Option Addr} {sl38 : Array (Option Value)} {oc38 kV38 dc38 pm38 cd38 ct38 : Value} (a38 : PySem.W.findIn K (.ref CO) "__eq__" = some (some (.ref f38))) (i38 : PySem.W.isFn K (.ref f38) = true) (l38 : K.lookup f38 = some ⟨oc38, od38, .func (PySem.W.fnOf "__eq__" "Primes.__eq__" (defArgs s_Primes_eq) (defBody s_Primes_eq) (defScope s_Primes_eq) .none kV38 dc38 pm38 an38 cd38 ct38), sl38⟩) (c38 : PySem.W.codeIn K cd38 "Primes.__eq__" = true) (k38 : PySem.W.keepIn K (.ref f38) = true) : MethAt K CO "__eq__" "Primes.__eq__" s_Primes_eq ["self", "other"] := by
  have F := fun_mk (st := s_Primes_eq) l38 c38 k38
  have b := F.binds (ps := ["self", "other"]) fun _ _ _ _ _ _ us hl => match us, hl with | [_, _], _ => rfl
  exact ⟨_, _, F, ⟨a38, i38, k38⟩, b⟩
theorem at_law_sign {K : PySem.W.Frag} {h : Heap} {mg : Str → Option Value} (X : K.In h) (G : h.Ns mainGlobals mg) {f39 : Addr} {od39 an39 : Option Addr} {sl39 : Array (Option Value)} {oc39 kV39 dc39 pm39 cd39 ct39 : Value} (a39 : PySem.W.nsIn K mainGlobals "_law_sign" = some (some (.ref f39))) (l39 : K.lookup f39 = some ⟨oc39, od39, .func (PySem.W.fnOf "_law_sign" "_law_sign" (defArgs s_law_sign) (defBody s_law_sign) (defScope s_law_sign) .none kV39 dc39 pm39 an39 cd39 ct39), sl39⟩) (c39 : PySem.W.codeIn K cd39 "_law_sign" = true) (k39 : PySem.W.keepIn K (.ref f39) = true) : DefAt K mg "_law_sign" s_law_sign ["_law_n", "_law_p"] := by
  have F := fun_mk (st := s_law_sign) l39 c39 k39
  have b := F.binds (ps := ["_law_n", "_law_p"]) fun _ _ _ _ _ _ us hl => match us, hl with | [_, _], _ => rfl
  exact ⟨_, _, F, PySem.W.mg_of X G a39, b⟩
theorem at_law_is_prime {K : PySem.W.Frag} {h : Heap} {mg : Str → Option Value} (X : K.In h) (G : h.Ns mainGlobals mg) {f40 : Addr} {od40 an40 : Option Addr} {sl40 : Array (Option Value)} {oc40 kV40 dc40 pm40 cd40 ct40 : Value} (a40 : PySem.W.nsIn K mainGlobals "_law_is_prime" = some (some (.ref f40))) (l40 : K.lookup f40 = some ⟨oc40, od40, .func (PySem.W.fnOf "_law_is_prime" "_law_is_prime" (defArgs s_law_is_prime) (defBody s_law_is_prime) (defScope s_law_is_prime) .none kV40 dc40 pm40 an40 cd40 ct40), sl40⟩) (c40 : PySem.W.codeIn K cd40 "_law_is_prime" = true) (k40 : PySem.W.keepIn K (.ref f40) = true) : DefAt K mg "_law_is_prime" s_law_is_prime ["_law_n"] := by
  have F := fun_mk (st := s_law_is_prime) l40 c40 k40
  have b := F.binds (ps := ["_law_n"]) fun _ _ _ _ _ _ us hl => match us, hl with | [_], _ => rfl
  exact ⟨_, _, F, PySem.W.mg_of X G a40, b⟩
theorem at_law_cell {K : PySem.W.Frag} {h : Heap} {mg : Str → Option Value} (X : K.In h) (G : h.Ns mainGlobals mg) {f41 : Addr} {od41 an41 : Option Addr} {sl41 : Array (Option Value)} {oc41 kV41 dc41 pm41 cd41 ct41 : Value} (a41 : PySem.W.nsIn K mainGlobals "_law_cell" = some (some (.ref f41))) (l41 : K.lookup f41 = some ⟨oc41, od41, .func (PySem.W.fnOf "_law_cell" "_law_cell" (defArgs s_law_cell) (defBody s_law_cell) (defScope s_law_cell) .none kV41 dc41 pm41 an41 cd41 ct41), sl41⟩) (c41 : PySem.W.codeIn K cd41 "_law_cell" = true) (k41 : PySem.W.keepIn K (.ref f41) = true) : DefAt K mg "_law_cell" s_law_cell ["_law_script", "_law_k"] := by
  have F := fun_mk (st := s_law_cell) l41 c41 k41
  have b := F.binds (ps := ["_law_script", "_law_k"]) fun _ _ _ _ _ _ us hl => match us, hl with | [_, _], _ => rfl
  exact ⟨_, _, F, PySem.W.mg_of X G a41, b⟩
theorem at_law_draws {K : PySem.W.Frag} {h : Heap} {mg : Str → Option Value} (X : K.In h) (G : h.Ns mainGlobals mg) {f42 : Addr} {od42 an42 : Option Addr} {sl42 : Array (Option Value)} {oc42 kV42 dc42 pm42 cd42 ct42 : Value} (a42 : PySem.W.nsIn K mainGlobals "_law_draws" = some (some (.ref f42))) (l42 : K.lookup f42 = some ⟨oc42, od42, .func (PySem.W.fnOf "_law_draws" "_law_draws" (defArgs s_law_draws) (defBody s_law_draws) (defScope s_law_draws) .none kV42 dc42 pm42 an42 cd42 ct42), sl42⟩) (c42 : PySem.W.codeIn K cd42 "_law_draws" = true) (k42 : PySem.W.keepIn K (.ref f42) = true) : DefAt K mg "_law_draws" s_law_draws ["_law_cell_here", "_law_sizes"] := by
  have F := fun_mk (st := s_law_draws) l42 c42 k42
  have b := F.binds (ps := ["_law_cell_here", "_law_sizes"]) fun _ _ _ _ _ _ us hl => match us, hl with | [_, _], _ => rfl
  exact ⟨_, _, F, PySem.W.mg_of X G a42, b⟩
theorem er_BadModulus {K : PySem.W.Frag} {h : Heap} {mg : Str → Option Value} (X : K.In h) (G : h.Ns mainGlobals mg) {C0 g0 N0 : Addr} {nm0 qq0 : Str} {bs0 bm0 : List Value} {sn0 : List Str} {sub0 : List Value} {ab0 : Bool} {col0 : Option Bool} {dd0 : Option Addr} {m00 m10 m20 m30 m50 : Option Value} {odE0 anE0 : Option Addr} {slE0 : Array (Option Value)} {ocE0 kVE0 dcE0 pmE0 cdE0 ctE0 : Value} (eg0 : PySem.W.nsIn K mainGlobals "BadModulus" = some (some (.ref C0))) (ex0 : K.lookup C0 = some (excClassObj nm0 qq0 C0 N0 bs0 bm0 true sn0 sub0 ab0 col0 dd0 m00 m10 m20 m30 m50 "ValueError.__new__")) (eb0 : PySem.HandSPX.refsVE bm0 = true) (es0 : PySem.W.findIn K (.ref C0) "__setattr__" = some (some (.builtin "object.__setattr__"))) (ee0 : PySem.W.subIn K (.ref C0) (.type "BaseException") = some true) (et0 : PySem.W.typeIn K (.ref C0) = some (.type "type")) (ek0 : PySem.W.keepIn K (.ref C0) = true) (ega0 : PySem.W.findIn K (.ref C0) "__getattribute__" = some (some (.builtin "BaseException.__getattribute__"))) (egg0 : PySem.W.findIn K (.ref C0) "__getattr__" = some none) (eh0 : PySem.W.hasDictIn K C0 = true) (ei0 : PySem.W.isClsIn K C0 = true) (eu0 : PySem.W.subIn K (.ref C0) (.ref C0) = some true) (ef0 : PySem.W.findIn K (.ref C0) "__init__" = some (some (.ref g0))) (ey0 : PySem.W.typeIn K (.ref g0) = some (.type "function")) (el0 : K.lookup g0 = some ⟨ocE0, odE0, .func (PySem.W.fnOf "__init__" "BadModulus.__init__" (defArgs s_BadModulus_init) (defBody s_BadModulus_init) (defScope s_BadModulus_init) .none kVE0 dcE0 pmE0 anE0 cdE0 ctE0), slE0⟩) (ec0 : PySem.W.codeIn K cdE0 "BadModulus.__init__" = true) (ej0 : PySem.W.keepIn K (.ref g0) = true) : ErrRaw K mg "BadModulus" C0 s_BadModulus_init "BadModulus.__init__" ["self", "modulus"] := by
  have F := fun_mk (st := s_BadModulus_init) el0 ec0 ej0
  have b := F.binds (ps := ["self", "modulus"]) fun _ _ _ _ _ _ us hl => match us, hl with | [_, _], _ => rfl
  exact ⟨PySem.W.mg_of X G eg0, ⟨⟨_, _, _, _, _, _, _, _, _, _, _, _, _, _, _, ex0, eb0⟩, es0, ee0, et0, ek0⟩, ⟨ega0, egg0, ee0, eh0⟩, exm_self ee0 ei0 et0 eu0, ⟨_, _, ef0, ey0, F, b⟩⟩
theorem er_BadPrime {K : PySem.W.Frag} {h : Heap} {mg : Str → Option Value} (X : K.In h) (G : h.Ns mainGlobals mg) {C1 g1 N1 : Addr} {nm1 qq1 : Str} {bs1 bm1 : List Value} {sn1 : List Str} {sub1 : List Value} {ab1 : Bool} {col1 : Option Bool} {dd1 : Option Addr} {m01 m11 m21 m31 m51 : Option Value} {odE1 anE1 : Option Addr} {slE1 : Array (Option Value)} {ocE1 kVE1 dcE1 pmE1 cdE1 ctE1 : Value} (eg1 : PySem.W.nsIn K mainGlobals "BadPrime" = some (some (.ref C1))) (ex1 : K.lookup C1 = some (excClassObj nm1 qq1 C1 N1 bs1 bm1 true sn1 sub1 ab1 col1 dd1 m01 m11 m21 m31 m51 "ValueError.__new__")) (eb1 : PySem.HandSPX.refsVE bm1 = true) (es1 : PySem.W.findIn K (.ref C1) "__setattr__" = some (some (.builtin "object.__setattr__"))) (ee1 : PySem.W.subIn K (.ref C1) (.type "BaseException") = some true) (et1 : PySem.W.typeIn K (.ref C1) = some (.type "type")) (ek1 : PySem.W.keepIn K (.ref C1) = true) (ega1 : PySem.W.findIn K (.ref C1) "__getattribute__" = some (some (.builtin "BaseException.__getattribute__"))) (egg1 : PySem.W.findIn K (.ref C1) "__getattr__" = some none) (eh1 : PySem.W.hasDictIn K C1 = true) (ei1 : PySem.W.isClsIn K C1 = true) (eu1 : PySem.W.subIn K (.ref C1) (.ref C1) = some true) (ef1 : PySem.W.findIn K (.ref C1) "__init__" = some (some (.ref g1))) (ey1 : PySem.W.typeIn K (.ref g1) = some (.type "function")) (el1 : K.lookup g1 = some ⟨ocE1, odE1, .func (PySem.W.fnOf "__init__" "BadPrime.__init__" (defArgs s_BadPrime_init) (defBody s_BadPrime_init) (defScope s_BadPrime_init) .none kVE1 dcE1 pmE1 anE1 cdE1 ctE1), slE1⟩) (ec1 : PySem.W.codeIn K cdE1 "BadPrime.__init__" = true) (ej1 : PySem.W.keepIn K (.ref g1) = true) : ErrRaw K mg "BadPrime" C1 s_BadPrime_init "BadPrime.__init__" ["self", "p"] := by
  have F := fun_mk (st := s_BadPrime_init) el1 ec1 ej1
  have b := F.binds (ps := ["self", "p"]) fun _ _ _ _ _ _ us hl => match us, hl with | [_, _], _ => rfl
  exact ⟨PySem.W.mg_of X G eg1, ⟨⟨_, _, _, _, _, _, _, _, _, _, _, _, _, _, _, ex1, eb1⟩, es1, ee1, et1, ek1⟩, ⟨ega1, egg1, ee1, eh1⟩, exm_self ee1 ei1 et1 eu1, ⟨_, _, ef1, ey1, F, b⟩⟩
theorem er_BadRest {K : PySem.W.Frag} {h : Heap} {mg : Str → Option Value} (X : K.In h) (G : h.Ns mainGlobals mg) {C2 g2 N2 : Addr} {nm2 qq2 : Str} {bs2 bm2 : List Value} {sn2 : List Str} {sub2 : List Value} {ab2 : Bool} {col2 : Option Bool} {dd2 : Option Addr} {m02 m12 m22 m32 m52 : Option Value} {odE2 anE2 : Option Addr} {slE2 : Array (Option Value)} {ocE2 kVE2 dcE2 pmE2 cdE2 ctE2 : Value} (eg2 : PySem.W.nsIn K mainGlobals "BadRest" = some (some (.ref C2))) (ex2 : K.lookup C2 = some (excClassObj nm2 qq2 C2 N2 bs2 bm2 true sn2 sub2 ab2 col2 dd2 m02 m12 m22 m32 m52 "ValueError.__new__")) (eb2 : PySem.HandSPX.refsVE bm2 = true) (es2 : PySem.W.findIn K (.ref C2) "__setattr__" = some (some (.builtin "object.__setattr__"))) (ee2 : PySem.W.subIn K (.ref C2) (.type "BaseException") = some true) (et2 : PySem.W.typeIn K (.ref C2) = some (.type "type")) (ek2 : PySem.W.keepIn K (.ref C2) = true) (ega2 : PySem.W.findIn K (.ref C2) "__getattribute__" = some (some (.builtin "BaseException.__getattribute__"))) (egg2 : PySem.W.findIn K (.ref C2) "__getattr__" = some none) (eh2 : PySem.W.hasDictIn K C2 = true) (ei2 : PySem.W.isClsIn K C2 = true) (eu2 : PySem.W.subIn K (.ref C2) (.ref C2) = some true) (ef2 : PySem.W.findIn K (.ref C2) "__init__" = some (some (.ref g2))) (ey2 : PySem.W.typeIn K (.ref g2) = some (.type "function")) (el2 : K.lookup g2 = some ⟨ocE2, odE2, .func (PySem.W.fnOf "__init__" "BadRest.__init__" (defArgs s_BadRest_init) (defBody s_BadRest_init) (defScope s_BadRest_init) .none kVE2 dcE2 pmE2 anE2 cdE2 ctE2), slE2⟩) (ec2 : PySem.W.codeIn K cdE2 "BadRest.__init__" = true) (ej2 : PySem.W.keepIn K (.ref g2) = true) : ErrRaw K mg "BadRest" C2 s_BadRest_init "BadRest.__init__" ["self", "rest"] := by
  have F := fun_mk (st := s_BadRest_init) el2 ec2 ej2
  have b := F.binds (ps := ["self", "rest"]) fun _ _ _ _ _ _ us hl => match us, hl with | [_, _], _ => rfl
  exact ⟨PySem.W.mg_of X G eg2, ⟨⟨_, _, _, _, _, _, _, _, _, _, _, _, _, _, _, ex2, eb2⟩, es2, ee2, et2, ek2⟩, ⟨ega2, egg2, ee2, eh2⟩, exm_self ee2 ei2 et2 eu2, ⟨_, _, ef2, ey2, F, b⟩⟩
theorem er_TooWide {K : PySem.W.Frag} {h : Heap} {mg : Str → Option Value} (X : K.In h) (G : h.Ns mainGlobals mg) {C3 g3 N3 : Addr} {nm3 qq3 : Str} {bs3 bm3 : List Value} {sn3 : List Str} {sub3 : List Value} {ab3 : Bool} {col3 : Option Bool} {dd3 : Option Addr} {m03 m13 m23 m33 m53 : Option Value} {odE3 anE3 : Option Addr} {slE3 : Array (Option Value)} {ocE3 kVE3 dcE3 pmE3 cdE3 ctE3 : Value} (eg3 : PySem.W.nsIn K mainGlobals "TooWide" = some (some (.ref C3))) (ex3 : K.lookup C3 = some (excClassObj nm3 qq3 C3 N3 bs3 bm3 true sn3 sub3 ab3 col3 dd3 m03 m13 m23 m33 m53 "ValueError.__new__")) (eb3 : PySem.HandSPX.refsVE bm3 = true) (es3 : PySem.W.findIn K (.ref C3) "__setattr__" = some (some (.builtin "object.__setattr__"))) (ee3 : PySem.W.subIn K (.ref C3) (.type "BaseException") = some true) (et3 : PySem.W.typeIn K (.ref C3) = some (.type "type")) (ek3 : PySem.W.keepIn K (.ref C3) = true) (ega3 : PySem.W.findIn K (.ref C3) "__getattribute__" = some (some (.builtin "BaseException.__getattribute__"))) (egg3 : PySem.W.findIn K (.ref C3) "__getattr__" = some none) (eh3 : PySem.W.hasDictIn K C3 = true) (ei3 : PySem.W.isClsIn K C3 = true) (eu3 : PySem.W.subIn K (.ref C3) (.ref C3) = some true) (ef3 : PySem.W.findIn K (.ref C3) "__init__" = some (some (.ref g3))) (ey3 : PySem.W.typeIn K (.ref g3) = some (.type "function")) (el3 : K.lookup g3 = some ⟨ocE3, odE3, .func (PySem.W.fnOf "__init__" "TooWide.__init__" (defArgs s_TooWide_init) (defBody s_TooWide_init) (defScope s_TooWide_init) .none kVE3 dcE3 pmE3 anE3 cdE3 ctE3), slE3⟩) (ec3 : PySem.W.codeIn K cdE3 "TooWide.__init__" = true) (ej3 : PySem.W.keepIn K (.ref g3) = true) : ErrRaw K mg "TooWide" C3 s_TooWide_init "TooWide.__init__" ["self", "modulus"] := by
  have F := fun_mk (st := s_TooWide_init) el3 ec3 ej3
  have b := F.binds (ps := ["self", "modulus"]) fun _ _ _ _ _ _ us hl => match us, hl with | [_, _], _ => rfl
  exact ⟨PySem.W.mg_of X G eg3, ⟨⟨_, _, _, _, _, _, _, _, _, _, _, _, _, _, _, ex3, eb3⟩, es3, ee3, et3, ek3⟩, ⟨ega3, egg3, ee3, eh3⟩, exm_self ee3 ei3 et3 eu3, ⟨_, _, ef3, ey3, F, b⟩⟩
theorem txt_mk {K : PySem.W.Frag} {h : Heap} {mg : Str → Option Value} (X : K.In h) (G : h.Ns mainGlobals mg) {C0 C1 C2 C3 CO_Primes : Addr} {CB : Addr} {tk_MOST_MODULUS : Tok}
    (z_abs : PySem.W.nsIn K mainGlobals "abs" = some none)
    (z_bool : PySem.W.nsIn K mainGlobals "bool" = some none)
    (z_int : PySem.W.nsIn K mainGlobals "int" = some none)
    (z_isinstance : PySem.W.nsIn K mainGlobals "isinstance" = some none)
    (z_len : PySem.W.nsIn K mainGlobals "len" = some none)
    (z_list : PySem.W.nsIn K mainGlobals "list" = some none)
    (z_range : PySem.W.nsIn K mainGlobals "range" = some none)
    (z_set : PySem.W.nsIn K mainGlobals "set" = some none)
    (z_sorted : PySem.W.nsIn K mainGlobals "sorted" = some none)
    (z_tuple : PySem.W.nsIn K mainGlobals "tuple" = some none)
    (z_zip : PySem.W.nsIn K mainGlobals "zip" = some none)
    (q_MOST_MODULUS : PySem.W.nsIn K mainGlobals "MOST_MODULUS" = some (some (.int 4000 tk_MOST_MODULUS)))
    (og_Primes : PySem.W.nsIn K mainGlobals "Primes" = some (some (.ref CO_Primes)))
    (hc_Primes : ClsH K CO_Primes)
    (osf_Primes : PySem.W.selfFirst K CO_Primes = true)
    (onf_Primes_modulus : PySem.W.findIn K (.ref CO_Primes) "modulus" = some none)
    (onf_Primes_rests : PySem.W.findIn K (.ref CO_Primes) "rests" = some none)
    (onf_Primes_singles : PySem.W.findIn K (.ref CO_Primes) "singles" = some none)
    (d_choices_of : DefAt K mg "choices_of" s_choices_of ["many", "length"])
    (d_product_of : DefAt K mg "product_of" s_product_of ["factors_of_it"])
    (d_factors : DefAt K mg "factors" s_factors ["n"])
    (d_core : DefAt K mg "core" s_core ["n"])
    (d_shows : DefAt K mg "shows" s_shows ["numbers", "signs", "places"])
    (d_barred : DefAt K mg "barred" s_barred ["numbers", "signs"])
    (d_law_lists : DefAt K mg "_law_lists" s_law_lists ["_law_many"])
    (d_law_square : DefAt K mg "_law_square" s_law_square ["_law_n"])
    (d_law_shows : DefAt K mg "_law_shows" s_law_shows ["_law_numbers", "_law_signs", "_law_places"])
    (d_conductor : DefAt K mg "conductor" s_conductor ["n"])
    (d_checked_modulus_signs : DefAtA K mg "checked_modulus_signs" "checked_modulus" s_checked_modulus_signs ["m"])
    (d_factor_of : DefAt K mg "factor_of" s_factor_of ["rule", "n", "m"])
    (d_sign : DefAt K mg "sign" s_sign ["n", "m"])
    (d_sign_by_rest : DefAt K mg "sign_by_rest" s_sign_by_rest ["n", "rest", "modulus"])
    (d_odd_primes_of : DefAt K mg "odd_primes_of" s_odd_primes_of ["n"])
    (d_checked_modulus : DefAt K mg "checked_modulus" s_checked_modulus ["modulus"])
    (d_is_prime : DefAt K mg "is_prime" s_is_prime ["n"])
    (d_checked_singles : DefAt K mg "checked_singles" s_checked_singles ["singles"])
    (d_common : DefAt K mg "common" s_common ["a", "b"])
    (d_units_values : DefAtA K mg "units_values" "units" s_units_values ["modulus"])
    (d_shortened : DefAt K mg "shortened" s_shortened ["modulus", "rests", "prime"])
    (d_toggled : DefAt K mg "toggled" s_toggled ["singles", "p"])
    (d_told_by : DefAt K mg "told_by" s_told_by ["modulus", "rests", "p"])
    (d_least_description : DefAt K mg "least_description" s_least_description ["modulus", "rests", "singles"])
    (d_checked_modulus_values : DefAtA K mg "checked_modulus_values" "checked_modulus" s_checked_modulus_values ["modulus"])
    (d_Primes_init : MkAt K mg "Primes" CO_Primes "Primes.__init__" s_Primes_init ["self", "modulus", "rests", "singles"])
    (d_units_counts : DefAtA K mg "units_counts" "units" s_units_counts ["modulus"])
    (d_by_sign : DefAt K mg "by_sign" s_by_sign ["n", "s"])
    (d_joined_answer : DefAt K mg "joined_answer" s_joined_answer ["rule", "first", "second"])
    (d_Primes_contains : MethAt K CO_Primes "__contains__" "Primes.__contains__" s_Primes_contains ["self", "p"])
    (d_odd_divisors : DefAt K mg "odd_divisors" s_odd_divisors ["modulus"])
    (d_units : DefAt K mg "units" s_units ["modulus"])
    (d_combined : DefAt K mg "combined" s_combined ["first", "second", "rule"])
    (d_Primes_and : MethAt K CO_Primes "__and__" "Primes.__and__" s_Primes_and ["self", "other"])
    (d_pattern : DefAt K mg "pattern" s_pattern ["numbers", "signs"])
    (d_law_set : DefAt K mg "_law_set" s_law_set ["_law_numbers", "_law_signs"])
    (d_Primes_finite : MethAt K CO_Primes "finite" "Primes.finite" s_Primes_finite ["self"])
    (d_Primes_none : CMAt K CO_Primes "none" "Primes.none" s_Primes_none)
    (d_Primes_eq : MethAt K CO_Primes "__eq__" "Primes.__eq__" s_Primes_eq ["self", "other"])
    (d_law_sign : DefAt K mg "_law_sign" s_law_sign ["_law_n", "_law_p"])
    (d_law_is_prime : DefAt K mg "_law_is_prime" s_law_is_prime ["_law_n"])
    (d_law_cell : DefAt K mg "_law_cell" s_law_cell ["_law_script", "_law_k"])
    (d_law_draws : DefAt K mg "_law_draws" s_law_draws ["_law_cell_here", "_law_sizes"])
    (gB : PySem.W.nsIn K mainGlobals "ClockError" = some (some (.ref CB)))
    (rB : PySem.W.readsIn K CB (.type "type") = true)
    (aB : PySem.W.specialIn K (.ref CB) "__getattribute__" = some (some (.builtin "type.__getattribute__")))
    (iB : PySem.W.findCls K (.ref CB) (.type "type") "__init__" = some (.val (.builtin "ValueError.__init__")))
    (r_BadModulus : ErrRaw K mg "BadModulus" C0 s_BadModulus_init "BadModulus.__init__" ["self", "modulus"])
    (en0_modulus : PySem.W.findIn K (.ref C0) "modulus" = some none)
    (r_BadPrime : ErrRaw K mg "BadPrime" C1 s_BadPrime_init "BadPrime.__init__" ["self", "p"])
    (en1_p : PySem.W.findIn K (.ref C1) "p" = some none)
    (r_BadRest : ErrRaw K mg "BadRest" C2 s_BadRest_init "BadRest.__init__" ["self", "rest"])
    (en2_rest : PySem.W.findIn K (.ref C2) "rest" = some none)
    (r_TooWide : ErrRaw K mg "TooWide" C3 s_TooWide_init "TooWide.__init__" ["self", "modulus"])
    (en3_modulus : PySem.W.findIn K (.ref C3) "modulus" = some none) :
    Txt K mg ⟨C0, C1, C2, C3, CO_Primes, CB, tk_MOST_MODULUS⟩ := {
    b_abs := PySem.W.mg_none_of X G z_abs
    b_bool := PySem.W.mg_none_of X G z_bool
    b_int := PySem.W.mg_none_of X G z_int
    b_isinstance := PySem.W.mg_none_of X G z_isinstance
    b_len := PySem.W.mg_none_of X G z_len
    b_list := PySem.W.mg_none_of X G z_list
    b_range := PySem.W.mg_none_of X G z_range
    b_set := PySem.W.mg_none_of X G z_set
    b_sorted := PySem.W.mg_none_of X G z_sorted
    b_tuple := PySem.W.mg_none_of X G z_tuple
    b_zip := PySem.W.mg_none_of X G z_zip
    k_MOST_MODULUS := PySem.W.mg_of X G q_MOST_MODULUS
    g_Primes := PySem.W.mg_of X G og_Primes
    cl_Primes := ⟨hc_Primes.opg, hc_Primes.ohd, hc_Primes.opo, hc_Primes.osa⟩
    ty_Primes := fun H a dx fs h => .base (.ins h ⟨hc_Primes.opg, hc_Primes.ohd, hc_Primes.opo, hc_Primes.osa⟩ hc_Primes.oha hc_Primes.ohn hc_Primes.otk hc_Primes.omr)
    ki_Primes := kit_self
    kl_Primes := kit_list hc_Primes.oci hc_Primes.oct
    nl_Primes := notFirst_list
    sf_Primes := osf_Primes
    nf_Primes_modulus := onf_Primes_modulus
    nf_Primes_rests := onf_Primes_rests
    nf_Primes_singles := onf_Primes_singles
    d_choices_of := d_choices_of
    d_product_of := d_product_of
    d_factors := d_factors
    d_core := d_core
    d_shows := d_shows
    d_barred := d_barred
    d_law_lists := d_law_lists
    d_law_square := d_law_square
    d_law_shows := d_law_shows
    d_conductor := d_conductor
    d_checked_modulus_signs := d_checked_modulus_signs
    d_factor_of := d_factor_of
    d_sign := d_sign
    d_sign_by_rest := d_sign_by_rest
    d_odd_primes_of := d_odd_primes_of
    d_checked_modulus := d_checked_modulus
    d_is_prime := d_is_prime
    d_checked_singles := d_checked_singles
    d_common := d_common
    d_units_values := d_units_values
    d_shortened := d_shortened
    d_toggled := d_toggled
    d_told_by := d_told_by
    d_least_description := d_least_description
    d_checked_modulus_values := d_checked_modulus_values
    d_Primes_init := d_Primes_init
    d_units_counts := d_units_counts
    d_by_sign := d_by_sign
    d_joined_answer := d_joined_answer
    d_Primes_contains := d_Primes_contains
    d_odd_divisors := d_odd_divisors
    d_units := d_units
    d_combined := d_combined
    d_Primes_and := d_Primes_and
    d_pattern := d_pattern
    d_law_set := d_law_set
    d_Primes_finite := d_Primes_finite
    d_Primes_none := d_Primes_none
    d_Primes_eq := d_Primes_eq
    d_law_sign := d_law_sign
    d_law_is_prime := d_law_is_prime
    d_law_cell := d_law_cell
    d_law_draws := d_law_draws
    base := ⟨PySem.W.mg_of X G gB, rB, aB, iB⟩
    r_BadModulus := r_BadModulus
    no_BadModulus_modulus := en0_modulus
    r_BadPrime := r_BadPrime
    no_BadPrime_p := en1_p
    r_BadRest := r_BadRest
    no_BadRest_rest := en2_rest
    r_TooWide := r_TooWide
    no_TooWide_modulus := en3_modulus
    triv := trivial
  }
theorem code_is {K : PySem.W.Frag} {h : Heap} {mg : Str → Option Value} (X : K.In h) (G : h.Ns mainGlobals mg) {f6 : Addr} {od6 an6 : Option Addr} {sl6 : Array (Option Value)} {oc6 kV6 dc6 pm6 ct6 : Value} {cT : Addr} (tA : PySem.W.nsIn K mainGlobals "_law_lists" = some (some (.ref f6))) (tL : K.lookup f6 = some ⟨oc6, od6, .func (PySem.W.fnOf "_law_lists" "_law_lists" (defArgs s_law_lists) (defBody s_law_lists) (defScope s_law_lists) .none kV6 dc6 pm6 an6 (.ref cT) ct6), sl6⟩) : CodeIs K mg "_law_lists" cT := fun f fd oc od osl e1 e2 => by
  have z1 := e1.symm.trans (PySem.W.mg_of X G tA)
  cases z1
  have z2 := e2.symm.trans tL
  cases z2
  rfl
theorem law_at {l : PySem.W.OpenLaw} {w : World} {K : PySem.W.Frag} {h : Heap} {mg : Str → Option Value} {fa : Addr} (X : K.In h) (G : h.Ns mainGlobals mg) (hfa : mg "law" = some (.ref fa)) {Ad : Adr} (T : Txt K mg Ad) {f43 : Addr} {od43 an43 : Option Addr} {sl43 : Array (Option Value)} {oc43 kV43 dc43 pm43 cd43 ct43 : Value} (a43 : PySem.W.nsIn K mainGlobals "law" = some (some (.ref f43))) (l43 : K.lookup f43 = some ⟨oc43, od43, .func (PySem.W.fnOf "law" "law" (defArgs s_law) (defBody s_law) (defScope s_law) .none kV43 dc43 pm43 an43 cd43 ct43), sl43⟩) (c43 : PySem.W.codeIn K cd43 "law" = true) (k43 : PySem.W.keepIn K (.ref f43) = true)
    {f6 : Addr} {od6 an6 : Option Addr} {sl6 : Array (Option Value)} {oc6 kV6 dc6 pm6 ct6 : Value} {cT Tb : Addr} {dT : Option Addr} {slT : Array (Option Value)} {vT : Array Value} {fileT : Str} {flT txT : Int} {inT : Bool} {tfT tgT ttT : Tok}
    (tA : PySem.W.nsIn K mainGlobals "_law_lists" = some (some (.ref f6)))
    (tL : K.lookup f6 = some ⟨oc6, od6, .func (PySem.W.fnOf "_law_lists" "_law_lists" (defArgs s_law_lists) (defBody s_law_lists) (defScope s_law_lists) .none kV6 dc6 pm6 an6 (.ref cT) ct6), sl6⟩)
    (xl : K.lookup cT = some ⟨.type "code", dT, .fields vT, slT⟩)
    (x11 : vT[11]? = some (.ref Tb))
    (y11 : vT.getD 11 .none = .ref Tb)
    (x18 : vT.getD 18 .none = .str fileT tfT)
    (x7 : vT.getD 7 .none = .int flT tgT)
    (x9 : vT.getD 9 .none = .bool inT)
    (x10 : vT.getD 10 .none = .int txT ttT)
    (xne : cT ≠ Tb)
    (nT : K.lookup Tb = none)
    (hT : h.get? Tb = some { cls := .none, data := .fields #[] }) :
    LamX.LawAtS l w K (L2.CX l.prog w) 12 63 "_law_script" mg fa h := by
  have e := hfa.symm.trans (PySem.W.mg_of X G a43)
  cases e
  have F := fun_mk (st := s_law) l43 c43 k43
  refine ⟨_, [(cT, Tb)], fun vs H Q _ => ∃ (a : Addr) (ns : List Int), vs = [.ref a] ∧ SqL K H a (ns.map V.int) ∧ ns.length ≤ 63 ∧ H Tb = some (.tbl #[]) ∧ ∀ H', Q (.bl true) H', fun p hp => ?_, fun p hp => ?_, fun p hp => ?_, fun s v => .of_eq rfl, fun H a ns hl _ hH hS => ⟨a, ns, rfl, hS, hl, hH (cT, Tb) (List.mem_singleton.mpr rfl), fun _ => rfl⟩, fun base _ _ tb => fn_lawT (ok_law (base := base) F T ⟨cT, code_is X G tA tL, tb (cT, Tb) (List.mem_singleton.mpr rfl)⟩)⟩
  · rw [List.mem_singleton.mp hp]
    exact hT
  · rw [List.mem_singleton.mp hp]
    exact nT
  · rw [List.mem_singleton.mp hp]
    exact ⟨_, vT, fileT, tfT, flT, tgT, inT, txT, ttT, X _ _ xl, rfl, rfl, x11, y11, x18, x7, x9, x10, xne⟩
theorem walkT {l : PySem.W.OpenLaw} {q : Program} {loose : List Str} {XP : (Str → Option Value) → Heap → Prop} {YP : World → Heap → Prop} {d : DefRec} (hn : l.most = some 63) (hdf : d.params.defaults = [])
    (F : ∀ (w : World) (mg : Str → Option Value) (fa : Addr) (h : Heap), YP w h → h.Ns mainGlobals mg → mg d.name = some (.ref fa) → ∃ K : PySem.W.Frag, K.In h ∧ LamX.LawAtS l w K (L2.CX l.prog w) 12 63 "_law_script" mg fa h) :
    PySem.W.WalkO q loose XP YP l.row.toRowW d [] (fun f vs => PySem.call f vs) :=
  LamX.walk_ofTsE (n := 63) (k := 12) (x := "_law_script") (CX := fun w => L2.CX l.prog w) hn (by decide) hdf ⟨rfl, by decide, by decide⟩ F fun _ _ _ _ _ h => by
    obtain ⟨_, _, _, _, _, _, _, _, _, _, _, _, z⟩ := h
    exact z.elim
end My
open PySem PySem.W PyProof.Rows
set_option maxRecDepth 100000 in
set_option maxHeartbeats 0 in
theorem PySem.Challenge.cw_everyprime_k78_whole_barred_patterns_holds : PySem.Challenge.rw_everyprime_k78_whole_barred_patterns.Holds := by
  refine My.hd_top ?_
  k_fill
  refine My.walkT (l := PySem.Challenge.rw_everyprime_k78_whole_barred_patterns) rfl rfl ?F
  case F =>
    intro w mg fa h Y G hmg
    have KX := PySem.W.km_in_of Y
    refine ⟨_, KX, ?_⟩
    refine' My.law_at KX G hmg (My.txt_mk KX G ?z_abs ?z_bool ?z_int ?z_isinstance ?z_len ?z_list ?z_range ?z_set ?z_sorted ?z_tuple ?z_zip ?q_MOST_MODULUS ?og_Primes ?hc_Primes ?osf_Primes ?onf_Primes_modulus ?onf_Primes_rests ?onf_Primes_singles ?d_choices_of ?d_product_of ?d_factors ?d_core ?d_shows ?d_barred ?d_law_lists ?d_law_square ?d_law_shows ?d_conductor ?d_checked_modulus_signs ?d_factor_of ?d_sign ?d_sign_by_rest ?d_odd_primes_of ?d_checked_modulus ?d_is_prime ?d_checked_singles ?d_common ?d_units_values ?d_shortened ?d_toggled ?d_told_by ?d_least_description ?d_checked_modulus_values ?d_Primes_init ?d_units_counts ?d_by_sign ?d_joined_answer ?d_Primes_contains ?d_odd_divisors ?d_units ?d_combined ?d_Primes_and ?d_pattern ?d_law_set ?d_Primes_finite ?d_Primes_none ?d_Primes_eq ?d_law_sign ?d_law_is_prime ?d_law_cell ?d_law_draws ?gB ?rB ?aB ?iB ?r_BadModulus ?en0_modulus ?r_BadPrime ?en1_p ?r_BadRest ?en2_rest ?r_TooWide ?en3_modulus) ?a43 ?l43 ?c43 ?k43 ?tA ?tL ?xl ?x11 ?y11 ?x18 ?x7 ?x9 ?x10 ?xne ?nT ?hT
    (case z_abs => as_aux_lemma => k_is)
    (case z_bool => as_aux_lemma => k_is)
    (case z_int => as_aux_lemma => k_is)
    (case z_isinstance => as_aux_lemma => k_is)
    (case z_len => as_aux_lemma => k_is)
    (case z_list => as_aux_lemma => k_is)
    (case z_range => as_aux_lemma => k_is)
    (case z_set => as_aux_lemma => k_is)
    (case z_sorted => as_aux_lemma => k_is)
    (case z_tuple => as_aux_lemma => k_is)
    (case z_zip => as_aux_lemma => k_is)
    (case q_MOST_MODULUS => as_aux_lemma => k_is)
    (case og_Primes => as_aux_lemma => k_is)
    (case hc_Primes => (refine' My.ClsH.mk ?y1_opg_Primes ?y1_ohd_Primes ?y1_opo_Primes ?y1_osa_Primes ?y1_omk_Primes ?y1_okc_Primes ?y1_oha_Primes ?y1_ohn_Primes ?y1_otk_Primes ?y1_omr_Primes ?y1_oci_Primes ?y1_oct_Primes; (case y1_opg_Primes => as_aux_lemma => k_is); (case y1_ohd_Primes => as_aux_lemma => k_is); (case y1_opo_Primes => as_aux_lemma => k_is); (case y1_osa_Primes => as_aux_lemma => k_is); (case y1_omk_Primes => as_aux_lemma => k_is); (case y1_okc_Primes => as_aux_lemma => k_is); (case y1_oha_Primes => as_aux_lemma => k_is); (case y1_ohn_Primes => as_aux_lemma => k_is); (case y1_otk_Primes => as_aux_lemma => k_is); (case y1_omr_Primes => as_aux_lemma => k_is); (case y1_oci_Primes => as_aux_lemma => k_is); (case y1_oct_Primes => as_aux_lemma => k_is)))
    (case osf_Primes => as_aux_lemma => k_is)
    (case onf_Primes_modulus => as_aux_lemma => k_is)
    (case onf_Primes_rests => as_aux_lemma => k_is)
    (case onf_Primes_singles => as_aux_lemma => k_is)
    (case d_choices_of => (refine' My.at_choices_of KX G ?y2_a0 ?y2_l0 ?y2_c0 ?y2_k0; (case y2_a0 => as_aux_lemma => k_is); (case y2_l0 => as_aux_lemma => k_is); (case y2_c0 => as_aux_lemma => k_is); (case y2_k0 => as_aux_lemma => k_is)))
    (case d_product_of => (refine' My.at_product_of KX G ?y3_a1 ?y3_l1 ?y3_c1 ?y3_k1; (case y3_a1 => as_aux_lemma => k_is); (case y3_l1 => as_aux_lemma => k_is); (case y3_c1 => as_aux_lemma => k_is); (case y3_k1 => as_aux_lemma => k_is)))
    (case d_factors => (refine' My.at_factors KX G ?y4_a2 ?y4_l2 ?y4_c2 ?y4_k2; (case y4_a2 => as_aux_lemma => k_is); (case y4_l2 => as_aux_lemma => k_is); (case y4_c2 => as_aux_lemma => k_is); (case y4_k2 => as_aux_lemma => k_is)))
    (case d_core => (refine' My.at_core KX G ?y5_a3 ?y5_l3 ?y5_c3 ?y5_k3; (case y5_a3 => as_aux_lemma => k_is); (case y5_l3 => as_aux_lemma => k_is); (case y5_c3 => as_aux_lemma => k_is); (case y5_k3 => as_aux_lemma => k_is)))
    (case d_shows => (refine' My.at_shows KX G ?y6_a4 ?y6_l4 ?y6_c4 ?y6_k4; (case y6_a4 => as_aux_lemma => k_is); (case y6_l4 => as_aux_lemma => k_is); (case y6_c4 => as_aux_lemma => k_is); (case y6_k4 => as_aux_lemma => k_is)))
    (case d_barred => (refine' My.at_barred KX G ?y7_a5 ?y7_l5 ?y7_c5 ?y7_k5; (case y7_a5 => as_aux_lemma => k_is); (case y7_l5 => as_aux_lemma => k_is); (case y7_c5 => as_aux_lemma => k_is); (case y7_k5 => as_aux_lemma => k_is)))
    (case d_law_lists => (refine' My.at_law_lists KX G ?y8_a6 ?y8_l6 ?y8_c6 ?y8_k6; (case y8_a6 => as_aux_lemma => k_is); (case y8_l6 => as_aux_lemma => k_is); (case y8_c6 => as_aux_lemma => k_is); (case y8_k6 => as_aux_lemma => k_is)))
    (case d_law_square => (refine' My.at_law_square KX G ?y9_a7 ?y9_l7 ?y9_c7 ?y9_k7; (case y9_a7 => as_aux_lemma => k_is); (case y9_l7 => as_aux_lemma => k_is); (case y9_c7 => as_aux_lemma => k_is); (case y9_k7 => as_aux_lemma => k_is)))
    (case d_law_shows => (refine' My.at_law_shows KX G ?y10_a8 ?y10_l8 ?y10_c8 ?y10_k8; (case y10_a8 => as_aux_lemma => k_is); (case y10_l8 => as_aux_lemma => k_is); (case y10_c8 => as_aux_lemma => k_is); (case y10_k8 => as_aux_lemma => k_is)))
    (case d_conductor => (refine' My.at_conductor KX G ?y11_a9 ?y11_l9 ?y11_c9 ?y11_k9; (case y11_a9 => as_aux_lemma => k_is); (case y11_l9 => as_aux_lemma => k_is); (case y11_c9 => as_aux_lemma => k_is); (case y11_k9 => as_aux_lemma => k_is)))
    (case d_checked_modulus_signs => (refine' My.at_checked_modulus_signs KX G ?y12_a10 ?y12_l10 ?y12_c10 ?y12_k10; (case y12_a10 => as_aux_lemma => k_is); (case y12_l10 => as_aux_lemma => k_is); (case y12_c10 => as_aux_lemma => k_is); (case y12_k10 => as_aux_lemma => k_is)))
    (case d_factor_of => (refine' My.at_factor_of KX G ?y13_a11 ?y13_l11 ?y13_c11 ?y13_k11; (case y13_a11 => as_aux_lemma => k_is); (case y13_l11 => as_aux_lemma => k_is); (case y13_c11 => as_aux_lemma => k_is); (case y13_k11 => as_aux_lemma => k_is)))
    (case d_sign => (refine' My.at_sign KX G ?y14_a12 ?y14_l12 ?y14_c12 ?y14_k12; (case y14_a12 => as_aux_lemma => k_is); (case y14_l12 => as_aux_lemma => k_is); (case y14_c12 => as_aux_lemma => k_is); (case y14_k12 => as_aux_lemma => k_is)))
    (case d_sign_by_rest => (refine' My.at_sign_by_rest KX G ?y15_a13 ?y15_l13 ?y15_c13 ?y15_k13; (case y15_a13 => as_aux_lemma => k_is); (case y15_l13 => as_aux_lemma => k_is); (case y15_c13 => as_aux_lemma => k_is); (case y15_k13 => as_aux_lemma => k_is)))
    (case d_odd_primes_of => (refine' My.at_odd_primes_of KX G ?y16_a14 ?y16_l14 ?y16_c14 ?y16_k14; (case y16_a14 => as_aux_lemma => k_is); (case y16_l14 => as_aux_lemma => k_is); (case y16_c14 => as_aux_lemma => k_is); (case y16_k14 => as_aux_lemma => k_is)))
    (case d_checked_modulus => (refine' My.at_checked_modulus KX G ?y17_a15 ?y17_l15 ?y17_c15 ?y17_k15; (case y17_a15 => as_aux_lemma => k_is); (case y17_l15 => as_aux_lemma => k_is); (case y17_c15 => as_aux_lemma => k_is); (case y17_k15 => as_aux_lemma => k_is)))
    (case d_is_prime => (refine' My.at_is_prime KX G ?y18_a16 ?y18_l16 ?y18_c16 ?y18_k16; (case y18_a16 => as_aux_lemma => k_is); (case y18_l16 => as_aux_lemma => k_is); (case y18_c16 => as_aux_lemma => k_is); (case y18_k16 => as_aux_lemma => k_is)))
    (case d_checked_singles => (refine' My.at_checked_singles KX G ?y19_a17 ?y19_l17 ?y19_c17 ?y19_k17; (case y19_a17 => as_aux_lemma => k_is); (case y19_l17 => as_aux_lemma => k_is); (case y19_c17 => as_aux_lemma => k_is); (case y19_k17 => as_aux_lemma => k_is)))
    (case d_common => (refine' My.at_common KX G ?y20_a18 ?y20_l18 ?y20_c18 ?y20_k18; (case y20_a18 => as_aux_lemma => k_is); (case y20_l18 => as_aux_lemma => k_is); (case y20_c18 => as_aux_lemma => k_is); (case y20_k18 => as_aux_lemma => k_is)))
    (case d_units_values => (refine' My.at_units_values KX G ?y21_a19 ?y21_l19 ?y21_c19 ?y21_k19; (case y21_a19 => as_aux_lemma => k_is); (case y21_l19 => as_aux_lemma => k_is); (case y21_c19 => as_aux_lemma => k_is); (case y21_k19 => as_aux_lemma => k_is)))
    (case d_shortened => (refine' My.at_shortened KX G ?y22_a20 ?y22_l20 ?y22_c20 ?y22_k20; (case y22_a20 => as_aux_lemma => k_is); (case y22_l20 => as_aux_lemma => k_is); (case y22_c20 => as_aux_lemma => k_is); (case y22_k20 => as_aux_lemma => k_is)))
    (case d_toggled => (refine' My.at_toggled KX G ?y23_a21 ?y23_l21 ?y23_c21 ?y23_k21; (case y23_a21 => as_aux_lemma => k_is); (case y23_l21 => as_aux_lemma => k_is); (case y23_c21 => as_aux_lemma => k_is); (case y23_k21 => as_aux_lemma => k_is)))
    (case d_told_by => (refine' My.at_told_by KX G ?y24_a22 ?y24_l22 ?y24_c22 ?y24_k22; (case y24_a22 => as_aux_lemma => k_is); (case y24_l22 => as_aux_lemma => k_is); (case y24_c22 => as_aux_lemma => k_is); (case y24_k22 => as_aux_lemma => k_is)))
    (case d_least_description => (refine' My.at_least_description KX G ?y25_a23 ?y25_l23 ?y25_c23 ?y25_k23; (case y25_a23 => as_aux_lemma => k_is); (case y25_l23 => as_aux_lemma => k_is); (case y25_c23 => as_aux_lemma => k_is); (case y25_k23 => as_aux_lemma => k_is)))
    (case d_checked_modulus_values => (refine' My.at_checked_modulus_values KX G ?y26_a24 ?y26_l24 ?y26_c24 ?y26_k24; (case y26_a24 => as_aux_lemma => k_is); (case y26_l24 => as_aux_lemma => k_is); (case y26_c24 => as_aux_lemma => k_is); (case y26_k24 => as_aux_lemma => k_is)))
    (case d_Primes_init => (refine' My.at_Primes_init KX G ?y27_og_Primes ?y27_hc_Primes ?y27_a25 ?y27_i25 ?y27_l25 ?y27_c25 ?y27_k25; (case y27_og_Primes => as_aux_lemma => k_is); (case y27_hc_Primes => (refine' My.ClsH.mk ?y27_opg ?y27_ohd ?y27_opo ?y27_osa ?y27_omk ?y27_okc ?y27_oha ?y27_ohn ?y27_otk ?y27_omr ?y27_oci ?y27_oct; (case y27_opg => as_aux_lemma => k_is); (case y27_ohd => as_aux_lemma => k_is); (case y27_opo => as_aux_lemma => k_is); (case y27_osa => as_aux_lemma => k_is); (case y27_omk => as_aux_lemma => k_is); (case y27_okc => as_aux_lemma => k_is); (case y27_oha => as_aux_lemma => k_is); (case y27_ohn => as_aux_lemma => k_is); (case y27_otk => as_aux_lemma => k_is); (case y27_omr => as_aux_lemma => k_is); (case y27_oci => as_aux_lemma => k_is); (case y27_oct => as_aux_lemma => k_is))); (case y27_a25 => as_aux_lemma => k_is); (case y27_i25 => as_aux_lemma => k_is); (case y27_l25 => as_aux_lemma => k_is); (case y27_c25 => as_aux_lemma => k_is); (case y27_k25 => as_aux_lemma => k_is)))
    (case d_units_counts => (refine' My.at_units_counts KX G ?y28_a26 ?y28_l26 ?y28_c26 ?y28_k26; (case y28_a26 => as_aux_lemma => k_is); (case y28_l26 => as_aux_lemma => k_is); (case y28_c26 => as_aux_lemma => k_is); (case y28_k26 => as_aux_lemma => k_is)))
    (case d_by_sign => (refine' My.at_by_sign KX G ?y29_a27 ?y29_l27 ?y29_c27 ?y29_k27; (case y29_a27 => as_aux_lemma => k_is); (case y29_l27 => as_aux_lemma => k_is); (case y29_c27 => as_aux_lemma => k_is); (case y29_k27 => as_aux_lemma => k_is)))
    (case d_joined_answer => (refine' My.at_joined_answer KX G ?y30_a28 ?y30_l28 ?y30_c28 ?y30_k28; (case y30_a28 => as_aux_lemma => k_is); (case y30_l28 => as_aux_lemma => k_is); (case y30_c28 => as_aux_lemma => k_is); (case y30_k28 => as_aux_lemma => k_is)))
    (case d_Primes_contains => (refine' My.at_Primes_contains ?y31_a29 ?y31_i29 ?y31_l29 ?y31_c29 ?y31_k29; (case y31_a29 => as_aux_lemma => k_is); (case y31_i29 => as_aux_lemma => k_is); (case y31_l29 => as_aux_lemma => k_is); (case y31_c29 => as_aux_lemma => k_is); (case y31_k29 => as_aux_lemma => k_is)))
    (case d_odd_divisors => (refine' My.at_odd_divisors KX G ?y32_a30 ?y32_l30 ?y32_c30 ?y32_k30; (case y32_a30 => as_aux_lemma => k_is); (case y32_l30 => as_aux_lemma => k_is); (case y32_c30 => as_aux_lemma => k_is); (case y32_k30 => as_aux_lemma => k_is)))
    (case d_units => (refine' My.at_units KX G ?y33_a31 ?y33_l31 ?y33_c31 ?y33_k31; (case y33_a31 => as_aux_lemma => k_is); (case y33_l31 => as_aux_lemma => k_is); (case y33_c31 => as_aux_lemma => k_is); (case y33_k31 => as_aux_lemma => k_is)))
    (case d_combined => (refine' My.at_combined KX G ?y34_a32 ?y34_l32 ?y34_c32 ?y34_k32; (case y34_a32 => as_aux_lemma => k_is); (case y34_l32 => as_aux_lemma => k_is); (case y34_c32 => as_aux_lemma => k_is); (case y34_k32 => as_aux_lemma => k_is)))
    (case d_Primes_and => (refine' My.at_Primes_and ?y35_a33 ?y35_i33 ?y35_l33 ?y35_c33 ?y35_k33; (case y35_a33 => as_aux_lemma => k_is); (case y35_i33 => as_aux_lemma => k_is); (case y35_l33 => as_aux_lemma => k_is); (case y35_c33 => as_aux_lemma => k_is); (case y35_k33 => as_aux_lemma => k_is)))
    (case d_pattern => (refine' My.at_pattern KX G ?y36_a34 ?y36_l34 ?y36_c34 ?y36_k34; (case y36_a34 => as_aux_lemma => k_is); (case y36_l34 => as_aux_lemma => k_is); (case y36_c34 => as_aux_lemma => k_is); (case y36_k34 => as_aux_lemma => k_is)))
    (case d_law_set => (refine' My.at_law_set KX G ?y37_a35 ?y37_l35 ?y37_c35 ?y37_k35; (case y37_a35 => as_aux_lemma => k_is); (case y37_l35 => as_aux_lemma => k_is); (case y37_c35 => as_aux_lemma => k_is); (case y37_k35 => as_aux_lemma => k_is)))
    (case d_Primes_finite => (refine' My.at_Primes_finite ?y38_a36 ?y38_i36 ?y38_l36 ?y38_c36 ?y38_k36; (case y38_a36 => as_aux_lemma => k_is); (case y38_i36 => as_aux_lemma => k_is); (case y38_l36 => as_aux_lemma => k_is); (case y38_c36 => as_aux_lemma => k_is); (case y38_k36 => as_aux_lemma => k_is)))
    (case d_Primes_none => (refine' My.at_Primes_none ?y39_cr37 ?y39_cg37 ?y39_cm37 ?y39_cc37 ?y39_cf37 ?y39_l37 ?y39_c37 ?y39_k37; (case y39_cr37 => as_aux_lemma => k_is); (case y39_cg37 => as_aux_lemma => k_is); (case y39_cm37 => as_aux_lemma => k_is); (case y39_cc37 => as_aux_lemma => k_is); (case y39_cf37 => as_aux_lemma => k_is); (case y39_l37 => as_aux_lemma => k_is); (case y39_c37 => as_aux_lemma => k_is); (case y39_k37 => as_aux_lemma => k_is)))
    (case d_Primes_eq => (refine' My.at_Primes_eq ?y40_a38 ?y40_i38 ?y40_l38 ?y40_c38 ?y40_k38; (case y40_a38 => as_aux_lemma => k_is); (case y40_i38 => as_aux_lemma => k_is); (case y40_l38 => as_aux_lemma => k_is); (case y40_c38 => as_aux_lemma => k_is); (case y40_k38 => as_aux_lemma => k_is)))
    (case d_law_sign => (refine' My.at_law_sign KX G ?y41_a39 ?y41_l39 ?y41_c39 ?y41_k39; (case y41_a39 => as_aux_lemma => k_is); (case y41_l39 => as_aux_lemma => k_is); (case y41_c39 => as_aux_lemma => k_is); (case y41_k39 => as_aux_lemma => k_is)))
    (case d_law_is_prime => (refine' My.at_law_is_prime KX G ?y42_a40 ?y42_l40 ?y42_c40 ?y42_k40; (case y42_a40 => as_aux_lemma => k_is); (case y42_l40 => as_aux_lemma => k_is); (case y42_c40 => as_aux_lemma => k_is); (case y42_k40 => as_aux_lemma => k_is)))
    (case d_law_cell => (refine' My.at_law_cell KX G ?y43_a41 ?y43_l41 ?y43_c41 ?y43_k41; (case y43_a41 => as_aux_lemma => k_is); (case y43_l41 => as_aux_lemma => k_is); (case y43_c41 => as_aux_lemma => k_is); (case y43_k41 => as_aux_lemma => k_is)))
    (case d_law_draws => (refine' My.at_law_draws KX G ?y44_a42 ?y44_l42 ?y44_c42 ?y44_k42; (case y44_a42 => as_aux_lemma => k_is); (case y44_l42 => as_aux_lemma => k_is); (case y44_c42 => as_aux_lemma => k_is); (case y44_k42 => as_aux_lemma => k_is)))
    (case gB => as_aux_lemma => k_is)
    (case rB => as_aux_lemma => k_is)
    (case aB => as_aux_lemma => k_is)
    (case iB => as_aux_lemma => k_is)
    (case r_BadModulus => (refine' My.er_BadModulus KX G ?y45_eg0 ?y45_ex0 ?y45_eb0 ?y45_es0 ?y45_ee0 ?y45_et0 ?y45_ek0 ?y45_ega0 ?y45_egg0 ?y45_eh0 ?y45_ei0 ?y45_eu0 ?y45_ef0 ?y45_ey0 ?y45_el0 ?y45_ec0 ?y45_ej0; (case y45_eg0 => as_aux_lemma => k_is); (case y45_ex0 => as_aux_lemma => k_is); (case y45_eb0 => as_aux_lemma => decide +kernel); (case y45_es0 => as_aux_lemma => k_is); (case y45_ee0 => as_aux_lemma => k_is); (case y45_et0 => as_aux_lemma => k_is); (case y45_ek0 => as_aux_lemma => k_is); (case y45_ega0 => as_aux_lemma => k_is); (case y45_egg0 => as_aux_lemma => k_is); (case y45_eh0 => as_aux_lemma => k_is); (case y45_ei0 => as_aux_lemma => k_is); (case y45_eu0 => as_aux_lemma => first | rfl | k_is); (case y45_ef0 => as_aux_lemma => k_is); (case y45_ey0 => as_aux_lemma => k_is); (case y45_el0 => as_aux_lemma => k_is); (case y45_ec0 => as_aux_lemma => k_is); (case y45_ej0 => as_aux_lemma => k_is)))
    (case en0_modulus => as_aux_lemma => k_is)
    (case r_BadPrime => (refine' My.er_BadPrime KX G ?y46_eg1 ?y46_ex1 ?y46_eb1 ?y46_es1 ?y46_ee1 ?y46_et1 ?y46_ek1 ?y46_ega1 ?y46_egg1 ?y46_eh1 ?y46_ei1 ?y46_eu1 ?y46_ef1 ?y46_ey1 ?y46_el1 ?y46_ec1 ?y46_ej1; (case y46_eg1 => as_aux_lemma => k_is); (case y46_ex1 => as_aux_lemma => k_is); (case y46_eb1 => as_aux_lemma => decide +kernel); (case y46_es1 => as_aux_lemma => k_is); (case y46_ee1 => as_aux_lemma => k_is); (case y46_et1 => as_aux_lemma => k_is); (case y46_ek1 => as_aux_lemma => k_is); (case y46_ega1 => as_aux_lemma => k_is); (case y46_egg1 => as_aux_lemma => k_is); (case y46_eh1 => as_aux_lemma => k_is); (case y46_ei1 => as_aux_lemma => k_is); (case y46_eu1 => as_aux_lemma => first | rfl | k_is); (case y46_ef1 => as_aux_lemma => k_is); (case y46_ey1 => as_aux_lemma => k_is); (case y46_el1 => as_aux_lemma => k_is); (case y46_ec1 => as_aux_lemma => k_is); (case y46_ej1 => as_aux_lemma => k_is)))
    (case en1_p => as_aux_lemma => k_is)
    (case r_BadRest => (refine' My.er_BadRest KX G ?y47_eg2 ?y47_ex2 ?y47_eb2 ?y47_es2 ?y47_ee2 ?y47_et2 ?y47_ek2 ?y47_ega2 ?y47_egg2 ?y47_eh2 ?y47_ei2 ?y47_eu2 ?y47_ef2 ?y47_ey2 ?y47_el2 ?y47_ec2 ?y47_ej2; (case y47_eg2 => as_aux_lemma => k_is); (case y47_ex2 => as_aux_lemma => k_is); (case y47_eb2 => as_aux_lemma => decide +kernel); (case y47_es2 => as_aux_lemma => k_is); (case y47_ee2 => as_aux_lemma => k_is); (case y47_et2 => as_aux_lemma => k_is); (case y47_ek2 => as_aux_lemma => k_is); (case y47_ega2 => as_aux_lemma => k_is); (case y47_egg2 => as_aux_lemma => k_is); (case y47_eh2 => as_aux_lemma => k_is); (case y47_ei2 => as_aux_lemma => k_is); (case y47_eu2 => as_aux_lemma => first | rfl | k_is); (case y47_ef2 => as_aux_lemma => k_is); (case y47_ey2 => as_aux_lemma => k_is); (case y47_el2 => as_aux_lemma => k_is); (case y47_ec2 => as_aux_lemma => k_is); (case y47_ej2 => as_aux_lemma => k_is)))
    (case en2_rest => as_aux_lemma => k_is)
    (case r_TooWide => (refine' My.er_TooWide KX G ?y48_eg3 ?y48_ex3 ?y48_eb3 ?y48_es3 ?y48_ee3 ?y48_et3 ?y48_ek3 ?y48_ega3 ?y48_egg3 ?y48_eh3 ?y48_ei3 ?y48_eu3 ?y48_ef3 ?y48_ey3 ?y48_el3 ?y48_ec3 ?y48_ej3; (case y48_eg3 => as_aux_lemma => k_is); (case y48_ex3 => as_aux_lemma => k_is); (case y48_eb3 => as_aux_lemma => decide +kernel); (case y48_es3 => as_aux_lemma => k_is); (case y48_ee3 => as_aux_lemma => k_is); (case y48_et3 => as_aux_lemma => k_is); (case y48_ek3 => as_aux_lemma => k_is); (case y48_ega3 => as_aux_lemma => k_is); (case y48_egg3 => as_aux_lemma => k_is); (case y48_eh3 => as_aux_lemma => k_is); (case y48_ei3 => as_aux_lemma => k_is); (case y48_eu3 => as_aux_lemma => first | rfl | k_is); (case y48_ef3 => as_aux_lemma => k_is); (case y48_ey3 => as_aux_lemma => k_is); (case y48_el3 => as_aux_lemma => k_is); (case y48_ec3 => as_aux_lemma => k_is); (case y48_ej3 => as_aux_lemma => k_is)))
    (case en3_modulus => as_aux_lemma => k_is)
    (case a43 => as_aux_lemma => k_is)
    (case l43 => as_aux_lemma => k_is)
    (case c43 => as_aux_lemma => k_is)
    (case k43 => as_aux_lemma => k_is)
    (case tA => as_aux_lemma => k_is)
    (case tL => as_aux_lemma => k_is)
    (case xl => as_aux_lemma => k_is)
    (case x11 => rfl)
    (case y11 => rfl)
    (case x18 => rfl)
    (case x7 => rfl)
    (case x9 => rfl)
    (case x10 => rfl)
    (case xne => decide)
    (case nT => as_aux_lemma => rfl)
    (case hT => exact PySem.W.km_tabs_of Y _ (List.mem_singleton.mpr rfl))
#print axioms PySem.Challenge.cw_everyprime_k78_whole_barred_patterns_holds
