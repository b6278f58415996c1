import PyProof.Rows.All
import Wide.All
import OpenK.AllK
import Wide.FinOn
import HandS.ForMost
import HandS.ForExc
import HandS.Property
import HandS.IsInst
import HandS.ExcInit
import HandS.Defaults
import HandS.MakeKwOnly
import HandS.Flow
import HandS.CallSlots
import HandS.Evl
import HandS.Wide
import HandS.Walk
import HandS.Conv
import HandS.Style
import HandS.Base
import HandS.List
import HandS.Words
import PySem.Challenge.RW_orderlycore_k66_whole_renaming_is_regist
set_option Elab.async false
set_option linter.all false
set_option maxRecDepth 100000
set_option maxHeartbeats 4000000

namespace Toy
open PySem L2
theorem exm_self {K : PySem.W.Frag} {S : Addr} (h1 : PySem.W.subIn K (.ref S) (.type "BaseException") = some true) (h2 : PySem.W.isClsIn K S = true) (h3 : PySem.W.typeIn K (.ref S) = some (.type "type")) (h4 : PySem.W.subIn K (.ref S) (.ref S) = some true) :
    PySem.W.exmOne K (.ref S) (.ref S) = some true := by
  have e1 : (PySem.W.subIn K (.ref S) (.type "BaseException") == some true) = true := by rw [h1] <;> rfl
  have e2 : ((PySem.W.clsIn K S).isSome && PySem.W.typeIn K (.ref S) == some (.type "type")) = true := by
    have h2' : (PySem.W.clsIn K S).isSome = true := h2
    rw [h2', h3] <;> rfl
  show (if (PySem.W.subIn K (.ref S) (.type "BaseException") == some true) = true then (if ((PySem.W.clsIn K S).isSome && PySem.W.typeIn K (.ref S) == some (.type "type")) = true then PySem.W.subIn K (.ref S) (.ref S) else none) else none) = some true
  rw [if_pos e1, if_pos e2]
  exact h4
theorem vals_getD {vs : List V} {us : List Value} (r : Vals vs us) (i : Nat) : RelV (vs.getD i V.non) (us.getD i PySem.Value.none) := by
  induction r generalizing i with
  | nil => rfl
  | cons h t ih =>
    cases i with
    | zero => exact h
    | succ i => exact ih i
theorem kbn_of {K : PySem.W.Frag} {x qual : Str} {st : Stmt} {f : Addr} {fd : FuncData} {ps ks : List Str} {n : Nat} {g : List Value → List Value → List Value} {gV : List V → List V → List V} (F : Fun K x qual st f fd)
    (h : ∀ (kV doc pm : Value) (an : Option Addr) (cdv ct : Value) (us ws : List Value), us.length = n → ws.length = ks.length → bindArgs (PySem.W.fnOf x qual (defArgs st) (defBody st) (defScope st) .none kV doc pm an cdv ct) ⟨us, ks.zip ws⟩ = pure (ps.zip (g us ws)))
    (hr : ∀ {vs : List V} {us : List Value} {zs : List V} {ws : List Value}, Vals vs us → Vals zs ws → Vals (gV vs zs) (g us ws)) : KBn K fd ps n ks g gV := by
  obtain ⟨oc, od, kV, doc, pm, an, cdv, ct, osl, rfl, lk, hcd⟩ := F.ex
  exact ⟨fun s us ws _ h1 h2 => .of_eq (h kV doc pm an cdv ct us ws h1 h2), hr⟩
theorem same_new {H : Hp} {p : Addr} {o : HO} (h : H p = none) : Same H (upd H p o) := fun b u e => by
  rw [upd_ne (ne_of_none e h)]
  exact e
theorem same_ty {K : PySem.W.Frag} {H H' : Hp} {v : V} {t : Value} (e : Same H H') (h : TyX K H v t) : TyX K H' v t := by
  cases h with
  | base h =>
    refine .base ?_
    cases h with
    | non => exact .non
    | bl x => exact .bl x
    | int i => exact .int i
    | str x => exact .str x
    | flt x => exact .flt x
    | lst q => exact .lst (e _ _ q)
    | frz q => exact .frz (e _ _ q)
    | tup q => exact .tup (e _ _ q)
    | dK q => exact .dK (e _ _ q)
    | dT q => exact .dT (e _ _ q)
    | ins q cl ha hn htk hm => exact .ins (e _ _ q) cl ha hn htk hm
  | byt b => exact .byt b
  | set q => exact .set (e _ _ q)
  | kList q c => exact .kList q c
  | kTuple q c => exact .kTuple q c
  | kDict q c => exact .kDict q c
  | fTuple q => exact .fTuple (e _ _ q)
  | fDict q => exact .fDict (e _ _ q)
/-! ### stepping through a reading -/
section
variable {K : PySem.W.Frag} {σ τ : St} {H H' : Hp} {Q : VK} {D : Ends} {nx bk ct : St → Hp → Prop} {rt : VK} {v x y : V} {te ta tb : TE} {t u : TS} {c d : TT} {p : Addr}
theorem w_in {N : List Str} {vs : List V} (h : start N vs = σ) (q : t D σ H) : t D (start N vs) H := by rw [h]; exact q
theorem w_var {i : Nat} (h : σ[i]? = some (some v)) (q : Q v H) : tVar i σ H Q := ⟨v, h, q⟩
theorem w_c (q : Q v H) : tC v σ H Q := q
theorem w_op {r : R2} (q : ta σ H fun x H1 => tb σ H1 fun y H2 => r x y H2 Q) : tOp r ta tb σ H Q := q
theorem w_un {r : V → Hp → VK → Prop} (q : ta σ H fun x H1 => r x H1 Q) : tUn r ta σ H Q := q
theorem w_I0 {g : Int → Int → V} {i j : Int} (q : Q (g i j) H) : rI0 g (.int i) (.int j) H Q := ⟨i, j, rfl, rfl, q⟩
theorem w_I {C : Int → Int → Prop} {g : Int → Int → V} {i j : Int} (hc : C i j) (q : Q (g i j) H) : rI C g (.int i) (.int j) H Q := ⟨i, j, rfl, rfl, hc, q⟩
theorem w_U {g : Int → V} {i : Int} (q : Q (g i) H) : rU g (.int i) H Q := ⟨i, rfl, q⟩
theorem w_eq (h : scal x y = true) (q : Q (.bl (decide (x = y))) H) : rEq x y H Q := ⟨h, q⟩
theorem w_ne (h : scal x y = true) (q : Q (.bl (!decide (x = y))) H) : rNe x y H Q := ⟨h, q⟩
theorem w_cb {r : List V → Hp → VK → Prop} {t : TA} (q : t σ H fun vs H1 => r vs H1 Q) : tCB r t σ H Q := q
theorem w_nil {Q : List V → Hp → Prop} (q : Q [] H) : tNil σ H Q := q
theorem w_cons {Q : List V → Hp → Prop} {tr : TA} (q : ta σ H fun x H1 => tr σ H1 fun xs H2 => Q (x :: xs) H2) : tCons ta tr σ H Q := q
theorem w_call {sp : Sp} {dvs : List V} {E : XK} {t : TA} (q : t σ H fun vs H1 => sp (vs ++ dvs) H1 Q E) : tCall sp dvs E t σ H Q := q
theorem w_tup {t : TA} (q : t σ H fun xs H1 => xs.length ≤ sizeLine ∧ ∀ p, H1 p = none → Q (.ref p) (upd H1 p (.tup xs))) : tTup t σ H Q := q
theorem w_lst {t : TA} (q : t σ H fun xs H1 => xs.length ≤ sizeLine ∧ ∀ p, H1 p = none → Q (.ref p) (upd H1 p (.lst xs))) : tLst t σ H Q := q
theorem w_laid {n : Nat} {R : Addr → Prop} (h : n ≤ 100000) (q : ∀ p, H p = none → R p) : n ≤ sizeLine ∧ ∀ p, H p = none → R p := ⟨Nat.le_trans h (by decide), q⟩
def kFld (K : PySem.W.Frag) (f : Str) (Q : VK) (x : V) (H : Hp) : Prop := ∃ a C dx fs v, x = .ref a ∧ H a = some (.ins C dx fs) ∧ Cls K C ∧ NoAttr K C f ∧ fs.lookup f = some v ∧ Q v H
theorem w_fld0 {f : Str} (q : ta σ H fun x H1 => kFld K f Q x H1) : tFld K ta f σ H Q := q
theorem w_fld {f : Str} {a C dx : Addr} {fs : List (Str × V)} (h : H a = some (.ins C dx fs)) (hc : Cls K C) (hn : NoAttr K C f) (hl : fs.lookup f = some v) (q : Q v H) : kFld K f Q (.ref a) H :=
  ⟨a, C, dx, fs, v, rfl, h, hc, hn, hl, q⟩
def kSF (K : PySem.W.Frag) (f : Str) (nx : St → Hp → Prop) (σ : St) (y x : V) (H : Hp) : Prop := ∃ a C dx fs, x = .ref a ∧ H a = some (.ins C dx fs) ∧ Cls K C ∧ NoAttr K C f ∧ fs.length < 1000 ∧ nx σ (upd H a (.ins C dx (putF f y fs)))
theorem w_sfld0 {f : Str} {tv : TE} (q : tv σ H fun y H1 => ta σ H1 fun x H2 => kSF K f nx σ y x H2) : sFld K ta tv f ⟨nx, rt, bk, ct⟩ σ H := q
theorem w_sfld {f : Str} {a C dx : Addr} {fs fs' : List (Str × V)} (h : H a = some (.ins C dx fs)) (hc : Cls K C) (hn : NoAttr K C f) (hl : fs.length < 1000) (he : putF f y fs = fs') (q : nx σ (upd H a (.ins C dx fs'))) : kSF K f nx σ y (.ref a) H :=
  ⟨a, C, dx, fs, rfl, h, hc, hn, hl, by rw [he]; exact q⟩
theorem w_meth0 {C : Addr} {m : Str} {sp : Sp} {dvs : List V} {E : XK} {t : TA} (q : ta σ H fun x H1 => ∃ a dx fs, x = .ref a ∧ H1 a = some (.ins C dx fs) ∧ fs.lookup m = none ∧ t σ H1 fun vs H2 => sp (x :: (vs ++ dvs)) H2 Q E) : tMeth C m sp dvs E ta t σ H Q := q
theorem w_meth {R : Prop} {m : Str} {a C dx : Addr} {fs : List (Str × V)} (h : H a = some (.ins C dx fs)) (hl : fs.lookup m = none) (q : R) : ∃ a' dx fs, V.ref a = .ref a' ∧ H a' = some (.ins C dx fs) ∧ fs.lookup m = none ∧ R := ⟨a, dx, fs, rfl, h, hl, q⟩
theorem w_prop0 {C : Addr} {sp : Sp} {dvs : List V} {E : XK} (q : ta σ H fun x H1 => ∃ a dx fs, x = .ref a ∧ H1 a = some (.ins C dx fs) ∧ sp (.ref a :: dvs) H1 Q E) : tProp C sp dvs E ta σ H Q := q
theorem w_prop {C a dx : Addr} {fs : List (Str × V)} {sp : Sp} {dvs : List V} {E : XK} (h : H a = some (.ins C dx fs)) (q : sp (.ref a :: dvs) H Q E) : ∃ a' dx fs, V.ref a = .ref a' ∧ H a' = some (.ins C dx fs) ∧ sp (.ref a' :: dvs) H Q E := ⟨a, dx, fs, rfl, h, q⟩
theorem w_make {C : Addr} {sp : Sp} {dvs : List V} {E : XK} {t : TA} (q : t σ H fun vs H1 => ∀ x dx, H1 x = none → H1 dx = none → dx ≠ x → sp (.ref x :: (vs ++ dvs)) (upd (upd H1 dx (.own x)) x (.ins C dx [])) (fun v H2 => v = .non ∧ Q (.ref x) H2) E) : tMake C sp dvs E t σ H Q := q
theorem w_makeK {C : Addr} {j l : Nat} {sp : Sp} {gV : List V → List V → List V} {E : XK} {t tk : TA} (q : t σ H fun vs H1 => tk σ H1 fun zs H2 => vs.length = j ∧ zs.length = l ∧ ∀ x dx, H2 x = none → H2 dx = none → dx ≠ x → sp (gV (.ref x :: vs) zs) (upd (upd H2 dx (.own x)) x (.ins C dx [])) (fun v H2 => v = .non ∧ Q (.ref x) H2) E) : tMakeK C j l sp gV E t tk σ H Q := q
theorem w_ixL {a : Addr} {xs : List V} {i : Int} (h : SqL K H a xs) (hi : atI xs i = some v) (q : Q v H) : rIxL K (.ref a) (.int i) H Q := ⟨a, xs, i, v, rfl, rfl, h, hi, q⟩
theorem w_ixT {a : Addr} {xs : List V} {i : Int} (h : SqT K H a xs) (hi : atI xs i = some v) (q : Q v H) : rIxT K (.ref a) (.int i) H Q := ⟨a, xs, i, v, rfl, rfl, h, hi, q⟩
theorem w_setL {a : Addr} {xs : List V} {i : Int} {j : Nat} {Q : Hp → Prop} (h : H a = some (.lst xs)) (hi : ixN xs.length i = some j) (q : Q (upd H a (.lst (xs.set j v)))) : rSetL (.ref a) (.int i) v H Q := ⟨a, xs, i, j, rfl, rfl, h, hi, q⟩
theorem w_gsub {to ti : TE} {ts : TSet} {Q : St → Hp → Prop} (q : to σ H fun o H1 => ti σ H1 fun i H2 => ts o i v H2 fun H3 => Q σ H3) : gSub to ti ts v σ H Q := q
theorem w_gname {i : Nat} {Q : St → Hp → Prop} (q : Q (σ.set i (some v)) H) : gName i v σ H Q := q
theorem w_gtup {n : Nat} {ts : TGs} {a : Addr} {xs : List V} {Q : St → Hp → Prop} (h : SqT K H a xs) (hn : xs.length = n) (q : ts xs σ H Q) : gTup K n ts (.ref a) σ H Q := ⟨a, xs, rfl, h, hn, q⟩
theorem w_gcons {tg : TG} {ts : TGs} {r : List V} {Q : St → Hp → Prop} (q : tg v σ H fun σ' H' => ts r σ' H' Q) : gCons tg ts (v :: r) σ H Q := ⟨v, r, rfl, q⟩
theorem w_gnil {Q : St → Hp → Prop} (q : Q σ H) : gNil [] σ H Q := ⟨rfl, q⟩
theorem w_seq (q : t ⟨u ⟨nx, rt, bk, ct⟩, rt, bk, ct⟩ σ H) : tSeq t u ⟨nx, rt, bk, ct⟩ σ H := q
theorem w_dec {c : Prop} [Decidable c] (h : c) (q : Q (.bl true) H) : Q (.bl (decide c)) H := by rw [decide_eq_true h]; exact q
theorem w_cut (M : St → Hp → Prop) (q : t ⟨M, rt, bk, ct⟩ σ H) (k : ∀ σ' H', M σ' H' → u ⟨nx, rt, bk, ct⟩ σ' H') : Evl.tCut t u ⟨nx, rt, bk, ct⟩ σ H := ⟨M, q, k⟩
theorem w_next (q : nx σ H) : tNext ⟨nx, rt, bk, ct⟩ σ H := q
theorem w_brk (q : bk σ H) : tBreak ⟨nx, rt, bk, ct⟩ σ H := q
theorem w_cont (q : ct σ H) : tCont ⟨nx, rt, bk, ct⟩ σ H := q
theorem w_drop (q : te σ H fun _ H1 => nx σ H1) : tDrop te ⟨nx, rt, bk, ct⟩ σ H := q
theorem w_ret (q : te σ H rt) : tRet te ⟨nx, rt, bk, ct⟩ σ H := q
theorem w_retN (q : rt .non H) : tRetN ⟨nx, rt, bk, ct⟩ σ H := q
theorem w_asg {g : TG} (q : te σ H fun x H1 => g x σ H1 nx) : tAsg te g ⟨nx, rt, bk, ct⟩ σ H := q
theorem w_ifs (q : c σ H fun b H1 => if b = true then t ⟨nx, rt, bk, ct⟩ σ H1 else u ⟨nx, rt, bk, ct⟩ σ H1) : tIfS c t u ⟨nx, rt, bk, ct⟩ σ H := q
theorem w_par {i j : Nat} {t : TA} (q : t σ H fun vs H1 => ∃ v w, vs = [v, w] ∧ nx ((σ.set i (some v)).set j (some w)) H1) : tPar i j t ⟨nx, rt, bk, ct⟩ σ H := q
theorem w_vw {v w : V} {R : V → V → Prop} (q : R v w) : ∃ v' w', [v, w] = [v', w'] ∧ R v' w' := ⟨v, w, rfl, q⟩
theorem w_if0 (q : c σ H fun b H1 => if b = true then ta σ H1 Q else tb σ H1 Q) : tIf c ta tb σ H Q := q
theorem w_test {Q : Bool → Hp → Prop} (q : te σ H fun x H' => ∃ k, x = .bl k ∧ Q k H') : tTest te σ H Q := q
theorem w_B {Q : Bool → Hp → Prop} (q : te σ H fun x H' => ∃ k, x = .bl k ∧ Q k H') : tB te σ H Q := q
theorem w_and {Q : Bool → Hp → Prop} (q : c σ H fun b H1 => if b = true then d σ H1 Q else Q false H1) : tAnd c d σ H Q := q
theorem w_or {Q : Bool → Hp → Prop} (q : c σ H fun b H1 => if b = true then Q true H1 else d σ H1 Q) : tOr c d σ H Q := q
theorem w_not {Q : Bool → Hp → Prop} (q : c σ H fun b H1 => Q (!b) H1) : tNot c σ H Q := q
theorem w_andV (q : ta σ H fun x H1 => ∃ k, x = .bl k ∧ if k = true then tb σ H1 Q else Q (.bl false) H1) : tAndV ta tb σ H Q := q
theorem w_orV (q : ta σ H fun x H1 => ∃ k, x = .bl k ∧ if k = true then Q (.bl true) H1 else tb σ H1 Q) : tOrV ta tb σ H Q := q
theorem w_notV (q : ta σ H fun x H1 => ∃ k, x = .bl k ∧ Q (.bl (!k)) H1) : tNotV ta σ H Q := q
theorem w_bl {b : Bool} {R : Bool → Prop} (q : R b) : ∃ k, V.bl b = .bl k ∧ R k := ⟨b, rfl, q⟩
theorem w_iI {i : Int} {R : Int → Prop} (q : R i) : ∃ k, [V.int i] = [.int k] ∧ R k := ⟨i, rfl, q⟩
theorem w_iIJ {i j : Int} {R : Int → Int → Prop} (q : R i j) : ∃ k l, [V.int i, V.int j] = [.int k, .int l] ∧ R k l := ⟨i, j, rfl, q⟩
theorem w_int1 {i : Int} {R : Int → Prop} {S : Bool → Prop} (q : R i) : (∃ k, [V.int i] = [.int k] ∧ R k) ∨ ∃ b, [V.int i] = [.bl b] ∧ S b := .inl ⟨i, rfl, q⟩
theorem w_lenL {a : Addr} {xs : List V} {R : List V → Prop} (h : SqL K H a xs) (q : R xs) : ∃ p ys, [V.ref a] = [.ref p] ∧ (SqL K H p ys ∨ SqT K H p ys) ∧ R ys := ⟨a, xs, rfl, .inl h, q⟩
theorem w_lenT {a : Addr} {xs : List V} {R : List V → Prop} (h : SqT K H a xs) (q : R xs) : ∃ p ys, [V.ref a] = [.ref p] ∧ (SqL K H p ys ∨ SqT K H p ys) ∧ R ys := ⟨a, xs, rfl, .inr h, q⟩
theorem ifT {c A B : Prop} [Decidable c] (h : c) (q : A) : if decide c = true then A else B := by rw [decide_eq_true h]; exact iteT q
theorem ifF {c A B : Prop} [Decidable c] (h : ¬ c) (q : B) : if decide c = true then A else B := by rw [decide_eq_false h]; exact iteF q
theorem ifT' {c A B : Prop} [Decidable c] (h : c) (q : B) : if (!decide c) = true then A else B := by rw [decide_eq_true h]; exact iteF q
theorem ifF' {c A B : Prop} [Decidable c] (h : ¬ c) (q : A) : if (!decide c) = true then A else B := by rw [decide_eq_false h]; exact iteT q
theorem ifS {c A B : Prop} [Decidable c] (h1 : c → A) (h2 : ¬ c → B) : if decide c = true then A else B := by
  by_cases h : c
  · exact ifT h (h1 h)
  · exact ifF h (h2 h)
theorem ifS' {c A B : Prop} [Decidable c] (h1 : c → B) (h2 : ¬ c → A) : if (!decide c) = true then A else B := by
  by_cases h : c
  · exact ifT' h (h1 h)
  · exact ifF' h (h2 h)
theorem ifB {b : Bool} {A B : Prop} (h1 : b = true → A) (h2 : b = false → B) : if b = true then A else B := by
  cases b with
  | true => exact iteT (h1 rfl)
  | false => exact iteF (h2 rfl)
theorem w_andP {b1 b2 : Bool} {Q : Bool → Hp → Prop} (hc : ∀ R : Bool → Hp → Prop, R b1 H → c σ H R) (hd : ∀ R : Bool → Hp → Prop, R b2 H → d σ H R) (q : Q (b1 && b2) H) : tAnd c d σ H Q := by
  refine hc _ ?_
  cases b1 with
  | true => exact iteT (hd _ q)
  | false => exact iteF q
theorem w_orP {b1 b2 : Bool} {Q : Bool → Hp → Prop} (hc : ∀ R : Bool → Hp → Prop, R b1 H → c σ H R) (hd : ∀ R : Bool → Hp → Prop, R b2 H → d σ H R) (q : Q (b1 || b2) H) : tOr c d σ H Q := by
  refine hc _ ?_
  cases b1 with
  | true => exact iteT q
  | false => exact iteF (hd _ q)
theorem dec_vint {i j : Int} : decide (V.int i = V.int j) = decide (i = j) := by
  by_cases h : i = j
  · subst h; simp
  · rw [decide_eq_false h, decide_eq_false (fun e => h (V.int.inj e))]
end
/-- only what stands at p may have changed -/
def Chg (p : Addr) (H H' : Hp) : Prop := ∀ b o, H b = some o → b ≠ p → H' b = some o
theorem Chg.refl {p : Addr} {H : Hp} : Chg p H H := fun _ _ h _ => h
theorem Chg.same {p : Addr} {H H' H1 : Hp} (a : Chg p H H') (b : Same H' H1) : Chg p H H1 := fun c o h n => b c o (a c o h n)
theorem Same.chg {p : Addr} {H H' : Hp} (a : Same H H') : Chg p H H' := fun b o h _ => a b o h
theorem Chg.trans {p : Addr} {H H' H1 : Hp} (a : Chg p H H') (b : Chg p H' H1) : Chg p H H1 := fun c o h n => b c o (a c o h n) n
theorem Chg.upd {p : Addr} {H H' : Hp} {o : HO} (a : Chg p H H') : Chg p H (upd H' p o) := fun c u h n => by rw [upd_ne n]; exact a c u h n
theorem same_upd {H H' : Hp} {p : Addr} {o : HO} (a : Same H H') (h : H' p = none) : Same H (upd H' p o) := a.trans (same_new h)
theorem same_updF {H H' : Hp} {p : Addr} {o : HO} (a : Same H H') (h : H p = none) : Same H (upd H' p o) := fun b u e => by
  rw [upd_ne (ne_of_none e h)]
  exact a b u e
theorem atI_ints {ns : List Int} {k : Int} (h0 : 0 ≤ k) (h : k < (ns.map V.int).length) : ∃ n, n ∈ ns ∧ atI (ns.map V.int) k = some (.int n) ∧ ns[k.toNat]? = some n := by
  rw [List.length_map] at h
  have hj : k.toNat < ns.length := by omega
  refine ⟨ns[k.toNat], List.getElem_mem hj, ?_, List.getElem?_eq_getElem hj⟩
  have e : ((k.toNat : Nat) : Int) = k := by omega
  have q : atI (ns.map V.int) ((k.toNat : Nat) : Int) = some (V.int ns[k.toNat]) := atI_nat (by rw [List.getElem?_map]; simp [hj])
  rw [e] at q
  exact q
theorem atI_mem {xs : List V} {k : Int} (h0 : 0 ≤ k) (h : k < xs.length) : ∃ v, v ∈ xs ∧ atI xs k = some v ∧ xs[k.toNat]? = some v := by
  have hj : k.toNat < xs.length := by omega
  refine ⟨xs[k.toNat], List.getElem_mem hj, ?_, List.getElem?_eq_getElem hj⟩
  have e : ((k.toNat : Nat) : Int) = k := by omega
  have q : atI xs ((k.toNat : Nat) : Int) = some xs[k.toNat] := atI_nat (by simp [hj])
  rw [e] at q
  exact q
/-! ### rules with the written part by its name (within a comprehension) -/
section
variable {X : Cx} {K : PySem.W.Frag}
theorem ixLK (h : X.K = K := by rfl) : IxR X (rIxL K) := h ▸ ix_list
theorem ixTK (h : X.K = K := by rfl) : IxR X (rIxT K) := h ▸ ix_tup
theorem inK (h : X.K = K := by rfl) : OpR X (compareOp .In) (rIn K false) := h ▸ op_in_seq
theorem notInK (h : X.K = K := by rfl) : OpR X (compareOp .NotIn) (rIn K true) := h ▸ op_notIn_seq
theorem slLK (h : X.K = K := by rfl) : SlR X (rSlL K) := h ▸ sl_list
theorem slTK (h : X.K = K := by rfl) : SlR X (rSlT K) := h ▸ sl_tup
theorem eqDK (hu : X.A.units + 64 < cLine) (h : X.K = K := by rfl) : OpR X (compareOp .Eq) (rEqD K) := h ▸ op_eqD hu
theorem neDK (hu : X.A.units + 64 < cLine) (h : X.K = K := by rfl) : OpR X (compareOp .NotEq) (rNeD K) := h ▸ op_neD hu
theorem fldK {e : Expr} {f : Str} {ta : TE} {pos : Pos} (he : PE X e ta) (hb : attributeBase e f X.env (eval e X.env) = eval e X.env) (h : X.K = K := by rfl) : PE X (.Attribute e f pos) (tFld K ta f) := h ▸ pe_fld he hb
theorem lenK (h : X.K = K := by rfl) : CallR X (.builtin "len") (fun xs H Q => ∃ p ys, xs = [.ref p] ∧ (SqL K H p ys ∨ SqT K H p ys) ∧ Q (.int ys.length) H) := h ▸ call_len_seq
theorem isiK (h : X.K = K := by rfl) : CallR X (.builtin "isinstance") (rIsi K) := h ▸ call_isi
end
/-! ### methods called in a try, by keywords -/
section
open PySem.Spec PyProof.Rows
variable {X : Cx} {CX : CXT} {k : Nat} {f C : Addr} {fd : FuncData} {ps ks : List Str} {sp : Sp} {m x : Str} {p pos apos : Pos} {e o : Expr} {es : List Expr} {kws : List Keyword} {ta : TE} {t tk : TA} {g : List Value → List Value → List Value} {gV : List V → List V → List V} {n : Nat}
def tMethSx (C : Addr) (m : Str) (sp : Sp) (E : L2.St → XK) (ta : TE) (t : TA) : TE := fun σ H Q => ta σ H fun x H1 => ∃ a dx fs, x = .ref a ∧ H1 a = some (.ins C dx fs) ∧ fs.lookup m = none ∧
  t σ H1 fun vs H2 => sp (x :: vs) H2 Q (E σ)
theorem pe_methSx {E : L2.St → XK} {pl : Sem Bool} (he : PE X o ta) (c : Cls X.K C) (hm : Meth X.K C m f) (F : FnOk X.prog X.w X.K X.mg X.base CX k f fd ps sp) (hr : Room k X.A) (hb : Binds X.K fd ps []) (hx : ∀ σ, PassesAt CX X σ (E σ)) (ha : PA X (e :: es) t)
    (hst : starEach (e :: es) X.env = (false, eval e X.env) :: starEach es X.env := by rfl) (hpl : (backTo pos (starEach es X.env)).any (·.1) = false := by rfl)
    (ht : eval (.Call (.Attribute o m apos) (e :: es) [] pos) X.env = (do
      let ov ← eval o X.env
      standAt apos.atName
      let (f, first) ← holding [ov] (getMethod ov m pl)
      callWith pos f first (backTo pos (starEach (e :: es) X.env)) (backToKw pos (keywordEach [] X.env))) := by rfl) :
    PE X (.Call (.Attribute o m apos) (e :: es) [] pos) (tMethSx C m sp E ta t) := by
  refine ⟨fun pins s σ H Q I h => ?_⟩
  refine PySem.W.methodCall_KW (pl := pl) (thn (he.run pins s σ H _ I h) fun u s1 ⟨x, H1, I1, rx, a, dx, fs, ex, ea, l, q⟩ => ?_) ht
  subst ex
  obtain rfl : u = Value.ref a := rx
  refine getmeth_ok I1 ea c hm l ?_
  refine PySem.W.callWith_K (first := [.ref a]) (h₀ := X.base) I.ok.mod.kin hm.kp (thn (ha.run pos pins s1 σ H1 _ I1 q) fun us s2 ⟨vs, H2, I2, r, q2⟩ => ⟨I2.kIn, ?_⟩) hst hpl
  exact run_fnS (us := .ref a :: us) (vs := .ref a :: vs) F hr hb (hx σ) I2 (.cons rfl r) q2
def tMethN (C : Addr) (m : Str) (j l : Nat) (sp : Sp) (gV : List V → List V → List V) (E : XK) (ta : TE) (t tk : TA) : TE := fun σ H Q => ta σ H fun x H1 => ∃ a dx fs, x = .ref a ∧ H1 a = some (.ins C dx fs) ∧ fs.lookup m = none ∧
  t σ H1 fun vs H2 => tk σ H2 fun zs H3 => vs.length = j ∧ zs.length = l ∧ sp (gV (x :: vs) zs) H3 Q E
theorem pe_methN0 {E : XK} {pl : Sem Bool} (he : PE X o ta) (c : Cls X.K C) (hm : Meth X.K C m f) (F : FnOk X.prog X.w X.K X.mg X.base CX k f fd ps sp) (hr : Room k X.A) (hb : KBn X.K fd ps 1 ks g gV) (hx : Passes CX X E) (hkw : PK X kws tk)
    (hall : (backToKw pos (keywordEach kws X.env)).all (·.1.isSome) = true := by rfl) (hks : (backToKw pos (keywordEach kws X.env)).filterMap (·.1) = ks := by rfl)
    (hpl : ((backTo pos (starEach [] X.env)).any (·.1) || (backToKw pos (keywordEach kws X.env)).any (·.1.isNone)) = false := by rfl)
    (ht : eval (.Call (.Attribute o m apos) [] kws pos) X.env = (do
      let ov ← eval o X.env
      standAt apos.atName
      let (f, first) ← holding [ov] (getMethod ov m pl)
      callWith pos f first (backTo pos (starEach [] X.env)) (backToKw pos (keywordEach kws X.env))) := by rfl) :
    PE X (.Call (.Attribute o m apos) [] kws pos) (tMethN C m 0 ks.length sp gV E ta tNil tk) := by
  refine ⟨fun pins s σ H Q I h => ?_⟩
  refine PySem.W.methodCall_KW (pl := pl) (thn (he.run pins s σ H _ I h) fun u s1 ⟨x, H1, I1, rx, a, dx, fs, ex, ea, l, q⟩ => ?_) ht
  subst ex
  obtain rfl : u = Value.ref a := rx
  refine getmeth_ok I1 ea c hm l ?_
  refine PySem.W.callWith_KW0 (first := [.ref a]) (h₀ := X.base) I.ok.mod.kin hm.kp hall ?_ hpl
  refine thn (hkw.run pos pins s1 σ H1 _ I1 q) fun ws s2 ⟨zs, H2, I2, rz, l1, l2, q2⟩ => ⟨I2.kIn, ?_⟩
  rw [hks]
  exact run_fnN (us := [.ref a]) (vs := [.ref a]) F hr hb hx I2 (.cons rfl .nil) rz rfl l2 q2
theorem pe_methN {E : XK} {pl : Sem Bool} (he : PE X o ta) (c : Cls X.K C) (hm : Meth X.K C m f) (F : FnOk X.prog X.w X.K X.mg X.base CX k f fd ps sp) (hr : Room k X.A) (hb : KBn X.K fd ps (n + 1) ks g gV) (hx : Passes CX X E) (ha : PA X (e :: es) t) (hkw : PK X kws tk)
    (hall : (backToKw pos (keywordEach kws X.env)).all (·.1.isSome) = true := by rfl) (hks : (backToKw pos (keywordEach kws X.env)).filterMap (·.1) = ks := by rfl)
    (hst : starEach (e :: es) X.env = (false, eval e X.env) :: starEach es X.env := by rfl)
    (hpl : ((backTo pos (starEach (e :: es) X.env)).any (·.1) || (backToKw pos (keywordEach kws X.env)).any (·.1.isNone)) = false := by rfl)
    (ht : eval (.Call (.Attribute o m apos) (e :: es) kws pos) X.env = (do
      let ov ← eval o X.env
      standAt apos.atName
      let (f, first) ← holding [ov] (getMethod ov m pl)
      callWith pos f first (backTo pos (starEach (e :: es) X.env)) (backToKw pos (keywordEach kws X.env))) := by rfl) :
    PE X (.Call (.Attribute o m apos) (e :: es) kws pos) (tMethN C m n ks.length sp gV E ta t tk) := by
  refine ⟨fun pins s σ H Q I h => ?_⟩
  refine PySem.W.methodCall_KW (pl := pl) (thn (he.run pins s σ H _ I h) fun u s1 ⟨x, H1, I1, rx, a, dx, fs, ex, ea, l, q⟩ => ?_) ht
  subst ex
  obtain rfl : u = Value.ref a := rx
  refine getmeth_ok I1 ea c hm l ?_
  refine PySem.W.callWith_KW (first := [.ref a]) (h₀ := X.base) I.ok.mod.kin hm.kp hall (thn (ha.run pos pins s1 σ H1 _ I1 q) fun us s2 ⟨vs, H2, I2, r, q2⟩ => ?_) hpl hst
  refine thn (hkw.run pos pins s2 σ H2 _ I2 q2) fun ws s3 ⟨zs, H3, I3, rz, l1, l2, q3⟩ => ⟨I3.kIn, ?_⟩
  rw [hks]
  exact run_fnN (us := .ref a :: us) (vs := .ref a :: vs) F hr hb hx I3 (.cons rfl r) rz (by rw [List.length_cons, l1]) l2 q3
/-- f(k = v, ..) -/
theorem pe_callN0 {E : XK} (F : FnOk X.prog X.w X.K X.mg X.base CX k f fd ps sp) (hr : Room k X.A) (hg : Gl X x) (hm : X.mg x = some (.ref f)) (hk : PySem.W.keepIn X.K (.ref f) = true) (hb : KBn X.K fd ps 0 ks g gV) (hx : Passes CX X E) (hkw : PK X kws tk)
    (hall : (backToKw pos (keywordEach kws X.env)).all (·.1.isSome) = true := by rfl) (hks : (backToKw pos (keywordEach kws X.env)).filterMap (·.1) = ks := by rfl)
    (hdb : (x == ("__debug__" : Str)) = false := by decide)
    (hpl : ((backTo pos (starEach [] X.env)).any (·.1) || (backToKw pos (keywordEach kws X.env)).any (·.1.isNone)) = false := by rfl) :
    PE X (.Call (.Name x p) [] kws pos) (tCallN 0 ks.length sp gV E tNil tk) := by
  refine ⟨fun pins s σ H Q I h => ?_⟩
  refine wpAny_Call_Name_kw (ld_glob I hg hm ?_ hdb)
  refine PySem.W.callWith_KW0 (h₀ := X.base) I.ok.mod.kin hk hall ?_ hpl
  refine thn (hkw.run pos pins s σ H _ I h) fun ws s2 ⟨zs, H2, I2, rz, l1, l2, q2⟩ => ⟨I2.kIn, ?_⟩
  rw [hks]
  exact run_fnN (us := []) (vs := []) F hr hb hx I2 .nil rz rfl l2 q2
end
section
variable {K : PySem.W.Frag} {σ : St} {H : Hp} {Q : VK} {ta : TE} {t tk : TA} {v : V}
theorem w_methSx0 {C : Addr} {m : Str} {sp : Sp} {E : St → XK} (q : ta σ H fun x H1 => ∃ a dx fs, x = .ref a ∧ H1 a = some (.ins C dx fs) ∧ fs.lookup m = none ∧ t σ H1 fun vs H2 => sp (x :: vs) H2 Q (E σ)) : tMethSx C m sp E ta t σ H Q := q
theorem w_methN0 {C : Addr} {m : Str} {j l : Nat} {sp : Sp} {gV : List V → List V → List V} {E : XK} (q : ta σ H fun x H1 => ∃ a dx fs, x = .ref a ∧ H1 a = some (.ins C dx fs) ∧ fs.lookup m = none ∧ t σ H1 fun vs H2 => tk σ H2 fun zs H3 => vs.length = j ∧ zs.length = l ∧ sp (gV (x :: vs) zs) H3 Q E) : tMethN C m j l sp gV E ta t tk σ H Q := q
theorem w_callN {j l : Nat} {sp : Sp} {gV : List V → List V → List V} {E : XK} (q : t σ H fun vs H1 => tk σ H1 fun zs H2 => vs.length = j ∧ zs.length = l ∧ sp (gV vs zs) H2 Q E) : tCallN j l sp gV E t tk σ H Q := q
theorem w_callS {sp : Sp} {E : St → XK} (q : t σ H fun vs H1 => sp vs H1 Q (E σ)) : tCallS sp E t σ H Q := q
theorem w_rfl {α : Type} {x : α} {R : Prop} (q : R) : x = x ∧ R := ⟨rfl, q⟩
theorem w_ea {σ2 : L2.St} {vs : List Nat} {R : Prop} (h : wipe σ2 vs = wipe σ vs) (q : R) : wipe σ2 vs = wipe σ vs ∧ R := ⟨h, q⟩
theorem w_ln {α : Type} {xs : List α} {n : Nat} {R : Prop} (h : xs.length = n) (q : R) : xs.length = n ∧ R := ⟨h, q⟩
theorem w_yes {Q : Bool → Hp → Prop} (q : Q true H) : tYes σ H Q := q
end
theorem iteNT {A B : Prop} (h : B) : if (!true) = true then A else B := h
theorem iteNF {A B : Prop} (h : A) : if (!false) = true then A else B := h
/-! ### comprehensions without tests: each item gives a known value -/
section
variable {K : PySem.W.Frag} {σ : L2.St} {H : Hp} {Q : VK} {g : TG} {te tl : TE} {l : Addr} {xs ys : List V} {vs : List Nat}
theorem w_lc0L (q : tl σ H fun x H1 => ∃ a, x = .ref a ∧ (∃ xs, SqL K H1 a xs) ∧ ∀ D, H1 D = none → ∃ W : Nat → Nat → Hp → Prop, (∃ m, W 0 m (upd H1 D (.lst []))) ∧ ∀ i m H, W i m H →
      ((Itl K a).stop i H ∧ Q (.ref D) H) ∨ ((Itl K a).go i H ∧ ∃ Nx : Hp → Prop, (∀ H', Nx H' → ∃ m', m' < m ∧ W (i + 1) m' H') ∧ ∀ x H', (Itl K a).yld i H x H' → g x (wipe σ vs) H' fun σ2 H2 => wipe σ2 vs = wipe σ vs ∧ tYes σ2 H2 fun b H3 =>
        if b = true then te σ2 H3 fun y H4 => ∃ acc, H4 D = some (.lst acc) ∧ acc.length < sizeLine ∧ Nx (upd H4 D (.lst (acc ++ [y]))) else Nx H3)) : tLc (iList K tl) g tYes te vs σ H Q := q
theorem w_lc0T (q : tl σ H fun x H1 => ∃ a, x = .ref a ∧ (∃ xs, SqT K H1 a xs) ∧ ∀ D, H1 D = none → ∃ W : Nat → Nat → Hp → Prop, (∃ m, W 0 m (upd H1 D (.lst []))) ∧ ∀ i m H, W i m H →
      ((Itt K a).stop i H ∧ Q (.ref D) H) ∨ ((Itt K a).go i H ∧ ∃ Nx : Hp → Prop, (∀ H', Nx H' → ∃ m', m' < m ∧ W (i + 1) m' H') ∧ ∀ x H', (Itt K a).yld i H x H' → g x (wipe σ vs) H' fun σ2 H2 => wipe σ2 vs = wipe σ vs ∧ tYes σ2 H2 fun b H3 =>
        if b = true then te σ2 H3 fun y H4 => ∃ acc, H4 D = some (.lst acc) ∧ acc.length < sizeLine ∧ Nx (upd H4 D (.lst (acc ++ [y]))) else Nx H3)) : tLc (iTup K tl) g tYes te vs σ H Q := q
theorem lc_inv {f : Nat → V} {D : Addr} {H' : Hp} {i : Nat} (nD : H D = none) (s : Same H H') (hD : H' D = some (.lst ((List.range i).map f))) (v : V) (hv : v = f i) :
    Same H (upd H' D (.lst (((List.range i).map f) ++ [v]))) ∧ (upd H' D (.lst (((List.range i).map f) ++ [v]))) D = some (.lst ((List.range (i + 1)).map f)) := by
  refine ⟨same_updF s nD, ?_⟩
  rw [upd_same, List.range_succ, List.map_append, hv]
  rfl
/-- the i-th item gives f i; nothing that stood is changed -/
theorem w_lcL (f : Nat → V) (h : SqL K H l xs) (hz : xs.length ≤ 100000)
    (step : ∀ (i : Nat) (x : V) (H' : Hp) (R : VK) (S : Hp → Prop), xs[i]? = some x → Same H H' → (∀ H4, Same H' H4 → R (f i) H4) → g x (wipe σ vs) H' fun σ2 H2 => wipe σ2 vs = wipe σ vs ∧ tYes σ2 H2 fun b H3 => if b = true then te σ2 H3 R else S H3)
    (q : ∀ D H', Same H H' → H D = none → H' D = some (.lst ((List.range xs.length).map f)) → Q (.ref D) H') : ∃ a, V.ref l = .ref a ∧ (∃ xs, SqL K H a xs) ∧ ∀ D, H D = none → ∃ W : Nat → Nat → Hp → Prop, (∃ m, W 0 m (upd H D (.lst []))) ∧ ∀ i m H, W i m H →
      ((Itl K a).stop i H ∧ Q (.ref D) H) ∨ ((Itl K a).go i H ∧ ∃ Nx : Hp → Prop, (∀ H', Nx H' → ∃ m', m' < m ∧ W (i + 1) m' H') ∧ ∀ x H', (Itl K a).yld i H x H' → g x (wipe σ vs) H' fun σ2 H2 => wipe σ2 vs = wipe σ vs ∧ tYes σ2 H2 fun b H3 =>
        if b = true then te σ2 H3 fun y H4 => ∃ acc, H4 D = some (.lst acc) ∧ acc.length < sizeLine ∧ Nx (upd H4 D (.lst (acc ++ [y]))) else Nx H3) := by
  refine ⟨l, rfl, ⟨xs, h⟩, fun D nD => ?_⟩
  refine lc_list (K := K) (a := l) (xs := xs) (fun i H' => i ≤ xs.length ∧ Same H H' ∧ H' D = some (.lst ((List.range i).map f))) ⟨Nat.zero_le _, same_new nD, upd_same⟩ (fun i H' _ p => p.2.1.seq h) (fun i x H' hx p => ?_) (fun H' p => q D H' p.2.1 nD p.2.2)
  have hi : i < xs.length := (List.getElem?_eq_some_iff.mp hx).1
  refine step i x H' _ _ hx p.2.1 fun H4 s4 => ?_
  have hD4 := s4 _ _ p.2.2
  refine ⟨_, hD4, ?_, hi, lc_inv nD (p.2.1.trans s4) hD4 _ rfl⟩
  rw [List.length_map, List.length_range]
  exact Nat.lt_of_lt_of_le (Nat.lt_of_lt_of_le hi hz) (by decide)
theorem w_lcT (f : Nat → V) (h : SqT K H l xs) (hz : xs.length ≤ 100000) (hs : ∀ H', Same H H' → SqT K H' l xs)
    (step : ∀ (i : Nat) (x : V) (H' : Hp) (R : VK) (S : Hp → Prop), xs[i]? = some x → Same H H' → (∀ H4, Same H' H4 → R (f i) H4) → g x (wipe σ vs) H' fun σ2 H2 => wipe σ2 vs = wipe σ vs ∧ tYes σ2 H2 fun b H3 => if b = true then te σ2 H3 R else S H3)
    (q : ∀ D H', Same H H' → H D = none → H' D = some (.lst ((List.range xs.length).map f)) → Q (.ref D) H') : ∃ a, V.ref l = .ref a ∧ (∃ xs, SqT K H a xs) ∧ ∀ D, H D = none → ∃ W : Nat → Nat → Hp → Prop, (∃ m, W 0 m (upd H D (.lst []))) ∧ ∀ i m H, W i m H →
      ((Itt K a).stop i H ∧ Q (.ref D) H) ∨ ((Itt K a).go i H ∧ ∃ Nx : Hp → Prop, (∀ H', Nx H' → ∃ m', m' < m ∧ W (i + 1) m' H') ∧ ∀ x H', (Itt K a).yld i H x H' → g x (wipe σ vs) H' fun σ2 H2 => wipe σ2 vs = wipe σ vs ∧ tYes σ2 H2 fun b H3 =>
        if b = true then te σ2 H3 fun y H4 => ∃ acc, H4 D = some (.lst acc) ∧ acc.length < sizeLine ∧ Nx (upd H4 D (.lst (acc ++ [y]))) else Nx H3) := by
  refine ⟨l, rfl, ⟨xs, h⟩, fun D nD => ?_⟩
  refine lc_tup (K := K) (a := l) (xs := xs) (fun i H' => i ≤ xs.length ∧ Same H H' ∧ H' D = some (.lst ((List.range i).map f))) ⟨Nat.zero_le _, same_new nD, upd_same⟩ (fun i H' _ p => hs _ p.2.1) (fun i x H' hx p => ?_) (fun H' p => q D H' p.2.1 nD p.2.2)
  have hi : i < xs.length := (List.getElem?_eq_some_iff.mp hx).1
  refine step i x H' _ _ hx p.2.1 fun H4 s4 => ?_
  have hD4 := s4 _ _ p.2.2
  refine ⟨_, hD4, ?_, hi, lc_inv nD (p.2.1.trans s4) hD4 _ rfl⟩
  rw [List.length_map, List.length_range]
  exact Nat.lt_of_lt_of_le (Nat.lt_of_lt_of_le hi hz) (by decide)
theorem lc_L (f : Nat → V) (htl : ∀ R : VK, R (.ref l) H → tl σ H R) (h : SqL K H l xs) (hz : xs.length ≤ 100000)
    (step : ∀ (i : Nat) (x : V) (H' : Hp) (R : VK) (S : Hp → Prop), xs[i]? = some x → Same H H' → (∀ H4, Same H' H4 → R (f i) H4) → g x (wipe σ vs) H' fun σ2 H2 => wipe σ2 vs = wipe σ vs ∧ tYes σ2 H2 fun b H3 => if b = true then te σ2 H3 R else S H3)
    (q : ∀ D H', Same H H' → H D = none → H' D = some (.lst ((List.range xs.length).map f)) → Q (.ref D) H') : tLc (iList K tl) g tYes te vs σ H Q := w_lc0L (htl _ (w_lcL f h hz step q))
theorem lc_T (f : Nat → V) (htl : ∀ R : VK, R (.ref l) H → tl σ H R) (h : SqT K H l xs) (hz : xs.length ≤ 100000) (hs : ∀ H', Same H H' → SqT K H' l xs)
    (step : ∀ (i : Nat) (x : V) (H' : Hp) (R : VK) (S : Hp → Prop), xs[i]? = some x → Same H H' → (∀ H4, Same H' H4 → R (f i) H4) → g x (wipe σ vs) H' fun σ2 H2 => wipe σ2 vs = wipe σ vs ∧ tYes σ2 H2 fun b H3 => if b = true then te σ2 H3 R else S H3)
    (q : ∀ D H', Same H H' → H D = none → H' D = some (.lst ((List.range xs.length).map f)) → Q (.ref D) H') : tLc (iTup K tl) g tYes te vs σ H Q := w_lc0T (htl _ (w_lcT f h hz hs step q))
theorem same_seqT {H H' : Hp} {a : Addr} {xs : List V} (e : Same H H') (h : SqT K H a xs) : SqT K H' a xs := by
  rcases h with (h | ⟨o, h⟩) | h
  · exact .inl (.inl (e _ _ h))
  · exact .inl (.inr ⟨o, e _ _ h⟩)
  · exact .inr h
end
theorem w_allTrue {K : PySem.W.Frag} {H : Hp} {Q : VK} {D : Addr} {n : Nat} (h : H D = some (.lst ((List.range n).map fun _ => V.bl true))) (q : Q (.bl true) H) : rAll K [.ref D] H Q := by
  refine ⟨D, (List.range n).map fun _ => true, rfl, SqL.of (by rw [List.map_map]; exact h), ?_⟩
  have e : ((List.range n).map fun _ => true).all id = true := by simp
  rw [e]
  exact q
/-! ### refusals -/
def spCore (K : PySem.W.Frag) : Sp := fun vs H Q _ => ∃ (x C : Addr) (v : V), vs = [.ref x, v] ∧ OexC K C ∧ PySem.W.findIn K (.ref C) "value" = some none ∧ H x = some (exo x C none) ∧
  ∀ dx, H dx = none → dx ≠ x → Q .non (upd (upd H dx (exd dx [("value", v)])) x (exo x C (some dx)))
theorem w_mko0 {C : Addr} {sp : Sp} {dvs : List V} {ta : TA} {σ : St} {H : Hp} {Q : XK} (q : ta σ H fun vs H1 => vs.length ≤ 1000 ∧ ∀ a, H1 a = none → sp (.ref a :: (vs ++ dvs)) (upd H1 a (exo a C none))
  (fun v H2 => v = .non ∧ ∃ (d : Addr) (fs : List (Str × V)), H2 a = some (exo a C (some d)) ∧ H2 d = some (exd d fs) ∧ H1 d = none ∧ Q (.ref C) (some d) (upd (del H2 a) d (.xd fs))) (fun _ _ _ => False)) : tMkO C sp dvs ta σ H Q := q
theorem w_core {K : PySem.W.Frag} {C : Addr} {v : V} {H : Hp} {Q : XK} (hC : OexC K C) (hn : PySem.W.findIn K (.ref C) "value" = some none)
    (q : ∀ d H', Same H H' → H d = none → H' d = some (.xd [("value", v)]) → Q (.ref C) (some d) H') :
    [v].length ≤ 1000 ∧ ∀ a, H a = none → spCore K (.ref a :: ([v] ++ [])) (upd H a (exo a C none))
      (fun v H2 => v = .non ∧ ∃ (d : Addr) (fs : List (Str × V)), H2 a = some (exo a C (some d)) ∧ H2 d = some (exd d fs) ∧ H d = none ∧ Q (.ref C) (some d) (upd (del H2 a) d (.xd fs))) (fun _ _ _ => False) := by
  refine ⟨by show 1 ≤ 1000; decide, fun x nx => ⟨x, C, v, rfl, hC, hn, upd_same, fun dx ndx hne => ⟨rfl, dx, _, upd_same, (upd_ne hne).trans upd_same, ?_, q dx _ ?_ ?_ upd_same⟩⟩⟩
  · rw [upd_ne hne] at ndx
    exact ndx
  · intro b o e
    have hb : b ≠ x := ne_of_none e nx
    have hd : b ≠ dx := by
      intro z
      rw [z] at e
      rw [upd_ne hne, e] at ndx
      cases ndx
    rw [upd_ne hd, del_ne hb, upd_ne hb, upd_ne hd, upd_ne hb]
    exact e
  · rw [upd_ne hne] at ndx
    exact ndx
theorem map_get {ns : List Int} {i : Nat} {x : V} (h : (ns.map V.int)[i]? = some x) : ∃ n, n ∈ ns ∧ x = .int n := by
  rw [List.getElem?_map] at h
  cases e : ns[i]? with
  | none => rw [e] at h; cases h
  | some n =>
    rw [e] at h
    exact ⟨n, List.mem_of_getElem? e, (Option.some.inj h).symm⟩
/-! ### loops -/
section
variable {K : PySem.W.Frag} {σ : L2.St} {H : Hp} {g : TG} {tb : TS} {nx bk ct : L2.St → Hp → Prop} {rt : VK} {ta : TA} {tl : TE}
def kR1 (g : TG) (tb : TS) (D : Ends) (σ : L2.St) (vs : List V) (H : Hp) : Prop := ∃ j : Int, vs = [.int j] ∧ -(2 ^ 62) ≤ j ∧ j < 2 ^ 62 ∧ ∃ W : Nat → Nat → L2.St → Hp → Prop, (∃ m, W 0 m σ H) ∧ ∀ i m σ H, W i m σ H →
  ((Itr 0 j.toNat).stop i H ∧ D.nx σ H) ∨ ((Itr 0 j.toNat).go i H ∧ ∃ N : L2.St → Hp → Prop, (∀ σ' H', N σ' H' → ∃ m', m' < m ∧ W (i + 1) m' σ' H') ∧ ∀ x H', (Itr 0 j.toNat).yld i H x H' → g x σ H' fun σ2 H2 => tb { D with nx := N, ct := N, bk := D.nx } σ2 H2)
theorem w_forR1 (q : ta σ H fun vs H1 => kR1 g tb ⟨nx, rt, bk, ct⟩ σ vs H1) : tFor (iRng1 ta) g tb ⟨nx, rt, bk, ct⟩ σ H := q
theorem w_range1 {j : Int} (Pv : Nat → L2.St → Hp → Prop) (hj : -100000000 ≤ j ∧ j < 100000000) (h0 : Pv 0 σ H)
    (hs : ∀ (i : Nat) σ' H', (i : Int) < j → Pv i σ' H' → g (.int i) σ' H' fun σ2 H2 => tb ⟨Pv (i + 1), rt, nx, Pv (i + 1)⟩ σ2 H2) (hd : ∀ σ' H', Pv j.toNat σ' H' → nx σ' H') : kR1 g tb ⟨nx, rt, bk, ct⟩ σ [.int j] H := by
  refine ⟨j, rfl, by omega, by omega, for_range (lo := 0) (n := j.toNat) (D := ⟨nx, rt, bk, ct⟩) Pv h0 (fun i σ' H' hi p => ?_) hd⟩
  have e : (0 : Int) + (i : Int) = i := by omega
  rw [e]
  exact hs i σ' H' (by omega) p
def kFL (K : PySem.W.Frag) (g : TG) (tb : TS) (D : Ends) (σ : L2.St) (x : V) (H : Hp) : Prop := ∃ a, x = .ref a ∧ (∃ xs, SqL K H a xs) ∧ ∃ W : Nat → Nat → L2.St → Hp → Prop, (∃ m, W 0 m σ H) ∧ ∀ i m σ H, W i m σ H →
  ((Itl K a).stop i H ∧ D.nx σ H) ∨ ((Itl K a).go i H ∧ ∃ N : L2.St → Hp → Prop, (∀ σ' H', N σ' H' → ∃ m', m' < m ∧ W (i + 1) m' σ' H') ∧ ∀ x H', (Itl K a).yld i H x H' → g x σ H' fun σ2 H2 => tb { D with nx := N, ct := N, bk := D.nx } σ2 H2)
theorem w_forL (q : tl σ H fun x H1 => kFL K g tb ⟨nx, rt, bk, ct⟩ σ x H1) : tFor (iList K tl) g tb ⟨nx, rt, bk, ct⟩ σ H := q
theorem w_list {a : Addr} {xs : List V} (Pv : Nat → L2.St → Hp → Prop) (h : SqL K H a xs) (h0 : Pv 0 σ H) (hl : ∀ i σ' H', i ≤ xs.length → Pv i σ' H' → SqL K H' a xs)
    (hs : ∀ (i : Nat) x σ' H', xs[i]? = some x → Pv i σ' H' → g x σ' H' fun σ2 H2 => tb ⟨Pv (i + 1), rt, nx, Pv (i + 1)⟩ σ2 H2) (hd : ∀ σ' H', Pv xs.length σ' H' → nx σ' H') : kFL K g tb ⟨nx, rt, bk, ct⟩ σ (.ref a) H :=
  ⟨a, rfl, ⟨xs, h⟩, for_list (D := ⟨nx, rt, bk, ct⟩) Pv h0 hl hs hd⟩
def kFT (K : PySem.W.Frag) (g : TG) (tb : TS) (D : Ends) (σ : L2.St) (x : V) (H : Hp) : Prop := ∃ a, x = .ref a ∧ (∃ xs, SqT K H a xs) ∧ ∃ W : Nat → Nat → L2.St → Hp → Prop, (∃ m, W 0 m σ H) ∧ ∀ i m σ H, W i m σ H →
  ((Itt K a).stop i H ∧ D.nx σ H) ∨ ((Itt K a).go i H ∧ ∃ N : L2.St → Hp → Prop, (∀ σ' H', N σ' H' → ∃ m', m' < m ∧ W (i + 1) m' σ' H') ∧ ∀ x H', (Itt K a).yld i H x H' → g x σ H' fun σ2 H2 => tb { D with nx := N, ct := N, bk := D.nx } σ2 H2)
theorem w_forT (q : tl σ H fun x H1 => kFT K g tb ⟨nx, rt, bk, ct⟩ σ x H1) : tFor (iTup K tl) g tb ⟨nx, rt, bk, ct⟩ σ H := q
theorem w_tupl {a : Addr} {xs : List V} (Pv : Nat → L2.St → Hp → Prop) (h : SqT K H a xs) (h0 : Pv 0 σ H) (hl : ∀ i σ' H', i ≤ xs.length → Pv i σ' H' → SqT K H' a xs)
    (hs : ∀ (i : Nat) x σ' H', xs[i]? = some x → Pv i σ' H' → g x σ' H' fun σ2 H2 => tb ⟨Pv (i + 1), rt, nx, Pv (i + 1)⟩ σ2 H2) (hd : ∀ σ' H', Pv xs.length σ' H' → nx σ' H') : kFT K g tb ⟨nx, rt, bk, ct⟩ σ (.ref a) H :=
  ⟨a, rfl, ⟨xs, h⟩, for_tup (D := ⟨nx, rt, bk, ct⟩) Pv h0 hl hs hd⟩
/-- a comprehension by an invariant over its turns -/
theorem lcI_L {Q : VK} {te : TE} {l : Addr} {xs : List V} {vs : List Nat} (Pv : Addr → Nat → Hp → Prop) (htl : ∀ R : VK, R (.ref l) H → tl σ H R) (h : SqL K H l xs) (h0 : ∀ D, H D = none → Pv D 0 (upd H D (.lst []))) (hl : ∀ D i H', i ≤ xs.length → Pv D i H' → SqL K H' l xs)
    (step : ∀ D (i : Nat) (x : V) (H' : Hp) (R : VK) (S : Hp → Prop), H D = none → xs[i]? = some x → Pv D i H' → (∀ y H4 acc, H4 D = some (.lst acc) → acc.length ≤ 100000 → Pv D (i + 1) (upd H4 D (.lst (acc ++ [y]))) → R y H4) → g x (wipe σ vs) H' fun σ2 H2 => wipe σ2 vs = wipe σ vs ∧ tYes σ2 H2 fun b H3 => if b = true then te σ2 H3 R else S H3)
    (q : ∀ D H', H D = none → Pv D xs.length H' → Q (.ref D) H') : tLc (iList K tl) g tYes te vs σ H Q := by
  refine w_lc0L (htl _ ⟨l, rfl, ⟨xs, h⟩, fun D nD => ?_⟩)
  refine lc_list (K := K) (a := l) (xs := xs) (fun i H' => Pv D i H') (h0 D nD) (fun i H' hi p => hl D i H' hi p) (fun i x H' hx p => ?_) (fun H' p => q D H' nD p)
  exact step D i x H' _ _ nD hx p fun y H4 acc e z p4 => ⟨acc, e, Nat.lt_of_le_of_lt z (by decide), p4⟩
end
section
variable {K : PySem.W.Frag} {σ : L2.St} {H H' G : Hp} {Q : VK} {to : TE} {t : TA} {p q x : Addr}
theorem w_bm {T : String} {r : V → List V → Hp → VK → Prop} (h : to σ H fun x H1 => tyV K T x H1 ∧ t σ H1 fun xs H2 => r x xs H2 Q) : tBM K T r to t σ H Q := h
theorem w_bm0 {T : String} {r : V → List V → Hp → VK → Prop} (h : to σ H fun x H1 => tyV K T x H1 ∧ r x [] H1 Q) : tBM0 K T r to σ H Q := h
theorem w_tyL {a : Addr} {xs : List V} {R : Prop} (h : SqL K H a xs) (q : R) : tyV K "list" (.ref a) H ∧ R := ⟨.inl ⟨rfl, xs, h⟩, q⟩
theorem w_app {l : Addr} {xs : List V} {y : V} (h : H l = some (.lst xs)) (hz : xs.length ≤ 100000) (q : Q .non (upd H l (.lst (xs ++ [y])))) : rAppend (.ref l) [y] H Q := ⟨l, xs, y, rfl, rfl, h, Nat.lt_of_le_of_lt hz (by decide), q⟩
theorem w_cat {l b : Addr} {xs zs : List V} (h1 : H l = some (.lst xs)) (h2 : H b = some (.lst zs)) (hz : xs.length + zs.length ≤ 100000) (q : ∀ p, H p = none → Q (.ref p) (upd H p (.lst (xs ++ zs)))) : rCat (.ref l) (.ref b) H Q := ⟨l, b, xs, zs, rfl, rfl, h1, h2, Nat.le_trans hz (by decide), q⟩
theorem ixN_of {n : Nat} {d : Int} (h0 : 0 ≤ d) (h1 : d < n) : ixN n d = some d.toNat := by
  unfold ixN
  rw [if_pos h0, if_pos h1]
theorem nodup_ne {α : Type} {l : List α} (nd : l.Nodup) {i j : Nat} {a b : α} (hi : l[i]? = some a) (hj : l[j]? = some b) (h : i ≠ j) : a ≠ b := by
  obtain ⟨h1, rfl⟩ := List.getElem?_eq_some_iff.mp hi
  obtain ⟨h2, rfl⟩ := List.getElem?_eq_some_iff.mp hj
  have z := List.pairwise_iff_getElem.mp nd
  rcases Nat.lt_or_gt_of_ne h with q | q
  · exact z i j h1 h2 q
  · exact (z j i h2 h1 q).symm
/-- G: what is never changed; it stays through a change at p, if p is none of it -/
theorem sub_chg (s : Same G H) (n : G p = none) (c : Chg p H H') : Same G H' := fun b o e => c b o (s b o e) (ne_of_none e n)
theorem sub_upd {o : HO} (s : Same G H) (n : G p = none) : Same G (upd H p o) := fun b u e => by
  rw [upd_ne (ne_of_none e n)]
  exact s b u e
/-- G grows by what stands in H -/
theorem sub_grow {o : HO} (s : Same G H) (h : H p = some o) : Same (upd G p o) H := fun b u e => by
  by_cases z : b = p
  · subst z
    rw [upd_same] at e
    rw [← e]
    exact h
  · rw [upd_ne z] at e
    exact s b u e
theorem same_grow {o : HO} (n : G p = none) : Same G (upd G p o) := same_new n
theorem none_upd {o : HO} (h : G q = none) (n : q ≠ p) : upd G p o q = none := by rw [upd_ne n]; exact h
/-- G: H without the places of bs -/
def cutH (H : Hp) (bs : List Addr) : Hp := fun b => if b ∈ bs then none else H b
theorem cut_none {bs : List Addr} (h : p ∈ bs) : cutH H bs p = none := if_pos h
theorem cut_some {bs : List Addr} (h : p ∉ bs) : cutH H bs p = H p := if_neg h
theorem cut_same {bs : List Addr} : Same (cutH H bs) H := fun b o e => by
  by_cases h : b ∈ bs
  · rw [cut_none h] at e; cases e
  · rw [cut_some h] at e; exact e
end
section
variable {K : PySem.W.Frag} {σ : L2.St} {H : Hp} {Q : VK} {ta tb tc te : TE} {tl th : TO} {xs : List V}
theorem w_slT {a : Addr} {lo hi : Option Int} (h : SqT K H a xs) (hw : ¬ (HT.sIx xs.length 0 lo = 0 ∧ HT.sIx xs.length xs.length hi = xs.length)) (q : ∀ p, H p = none → Q (.ref p) (upd H p (.tup (cutV xs lo hi)))) : rSlT K (.ref a) lo hi H Q := ⟨a, xs, rfl, h, hw, q⟩
theorem w_inL {neg : Bool} {a : Addr} {x : V} (h : SqL K H a xs) (h1 : flatV x = true) (h2 : xs.all flatV = true) (q : Q (.bl (if neg then !inV x xs else inV x xs)) H) : rIn K neg x (.ref a) H Q := ⟨a, xs, rfl, .inl h, h1, h2, q⟩
theorem w_inT {neg : Bool} {a : Addr} {x : V} (h : SqT K H a xs) (h1 : flatV x = true) (h2 : xs.all flatV = true) (q : Q (.bl (if neg then !inV x xs else inV x xs)) H) : rIn K neg x (.ref a) H Q := ⟨a, xs, rfl, .inr h, h1, h2, q⟩
theorem w_chain {r r' : R2} (q : ta σ H fun x H1 => tb σ H1 fun y H2 => r x y H2 fun z H3 => ∃ k, z = .bl k ∧ (if k = true then tc σ H3 fun w' H4 => r' y w' H4 Q else Q (.bl false) H3)) : tChain r r' ta tb tc σ H Q := q
theorem w_sl {r : V → Option Int → Option Int → Hp → VK → Prop} (q : te σ H fun x H1 => tl σ H1 fun l H2 => th σ H2 fun u H3 => r x l u H3 Q) : tSl r te tl th σ H Q := q
theorem w_nopart {Q : Option Int → Hp → Prop} (q : Q none H) : tNoPart σ H Q := q
theorem w_part {Q : Option Int → Hp → Prop} (q : te σ H fun x H1 => ∃ i, x = .int i ∧ Q (some i) H1) : tPart te σ H Q := q
theorem w_ei {i : Int} {R : Int → Prop} (q : R i) : ∃ k, V.int i = .int k ∧ R k := ⟨i, rfl, q⟩
theorem w_slL {a : Addr} {lo hi : Option Int} (h : SqL K H a xs) (q : ∀ p, H p = none → Q (.ref p) (upd H p (.lst (cutV xs lo hi)))) : rSlL K (.ref a) lo hi H Q := ⟨a, xs, rfl, h, q⟩
def kRev (K : PySem.W.Frag) (Q : VK) (x : V) (H : Hp) : Prop := ∃ a xs, x = .ref a ∧ SqL K H a xs ∧ ∀ p, H p = none → Q (.ref p) (upd H p (.lst xs.reverse))
theorem w_rev0 (q : te σ H fun x H1 => kRev K Q x H1) : tRevL K te σ H Q := q
theorem w_rev {a : Addr} (h : SqL K H a xs) (q : ∀ p, H p = none → Q (.ref p) (upd H p (.lst xs.reverse))) : kRev K Q (.ref a) H := ⟨a, xs, rfl, h, q⟩
theorem w_rep {a : Addr} {k : Int} (h : H a = some (.lst xs)) (h1 : -100000 ≤ k) (h2 : k ≤ 100000) (hz : xs.length ≤ 100) (q : ∀ p, H p = none → Q (.ref p) (upd H p (.lst (List.replicate k.toNat xs).flatten))) : rRep (.ref a) (.int k) H Q :=
  ⟨a, k, xs, rfl, rfl, h, by omega, by omega, by
    have e : xs.length * k.toNat ≤ 100 * 100000 := Nat.mul_le_mul hz (by omega)
    exact Nat.le_trans e (by decide), q⟩
theorem sIx_int (n d : Nat) (i : Int) (h : 0 ≤ i) : HT.sIx n d (some i) = min i.toNat n := by
  obtain ⟨k, rfl⟩ : ∃ k : Nat, i = (k : Int) := ⟨i.toNat, by omega⟩
  rw [HT.sIx_nat]
  simp
theorem cut_to {j : Int} (h : 0 ≤ j) : cutV xs none (some j) = xs.take j.toNat := by
  unfold cutV
  rw [HT.sIx_none, sIx_int _ _ _ h]
  by_cases q : j.toNat ≤ xs.length
  · rw [Nat.min_eq_left q]; simp
  · rw [Nat.min_eq_right (by omega), List.take_of_length_le (by omega : xs.length ≤ j.toNat)]; simp
theorem cut_from {i : Int} (h : 0 ≤ i) : cutV xs (some i) none = xs.drop i.toNat := by
  unfold cutV
  rw [HT.sIx_none, sIx_int _ _ _ h]
  by_cases q : i.toNat ≤ xs.length
  · rw [Nat.min_eq_left q, List.take_of_length_le (by rw [List.length_drop]; omega)]
  · rw [Nat.min_eq_right (by omega)]
    simp [List.drop_eq_nil_of_le (by omega : xs.length ≤ i.toNat)]
theorem cut_mid {i j : Int} (h : 0 ≤ i) (hj : i ≤ j) : cutV xs (some i) (some j) = (xs.drop i.toNat).take (j.toNat - i.toNat) := by
  unfold cutV
  rw [sIx_int _ _ _ h, sIx_int _ _ _ (by omega)]
  by_cases q : i.toNat ≤ xs.length
  · rw [Nat.min_eq_left q]
    by_cases q2 : j.toNat ≤ xs.length
    · rw [Nat.min_eq_left q2]
    · rw [Nat.min_eq_right (by omega), List.take_of_length_le (by rw [List.length_drop]; omega), List.take_of_length_le (by rw [List.length_drop]; omega)]
  · rw [Nat.min_eq_right (by omega)]
    simp [List.drop_eq_nil_of_le (by omega : xs.length ≤ i.toNat)]
    exact .inr (by omega)
end
/-! ### comprehensions over a list of things, with tests: what is kept of each is known -/
theorem map_at {α : Type} {es : List α} {it : α → V} {i : Nat} {x : V} (h : (es.map it)[i]? = some x) : ∃ e, es[i]? = some e ∧ e ∈ es ∧ x = it e := by
  rw [List.getElem?_map] at h
  cases q : es[i]? with
  | none => rw [q] at h; cases h
  | some e =>
    rw [q] at h
    exact ⟨e, rfl, List.mem_of_getElem? q, (Option.some.inj h).symm⟩
section
variable {K : PySem.W.Frag} {σ : L2.St} {H : Hp} {Q : VK} {g : TG} {tt : TT} {te tl : TE} {l : Addr} {vs : List Nat}
theorem lcF_inv {α : Type} (es : List α) (it : α → V) (kp : α → Option V) (htl : ∀ R : VK, R (.ref l) H → tl σ H R) (h : SqL K H l (es.map it)) (hz : es.length ≤ 100000)
    (step : ∀ e, e ∈ es → ∀ (H' : Hp) (R : VK) (S : Hp → Prop), Same H H' → (∀ y, kp e = some y → ∀ H4, Same H' H4 → R y H4) → (kp e = none → ∀ H4, Same H' H4 → S H4) → g (it e) (wipe σ vs) H' fun σ2 H2 => wipe σ2 vs = wipe σ vs ∧ tt σ2 H2 fun b H3 => if b = true then te σ2 H3 R else S H3)
    (q : ∀ D H', Same H H' → H D = none → H' D = some (.lst (es.filterMap kp)) → Q (.ref D) H') : tLc (iList K tl) g tt te vs σ H Q := by
  refine htl _ ⟨l, rfl, ⟨_, h⟩, fun D nD => ?_⟩
  refine lc_list (K := K) (a := l) (xs := es.map it) (fun i H' => i ≤ es.length ∧ Same H H' ∧ H' D = some (.lst ((es.take i).filterMap kp))) ⟨Nat.zero_le _, same_new nD, upd_same⟩ (fun i H' _ p => p.2.1.seq h) (fun i x H' hx p => ?_) (fun H' p => q D H' p.2.1 nD (by
    have e := p.2.2
    rw [List.length_map, List.take_length] at e
    exact e))
  obtain ⟨e, he, hin, rfl⟩ := map_at hx
  have hi : i < es.length := (List.getElem?_eq_some_iff.mp he).1
  have et : es.take (i + 1) = es.take i ++ [e] := by rw [List.take_succ, he]; rfl
  have lz : ((es.take i).filterMap kp).length < sizeLine := by
    refine Nat.lt_of_le_of_lt (List.length_filterMap_le _ _) (Nat.lt_of_le_of_lt ?_ (by decide : 100000 < sizeLine))
    rw [List.length_take]
    omega
  refine step e hin H' _ _ p.2.1 (fun y hy H4 s4 => ⟨_, s4 _ _ p.2.2, lz, hi, same_updF (p.2.1.trans s4) nD, ?_⟩) fun hn H4 s4 => ⟨hi, p.2.1.trans s4, ?_⟩
  · rw [upd_same, et, List.filterMap_append]
    simp [hy]
  · rw [et, List.filterMap_append, s4 _ _ p.2.2]
    simp [hn]
theorem lcF_tup {α : Type} (es : List α) (it : α → V) (kp : α → Option V) (htl : ∀ R : VK, R (.ref l) H → tl σ H R) (h : SqT K H l (es.map it)) (hz : es.length ≤ 100000)
    (step : ∀ e, e ∈ es → ∀ (H' : Hp) (R : VK) (S : Hp → Prop), Same H H' → (∀ y, kp e = some y → ∀ H4, Same H' H4 → R y H4) → (kp e = none → ∀ H4, Same H' H4 → S H4) → g (it e) (wipe σ vs) H' fun σ2 H2 => wipe σ2 vs = wipe σ vs ∧ tt σ2 H2 fun b H3 => if b = true then te σ2 H3 R else S H3)
    (q : ∀ D H', Same H H' → H D = none → H' D = some (.lst (es.filterMap kp)) → Q (.ref D) H') : tLc (iTup K tl) g tt te vs σ H Q := by
  refine htl _ ⟨l, rfl, ⟨_, h⟩, fun D nD => ?_⟩
  refine lc_tup (K := K) (a := l) (xs := es.map it) (fun i H' => i ≤ es.length ∧ Same H H' ∧ H' D = some (.lst ((es.take i).filterMap kp))) ⟨Nat.zero_le _, same_new nD, upd_same⟩ (fun i H' _ p => same_seqT p.2.1 h) (fun i x H' hx p => ?_) (fun H' p => q D H' p.2.1 nD (by
    have e := p.2.2
    rw [List.length_map, List.take_length] at e
    exact e))
  obtain ⟨e, he, hin, rfl⟩ := map_at hx
  have hi : i < es.length := (List.getElem?_eq_some_iff.mp he).1
  have et : es.take (i + 1) = es.take i ++ [e] := by rw [List.take_succ, he]; rfl
  have lz : ((es.take i).filterMap kp).length < sizeLine := by
    refine Nat.lt_of_le_of_lt (List.length_filterMap_le _ _) (Nat.lt_of_le_of_lt ?_ (by decide : 100000 < sizeLine))
    rw [List.length_take]
    omega
  refine step e hin H' _ _ p.2.1 (fun y hy H4 s4 => ⟨_, s4 _ _ p.2.2, lz, hi, same_updF (p.2.1.trans s4) nD, ?_⟩) fun hn H4 s4 => ⟨hi, p.2.1.trans s4, ?_⟩
  · rw [upd_same, et, List.filterMap_append]
    simp [hy]
  · rw [et, List.filterMap_append, s4 _ _ p.2.2]
    simp [hn]
end
/-! ### refusals told -/
theorem w_only {K : PySem.W.Frag} {c : Value} {ts : Addr → Value → Option Addr → TS} {Wout : WX} {D : Ends} {σ : L2.St} {H : Hp} {cls : Value} {d : Option Addr} (h : PySem.W.exmOne K cls c = some true) (q : ∀ a, H a = none → ts a cls d D σ H) : wOnly K c ts Wout D cls d σ H :=
  ⟨true, h, fun _ => q, fun z => by cases z⟩
/-! ### lists of pairs of ints, compared -/
def pairD (q : Int × Int) : PyData := .tuple [.int q.1, .int q.2]
theorem pairs_lay : ∀ ps : List (Int × Int), PyData.canLayAll0 (ps.map pairD) = true
  | [] => rfl
  | q :: ps => by
    rw [List.map_cons]
    simp only [PyData.canLayAll0, pairs_lay ps, pairD, PyData.canLay0, Bool.and_self]
theorem pairs_depth : ∀ ps : List (Int × Int), PyData.depthAll (ps.map pairD) ≤ 3
  | [] => by simp [PyData.depthAll]
  | q :: ps => by
    have h := pairs_depth ps
    rw [List.map_cons]
    simp only [PyData.depthAll, pairD, PyData.depth] at h ⊢
    omega
theorem pairs_shaped (ps : List (Int × Int)) : SeqAt.shaped (.list (ps.map pairD)) = true := by
  unfold SeqAt.shaped
  have h := pairs_depth ps
  rw [Bool.and_eq_true]
  refine ⟨by rw [PyData.canLay0]; exact pairs_lay ps, decide_eq_true ?_⟩
  simp only [PyData.depth]
  omega
theorem pairs_eqv (ps : List (Int × Int)) : PyData.eqv (.list (ps.map pairD)) (.list (ps.map pairD)) = true := SeqAt.eqv_refl _ (by rw [PyData.canLay0]; exact pairs_lay ps)
theorem pairs_dp {K : PySem.W.Frag} {H : Hp} : ∀ {rs : List Addr} {ps : List (Int × Int)}, rs.length = ps.length → (∀ (i : Nat) (r : Addr) (m f : Int), rs[i]? = some r → ps[i]? = some (m, f) → H r = some (.tup [.int m, .int f])) → DpAll K H (rs.map V.ref) (ps.map pairD)
  | [], [], _, _ => .nil
  | [], _ :: _, h, _ => by cases h
  | _ :: _, [], h, _ => by cases h
  | r :: rs, (m, f) :: ps, h, k => by
    rw [List.map_cons, List.map_cons]
    exact .cons (.tup (SqT.of (k 0 r m f rfl rfl)) (.cons (.int m) (.cons (.int f) .nil))) (pairs_dp (Nat.succ.inj h) fun i r m f a b => k (i + 1) r m f a b)
theorem w_neD {K : PySem.W.Frag} {H : Hp} {Q : VK} {x y : V} (d : PyData) (h1 : Dp K H x d) (h2 : Dp K H y d) (hs : SeqAt.shaped d = true) (he : PyData.eqv d d = true) (q : Q (.bl false) H) : rNeD K x y H Q := ⟨d, d, h1, h2, hs, hs, by rw [he]; exact q⟩
theorem w_eqD {K : PySem.W.Frag} {H : Hp} {Q : VK} {x y : V} (d : PyData) (h1 : Dp K H x d) (h2 : Dp K H y d) (hs : SeqAt.shaped d = true) (he : PyData.eqv d d = true) (q : Q (.bl true) H) : rEqD K x y H Q := ⟨d, d, h1, h2, hs, hs, by rw [he]; exact q⟩
/-! ### list(range(..)), tuple(range(..)) -/
section
variable {σ : L2.St} {H : Hp} {Q : VK} {ta tb : TE} {te : L2.St → Hp → (Int → Int → Hp → Prop) → Prop}
theorem w_lstRg (q : te σ H fun a b H1 => RgOk a b ∧ ∀ q, H1 q = none → Q (.ref q) (upd H1 q (.lst (rgV a b)))) : tLstRg te σ H Q := q
theorem w_tupRg (q : te σ H fun a b H1 => RgOk a b ∧ ∀ q, H1 q = none → Q (.ref q) (upd H1 q (.tup (rgV a b)))) : tTupRg te σ H Q := q
theorem w_rg1 {Q : Int → Int → Hp → Prop} (q : ta σ H fun x H1 => ∃ n, x = .int n ∧ Q 0 n H1) : tRg1 ta σ H Q := q
theorem w_rg2 {Q : Int → Int → Hp → Prop} (q : ta σ H fun x H1 => tb σ H1 fun y H2 => ∃ i j, x = .int i ∧ y = .int j ∧ Q i j H2) : tRg2 ta tb σ H Q := q
theorem w_eij {i j : Int} {R : Int → Int → Prop} (q : R i j) : ∃ k l, V.int i = .int k ∧ V.int j = .int l ∧ R k l := ⟨i, j, rfl, rfl, q⟩
theorem w_rgok {a b : Int} {R : Prop} (h : 0 ≤ a ∧ b ≤ 16777216 ∧ a ≤ 16777216 ∧ 0 ≤ b) (q : R) : RgOk a b ∧ R := ⟨RgOk.of_le h.1 h.2.1 h.2.2.1 h.2.2.2, q⟩
end
/-! ### values as data: laid, not deep, told apart by == -/
structure DtOk {α : Type} [DecidableEq α] (d : α → PyData) (n : Nat) : Prop where
  lay : ∀ x, (d x).canLay0 = true
  dep : ∀ x, (d x).depth ≤ n
  eqv : ∀ x y, PyData.eqv (d x) (d y) = decide (x = y)
  non : ∀ x, PyData.eqv .none (d x) = false ∧ PyData.eqv (d x) .none = false
section
variable {α β : Type} [DecidableEq α] [DecidableEq β] {d : α → PyData} {n : Nat} {K : PySem.W.Frag} {H : Hp} {Q : VK}
theorem DtOk.int : DtOk PyData.int 0 := ⟨fun x => by rw [PyData.canLay0], fun x => by simp [PyData.depth], fun x y => by
  simp only [PyData.eqv]
  by_cases h : x = y
  · subst h; simp
  · rw [decide_eq_false h]; simpa using h, fun x => by simp [PyData.eqv]⟩
theorem DtOk.layAll (h : DtOk d n) : ∀ xs : List α, PyData.canLayAll0 (xs.map d) = true
  | [] => rfl
  | x :: xs => by
    rw [List.map_cons]
    simp only [PyData.canLayAll0, h.lay x, h.layAll xs, Bool.and_self]
theorem DtOk.depAll (h : DtOk d n) : ∀ xs : List α, PyData.depthAll (xs.map d) ≤ n
  | [] => by simp [PyData.depthAll]
  | x :: xs => by
    have h1 := h.depAll xs
    have h2 := h.dep x
    rw [List.map_cons]
    simp only [PyData.depthAll] at h1 ⊢
    omega
theorem DtOk.eqvAll (h : DtOk d n) : ∀ xs ys : List α, PyData.eqvAll (xs.map d) (ys.map d) = decide (xs = ys)
  | [], [] => by simp [PyData.eqvAll]
  | [], y :: ys => by simp [PyData.eqvAll]
  | x :: xs, [] => by simp [PyData.eqvAll]
  | x :: xs, y :: ys => by
    rw [List.map_cons, List.map_cons]
    simp only [PyData.eqvAll, h.eqv x y, h.eqvAll xs ys]
    by_cases e : x = y <;> by_cases e2 : xs = ys <;> simp [e, e2]
theorem DtOk.list (h : DtOk d n) : DtOk (fun xs : List α => .list (xs.map d)) (n + 1) := ⟨fun xs => by rw [PyData.canLay0]; exact h.layAll xs, fun xs => by
  have := h.depAll xs
  simp only [PyData.depth]
  omega, fun xs ys => by rw [PyData.eqv]; exact h.eqvAll xs ys, fun x => by simp [PyData.eqv]⟩
theorem DtOk.tuple (h : DtOk d n) : DtOk (fun xs : List α => .tuple (xs.map d)) (n + 1) := ⟨fun xs => by rw [PyData.canLay0]; exact h.layAll xs, fun xs => by
  have := h.depAll xs
  simp only [PyData.depth]
  omega, fun xs ys => by rw [PyData.eqv]; exact h.eqvAll xs ys, fun x => by simp [PyData.eqv]⟩
/-- told apart by what they are made of -/
theorem DtOk.of {f : β → α} (h : DtOk d n) (hf : ∀ x y, f x = f y → x = y) : DtOk (fun x => d (f x)) n := ⟨fun x => h.lay _, fun x => h.dep _, fun x y => by
  rw [h.eqv]
  by_cases e : x = y
  · subst e; simp
  · rw [decide_eq_false e, decide_eq_false (fun z => e (hf _ _ z))], fun x => h.non _⟩
def optD (d : α → PyData) : Option α → PyData
  | none => .none
  | some x => d x
theorem DtOk.opt (h : DtOk d n) : ∀ x y : Option α, (optD d x).canLay0 = true ∧ (optD d x).depth ≤ n ∧ PyData.eqv (optD d x) (optD d y) = decide (x = y)
  | none, none => ⟨by simp only [optD]; rw [PyData.canLay0], by simp [optD, PyData.depth], by simp [optD, PyData.eqv]⟩
  | none, some y => ⟨by simp only [optD]; rw [PyData.canLay0], by simp [optD, PyData.depth], by simp [optD, (h.non y).1]⟩
  | some x, none => ⟨h.lay x, h.dep x, by simp [optD, (h.non x).2]⟩
  | some x, some y => ⟨h.lay x, h.dep x, by simp [optD, h.eqv]⟩
theorem shaped_of {e : PyData} (h : e.canLay0 = true) (h2 : e.depth ≤ n) (hn : n ≤ 64) : SeqAt.shaped e = true := by
  unfold SeqAt.shaped
  rw [Bool.and_eq_true]
  exact ⟨h, decide_eq_true (Nat.le_trans h2 hn)⟩
theorem w_eqDt (h : DtOk d n) {x y : V} {a b : α} (h1 : Dp K H x (d a)) (h2 : Dp K H y (d b)) (q : Q (.bl (decide (a = b))) H) (hn : n ≤ 64 := by decide) : rEqD K x y H Q :=
  ⟨d a, d b, h1, h2, shaped_of (h.lay a) (h.dep a) hn, shaped_of (h.lay b) (h.dep b) hn, by rw [h.eqv]; exact q⟩
theorem w_neDt (h : DtOk d n) {x y : V} {a b : α} (h1 : Dp K H x (d a)) (h2 : Dp K H y (d b)) (q : Q (.bl (!decide (a = b))) H) (hn : n ≤ 64 := by decide) : rNeD K x y H Q :=
  ⟨d a, d b, h1, h2, shaped_of (h.lay a) (h.dep a) hn, shaped_of (h.lay b) (h.dep b) hn, by rw [h.eqv]; exact q⟩
theorem w_eqDo (h : DtOk d n) {x y : V} {a b : Option α} (h1 : Dp K H x (optD d a)) (h2 : Dp K H y (optD d b)) (q : Q (.bl (decide (a = b))) H) (hn : n ≤ 64 := by decide) : rEqD K x y H Q :=
  ⟨_, _, h1, h2, shaped_of (h.opt a a).1 (h.opt a a).2.1 hn, shaped_of (h.opt b b).1 (h.opt b b).2.1 hn, by rw [(h.opt a b).2.2]; exact q⟩
theorem w_neDo (h : DtOk d n) {x y : V} {a b : Option α} (h1 : Dp K H x (optD d a)) (h2 : Dp K H y (optD d b)) (q : Q (.bl (!decide (a = b))) H) (hn : n ≤ 64 := by decide) : rNeD K x y H Q :=
  ⟨_, _, h1, h2, shaped_of (h.opt a a).1 (h.opt a a).2.1 hn, shaped_of (h.opt b b).1 (h.opt b b).2.1 hn, by rw [(h.opt a b).2.2]; exact q⟩
theorem dp_map {d : α → PyData} {it : α → V} : ∀ es : List α, (∀ e ∈ es, Dp K H (it e) (d e)) → DpAll K H (es.map it) (es.map d)
  | [], _ => .nil
  | e :: es, h => by
    rw [List.map_cons, List.map_cons]
    exact .cons (h e (List.mem_cons_self ..)) (dp_map es fun e' h' => h e' (List.mem_cons_of_mem _ h'))
theorem dp_mapE {α : Type} {d : α → PyData} {it : α → V} : ∀ es : List α, (∀ e ∈ es, Dp K H (it e) (d e)) → DpAll K H (es.map it) (es.map d)
  | [], _ => .nil
  | e :: es, h => by
    rw [List.map_cons, List.map_cons]
    exact .cons (h e (List.mem_cons_self ..)) (dp_mapE es fun e' h' => h e' (List.mem_cons_of_mem _ h'))
end
/-! ### 1. What values are -/
def isI : V → Bool
  | .int _ => true
  | _ => false
def cnt : V → Bool
  | .int n => decide (0 ≤ n)
  | _ => false
/-- its type is known, and says whether it is an int that is no bool -/
def KInt (K : PySem.W.Frag) (H : Hp) (v : V) (b : Bool) : Prop := ∃ (t : Value) (b1 b2 : Bool), TyX K H v t ∧ PySem.W.kitOne K t (.type "int") = some b1 ∧ (b1 = true → PySem.W.kitOne K t (.type "bool") = some b2) ∧ b = (b1 && !b2)
theorem kint_int {K : PySem.W.Frag} {H : Hp} (n : Int) : KInt K H (.int n) true :=
  ⟨.type "int", true, false, .base (.int n), kit_ty (by decide +kernel), fun _ => kit_ty (by decide +kernel), rfl⟩
def spInt (K : PySem.W.Frag) : Sp := fun vs H Q _ => ∃ (v : V) (b : Bool), vs = [v] ∧ KInt K H v b ∧ Q (.bl b) H
def spCount (K : PySem.W.Frag) : Sp := fun vs H Q _ => ∃ (v : V), vs = [v] ∧ KInt K H v (isI v) ∧ Q (.bl (cnt v)) H
def spList (K : PySem.W.Frag) : Sp := fun vs H Q _ => ∃ (v : V) (t : Value) (b : Bool), vs = [v] ∧ TyX K H v t ∧ PySem.W.kitAny K t [.type "list", .type "tuple"] = some b ∧ ∀ H', Same H H' → Q (.bl b) H'
/-- a pot: two numbers that are not negative, the second one small -/
def Pot (H : Hp) (p : Addr) : Prop := ∃ x y : Int, H p = some (.lst [.int x, .int y]) ∧ 0 ≤ x ∧ 0 ≤ y ∧ y < 4294967296
def spPot (K : PySem.W.Frag) : Sp := fun vs H Q _ => ∃ (s : Addr) (ns : List Int) (k : Int), vs = [.ref s, .int k] ∧ SqL K H s (ns.map V.int) ∧ 0 ≤ k ∧ k ≤ 1000 ∧
  ∀ p H', Same H H' → H p = none → Pot H' p → Q (.ref p) H'
def spDraw : Sp := fun vs H Q _ => ∃ (p : Addr) (n : Int), vs = [.ref p, .int n] ∧ Pot H p ∧ 0 < n ∧ n < 1000000000 ∧
  ∀ d H', Chg p H H' → Pot H' p → 0 ≤ d → d < n → Q (.int d) H'
def spPick (K : PySem.W.Frag) : Sp := fun vs H Q _ => ∃ (p s : Addr) (xs : List V), vs = [.ref p, .ref s] ∧ Pot H p ∧ SqL K H s xs ∧ s ≠ p ∧ (∀ H', Chg p H H' → SqL K H' s xs) ∧ 0 < xs.length ∧ xs.length < 1000000000 ∧
  ∀ v H', Chg p H H' → Pot H' p → v ∈ xs → Q v H'
theorem Pot.same {H H' : Hp} {p : Addr} (s : Same H H') : Pot H p → Pot H' p := fun ⟨x, y, h, r⟩ => ⟨x, y, s _ _ h, r⟩
theorem Pot.chg {H H' : Hp} {p q : Addr} (s : Chg q H H') (n : p ≠ q) : Pot H p → Pot H' p := fun ⟨x, y, h, r⟩ => ⟨x, y, s _ _ h n, r⟩
theorem Pot.upd {H : Hp} {p q : Addr} {o : HO} (n : p ≠ q) : Pot H p → Pot (L2.upd H q o) p := fun ⟨x, y, h, r⟩ => ⟨x, y, (upd_ne n).trans h, r⟩
theorem Pot.new {H : Hp} {p q : Addr} {o : HO} (n : H q = none) : Pot H p → Pot (L2.upd H q o) p := Pot.same (same_new n)
theorem Pot.ne {H : Hp} {p q : Addr} (n : H q = none) : Pot H p → p ≠ q := fun ⟨x, y, h, r⟩ => ne_of_none h n
theorem Pot.ntup {H : Hp} {p : Addr} : Pot H p → ∀ xs, H p ≠ some (.tup xs) := fun ⟨x, y, h, _⟩ xs z => by rw [h] at z; cases z
def due (ns : List Int) (i : Nat) (m : Int) : Int := if i < ns.length then ns.getD i 0 % m else 0
def spDue (K : PySem.W.Frag) : Sp := fun vs H Q _ => ∃ (s : Addr) (ns : List Int) (i : Nat) (m : Int), vs = [.ref s, .int i, .int m] ∧ SqL K H s (ns.map V.int) ∧ 0 < m ∧ Q (.int (due ns i m)) H
/-! ### 2. Whims -/
def fW (t : Addr) (n : Int) : List (Str × V) := [("own_numbers", V.ref t), ("own_taken", V.int n)]
/-- a Whims of the numbers ns stands at w, n were taken -/
def WhAt (C : Addr) (H : Hp) (w : Addr) (ns : List Int) (n : Nat) : Prop := ∃ dx t, H w = some (.ins C dx (fW t n)) ∧ H t = some (.tup (ns.map V.int))
def NumsOk (ns : List Int) : Prop := ns.length ≤ 200 ∧ ∀ n ∈ ns, 0 ≤ n ∧ n ≤ 1000000
def spWInit (C : Addr) : Sp := fun vs H Q _ => ∃ (x dx l : Addr) (ns : List Int), vs = [.ref x, .ref l] ∧ H x = some (.ins C dx []) ∧ (H l = some (.lst (ns.map V.int)) ∨ H l = some (.tup (ns.map V.int))) ∧ NumsOk ns ∧
  ∀ H', Chg x H H' → WhAt C H' x ns 0 → Q .non H'
def spWTaken (C : Addr) : Sp := fun vs H Q _ => ∃ (x : Addr) (ns : List Int) (n : Nat), vs = [.ref x] ∧ WhAt C H x ns n ∧ Q (.int n) H
def spWTake (K : PySem.W.Frag) (C D : Addr) : Sp := fun vs H Q E => ∃ (x : Addr) (ns : List Int) (n : Nat) (m : Int), vs = [.ref x, .int m] ∧ WhAt C H x ns n ∧ (0 < m → ∀ H', Chg x H H' → WhAt C H' x ns (n + 1) → Q (.int (due ns n m)) H') ∧
  (¬ 0 < m → ∀ d H', Same H H' → H d = none → H' d = some (.xd [("value", .int m)]) → E (.ref D) (some d) H')
def spWCopy (C : Addr) : Sp := fun vs H Q _ => ∃ (x : Addr) (ns : List Int) (n : Nat), vs = [.ref x] ∧ WhAt C H x ns n ∧ NumsOk ns ∧ ∀ y H', Same H H' → H y = none → WhAt C H' y ns n → Q (.ref y) H'
theorem WhAt.same {C : Addr} {H H' : Hp} {w : Addr} {ns : List Int} {n : Nat} (s : Same H H') : WhAt C H w ns n → WhAt C H' w ns n := fun ⟨dx, t, h1, h2⟩ => ⟨dx, t, s _ _ h1, s _ _ h2⟩
theorem WhAt.chg {C x : Addr} {H H' : Hp} {w : Addr} {ns : List Int} {n : Nat} (c : Chg x H H') (h : w ≠ x) (hx : ∀ xs, H x ≠ some (.tup xs)) : WhAt C H w ns n → WhAt C H' w ns n := fun ⟨dx, t, h1, h2⟩ =>
  ⟨dx, t, c _ _ h1 h, c _ _ h2 (fun z => hx _ (by rw [← z]; exact h2))⟩
theorem WhAt.ne_pot {C : Addr} {H : Hp} {w p : Addr} {ns : List Int} {n : Nat} : WhAt C H w ns n → Pot H p → w ≠ p := fun ⟨dx, t, h1, _⟩ ⟨x, y, h2, _⟩ => ne_of h1 h2 (by intro z; cases z)
theorem WhAt.updL {C : Addr} {H : Hp} {w x : Addr} {ns : List Int} {n : Nat} {xs : List V} {o : HO} (z : WhAt C H w ns n) (h : H x = some (.lst xs)) : WhAt C (L2.upd H x o) w ns n := by
  obtain ⟨dx, t, h1, h2⟩ := z
  exact ⟨dx, t, (upd_ne (ne_of h1 h (by intro z; cases z))).trans h1, (upd_ne (ne_of h2 h (by intro z; cases z))).trans h2⟩
/-! ### bits, the lowest first -/
def bitsL : Nat → Int → List Int
  | 0, _ => []
  | n + 1, x => x % 2 :: bitsL n (x / 2)
def ofL : List Int → Int
  | [] => 0
  | b :: r => b + 2 * ofL r
def addL : List Int → List Int → Int → List Int
  | p :: a, q :: b, c => (p + q + c) % 2 :: addL a b ((p + q + c) / 2)
  | _, _, _ => []
theorem bitsL_len (n : Nat) : ∀ x, (bitsL n x).length = n := by
  induction n with
  | zero => intro x; rfl
  | succ n ih => intro x; simp [bitsL, ih]
theorem mod_two_mul (t u M : Int) (hM : 0 < M) : (t + 2 * u) % (2 * M) = t % 2 + 2 * ((t / 2 + u) % M) := by
  have h1 := Int.emod_add_mul_ediv (t / 2 + u) M
  have h2 := Int.emod_nonneg (t / 2 + u) (show M ≠ 0 by omega)
  have h3 := Int.emod_lt_of_pos (t / 2 + u) hM
  have e : t + 2 * u = (t % 2 + 2 * ((t / 2 + u) % M)) + (2 * M) * ((t / 2 + u) / M) := by
    have h4 : 2 * (t / 2 + u) = 2 * ((t / 2 + u) % M) + (2 * M) * ((t / 2 + u) / M) := by
      rw [Int.mul_assoc, ← Int.mul_add, h1]
    omega
  rw [e, Int.add_mul_emod_self_left]
  exact Int.emod_eq_of_lt (by omega) (by omega)
theorem pow_pos2 (n : Nat) : (0 : Int) < 2 ^ n := Int.pow_pos (by decide)
theorem of_bits (n : Nat) : ∀ x, ofL (bitsL n x) = x % 2 ^ n := by
  induction n with
  | zero => intro x; simp [bitsL, ofL, Int.emod_one]
  | succ n ih =>
    intro x
    show x % 2 + 2 * ofL (bitsL n (x / 2)) = _
    rw [ih, Int.pow_succ', show x = x + 2 * 0 by omega, mod_two_mul _ _ _ (pow_pos2 n)]
    simp
theorem of_add : ∀ (a b : List Int) (c : Int), a.length = b.length → ofL (addL a b c) = (ofL a + ofL b + c) % 2 ^ a.length
  | [], [], c, _ => by simp [addL, ofL, Int.emod_one]
  | p :: a, q :: b, c, h => by
    have ih := of_add a b ((p + q + c) / 2) (by simpa using h)
    show (p + q + c) % 2 + 2 * ofL (addL a b ((p + q + c) / 2)) = (p + 2 * ofL a + (q + 2 * ofL b) + c) % 2 ^ (a.length + 1)
    rw [ih, Int.pow_succ', show p + 2 * ofL a + (q + 2 * ofL b) + c = (p + q + c) + 2 * (ofL a + ofL b) by omega, mod_two_mul _ _ _ (pow_pos2 _)]
    congr 3
    omega
theorem add_len : ∀ (a b : List Int) (c : Int), a.length = b.length → (addL a b c).length = a.length
  | [], [], _, _ => rfl
  | p :: a, q :: b, c, h => by
    show (addL a b _).length + 1 = a.length + 1
    rw [add_len a b _ (by simpa using h)]
theorem of_app : ∀ (a b : List Int), ofL (a ++ b) = ofL a + 2 ^ a.length * ofL b
  | [], b => by simp [ofL]
  | p :: a, b => by
    show p + 2 * ofL (a ++ b) = p + 2 * ofL a + 2 ^ (a.length + 1) * ofL b
    rw [of_app a b, Int.pow_succ', Int.mul_assoc]
    omega
theorem bits_take : ∀ (n k : Nat) (x : Int), (bitsL n x).take k = bitsL (min k n) x
  | 0, k, x => by simp [bitsL]
  | n + 1, 0, x => by simp [bitsL]
  | n + 1, k + 1, x => by
    rw [show min (k + 1) (n + 1) = min k n + 1 by omega]
    simp [bitsL, bits_take n k]
theorem bits_drop : ∀ (n k : Nat) (x : Int), (bitsL n x).drop k = bitsL (n - k) (x / 2 ^ k)
  | 0, k, x => by simp [bitsL]
  | n + 1, 0, x => by simp
  | n + 1, k + 1, x => by
    rw [show n + 1 - (k + 1) = n - k by omega, Int.pow_succ', ← Int.ediv_ediv_of_nonneg (by decide)]
    simp [bitsL, bits_drop n k]
theorem bits_mem : ∀ (n : Nat) (x b : Int), b ∈ bitsL n x → b = 0 ∨ b = 1
  | 0, x, b, h => by cases h
  | n + 1, x, b, h => by
    rcases List.mem_cons.mp h with h | h
    · omega
    · exact bits_mem n _ b h
theorem of_rep (k : Nat) : ofL (List.replicate k 0) = 0 := by
  induction k with
  | zero => rfl
  | succ k ih => simp [List.replicate_succ, ofL, ih]
/-- both, either, unlike -/
theorem of_and (n : Nat) : ∀ (x y : Nat), x < 2 ^ n → y < 2 ^ n → ofL (List.zipWith (fun p q => p * q) (bitsL n x) (bitsL n y)) = ((x &&& y : Nat) : Int) := by
  induction n with
  | zero =>
    intro x y hx hy
    have e : x = 0 := by simpa using hx
    have e' : y = 0 := by simpa using hy
    subst e e'
    simp [bitsL, ofL]
  | succ n ih =>
    intro x y hx hy
    have h := ih (x / 2) (y / 2) (by rw [Nat.pow_succ] at hx; omega) (by rw [Nat.pow_succ] at hy; omega)
    show (fun p q : Int => p * q) ((x : Int) % 2) ((y : Int) % 2) + 2 * ofL (List.zipWith _ (bitsL n ((x : Int) / 2)) (bitsL n ((y : Int) / 2))) = _
    rw [show (x : Int) / 2 = ((x / 2 : Nat) : Int) by omega, show (y : Int) / 2 = ((y / 2 : Nat) : Int) by omega, h]
    have e1 : (x &&& y) / 2 = x / 2 &&& y / 2 := Nat.and_div_two
    have e2 : (x &&& y) % 2 = (x % 2) &&& (y % 2) := Nat.and_mod_two_pow (n := 1)
    rw [← e1]
    have q1 : x % 2 = 0 ∨ x % 2 = 1 := by omega
    have q2 : y % 2 = 0 ∨ y % 2 = 1 := by omega
    have q3 : (x : Int) % 2 = ((x % 2 : Nat) : Int) := by omega
    have q4 : (y : Int) % 2 = ((y % 2 : Nat) : Int) := by omega
    show (fun p q : Int => p * q) ((x : Int) % 2) ((y : Int) % 2) + _ = _
    rw [q3, q4]
    rcases q1 with q1 | q1 <;> rcases q2 with q2 | q2 <;> (rw [q1, q2] at e2 ⊢; generalize x &&& y = z at e2 ⊢; simp at e2 ⊢; omega)
theorem of_or (n : Nat) : ∀ (x y : Nat), x < 2 ^ n → y < 2 ^ n → ofL (List.zipWith (fun p q => if q > p then q else p) (bitsL n x) (bitsL n y)) = ((x ||| y : Nat) : Int) := by
  induction n with
  | zero =>
    intro x y hx hy
    have e : x = 0 := by simpa using hx
    have e' : y = 0 := by simpa using hy
    subst e e'
    simp [bitsL, ofL]
  | succ n ih =>
    intro x y hx hy
    have h := ih (x / 2) (y / 2) (by rw [Nat.pow_succ] at hx; omega) (by rw [Nat.pow_succ] at hy; omega)
    show (fun p q : Int => if q > p then q else p) ((x : Int) % 2) ((y : Int) % 2) + 2 * ofL (List.zipWith _ (bitsL n ((x : Int) / 2)) (bitsL n ((y : Int) / 2))) = _
    rw [show (x : Int) / 2 = ((x / 2 : Nat) : Int) by omega, show (y : Int) / 2 = ((y / 2 : Nat) : Int) by omega, h]
    have e1 : (x ||| y) / 2 = x / 2 ||| y / 2 := Nat.or_div_two
    have e2 : (x ||| y) % 2 = (x % 2) ||| (y % 2) := Nat.or_mod_two_pow (n := 1)
    rw [← e1]
    have q1 : x % 2 = 0 ∨ x % 2 = 1 := by omega
    have q2 : y % 2 = 0 ∨ y % 2 = 1 := by omega
    have q3 : (x : Int) % 2 = ((x % 2 : Nat) : Int) := by omega
    have q4 : (y : Int) % 2 = ((y % 2 : Nat) : Int) := by omega
    show (fun p q : Int => if q > p then q else p) ((x : Int) % 2) ((y : Int) % 2) + _ = _
    rw [q3, q4]
    rcases q1 with q1 | q1 <;> rcases q2 with q2 | q2 <;> (rw [q1, q2] at e2 ⊢; generalize x ||| y = z at e2 ⊢; simp at e2 ⊢; omega)
theorem of_xor (n : Nat) : ∀ (x y : Nat), x < 2 ^ n → y < 2 ^ n → ofL (List.zipWith (fun p q => if p - q < 0 then -(p - q) else p - q) (bitsL n x) (bitsL n y)) = ((x ^^^ y : Nat) : Int) := by
  induction n with
  | zero =>
    intro x y hx hy
    have e : x = 0 := by simpa using hx
    have e' : y = 0 := by simpa using hy
    subst e e'
    simp [bitsL, ofL]
  | succ n ih =>
    intro x y hx hy
    have h := ih (x / 2) (y / 2) (by rw [Nat.pow_succ] at hx; omega) (by rw [Nat.pow_succ] at hy; omega)
    show (fun p q : Int => if p - q < 0 then -(p - q) else p - q) ((x : Int) % 2) ((y : Int) % 2) + 2 * ofL (List.zipWith _ (bitsL n ((x : Int) / 2)) (bitsL n ((y : Int) / 2))) = _
    rw [show (x : Int) / 2 = ((x / 2 : Nat) : Int) by omega, show (y : Int) / 2 = ((y / 2 : Nat) : Int) by omega, h]
    have e1 : (x ^^^ y) / 2 = x / 2 ^^^ y / 2 := Nat.xor_div_two
    have e2 : (x ^^^ y) % 2 = (x % 2) ^^^ (y % 2) := Nat.xor_mod_two_pow (n := 1)
    rw [← e1]
    have q1 : x % 2 = 0 ∨ x % 2 = 1 := by omega
    have q2 : y % 2 = 0 ∨ y % 2 = 1 := by omega
    have q3 : (x : Int) % 2 = ((x % 2 : Nat) : Int) := by omega
    have q4 : (y : Int) % 2 = ((y % 2 : Nat) : Int) := by omega
    show (fun p q : Int => if p - q < 0 then -(p - q) else p - q) ((x : Int) % 2) ((y : Int) % 2) + _ = _
    rw [q3, q4]
    rcases q1 with q1 | q1 <;> rcases q2 with q2 | q2 <;> (rw [q1, q2] at e2 ⊢; generalize x ^^^ y = z at e2 ⊢; simp at e2 ⊢; omega)
/-! ### times: the rows of the one word, added where the other has a bit -/
theorem pow_split (y : Int) (i : Nat) : y % 2 ^ (i + 1) = y % 2 ^ i + 2 ^ i * (y / 2 ^ i % 2) := by
  have h1 := Int.emod_add_mul_ediv y (2 ^ i)
  have h2 := Int.emod_add_mul_ediv (y / 2 ^ i) 2
  have h3 := Int.emod_nonneg y (show (2 : Int) ^ i ≠ 0 from (by have := pow_pos2 i; omega))
  have h4 := Int.emod_lt_of_pos y (pow_pos2 i)
  have h5 : y / 2 ^ i % 2 = 0 ∨ y / 2 ^ i % 2 = 1 := by omega
  have hp := pow_pos2 i
  have e : y = (y % 2 ^ i + 2 ^ i * (y / 2 ^ i % 2)) + 2 ^ (i + 1) * (y / 2 ^ i / 2) := by
    rw [Int.pow_succ, Int.mul_assoc, Int.add_assoc, ← Int.mul_add, h2, h1]
  conv => lhs; rw [e]
  rw [Int.add_mul_emod_self_left]
  refine Int.emod_eq_of_lt ?_ ?_
  · rcases h5 with h | h <;> rw [h] <;> omega
  · rw [Int.pow_succ]
    rcases h5 with h | h <;> rw [h] <;> omega
theorem nat_and_put (x lo m : Nat) : x &&& ((2 ^ m - 1) * 2 ^ lo) = 2 ^ lo * ((x / 2 ^ lo) % 2 ^ m) := by
  refine Nat.eq_of_testBit_eq fun i => ?_
  rw [Nat.testBit_and, Nat.testBit_mul_two_pow, Nat.testBit_two_pow_mul, Nat.testBit_mod_two_pow, Nat.testBit_div_two_pow, Nat.testBit_two_pow_sub_one]
  by_cases h : lo ≤ i
  · simp [h, Nat.sub_add_cancel h, Nat.add_sub_cancel' h]
    cases x.testBit i <;> simp
  · simp [h]
theorem nat_put (x lo m v : Nat) (hv : v < 2 ^ m) : (x - (x &&& ((2 ^ m - 1) * 2 ^ lo))) ||| (v * 2 ^ lo) = x % 2 ^ lo + 2 ^ lo * v + 2 ^ (lo + m) * (x / 2 ^ (lo + m)) := by
  have h1 := Nat.div_add_mod x (2 ^ lo)
  have h2 := Nat.div_add_mod (x / 2 ^ lo) (2 ^ m)
  have hl : x % 2 ^ lo < 2 ^ lo := Nat.mod_lt _ (Nat.two_pow_pos _)
  have e1 : x - (x &&& ((2 ^ m - 1) * 2 ^ lo)) = 2 ^ lo * (2 ^ m * (x / 2 ^ lo / 2 ^ m)) + x % 2 ^ lo := by
    rw [nat_and_put]
    have e : 2 ^ lo * (x / 2 ^ lo) = 2 ^ lo * (2 ^ m * (x / 2 ^ lo / 2 ^ m)) + 2 ^ lo * (x / 2 ^ lo % 2 ^ m) := by
      rw [← Nat.mul_add, h2]
    omega
  have e2 : (2 ^ lo * (2 ^ m * (x / 2 ^ lo / 2 ^ m)) + x % 2 ^ lo) ||| (v * 2 ^ lo) = 2 ^ lo * ((2 ^ m * (x / 2 ^ lo / 2 ^ m)) ||| v) + x % 2 ^ lo := by
    refine Nat.eq_of_testBit_eq fun i => ?_
    rw [Nat.testBit_or, Nat.testBit_two_pow_mul_add _ hl, Nat.testBit_two_pow_mul_add _ hl, Nat.testBit_mul_two_pow]
    by_cases h : i < lo
    · simp [h, Nat.not_le.mpr h]
    · simp [h, Nat.not_lt.mp h]
  rw [e1, e2, ← Nat.two_pow_add_eq_or_of_lt hv, Nat.mul_add, Nat.pow_add, Nat.div_div_eq_div_mul, Nat.mul_assoc]
  omega
theorem int_put {x lo m v : Int} (hx : 0 ≤ x) (h0 : 0 ≤ lo) (h1 : 0 ≤ m) (hv : 0 ≤ v) (hv2 : v < 2 ^ m.toNat) :
    Builtin.bitOr (Builtin.bitAnd x (Builtin.bitNot ((1 * 2 ^ m.toNat - 1) * 2 ^ lo.toNat))) (v * 2 ^ lo.toNat) = x % 2 ^ lo.toNat + 2 ^ lo.toNat * v + 2 ^ (lo.toNat + m.toNat) * (x / 2 ^ (lo.toNat + m.toNat)) := by
  obtain ⟨x, rfl⟩ := Int.eq_ofNat_of_zero_le hx
  obtain ⟨v, rfl⟩ := Int.eq_ofNat_of_zero_le hv
  generalize lo.toNat = lo
  generalize m.toNat = m at hv2 ⊢
  have hv3 : v < 2 ^ m := by exact_mod_cast hv2
  have hp : 1 ≤ 2 ^ m := Nat.two_pow_pos m
  have eM : ((1 : Int) * 2 ^ m - 1) * 2 ^ lo = (((2 ^ m - 1) * 2 ^ lo : Nat) : Int) := by
    rw [Int.one_mul, Int.natCast_mul, Int.natCast_sub hp]
    simp
  have eA : Builtin.bitAnd (x : Int) (Builtin.bitNot ((1 * 2 ^ m - 1) * 2 ^ lo)) = ((x - (x &&& ((2 ^ m - 1) * 2 ^ lo)) : Nat) : Int) := by
    rw [eM]
    generalize (2 ^ m - 1) * 2 ^ lo = M
    have hle : x &&& M ≤ x := Nat.and_le_left
    rw [PyProof.Rows.bitAnd_not, PyProof.Rows.bitAnd_pp (by omega) (by omega), Int.toNat_natCast, Int.toNat_natCast]
    omega
  rw [eA]
  have eV : (v : Int) * 2 ^ lo = ((v * 2 ^ lo : Nat) : Int) := by simp
  rw [eV, Bits.bitOr_pp (by omega) (by omega), Int.toNat_natCast, Int.toNat_natCast, nat_put x lo m v hv3]
  simp
theorem pow_le2 {k n : Nat} (h : k ≤ n) : (2 : Int) ^ k ≤ 2 ^ n := by exact_mod_cast Nat.pow_le_pow_right (by decide) h
/-! ### words, numbers within bounds: asked for, refused -/
def isWord : V → Bool
  | .int n => decide (0 ≤ n) && decide (n < 65536)
  | _ => false
def isMany (lo hi : Int) : V → Bool
  | .int n => decide (0 ≤ n) && (decide (lo ≤ n) && decide (n ≤ hi))
  | _ => false
def W16 (x : Int) : Prop := 0 ≤ x ∧ x < 65536
theorem isWord_of {x : Int} (h : W16 x) : isWord (.int x) = true := by
  obtain ⟨h1, h2⟩ := h
  simp [isWord, h1, h2]
theorem isMany_of {x lo hi : Int} (h0 : 0 ≤ x) (h1 : lo ≤ x) (h2 : x ≤ hi) : isMany lo hi (.int x) = true := by simp [isMany, h0, h1, h2]
/-- what is wanted of a refusal of v by an error of the class at C -/
def Refuse (C : Addr) (E : XK) (H : Hp) (v : V) : Prop := ∀ d H', Same H H' → H d = none → H' d = some (.xd [("value", v)]) → E (.ref C) (some d) H'
def spIsWord (K : PySem.W.Frag) : Sp := fun vs H Q _ => ∃ (v : V), vs = [v] ∧ KInt K H v (isI v) ∧ Q (.bl (isWord v)) H
def spWantWord (K : PySem.W.Frag) (C : Addr) : Sp := fun vs H Q E => ∃ (v : V), vs = [v] ∧ KInt K H v (isI v) ∧ (isWord v = true → Q .non H) ∧ (isWord v = false → Refuse C E H v)
def spWantMany (K : PySem.W.Frag) (C : Addr) : Sp := fun vs H Q E => ∃ (v : V) (lo hi : Int), vs = [v, .int lo, .int hi] ∧ KInt K H v (isI v) ∧ (isMany lo hi v = true → Q .non H) ∧ (isMany lo hi v = false → Refuse C E H v)
theorem w_wantWord {K : PySem.W.Frag} {C : Addr} {H : Hp} {Q : VK} {E : XK} {x : Int} (h : W16 x) (q : Q .non H) : spWantWord K C [.int x] H Q E := ⟨_, rfl, kint_int x, fun _ => q, fun z => by rw [isWord_of h] at z; cases z⟩
theorem w_wantMany {K : PySem.W.Frag} {C : Addr} {H : Hp} {Q : VK} {E : XK} {x lo hi : Int} (h0 : 0 ≤ x) (h1 : lo ≤ x) (h2 : x ≤ hi) (q : Q .non H) : spWantMany K C [.int x, .int lo, .int hi] H Q E := ⟨_, _, _, rfl, kint_int x, fun _ => q, fun z => by rw [isMany_of h0 h1 h2] at z; cases z⟩
/-- two words to one number -/
def spW2 (f : Int → Int → Int) (ok : Int → Int → Prop) : Sp := fun vs H Q _ => ∃ x y : Int, vs = [.int x, .int y] ∧ ok x y ∧ Q (.int (f x y)) H
def spI1 (f : Int → Int) (ok : Int → Prop) : Sp := fun vs H Q _ => ∃ x : Int, vs = [.int x] ∧ ok x ∧ Q (.int (f x)) H
def spI3 (f : Int → Int → Int → Int) (ok : Int → Int → Int → Prop) : Sp := fun vs H Q _ => ∃ x y z : Int, vs = [.int x, .int y, .int z] ∧ ok x y z ∧ Q (.int (f x y z)) H
def spI4 (f : Int → Int → Int → Int → Int) (ok : Int → Int → Int → Int → Prop) : Sp := fun vs H Q _ => ∃ x y z u : Int, vs = [.int x, .int y, .int z, .int u] ∧ ok x y z u ∧ Q (.int (f x y z u)) H
def spTwoW (K : PySem.W.Frag) : Sp := fun vs H Q _ => ∃ x y : Int, vs = [.int x, .int y] ∧ (W16 x ∧ W16 y) ∧ Q .non H
/-- a new list of ints -/
def NewL (H : Hp) (Q : VK) (xs : List Int) : Prop := ∀ p H', Same H H' → H p = none → H' p = some (.lst (xs.map V.int)) → Q (.ref p) H'
/-! ### loops and comprehensions over anything that is walked -/
def kLoop (g : TG) (tb : TS) (D : Ends) (σ : L2.St) (J : It) (H : Hp) : Prop := ∃ W : Nat → Nat → L2.St → Hp → Prop, (∃ m, W 0 m σ H) ∧ ∀ i m σ H, W i m σ H →
  (J.stop i H ∧ D.nx σ H) ∨ (J.go i H ∧ ∃ N : L2.St → Hp → Prop, (∀ σ' H', N σ' H' → ∃ m', m' < m ∧ W (i + 1) m' σ' H') ∧ ∀ x H', J.yld i H x H' → g x σ H' fun σ2 H2 => tb { D with nx := N, ct := N, bk := D.nx } σ2 H2)
def kComp (g : TG) (te : TE) (vs : List Nat) (σ : L2.St) (Q : VK) (J : It) (H : Hp) : Prop := ∀ D, H D = none → ∃ W : Nat → Nat → Hp → Prop, (∃ m, W 0 m (upd H D (.lst []))) ∧ ∀ i m H, W i m H →
  (J.stop i H ∧ Q (.ref D) H) ∨ (J.go i H ∧ ∃ Nx : Hp → Prop, (∀ H', Nx H' → ∃ m', m' < m ∧ W (i + 1) m' H') ∧ ∀ x H', J.yld i H x H' → g x (wipe σ vs) H' fun σ2 H2 => wipe σ2 vs = wipe σ vs ∧ tYes σ2 H2 fun b H3 =>
    if b = true then te σ2 H3 fun y H4 => ∃ acc, H4 D = some (.lst acc) ∧ acc.length < sizeLine ∧ Nx (upd H4 D (.lst (acc ++ [y]))) else Nx H3)
section
variable {K : PySem.W.Frag} {σ : L2.St} {H : Hp} {g : TG} {tb : TS} {te tl : TE} {ta : TA} {nx bk ct : L2.St → Hp → Prop} {rt Q : VK} {vs : List Nat} {J : It} {n : Nat} {G : Hp → Prop} {Y : Nat → Hp → V → Hp → Prop} {R : It → Hp → Prop}
def kZip (K : PySem.W.Frag) (R : It → Hp → Prop) (us : List V) (H : Hp) : Prop := ∃ a b xs ys, us = [.ref a, .ref b] ∧ SqL K H a xs ∧ SqL K H b ys ∧ R (Itz K a b) H
def kEnum (K : PySem.W.Frag) (R : It → Hp → Prop) (us : List V) (H : Hp) : Prop := ∃ a xs, us = [.ref a] ∧ SqL K H a xs ∧ R (Ite K a) H
theorem w_forZ (q : ta σ H fun us H1 => kZip K (kLoop g tb ⟨nx, rt, bk, ct⟩ σ) us H1) : tFor (iZip K ta) g tb ⟨nx, rt, bk, ct⟩ σ H := q
theorem w_forE (q : ta σ H fun us H1 => kEnum K (kLoop g tb ⟨nx, rt, bk, ct⟩ σ) us H1) : tFor (iEnum K ta) g tb ⟨nx, rt, bk, ct⟩ σ H := q
theorem w_lcZ (q : ta σ H fun us H1 => kZip K (kComp g te vs σ Q) us H1) : tLc (iZip K ta) g tYes te vs σ H Q := q
theorem w_lcE (q : ta σ H fun us H1 => kEnum K (kComp g te vs σ Q) us H1) : tLc (iEnum K ta) g tYes te vs σ H Q := q
theorem w_zip {a b : Addr} {xs ys : List V} (h1 : SqL K H a xs) (h2 : SqL K H b ys) (q : R (Itz K a b) H) : kZip K R [.ref a, .ref b] H := ⟨a, b, xs, ys, rfl, h1, h2, q⟩
theorem w_enum {a : Addr} {xs : List V} (h1 : SqL K H a xs) (q : R (Ite K a) H) : kEnum K R [.ref a] H := ⟨a, xs, rfl, h1, q⟩
theorem w_loop (w : Walk J n G Y) (Pv : Nat → L2.St → Hp → Prop) (h0 : Pv 0 σ H) (hG : ∀ i σ H, i ≤ n → Pv i σ H → G H)
    (hs : ∀ i x σ' H' H'', i < n → Pv i σ' H' → Y i H' x H'' → g x σ' H'' fun σ2 H2 => tb ⟨Pv (i + 1), rt, nx, Pv (i + 1)⟩ σ2 H2) (hd : ∀ σ' H', Pv n σ' H' → nx σ' H') : kLoop g tb ⟨nx, rt, bk, ct⟩ σ J H :=
  for_it w (D := ⟨nx, rt, bk, ct⟩) Pv h0 hG hs hd
/-- each turn of a comprehension gives f i, and nothing that stood is changed -/
theorem w_comp (f : Nat → V) (w : Walk J n G Y) (hn : n ≤ 100000) (hG : ∀ H', Same H H' → G H')
    (step : ∀ (i : Nat) (x : V) (H' H'' : Hp) (R : VK) (S : Hp → Prop), i < n → Same H H' → Y i H' x H'' → (Same H' H'' → ∀ H4, Same H'' H4 → R (f i) H4) → g x (wipe σ vs) H'' fun σ2 H2 => wipe σ2 vs = wipe σ vs ∧ tYes σ2 H2 fun b H3 => if b = true then te σ2 H3 R else S H3)
    (q : ∀ D H', Same H H' → H D = none → H' D = some (.lst ((List.range n).map f)) → Q (.ref D) H') : kComp g te vs σ Q J H := fun D nD => by
  refine lc_it w (fun i H' => i ≤ n ∧ Same H H' ∧ H' D = some (.lst ((List.range i).map f))) ⟨Nat.zero_le _, same_new nD, upd_same⟩ (fun i H' _ p => hG _ p.2.1) (fun i x H' H'' hi p y => ?_) (fun H' p => q D H' p.2.1 nD p.2.2)
  refine step i x H' H'' _ _ hi p.2.1 y fun s4 H4 s5 => ?_
  have hD4 := s5 _ _ (s4 _ _ p.2.2)
  refine ⟨_, hD4, ?_, hi, lc_inv nD ((p.2.1.trans s4).trans s5) hD4 _ rfl⟩
  rw [List.length_map, List.length_range]
  exact Nat.lt_of_lt_of_le (Nat.lt_of_lt_of_le hi hn) (by decide)
end
/-! ### lists of ints, compared -/
theorem ints_lay : ∀ ps : List Int, PyData.canLayAll0 (ps.map PyData.int) = true
  | [] => rfl
  | q :: ps => by
    rw [List.map_cons]
    simp only [PyData.canLayAll0, ints_lay ps, PyData.canLay0, Bool.and_self]
theorem ints_depth : ∀ ps : List Int, PyData.depthAll (ps.map PyData.int) ≤ 1
  | [] => by simp [PyData.depthAll]
  | q :: ps => by
    have h := ints_depth ps
    rw [List.map_cons]
    simp only [PyData.depthAll, PyData.depth] at h ⊢
    omega
theorem ints_shaped (ps : List Int) : SeqAt.shaped (.list (ps.map PyData.int)) = true := by
  unfold SeqAt.shaped
  have h := ints_depth ps
  rw [Bool.and_eq_true]
  refine ⟨by rw [PyData.canLay0]; exact ints_lay ps, decide_eq_true ?_⟩
  simp only [PyData.depth]
  omega
theorem ints_eqv (ps : List Int) : PyData.eqv (.list (ps.map PyData.int)) (.list (ps.map PyData.int)) = true := SeqAt.eqv_refl _ (by rw [PyData.canLay0]; exact ints_lay ps)
theorem ints_dp {K : PySem.W.Frag} {H : Hp} : ∀ ps : List Int, DpAll K H (ps.map V.int) (ps.map PyData.int)
  | [] => .nil
  | n :: ps => by
    rw [List.map_cons, List.map_cons]
    exact .cons (.int n) (ints_dp ps)
theorem w_neIs {K : PySem.W.Frag} {H : Hp} {Q : VK} {p r : Addr} {ps qs : List Int} (h1 : SqL K H p (ps.map V.int)) (h2 : SqL K H r (qs.map V.int)) (e : ps = qs) (q : Q (.bl false) H) : rNeD K (.ref p) (.ref r) H Q := by
  subst e
  exact w_neD (.list (ps.map PyData.int)) (.lst h1 (ints_dp ps)) (.lst h2 (ints_dp ps)) (ints_shaped _) (ints_eqv _) q
theorem w_eqIs {K : PySem.W.Frag} {H : Hp} {Q : VK} {p r : Addr} {ps qs : List Int} (h1 : SqL K H p (ps.map V.int)) (h2 : SqL K H r (qs.map V.int)) (e : ps = qs) (q : Q (.bl true) H) : rEqD K (.ref p) (.ref r) H Q := by
  subst e
  exact w_eqD (.list (ps.map PyData.int)) (.lst h1 (ints_dp ps)) (.lst h2 (ints_dp ps)) (ints_shaped _) (ints_eqv _) q
/-- what isinstance asks of the instances of the class at C -/
structure InsTy (K : PySem.W.Frag) (C : Addr) : Prop where
  ha : PySem.W.findIn K (.ref C) "__class__" = some (some (.builtin "object.__class__"))
  hn : PySem.W.specialIn K (.builtin "object.__class__") "__get__" = some (some (.builtin "getset_descriptor.__get__"))
  ht : PySem.W.takesIn K (.builtin "object.__class__") = some true
  hm : PySem.W.mroIn K C (.type "object") = some true
theorem InsTy.ty {K : PySem.W.Frag} {C a dx : Addr} {fs : List (Str × V)} {H : Hp} (i : InsTy K C) (c : Cls K C) (h : H a = some (.ins C dx fs)) : TyX K H (.ref a) (.ref C) := .base (.ins h c i.ha i.hn i.ht i.hm)
theorem kit_own {K : PySem.W.Frag} {t : String} {C : Addr} (h1 : PySem.W.isClsIn K C = true) (h2 : PySem.W.typeIn K (.ref C) = some (.type "type")) (h3 : PySem.W.subIn K (.type t) (.ref C) = some false) : PySem.W.kitOne K (.type t) (.ref C) = some false := by
  unfold PySem.W.kitOne
  rw [if_neg (by simp)]
  show (if ((PySem.W.clsIn K C).isSome && PySem.W.typeIn K (.ref C) == some (.type "type")) = true then PySem.W.subIn K (.type t) (.ref C) else none) = some false
  rw [if_pos (by rw [show (PySem.W.clsIn K C).isSome = true from h1, h2] <;> rfl)]
  exact h3
/-! ### x == y by x's own __eq__, whatever y is -/
structure EqC (K : PySem.W.Frag) (C f : Addr) : Prop where
  at_ : PySem.W.findIn K (.ref C) "__eq__" = some (some (.ref f))
  fn : PySem.W.isFn K (.ref f) = true
def rOwn (K : PySem.W.Frag) (C : Addr) (sp : Sp) (E : XK) : R2 := fun x y H Q => ∃ (a dx : Addr) (fs : List (Str × V)) (t : Value), x = .ref a ∧ H a = some (.ins C dx fs) ∧ TyX K H y t ∧ PySem.W.notFirst K C t = true ∧ sp [x, y] H (fun v H' => ∃ b, v = .bl b ∧ Q v H') E
section
open PySem.Spec PyProof.Rows
theorem op_own {X : Cx} {CX : CXT} {n : Nat} {C f : Addr} {fd : FuncData} {ps : List Str} {sp : Sp} {E : XK} (F : FnOk X.prog X.w X.K X.mg X.base CX n f fd ps sp) (q : EqC X.K C f) (hr : Room n X.A) (hb : Binds X.K fd ps []) (hx : Passes CX X E) : OpR X (compareOp .Eq) (rOwn X.K C sp E) := by
  intro pins s σ H x y v u Q I rx ry h
  obtain ⟨a, dx, fs, t, rfl, ha, ty, hn, hsp⟩ := h
  show wpAny (model X.prog X.w) X.A (richCompare .Eq v u) (EP X pins σ Q) X.xe s
  obtain rfl : v = Value.ref a := rx
  obtain ⟨mA, J, _⟩ := ins_get I.hok ha
  obtain ⟨od, J, _⟩ := J.look
  obtain ⟨m, hF⟩ := I.fr
  obtain ⟨P, Z, p, _⟩ := kit_of I ry ty
  refine PySem.W.cmp_K (op := .Eq) (tb := t) hr.units0 hF I.ok.mod.kin J (Z.ty _ _ I.kIn p) hn q.at_ q.fn ?_
  have hl := F.len _ _ _ _ hsp
  have r2 : Vals [V.ref a, y] [Value.ref a, u] := .cons rfl (.cons ry .nil)
  refine wpAny_call (codeAny_mono (F.run X.A X.stack s H ⟨[.ref a, u], []⟩ [.ref a, u] [.ref a, y] _ E hr I.env0 (by
    have h2 := hb s [.ref a, u] I.kIn (by simpa using hl)
    simpa using h2) r2 hsp) fun r s' hq => ?_)
  cases r with
  | error e => exact hx pins σ H s e s' I hq
  | ok fl =>
    cases fl with
    | ret w =>
      obtain ⟨z, H', I', rz, ⟨b, ez, q⟩⟩ := I.after hq
      subst ez
      cases rz
      exact ⟨.bl b, H', I', rfl, q⟩
    | next => exact False.elim hq
    | brk => exact False.elim hq
    | cont => exact False.elim hq
end
end Toy
namespace Toy
open PySem L2
/-! ## what stands apart: a small logic of places -/
/-- never changed by what is walked -/
def Imm : HO → Bool
  | .tup _ | .xd _ | .rng _ _ | .met _ _ | .own _ => true
  | .frz _ (.lst _) | .frz _ (.tup _) => true
  | _ => false
def Keep (S : Addr → Prop) (H H' : Hp) : Prop := ∀ a o, H a = some o → (S a ∨ Imm o = true) → H' a = some o
theorem Keep.mono {S T : Addr → Prop} {H H' : Hp} (k : Keep T H H') (h : ∀ a, S a → T a) : Keep S H H' := fun a o e q => k a o e (q.imp (h a) id)
structure HA where
  P : Hp → (Addr → Prop) → Prop
  st : ∀ {H H' : Hp} {S : Addr → Prop}, P H S → Keep S H H' → P H' S
  mu : ∀ {H : Hp} {S : Addr → Prop} {a : Addr}, P H S → S a → ∃ o, H a = some o ∧ Imm o = false
def HL : List HA → Hp → (Addr → Prop) → Prop
  | [], _, S => ∀ a, ¬ S a
  | A :: L, H, S => ∃ S1 S2, A.P H S1 ∧ HL L H S2 ∧ (∀ a, S1 a → ¬ S2 a) ∧ ∀ a, S a ↔ S1 a ∨ S2 a
theorem HL.st : ∀ {L : List HA} {H H' : Hp} {S : Addr → Prop}, HL L H S → Keep S H H' → HL L H' S
  | [], _, _, _, h, _ => h
  | A :: L, H, H', S, ⟨S1, S2, h1, h2, hd, hs⟩, k => ⟨S1, S2, A.st h1 (k.mono fun a q => (hs a).mpr (.inl q)), HL.st h2 (k.mono fun a q => (hs a).mpr (.inr q)), hd, hs⟩
theorem HL.mu : ∀ {L : List HA} {H : Hp} {S : Addr → Prop} {a : Addr}, HL L H S → S a → ∃ o, H a = some o ∧ Imm o = false
  | [], _, _, a, h, q => (h a q).elim
  | A :: L, H, S, a, ⟨S1, S2, h1, h2, hd, hs⟩, q => by
    rcases (hs a).mp q with q | q
    · exact A.mu h1 q
    · exact HL.mu h2 q
def Holds (L : List HA) (H : Hp) : Prop := ∃ S, HL L H S
def Ent (L : List HA) (φ : Hp → Prop) : Prop := ∀ H, Holds L H → φ H
def Sub (L M : List HA) : Prop := ∀ H S, HL L H S → ∃ S', HL M H S' ∧ ∀ a, S' a → S a
section
variable {L M N R : List HA} {A B : HA} {φ ψ : Hp → Prop} {H H' : Hp} {S : Addr → Prop}
theorem Sub.refl : Sub L L := fun H S h => ⟨S, h, fun _ q => q⟩
theorem Sub.trans (a : Sub L M) (b : Sub M N) : Sub L N := fun H S h => by
  obtain ⟨S1, h1, q1⟩ := a H S h
  obtain ⟨S2, h2, q2⟩ := b H S1 h1
  exact ⟨S2, h2, fun a q => q1 a (q2 a q)⟩
theorem Sub.cons (a : Sub L M) : Sub (A :: L) (A :: M) := fun H S ⟨S1, S2, h1, h2, hd, hs⟩ => by
  obtain ⟨S3, h3, q3⟩ := a H S2 h2
  refine ⟨fun b => S1 b ∨ S3 b, ⟨S1, S3, h1, h3, fun b q k => hd b q (q3 b k), fun b => Iff.rfl⟩, fun b q => (hs b).mpr (q.imp id (q3 b))⟩
theorem Sub.swap : Sub (A :: B :: L) (B :: A :: L) := fun H S ⟨S1, S2, h1, ⟨S3, S4, h3, h4, hd2, hs2⟩, hd, hs⟩ => by
  refine ⟨S, ⟨S3, fun b => S1 b ∨ S4 b, h3, ⟨S1, S4, h1, h4, fun b q k => hd b q ((hs2 b).mpr (.inr k)), fun b => Iff.rfl⟩, fun b q k => ?_, fun b => ?_⟩, fun _ q => q⟩
  · rcases k with k | k
    · exact hd b k ((hs2 b).mpr (.inl q))
    · exact hd2 b q k
  · rw [hs b, hs2 b]
    constructor
    · rintro (q | q | q)
      · exact .inr (.inl q)
      · exact .inl q
      · exact .inr (.inr q)
    · rintro (q | q | q)
      · exact .inr (.inl q)
      · exact .inl q
      · exact .inr (.inr q)
theorem Sub.drop (a : Sub L M) : Sub (A :: L) M := fun H S ⟨S1, S2, h1, h2, hd, hs⟩ => by
  obtain ⟨S3, h3, q3⟩ := a H S2 h2
  exact ⟨S3, h3, fun b q => (hs b).mpr (.inr (q3 b q))⟩
theorem Sub.nil : Sub L [] := fun H S h => ⟨fun _ => False, fun a q => q, fun a q => q.elim⟩
theorem Sub.to (a : Sub L M) : Holds L H → Holds M H := fun ⟨S, h⟩ => by
  obtain ⟨S1, h1, _⟩ := a H S h
  exact ⟨S1, h1⟩
theorem Ent.sub (a : Sub L M) (e : Ent M φ) : Ent L φ := fun H h => e H (a.to h)
theorem Ent.up (f : ∀ H, φ H → ψ H) (e : Ent L φ) : Ent L ψ := fun H h => f H (e H h)
theorem Holds.go (h : Holds L H) (e : Ent L φ) : φ H := e H h
theorem Ent.pure {p : Prop} (h : p) : Ent L fun _ => p := fun _ _ => h
/-- A is one of L; R the rest -/
def Take (A : HA) (L R : List HA) : Prop := Sub L (A :: R)
theorem take_here : Take A (A :: L) L := Sub.refl
theorem take_there (t : Take A L R) : Take A (B :: L) (B :: R) := (Sub.cons t).trans Sub.swap
theorem Ent.take (t : Take A L R) (e : Ent (A :: R) φ) : Ent L φ := e.sub t
theorem Sub.take (t : Take A L R) (s : Sub R M) : Sub L (A :: M) := Sub.trans t (Sub.cons s)
/-! ### what is made of these -/
def ex {α : Sort _} (F : α → HA) : HA := ⟨fun H S => ∃ x, (F x).P H S, fun ⟨x, h⟩ k => ⟨x, (F x).st h k⟩, fun ⟨x, h⟩ q => (F x).mu h q⟩
def pu (p : Prop) : HA := ⟨fun _ S => p ∧ ∀ a, ¬ S a, fun h _ => h, fun h q => (h.2 _ q).elim⟩
def all (M : List HA) : HA := ⟨fun H S => HL M H S, fun h k => h.st k, fun h q => h.mu q⟩
theorem Ent.ex {α : Sort _} {F : α → HA} (e : ∀ x, Ent (F x :: L) φ) : Ent (ex F :: L) φ := fun H ⟨S, S1, S2, ⟨x, h1⟩, h⟩ => e x H ⟨S, S1, S2, h1, h⟩
theorem Ent.pu {p : Prop} (e : p → Ent L φ) : Ent (pu p :: L) φ := fun H ⟨S, S1, S2, h1, h2, _⟩ => e h1.1 H ⟨S2, h2⟩
theorem Sub.ex {α : Sort _} {F : α → HA} (x : α) (s : Sub L (F x :: M)) : Sub L (ex F :: M) := fun H S h => by
  obtain ⟨S', ⟨S1, S2, h1, h2⟩, q⟩ := s H S h
  exact ⟨S', ⟨S1, S2, ⟨x, h1⟩, h2⟩, q⟩
theorem Sub.pu {p : Prop} (h : p) (s : Sub L M) : Sub L (pu p :: M) := fun H S k => by
  obtain ⟨S', h1, q⟩ := s H S k
  exact ⟨S', ⟨fun _ => False, S', ⟨h, fun _ q => q⟩, h1, fun _ q => q.elim, fun a => ⟨.inr, fun z => z.elim (fun z => z.elim) id⟩⟩, q⟩
theorem HL.app : ∀ {M : List HA} {S : Addr → Prop}, HL (M ++ L) H S ↔ ∃ S1 S2, HL M H S1 ∧ HL L H S2 ∧ (∀ a, S1 a → ¬ S2 a) ∧ ∀ a, S a ↔ S1 a ∨ S2 a
  | [], S => ⟨fun h => ⟨fun _ => False, S, fun _ q => q, h, fun _ q => q.elim, fun a => ⟨.inr, fun z => z.elim (fun z => z.elim) id⟩⟩, fun ⟨S1, S2, h1, h2, _, hs⟩ => by
      have e : S = S2 := funext fun a => propext ⟨fun q => ((hs a).mp q).elim (fun z => (h1 a z).elim) id, fun q => (hs a).mpr (.inr q)⟩
      rw [e]
      exact h2⟩
  | A :: M, S => by
    constructor
    · rintro ⟨S1, S2, h1, h2, hd, hs⟩
      obtain ⟨S3, S4, h3, h4, hd2, hs2⟩ := HL.app.mp h2
      refine ⟨fun a => S1 a ∨ S3 a, S4, ⟨S1, S3, h1, h3, fun a q k => hd a q ((hs2 a).mpr (.inl k)), fun a => Iff.rfl⟩, h4, fun a q k => ?_, fun a => ?_⟩
      · rcases q with q | q
        · exact hd a q ((hs2 a).mpr (.inr k))
        · exact hd2 a q k
      · rw [hs a, hs2 a, or_assoc]
    · rintro ⟨S1, S2, ⟨S3, S4, h3, h4, hd2, hs2⟩, h2, hd, hs⟩
      refine ⟨S3, fun a => S4 a ∨ S2 a, h3, HL.app.mpr ⟨S4, S2, h4, h2, fun a q k => hd a ((hs2 a).mpr (.inr q)) k, fun a => Iff.rfl⟩, fun a q k => ?_, fun a => ?_⟩
      · rcases k with k | k
        · exact hd2 a q k
        · exact hd a ((hs2 a).mpr (.inl q)) k
      · rw [hs a, hs2 a, or_assoc]
theorem Sub.all_e : Sub (all M :: L) (M ++ L) := fun H S h => ⟨S, HL.app.mpr h, fun _ q => q⟩
theorem Sub.all_i : Sub (M ++ L) (all M :: L) := fun H S h => ⟨S, HL.app.mp h, fun _ q => q⟩
theorem Ent.all (e : Ent (M ++ L) φ) : Ent (all M :: L) φ := e.sub Sub.all_e
theorem Sub.all (s : Sub L (M ++ N)) : Sub L (all M :: N) := s.trans Sub.all_i
/-- nothing owned: may be used again and again -/
class Pers (A : HA) : Prop where
  no : ∀ {H : Hp} {S : Addr → Prop} {a : Addr}, A.P H S → ¬ S a
instance {p : Prop} : Pers (pu p) := ⟨fun h q => h.2 _ q⟩
theorem Sub.dup [Pers A] : Sub (A :: L) (A :: A :: L) := fun H S ⟨S1, S2, h1, h2, hd, hs⟩ =>
  ⟨S, ⟨S1, S, h1, ⟨S1, S2, h1, h2, hd, hs⟩, fun a q => (Pers.no h1 q).elim, fun a => ⟨.inr, fun z => z.elim (fun z => (hs a).mpr (.inl z)) id⟩⟩, fun _ q => q⟩
theorem take_p [Pers A] : Take A (A :: L) (A :: L) := Sub.dup
theorem Take.keep [Pers A] (t : Take A L R) : Take A L L := fun H S h => by
  obtain ⟨S1, h1, q1⟩ := t H S h
  obtain ⟨S2, S3, h2, _⟩ := h1
  exact ⟨S, ⟨S2, S, h2, h, fun a q => (Pers.no h2 q).elim, fun a => ⟨.inr, fun z => z.elim (fun z => (Pers.no h2 z).elim) id⟩⟩, fun _ q => q⟩
/-! ### places -/
def pt (a : Addr) (o : HO) : HA := ⟨fun H S => H a = some o ∧ Imm o = false ∧ ∀ b, S b ↔ b = a, fun ⟨h, i, s⟩ k => ⟨k a o h (.inl ((s a).mpr rfl)), i, s⟩, fun ⟨h, i, s⟩ q => by
  rw [(s _).mp q]
  exact ⟨o, h, i⟩⟩
/-- one of the things that never change -/
def im (a : Addr) (o : HO) : HA := ⟨fun H S => H a = some o ∧ Imm o = true ∧ ∀ b, ¬ S b, fun ⟨h, i, s⟩ k => ⟨k a o h (.inr i), i, s⟩, fun ⟨_, _, s⟩ q => (s _ q).elim⟩
instance {a : Addr} {o : HO} : Pers (im a o) := ⟨fun h q => h.2.2 _ q⟩
abbrev tu (a : Addr) (xs : List V) : HA := im a (.tup xs)
variable {a p : Addr} {o u : HO}
theorem Holds.pt_get : Holds (pt a o :: L) H → H a = some o := fun ⟨_, _, _, h, _⟩ => h.1
theorem Holds.im_get : Holds (im a o :: L) H → H a = some o := fun ⟨_, _, _, h, _⟩ => h.1
theorem Take.pt (t : Take (pt a o) L R) (h : Holds L H) : H a = some o := (t.to h).pt_get
theorem Take.im (t : Take (im a o) L R) (h : Holds L H) : H a = some o := (t.to h).im_get
theorem Holds.upd (h : Holds (pt a o :: R) H) (hi : Imm u = false) : Holds (pt a u :: R) (upd H a u) := by
  obtain ⟨S, S1, S2, ⟨h1, i1, s1⟩, h2, hd, hs⟩ := h
  refine ⟨S, S1, S2, ⟨upd_same, hi, s1⟩, h2.st fun b ob e q => ?_, hd, hs⟩
  have n : b ≠ a := by
    rintro rfl
    rcases q with q | q
    · exact hd b ((s1 b).mpr rfl) q
    · rw [h1] at e
      cases e
      rw [i1] at q
      cases q
  rw [upd_ne n]
  exact e
theorem HL.free (h : HL L H S) (n : H p = none) (o : HO) : HL L (L2.upd H p o) S := h.st fun b ob e _ => by
  rw [upd_ne (ne_of_none e n)]
  exact e
theorem Holds.new (h : Holds L H) (n : H p = none) (hi : Imm o = false) : Holds (pt p o :: L) (L2.upd H p o) := by
  obtain ⟨S, h⟩ := h
  refine ⟨fun b => b = p ∨ S b, fun b => b = p, S, ⟨upd_same, hi, fun b => Iff.rfl⟩, h.free n o, fun b e q => ?_, fun b => Iff.rfl⟩
  subst e
  obtain ⟨o', e, _⟩ := h.mu q
  rw [n] at e
  cases e
theorem Holds.newI (h : Holds L H) (n : H p = none) (hi : Imm o = true) : Holds (im p o :: L) (L2.upd H p o) := by
  obtain ⟨S, h⟩ := h
  exact ⟨S, fun _ => False, S, ⟨upd_same, hi, fun b q => q⟩, h.free n o, fun b e q => e, fun b => ⟨.inr, fun z => z.elim (fun z => z.elim) id⟩⟩
/-- more stands -/
theorem Holds.same (h : Holds L H) (s : Same H H') : Holds L H' := by
  obtain ⟨S, h⟩ := h
  exact ⟨S, h.st fun b o e _ => s b o e⟩
theorem Holds.addI (h : Holds L H) (e : H p = some o) (hi : Imm o = true) : Holds (im p o :: L) H := by
  obtain ⟨S, h⟩ := h
  exact ⟨S, fun _ => False, S, ⟨e, hi, fun b q => q⟩, h, fun b e q => e, fun b => ⟨.inr, fun z => z.elim (fun z => z.elim) id⟩⟩
end
end Toy
namespace Toy
open PySem L2
/-! ### lists and tuples that are read -/
def sq (K : PySem.W.Frag) (a : Addr) (xs : List V) : HA := ⟨fun H S => (pt a (.lst xs)).P H S ∨ ((∃ o, H a = some (.frz o (.lst xs))) ∨ ∃ (o : Obj) (its : Array Value) (n : Nat), K.lookup a = some o ∧ o.cls = .type "list" ∧ o.dict = none ∧ o.data = .seq its n ∧ its.size ≤ sizeLine ∧ Vals xs its.toList) ∧ ∀ b, ¬ S b,
  fun h k => by
    rcases h with h | ⟨⟨o, h⟩ | h, s⟩
    · exact .inl ((pt a (.lst xs)).st h k)
    · exact .inr ⟨.inl ⟨o, k a _ h (.inr rfl)⟩, s⟩
    · exact .inr ⟨.inr h, s⟩, fun h q => by
    rcases h with h | ⟨_, s⟩
    · exact (pt a (.lst xs)).mu h q
    · exact (s _ q).elim⟩
def tq (K : PySem.W.Frag) (a : Addr) (xs : List V) : HA := ⟨fun H S => SqT K H a xs ∧ ∀ b, ¬ S b, fun ⟨h, s⟩ k => ⟨by
    rcases h with (h | ⟨o, h⟩) | h
    · exact .inl (.inl (k a _ h (.inr rfl)))
    · exact .inl (.inr ⟨o, k a _ h (.inr rfl)⟩)
    · exact .inr h, s⟩, fun ⟨_, s⟩ q => (s _ q).elim⟩
instance {K : PySem.W.Frag} {a : Addr} {xs : List V} : Pers (tq K a xs) := ⟨fun h q => h.2 _ q⟩
/-- xs is read at a wherever L stands -/
def HasL (K : PySem.W.Frag) (L : List HA) (a : Addr) (xs : List V) : Prop := ∀ H, Holds L H → SqL K H a xs
def HasT (K : PySem.W.Frag) (L : List HA) (a : Addr) (xs : List V) : Prop := ∀ H, Holds L H → SqT K H a xs
section
variable {K : PySem.W.Frag} {L M R : List HA} {A B : HA} {σ τ : St} {Q : VK} {D : Ends} {nx bk ct : St → Hp → Prop} {rt : VK} {v x y : V} {te ta tb tc to ti : TE} {t u : TS} {c d : TT} {a b p l : Addr} {xs ys zs : List V} {f : Str} {C dx : Addr} {fs : List (Str × V)} {tas tk : TA}
theorem hasL_pt (h : Take (pt a (.lst xs)) L R) : HasL K L a xs := fun _ q => SqL.of (h.pt q)
theorem hasL_sq (h : Take (sq K a xs) L R) : HasL K L a xs := fun H q => by
  obtain ⟨S, S1, S2, h1, _⟩ := h.to q
  rcases h1 with h | ⟨⟨o, h⟩ | h, s⟩
  · exact SqL.of h.1
  · exact .inl (.inr ⟨o, h⟩)
  · exact .inr h
theorem hasT_tu (h : Take (tu a xs) L R) : HasT K L a xs := fun _ q => SqT.of (h.im q)
theorem hasT_tq (h : Take (tq K a xs) L R) : HasT K L a xs := fun H q => by
  obtain ⟨S, S1, S2, h1, _⟩ := h.to q
  exact h1.1
theorem holds_sq {H : Hp} (h : SqL K H a xs) : Holds [sq K a xs] H := by
  rcases h with (h | ⟨o, h⟩) | h
  · exact ⟨fun b => b = a, fun b => b = a, fun _ => False, .inl ⟨h, rfl, fun b => Iff.rfl⟩, fun _ q => q, fun _ _ q => q, fun b => ⟨.inl, fun z => z.elim id False.elim⟩⟩
  · exact ⟨fun _ => False, fun _ => False, fun _ => False, .inr ⟨.inl ⟨o, h⟩, fun _ q => q⟩, fun _ q => q, fun _ _ q => q, fun b => ⟨.inl, fun z => z.elim id id⟩⟩
  · exact ⟨fun _ => False, fun _ => False, fun _ => False, .inr ⟨.inr h, fun _ q => q⟩, fun _ q => q, fun _ _ q => q, fun b => ⟨.inl, fun z => z.elim id id⟩⟩
theorem holds_nil {H : Hp} : Holds [] H := ⟨fun _ => False, fun _ q => q⟩
/-! ### rules by the written part's name; readings with names -/
section
variable {X : Cx}
theorem cxOf_K {CX : CXT} {P : Program} {w : World} {mg : Str → Option Value} {base : Heap} {N : List Str} {qual : Str} {scope : Scope} {f : Addr} {cd : Value} {A : Around} {outer : List Env} {s : Shared} {H : Hp} {E : XK} : (cxOf CX P w K mg base N qual scope f cd A outer s H E).K = K := rfl
def rLenK (K : PySem.W.Frag) : List V → Hp → VK → Prop := fun xs H Q => ∃ p ys, xs = [.ref p] ∧ (SqL K H p ys ∨ SqT K H p ys) ∧ Q (.int ys.length) H
theorem call_lenK (h : X.K = K := by rfl) : CallR X (.builtin "len") (rLenK K) := h ▸ call_len_seq
def rListK (K : PySem.W.Frag) : List V → Hp → VK → Prop := fun xs H Q => ∃ p ys, xs = [.ref p] ∧ (SqL K H p ys ∨ SqT K H p ys) ∧ ∀ l, H l = none → Q (.ref l) (upd H l (.lst ys))
theorem call_listK (h : X.K = K := by rfl) : CallR X (.type "list") (rListK K) := h ▸ call_list_of
def rTupK (K : PySem.W.Frag) : List V → Hp → VK → Prop := fun xs H Q => ∃ p ys, xs = [.ref p] ∧ ((SqL K H p ys ∧ ∀ l, H l = none → Q (.ref l) (upd H l (.tup ys))) ∨ (SqT K H p ys ∧ Q (.ref p) H))
theorem call_tupK (h : X.K = K := by rfl) : CallR X (.type "tuple") (rTupK K) := h ▸ call_tuple_of
def rDivK : List V → Hp → VK → Prop := fun xs H Q => ∃ i j, xs = [.int i, .int j] ∧ CDiv i j ∧ ∀ p, H p = none → Q (.ref p) (upd H p (.tup [.int (i / j), .int (i % j)]))
theorem call_divK : CallR X (.builtin "divmod") rDivK := call_divmod
end
def kNewT (Q : VK) (xs : List V) (H : Hp) : Prop := xs.length ≤ sizeLine ∧ ∀ p, H p = none → Q (.ref p) (upd H p (.tup xs))
def kNewL (Q : VK) (xs : List V) (H : Hp) : Prop := xs.length ≤ sizeLine ∧ ∀ p, H p = none → Q (.ref p) (upd H p (.lst xs))
def kRgL (Q : VK) (a b : Int) (H : Hp) : Prop := RgOk a b ∧ ∀ q, H q = none → Q (.ref q) (upd H q (.lst (rgV a b)))
def kRgT (Q : VK) (a b : Int) (H : Hp) : Prop := RgOk a b ∧ ∀ q, H q = none → Q (.ref q) (upd H q (.tup (rgV a b)))
def kMake (C : Addr) (sp : Sp) (E : XK) (Q : VK) (vs : List V) (H : Hp) : Prop := ∀ x dx, H x = none → H dx = none → dx ≠ x → sp (.ref x :: vs) (upd (upd H dx (.own x)) x (.ins C dx [])) (fun v H2 => v = .non ∧ Q (.ref x) H2) E
def kMakeK (C : Addr) (j l : Nat) (sp : Sp) (gV : List V → List V → List V) (E : XK) (Q : VK) (vs zs : List V) (H : Hp) : Prop := vs.length = j ∧ zs.length = l ∧ ∀ x dx, H x = none → H dx = none → dx ≠ x → sp (gV (.ref x :: vs) zs) (upd (upd H dx (.own x)) x (.ins C dx [])) (fun v H2 => v = .non ∧ Q (.ref x) H2) E
/-! ### which kind of reading stands -/
theorem gS {t : TS} {D : Ends} (q : Ent L fun H => t D σ H) : Ent L fun H => t D σ H := q
theorem gE {t : TE} (q : Ent L fun H => t σ H Q) : Ent L fun H => t σ H Q := q
theorem gT {t : TT} {Q : Bool → Hp → Prop} (q : Ent L fun H => t σ H Q) : Ent L fun H => t σ H Q := q
theorem gA {t : TA} {Q : List V → Hp → Prop} (q : Ent L fun H => t σ H Q) : Ent L fun H => t σ H Q := q
theorem gR {r : R2} (q : Ent L fun H => r x y H Q) : Ent L fun H => r x y H Q := q
theorem gC {r : List V → Hp → VK → Prop} (q : Ent L fun H => r xs H Q) : Ent L fun H => r xs H Q := q
theorem gM {r : V → List V → Hp → VK → Prop} (q : Ent L fun H => r x xs H Q) : Ent L fun H => r x xs H Q := q
theorem gX {α : Sort _} {p : α → Hp → Prop} (q : Ent L fun H => ∃ x, p x H) : Ent L fun H => ∃ x, p x H := q
theorem gI {c : Prop} [Decidable c] {φ ψ : Hp → Prop} (q : Ent L fun H => if c then φ H else ψ H) : Ent L fun H => if c then φ H else ψ H := q
theorem gN {p : Prop} {φ : Hp → Prop} (q : Ent L fun H => p ∧ φ H) : Ent L fun H => p ∧ φ H := q
theorem gG {v : V} {t : TG} {Q : St → Hp → Prop} (q : Ent L fun H => t v σ H Q) : Ent L fun H => t v σ H Q := q
/-! ### steps that change nothing -/
theorem e_in {N : List Str} {vs : List V} (h : start N vs = σ) (q : Ent L fun H => t D σ H) : Ent L fun H => t D (start N vs) H := by rw [h]; exact q
theorem e_var {i : Nat} (h : σ[i]? = some (some v)) (q : Ent L fun H => Q v H) : Ent L fun H => tVar i σ H Q := fun H hH => ⟨v, h, q H hH⟩
theorem e_c (q : Ent L fun H => Q v H) : Ent L fun H => tC v σ H Q := q
theorem e_op {r : R2} (q : Ent L fun H => ta σ H fun x H1 => tb σ H1 fun y H2 => r x y H2 Q) : Ent L fun H => tOp r ta tb σ H Q := q
theorem e_un {r : V → Hp → VK → Prop} (q : Ent L fun H => ta σ H fun x H1 => r x H1 Q) : Ent L fun H => tUn r ta σ H Q := q
theorem e_I0 {g : Int → Int → V} {i j : Int} (q : Ent L fun H => Q (g i j) H) : Ent L fun H => rI0 g (.int i) (.int j) H Q := fun H h => ⟨i, j, rfl, rfl, q H h⟩
theorem e_I {C : Int → Int → Prop} {g : Int → Int → V} {i j : Int} (hc : C i j) (q : Ent L fun H => Q (g i j) H) : Ent L fun H => rI C g (.int i) (.int j) H Q := fun H h => ⟨i, j, rfl, rfl, hc, q H h⟩
theorem e_U {g : Int → V} {i : Int} (q : Ent L fun H => Q (g i) H) : Ent L fun H => rU g (.int i) H Q := fun H h => ⟨i, rfl, q H h⟩
theorem e_eq (h : scal x y = true) (q : Ent L fun H => Q (.bl (decide (x = y))) H) : Ent L fun H => rEq x y H Q := fun H k => ⟨h, q H k⟩
theorem e_eqII {i j : Int} (q : Ent L fun H => Q (.bl (decide (i = j))) H) : Ent L fun H => rEq (.int i) (.int j) H Q := fun H k => ⟨rfl, by rw [dec_vint]; exact q H k⟩
theorem e_neII {i j : Int} (q : Ent L fun H => Q (.bl (!decide (i = j))) H) : Ent L fun H => rNe (.int i) (.int j) H Q := fun H k => ⟨rfl, by rw [dec_vint]; exact q H k⟩
theorem e_ne (h : scal x y = true) (q : Ent L fun H => Q (.bl (!decide (x = y))) H) : Ent L fun H => rNe x y H Q := fun H k => ⟨h, q H k⟩
theorem e_cb {r : List V → Hp → VK → Prop} (q : Ent L fun H => tas σ H fun vs H1 => r vs H1 Q) : Ent L fun H => tCB r tas σ H Q := q
theorem e_nil {Q : List V → Hp → Prop} (q : Ent L fun H => Q [] H) : Ent L fun H => tNil σ H Q := q
theorem e_cons {Q : List V → Hp → Prop} (q : Ent L fun H => ta σ H fun x H1 => tas σ H1 fun xs H2 => Q (x :: xs) H2) : Ent L fun H => tCons ta tas σ H Q := q
theorem e_call {sp : Sp} {dvs : List V} {E : XK} (q : Ent L fun H => tas σ H fun vs H1 => sp (vs ++ dvs) H1 Q E) : Ent L fun H => tCall sp dvs E tas σ H Q := q
theorem e_callS {sp : Sp} {E : St → XK} (q : Ent L fun H => tas σ H fun vs H1 => sp vs H1 Q (E σ)) : Ent L fun H => tCallS sp E tas σ H Q := q
theorem e_callN {j l : Nat} {sp : Sp} {gV : List V → List V → List V} {E : XK} (q : Ent L fun H => tas σ H fun vs H1 => tk σ H1 fun zs H2 => vs.length = j ∧ zs.length = l ∧ sp (gV vs zs) H2 Q E) : Ent L fun H => tCallN j l sp gV E tas tk σ H Q := q
theorem e_methN {C : Addr} {m : Str} {j l : Nat} {sp : Sp} {gV : List V → List V → List V} {E : XK} (q : Ent L fun H => ta σ H fun x H1 => ∃ a dx fs, x = .ref a ∧ H1 a = some (.ins C dx fs) ∧ fs.lookup m = none ∧ tas σ H1 fun vs H2 => tk σ H2 fun zs H3 => vs.length = j ∧ zs.length = l ∧ sp (gV (x :: vs) zs) H3 Q E) : Ent L fun H => tMethN C m j l sp gV E ta tas tk σ H Q := q
theorem e_methS {C : Addr} {m : Str} {sp : Sp} {E : St → XK} (q : Ent L fun H => ta σ H fun x H1 => ∃ a dx fs, x = .ref a ∧ H1 a = some (.ins C dx fs) ∧ fs.lookup m = none ∧ tas σ H1 fun vs H2 => sp (x :: vs) H2 Q (E σ)) : Ent L fun H => tMethSx C m sp E ta tas σ H Q := q
theorem e_ln {α : Type} {xs : List α} {n : Nat} {φ : Hp → Prop} (h : xs.length = n) (q : Ent L φ) : Ent L fun H => xs.length = n ∧ φ H := fun H k => ⟨h, q H k⟩
theorem e_meth0 {C : Addr} {m : Str} {sp : Sp} {dvs : List V} {E : XK} (q : Ent L fun H => ta σ H fun x H1 => ∃ a dx fs, x = .ref a ∧ H1 a = some (.ins C dx fs) ∧ fs.lookup m = none ∧ tas σ H1 fun vs H2 => sp (x :: (vs ++ dvs)) H2 Q E) : Ent L fun H => tMeth C m sp dvs E ta tas σ H Q := q
theorem e_meth {φ : Hp → Prop} {m : Str} (h : Take (pt a (.ins C dx fs)) L R) (hl : fs.lookup m = none) (q : Ent L φ) : Ent L fun H => ∃ a' dx fs, V.ref a = .ref a' ∧ H a' = some (.ins C dx fs) ∧ fs.lookup m = none ∧ φ H := fun H k => ⟨a, dx, fs, rfl, h.pt k, hl, q H k⟩
theorem e_prop0 {C : Addr} {sp : Sp} {dvs : List V} {E : XK} (q : Ent L fun H => ta σ H fun x H1 => ∃ a dx fs, x = .ref a ∧ H1 a = some (.ins C dx fs) ∧ sp (.ref a :: dvs) H1 Q E) : Ent L fun H => tProp C sp dvs E ta σ H Q := q
theorem e_prop {sp : Sp} {dvs : List V} {E : XK} (h : Take (pt a (.ins C dx fs)) L R) (q : Ent L fun H => sp (.ref a :: dvs) H Q E) : Ent L fun H => ∃ a' dx fs, V.ref a = .ref a' ∧ H a' = some (.ins C dx fs) ∧ sp (.ref a' :: dvs) H Q E := fun H k => ⟨a, dx, fs, rfl, h.pt k, q H k⟩
theorem e_seq (q : Ent L fun H => t ⟨u ⟨nx, rt, bk, ct⟩, rt, bk, ct⟩ σ H) : Ent L fun H => tSeq t u ⟨nx, rt, bk, ct⟩ σ H := q
theorem e_next (q : Ent L fun H => nx σ H) : Ent L fun H => tNext ⟨nx, rt, bk, ct⟩ σ H := q
theorem e_brk (q : Ent L fun H => bk σ H) : Ent L fun H => tBreak ⟨nx, rt, bk, ct⟩ σ H := q
theorem e_cont (q : Ent L fun H => ct σ H) : Ent L fun H => tCont ⟨nx, rt, bk, ct⟩ σ H := q
theorem e_drop (q : Ent L fun H => te σ H fun _ H1 => nx σ H1) : Ent L fun H => tDrop te ⟨nx, rt, bk, ct⟩ σ H := q
theorem e_ret (q : Ent L fun H => te σ H rt) : Ent L fun H => tRet te ⟨nx, rt, bk, ct⟩ σ H := q
theorem e_retN (q : Ent L fun H => rt .non H) : Ent L fun H => tRetN ⟨nx, rt, bk, ct⟩ σ H := q
theorem e_asg {g : TG} (q : Ent L fun H => te σ H fun x H1 => g x σ H1 nx) : Ent L fun H => tAsg te g ⟨nx, rt, bk, ct⟩ σ H := q
theorem e_ifs (q : Ent L fun H => c σ H fun b H1 => if b = true then t ⟨nx, rt, bk, ct⟩ σ H1 else u ⟨nx, rt, bk, ct⟩ σ H1) : Ent L fun H => tIfS c t u ⟨nx, rt, bk, ct⟩ σ H := q
theorem e_par {i j : Nat} (q : Ent L fun H => tas σ H fun vs H1 => ∃ v w, vs = [v, w] ∧ nx ((σ.set i (some v)).set j (some w)) H1) : Ent L fun H => tPar i j tas ⟨nx, rt, bk, ct⟩ σ H := q
theorem e_par3 {i j l : Nat} (q : Ent L fun H => tas σ H fun vs H1 => ∃ u v w, vs = [u, v, w] ∧ nx (((σ.set i (some u)).set j (some v)).set l (some w)) H1) : Ent L fun H => tPar3 i j l tas ⟨nx, rt, bk, ct⟩ σ H := q
theorem e_uvw {u v w : V} {r : V → V → V → Hp → Prop} (q : Ent L (r u v w)) : Ent L fun H => ∃ u' v' w', [u, v, w] = [u', v', w'] ∧ r u' v' w' H := fun H k => ⟨u, v, w, rfl, q H k⟩
theorem e_vw {v w : V} {r : V → V → Hp → Prop} (q : Ent L (r v w)) : Ent L fun H => ∃ v' w', [v, w] = [v', w'] ∧ r v' w' H := fun H k => ⟨v, w, rfl, q H k⟩
theorem e_if0 (q : Ent L fun H => c σ H fun b H1 => if b = true then ta σ H1 Q else tb σ H1 Q) : Ent L fun H => tIf c ta tb σ H Q := q
theorem e_test {Q : Bool → Hp → Prop} (q : Ent L fun H => te σ H fun x H' => ∃ k, x = .bl k ∧ Q k H') : Ent L fun H => tTest te σ H Q := q
theorem e_B {Q : Bool → Hp → Prop} (q : Ent L fun H => te σ H fun x H' => ∃ k, x = .bl k ∧ Q k H') : Ent L fun H => tB te σ H Q := q
theorem e_and {Q : Bool → Hp → Prop} (q : Ent L fun H => c σ H fun b H1 => if b = true then d σ H1 Q else Q false H1) : Ent L fun H => tAnd c d σ H Q := q
theorem e_or {Q : Bool → Hp → Prop} (q : Ent L fun H => c σ H fun b H1 => if b = true then Q true H1 else d σ H1 Q) : Ent L fun H => tOr c d σ H Q := q
theorem e_not {Q : Bool → Hp → Prop} (q : Ent L fun H => c σ H fun b H1 => Q (!b) H1) : Ent L fun H => tNot c σ H Q := q
theorem e_andV (q : Ent L fun H => ta σ H fun x H1 => ∃ k, x = .bl k ∧ if k = true then tb σ H1 Q else Q (.bl false) H1) : Ent L fun H => tAndV ta tb σ H Q := q
theorem e_orV (q : Ent L fun H => ta σ H fun x H1 => ∃ k, x = .bl k ∧ if k = true then Q (.bl true) H1 else tb σ H1 Q) : Ent L fun H => tOrV ta tb σ H Q := q
theorem e_notV (q : Ent L fun H => ta σ H fun x H1 => ∃ k, x = .bl k ∧ Q (.bl (!k)) H1) : Ent L fun H => tNotV ta σ H Q := q
theorem e_bl {b : Bool} {r : Bool → Hp → Prop} (q : Ent L (r b)) : Ent L fun H => ∃ k, V.bl b = .bl k ∧ r k H := fun H k => ⟨b, rfl, q H k⟩
theorem e_iI {i : Int} {r : Int → Hp → Prop} (q : Ent L (r i)) : Ent L fun H => ∃ k, [V.int i] = [.int k] ∧ r k H := fun H k => ⟨i, rfl, q H k⟩
theorem e_iIJ {i j : Int} {r : Int → Int → Hp → Prop} (q : Ent L (r i j)) : Ent L fun H => ∃ k l, [V.int i, V.int j] = [.int k, .int l] ∧ r k l H := fun H k => ⟨i, j, rfl, q H k⟩
theorem e_ei {i : Int} {r : Int → Hp → Prop} (q : Ent L (r i)) : Ent L fun H => ∃ k, V.int i = .int k ∧ r k H := fun H k => ⟨i, rfl, q H k⟩
theorem e_eij {i j : Int} {r : Int → Int → Hp → Prop} (q : Ent L (r i j)) : Ent L fun H => ∃ k l, V.int i = .int k ∧ V.int j = .int l ∧ r k l H := fun H k => ⟨i, j, rfl, rfl, q H k⟩
theorem e_int1 {i : Int} {r : Int → Hp → Prop} {s : Bool → Hp → Prop} (q : Ent L (r i)) : Ent L fun H => (∃ k, [V.int i] = [.int k] ∧ r k H) ∨ ∃ b, [V.int i] = [.bl b] ∧ s b H := fun H k => .inl ⟨i, rfl, q H k⟩
theorem e_intB {b : Bool} {r : Int → Hp → Prop} {s : Bool → Hp → Prop} (q : Ent L (s b)) : Ent L fun H => (∃ k, [V.bl b] = [.int k] ∧ r k H) ∨ ∃ c, [V.bl b] = [.bl c] ∧ s c H := fun H k => .inr ⟨b, rfl, q H k⟩
theorem e_lenL (h : HasL K L a xs) (q : Ent L (Q (.int xs.length))) : Ent L fun H => rLenK K [.ref a] H Q := fun H k => ⟨a, xs, rfl, .inl (h H k), q H k⟩
theorem e_lenT (h : HasT K L a xs) (q : Ent L (Q (.int xs.length))) : Ent L fun H => rLenK K [.ref a] H Q := fun H k => ⟨a, xs, rfl, .inr (h H k), q H k⟩
theorem e_gname {i : Nat} {Q : St → Hp → Prop} (q : Ent L fun H => Q (σ.set i (some v)) H) : Ent L fun H => gName i v σ H Q := q
theorem e_gtup {n : Nat} {ts : TGs} {Q : St → Hp → Prop} (h : HasT K L a xs) (hn : xs.length = n) (q : Ent L fun H => ts xs σ H Q) : Ent L fun H => gTup K n ts (.ref a) σ H Q := fun H k => ⟨a, xs, rfl, h H k, hn, q H k⟩
theorem e_gcons {tg : TG} {ts : TGs} {r : List V} {Q : St → Hp → Prop} (q : Ent L fun H => tg v σ H fun σ' H' => ts r σ' H' Q) : Ent L fun H => gCons tg ts (v :: r) σ H Q := fun H k => ⟨v, r, rfl, q H k⟩
theorem e_gnil {Q : St → Hp → Prop} (q : Ent L fun H => Q σ H) : Ent L fun H => gNil [] σ H Q := fun H k => ⟨rfl, q H k⟩
theorem e_gsub {ts : TSet} {Q : St → Hp → Prop} (q : Ent L fun H => to σ H fun o H1 => ti σ H1 fun i H2 => ts o i v H2 fun H3 => Q σ H3) : Ent L fun H => gSub to ti ts v σ H Q := q
theorem e_fld0 (q : Ent L fun H => ta σ H fun x H1 => kFld K f Q x H1) : Ent L fun H => tFld K ta f σ H Q := q
theorem e_fld (h : Take (pt a (.ins C dx fs)) L R) (hc : Cls K C) (hn : NoAttr K C f) (hl : fs.lookup f = some v) (q : Ent L fun H => Q v H) : Ent L fun H => kFld K f Q (.ref a) H := fun H k => ⟨a, C, dx, fs, v, rfl, h.pt k, hc, hn, hl, q H k⟩
theorem e_sfld0 (q : Ent L fun H => tb σ H fun y H1 => ta σ H1 fun x H2 => kSF K f nx σ y x H2) : Ent L fun H => sFld K ta tb f ⟨nx, rt, bk, ct⟩ σ H := q
theorem e_ixL {i : Int} (h : HasL K L a xs) (hi : atI xs i = some v) (q : Ent L fun H => Q v H) : Ent L fun H => rIxL K (.ref a) (.int i) H Q := fun H k => ⟨a, xs, i, v, rfl, rfl, h H k, hi, q H k⟩
theorem e_ixT {i : Int} (h : HasT K L a xs) (hi : atI xs i = some v) (q : Ent L fun H => Q v H) : Ent L fun H => rIxT K (.ref a) (.int i) H Q := fun H k => ⟨a, xs, i, v, rfl, rfl, h H k, hi, q H k⟩
theorem e_bm {T : String} {r : V → List V → Hp → VK → Prop} (h : Ent L fun H => to σ H fun x H1 => tyV K T x H1 ∧ tas σ H1 fun xs H2 => r x xs H2 Q) : Ent L fun H => tBM K T r to tas σ H Q := h
theorem e_bm0 {T : String} {r : V → List V → Hp → VK → Prop} (h : Ent L fun H => to σ H fun x H1 => tyV K T x H1 ∧ r x [] H1 Q) : Ent L fun H => tBM0 K T r to σ H Q := h
theorem e_tyL {φ : Hp → Prop} (h : HasL K L a xs) (q : Ent L φ) : Ent L fun H => tyV K "list" (.ref a) H ∧ φ H := fun H k => ⟨.inl ⟨rfl, xs, h H k⟩, q H k⟩
theorem e_chain {r r' : R2} (q : Ent L fun H => ta σ H fun x H1 => tb σ H1 fun y H2 => r x y H2 fun z H3 => ∃ k, z = .bl k ∧ (if k = true then tc σ H3 fun w' H4 => r' y w' H4 Q else Q (.bl false) H3)) : Ent L fun H => tChain r r' ta tb tc σ H Q := q
theorem e_sl {r : V → Option Int → Option Int → Hp → VK → Prop} {tl th : TO} (q : Ent L fun H => te σ H fun x H1 => tl σ H1 fun l H2 => th σ H2 fun u H3 => r x l u H3 Q) : Ent L fun H => tSl r te tl th σ H Q := q
theorem e_nopart {Q : Option Int → Hp → Prop} (q : Ent L fun H => Q none H) : Ent L fun H => tNoPart σ H Q := q
theorem e_part {Q : Option Int → Hp → Prop} (q : Ent L fun H => te σ H fun x H1 => ∃ i, x = .int i ∧ Q (some i) H1) : Ent L fun H => tPart te σ H Q := q
theorem e_inL {neg : Bool} {x : V} (h : HasL K L a xs) (h1 : flatV x = true) (h2 : xs.all flatV = true) (q : Ent L fun H => Q (.bl (if neg then !inV x xs else inV x xs)) H) : Ent L fun H => rIn K neg x (.ref a) H Q := fun H k => ⟨a, xs, rfl, .inl (h H k), h1, h2, q H k⟩
theorem e_inT {neg : Bool} {x : V} (h : HasT K L a xs) (h1 : flatV x = true) (h2 : xs.all flatV = true) (q : Ent L fun H => Q (.bl (if neg then !inV x xs else inV x xs)) H) : Ent L fun H => rIn K neg x (.ref a) H Q := fun H k => ⟨a, xs, rfl, .inr (h H k), h1, h2, q H k⟩
theorem e_yes {Q : Bool → Hp → Prop} (q : Ent L fun H => Q true H) : Ent L fun H => tYes σ H Q := q
theorem e_ea {σ2 : L2.St} {vs : List Nat} {φ : Hp → Prop} (h : wipe σ2 vs = wipe σ vs) (q : Ent L φ) : Ent L fun H => wipe σ2 vs = wipe σ vs ∧ φ H := fun H k => ⟨h, q H k⟩
theorem e_isN (q : Ent L fun H => Q (.bl (decide (x = .non))) H) : Ent L fun H => Q (.bl (decide (x = .non))) H := q
theorem e_cut (M : List HA) (τ : St) (q : Ent L fun H => t ⟨fun σ' H' => σ' = τ ∧ Holds M H', rt, bk, ct⟩ σ H) (k : Ent M fun H => u ⟨nx, rt, bk, ct⟩ τ H) : Ent L fun H => Evl.tCut t u ⟨nx, rt, bk, ct⟩ σ H := fun H h =>
  ⟨_, q H h, fun σ' H' ⟨e, z⟩ => by subst e; exact k H' z⟩
theorem e_cutS (M : List HA) (q : Ent L fun H => t ⟨fun σ' H' => σ' = σ ∧ Holds M H', rt, bk, ct⟩ σ H) (k : Ent M fun H => u ⟨nx, rt, bk, ct⟩ σ H) : Ent L fun H => Evl.tCut t u ⟨nx, rt, bk, ct⟩ σ H := e_cut M σ q k
/-- ways joined behind a statement: by what is known of the slots and places -/
theorem e_cutB {β : Type} (sg : β → St) (M : β → List HA) (q : Ent L fun H => t ⟨fun σ' H' => ∃ b, σ' = sg b ∧ Holds (M b) H', rt, bk, ct⟩ σ H) (k : ∀ b, Ent (M b) fun H => u ⟨nx, rt, bk, ct⟩ (sg b) H) : Ent L fun H => Evl.tCut t u ⟨nx, rt, bk, ct⟩ σ H := fun H h =>
  ⟨_, q H h, fun σ' H' ⟨b, e, z⟩ => by subst e; exact k b H' z⟩
theorem e_end {β : Type} {sg : β → St} {M : β → List HA} (b : β) (h : σ = sg b) (s : Sub L (M b)) : Ent L fun H => ∃ b, σ = sg b ∧ Holds (M b) H := fun H q => ⟨b, h, s.to q⟩
theorem e_end1 (h : σ = τ) (s : Sub L M) : Ent L fun H => σ = τ ∧ Holds M H := fun H q => ⟨h, s.to q⟩
theorem e_holds (s : Sub L M) : Ent L (Holds M) := fun H q => s.to q
/-! ### tests -/
theorem eT {φ ψ : Hp → Prop} (q : Ent L φ) : Ent L fun H => if true = true then φ H else ψ H := fun H k => iteT (q H k)
theorem eF {φ ψ : Hp → Prop} (q : Ent L ψ) : Ent L fun H => if false = true then φ H else ψ H := fun H k => iteF (q H k)
theorem eNT {φ ψ : Hp → Prop} (q : Ent L ψ) : Ent L fun H => if (!true) = true then φ H else ψ H := fun H k => iteNT (q H k)
theorem eNF {φ ψ : Hp → Prop} (q : Ent L φ) : Ent L fun H => if (!false) = true then φ H else ψ H := fun H k => iteNF (q H k)
theorem eDT {c : Prop} [Decidable c] {φ ψ : Hp → Prop} (h : c) (q : Ent L φ) : Ent L fun H => if decide c = true then φ H else ψ H := fun H k => ifT h (q H k)
theorem eDF {c : Prop} [Decidable c] {φ ψ : Hp → Prop} (h : ¬ c) (q : Ent L ψ) : Ent L fun H => if decide c = true then φ H else ψ H := fun H k => ifF h (q H k)
theorem eNDT {c : Prop} [Decidable c] {φ ψ : Hp → Prop} (h : c) (q : Ent L ψ) : Ent L fun H => if (!decide c) = true then φ H else ψ H := fun H k => ifT' h (q H k)
theorem eNDF {c : Prop} [Decidable c] {φ ψ : Hp → Prop} (h : ¬ c) (q : Ent L φ) : Ent L fun H => if (!decide c) = true then φ H else ψ H := fun H k => ifF' h (q H k)
theorem eB {b : Bool} {φ ψ : Hp → Prop} (h1 : b = true → Ent L φ) (h2 : b = false → Ent L ψ) : Ent L fun H => if b = true then φ H else ψ H := fun H k => ifB (fun e => h1 e H k) (fun e => h2 e H k)
theorem eS {c : Prop} [Decidable c] {φ ψ : Hp → Prop} (h1 : c → Ent L φ) (h2 : ¬ c → Ent L ψ) : Ent L fun H => if decide c = true then φ H else ψ H := fun H k => ifS (fun e => h1 e H k) (fun e => h2 e H k)
theorem eNS {c : Prop} [Decidable c] {φ ψ : Hp → Prop} (h1 : c → Ent L ψ) (h2 : ¬ c → Ent L φ) : Ent L fun H => if (!decide c) = true then φ H else ψ H := fun H k => ifS' (fun e => h1 e H k) (fun e => h2 e H k)
/-- both ways of a test end alike -/
theorem e_boolD {φ : Bool → Hp → Prop} {b b' : Bool} (h : b = b') (q : Ent L (φ b')) : Ent L (φ b) := h ▸ q
/-! ### steps that change the heap -/
theorem e_tup (q : Ent L fun H => tas σ H (kNewT Q)) : Ent L fun H => tTup tas σ H Q := q
theorem e_lst (q : Ent L fun H => tas σ H (kNewL Q)) : Ent L fun H => tLst tas σ H Q := q
theorem e_newT (h : xs.length ≤ 100000) (q : ∀ p, Ent (tu p xs :: L) (Q (.ref p))) : Ent L fun H => kNewT Q xs H := fun H k => ⟨Nat.le_trans h (by decide), fun p n => q p _ (k.newI n rfl)⟩
theorem e_newL (h : xs.length ≤ 100000) (q : ∀ p, Ent (pt p (.lst xs) :: L) (Q (.ref p))) : Ent L fun H => kNewL Q xs H := fun H k => ⟨Nat.le_trans h (by decide), fun p n => q p _ (k.new n rfl)⟩
theorem e_div {i j : Int} (h : CDiv i j) (q : ∀ p, Ent (tu p [.int (i / j), .int (i % j)] :: L) (Q (.ref p))) : Ent L fun H => rDivK [.int i, .int j] H Q := fun H k => ⟨i, j, rfl, h, fun p n => q p _ (k.newI n rfl)⟩
theorem e_setL {i : Int} {j : Nat} {φ : Hp → Prop} (h : Take (pt a (.lst xs)) L R) (hi : ixN xs.length i = some j) (q : Ent (pt a (.lst (xs.set j v)) :: R) φ) : Ent L fun H => rSetL (.ref a) (.int i) v H φ := fun H k => ⟨a, xs, i, j, rfl, rfl, h.pt k, hi, q _ ((h.to k).upd rfl)⟩
theorem e_sfld {fs' : List (Str × V)} (h : Take (pt a (.ins C dx fs)) L R) (hc : Cls K C) (hn : NoAttr K C f) (hl : fs.length < 1000) (he : putF f y fs = fs') (q : Ent (pt a (.ins C dx fs') :: R) (nx σ)) : Ent L fun H => kSF K f nx σ y (.ref a) H := fun H k =>
  ⟨a, C, dx, fs, rfl, h.pt k, hc, hn, hl, by rw [he]; exact q _ ((h.to k).upd rfl)⟩
theorem e_app {y : V} (h : Take (pt l (.lst xs)) L R) (hz : xs.length ≤ 100000) (q : Ent (pt l (.lst (xs ++ [y])) :: R) (Q .non)) : Ent L fun H => rAppend (.ref l) [y] H Q := fun H k => ⟨l, xs, y, rfl, rfl, h.pt k, Nat.lt_of_le_of_lt hz (by decide), q _ ((h.to k).upd rfl)⟩
theorem e_pop {y : V} (h : Take (pt l (.lst xs)) L R) (hy : xs[xs.length - 1]? = some y) (q : Ent (pt l (.lst xs.dropLast) :: R) (Q y)) : Ent L fun H => rPop (.ref l) [] H Q := fun H k => ⟨l, xs, y, rfl, rfl, h.pt k, hy, q _ ((h.to k).upd rfl)⟩
theorem e_popAt {y : V} {i : Int} {j : Nat} (h : Take (pt l (.lst xs)) L R) (h0 : -1000000 ≤ i ∧ i ≤ 1000000) (hj : seqIndex? i xs.length = some j) (hy : xs[j]? = some y) (q : Ent (pt l (.lst (xs.eraseIdx j)) :: R) (Q y)) : Ent L fun H => rPopAt (.ref l) [.int i] H Q := fun H k => ⟨l, xs, i, j, y, rfl, rfl, h.pt k, by omega, by omega, hj, hy, q _ ((h.to k).upd rfl)⟩
theorem e_ext (h1 : Take (pt l (.lst xs)) L R) (h2 : Take (pt b (.lst zs)) R M) (hz : xs.length + zs.length ≤ 100000) (q : Ent (pt l (.lst (xs ++ zs)) :: R) (Q .non)) : Ent L fun H => rExtend (.ref l) [.ref b] H Q := fun H k => ⟨l, b, xs, zs, rfl, rfl, h1.pt k, h2.pt (Sub.to (Sub.drop Sub.refl) (h1.to k)), Nat.le_trans hz (by decide), q _ ((h1.to k).upd rfl)⟩
theorem e_clear (h : Take (pt l (.lst xs)) L R) (q : Ent (pt l (.lst []) :: R) (Q .non)) : Ent L fun H => rClear (.ref l) [] H Q := fun H k => ⟨l, xs, rfl, rfl, h.pt k, q _ ((h.to k).upd rfl)⟩
theorem e_reverse (h : Take (pt l (.lst xs)) L R) (q : Ent (pt l (.lst xs.reverse) :: R) (Q .non)) : Ent L fun H => rReverse (.ref l) [] H Q := fun H k => ⟨l, xs, rfl, rfl, h.pt k, q _ ((h.to k).upd rfl)⟩
theorem e_cat {R' : List HA} (h1 : Take (pt l (.lst xs)) L R) (h2 : Take (pt b (.lst zs)) L R') (hz : xs.length + zs.length ≤ 100000) (q : ∀ p, Ent (pt p (.lst (xs ++ zs)) :: L) (Q (.ref p))) : Ent L fun H => rCat (.ref l) (.ref b) H Q := fun H k => ⟨l, b, xs, zs, rfl, rfl, h1.pt k, h2.pt k, Nat.le_trans hz (by decide), fun p n => q p _ (k.new n rfl)⟩
theorem e_slL {lo hi : Option Int} (h : HasL K L a xs) (q : ∀ p, Ent (pt p (.lst (cutV xs lo hi)) :: L) (Q (.ref p))) : Ent L fun H => rSlL K (.ref a) lo hi H Q := fun H k => ⟨a, xs, rfl, h H k, fun p n => q p _ (k.new n rfl)⟩
theorem e_slT {lo hi : Option Int} (h : HasT K L a xs) (hw : ¬ (HT.sIx xs.length 0 lo = 0 ∧ HT.sIx xs.length xs.length hi = xs.length)) (q : ∀ p, Ent (tu p (cutV xs lo hi) :: L) (Q (.ref p))) : Ent L fun H => rSlT K (.ref a) lo hi H Q := fun H k => ⟨a, xs, rfl, h H k, hw, fun p n => q p _ (k.newI n rfl)⟩
theorem e_rev0 (q : Ent L fun H => te σ H fun x H1 => kRev K Q x H1) : Ent L fun H => tRevL K te σ H Q := q
theorem e_rev (h : HasL K L a xs) (q : ∀ p, Ent (pt p (.lst xs.reverse) :: L) (Q (.ref p))) : Ent L fun H => kRev K Q (.ref a) H := fun H k => ⟨a, xs, rfl, h H k, fun p n => q p _ (k.new n rfl)⟩
theorem e_rep {k : Int} (h : Take (pt a (.lst xs)) L R) (h1 : -100000 ≤ k) (h2 : k ≤ 100000) (hz : xs.length ≤ 100) (q : ∀ p, Ent (pt p (.lst (List.replicate k.toNat xs).flatten) :: L) (Q (.ref p))) : Ent L fun H => rRep (.ref a) (.int k) H Q := fun H z =>
  w_rep (h.pt z) h1 h2 hz fun p n => q p _ (z.new n rfl)
theorem e_listOf (h : HasL K L a xs) (q : ∀ p, Ent (pt p (.lst xs) :: L) (Q (.ref p))) : Ent L fun H => rListK K [.ref a] H Q := fun H k => ⟨a, xs, rfl, .inl (h H k), fun p n => q p _ (k.new n rfl)⟩
theorem e_listOfT (h : HasT K L a xs) (q : ∀ p, Ent (pt p (.lst xs) :: L) (Q (.ref p))) : Ent L fun H => rListK K [.ref a] H Q := fun H k => ⟨a, xs, rfl, .inr (h H k), fun p n => q p _ (k.new n rfl)⟩
theorem e_tupOf (h : HasL K L a xs) (q : ∀ p, Ent (tu p xs :: L) (Q (.ref p))) : Ent L fun H => rTupK K [.ref a] H Q := fun H k => ⟨a, xs, rfl, .inl ⟨h H k, fun p n => q p _ (k.newI n rfl)⟩⟩
theorem e_tupOfT (h : HasT K L a xs) (q : Ent L (Q (.ref a))) : Ent L fun H => rTupK K [.ref a] H Q := fun H k => ⟨a, xs, rfl, .inr ⟨h H k, q H k⟩⟩
theorem e_lstRg {te : L2.St → Hp → (Int → Int → Hp → Prop) → Prop} (q : Ent L fun H => te σ H (kRgL Q)) : Ent L fun H => tLstRg te σ H Q := q
theorem e_tupRg {te : L2.St → Hp → (Int → Int → Hp → Prop) → Prop} (q : Ent L fun H => te σ H (kRgT Q)) : Ent L fun H => tTupRg te σ H Q := q
theorem e_rgL {i j : Int} (h : 0 ≤ i ∧ j ≤ 16777216 ∧ i ≤ 16777216 ∧ 0 ≤ j) (q : ∀ p, Ent (pt p (.lst (rgV i j)) :: L) (Q (.ref p))) : Ent L fun H => kRgL Q i j H := fun H k => ⟨RgOk.of_le h.1 h.2.1 h.2.2.1 h.2.2.2, fun p n => q p _ (k.new n rfl)⟩
theorem e_rgT {i j : Int} (h : 0 ≤ i ∧ j ≤ 16777216 ∧ i ≤ 16777216 ∧ 0 ≤ j) (q : ∀ p, Ent (tu p (rgV i j) :: L) (Q (.ref p))) : Ent L fun H => kRgT Q i j H := fun H k => ⟨RgOk.of_le h.1 h.2.1 h.2.2.1 h.2.2.2, fun p n => q p _ (k.newI n rfl)⟩
theorem e_rg1 {Q : Int → Int → Hp → Prop} (q : Ent L fun H => ta σ H fun x H1 => ∃ n, x = .int n ∧ Q 0 n H1) : Ent L fun H => tRg1 ta σ H Q := q
theorem e_rg2 {Q : Int → Int → Hp → Prop} (q : Ent L fun H => ta σ H fun x H1 => tb σ H1 fun y H2 => ∃ i j, x = .int i ∧ y = .int j ∧ Q i j H2) : Ent L fun H => tRg2 ta tb σ H Q := q
theorem e_make {sp : Sp} {E : XK} (q : Ent L fun H => tas σ H (kMake C sp E Q)) : Ent L fun H => tMake C sp [] E tas σ H Q := by
  have e : (fun (vs : List V) (H1 : Hp) => ∀ x dx, H1 x = none → H1 dx = none → dx ≠ x → sp (.ref x :: (vs ++ [])) (upd (upd H1 dx (.own x)) x (.ins C dx [])) (fun v H2 => v = .non ∧ Q (.ref x) H2) E) = kMake C sp E Q := by funext vs H1; rw [List.append_nil]; rfl
  show Ent L fun H => tas σ H (fun vs H1 => ∀ x dx, H1 x = none → H1 dx = none → dx ≠ x → sp (.ref x :: (vs ++ [])) (upd (upd H1 dx (.own x)) x (.ins C dx [])) (fun v H2 => v = .non ∧ Q (.ref x) H2) E)
  rw [e]
  exact q
theorem e_makeK {j l : Nat} {sp : Sp} {gV : List V → List V → List V} {E : XK} (q : Ent L fun H => tas σ H fun vs H1 => tk σ H1 (kMakeK C j l sp gV E Q vs)) : Ent L fun H => tMakeK C j l sp gV E tas tk σ H Q := q
theorem holds_ins {H : Hp} {x : Addr} (k : Holds L H) (n1 : H x = none) (n2 : H dx = none) (n3 : dx ≠ x) : Holds (pt x (.ins C dx []) :: L) (upd (upd H dx (.own x)) x (.ins C dx [])) := by
  have k2 := k.newI (o := .own x) n2 rfl
  have n4 : (upd H dx (.own x)) x = none := by rw [upd_ne (Ne.symm n3)]; exact n1
  exact Sub.to (Sub.cons (Sub.drop Sub.refl)) (k2.new (o := .ins C dx []) n4 rfl)
theorem e_new {sp : Sp} {E : XK} {vs : List V} (q : ∀ x dx, Ent (pt x (.ins C dx []) :: L) fun H => sp (.ref x :: vs) H (fun v H2 => v = .non ∧ Q (.ref x) H2) E) : Ent L fun H => kMake C sp E Q vs H := fun H k x dx n1 n2 n3 => q x dx _ (holds_ins k n1 n2 n3)
theorem e_newK {j l : Nat} {sp : Sp} {gV : List V → List V → List V} {E : XK} {vs zs : List V} (h1 : vs.length = j) (h2 : zs.length = l) (q : ∀ x dx, Ent (pt x (.ins C dx []) :: L) fun H => sp (gV (.ref x :: vs) zs) H (fun v H2 => v = .non ∧ Q (.ref x) H2) E) : Ent L fun H => kMakeK C j l sp gV E Q vs zs H := fun H k => ⟨h1, h2, fun x dx n1 n2 n3 => q x dx _ (holds_ins k n1 n2 n3)⟩
theorem e_rfl {φ : Hp → Prop} (q : Ent L φ) : Ent L fun H => x = x ∧ φ H := fun H k => ⟨rfl, q H k⟩
theorem e_eqD {α : Type} [DecidableEq α] {d : α → PyData} {n : Nat} (h : DtOk d n) {i j : α} (h1 : ∀ H, Holds L H → Dp K H x (d i)) (h2 : ∀ H, Holds L H → Dp K H y (d j)) (q : Ent L (Q (.bl (decide (i = j))))) (hn : n ≤ 64 := by decide) : Ent L fun H => rEqD K x y H Q := fun H k => w_eqDt h (h1 H k) (h2 H k) (q H k) hn
theorem e_neD {α : Type} [DecidableEq α] {d : α → PyData} {n : Nat} (h : DtOk d n) {i j : α} (h1 : ∀ H, Holds L H → Dp K H x (d i)) (h2 : ∀ H, Holds L H → Dp K H y (d j)) (q : Ent L (Q (.bl (!decide (i = j))))) (hn : n ≤ 64 := by decide) : Ent L fun H => rNeD K x y H Q := fun H k => w_neDt h (h1 H k) (h2 H k) (q H k) hn
theorem e_eqSame {x y : V} (d : PyData) (h1 : ∀ H, Holds L H → Dp K H x d) (h2 : ∀ H, Holds L H → Dp K H y d) (hl : d.canLay0 = true) (hd : d.depth ≤ 60) (q : Ent L (Q (.bl true))) : Ent L fun H => rEqD K x y H Q := fun H k => w_eqD d (h1 H k) (h2 H k) (shaped_of hl hd (by decide)) (SeqAt.eqv_refl d hl) (q H k)
theorem e_neSame {x y : V} (d : PyData) (h1 : ∀ H, Holds L H → Dp K H x d) (h2 : ∀ H, Holds L H → Dp K H y d) (hl : d.canLay0 = true) (hd : d.depth ≤ 60) (q : Ent L (Q (.bl false))) : Ent L fun H => rNeD K x y H Q := fun H k => w_neD d (h1 H k) (h2 H k) (shaped_of hl hd (by decide)) (SeqAt.eqv_refl d hl) (q H k)
theorem e_eqI {ns ms : List Int} (h1 : HasL K L a (ns.map V.int)) (h2 : HasL K L b (ms.map V.int)) (q : Ent L (Q (.bl (decide (ns = ms))))) : Ent L fun H => rEqD K (.ref a) (.ref b) H Q := e_eqD DtOk.int.list (fun H k => .lst (h1 H k) (ints_dp ns)) (fun H k => .lst (h2 H k) (ints_dp ms)) q
theorem e_neI {ns ms : List Int} (h1 : HasL K L a (ns.map V.int)) (h2 : HasL K L b (ms.map V.int)) (q : Ent L (Q (.bl (!decide (ns = ms))))) : Ent L fun H => rNeD K (.ref a) (.ref b) H Q := e_neD DtOk.int.list (fun H k => .lst (h1 H k) (ints_dp ns)) (fun H k => .lst (h2 H k) (ints_dp ms)) q
theorem e_eqI0 {ns : List Int} (h1 : HasL K L a (ns.map V.int)) (h2 : HasL K L b []) (q : Ent L (Q (.bl (decide (ns = []))))) : Ent L fun H => rEqD K (.ref a) (.ref b) H Q := e_eqI (ms := []) h1 h2 q
theorem e_neI0 {ns : List Int} (h1 : HasL K L a (ns.map V.int)) (h2 : HasL K L b []) (q : Ent L (Q (.bl (!decide (ns = []))))) : Ent L fun H => rNeD K (.ref a) (.ref b) H Q := e_neI (ms := []) h1 h2 q
theorem inV_int (x : Int) : ∀ ns : List Int, inV (.int x) (ns.map V.int) = decide (x ∈ ns)
  | [] => by simp [inV]
  | n :: ns => by
    have ih := inV_int x ns
    unfold inV at ih ⊢
    rw [List.map_cons, List.any_cons, ih]
    by_cases h : n = x
    · subst h; simp [eqV]
    · have h' : ¬ x = n := fun z => h z.symm
      simp [eqV, h, h']
theorem flat_ints (ns : List Int) : (ns.map V.int).all flatV = true := by
  rw [List.all_eq_true]
  intro v hv
  obtain ⟨n, _, rfl⟩ := List.mem_map.mp hv
  rfl
theorem e_inI {ns : List Int} {x : Int} (h : HasL K L a (ns.map V.int)) (q : Ent L (Q (.bl (decide (x ∈ ns))))) : Ent L fun H => rIn K false (.int x) (.ref a) H Q := e_inL h rfl (flat_ints ns) (by rw [inV_int]; exact q)
theorem e_niI {ns : List Int} {x : Int} (h : HasL K L a (ns.map V.int)) (q : Ent L (Q (.bl (!decide (x ∈ ns))))) : Ent L fun H => rIn K true (.int x) (.ref a) H Q := e_inL h rfl (flat_ints ns) (by rw [inV_int]; exact q)
theorem atI_of {α : Type} {xs : List α} {i : Int} {v : α} (h : 0 ≤ i) (e : xs[i.toNat]? = some v) : atI xs i = some v := by
  have hj := (List.getElem?_eq_some_iff.mp e).1
  have z : ((i.toNat : Nat) : Int) = i := by omega
  have q : atI xs ((i.toNat : Nat) : Int) = some v := atI_nat e
  rw [z] at q
  exact q
theorem atI_ofM {α : Type} {xs : List α} {f : α → V} {i : Int} {v : α} (h : 0 ≤ i) (e : xs[i.toNat]? = some v) : atI (xs.map f) i = some (f v) := atI_of h (by rw [List.getElem?_map, e]; rfl)
theorem e_own {sp : Sp} {E : XK} {y : V} {t : Value} (h : ∀ H, Holds L H → ∃ dx fs, H a = some (.ins C dx fs)) (ht : ∀ H, Holds L H → TyX K H y t) (hn : PySem.W.notFirst K C t = true) (q : Ent L fun H => sp [.ref a, y] H (fun v H' => ∃ b, v = .bl b ∧ Q v H') E) : Ent L fun H => rOwn K C sp E (.ref a) y H Q := fun H k => by
  obtain ⟨dx, fs, e⟩ := h H k
  exact ⟨a, dx, fs, t, rfl, e, ht H k, hn, q H k⟩
theorem take_eq {o o' : HO} (e : o = o') (t : Take (pt a o) L R) : Take (pt a o') L R := e ▸ t
theorem take_eqI {o o' : HO} (e : o = o') (t : Take (im a o) L R) : Take (im a o') L R := e ▸ t
/-! ### lists that are an image -/
section
variable {α : Type} {g : α → V} {us ws : List α} {w : α}
def cutA {α : Type} (xs : List α) (lo hi : Option Int) : List α := (xs.drop (HT.sIx xs.length 0 lo)).take (HT.sIx xs.length xs.length hi - HT.sIx xs.length 0 lo)
theorem erase_map : ∀ (us : List α) (j : Nat), (us.map g).eraseIdx j = (us.eraseIdx j).map g
  | [], j => by simp
  | u :: us, 0 => rfl
  | u :: us, j + 1 => by simp [erase_map us j]
theorem cutV_map (lo hi : Option Int) : cutV (us.map g) lo hi = (cutA us lo hi).map g := by
  unfold cutV cutA
  rw [List.length_map, List.map_take, List.map_drop]
theorem cutV_A {xs : List V} (lo hi : Option Int) : cutV xs lo hi = cutA xs lo hi := rfl
theorem cutA_to {j : Int} (h : 0 ≤ j) : cutA us none (some j) = us.take j.toNat := by
  unfold cutA
  rw [HT.sIx_none, sIx_int _ _ _ h]
  by_cases q : j.toNat ≤ us.length
  · rw [Nat.min_eq_left q]; simp
  · rw [Nat.min_eq_right (by omega), List.take_of_length_le (by omega : us.length ≤ j.toNat)]; simp
theorem cutA_from {i : Int} (h : 0 ≤ i) : cutA us (some i) none = us.drop i.toNat := by
  unfold cutA
  rw [HT.sIx_none, sIx_int _ _ _ h]
  by_cases q : i.toNat ≤ us.length
  · rw [Nat.min_eq_left q, List.take_of_length_le (by rw [List.length_drop]; omega)]
  · rw [Nat.min_eq_right (by omega)]
    simp [List.drop_eq_nil_of_le (by omega : us.length ≤ i.toNat)]
theorem cutA_mid {i j : Int} (h : 0 ≤ i) (hj : i ≤ j) : cutA us (some i) (some j) = (us.drop i.toNat).take (j.toNat - i.toNat) := by
  unfold cutA
  rw [sIx_int _ _ _ h, sIx_int _ _ _ (by omega)]
  by_cases q : i.toNat ≤ us.length
  · rw [Nat.min_eq_left q]
    by_cases q2 : j.toNat ≤ us.length
    · rw [Nat.min_eq_left q2]
    · rw [Nat.min_eq_right (by omega), List.take_of_length_le (by rw [List.length_drop]; omega), List.take_of_length_le (by rw [List.length_drop]; omega)]
  · rw [Nat.min_eq_right (by omega)]
    simp [List.drop_eq_nil_of_le (by omega : us.length ≤ i.toNat)]
    exact .inr (by omega)
theorem cutA_all : cutA us none none = us := by unfold cutA; simp [HT.sIx_none]
theorem cutA_last {w : α} : cutA (us ++ [w]) (some (-1)) none = [w] := by
  unfold cutA
  rw [HT.sIx_none]
  have e : HT.sIx (us ++ [w]).length 0 (some (-1)) = us.length := by
    unfold HT.sIx
    simp
    omega
  rw [e]
  simp
theorem cutA_last0 : cutA ([] : List α) (some (-1)) none = [] := by unfold cutA; simp
theorem cutA_init {w : α} : cutA (us ++ [w]) none (some (-1)) = us := by
  unfold cutA
  rw [HT.sIx_none]
  have e : HT.sIx (us ++ [w]).length (us ++ [w]).length (some (-1)) = us.length := by
    unfold HT.sIx
    simp
    omega
  rw [e]
  simp
theorem cutA_h1 {w : α} : cutA (w :: us) none (some 1) = [w] := by rw [cutA_to (by omega)]; rfl
theorem cutA_t1 {w : α} : cutA (w :: us) (some 1) none = us := by rw [cutA_from (by omega)]; rfl
theorem atI_0 {w : α} : atI (w :: us) 0 = some w := atI_of (by omega) rfl
theorem atI_m1 {w : α} : atI (us ++ [w]) (-1) = some w := by
  unfold atI ixN
  rw [if_neg (by omega), if_pos (by rw [List.length_append, List.length_singleton]; omega)]
  have e : (-1 + (((us ++ [w]).length : Nat) : Int)).toNat = us.length := by rw [List.length_append, List.length_singleton]; omega
  rw [e]
  simp
theorem atI_map {i : Int} (h : atI us i = some w) : atI (us.map g) i = some (g w) := by
  unfold atI at h ⊢
  rw [List.length_map]
  cases z : ixN us.length i with
  | none => rw [z] at h; cases h
  | some j =>
    rw [z] at h
    show (us.map g)[j]? = _
    rw [List.getElem?_map]
    have h : us[j]? = some w := h
    rw [h]
    rfl
theorem e_ixM {i : Int} (h : HasL K L a (us.map g)) (hi : atI us i = some w) (q : Ent L fun H => Q (g w) H) : Ent L fun H => rIxL K (.ref a) (.int i) H Q := e_ixL h (atI_map hi) q
theorem e_setM {v : V} {i : Int} {j : Nat} {φ : Hp → Prop} (h : Take (pt a (.lst (us.map g))) L R) (hv : v = g w) (hi : ixN us.length i = some j) (q : Ent (pt a (.lst ((us.set j w).map g)) :: R) φ) : Ent L fun H => rSetL (.ref a) (.int i) v H φ := by
  subst hv
  refine e_setL h (by rw [List.length_map]; exact hi) ?_
  rw [← List.map_set]
  exact q
theorem e_appM {v : V} (h : Take (pt l (.lst (us.map g))) L R) (hv : v = g w) (hz : us.length ≤ 100000) (q : Ent (pt l (.lst ((us ++ [w]).map g)) :: R) (Q .non)) : Ent L fun H => rAppend (.ref l) [v] H Q := by
  subst hv
  refine e_app h (by rw [List.length_map]; exact hz) ?_
  rw [List.map_append] at q
  exact q
theorem e_popM (h : Take (pt l (.lst (us.map g))) L R) (hy : us[us.length - 1]? = some w) (q : Ent (pt l (.lst (us.dropLast.map g)) :: R) (Q (g w))) : Ent L fun H => rPop (.ref l) [] H Q := by
  refine e_pop h (by rw [List.length_map, List.getElem?_map, hy]; rfl) ?_
  rw [List.map_dropLast] at q
  exact q
theorem e_popAtM {i : Int} {j : Nat} (h : Take (pt l (.lst (us.map g))) L R) (h0 : -1000000 ≤ i ∧ i ≤ 1000000) (hj : seqIndex? i us.length = some j) (hy : us[j]? = some w) (q : Ent (pt l (.lst ((us.eraseIdx j).map g)) :: R) (Q (g w))) : Ent L fun H => rPopAt (.ref l) [.int i] H Q := by
  refine e_popAt h h0 (by rw [List.length_map]; exact hj) (by rw [List.getElem?_map, hy]; rfl) ?_
  rw [erase_map] 
  exact q
theorem e_slM {lo hi : Option Int} (h : HasL K L a (us.map g)) (q : ∀ p, Ent (pt p (.lst ((cutA us lo hi).map g)) :: L) (Q (.ref p))) : Ent L fun H => rSlL K (.ref a) lo hi H Q := e_slL h fun p => by rw [cutV_map]; exact q p
theorem e_revM (h : HasL K L a (us.map g)) (q : ∀ p, Ent (pt p (.lst (us.reverse.map g)) :: L) (Q (.ref p))) : Ent L fun H => kRev K Q (.ref a) H := e_rev h fun p => by rw [← List.map_reverse]; exact q p
theorem e_catM {R' : List HA} (h1 : Take (pt l (.lst (us.map g))) L R) (h2 : Take (pt b (.lst (ws.map g))) L R') (hz : us.length + ws.length ≤ 100000) (q : ∀ p, Ent (pt p (.lst ((us ++ ws).map g)) :: L) (Q (.ref p))) : Ent L fun H => rCat (.ref l) (.ref b) H Q := e_cat h1 h2 (by rw [List.length_map, List.length_map]; exact hz) fun p => by rw [← List.map_append]; exact q p
end
theorem ixN_at {α : Type} {us : List α} {i : Int} (h0 : 0 ≤ i) (h1 : i < us.length) : ixN us.length i = some i.toNat := ixN_of h0 h1
theorem e_catT (h1 : HasT K L a xs) (h2 : HasT K L b ys) (hx : xs ≠ []) (hy : ys ≠ []) (hz : xs.length + ys.length ≤ 100000) (q : ∀ p, Ent (tu p (xs ++ ys) :: L) (Q (.ref p))) : Ent L fun H => rCatT K (.ref a) (.ref b) H Q := fun H k =>
  ⟨a, b, xs, ys, rfl, rfl, h1 H k, h2 H k, hx, Nat.le_trans hz (by decide), fun z => (hy z).elim, fun _ p n => q p _ (k.newI n rfl)⟩
theorem e_catT0 (h1 : HasT K L a xs) (h2 : HasT K L b []) (hx : xs ≠ []) (hz : xs.length ≤ 100000) (q : Ent L (Q (.ref a))) : Ent L fun H => rCatT K (.ref a) (.ref b) H Q := fun H k =>
  ⟨a, b, xs, [], rfl, rfl, h1 H k, h2 H k, hx, Nat.le_trans hz (by decide), fun _ => q H k, fun z => (z rfl).elim⟩
theorem e_isi {v w : V} {t u : Value} {r : Bool} (ht : ∀ H, Holds L H → TyX K H v t) (hc : ClsV w u) (hk : PySem.W.kitOne K t u = some r) (q : Ent L (Q (.bl r))) : Ent L fun H => rIsi K [v, w] H Q := fun H k => ⟨v, w, t, u, r, rfl, hc, ht H k, hk, q H k⟩
/-- an instance of C stands at a, without an attribute m -/
def HasI (C : Addr) (L : List HA) (a : Addr) (m : Str) : Prop := ∀ H, Holds L H → ∃ dx fs, H a = some (.ins C dx fs) ∧ fs.lookup m = none
theorem hasI_pt {m : Str} (t : Take (pt a (.ins C dx fs)) L R) (hl : fs.lookup m = none) : HasI C L a m := fun H h => ⟨dx, fs, t.pt h, hl⟩
theorem e_methI {φ : Hp → Prop} {m : Str} (h : HasI C L a m) (q : Ent L φ) : Ent L fun H => ∃ a' dx fs, V.ref a = .ref a' ∧ H a' = some (.ins C dx fs) ∧ fs.lookup m = none ∧ φ H := fun H k => by
  obtain ⟨dx, fs, e, l⟩ := h H k
  exact ⟨a, dx, fs, rfl, e, l, q H k⟩
theorem e_propI {sp : Sp} {dvs : List V} {E : XK} (h : HasI C L a "") (q : Ent L fun H => sp (.ref a :: dvs) H Q E) : Ent L fun H => ∃ a' dx fs, V.ref a = .ref a' ∧ H a' = some (.ins C dx fs) ∧ sp (.ref a' :: dvs) H Q E := fun H k => by
  obtain ⟨dx, fs, e, l⟩ := h H k
  exact ⟨a, dx, fs, rfl, e, q H k⟩
/-! ### loops -/
/-- a walk that yields f i, the heap unchanged, wherever G stands -/
theorem e_loop {β : Type} {J : It} {n : Nat} {G : Hp → Prop} {Y : Nat → Hp → V → Hp → Prop} {g : TG} {tb : TS} (w : Walk J n G Y) (sg : Nat → β → St) (Pv : Nat → β → List HA) (b0 : β) (h0 : σ = sg 0 b0) (s0 : Sub L (Pv 0 b0)) (hG : ∀ i b, Ent (Pv i b) G)
    (hs : ∀ i x b, i < n → ∀ H H', Holds (Pv i b) H → Y i H x H' → g x (sg i b) H' fun σ2 H2 => tb ⟨fun σ' H' => ∃ b, σ' = sg (i + 1) b ∧ Holds (Pv (i + 1) b) H', rt, nx, fun σ' H' => ∃ b, σ' = sg (i + 1) b ∧ Holds (Pv (i + 1) b) H'⟩ σ2 H2)
    (hd : ∀ b, Ent (Pv n b) (nx (sg n b))) : Ent L fun H => kLoop g tb ⟨nx, rt, bk, ct⟩ σ J H := fun H k =>
  w_loop w (fun i σ' H' => ∃ b, σ' = sg i b ∧ Holds (Pv i b) H') ⟨b0, h0, s0.to k⟩ (fun i σ H _ ⟨b, _, z⟩ => hG i b H z) (fun i x σ' H' H'' hi ⟨b, e, z⟩ y => by subst e; exact hs i x b hi H' H'' z y) (fun σ' H' ⟨b, e, z⟩ => by subst e; exact hd b H' z)
theorem e_list {β : Type} {g : TG} {tb : TS} (sg : Nat → β → St) (Pv : Nat → β → List HA) (b0 : β) (h : HasL K L a xs) (h0 : σ = sg 0 b0) (s0 : Sub L (Pv 0 b0)) (hl : ∀ i b, HasL K (Pv i b) a xs)
    (hs : ∀ i x b, xs[i]? = some x → Ent (Pv i b) fun H => g x (sg i b) H fun σ2 H2 => tb ⟨fun σ' H' => ∃ b, σ' = sg (i + 1) b ∧ Holds (Pv (i + 1) b) H', rt, nx, fun σ' H' => ∃ b, σ' = sg (i + 1) b ∧ Holds (Pv (i + 1) b) H'⟩ σ2 H2)
    (hd : ∀ b, Ent (Pv xs.length b) (nx (sg xs.length b))) : Ent L fun H => kFL K g tb ⟨nx, rt, bk, ct⟩ σ (.ref a) H := fun H k =>
  w_list (fun i σ' H' => ∃ b, σ' = sg i b ∧ Holds (Pv i b) H') (h H k) ⟨b0, h0, s0.to k⟩ (fun i σ' H' _ ⟨b, _, z⟩ => hl i b H' z) (fun i x σ' H' hx ⟨b, e, z⟩ => by subst e; exact hs i x b hx H' z) (fun σ' H' ⟨b, e, z⟩ => by subst e; exact hd b H' z)
theorem e_tupl {β : Type} {g : TG} {tb : TS} (sg : Nat → β → St) (Pv : Nat → β → List HA) (b0 : β) (h : HasT K L a xs) (h0 : σ = sg 0 b0) (s0 : Sub L (Pv 0 b0)) (hl : ∀ i b, HasT K (Pv i b) a xs)
    (hs : ∀ i x b, xs[i]? = some x → Ent (Pv i b) fun H => g x (sg i b) H fun σ2 H2 => tb ⟨fun σ' H' => ∃ b, σ' = sg (i + 1) b ∧ Holds (Pv (i + 1) b) H', rt, nx, fun σ' H' => ∃ b, σ' = sg (i + 1) b ∧ Holds (Pv (i + 1) b) H'⟩ σ2 H2)
    (hd : ∀ b, Ent (Pv xs.length b) (nx (sg xs.length b))) : Ent L fun H => kFT K g tb ⟨nx, rt, bk, ct⟩ σ (.ref a) H := fun H k =>
  w_tupl (fun i σ' H' => ∃ b, σ' = sg i b ∧ Holds (Pv i b) H') (h H k) ⟨b0, h0, s0.to k⟩ (fun i σ' H' _ ⟨b, _, z⟩ => hl i b H' z) (fun i x σ' H' hx ⟨b, e, z⟩ => by subst e; exact hs i x b hx H' z) (fun σ' H' ⟨b, e, z⟩ => by subst e; exact hd b H' z)
theorem e_range1 {β : Type} {g : TG} {tb : TS} {j : Int} (sg : Nat → β → St) (Pv : Nat → β → List HA) (b0 : β) (hj : -100000000 ≤ j ∧ j < 100000000) (h0 : σ = sg 0 b0) (s0 : Sub L (Pv 0 b0))
    (hs : ∀ (i : Nat) b, (i : Int) < j → Ent (Pv i b) fun H => g (.int i) (sg i b) H fun σ2 H2 => tb ⟨fun σ' H' => ∃ b, σ' = sg (i + 1) b ∧ Holds (Pv (i + 1) b) H', rt, nx, fun σ' H' => ∃ b, σ' = sg (i + 1) b ∧ Holds (Pv (i + 1) b) H'⟩ σ2 H2)
    (hd : ∀ b, Ent (Pv j.toNat b) (nx (sg j.toNat b))) : Ent L fun H => kR1 g tb ⟨nx, rt, bk, ct⟩ σ [.int j] H := fun H k =>
  w_range1 (fun i σ' H' => ∃ b, σ' = sg i b ∧ Holds (Pv i b) H') hj ⟨b0, h0, s0.to k⟩ (fun i σ' H' hi ⟨b, e, z⟩ => by subst e; exact hs i b hi H' z) (fun σ' H' ⟨b, e, z⟩ => by subst e; exact hd b H' z)
theorem e_forR1 {g : TG} {tb : TS} (q : Ent L fun H => tas σ H fun vs H1 => kR1 g tb ⟨nx, rt, bk, ct⟩ σ vs H1) : Ent L fun H => tFor (iRng1 tas) g tb ⟨nx, rt, bk, ct⟩ σ H := q
theorem e_forL {g : TG} {tb : TS} (q : Ent L fun H => te σ H fun x H1 => kFL K g tb ⟨nx, rt, bk, ct⟩ σ x H1) : Ent L fun H => tFor (iList K te) g tb ⟨nx, rt, bk, ct⟩ σ H := q
theorem e_forT {g : TG} {tb : TS} (q : Ent L fun H => te σ H fun x H1 => kFT K g tb ⟨nx, rt, bk, ct⟩ σ x H1) : Ent L fun H => tFor (iTup K te) g tb ⟨nx, rt, bk, ct⟩ σ H := q
theorem e_forZ {g : TG} {tb : TS} (q : Ent L fun H => tas σ H fun us H1 => kZip K (kLoop g tb ⟨nx, rt, bk, ct⟩ σ) us H1) : Ent L fun H => tFor (iZip K tas) g tb ⟨nx, rt, bk, ct⟩ σ H := q
theorem e_forE {g : TG} {tb : TS} (q : Ent L fun H => tas σ H fun us H1 => kEnum K (kLoop g tb ⟨nx, rt, bk, ct⟩ σ) us H1) : Ent L fun H => tFor (iEnum K tas) g tb ⟨nx, rt, bk, ct⟩ σ H := q
/-! ### comprehensions: kp tells what is kept of an item (nothing: none); owned things stay as they are -/
def kLc (K : PySem.W.Frag) (g : TG) (tt : TT) (te : TE) (vs : List Nat) (σ : St) (Q : VK) (x : V) (H : Hp) : Prop := ∃ a, x = .ref a ∧ (∃ xs, SqL K H a xs) ∧ ∀ D, H D = none → ∃ W : Nat → Nat → Hp → Prop, (∃ m, W 0 m (upd H D (.lst []))) ∧ ∀ i m H, W i m H →
  ((Itl K a).stop i H ∧ Q (.ref D) H) ∨ ((Itl K a).go i H ∧ ∃ Nx : Hp → Prop, (∀ H', Nx H' → ∃ m', m' < m ∧ W (i + 1) m' H') ∧ ∀ x H', (Itl K a).yld i H x H' → g x (wipe σ vs) H' fun σ2 H2 => wipe σ2 vs = wipe σ vs ∧ tt σ2 H2 fun b H3 =>
    if b = true then te σ2 H3 fun y H4 => ∃ acc, H4 D = some (.lst acc) ∧ acc.length < sizeLine ∧ Nx (upd H4 D (.lst (acc ++ [y]))) else Nx H3)
theorem e_lc0 {g : TG} {tt : TT} {vs : List Nat} (q : Ent L fun H => ta σ H fun x H1 => kLc K g tt te vs σ Q x H1) : Ent L fun H => tLc (iList K ta) g tt te vs σ H Q := q
theorem e_lc {α : Type} {g : TG} {tt : TT} {vs : List Nat} (es : List α) (it : α → V) (kp : α → Option V) (h : HasL K L a (es.map it)) (hz : es.length ≤ 100000)
    (step : ∀ e, e ∈ es → ∀ D acc (r : VK) (s : Hp → Prop), (∀ y, kp e = some y → Ent (pt D (.lst acc) :: L) (r y)) → (kp e = none → Ent (pt D (.lst acc) :: L) s) → Ent (pt D (.lst acc) :: L) fun H => g (it e) (wipe σ vs) H fun σ2 H2 => wipe σ2 vs = wipe σ vs ∧ tt σ2 H2 fun b H3 => if b = true then te σ2 H3 r else s H3)
    (q : ∀ D, Ent (pt D (.lst (es.filterMap kp)) :: L) (Q (.ref D))) : Ent L fun H => kLc K g tt te vs σ Q (.ref a) H := fun H k => by
  refine ⟨a, rfl, ⟨_, h H k⟩, fun D nD => ?_⟩
  refine lc_list (K := K) (a := a) (xs := es.map it) (fun i H' => i ≤ es.length ∧ Holds (pt D (.lst ((es.take i).filterMap kp)) :: L) H') ⟨Nat.zero_le _, k.new nD rfl⟩ (fun i H' _ p => h H' (Sub.to (Sub.drop Sub.refl) p.2)) (fun i x H' hx p => ?_) (fun H' p => q D H' (by
    have e := p.2
    rw [List.length_map, List.take_length] at e
    exact e))
  obtain ⟨e, he, hin, rfl⟩ := map_at hx
  have hi : i < es.length := (List.getElem?_eq_some_iff.mp he).1
  have et : es.take (i + 1) = es.take i ++ [e] := by rw [List.take_succ, he]; rfl
  refine step e hin D _ _ _ (fun y hy H4 z => ?_) (fun hn H3 z => ?_) H' p.2
  · refine ⟨_, z.pt_get, Nat.lt_of_le_of_lt (List.length_filterMap_le _ _) (Nat.lt_of_le_of_lt ?_ (by decide : 100000 < sizeLine)), hi, ?_⟩
    · rw [List.length_take]
      omega
    · rw [et, List.filterMap_append]
      simp only [List.filterMap_cons, hy, List.filterMap_nil]
      exact z.upd rfl
  · refine ⟨hi, ?_⟩
    rw [et, List.filterMap_append]
    simp only [List.filterMap_cons, hn, List.filterMap_nil, List.append_nil]
    exact z
end
end Toy
namespace Toy
open PySem L2
/-! ### kinds of things that never change, and lists, tuples of them -/
abbrev KeepI (H H' : Hp) : Prop := Keep (fun _ => False) H H'
theorem Keep.i {S : Addr → Prop} {H H' : Hp} (k : Keep S H H') : KeepI H H' := k.mono fun _ z => z.elim
structure El (K : PySem.W.Frag) (α : Type) where
  P : Hp → V → α → Prop
  st : ∀ {H H' : Hp} {v : V} {x : α}, P H v x → KeepI H H' → P H' v x
  d : α → PyData
  dp : ∀ {H : Hp} {v : V} {x : α}, P H v x → Dp K H v (d x)
inductive All2 {α β : Type} (r : α → β → Prop) : List α → List β → Prop
  | nil : All2 r [] []
  | cons {x : α} {y : β} {xs : List α} {ys : List β} : r x y → All2 r xs ys → All2 r (x :: xs) (y :: ys)
section
variable {α β : Type} {r s : α → β → Prop} {xs xs' : List α} {ys ys' : List β}
theorem All2.imp (f : ∀ x y, r x y → s x y) : ∀ {xs ys}, All2 r xs ys → All2 s xs ys
  | _, _, .nil => .nil
  | _, _, .cons h t => .cons (f _ _ h) (All2.imp f t)
theorem All2.len : ∀ {xs : List α} {ys : List β}, All2 r xs ys → xs.length = ys.length
  | _, _, .nil => rfl
  | _, _, .cons _ t => by simp [All2.len t]
theorem All2.app (h : All2 r xs ys) (k : All2 r xs' ys') : All2 r (xs ++ xs') (ys ++ ys') := by
  induction h with
  | nil => exact k
  | cons h _ ih => exact .cons h ih
theorem All2.one {x : α} {y : β} (h : r x y) : All2 r [x] [y] := .cons h .nil
theorem All2.get : ∀ {xs : List α} {ys : List β} {i : Nat} {x : α}, All2 r xs ys → xs[i]? = some x → ∃ y, ys[i]? = some y ∧ r x y
  | _, _, _, _, .nil, e => by simp at e
  | _, _, 0, _, .cons h _, e => by simp at e; subst e; exact ⟨_, rfl, h⟩
  | _, _, i + 1, x, .cons _ t, e => by
    obtain ⟨y, h1, h2⟩ := All2.get (i := i) (x := x) t (by simpa using e)
    exact ⟨y, by simpa using h1, h2⟩
theorem All2.getR : ∀ {xs : List α} {ys : List β} {i : Nat} {y : β}, All2 r xs ys → ys[i]? = some y → ∃ x, xs[i]? = some x ∧ r x y
  | _, _, _, _, .nil, e => by simp at e
  | _, _, 0, _, .cons h _, e => by simp at e; subst e; exact ⟨_, rfl, h⟩
  | _, _, i + 1, x, .cons _ t, e => by
    obtain ⟨y, h1, h2⟩ := All2.getR (i := i) t (by simpa using e)
    exact ⟨y, by simpa using h1, h2⟩
theorem All2.take : ∀ (n : Nat) {xs : List α} {ys : List β}, All2 r xs ys → All2 r (xs.take n) (ys.take n)
  | 0, _, _, _ => by simp; exact .nil
  | n + 1, _, _, .nil => .nil
  | n + 1, _, _, .cons h t => .cons h (All2.take n t)
theorem All2.drop : ∀ (n : Nat) {xs : List α} {ys : List β}, All2 r xs ys → All2 r (xs.drop n) (ys.drop n)
  | 0, _, _, h => h
  | n + 1, _, _, .nil => .nil
  | n + 1, _, _, .cons h t => All2.drop n t
theorem All2.eraseIdx : ∀ (n : Nat) {xs : List α} {ys : List β}, All2 r xs ys → All2 r (xs.eraseIdx n) (ys.eraseIdx n)
  | _, _, _, .nil => by simp; exact .nil
  | 0, _, _, .cons h t => t
  | n + 1, _, _, .cons h t => .cons h (All2.eraseIdx n t)
theorem All2.set {x : α} {y : β} (q : r x y) : ∀ (n : Nat) {xs : List α} {ys : List β}, All2 r xs ys → All2 r (xs.set n x) (ys.set n y)
  | _, _, _, .nil => by simp; exact .nil
  | 0, _, _, .cons h t => .cons q t
  | n + 1, _, _, .cons h t => .cons h (All2.set q n t)
theorem All2.rev (h : All2 r xs ys) : All2 r xs.reverse ys.reverse := by
  induction h with
  | nil => exact .nil
  | cons h _ ih => simp only [List.reverse_cons]; exact ih.app (.one h)
theorem All2.map (f : β → α) (h : ∀ y ∈ ys, r (f y) y) : All2 r (ys.map f) ys := by
  induction ys with
  | nil => exact .nil
  | cons y ys ih => exact .cons (h y (List.mem_cons_self ..)) (ih fun z hz => h z (List.mem_cons_of_mem _ hz))
end
section
variable {K : PySem.W.Frag} {α β γ δ : Type}
theorem dpAll_of {d : α → PyData} {H : Hp} {vs : List V} {xs : List α} (h : All2 (fun v x => Dp K H v (d x)) vs xs) : DpAll K H vs (xs.map d) := by
  induction h with
  | nil => exact .nil
  | cons h _ ih => exact .cons h ih
def kI : El K Int := ⟨fun _ v n => v = .int n, fun h _ => h, .int, fun h => by subst h; exact .int _⟩
def kB : El K Bool := ⟨fun _ v n => v = .bl n, fun h _ => h, .bool, fun h => by subst h; exact .bl _⟩
def kS : El K Str := ⟨fun _ v n => v = .str n, fun h _ => h, .str, fun h => by subst h; exact .str _⟩
def kO (E : El K α) : El K (Option α) := ⟨fun H v x => match x with | none => v = .non | some y => E.P H v y, fun {H H' v x} h k => by
  cases x with
  | none => exact h
  | some y => exact E.st h k, optD E.d, fun {H v x} h => by
  cases x with
  | none => cases h; exact .non
  | some y => exact E.dp h⟩
/-- a tuple of plain values -/
def kF (f : α → List V) (g : α → List PyData) (hd : ∀ {K : PySem.W.Frag} {H : Hp} (x : α), DpAll K H (f x) (g x)) : El K α := ⟨fun H v x => ∃ t, v = .ref t ∧ H t = some (.tup (f x)), fun ⟨t, e, h⟩ k => ⟨t, e, k t _ h (.inr rfl)⟩, fun x => .tuple (g x), fun ⟨t, e, h⟩ => by
  subst e
  exact .tup (SqT.of h) (hd _)⟩
def kP2 (A : El K α) (B : El K β) : El K (α × β) := ⟨fun H v x => ∃ t u w, v = .ref t ∧ H t = some (.tup [u, w]) ∧ A.P H u x.1 ∧ B.P H w x.2, fun ⟨t, u, w, e, h, a, b⟩ k => ⟨t, u, w, e, k t _ h (.inr rfl), A.st a k, B.st b k⟩, fun x => .tuple [A.d x.1, B.d x.2], fun ⟨t, u, w, e, h, a, b⟩ => by
  subst e
  exact .tup (SqT.of h) (.cons (A.dp a) (.cons (B.dp b) .nil))⟩
def kP3 (A : El K α) (B : El K β) (C : El K γ) : El K (α × β × γ) := ⟨fun H v x => ∃ t u w z, v = .ref t ∧ H t = some (.tup [u, w, z]) ∧ A.P H u x.1 ∧ B.P H w x.2.1 ∧ C.P H z x.2.2, fun ⟨t, u, w, z, e, h, a, b, c⟩ k => ⟨t, u, w, z, e, k t _ h (.inr rfl), A.st a k, B.st b k, C.st c k⟩, fun x => .tuple [A.d x.1, B.d x.2.1, C.d x.2.2], fun ⟨t, u, w, z, e, h, a, b, c⟩ => by
  subst e
  exact .tup (SqT.of h) (.cons (A.dp a) (.cons (B.dp b) (.cons (C.dp c) .nil)))⟩
/-- a tuple of things of one kind -/
def kT (A : El K α) : El K (List α) := ⟨fun H v x => ∃ t us, v = .ref t ∧ H t = some (.tup us) ∧ All2 (A.P H) us x, fun ⟨t, us, e, h, a⟩ k => ⟨t, us, e, k t _ h (.inr rfl), a.imp fun _ _ z => A.st z k⟩, fun x => .tuple (x.map A.d), fun ⟨t, us, e, h, a⟩ => by
  subst e
  exact .tup (SqT.of h) (dpAll_of (a.imp fun _ _ z => A.dp z))⟩
/-- v is x, of the kind E -/
def vl (E : El K α) (v : V) (x : α) : HA := ⟨fun H S => E.P H v x ∧ ∀ b, ¬ S b, fun ⟨h, s⟩ k => ⟨E.st h k.i, s⟩, fun ⟨_, s⟩ q => (s _ q).elim⟩
instance {E : El K α} {v : V} {x : α} : Pers (vl E v x) := ⟨fun h q => h.2 _ q⟩
/-- all of vs are the xs, of the kind E -/
def vls (E : El K α) (vs : List V) (xs : List α) : HA := ⟨fun H S => All2 (E.P H) vs xs ∧ ∀ b, ¬ S b, fun ⟨h, s⟩ k => ⟨h.imp fun _ _ z => E.st z k.i, s⟩, fun ⟨_, s⟩ q => (s _ q).elim⟩
instance {E : El K α} {vs : List V} {xs : List α} : Pers (vls E vs xs) := ⟨fun h q => h.2 _ q⟩
/-- a list of things of the kind E stands at l -/
def ls (E : El K α) (l : Addr) (xs : List α) : HA := ⟨fun H S => (∃ vs, H l = some (.lst vs) ∧ All2 (E.P H) vs xs) ∧ ∀ b, S b ↔ b = l, fun {H H' S} ⟨⟨vs, h, a⟩, s⟩ k => ⟨⟨vs, k l _ h (.inl ((s l).mpr rfl)), a.imp fun _ _ z => E.st z k.i⟩, s⟩, fun {H S c} ⟨⟨vs, h, a⟩, s⟩ q => by
  rw [(s c).mp q]
  exact ⟨_, h, rfl⟩⟩
section
variable {E : El K α} {L M R R' : List HA} {l : Addr} {xs ys : List α} {vs : List V} {v : V} {x y : α} {Q : VK} {φ : Hp → Prop} {H : Hp}
/-- opened: its values -/
theorem Sub.ls_e (f : ∀ vs, Sub (pt l (.lst vs) :: vls E vs xs :: L) M) : Sub (ls E l xs :: L) M := fun H S ⟨S1, S2, ⟨⟨vs, h, a⟩, s⟩, h2, hd, hs⟩ =>
  f vs H S ⟨S1, S2, ⟨h, rfl, s⟩, ⟨fun _ => False, S2, ⟨a, fun _ q => q⟩, h2, fun _ q => q.elim, fun a => ⟨.inr, fun z => z.elim (fun z => z.elim) id⟩⟩, hd, hs⟩
theorem Ent.ls_e (e : ∀ vs, vs.length = xs.length → Ent (pt l (.lst vs) :: vls E vs xs :: L) φ) : Ent (ls E l xs :: L) φ := fun H ⟨S, S1, S2, ⟨⟨vs, h, a⟩, s⟩, h2, hd, hs⟩ =>
  e vs a.len H ⟨S, S1, S2, ⟨h, rfl, s⟩, ⟨fun _ => False, S2, ⟨a, fun _ q => q⟩, h2, fun _ q => q.elim, fun a => ⟨.inr, fun z => z.elim (fun z => z.elim) id⟩⟩, hd, hs⟩
/-- closed again -/
theorem Sub.ls_i (a : ∀ H, Holds L H → All2 (E.P H) vs xs) : Sub (pt l (.lst vs) :: L) (ls E l xs :: L) := fun H S ⟨S1, S2, ⟨h, i, s⟩, h2, hd, hs⟩ =>
  ⟨S, ⟨S1, S2, ⟨⟨vs, h, a H ⟨S2, h2⟩⟩, s⟩, h2, hd, hs⟩, fun _ q => q⟩
theorem Take.vl (t : Take (vl E v x) L R) (h : Holds L H) : E.P H v x := by
  obtain ⟨S, S1, S2, h1, _⟩ := t.to h
  exact h1.1
theorem Take.vls (t : Take (vls E vs xs) L R) (h : Holds L H) : All2 (E.P H) vs xs := by
  obtain ⟨S, S1, S2, h1, _⟩ := t.to h
  exact h1.1
theorem Take.ls (t : Take (ls E l xs) L R) (h : Holds L H) : ∃ vs, H l = some (.lst vs) ∧ All2 (E.P H) vs xs := by
  obtain ⟨S, S1, S2, h1, _⟩ := t.to h
  exact h1.1
theorem Holds.vl (h : Holds L H) (e : E.P H v x) : Holds (vl E v x :: L) H := by
  obtain ⟨S, h⟩ := h
  exact ⟨S, fun _ => False, S, ⟨e, fun b q => q⟩, h, fun b e q => e, fun b => ⟨.inr, fun z => z.elim (fun z => z.elim) id⟩⟩
theorem Holds.vls (h : Holds L H) (e : All2 (E.P H) vs xs) : Holds (vls E vs xs :: L) H := by
  obtain ⟨S, h⟩ := h
  exact ⟨S, fun _ => False, S, ⟨e, fun b q => q⟩, h, fun b e q => e, fun b => ⟨.inr, fun z => z.elim (fun z => z.elim) id⟩⟩
theorem Holds.ls_mk (h : Holds (pt l (.lst vs) :: R) H) (e : All2 (E.P H) vs ys) : Holds (ls E l ys :: R) H := by
  obtain ⟨S, S1, S2, ⟨h0, _, s⟩, h2⟩ := h
  exact ⟨S, S1, S2, ⟨⟨vs, h0, e⟩, s⟩, h2⟩
theorem Holds.ls_op (h : Holds (ls E l xs :: R) H) : ∃ ws, Holds (pt l (.lst ws) :: R) H ∧ All2 (E.P H) ws xs := by
  obtain ⟨S, S1, S2, ⟨⟨ws, h0, a⟩, s⟩, h2⟩ := h
  exact ⟨ws, ⟨S, S1, S2, ⟨h0, rfl, s⟩, h2⟩, a⟩
theorem keepI_upd {a : Addr} {o u : HO} (h : H a = some o) (i : Imm o = false) : KeepI H (L2.upd H a u) := fun b ob e q => by
  have n : b ≠ a := by
    rintro rfl
    rw [h] at e
    cases e
    rcases q with q | q
    · exact q.elim
    · rw [i] at q; cases q
  rw [upd_ne n]
  exact e
theorem keepI_new {a : Addr} {u : HO} (h : H a = none) : KeepI H (L2.upd H a u) := fun b ob e q => by
  rw [upd_ne (ne_of_none e h)]
  exact e
/-- the list's content replaced -/
theorem Holds.ls_upd (h : Holds (ls E l xs :: R) H) (e : All2 (E.P H) vs ys) : Holds (ls E l ys :: R) (L2.upd H l (.lst vs)) := by
  obtain ⟨ws, h1, _⟩ := h.ls_op
  have k : KeepI H (L2.upd H l (.lst vs)) := keepI_upd h1.pt_get rfl
  exact (h1.upd rfl).ls_mk (e.imp fun _ _ z => E.st z k)
theorem Holds.ls_new {p : Addr} (h : Holds L H) (n : H p = none) (e : All2 (E.P H) vs xs) : Holds (ls E p xs :: L) (L2.upd H p (.lst vs)) := (h.new n rfl).ls_mk (e.imp fun _ _ z => E.st z (keepI_new n))
theorem Holds.keep_vl (h : Holds (pt l (.lst vs) :: R) H) (e : E.P H v x) {u : HO} : E.P (L2.upd H l u) v x := E.st e (keepI_upd h.pt_get rfl)
/-! steps -/
theorem hasL_ls (t : Take (ls E l xs) L R) (h : Holds L H) : ∃ vs, SqL K H l vs ∧ All2 (E.P H) vs xs := by
  obtain ⟨vs, h1, h2⟩ := t.ls h
  exact ⟨vs, SqL.of h1, h2⟩
theorem e_lenLs (t : Take (ls E l xs) L R) (q : Ent L (Q (.int xs.length))) : Ent L fun H => rLenK K [.ref l] H Q := fun H k => by
  obtain ⟨vs, h1, h2⟩ := hasL_ls t k
  exact ⟨l, vs, rfl, .inl h1, by rw [h2.len]; exact q H k⟩
theorem e_tyLs {φ : Hp → Prop} (t : Take (ls E l xs) L R) (q : Ent L φ) : Ent L fun H => tyV K "list" (.ref l) H ∧ φ H := fun H k => by
  obtain ⟨vs, h1, h2⟩ := hasL_ls t k
  exact ⟨.inl ⟨rfl, vs, h1⟩, q H k⟩
theorem e_appLs (t : Take (ls E l xs) L R) (hy : ∀ H, Holds L H → E.P H v y) (hz : xs.length ≤ 100000) (q : Ent (ls E l (xs ++ [y]) :: R) (Q .non)) : Ent L fun H => rAppend (.ref l) [v] H Q := fun H k => by
  obtain ⟨vs, h1, h2⟩ := t.ls k
  exact ⟨l, vs, v, rfl, rfl, h1, by rw [h2.len]; exact Nat.lt_of_le_of_lt hz (by decide), q _ ((t.to k).ls_upd (h2.app (.one (hy H k))))⟩
theorem e_ixLs {i : Int} (t : Take (ls E l xs) L R) (hi : atI xs i = some x) (q : ∀ v, Ent (vl E v x :: L) (Q v)) : Ent L fun H => rIxL K (.ref l) (.int i) H Q := fun H k => by
  obtain ⟨vs, h1, h2⟩ := t.ls k
  have e := h2.len
  unfold atI at hi
  cases j : ixN xs.length i with
  | none => rw [j] at hi; cases hi
  | some j' =>
    rw [j] at hi
    obtain ⟨v, hv, hp⟩ := h2.getR hi
    exact ⟨l, vs, i, v, rfl, rfl, SqL.of h1, by unfold atI; rw [e, j]; exact hv, q v H (k.vl hp)⟩
theorem e_setLs {i : Int} {j : Nat} {φ : Hp → Prop} (t : Take (ls E l xs) L R) (hi : ixN xs.length i = some j) (hy : ∀ H, Holds L H → E.P H v y) (q : Ent (ls E l (xs.set j y) :: R) φ) : Ent L fun H => rSetL (.ref l) (.int i) v H φ := fun H k => by
  obtain ⟨vs, h1, h2⟩ := t.ls k
  exact ⟨l, vs, i, j, rfl, rfl, h1, by rw [h2.len]; exact hi, q _ ((t.to k).ls_upd (h2.set (hy H k) j))⟩
theorem e_popLs {y : α} (t : Take (ls E l xs) L R) (hy : xs[xs.length - 1]? = some y) (q : ∀ v, Ent (vl E v y :: ls E l xs.dropLast :: R) (Q v)) : Ent L fun H => rPop (.ref l) [] H Q := fun H k => by
  obtain ⟨vs, h1, h2⟩ := t.ls k
  have e := h2.len
  obtain ⟨v, hv, hp⟩ := h2.getR hy
  obtain ⟨ws, h3, _⟩ := (t.to k).ls_op
  refine ⟨l, vs, v, rfl, rfl, h1, by rw [e]; exact hv, q v _ (((t.to k).ls_upd ?_).vl (h3.keep_vl hp))⟩
  rw [List.dropLast_eq_take, List.dropLast_eq_take, e]
  exact h2.take _
theorem e_popAtLs {y : α} {i : Int} {j : Nat} (t : Take (ls E l xs) L R) (h0 : -1000000 ≤ i ∧ i ≤ 1000000) (hj : seqIndex? i xs.length = some j) (hy : xs[j]? = some y) (q : ∀ v, Ent (vl E v y :: ls E l (xs.eraseIdx j) :: R) (Q v)) : Ent L fun H => rPopAt (.ref l) [.int i] H Q := fun H k => by
  obtain ⟨vs, h1, h2⟩ := t.ls k
  obtain ⟨v, hv, hp⟩ := h2.getR hy
  obtain ⟨ws, h3, _⟩ := (t.to k).ls_op
  exact ⟨l, vs, i, j, v, rfl, rfl, h1, by omega, by omega, by rw [h2.len]; exact hj, hv, q v _ (((t.to k).ls_upd (h2.eraseIdx j)).vl (h3.keep_vl hp))⟩
theorem e_clearLs (t : Take (ls E l xs) L R) (q : Ent (ls E l [] :: R) (Q .non)) : Ent L fun H => rClear (.ref l) [] H Q := fun H k => by
  obtain ⟨vs, h1, h2⟩ := t.ls k
  exact ⟨l, vs, rfl, rfl, h1, q _ ((t.to k).ls_upd .nil)⟩
theorem All2.cutV {E : El K α} {vs : List V} {xs : List α} {lo hi : Option Int} (h : All2 (E.P H) vs xs) : ∃ a n, L2.cutV vs lo hi = (vs.drop a).take n ∧ a = HT.sIx xs.length 0 lo ∧ n = HT.sIx xs.length xs.length hi - HT.sIx xs.length 0 lo := by
  unfold L2.cutV
  rw [h.len]
  exact ⟨_, _, rfl, rfl, rfl⟩
theorem e_slLs {lo hi : Option Int} (t : Take (ls E l xs) L R) (q : ∀ p, Ent (ls E p (cutA xs lo hi) :: L) (Q (.ref p))) : Ent L fun H => rSlL K (.ref l) lo hi H Q := fun H k => by
  obtain ⟨vs, h1, h2⟩ := t.ls k
  obtain ⟨a, n, e, e2, e3⟩ := h2.cutV (lo := lo) (hi := hi)
  refine ⟨l, vs, rfl, SqL.of h1, fun p np => q p _ (k.ls_new np ?_)⟩
  rw [e, e2, e3]
  exact (h2.drop _).take _
theorem e_revLs (t : Take (ls E l xs) L R) (q : ∀ p, Ent (ls E p xs.reverse :: L) (Q (.ref p))) : Ent L fun H => kRev K Q (.ref l) H := fun H k => by
  obtain ⟨vs, h1, h2⟩ := t.ls k
  exact ⟨l, vs, rfl, SqL.of h1, fun p np => q p _ (k.ls_new np h2.rev)⟩
theorem e_catLs {b : Addr} (t : Take (ls E l xs) L R) (t2 : Take (ls E b ys) L R') (hz : xs.length + ys.length ≤ 100000) (q : ∀ p, Ent (ls E p (xs ++ ys) :: L) (Q (.ref p))) : Ent L fun H => rCat (.ref l) (.ref b) H Q := fun H k => by
  obtain ⟨vs, h1, h2⟩ := t.ls k
  obtain ⟨ws, h3, h4⟩ := t2.ls k
  exact ⟨l, b, vs, ws, rfl, rfl, h1, h3, by rw [h2.len, h4.len]; exact Nat.le_trans hz (by decide), fun p np => q p _ (k.ls_new np (h2.app h4))⟩
theorem e_listLs (t : Take (ls E l xs) L R) (q : ∀ p, Ent (ls E p xs :: L) (Q (.ref p))) : Ent L fun H => rListK K [.ref l] H Q := fun H k => by
  obtain ⟨vs, h1, h2⟩ := t.ls k
  exact ⟨l, vs, rfl, .inl (SqL.of h1), fun p np => q p _ (k.ls_new np h2)⟩
theorem e_tupLs (t : Take (ls E l xs) L R) (q : ∀ p, Ent (vl (kT E) (.ref p) xs :: L) (Q (.ref p))) : Ent L fun H => rTupK K [.ref l] H Q := fun H k => by
  obtain ⟨vs, h1, h2⟩ := t.ls k
  refine ⟨l, vs, rfl, .inl ⟨SqL.of h1, fun p np => q p _ ?_⟩⟩
  have h3 : Holds L (L2.upd H p (.tup vs)) := Sub.to (Sub.drop Sub.refl) (k.newI (o := .tup vs) np rfl)
  exact h3.vl ⟨p, vs, rfl, upd_same, h2.imp fun _ _ z => E.st z (keepI_new np)⟩
theorem dpLs (t : Take (ls E l xs) L R) : ∀ H, Holds L H → Dp K H (.ref l) (.list (xs.map E.d)) := fun H k => by
  obtain ⟨vs, h1, h2⟩ := t.ls k
  exact .lst (SqL.of h1) (dpAll_of (h2.imp fun _ _ z => E.dp z))
theorem dpVl (t : Take (vl E v x) L R) : ∀ H, Holds L H → Dp K H v (E.d x) := fun H k => E.dp (t.vl k)
theorem e_eqLs [DecidableEq α] {n : Nat} {a b : Addr} (h : DtOk E.d n) (t : Take (ls E a xs) L R) (t2 : Take (ls E b ys) L R') (q : Ent L (Q (.bl (decide (xs = ys))))) (hn : n + 1 ≤ 64 := by decide) : Ent L fun H => rEqD K (.ref a) (.ref b) H Q := e_eqD h.list (dpLs t) (dpLs t2) q hn
theorem e_neLs [DecidableEq α] {n : Nat} {a b : Addr} (h : DtOk E.d n) (t : Take (ls E a xs) L R) (t2 : Take (ls E b ys) L R') (q : Ent L (Q (.bl (!decide (xs = ys))))) (hn : n + 1 ≤ 64 := by decide) : Ent L fun H => rNeD K (.ref a) (.ref b) H Q := e_neD h.list (dpLs t) (dpLs t2) q hn
/-- a loop over such a list: the list stands in Pv -/
theorem e_listLs' {β : Type} {g : TG} {tb : TS} {σ : St} {nx bk ct : St → Hp → Prop} {rt : VK} (sg : Nat → β → St) (Pv : Nat → β → List HA) (b0 : β) (h0 : σ = sg 0 b0) (s0 : Sub L (Pv 0 b0)) (hl : ∀ i b, ∃ R, Take (ls E l xs) (Pv i b) R)
    (hs : ∀ i x v b, xs[i]? = some x → Ent (vl E v x :: Pv i b) fun H => g v (sg i b) H fun σ2 H2 => tb ⟨fun σ' H' => ∃ b, σ' = sg (i + 1) b ∧ Holds (Pv (i + 1) b) H', rt, nx, fun σ' H' => ∃ b, σ' = sg (i + 1) b ∧ Holds (Pv (i + 1) b) H'⟩ σ2 H2)
    (hd : ∀ b, Ent (Pv xs.length b) (nx (sg xs.length b))) : Ent L fun H => kFL K g tb ⟨nx, rt, bk, ct⟩ σ (.ref l) H := fun H k => by
  have w : Walk (Itl K l) xs.length (fun H => ∃ vs, H l = some (.lst vs) ∧ All2 (E.P H) vs xs) (fun i H x H' => H' = H ∧ ∃ e, xs[i]? = some e ∧ E.P H x e) :=
    ⟨fun i H hi ⟨vs, h1, h2⟩ => by
      obtain ⟨v, hv, _⟩ := h2.getR (List.getElem?_eq_getElem hi)
      exact ⟨vs, v, SqL.of h1, hv⟩, fun H ⟨vs, h1, h2⟩ => ⟨vs, SqL.of h1, Nat.le_of_eq h2.len⟩, fun i H x H' hi ⟨vs, h1, h2⟩ ⟨e, y⟩ => ⟨e, h2.get (y vs (SqL.of h1))⟩⟩
  obtain ⟨R0, t0⟩ := hl 0 b0
  obtain ⟨vs, h1, h2⟩ := t0.ls (s0.to k)
  have z := for_it w (D := ⟨nx, rt, bk, ct⟩) (g := g) (tb := tb) (σ := σ) (H := H) (fun i σ' H' => ∃ b, σ' = sg i b ∧ Holds (Pv i b) H') ⟨b0, h0, s0.to k⟩ (fun i σ' H' _ ⟨b, _, z⟩ => by
    obtain ⟨R, t⟩ := hl i b
    exact t.ls z) (fun i x σ' H' H'' hi ⟨b, e, z⟩ ⟨e2, y, hy, hp⟩ => by subst e e2; exact hs i y x b hy H'' (z.vl hp)) (fun σ' H' ⟨b, e, z⟩ => by subst e; exact hd b H' z)
  have h3 : H l = some (.lst vs) := h1
  exact ⟨l, rfl, ⟨vs, SqL.of h3⟩, z⟩
theorem walk_ls (l : Addr) (xs : List α) : Walk (Itl K l) xs.length (fun H => ∃ vs, H l = some (.lst vs) ∧ All2 (E.P H) vs xs) (fun i H x H' => H' = H ∧ ∃ e, xs[i]? = some e ∧ E.P H x e) :=
  ⟨fun i H hi ⟨vs, h1, h2⟩ => by
    obtain ⟨v, hv, _⟩ := h2.getR (List.getElem?_eq_getElem hi)
    exact ⟨vs, v, SqL.of h1, hv⟩, fun H ⟨vs, h1, h2⟩ => ⟨vs, SqL.of h1, Nat.le_of_eq h2.len⟩, fun i H x H' hi ⟨vs, h1, h2⟩ ⟨e, y⟩ => ⟨e, h2.get (y vs (SqL.of h1))⟩⟩
/-- a comprehension over such a list, what it makes told by another kind -/
theorem e_lcLs {β : Type} {σ : St} {g : TG} {tt : TT} {te : TE} {vs : List Nat} (E' : El K β) (kp : α → Option β) (t : Take (ls E l xs) L R) (hz : xs.length ≤ 100000)
    (step : ∀ x, x ∈ xs → ∀ v D ys (r : VK) (s : Hp → Prop), (∀ v' y, kp x = some y → Ent (vl E' v' y :: ls E' D ys :: L) (r v')) → (kp x = none → Ent (ls E' D ys :: L) s) → Ent (vl E v x :: ls E' D ys :: L) fun H => g v (wipe σ vs) H fun σ2 H2 => wipe σ2 vs = wipe σ vs ∧ tt σ2 H2 fun b H3 => if b = true then te σ2 H3 r else s H3)
    (q : ∀ D, Ent (ls E' D (xs.filterMap kp) :: L) (Q (.ref D))) : Ent L fun H => kLc K g tt te vs σ Q (.ref l) H := fun H k => by
  obtain ⟨ws, h1, h2⟩ := t.ls k
  refine ⟨l, rfl, ⟨ws, SqL.of h1⟩, fun D nD => ?_⟩
  refine lc_it (walk_ls (E := E) l xs) (fun i H' => i ≤ xs.length ∧ Holds (ls E' D ((xs.take i).filterMap kp) :: L) H') ⟨Nat.zero_le _, k.ls_new nD .nil⟩ (fun i H' _ p => t.ls (Sub.to (Sub.drop Sub.refl) p.2)) (fun i v H' H'' hi p ⟨e, x, hx, hp⟩ => ?_) (fun H' p => q D H' (by
    have e := p.2
    rw [List.take_length] at e
    exact e))
  subst e
  have et : xs.take (i + 1) = xs.take i ++ [x] := by rw [List.take_succ, hx]; rfl
  refine step x (List.mem_of_getElem? hx) v D _ _ _ (fun v' y hy H4 z => ?_) (fun hn H3 z => ?_) _ (p.2.vl hp)
  · obtain ⟨ac, z1, z2⟩ := Holds.ls_op (Sub.to (Sub.drop Sub.refl) z)
    have z3 : E'.P H4 v' y := Take.vl take_here z
    refine ⟨ac, z1.pt_get, ?_, hi, ?_⟩
    · rw [z2.len]
      refine Nat.lt_of_le_of_lt (List.length_filterMap_le _ _) (Nat.lt_of_le_of_lt ?_ (by decide : 100000 < sizeLine))
      rw [List.length_take]
      omega
    · rw [et, List.filterMap_append]
      simp only [List.filterMap_cons, hy, List.filterMap_nil]
      exact Holds.ls_upd (Sub.to (Sub.drop Sub.refl) z) (z2.app (.one z3))
  · refine ⟨hi, ?_⟩
    rw [et, List.filterMap_append]
    simp only [List.filterMap_cons, hn, List.filterMap_nil, List.append_nil]
    exact z
theorem all2_maps {γ δ ε : Type} {r : γ → δ → Prop} {f : γ → ε} {g : δ → ε} (e : ∀ x y, r x y → f x = g y) : ∀ {xs : List γ} {ys : List δ}, All2 r xs ys → xs.map f = ys.map g
  | _, _, .nil => rfl
  | _, _, .cons h t => by rw [List.map_cons, List.map_cons, e _ _ h, all2_maps e t]
theorem all2_int : ∀ {vs : List V} {ns : List Int}, All2 (fun v (n : Int) => v = .int n) vs ns → vs = ns.map V.int
  | _, _, .nil => rfl
  | _, _, .cons h t => by rw [List.map_cons, h, all2_int t]
/-- ints, texts as such a list, and back -/
theorem Sub.lsI {ns : List Int} : Sub (pt l (.lst (ns.map V.int)) :: L) (ls (K := K) kI l ns :: L) := Sub.ls_i fun H h => All2.map _ fun y _ => rfl
theorem Sub.Ils {ns : List Int} : Sub (ls (K := K) kI l ns :: L) (pt l (.lst (ns.map V.int)) :: L) := Sub.ls_e fun vs H S h => by
  obtain ⟨S1, S2, h1, ⟨S3, S4, h3, h4⟩, hd, hs⟩ := h
  have e : vs = ns.map V.int := all2_int h3.1
  subst e
  exact (Sub.cons (Sub.drop Sub.refl)) H S ⟨S1, S2, h1, ⟨S3, S4, h3, h4⟩, hd, hs⟩
theorem take_lsI {ns : List Int} (t : Take (pt l (.lst (ns.map V.int))) L R) : Take (ls (K := K) kI l ns) L R := Sub.trans t Sub.lsI
theorem take_Ils {ns : List Int} (t : Take (ls (K := K) kI l ns) L R) : Take (pt l (.lst (ns.map V.int))) L R := Sub.trans t Sub.Ils
/-- what is made of two, three -/
theorem Ent.vI {n : Int} {φ : V → Hp → Prop} (q : Ent L (φ (.int n))) (v : V) : Ent (vl (K := K) kI v n :: L) (φ v) := fun H ⟨S, S1, S2, h1, h2, _⟩ => by
  obtain rfl : v = .int n := h1.1
  exact q H ⟨S2, h2⟩
theorem Ent.vF {f : α → List V} {g : α → List PyData} {hd : ∀ {K : PySem.W.Frag} {H : Hp} (x : α), DpAll K H (f x) (g x)} {φ : V → Hp → Prop} (q : ∀ t, Ent (tu t (f x) :: L) (φ (.ref t))) (v : V) : Ent (vl (K := K) (kF f g hd) v x :: L) (φ v) := fun H ⟨S, S1, S2, ⟨⟨t, e, h⟩, s⟩, h2, hd, hs⟩ => by
  subst e
  exact q t H (Holds.addI ⟨S2, h2⟩ h rfl)
theorem Ent.vT {us : List V} {φ : Hp → Prop} (h : ∀ H, E.P H v x → ∃ t, v = .ref t ∧ H t = some (.tup us)) (q : ∀ t, v = .ref t → Ent (tu t us :: L) φ) : Ent (vl E v x :: L) φ := fun H ⟨S, S1, S2, ⟨h0, s⟩, h2, hd, hs⟩ => by
  obtain ⟨t, e, h⟩ := h H h0
  exact q t e H (Holds.addI ⟨S2, h2⟩ h rfl)
theorem Ent.vIe {n : Int} {φ : Hp → Prop} (q : v = .int n → Ent L φ) : Ent (vl (K := K) kI v n :: L) φ := fun H ⟨S, S1, S2, h1, h2, _⟩ => q h1.1 H ⟨S2, h2⟩
theorem vl_I {n : Int} : ∀ H, Holds L H → (kI (K := K)).P H (.int n) n := fun _ _ => rfl
theorem vl_F {f : α → List V} {g : α → List PyData} {hd : ∀ {K : PySem.W.Frag} {H : Hp} (x : α), DpAll K H (f x) (g x)} {t : Addr} {us : List V} (k : Take (tu t us) L R) (e : us = f x) : ∀ H, Holds L H → (kF (K := K) f g hd).P H (.ref t) x := fun H h => ⟨t, rfl, by rw [← e]; exact k.im h⟩
theorem vl_T {t : Addr} {us : List V} (k : Take (tu t us) L R) (e : ∀ H, H t = some (.tup us) → E.P H (.ref t) x) : ∀ H, Holds L H → E.P H (.ref t) x := fun H h => e H (k.im h)
theorem vl_v (k : Take (vl E v x) L R) : ∀ H, Holds L H → E.P H v x := fun H h => k.vl h
theorem vl_non : ∀ H, Holds L H → (kO E).P H .non none := fun _ _ => rfl
theorem Sub.one {t : Addr} {D : Addr} (k : ∀ H, Holds L H → E.P H v x) : Sub (pt D (.lst [v]) :: L) (ls E D [x] :: L) := Sub.ls_i fun H h => .one (k H h)
theorem take_eqLs {D : Addr} (e : xs = ys) (t : Take (ls E D xs) L R) : Take (ls E D ys) L R := e ▸ t
theorem take_eqVl (e : x = y) (t : Take (vl E v x) L R) : Take (vl E v y) L R := e ▸ t
theorem Sub.vl_i (h : ∀ H, Holds L H → E.P H v x) (s : Sub L M) : Sub L (vl E v x :: M) := fun H S k => by
  obtain ⟨S', k', q⟩ := s H S k
  exact ⟨S', ⟨fun _ => False, S', ⟨h H ⟨S, k⟩, fun _ z => z⟩, k', fun _ z => z.elim, fun a => ⟨.inr, fun z => z.elim (fun z => z.elim) id⟩⟩, q⟩
theorem take_ls0 {D : Addr} (t : Take (pt D (.lst [])) L R) : Take (ls E D []) L R := Sub.trans t (Sub.ls_i fun H h => .nil)
theorem take_ls1 {D : Addr} (t : Take (pt D (.lst [v])) L R) (k : ∀ H, Holds R H → E.P H v x) : Take (ls E D [x]) L R := Sub.trans t (Sub.ls_i fun H h => .one (k H h))
theorem Sub.none_ls {D : Addr} : Sub (pt D (.lst []) :: L) (ls E D [] :: L) := Sub.ls_i fun H h => .nil
end
end
end Toy
namespace Toy
open PySem L2
section
variable {K : PySem.W.Frag} {L M R : List HA} {σ : St} {Q : VK} {ta : TE} {tas tk : TA} {sp : Sp} {E : XK} {C : Addr} {m : Str}
theorem e_call1 (q : Ent L fun H => tas σ H fun vs H1 => sp vs H1 Q E) : Ent L fun H => tCall sp [] E tas σ H Q := by
  have e : (fun (vs : List V) (H1 : Hp) => sp (vs ++ []) H1 Q E) = fun vs H1 => sp vs H1 Q E := by funext vs H1; rw [List.append_nil]
  show Ent L fun H => tas σ H (fun vs H1 => sp (vs ++ []) H1 Q E)
  rw [e]; exact q
theorem e_meth1 (q : Ent L fun H => ta σ H fun x H1 => ∃ a dx fs, x = .ref a ∧ H1 a = some (.ins C dx fs) ∧ fs.lookup m = none ∧ tas σ H1 fun vs H2 => sp (x :: vs) H2 Q E) : Ent L fun H => tMeth C m sp [] E ta tas σ H Q := by
  have e : ∀ x : V, (fun (vs : List V) (H1 : Hp) => sp (x :: (vs ++ [])) H1 Q E) = fun vs H1 => sp (x :: vs) H1 Q E := fun x => by funext vs H1; rw [List.append_nil]
  show Ent L fun H => ta σ H fun x H1 => ∃ a dx fs, x = .ref a ∧ H1 a = some (.ins C dx fs) ∧ fs.lookup m = none ∧ tas σ H1 fun vs H2 => sp (x :: (vs ++ [])) H2 Q E
  simp only [e]; exact q
/-! ### the pot -/
def PotA (p : Addr) : HA := ex fun x : Int => ex fun y : Int => all [pt p (.lst [.int x, .int y]), pu (0 ≤ x ∧ 0 ≤ y ∧ y < 4294967296)]
theorem Sub.pot {L : List HA} {p : Addr} {x y : Int} (h : 0 ≤ x ∧ 0 ≤ y ∧ y < 4294967296) : Sub (pt p (.lst [.int x, .int y]) :: L) (PotA p :: L) := Sub.ex x (Sub.ex y (Sub.all (Sub.cons (Sub.pu h Sub.refl))))
theorem Ent.pot {L : List HA} {p : Addr} {φ : Hp → Prop} (e : ∀ x y : Int, 0 ≤ x → 0 ≤ y → y < 4294967296 → Ent (pt p (.lst [.int x, .int y]) :: L) φ) : Ent (PotA p :: L) φ := Ent.ex fun x => Ent.ex fun y => Ent.all (Ent.sub Sub.swap (Ent.pu fun ⟨h1, h2, h3⟩ => e x y h1 h2 h3))
def aPot (K : PySem.W.Frag) : Sp := fun vs H Q _ => ∃ (s : Addr) (ns : List Int) (k : Int) (F : List HA), vs = [.ref s, .int k] ∧ Holds (sq K s (ns.map V.int) :: F) H ∧ 0 ≤ k ∧ k ≤ 1000 ∧ ∀ p, Ent (PotA p :: sq K s (ns.map V.int) :: F) (Q (.ref p))
def aDraw : Sp := fun vs H Q _ => ∃ (p : Addr) (n : Int) (F : List HA), vs = [.ref p, .int n] ∧ Holds (PotA p :: F) H ∧ 0 < n ∧ n < 1000000000 ∧ ∀ d, 0 ≤ d → d < n → Ent (PotA p :: F) (Q (.int d))
def aPick (K : PySem.W.Frag) : Sp := fun vs H Q _ => ∃ (p s : Addr) (n : Nat) (F : List HA) (G : Nat → V → List HA), vs = [.ref p, .ref s] ∧ Holds (PotA p :: F) H ∧ 0 < n ∧ n < 1000000000 ∧
  (∀ H, Holds (PotA p :: F) H → ∃ us, us.length = n ∧ SqL K H s us ∧ ∀ d v, us[d]? = some v → Holds (G d v) H) ∧ ∀ d v, d < n → Ent (G d v) (Q v)
variable {p s : Addr} {ns : List Int} {k n : Int}
theorem e_pot (t : Take (sq K s (ns.map V.int)) L R) (h0 : 0 ≤ k) (h1 : k ≤ 1000) (q : ∀ p, Ent (PotA p :: sq K s (ns.map V.int) :: R) (Q (.ref p))) : Ent L fun H => aPot K [.ref s, .int k] H Q E := fun H h => ⟨s, ns, k, R, rfl, t.to h, h0, h1, q⟩
theorem e_draw (t : Take (PotA p) L R) (h0 : 0 < n) (h1 : n < 1000000000) (q : ∀ d, 0 ≤ d → d < n → Ent (PotA p :: R) (Q (.int d))) : Ent L fun H => aDraw [.ref p, .int n] H Q E := fun H h => ⟨p, n, R, rfl, t.to h, h0, h1, q⟩
theorem e_pick {us : List V} (t : Take (PotA p) L R) (hl : HasL K R s us) (h0 : 0 < us.length) (h1 : us.length < 1000000000) (q : ∀ (d : Nat) v, us[d]? = some v → Ent (PotA p :: R) (Q v)) : Ent L fun H => aPick K [.ref p, .ref s] H Q E := fun H h =>
  ⟨p, s, us.length, R, fun d v => [pu (us[d]? = some v), all (PotA p :: R)], rfl, t.to h, h0, h1, fun H h => ⟨us, rfl, hl H (Sub.to (Sub.drop Sub.refl) h), fun d v e => Sub.to (Sub.pu e (Sub.all (by show Sub _ ((PotA p :: R) ++ []); rw [List.append_nil]; exact Sub.refl))) h⟩, fun d v _ => Ent.pu fun e => Ent.all (by rw [List.append_nil]; exact q d v e)⟩
theorem e_pickLs {α : Type} {El : El K α} {xs : List α} {R' : List HA} (t : Take (PotA p) L R) (hl : Take (ls El s xs) R R') (h0 : 0 < xs.length) (h1 : xs.length < 1000000000) (q : ∀ (d : Nat) x v, xs[d]? = some x → Ent (vl El v x :: PotA p :: R) (Q v)) : Ent L fun H => aPick K [.ref p, .ref s] H Q E := fun H h =>
  ⟨p, s, xs.length, R, fun d v => [ex fun x => all [pu (xs[d]? = some x), vl El v x, all (PotA p :: R)]], rfl, t.to h, h0, h1, fun H h => by
    obtain ⟨us, h1, h2⟩ := hl.ls (Sub.to (Sub.drop Sub.refl) h)
    refine ⟨us, h2.len, SqL.of h1, fun d v e => ?_⟩
    obtain ⟨x, hx, hp⟩ := h2.get e
    exact Sub.to (Sub.ex x (Sub.all (Sub.pu hx (Sub.cons (Sub.all (by show Sub _ ((PotA p :: R) ++ []); rw [List.append_nil]; exact Sub.refl)))))) (h.vl hp), fun d v _ => Ent.ex fun x => Ent.all (Ent.pu fun e => (by
    refine Ent.sub (M := vl El v x :: PotA p :: R) (Sub.cons ?_) (q d x v e)
    refine Sub.trans Sub.all_e ?_
    show Sub ((PotA p :: R) ++ []) _
    rw [List.append_nil]
    exact Sub.refl))⟩
/-! ### what is asked of plain values -/
variable {v : V} {b : Bool} {x y z u : Int}
theorem e_isInt (h : KInt K (fun _ => none) v b) (q : Ent L (Q (.bl b))) : True := trivial
theorem kintI {H : Hp} (n : Int) : KInt K H (.int n) true := kint_int n
theorem e_integer (q : Ent L (Q (.bl true))) : Ent L fun H => spInt K [.int x] H Q E := fun H h => ⟨_, _, rfl, kint_int x, q H h⟩
theorem e_count (q : Ent L (Q (.bl (decide (0 ≤ x))))) : Ent L fun H => spCount K [.int x] H Q E := fun H h => ⟨_, rfl, kint_int x, q H h⟩
theorem e_isWord (q : Ent L (Q (.bl (isWord (.int x))))) : Ent L fun H => spIsWord K [.int x] H Q E := fun H h => ⟨_, rfl, kint_int x, q H h⟩
theorem e_wantWord (h : W16 x) (q : Ent L (Q .non)) : Ent L fun H => spWantWord K C [.int x] H Q E := fun H k => w_wantWord h (q H k)
theorem e_wantMany {lo hi : Int} (h0 : 0 ≤ x) (h1 : lo ≤ x) (h2 : x ≤ hi) (q : Ent L (Q .non)) : Ent L fun H => spWantMany K C [.int x, .int lo, .int hi] H Q E := fun H k => w_wantMany h0 h1 h2 (q H k)
theorem e_W2 {f : Int → Int → Int} {ok : Int → Int → Prop} (h : ok x y) (q : Ent L (Q (.int (f x y)))) : Ent L fun H => spW2 f ok [.int x, .int y] H Q E := fun H k => ⟨x, y, rfl, h, q H k⟩
theorem e_I1 {f : Int → Int} {ok : Int → Prop} (h : ok x) (q : Ent L (Q (.int (f x)))) : Ent L fun H => spI1 f ok [.int x] H Q E := fun H k => ⟨x, rfl, h, q H k⟩
theorem e_I3 {f : Int → Int → Int → Int} {ok : Int → Int → Int → Prop} (h : ok x y z) (q : Ent L (Q (.int (f x y z)))) : Ent L fun H => spI3 f ok [.int x, .int y, .int z] H Q E := fun H k => ⟨x, y, z, rfl, h, q H k⟩
theorem e_I4 {f : Int → Int → Int → Int → Int} {ok : Int → Int → Int → Int → Prop} (h : ok x y z u) (q : Ent L (Q (.int (f x y z u)))) : Ent L fun H => spI4 f ok [.int x, .int y, .int z, .int u] H Q E := fun H k => ⟨x, y, z, u, rfl, h, q H k⟩
/-- a number asked for: True where ok; a def that returns a bool of ints -/
def aB1 (f : Int → Bool) : Sp := fun vs H Q _ => ∃ x : Int, vs = [.int x] ∧ Q (.bl (f x)) H
def aW1 (ok : Int → Prop) : Sp := fun vs H Q _ => ∃ x : Int, vs = [.int x] ∧ ok x ∧ Q .non H
theorem e_B1 {f : Int → Bool} (q : Ent L (Q (.bl (f x)))) : Ent L fun H => aB1 f [.int x] H Q E := fun H k => ⟨x, rfl, q H k⟩
theorem e_W1 {ok : Int → Prop} (h : ok x) (q : Ent L (Q .non)) : Ent L fun H => aW1 ok [.int x] H Q E := fun H k => ⟨x, rfl, h, q H k⟩
end
end Toy
namespace Toy
open PySem L2
/-! ### repr of plain values -/
def shV : V → Str
  | .non => "None"
  | .bl b => if b then "True" else "False"
  | .int i => toString i
  | .str x => reprText x
  | _ => ""
def okS : V → Prop
  | .non => True
  | .bl _ => True
  | .int i => i.natAbs.log2 < 1920
  | .str x => (reprText x).length ≤ sizeLine
  | _ => False
def rReprS : List V → Hp → VK → Prop := fun vs H Q => ∃ v, vs = [v] ∧ okS v ∧ Q (.str (shV v)) H
section
open PySem.Spec PyProof.Rows
theorem call_reprS {X : Cx} : CallR X (.builtin "repr") rReprS := by
  intro pins s σ H xs us Q I r h
  obtain ⟨v, rfl, ok, q⟩ := h
  obtain ⟨u, rfl, rx⟩ := vals1 r
  cases v with
  | non => cases rx; exact PySem.P.repr_of_none ⟨.str _, H, I.tok _, ⟨_, rfl⟩, q⟩
  | bl b => cases rx; exact PySem.P.repr_of_bool ⟨.str _, H, I.tok _, ⟨_, rfl⟩, q⟩
  | int i => obtain ⟨t, rfl⟩ := rx; exact PySem.P.repr_of_int ok ⟨.str _, H, I.tok _, ⟨_, rfl⟩, q⟩
  | str x => obtain ⟨t, rfl⟩ := rx; exact PySem.P.repr_of_str ⟨.str _, H, I.tok _, ⟨_, rfl⟩, q⟩ ok
  | byt _ => exact ok.elim
  | flt _ => exact ok.elim
  | ref _ => exact ok.elim
  | ty _ => exact ok.elim
end
theorem small_log {i : Int} (h : i.natAbs < 2 ^ 64) : i.natAbs.log2 < 1920 := by
  by_cases z : i.natAbs = 0
  · rw [z]; decide
  · have := (Nat.log2_lt z).mpr h
    omega
section
variable {K : PySem.W.Frag} {L M R : List HA} {Q : VK} {a b : Addr} {v : V}
theorem e_reprN (q : Ent L (Q (.str "None"))) : Ent L fun H => rReprS [.non] H Q := fun H k => ⟨_, rfl, trivial, q H k⟩
theorem e_reprB {b : Bool} (q : Ent L (Q (.str (if b then "True" else "False")))) : Ent L fun H => rReprS [.bl b] H Q := fun H k => ⟨_, rfl, trivial, q H k⟩
theorem e_reprI {i : Int} (h : -1000000000000 ≤ i ∧ i ≤ 1000000000000) (q : Ent L (Q (.str (toString i)))) : Ent L fun H => rReprS [.int i] H Q := fun H k => ⟨_, rfl, small_log (by omega), q H k⟩
theorem truth_ne : ¬ (("True" : Str) = "False") := by decide +kernel
theorem e_neB {b c : Bool} (q : Ent L (Q (.bl (b != c)))) : Ent L fun H => rNe (.str (if b then "True" else "False")) (.str (if c then "True" else "False")) H Q := fun H k => ⟨rfl, by
  have e : decide (V.str (if b then "True" else "False") = V.str (if c then "True" else "False")) = (b == c) := by
    cases b <;> cases c <;> simp [truth_ne, Ne.symm truth_ne]
  rw [e]
  exact q H k⟩
end
/-! ### walks that make pairs -/
section
variable {K : PySem.W.Frag} {L M R : List HA} {Q : VK} {l : Addr} {α β : Type} {E : El K α} {σ : St}
def kLcEn (K : PySem.W.Frag) (g : TG) (tt : TT) (te : TE) (vs : List Nat) (σ : St) (Q : VK) (us : List V) (H : Hp) : Prop := kEnum K (fun J H1 => ∀ D, H1 D = none → ∃ W : Nat → Nat → Hp → Prop, (∃ m, W 0 m (upd H1 D (.lst []))) ∧ ∀ i m H, W i m H →
      (J.stop i H ∧ Q (.ref D) H) ∨ (J.go i H ∧ ∃ Nx : Hp → Prop, (∀ H', Nx H' → ∃ m', m' < m ∧ W (i + 1) m' H') ∧ ∀ x H', J.yld i H x H' → g x (wipe σ vs) H' fun σ2 H2 => wipe σ2 vs = wipe σ vs ∧ tt σ2 H2 fun b H3 =>
        if b = true then te σ2 H3 fun y H4 => ∃ acc, H4 D = some (.lst acc) ∧ acc.length < sizeLine ∧ Nx (upd H4 D (.lst (acc ++ [y]))) else Nx H3)) us H
theorem e_lcE0 {g : TG} {tt : TT} {te : TE} {vs : List Nat} {tas : TA} (q : Ent L fun H => tas σ H (kLcEn K g tt te vs σ Q)) : Ent L fun H => tLc (iEnum K tas) g tt te vs σ H Q := q
/-- [.. for i, x in enumerate(l) if ..] -/
theorem e_lcEn {xs : List α} {g : TG} {tt : TT} {te : TE} {vs : List Nat} (E' : El K β) (kp : Nat → α → Option β) (t : Take (ls E l xs) L R) (hz : xs.length ≤ 100000)
    (step : ∀ i x, xs[i]? = some x → ∀ p v D ys (r : VK) (s : Hp → Prop), (∀ v' y, kp i x = some y → Ent (vl E' v' y :: ls E' D ys :: L) (r v')) → (kp i x = none → Ent (ls E' D ys :: L) s) → Ent (tu p [.int i, v] :: vl E v x :: ls E' D ys :: L) fun H => g (.ref p) (wipe σ vs) H fun σ2 H2 => wipe σ2 vs = wipe σ vs ∧ tt σ2 H2 fun b H3 => if b = true then te σ2 H3 r else s H3)
    (q : ∀ D, Ent (ls E' D ((List.range xs.length).filterMap fun i => xs[i]?.bind (kp i)) :: L) (Q (.ref D))) : Ent L fun H => kLcEn K g tt te vs σ Q [.ref l] H := fun H k => by
  obtain ⟨ws, h1, h2⟩ := t.ls k
  refine ⟨l, ws, rfl, SqL.of h1, fun D nD => ?_⟩
  have w : Walk (Ite K l) xs.length (fun H => ∃ vs, H l = some (.lst vs) ∧ All2 (E.P H) vs xs) (fun i H v H' => ∃ T x u, v = .ref T ∧ H T = none ∧ H' = upd H T (.tup [.int i, u]) ∧ xs[i]? = some x ∧ E.P H u x) :=
    ⟨fun i H hi ⟨vs, z1, z2⟩ => (walk_enum (K := K) (a := l) (xs := vs)).goes i H (by rw [z2.len]; exact hi) (SqL.of z1), fun H ⟨vs, z1, z2⟩ => by
      have := (walk_enum (K := K) (a := l) (xs := vs)).stops H (SqL.of z1)
      rw [z2.len] at this
      exact this, fun i H x H' hi ⟨vs, z1, z2⟩ y => by
      obtain ⟨T, a, b, e1, e2, e3, e4, e5⟩ := (walk_enum (K := K) (a := l) (xs := vs)).yields i H x H' (by rw [z2.len]; exact hi) (SqL.of z1) y
      obtain rfl : V.int (i : Nat) = a := Option.some.inj e4
      obtain ⟨x', hx, hp⟩ := z2.get e5
      exact ⟨T, x', b, e1, e2, e3, hx, hp⟩⟩
  refine lc_it w (fun i H' => i ≤ xs.length ∧ Holds (ls E' D ((List.range i).filterMap fun i => xs[i]?.bind (kp i)) :: L) H') ⟨Nat.zero_le _, k.ls_new nD .nil⟩ (fun i H' _ p => t.ls (Sub.to (Sub.drop Sub.refl) p.2)) (fun i v H' H'' hi p ⟨T, x, u, e, nT, eH, hx, hp⟩ => ?_) (fun H' p => q D H' p.2)
  subst e eH
  have et : (List.range (i + 1)).filterMap (fun i => xs[i]?.bind (kp i)) = (List.range i).filterMap (fun i => xs[i]?.bind (kp i)) ++ (kp i x).toList := by
    rw [List.range_succ, List.filterMap_append]
    cases z : kp i x <;> simp [hx, z]
  have z0 : Holds (tu T [.int i, u] :: vl E u x :: ls E' D ((List.range i).filterMap fun i => xs[i]?.bind (kp i)) :: L) (upd H' T (.tup [.int i, u])) := Sub.to Sub.swap (by
    have z := (p.2.newI (o := .tup [.int i, u]) nT rfl).vl (E := E) (x := x) (v := u) (E.st hp (keepI_new nT))
    exact z)
  refine step i x hx T u D _ _ _ (fun v' y hy H4 z => ?_) (fun hn H3 z => ?_) _ z0
  · obtain ⟨ac, z1, z2⟩ := Holds.ls_op (Sub.to (Sub.drop Sub.refl) z)
    have z3 : E'.P H4 v' y := Take.vl take_here z
    refine ⟨ac, z1.pt_get, ?_, hi, ?_⟩
    · rw [z2.len]
      refine Nat.lt_of_le_of_lt (List.length_filterMap_le _ _) (Nat.lt_of_le_of_lt ?_ (by decide : 100000 < sizeLine))
      rw [List.length_range]
      omega
    · rw [et, hy]
      exact Holds.ls_upd (Sub.to (Sub.drop Sub.refl) z) (z2.app (.one z3))
  · refine ⟨hi, ?_⟩
    rw [et, hn]
    simp only [Option.toList_none, List.append_nil]
    exact z
end
end Toy

open PySem L2 Toy in
local macro_rules | `(tactic| walk_at "whl") => `(tactic| first | assumption | exact upd_same | (refine' (upd_ne ?h1).trans ?h2; (case h1 => walk_at "ne"); (case h2 => walk_at "whl")) | (refine' (show Same _ _ by assumption) _ _ ?h1; (case h1 => walk_at "whl")) | (refine' (show Chg _ _ _ by assumption) _ _ ?h1 ?h2; (case h1 => walk_at "whl"); (case h2 => walk_at "ne")))
open PySem L2 Toy in
local macro_rules | `(tactic| walk_at "ne") => `(tactic| first | assumption | (apply Ne.symm; assumption) | (refine' ne_of_none ?h1 ?h2; (case h2 => assumption); (case h1 => walk_at "whl")) | (apply Ne.symm; refine' ne_of_none ?h1 ?h2; (case h2 => assumption); (case h1 => walk_at "whl")) | (refine' ne_of ?h1 ?h2 ?h3; (case h1 => walk_at "whl"); (case h2 => walk_at "whl"); (case h3 => intro z; cases z)))
open PySem L2 Toy in
local macro_rules | `(tactic| walk_at "wsq") => `(tactic| first | assumption | (refine' SqL.of ?h1; (case h1 => walk_at "whl")) | (refine' SqT.of ?h1; (case h1 => walk_at "whl")) | exact Same.seq (by assumption) (by assumption) | exact same_seqT (by assumption) (by assumption))
open PySem L2 Toy in
local macro_rules | `(tactic| walk_at "si") => `(tactic| first | omega | assumption | decide | (refine ⟨?_, ?_⟩ <;> omega) | exact Or.inl ⟨by omega, by omega⟩ | exact Or.inr ⟨by omega, by omega⟩ | exact ⟨by omega, by omega, by omega⟩ | exact ⟨by decide, by decide, by decide⟩)
open PySem L2 Toy in
local macro_rules | `(tactic| walk_at "wst") => `(tactic| first
  | with_reducible first
    | refine w_seq ?_ | refine w_c ?_ | refine w_op ?_ | refine w_un ?_ | refine w_I0 ?_ | refine w_U ?_ | refine w_cb ?_ | refine w_cons ?_ | refine w_nil ?_ | refine w_call ?_ | refine w_tup ?_ | refine w_lst ?_
    | refine w_asg ?_ | refine w_gname ?_ | refine w_ret ?_ | refine w_drop ?_ | refine w_ifs ?_ | refine w_if0 ?_ | refine w_test ?_ | refine w_B ?_ | refine w_not ?_ | refine w_andV ?_ | refine w_orV ?_ | refine w_notV ?_ | refine w_bl ?_
    | refine w_next ?_ | refine w_brk ?_ | refine w_cont ?_ | refine w_retN ?_ | refine w_fld0 ?_ | refine w_sfld0 ?_ | refine w_meth0 ?_ | refine w_prop0 ?_ | refine w_make ?_ | refine w_par ?_ | refine w_vw ?_ | refine w_gsub ?_ | refine w_gcons ?_ | refine w_gnil ?_
    | refine w_iI ?_ | refine w_iIJ ?_ | refine w_int1 ?_ | refine iteT ?_ | refine iteF ?_ | refine w_methSx0 ?_ | refine w_methN0 ?_ | refine w_callN ?_ | refine w_callS ?_ | refine w_yes ?_ | refine w_mko0 ?_ | refine w_makeK ?_ | refine w_chain ?_ | refine w_sl ?_ | refine w_nopart ?_ | refine w_part ?_ | refine w_ei ?_ | refine w_rev0 ?_ | refine w_forZ ?_ | refine w_forE ?_ | refine w_lcZ ?_ | refine w_lcE ?_ | refine w_bm ?_ | refine w_bm0 ?_ | refine w_forR1 ?_ | refine w_forL ?_ | refine w_forT ?_ | refine iteNT ?_ | refine iteNF ?_ | refine w_lstRg ?_ | refine w_tupRg ?_ | refine w_rg1 ?_ | refine w_rg2 ?_ | refine w_eij ?_
  | ((with_reducible refine' w_var ?h ?_); (case h => rfl))
  | ((with_reducible refine' w_I ?h ?_); (case h => walk_at "si"))
  | ((with_reducible refine' w_ixL ?h ?g ?_); (case h => walk_at "wsq"); (case g => first | rfl | assumption))
  | ((with_reducible refine' w_ixT ?h ?g ?_); (case h => walk_at "wsq"); (case g => first | rfl | assumption))
  | ((with_reducible refine' w_setL ?h ?g ?_); (case h => walk_at "whl"); (case g => first | rfl | assumption))
  | ((with_reducible refine' w_gtup ?h ?g ?_); (case h => walk_at "wsq"); (case g => rfl))
  | ((with_reducible refine' w_lenL ?h ?_); (case h => walk_at "wsq"))
  | ((with_reducible refine' w_lenT ?h ?_); (case h => walk_at "wsq"))
  | ((with_reducible refine' w_eq ?h ?_); (case h => rfl))
  | ((with_reducible refine' w_ne ?h ?_); (case h => rfl))
  | ((with_reducible refine' w_ea ?h ?_); (case h => rfl))
  | ((with_reducible refine' w_ln ?h ?_); (case h => rfl))
  | ((with_reducible refine' w_fld ?h ?c ?n ?l ?_); (case h => walk_at "whl"); (case c => walk_at "cls"); (case n => walk_at "nat"); (case l => rfl))
  | ((with_reducible refine' w_sfld ?h ?c ?n ?l ?e ?_); (case h => walk_at "whl"); (case c => walk_at "cls"); (case n => walk_at "nat"); (case l => exact Nat.le_of_ble_eq_true rfl); (case e => rfl))
  | ((with_reducible refine' w_meth ?h ?l ?_); (case h => walk_at "whl"); (case l => rfl))
  | ((with_reducible refine' w_prop ?h ?_); (case h => walk_at "whl"))
  | ((with_reducible refine' w_tyL ?h ?_); (case h => walk_at "wsq"))
  | ((with_reducible refine' w_app ?h ?z ?_); (case h => walk_at "whl"); (case z => first | omega | (simp; omega) | simp))
  | ((with_reducible refine' w_cat ?h ?g ?z ?_); (case h => walk_at "whl"); (case g => walk_at "whl"); (case z => first | omega | (simp; omega) | simp))
  | ((with_reducible refine' w_zip ?h ?g ?_); (case h => walk_at "wsq"); (case g => walk_at "wsq"))
  | ((with_reducible refine' w_enum ?h ?_); (case h => walk_at "wsq"))
  | ((with_reducible refine' w_slL ?h ?_); (case h => walk_at "wsq"))
  | ((with_reducible refine' w_rev ?h ?_); (case h => walk_at "wsq"))
  | ((with_reducible refine' w_rep ?h ?a ?b ?z ?_); (case h => walk_at "whl"); (case a => omega); (case b => omega); (case z => first | omega | exact Nat.le_of_ble_eq_true rfl | (simp; omega)))
  | ((with_reducible refine' w_rgok ?h ?_); (case h => omega))
  | ((with_reducible refine' w_laid ?h ?_); (case h => simp)))
open PySem L2 Toy in
local macro_rules | `(tactic| walk_at "fr") => `(tactic| with_reducible first | exact take_here | exact (take_there take_here) | exact (take_there (take_there take_here)) | exact (take_there (take_there (take_there take_here))) | exact (take_there (take_there (take_there (take_there take_here)))) | exact (take_there (take_there (take_there (take_there (take_there take_here))))) | exact (take_there (take_there (take_there (take_there (take_there (take_there take_here)))))) | exact (take_there (take_there (take_there (take_there (take_there (take_there (take_there take_here))))))) | exact (take_there (take_there (take_there (take_there (take_there (take_there (take_there (take_there take_here)))))))) | exact (take_there (take_there (take_there (take_there (take_there (take_there (take_there (take_there (take_there take_here))))))))) | exact (take_there (take_there (take_there (take_there (take_there (take_there (take_there (take_there (take_there (take_there take_here)))))))))) | exact (take_there (take_there (take_there (take_there (take_there (take_there (take_there (take_there (take_there (take_there (take_there take_here))))))))))) | exact (take_there (take_there (take_there (take_there (take_there (take_there (take_there (take_there (take_there (take_there (take_there (take_there take_here)))))))))))) | exact (take_there (take_there (take_there (take_there (take_there (take_there (take_there (take_there (take_there (take_there (take_there (take_there (take_there take_here))))))))))))) | exact (take_there (take_there (take_there (take_there (take_there (take_there (take_there (take_there (take_there (take_there (take_there (take_there (take_there (take_there take_here)))))))))))))) | exact (take_there (take_there (take_there (take_there (take_there (take_there (take_there (take_there (take_there (take_there (take_there (take_there (take_there (take_there (take_there take_here))))))))))))))) | exact (take_there (take_there (take_there (take_there (take_there (take_there (take_there (take_there (take_there (take_there (take_there (take_there (take_there (take_there (take_there (take_there take_here)))))))))))))))) | exact (take_there (take_there (take_there (take_there (take_there (take_there (take_there (take_there (take_there (take_there (take_there (take_there (take_there (take_there (take_there (take_there (take_there take_here))))))))))))))))) | exact (take_there (take_there (take_there (take_there (take_there (take_there (take_there (take_there (take_there (take_there (take_there (take_there (take_there (take_there (take_there (take_there (take_there (take_there take_here)))))))))))))))))) | exact (take_there (take_there (take_there (take_there (take_there (take_there (take_there (take_there (take_there (take_there (take_there (take_there (take_there (take_there (take_there (take_there (take_there (take_there (take_there take_here))))))))))))))))))) | exact (take_there (take_there (take_there (take_there (take_there (take_there (take_there (take_there (take_there (take_there (take_there (take_there (take_there (take_there (take_there (take_there (take_there (take_there (take_there (take_there take_here)))))))))))))))))))) | exact (take_there (take_there (take_there (take_there (take_there (take_there (take_there (take_there (take_there (take_there (take_there (take_there (take_there (take_there (take_there (take_there (take_there (take_there (take_there (take_there (take_there take_here))))))))))))))))))))))
open PySem L2 Toy in
local macro_rules | `(tactic| walk_at "cl") => `(tactic| first | assumption | rfl | omega | trivial | (refine ⟨?_, ?_⟩ <;> walk_at "cl") | (simp; done) | (simp; omega))
open PySem L2 Toy in
local macro_rules | `(tactic| walk_at "dr") => `(tactic| first | with_reducible exact Sub.refl | ((with_reducible refine' Sub.drop ?s); (case s => walk_at "dr")))
open PySem L2 Toy in
local macro_rules | `(tactic| walk_at "sub1") => `(tactic| with_reducible first
  | exact Sub.refl | exact Sub.nil
  | ((refine' Sub.pu ?h ?_); (case h => with_unfolding_all walk_at "cl"))
  | ((refine Sub.all ?_); simp only [List.cons_append, List.nil_append])
  | (refine Sub.ex _ ?_)
  | ((refine' Sub.take (Take.keep ?t) ?_); (case t => walk_at "fr"))
  | ((refine' Sub.take ?t ?_); (case t => walk_at "fr"))
  | ((refine' Sub.take (take_ls0 ?t) ?_); (case t => walk_at "fr"))
  | ((refine' Sub.take (take_eq ?e ?t) ?_); (case t => walk_at "fr"); (case e => with_unfolding_all rfl))
  | ((refine' Sub.take (take_eqLs ?e ?t) ?_); (case t => walk_at "fr"); (case e => with_unfolding_all rfl))
  | ((refine' Sub.take (take_eqVl ?e ?t) ?_); (case t => walk_at "fr"); (case e => with_unfolding_all rfl))
  | walk_at "dr")
open PySem L2 Toy in
local macro_rules | `(tactic| walk_at "sub") => `(tactic| (repeat (walk_at "sub1")); done)
open PySem L2 Toy in
local macro_rules | `(tactic| walk_at "hl") => `(tactic| first | assumption | ((with_reducible refine' hasL_pt ?h); (case h => walk_at "fr")) | ((with_reducible refine' hasL_sq ?h); (case h => walk_at "fr")))
open PySem L2 Toy in
local macro_rules | `(tactic| walk_at "ht") => `(tactic| first | assumption | ((with_reducible refine' hasT_tu ?h); (case h => walk_at "fr")) | ((with_reducible refine' hasT_tq ?h); (case h => walk_at "fr")))
open PySem L2 Toy in
local macro_rules | `(tactic| walk_at "si") => `(tactic| first | omega | assumption | decide | (refine ⟨?_, ?_⟩ <;> omega) | exact Or.inl ⟨by omega, by omega⟩ | exact Or.inr ⟨by omega, by omega⟩ | exact ⟨by omega, by omega, by omega⟩ | exact ⟨by decide, by decide, by decide⟩)
open PySem L2 Toy in
local macro_rules | `(tactic| walk_at "sz") => `(tactic| first | omega | exact Nat.le_of_ble_eq_true rfl | assumption | (simp; done) | (simp; omega))
open PySem L2 Toy in
local macro_rules | `(tactic| walk_at "ix") => `(tactic| first | assumption | exact atI_of (by omega) (by assumption) | exact atI_0 | exact atI_m1 | rfl)
open PySem L2 Toy in
local macro_rules | `(tactic| walk_at "jx") => `(tactic| first | assumption | exact ixN_at (by omega) (by omega) | exact ixN_at (by omega) (by (simp; omega)) | rfl)
open PySem L2 Toy in
local macro_rules | `(tactic| walk_at "vw") => `(tactic| first | rfl | assumption)
open PySem L2 Toy in
local macro_rules | `(tactic| walk_at "el") => `(tactic| first | exact vl_I | exact vl_v (by walk_at "fr") | exact vl_T (by walk_at "fr") (fun _ h => ⟨_, rfl, h⟩) | exact vl_non)
open PySem L2 Toy in
local macro_rules | `(tactic| walk_at "dt") => `(tactic| first | assumption | omega | (show _ = _; rfl) | decide +kernel)
open PySem L2 Toy in
local macro_rules | `(tactic| walk_at "df") => `(tactic| first | assumption | omega | (intro z; cases z; done) | decide +kernel)
open PySem L2 Toy in
local macro_rules | `(tactic| walk_at "hi") => `(tactic| (refine' hasI_pt ?h ?g; (case h => walk_at "fr"); (case g => rfl)))
open PySem L2 Toy in
local macro_rules | `(tactic| walk_at "sS") => `(tactic| (with_reducible first | refine e_seq ?_ | refine e_asg ?_ | refine e_drop ?_ | refine e_ifs ?_ | refine e_ret ?_ | refine e_next ?_ | refine e_sfld0 ?_ | refine e_par ?_ | refine e_par3 ?_ | refine e_forR1 ?_ | refine e_forL ?_ | refine e_forT ?_ | refine e_forZ ?_ | refine e_forE ?_ | refine e_brk ?_ | refine e_cont ?_ | refine e_retN ?_))
open PySem L2 Toy in
local macro_rules | `(tactic| walk_at "sE") => `(tactic| first
  | ((with_reducible refine' e_var ?h ?_); (case h => rfl)) | (with_reducible first | refine e_c ?_ | refine e_op ?_ | refine e_call1 ?_ | refine e_meth1 ?_ | refine e_fld0 ?_ | refine e_cb ?_ | refine e_un ?_ | refine e_tup ?_ | refine e_lst ?_ | refine e_if0 ?_ | refine e_bm ?_ | refine e_bm0 ?_ | refine e_sl ?_ | refine e_chain ?_ | refine e_make ?_ | refine e_lc0 ?_ | refine e_lcE0 ?_ | refine e_prop0 ?_ | refine e_andV ?_ | refine e_orV ?_ | refine e_notV ?_ | refine e_rev0 ?_ | refine e_lstRg ?_ | refine e_tupRg ?_ | refine e_methN ?_ | refine e_methS ?_ | refine e_callN ?_ | refine e_callS ?_ | refine e_makeK ?_))
open PySem L2 Toy in
local macro_rules | `(tactic| walk_at "sT") => `(tactic| (with_reducible first | refine e_test ?_ | refine e_B ?_ | refine e_not ?_ | refine e_and ?_ | refine e_or ?_ | refine e_yes ?_))
open PySem L2 Toy in
local macro_rules | `(tactic| walk_at "sA") => `(tactic| (with_reducible first | refine e_cons ?_ | refine e_nil ?_))
open PySem L2 Toy in
local macro_rules | `(tactic| walk_at "sG") => `(tactic| first
  | (with_reducible refine e_gname ?_) | ((with_reducible refine' e_gtup ?h ?g ?_); (case h => walk_at "ht"); (case g => rfl)) | with_reducible refine e_gsub ?_)
open PySem L2 Toy in
local macro_rules | `(tactic| walk_at "sR") => `(tactic| first
  | (with_reducible first | refine e_I0 ?_ | refine e_eqII ?_ | refine e_neII ?_ | refine e_neB ?_)
  | ((with_reducible refine' e_I ?h ?_); (case h => walk_at "si"))
  | ((with_reducible refine' e_ixM ?h ?g ?_); (case h => walk_at "hl"); (case g => walk_at "ix"))
  | ((with_reducible refine' e_ixL ?h ?g ?_); (case h => walk_at "hl"); (case g => walk_at "ix"))
  | ((with_reducible refine' e_ixLs ?h ?g fun _ => ?_); (case h => walk_at "fr"); (case g => walk_at "ix"))
  | ((with_reducible refine' e_ixT ?h ?g ?_); (case h => walk_at "ht"); (case g => walk_at "ix"))
  | ((with_reducible refine' e_eq ?h ?_); (case h => rfl))
  | ((with_reducible refine' e_ne ?h ?_); (case h => rfl))
  | ((with_reducible refine' e_catM ?h ?g ?z fun _ => ?_); (case h => walk_at "fr"); (case g => walk_at "fr"); (case z => walk_at "sz"))
  | ((with_reducible refine' e_cat ?h ?g ?z fun _ => ?_); (case h => walk_at "fr"); (case g => walk_at "fr"); (case z => walk_at "sz"))
  | ((with_reducible refine' e_catLs ?h ?g ?z fun _ => ?_); (case h => walk_at "fr"); (case g => walk_at "fr"); (case z => walk_at "sz"))
  | ((with_reducible refine' e_rep ?h ?a ?b ?z fun _ => ?_); (case h => walk_at "fr"); (case a => omega); (case b => omega); (case z => walk_at "sz")))
open PySem L2 Toy in
local macro_rules | `(tactic| walk_at "sC") => `(tactic| first
  | ((with_reducible refine' e_lenL ?h ?_); (case h => walk_at "hl"))
  | ((with_reducible refine' e_lenLs ?h ?_); (case h => walk_at "fr"))
  | ((with_reducible refine' e_lenT ?h ?_); (case h => walk_at "ht"))
  | ((with_reducible refine' e_listOf ?h fun _ => ?_); (case h => walk_at "hl"))
  | ((with_reducible refine' e_listLs ?h fun _ => ?_); (case h => walk_at "fr"))
  | ((with_reducible refine' e_listOfT ?h fun _ => ?_); (case h => walk_at "ht"))
  | ((with_reducible refine' e_tupOf ?h fun _ => ?_); (case h => walk_at "hl"))
  | ((with_reducible refine' e_tupLs ?h fun _ => ?_); (case h => walk_at "fr"))
  | ((with_reducible refine' e_tupOfT ?h ?_); (case h => walk_at "ht"))
  | ((with_reducible refine' e_div ?h fun _ => ?_); (case h => exact ⟨by omega, by omega⟩)))
open PySem L2 Toy in
local macro_rules | `(tactic| walk_at "sM") => `(tactic| first
  | ((with_reducible refine' e_appM ?h ?v ?z ?_); (case h => walk_at "fr"); (case v => walk_at "vw"); (case z => walk_at "sz"))
  | ((with_reducible refine' e_app ?h ?z ?_); (case h => walk_at "fr"); (case z => walk_at "sz"))
  | ((with_reducible refine' e_appLs ?h ?y ?z ?_); (case h => walk_at "fr"); (case y => walk_at "el"); (case z => walk_at "sz"))
  | ((with_reducible refine' e_clear ?h ?_); (case h => walk_at "fr"))
  | ((with_reducible refine' e_clearLs ?h ?_); (case h => walk_at "fr"))
  | ((with_reducible refine' e_ext ?h ?g ?z ?_); (case h => walk_at "fr"); (case g => walk_at "fr"); (case z => walk_at "sz")))
open PySem L2 Toy in
local macro_rules | `(tactic| walk_at "sX") => `(tactic| first
  | (with_reducible first | refine e_bl ?_ | refine e_vw ?_ | refine e_uvw ?_ | refine e_iI ?_ | refine e_iIJ ?_ | refine e_ei ?_ | refine e_eij ?_)
  | ((with_reducible refine' e_methI ?h ?_); (case h => walk_at "hi"))
  | ((with_reducible refine' e_propI ?h ?_); (case h => walk_at "hi")))
open PySem L2 Toy in
local macro_rules | `(tactic| walk_at "sI") => `(tactic| first
  | (with_reducible first | refine eT ?_ | refine eF ?_ | refine eNT ?_ | refine eNF ?_)
  | ((with_reducible refine' eDT ?h ?_); (case h => walk_at "dt"))
  | ((with_reducible refine' eDF ?h ?_); (case h => walk_at "df"))
  | ((with_reducible refine' eNDT ?h ?_); (case h => walk_at "dt"))
  | ((with_reducible refine' eNDF ?h ?_); (case h => walk_at "df")))
open PySem L2 Toy in
local macro_rules | `(tactic| walk_at "sN") => `(tactic| first
  | (with_reducible refine e_rfl ?_) | ((with_reducible refine' e_ea ?h ?_); (case h => rfl)) | ((with_reducible refine' e_ln ?h ?_); (case h => rfl)))
open PySem L2 Toy in
local macro_rules | `(tactic| walk_at "sO") => `(tactic| first
  | (with_reducible first | refine e_U ?_ | refine e_gcons ?_ | refine e_gnil ?_ | refine e_int1 ?_ | refine e_intB ?_ | refine e_nopart ?_ | refine e_part ?_ | refine e_rg1 ?_ | refine e_rg2 ?_ | refine Ent.ex fun _ => ?_ | refine e_new fun _ _ => ?_)
  | ((with_reducible refine' e_tyL ?h ?_); (case h => walk_at "hl"))
  | ((with_reducible refine' e_tyLs ?h ?_); (case h => walk_at "fr"))
  | ((with_reducible refine' e_fld ?h ?c ?n ?l ?_); (case h => walk_at "fr"); (case c => walk_at "cls"); (case n => walk_at "nat"); (case l => rfl))
  | ((with_reducible refine' e_sfld ?h ?c ?n ?l ?e ?_); (case h => walk_at "fr"); (case c => walk_at "cls"); (case n => walk_at "nat"); (case l => exact Nat.le_of_ble_eq_true rfl); (case e => rfl))
  | ((with_reducible refine' e_newT ?h fun _ => ?_); (case h => walk_at "sz"))
  | ((with_reducible refine' e_newL ?h fun _ => ?_); (case h => walk_at "sz"))
  | ((with_reducible refine' e_setM ?h ?v ?g ?_); (case h => walk_at "fr"); (case v => walk_at "vw"); (case g => walk_at "jx"))
  | ((with_reducible refine' e_setL ?h ?g ?_); (case h => walk_at "fr"); (case g => walk_at "jx"))
  | ((with_reducible refine' e_slM ?h fun _ => ?_); (case h => walk_at "hl"))
  | ((with_reducible refine' e_slL ?h fun _ => ?_); (case h => walk_at "hl"))
  | ((with_reducible refine' e_slLs ?h fun _ => ?_); (case h => walk_at "fr"))
  | ((with_reducible refine' e_revM ?h fun _ => ?_); (case h => walk_at "hl"))
  | ((with_reducible refine' e_rev ?h fun _ => ?_); (case h => walk_at "hl"))
  | ((with_reducible refine' e_revLs ?h fun _ => ?_); (case h => walk_at "fr"))
  | ((with_reducible refine' e_rgL ?h fun _ => ?_); (case h => omega))
  | ((with_reducible refine' e_rgT ?h fun _ => ?_); (case h => omega))
  | ((with_reducible refine' e_newK ?h ?g fun _ _ => ?_); (case h => rfl); (case g => rfl)))
open PySem L2 Toy in
local macro_rules | `(tactic| walk_at "st") => `(tactic| first
  | ((with_reducible refine gS ?_); walk_at "sS")
  | ((with_reducible refine gE ?_); walk_at "sE")
  | ((with_reducible refine gT ?_); walk_at "sT")
  | ((with_reducible refine gA ?_); walk_at "sA")
  | ((with_reducible refine gX ?_); walk_at "sX")
  | ((with_reducible refine gI ?_); walk_at "sI")
  | ((with_reducible refine gR ?_); walk_at "sR")
  | ((with_reducible refine gC ?_); walk_at "sC")
  | ((with_reducible refine gM ?_); walk_at "sM")
  | ((with_reducible refine gG ?_); walk_at "sG")
  | ((with_reducible refine gN ?_); walk_at "sN")
  | walk_at "sO")
namespace Toy
open PySem L2
def top (i : Nat) : Stmt := PySem.Challenge.pw_orderlycore_k66_whole_renaming_is_regist.main.body.getD i (.Pass ⟨0, 0, 0, 0⟩)
abbrev s_CoreError___init__ : Stmt := inClass (top 2) 0
theorem sc_CoreError___init__ : FnScope ["self", "value"] ["self", "value"] (defScope s_CoreError___init__) := ⟨rfl, rfl, rfl, by decide +kernel, rfl, by decide +kernel, by decide +kernel⟩
abbrev s_is_integer : Stmt := top 15
theorem sc_is_integer : FnScope ["value"] ["value"] (defScope s_is_integer) := ⟨rfl, rfl, rfl, by decide +kernel, rfl, by decide +kernel, by decide +kernel⟩
abbrev s_is_count : Stmt := top 16
theorem sc_is_count : FnScope ["value"] ["value"] (defScope s_is_count) := ⟨rfl, rfl, rfl, by decide +kernel, rfl, by decide +kernel, by decide +kernel⟩
abbrev s_want_many : Stmt := top 17
theorem sc_want_many : FnScope ["value", "least", "most"] ["value", "least", "most"] (defScope s_want_many) := ⟨rfl, rfl, rfl, by decide +kernel, rfl, by decide +kernel, by decide +kernel⟩
abbrev s_is_word : Stmt := top 21
theorem sc_is_word : FnScope ["value"] ["value"] (defScope s_is_word) := ⟨rfl, rfl, rfl, by decide +kernel, rfl, by decide +kernel, by decide +kernel⟩
abbrev s_is_register : Stmt := top 22
theorem sc_is_register : FnScope ["value"] ["value"] (defScope s_is_register) := ⟨rfl, rfl, rfl, by decide +kernel, rfl, by decide +kernel, by decide +kernel⟩
abbrev s_want_word : Stmt := top 23
theorem sc_want_word : FnScope ["value"] ["value"] (defScope s_want_word) := ⟨rfl, rfl, rfl, by decide +kernel, rfl, by decide +kernel, by decide +kernel⟩
abbrev s_want_register : Stmt := top 24
theorem sc_want_register : FnScope ["value"] ["value"] (defScope s_want_register) := ⟨rfl, rfl, rfl, by decide +kernel, rfl, by decide +kernel, by decide +kernel⟩
abbrev s_is_cell : Stmt := top 29
theorem sc_is_cell : FnScope ["renamer", "value"] ["renamer", "value"] (defScope s_is_cell) := ⟨rfl, rfl, rfl, by decide +kernel, rfl, by decide +kernel, by decide +kernel⟩
abbrev s_want_cell : Stmt := top 30
theorem sc_want_cell : FnScope ["renamer", "value"] ["renamer", "value"] (defScope s_want_cell) := ⟨rfl, rfl, rfl, by decide +kernel, rfl, by decide +kernel, by decide +kernel⟩
abbrev s_want_lending : Stmt := top 31
theorem sc_want_lending : FnScope ["renamer", "which", "new", "old"] ["renamer", "which", "new", "old"] (defScope s_want_lending) := ⟨rfl, rfl, rfl, by decide +kernel, rfl, by decide +kernel, by decide +kernel⟩
abbrev s_Renamer___init__ : Stmt := inClass (top 32) 0
theorem sc_Renamer___init__ : FnScope ["self", "many"] ["self", "many"] (defScope s_Renamer___init__) := ⟨rfl, rfl, rfl, by decide +kernel, rfl, by decide +kernel, by decide +kernel⟩
abbrev s_Renamer_can_lend : Stmt := inClass (top 32) 1
theorem sc_Renamer_can_lend : FnScope ["self"] ["self"] (defScope s_Renamer_can_lend) := ⟨rfl, rfl, rfl, by decide +kernel, rfl, by decide +kernel, by decide +kernel⟩
abbrev s_Renamer_place_of : Stmt := inClass (top 32) 2
theorem sc_Renamer_place_of : FnScope ["self", "which"] ["self", "which"] (defScope s_Renamer_place_of) := ⟨rfl, rfl, rfl, by decide +kernel, rfl, by decide +kernel, by decide +kernel⟩
abbrev s_Renamer_is_ready : Stmt := inClass (top 32) 3
theorem sc_Renamer_is_ready : FnScope ["self", "at"] ["self", "at"] (defScope s_Renamer_is_ready) := ⟨rfl, rfl, rfl, by decide +kernel, rfl, by decide +kernel, by decide +kernel⟩
abbrev s_Renamer_value : Stmt := inClass (top 32) 4
theorem sc_Renamer_value : FnScope ["self", "at"] ["self", "at"] (defScope s_Renamer_value) := ⟨rfl, rfl, rfl, by decide +kernel, rfl, by decide +kernel, by decide +kernel⟩
abbrev s_Renamer_put : Stmt := inClass (top 32) 5
theorem sc_Renamer_put : FnScope ["self", "at", "value"] ["self", "at", "value"] (defScope s_Renamer_put) := ⟨rfl, rfl, rfl, by decide +kernel, rfl, by decide +kernel, by decide +kernel⟩
abbrev s_Renamer_lent : Stmt := inClass (top 32) 6
theorem sc_Renamer_lent : FnScope ["self", "which", "new", "old"] ["self", "which"] (defScope s_Renamer_lent) := ⟨rfl, rfl, rfl, by decide +kernel, rfl, by decide +kernel, by decide +kernel⟩
abbrev s_Renamer_undone : Stmt := inClass (top 32) 7
theorem sc_Renamer_undone : FnScope ["self", "which", "new", "old"] ["self", "which", "new", "old"] (defScope s_Renamer_undone) := ⟨rfl, rfl, rfl, by decide +kernel, rfl, by decide +kernel, by decide +kernel⟩
abbrev s_Renamer_kept : Stmt := inClass (top 32) 8
theorem sc_Renamer_kept : FnScope ["self", "which", "new", "old"] ["self", "which", "new", "old"] (defScope s_Renamer_kept) := ⟨rfl, rfl, rfl, by decide +kernel, rfl, by decide +kernel, by decide +kernel⟩
abbrev s_Renamer_written : Stmt := inClass (top 32) 9
theorem sc_Renamer_written : FnScope ["self", "which", "value"] ["self", "which", "value"] (defScope s_Renamer_written) := ⟨rfl, rfl, rfl, by decide +kernel, rfl, by decide +kernel, by decide +kernel⟩
abbrev s_Renamer_kept_words : Stmt := inClass (top 32) 10
theorem sc_Renamer_kept_words : FnScope ["self", "cell"] ["self"] (defScope s_Renamer_kept_words) := ⟨rfl, rfl, rfl, by decide +kernel, rfl, by decide +kernel, by decide +kernel⟩
abbrev s_Renamer_writes : Stmt := inClass (top 32) 11
theorem sc_Renamer_writes : FnScope ["self", "which", "new", "old"] ["self"] (defScope s_Renamer_writes) := ⟨rfl, rfl, rfl, by decide +kernel, rfl, by decide +kernel, by decide +kernel⟩
abbrev s_Renamer_lendings : Stmt := inClass (top 32) 12
theorem sc_Renamer_lendings : FnScope ["self"] ["self"] (defScope s_Renamer_lendings) := ⟨rfl, rfl, rfl, by decide +kernel, rfl, by decide +kernel, by decide +kernel⟩
abbrev s_Renamer_free : Stmt := inClass (top 32) 13
theorem sc_Renamer_free : FnScope ["self"] ["self"] (defScope s_Renamer_free) := ⟨rfl, rfl, rfl, by decide +kernel, rfl, by decide +kernel, by decide +kernel⟩
abbrev s_Renamer_copy : Stmt := inClass (top 32) 15
theorem sc_Renamer_copy : FnScope ["self", "other"] ["self"] (defScope s_Renamer_copy) := ⟨rfl, rfl, rfl, by decide +kernel, rfl, by decide +kernel, by decide +kernel⟩
abbrev s_Renamer___eq__ : Stmt := inClass (top 32) 16
theorem sc_Renamer___eq__ : FnScope ["self", "other"] ["self", "other"] (defScope s_Renamer___eq__) := ⟨rfl, rfl, rfl, by decide +kernel, rfl, by decide +kernel, by decide +kernel⟩
abbrev s_renamer_told : Stmt := top 33
theorem sc_renamer_told : FnScope ["renamer", "maps"] ["renamer"] (defScope s_renamer_told) := ⟨rfl, rfl, rfl, by decide +kernel, rfl, by decide +kernel, by decide +kernel⟩
abbrev s__law_pot : Stmt := top 35
theorem sc__law_pot : FnScope ["_law_script", "_law_k", "_law_cell", "_law_mixed"] ["_law_script", "_law_k"] (defScope s__law_pot) := ⟨rfl, rfl, rfl, by decide +kernel, rfl, by decide +kernel, by decide +kernel⟩
abbrev s__law_draw : Stmt := top 36
theorem sc__law_draw : FnScope ["_law_pot_here", "_law_size", "_law_digit"] ["_law_pot_here", "_law_size"] (defScope s__law_draw) := ⟨rfl, rfl, rfl, by decide +kernel, rfl, by decide +kernel, by decide +kernel⟩
abbrev s__law_pick : Stmt := top 37
theorem sc__law_pick : FnScope ["_law_pot_here", "_law_some"] ["_law_pot_here", "_law_some"] (defScope s__law_pick) := ⟨rfl, rfl, rfl, by decide +kernel, rfl, by decide +kernel, by decide +kernel⟩
abbrev s__law_deed : Stmt := top 38
theorem sc__law_deed : FnScope ["_law_pot_here", "_law_many", "_law_writes", "_law_way", "_law_waiting", "_law_at", "_law_which", "_law_one"] ["_law_pot_here", "_law_many", "_law_writes"] (defScope s__law_deed) := ⟨rfl, rfl, rfl, by decide +kernel, rfl, by decide +kernel, by decide +kernel⟩
abbrev s__law_newest : Stmt := top 39
theorem sc__law_newest : FnScope ["_law_words", "_law_writes", "_law_which", "_law_found", "_law_one", "_law_word"] ["_law_words", "_law_writes", "_law_which"] (defScope s__law_newest) := ⟨rfl, rfl, rfl, by decide +kernel, rfl, by decide +kernel, by decide +kernel⟩
abbrev s__law_shows : Stmt := top 40
theorem sc__law_shows : FnScope ["_law_renamer", "_law_many", "_law_words", "_law_writes", "_law_which", "_law_at", "_law_due"] ["_law_renamer", "_law_many", "_law_words", "_law_writes"] (defScope s__law_shows) := ⟨rfl, rfl, rfl, by decide +kernel, rfl, by decide +kernel, by decide +kernel⟩
abbrev s__law_done : Stmt := top 41
theorem sc__law_done : FnScope ["_law_renamer", "_law_deed_here", "_law_words", "_law_writes", "_law_open_ones", "_law_one", "_law_which", "_law_new", "_law_old", "_law_kept"] ["_law_renamer", "_law_deed_here", "_law_words", "_law_writes"] (defScope s__law_done) := ⟨rfl, rfl, rfl, by decide +kernel, rfl, by decide +kernel, by decide +kernel⟩
abbrev s__law_right : Stmt := top 42
theorem sc__law_right : FnScope ["_law_pot_here", "_law_many", "_law_renamer", "_law_words", "_law_writes", "_law_held", "_law_shown", "_law_turn", "_law_deed_here", "_law_one", "_law_which", "_law_word"] ["_law_pot_here"] (defScope s__law_right) := ⟨rfl, rfl, rfl, by decide +kernel, rfl, by decide +kernel, by decide +kernel⟩
abbrev s_law : Stmt := top 43
theorem sc_law : FnScope ["_law_script"] ["_law_script"] (defScope s_law) := ⟨rfl, rfl, rfl, by decide +kernel, rfl, by decide +kernel, by decide +kernel⟩
structure Ad where
  f_CoreError___init__ : Addr
  d_CoreError___init__ : FuncData
  f_is_integer : Addr
  d_is_integer : FuncData
  f_is_count : Addr
  d_is_count : FuncData
  f_want_many : Addr
  d_want_many : FuncData
  f_is_word : Addr
  d_is_word : FuncData
  f_is_register : Addr
  d_is_register : FuncData
  f_want_word : Addr
  d_want_word : FuncData
  f_want_register : Addr
  d_want_register : FuncData
  f_is_cell : Addr
  d_is_cell : FuncData
  f_want_cell : Addr
  d_want_cell : FuncData
  f_want_lending : Addr
  d_want_lending : FuncData
  f_Renamer___init__ : Addr
  d_Renamer___init__ : FuncData
  f_Renamer_can_lend : Addr
  d_Renamer_can_lend : FuncData
  p_Renamer_can_lend : Addr
  f_Renamer_place_of : Addr
  d_Renamer_place_of : FuncData
  f_Renamer_is_ready : Addr
  d_Renamer_is_ready : FuncData
  f_Renamer_value : Addr
  d_Renamer_value : FuncData
  f_Renamer_put : Addr
  d_Renamer_put : FuncData
  f_Renamer_lent : Addr
  d_Renamer_lent : FuncData
  f_Renamer_undone : Addr
  d_Renamer_undone : FuncData
  f_Renamer_kept : Addr
  d_Renamer_kept : FuncData
  f_Renamer_written : Addr
  d_Renamer_written : FuncData
  f_Renamer_kept_words : Addr
  d_Renamer_kept_words : FuncData
  f_Renamer_writes : Addr
  d_Renamer_writes : FuncData
  f_Renamer_lendings : Addr
  d_Renamer_lendings : FuncData
  f_Renamer_free : Addr
  d_Renamer_free : FuncData
  f_Renamer_copy : Addr
  d_Renamer_copy : FuncData
  f_Renamer___eq__ : Addr
  d_Renamer___eq__ : FuncData
  f_renamer_told : Addr
  d_renamer_told : FuncData
  f__law_pot : Addr
  d__law_pot : FuncData
  f__law_draw : Addr
  d__law_draw : FuncData
  f__law_pick : Addr
  d__law_pick : FuncData
  f__law_deed : Addr
  d__law_deed : FuncData
  f__law_newest : Addr
  d__law_newest : FuncData
  f__law_shows : Addr
  d__law_shows : FuncData
  f__law_done : Addr
  d__law_done : FuncData
  f__law_right : Addr
  d__law_right : FuncData
  f_law : Addr
  d_law : FuncData
  c_CoreError : Addr
  c_StateError : Addr
  c_InvalidWord : Addr
  c_InvalidRegister : Addr
  c_InvalidMany : Addr
  c_InvalidCell : Addr
  c_NotNewest : Addr
  c_NotOldest : Addr
  c_NotReady : Addr
  c_NotWaiting : Addr
  c_NothingFree : Addr
  c_StillLent : Addr
  c_Renamer : Addr
  t_MOST_WORD : Tok
  t_REGISTERS_words : Tok
  t_REGISTERS_renames : Tok
  t_LEAST_CELLS : Tok
  t_MOST_CELLS : Tok
structure Txt (K : PySem.W.Frag) (mg : Str → Option Value) (a : Ad) : Prop where
  g_CoreError : mg "CoreError" = some (.ref a.c_CoreError)
  x_CoreError : OexC K a.c_CoreError
  xi_CoreError : PySem.W.findIn K (.ref a.c_CoreError) "__init__" = some (some (.ref a.f_CoreError___init__))
  xn_CoreError_value : PySem.W.findIn K (.ref a.c_CoreError) "value" = some none
  g_StateError : mg "StateError" = some (.ref a.c_StateError)
  g_InvalidWord : mg "InvalidWord" = some (.ref a.c_InvalidWord)
  x_InvalidWord : OexC K a.c_InvalidWord
  xi_InvalidWord : PySem.W.findIn K (.ref a.c_InvalidWord) "__init__" = some (some (.ref a.f_CoreError___init__))
  xn_InvalidWord_value : PySem.W.findIn K (.ref a.c_InvalidWord) "value" = some none
  g_InvalidRegister : mg "InvalidRegister" = some (.ref a.c_InvalidRegister)
  x_InvalidRegister : OexC K a.c_InvalidRegister
  xi_InvalidRegister : PySem.W.findIn K (.ref a.c_InvalidRegister) "__init__" = some (some (.ref a.f_CoreError___init__))
  xn_InvalidRegister_value : PySem.W.findIn K (.ref a.c_InvalidRegister) "value" = some none
  g_InvalidMany : mg "InvalidMany" = some (.ref a.c_InvalidMany)
  x_InvalidMany : OexC K a.c_InvalidMany
  xi_InvalidMany : PySem.W.findIn K (.ref a.c_InvalidMany) "__init__" = some (some (.ref a.f_CoreError___init__))
  xn_InvalidMany_value : PySem.W.findIn K (.ref a.c_InvalidMany) "value" = some none
  g_InvalidCell : mg "InvalidCell" = some (.ref a.c_InvalidCell)
  x_InvalidCell : OexC K a.c_InvalidCell
  xi_InvalidCell : PySem.W.findIn K (.ref a.c_InvalidCell) "__init__" = some (some (.ref a.f_CoreError___init__))
  xn_InvalidCell_value : PySem.W.findIn K (.ref a.c_InvalidCell) "value" = some none
  g_NotNewest : mg "NotNewest" = some (.ref a.c_NotNewest)
  g_NotOldest : mg "NotOldest" = some (.ref a.c_NotOldest)
  g_NotReady : mg "NotReady" = some (.ref a.c_NotReady)
  g_NotWaiting : mg "NotWaiting" = some (.ref a.c_NotWaiting)
  g_NothingFree : mg "NothingFree" = some (.ref a.c_NothingFree)
  g_StillLent : mg "StillLent" = some (.ref a.c_StillLent)
  g_Renamer : mg "Renamer" = some (.ref a.c_Renamer)
  c_Renamer : Cls K a.c_Renamer
  n_Renamer_own_new : NoAttr K a.c_Renamer "own_new"
  n_Renamer_own_old : NoAttr K a.c_Renamer "own_old"
  n_Renamer_own_free : NoAttr K a.c_Renamer "own_free"
  n_Renamer_own_open : NoAttr K a.c_Renamer "own_open"
  n_Renamer_own_words : NoAttr K a.c_Renamer "own_words"
  i_Renamer : InsTy K a.c_Renamer
  is_Renamer : PySem.W.notFirst K a.c_Renamer (.ref a.c_Renamer) = true
  io_Renamer : PySem.W.kitOne K (.ref a.c_Renamer) (.ref a.c_Renamer) = some true
  k_Renamer : Mk K a.c_Renamer a.f_Renamer___init__
  F_CoreError___init__ : Fun K "__init__" "CoreError.__init__" s_CoreError___init__ a.f_CoreError___init__ a.d_CoreError___init__
  b_CoreError___init__ : Binds K a.d_CoreError___init__ ["self", "value"] []
  xt_CoreError___init__ : PySem.W.typeIn K (.ref a.f_CoreError___init__) = some (.type "function")
  m_is_integer : mg "is_integer" = some (.ref a.f_is_integer)
  F_is_integer : Fun K "is_integer" "is_integer" s_is_integer a.f_is_integer a.d_is_integer
  b_is_integer : Binds K a.d_is_integer ["value"] []
  m_is_count : mg "is_count" = some (.ref a.f_is_count)
  F_is_count : Fun K "is_count" "is_count" s_is_count a.f_is_count a.d_is_count
  b_is_count : Binds K a.d_is_count ["value"] []
  m_want_many : mg "want_many" = some (.ref a.f_want_many)
  F_want_many : Fun K "want_many" "want_many" s_want_many a.f_want_many a.d_want_many
  b_want_many : Binds K a.d_want_many ["value", "least", "most"] []
  m_is_word : mg "is_word" = some (.ref a.f_is_word)
  F_is_word : Fun K "is_word" "is_word" s_is_word a.f_is_word a.d_is_word
  b_is_word : Binds K a.d_is_word ["value"] []
  m_is_register : mg "is_register" = some (.ref a.f_is_register)
  F_is_register : Fun K "is_register" "is_register" s_is_register a.f_is_register a.d_is_register
  b_is_register : Binds K a.d_is_register ["value"] []
  m_want_word : mg "want_word" = some (.ref a.f_want_word)
  F_want_word : Fun K "want_word" "want_word" s_want_word a.f_want_word a.d_want_word
  b_want_word : Binds K a.d_want_word ["value"] []
  m_want_register : mg "want_register" = some (.ref a.f_want_register)
  F_want_register : Fun K "want_register" "want_register" s_want_register a.f_want_register a.d_want_register
  b_want_register : Binds K a.d_want_register ["value"] []
  m_is_cell : mg "is_cell" = some (.ref a.f_is_cell)
  F_is_cell : Fun K "is_cell" "is_cell" s_is_cell a.f_is_cell a.d_is_cell
  b_is_cell : Binds K a.d_is_cell ["renamer", "value"] []
  m_want_cell : mg "want_cell" = some (.ref a.f_want_cell)
  F_want_cell : Fun K "want_cell" "want_cell" s_want_cell a.f_want_cell a.d_want_cell
  b_want_cell : Binds K a.d_want_cell ["renamer", "value"] []
  m_want_lending : mg "want_lending" = some (.ref a.f_want_lending)
  F_want_lending : Fun K "want_lending" "want_lending" s_want_lending a.f_want_lending a.d_want_lending
  b_want_lending : Binds K a.d_want_lending ["renamer", "which", "new", "old"] []
  F_Renamer___init__ : Fun K "__init__" "Renamer.__init__" s_Renamer___init__ a.f_Renamer___init__ a.d_Renamer___init__
  b_Renamer___init__ : Binds K a.d_Renamer___init__ ["self", "many"] []
  F_Renamer_can_lend : Fun K "can_lend" "Renamer.can_lend" s_Renamer_can_lend a.f_Renamer_can_lend a.d_Renamer_can_lend
  b_Renamer_can_lend : Binds K a.d_Renamer_can_lend ["self"] []
  p_Renamer_can_lend : PropOf K a.c_Renamer "can_lend" a.p_Renamer_can_lend a.f_Renamer_can_lend
  F_Renamer_place_of : Fun K "place_of" "Renamer.place_of" s_Renamer_place_of a.f_Renamer_place_of a.d_Renamer_place_of
  b_Renamer_place_of : Binds K a.d_Renamer_place_of ["self", "which"] []
  M_Renamer_place_of : Meth K a.c_Renamer "place_of" a.f_Renamer_place_of
  F_Renamer_is_ready : Fun K "is_ready" "Renamer.is_ready" s_Renamer_is_ready a.f_Renamer_is_ready a.d_Renamer_is_ready
  b_Renamer_is_ready : Binds K a.d_Renamer_is_ready ["self", "at"] []
  M_Renamer_is_ready : Meth K a.c_Renamer "is_ready" a.f_Renamer_is_ready
  F_Renamer_value : Fun K "value" "Renamer.value" s_Renamer_value a.f_Renamer_value a.d_Renamer_value
  b_Renamer_value : Binds K a.d_Renamer_value ["self", "at"] []
  M_Renamer_value : Meth K a.c_Renamer "value" a.f_Renamer_value
  F_Renamer_put : Fun K "put" "Renamer.put" s_Renamer_put a.f_Renamer_put a.d_Renamer_put
  b_Renamer_put : Binds K a.d_Renamer_put ["self", "at", "value"] []
  M_Renamer_put : Meth K a.c_Renamer "put" a.f_Renamer_put
  F_Renamer_lent : Fun K "lent" "Renamer.lent" s_Renamer_lent a.f_Renamer_lent a.d_Renamer_lent
  b_Renamer_lent : Binds K a.d_Renamer_lent ["self", "which"] []
  M_Renamer_lent : Meth K a.c_Renamer "lent" a.f_Renamer_lent
  F_Renamer_undone : Fun K "undone" "Renamer.undone" s_Renamer_undone a.f_Renamer_undone a.d_Renamer_undone
  b_Renamer_undone : Binds K a.d_Renamer_undone ["self", "which", "new", "old"] []
  M_Renamer_undone : Meth K a.c_Renamer "undone" a.f_Renamer_undone
  F_Renamer_kept : Fun K "kept" "Renamer.kept" s_Renamer_kept a.f_Renamer_kept a.d_Renamer_kept
  b_Renamer_kept : Binds K a.d_Renamer_kept ["self", "which", "new", "old"] []
  M_Renamer_kept : Meth K a.c_Renamer "kept" a.f_Renamer_kept
  F_Renamer_written : Fun K "written" "Renamer.written" s_Renamer_written a.f_Renamer_written a.d_Renamer_written
  b_Renamer_written : Binds K a.d_Renamer_written ["self", "which", "value"] []
  M_Renamer_written : Meth K a.c_Renamer "written" a.f_Renamer_written
  F_Renamer_kept_words : Fun K "kept_words" "Renamer.kept_words" s_Renamer_kept_words a.f_Renamer_kept_words a.d_Renamer_kept_words
  b_Renamer_kept_words : Binds K a.d_Renamer_kept_words ["self"] []
  M_Renamer_kept_words : Meth K a.c_Renamer "kept_words" a.f_Renamer_kept_words
  F_Renamer_writes : Fun K "writes" "Renamer.writes" s_Renamer_writes a.f_Renamer_writes a.d_Renamer_writes
  b_Renamer_writes : Binds K a.d_Renamer_writes ["self"] []
  M_Renamer_writes : Meth K a.c_Renamer "writes" a.f_Renamer_writes
  F_Renamer_lendings : Fun K "lendings" "Renamer.lendings" s_Renamer_lendings a.f_Renamer_lendings a.d_Renamer_lendings
  b_Renamer_lendings : Binds K a.d_Renamer_lendings ["self"] []
  M_Renamer_lendings : Meth K a.c_Renamer "lendings" a.f_Renamer_lendings
  F_Renamer_free : Fun K "free" "Renamer.free" s_Renamer_free a.f_Renamer_free a.d_Renamer_free
  b_Renamer_free : Binds K a.d_Renamer_free ["self"] []
  M_Renamer_free : Meth K a.c_Renamer "free" a.f_Renamer_free
  F_Renamer_copy : Fun K "copy" "Renamer.copy" s_Renamer_copy a.f_Renamer_copy a.d_Renamer_copy
  b_Renamer_copy : Binds K a.d_Renamer_copy ["self"] []
  M_Renamer_copy : Meth K a.c_Renamer "copy" a.f_Renamer_copy
  F_Renamer___eq__ : Fun K "__eq__" "Renamer.__eq__" s_Renamer___eq__ a.f_Renamer___eq__ a.d_Renamer___eq__
  b_Renamer___eq__ : Binds K a.d_Renamer___eq__ ["self", "other"] []
  M_Renamer___eq__ : Meth K a.c_Renamer "__eq__" a.f_Renamer___eq__
  m_renamer_told : mg "renamer_told" = some (.ref a.f_renamer_told)
  F_renamer_told : Fun K "renamer_told" "renamer_told" s_renamer_told a.f_renamer_told a.d_renamer_told
  b_renamer_told : Binds K a.d_renamer_told ["renamer"] []
  m__law_pot : mg "_law_pot" = some (.ref a.f__law_pot)
  F__law_pot : Fun K "_law_pot" "_law_pot" s__law_pot a.f__law_pot a.d__law_pot
  b__law_pot : Binds K a.d__law_pot ["_law_script", "_law_k"] []
  m__law_draw : mg "_law_draw" = some (.ref a.f__law_draw)
  F__law_draw : Fun K "_law_draw" "_law_draw" s__law_draw a.f__law_draw a.d__law_draw
  b__law_draw : Binds K a.d__law_draw ["_law_pot_here", "_law_size"] []
  m__law_pick : mg "_law_pick" = some (.ref a.f__law_pick)
  F__law_pick : Fun K "_law_pick" "_law_pick" s__law_pick a.f__law_pick a.d__law_pick
  b__law_pick : Binds K a.d__law_pick ["_law_pot_here", "_law_some"] []
  m__law_deed : mg "_law_deed" = some (.ref a.f__law_deed)
  F__law_deed : Fun K "_law_deed" "_law_deed" s__law_deed a.f__law_deed a.d__law_deed
  b__law_deed : Binds K a.d__law_deed ["_law_pot_here", "_law_many", "_law_writes"] []
  m__law_newest : mg "_law_newest" = some (.ref a.f__law_newest)
  F__law_newest : Fun K "_law_newest" "_law_newest" s__law_newest a.f__law_newest a.d__law_newest
  b__law_newest : Binds K a.d__law_newest ["_law_words", "_law_writes", "_law_which"] []
  m__law_shows : mg "_law_shows" = some (.ref a.f__law_shows)
  F__law_shows : Fun K "_law_shows" "_law_shows" s__law_shows a.f__law_shows a.d__law_shows
  b__law_shows : Binds K a.d__law_shows ["_law_renamer", "_law_many", "_law_words", "_law_writes"] []
  m__law_done : mg "_law_done" = some (.ref a.f__law_done)
  F__law_done : Fun K "_law_done" "_law_done" s__law_done a.f__law_done a.d__law_done
  b__law_done : Binds K a.d__law_done ["_law_renamer", "_law_deed_here", "_law_words", "_law_writes"] []
  m__law_right : mg "_law_right" = some (.ref a.f__law_right)
  F__law_right : Fun K "_law_right" "_law_right" s__law_right a.f__law_right a.d__law_right
  b__law_right : Binds K a.d__law_right ["_law_pot_here"] []
  m_law : mg "law" = some (.ref a.f_law)
  F_law : Fun K "law" "law" s_law a.f_law a.d_law
  b_law : Binds K a.d_law ["_law_script"] []
  kb_Renamer_kept_1_old_new_which : KBn K a.d_Renamer_kept ["self", "which", "new", "old"] 1 ["old", "new", "which"] (fun us ws => [us.getD 0 PySem.Value.none, ws.getD 2 PySem.Value.none, ws.getD 1 PySem.Value.none, ws.getD 0 PySem.Value.none]) (fun us ws => [us.getD 0 V.non, ws.getD 2 V.non, ws.getD 1 V.non, ws.getD 0 V.non])
  kb_Renamer_put_1_at_value : KBn K a.d_Renamer_put ["self", "at", "value"] 1 ["at", "value"] (fun us ws => [us.getD 0 PySem.Value.none, ws.getD 0 PySem.Value.none, ws.getD 1 PySem.Value.none]) (fun us ws => [us.getD 0 V.non, ws.getD 0 V.non, ws.getD 1 V.non])
  z_abs : mg "abs" = none
  z_bool : mg "bool" = none
  z_divmod : mg "divmod" = none
  z_enumerate : mg "enumerate" = none
  z_int : mg "int" = none
  z_isinstance : mg "isinstance" = none
  z_len : mg "len" = none
  z_list : mg "list" = none
  z_max : mg "max" = none
  z_range : mg "range" = none
  z_repr : mg "repr" = none
  z_tuple : mg "tuple" = none
  v_MOST_WORD : mg "MOST_WORD" = some (.int 65536 a.t_MOST_WORD)
  v_REGISTERS_words : mg "REGISTERS_words" = some (.int 8 a.t_REGISTERS_words)
  v_REGISTERS_renames : mg "REGISTERS_renames" = some (.int 8 a.t_REGISTERS_renames)
  v_LEAST_CELLS : mg "LEAST_CELLS" = some (.int 9 a.t_LEAST_CELLS)
  v_MOST_CELLS : mg "MOST_CELLS" = some (.int 48 a.t_MOST_CELLS)
local macro_rules | `(tactic| walk_at "cls") => `(tactic| first | assumption | exact Txt.c_Renamer (by assumption))
local macro_rules | `(tactic| walk_at "nat") => `(tactic| first | assumption | exact Txt.n_Renamer_own_new (by assumption) | exact Txt.n_Renamer_own_old (by assumption) | exact Txt.n_Renamer_own_free (by assumption) | exact Txt.n_Renamer_own_open (by assumption) | exact Txt.n_Renamer_own_words (by assumption))
def sp_law (K : PySem.W.Frag) : Sp := fun vs H Q _ => ∃ (a : Addr) (ns : List Int), vs = [.ref a] ∧ SqL K H a (ns.map V.int) ∧ ns.length ≤ 63 ∧ ∀ H', Q (.bl true) H'
theorem rgV_map (a b : Int) : rgV a b = ((List.range (b - a).toNat).map fun i : Nat => a + (i : Int)).map V.int := by
  unfold rgV
  rw [List.map_map]
  rfl
abbrev L3 := Int × Int × Int
abbrev l3V (t : L3) : List V := [.int t.1, .int t.2.1, .int t.2.2]
abbrev kL3 (K : PySem.W.Frag) : El K L3 := kF (K := K) l3V (fun t => [.int t.1, .int t.2.1, .int t.2.2]) fun t => .cons (.int _) (.cons (.int _) (.cons (.int _) .nil))
structure Ren where
  nw : List Int
  od : List Int
  fr : List Int
  op : List L3
  ws : List (Option Int)
def wV : Option Int → V
  | none => .non
  | some n => .int n
theorem wV1 (n : Int) : V.int n = wV (some n) := rfl
theorem wV0 : V.non = wV none := rfl
open PySem L2 Toy in
local macro_rules | `(tactic| walk_at "vw") => `(tactic| first | exact wV1 _ | exact wV0)
abbrev fR (n o f p w : Addr) : List (Str × V) := [("own_new", .ref n), ("own_old", .ref o), ("own_free", .ref f), ("own_open", .ref p), ("own_words", .ref w)]
def RenA (K : PySem.W.Frag) (C : Addr) (r : Addr) (s : Ren) : HA := ex fun dx => ex fun n => ex fun o => ex fun f => ex fun p => ex fun w => all [pt r (.ins C dx (fR n o f p w)), pt n (.lst (s.nw.map V.int)), pt o (.lst (s.od.map V.int)), pt f (.lst (s.fr.map V.int)), ls (kL3 K) p s.op, pt w (.lst (s.ws.map wV))]
def ren0 (m : Int) : Ren := ⟨(List.range 8).map fun i : Nat => 0 + (i : Int), (List.range 8).map fun i : Nat => 0 + (i : Int), (List.range (m - 8).toNat).map fun i : Nat => 8 + (i : Int), [], List.replicate 8 (some 0) ++ List.replicate (m - 8).toNat none⟩
def Cell (s : Ren) (c : Int) : Prop := 0 ≤ c ∧ c < s.ws.length
section
variable {K : PySem.W.Frag} {L R F : List HA} {C r : Addr} {s : Ren} {φ : Hp → Prop}
theorem Ent.ren (e : ∀ dx n o f p w, Ent (pt r (.ins C dx (fR n o f p w)) :: pt n (.lst (s.nw.map V.int)) :: pt o (.lst (s.od.map V.int)) :: pt f (.lst (s.fr.map V.int)) :: ls (kL3 K) p s.op :: pt w (.lst (s.ws.map wV)) :: L) φ) : Ent (RenA K C r s :: L) φ :=
  Ent.ex fun dx => Ent.ex fun n => Ent.ex fun o => Ent.ex fun f => Ent.ex fun p => Ent.ex fun w => Ent.all (e dx n o f p w)
theorem Sub.ren (dx n o f p w : Addr) (e : Sub L (pt r (.ins C dx (fR n o f p w)) :: pt n (.lst (s.nw.map V.int)) :: pt o (.lst (s.od.map V.int)) :: pt f (.lst (s.fr.map V.int)) :: ls (kL3 K) p s.op :: pt w (.lst (s.ws.map wV)) :: R)) : Sub L (RenA K C r s :: R) :=
  Sub.ex dx (Sub.ex n (Sub.ex o (Sub.ex f (Sub.ex p (Sub.ex w (Sub.all e))))))
end
/-! ### what each deed makes of it -/
def lentR (s : Ren) (k c o : Int) (rest : List Int) : Ren := { s with fr := rest, nw := s.nw.set k.toNat c, op := s.op ++ [(k, c, o)] }
def putR (s : Ren) (c w : Int) : Ren := { s with ws := s.ws.set c.toNat (some w) }
def undoneR (s : Ren) (k c o : Int) : Ren := { s with op := s.op.dropLast, nw := s.nw.set k.toNat o, ws := s.ws.set c.toNat none, fr := c :: s.fr }
def keptR (s : Ren) (k c o : Int) : Ren := { s with op := s.op.drop 1, od := s.od.set k.toNat c, ws := s.ws.set o.toNat none, fr := s.fr ++ [o] }
def Rng (m : Nat) (c : Int) : Prop := 0 ≤ c ∧ c < m
def Free (s : Ren) : Prop := ∀ c ∈ s.fr, s.ws[c.toNat]? = some none
structure WF (m : Nat) (s : Ren) : Prop where
  ln : s.nw.length = 8
  lo : s.od.length = 8
  lw : s.ws.length = m
  rn : ∀ c ∈ s.nw, Rng m c
  ro : ∀ c ∈ s.od, Rng m c
  rf : ∀ c ∈ s.fr, Rng m c
  nd : s.fr.Nodup
  fn : Free s
  fo : s.fr.length + s.op.length + 8 = m
theorem mem_set {α : Type} {l : List α} {i : Nat} {a x : α} (h : x ∈ l.set i a) : x ∈ l ∨ x = a := List.mem_or_eq_of_mem_set h
theorem set_self2 {α : Type} {l : List α} {i : Nat} {a : α} (h : l[i]? = some a) : l.set i a = l := by
  apply List.ext_getElem?
  intro j
  rw [List.getElem?_set]
  by_cases e : i = j
  · subst e
    rw [h, if_pos rfl, if_pos (List.getElem?_eq_some_iff.mp h).1]
  · rw [if_neg e]
theorem set_back {α : Type} {l : List α} {i : Nat} {a b : α} (h : l[i]? = some a) : (l.set i b).set i a = l := by
  rw [List.set_set]
  exact set_self2 h
theorem mem_of {l : List Int} {i : Nat} {a : Int} (h : l[i]? = some a) : a ∈ l := List.mem_of_getElem? h
section
variable {m : Nat} {s s0 : Ren} {k c o w : Int} {rest : List Int} {rl : List L3}
theorem WF.lent (W : WF m s) (h : s.fr = c :: rest) (ho : s.nw[k.toNat]? = some o) : WF m (lentR s k c o rest) := by
  have rc : Rng m c := W.rf c (by rw [h]; exact List.mem_cons_self ..)
  have nd := W.nd
  have fn := W.fn
  have rf := W.rf
  have fo := W.fo
  unfold Free at fn
  rw [h] at nd fn rf fo
  refine ⟨?_, W.lo, W.lw, fun x hx => ?_, W.ro, fun x hx => rf x (List.mem_cons_of_mem _ hx), (List.nodup_cons.mp nd).2, fun x hx => fn x (List.mem_cons_of_mem _ hx), ?_⟩
  · simp [lentR, W.ln]
  · rcases mem_set hx with hx | rfl
    · exact W.rn x hx
    · exact rc
  · simp [lentR] at fo ⊢
    omega
theorem WF.put (W : WF m s) (rc : Rng m c) (h : c ∉ s.fr) : WF m (putR s c w) := by
  refine ⟨W.ln, W.lo, by simp [putR, W.lw], W.rn, W.ro, W.rf, W.nd, fun x hx => ?_, W.fo⟩
  have hn : c.toNat ≠ x.toNat := by
    intro e
    obtain ⟨h1, h2⟩ := W.rf x hx
    obtain ⟨h3, h4⟩ := rc
    have : c = x := by omega
    exact h (this ▸ hx)
  show (s.ws.set c.toNat (some w))[x.toNat]? = some none
  rw [List.getElem?_set_ne hn]
  exact W.fn x hx
end
inductive Chain : List Int → List L3 → List Int → Prop
  | nil (n : List Int) : Chain n [] n
  | cons {n n' : List Int} {k c o : Int} {op : List L3} : n[k.toNat]? = some o → Chain (n.set k.toNat c) op n' → Chain n ((k, c, o) :: op) n'
theorem Chain.snoc {n n' : List Int} {op : List L3} (h : Chain n op n') {k c o : Int} (e : n'[k.toNat]? = some o) : Chain n (op ++ [(k, c, o)]) (n'.set k.toNat c) := by
  induction h with
  | nil n => exact .cons e (.nil _)
  | cons e0 _ ih => exact .cons e0 (ih e)
def news (op : List L3) : List Int := op.map (·.2.1)
theorem nn {m : Nat} {a b : Int} (h : Rng m a) (h' : Rng m b) (n : a ≠ b) : a.toNat ≠ b.toNat := by
  obtain ⟨h1, h2⟩ := h
  obtain ⟨h3, h4⟩ := h'
  omega
theorem set_perm {l : List Int} {i : Nat} {o c : Int} (h : l[i]? = some o) : (o :: l.set i c).Perm (c :: l) := by
  induction l generalizing i with
  | nil => simp at h
  | cons x l ih =>
    cases i with
    | zero =>
      simp at h
      subst h
      exact List.Perm.swap ..
    | succ i =>
      have h2 := ih (i := i) (by simpa using h)
      show (o :: x :: l.set i c).Perm (c :: x :: l)
      exact (List.Perm.swap ..).trans ((h2.cons x).trans (List.Perm.swap ..))
theorem keep_perm {od X fr : List Int} {i : Nat} {o c : Int} (h : od[i]? = some o) : (od.set i c ++ (X ++ (fr ++ [o]))).Perm (od ++ (c :: X ++ fr)) := by
  rw [List.perm_iff_count]
  intro a
  have q := (set_perm (c := c) h).count_eq a
  simp only [List.count_cons, List.count_append, List.count_nil, List.cons_append] at q ⊢
  omega
def aRInit (K : PySem.W.Frag) (C : Addr) : Sp := fun vs H Q _ => ∃ (x dx : Addr) (m : Int) (F : List HA), vs = [.ref x, .int m] ∧ Holds (pt x (.ins C dx []) :: F) H ∧ 9 ≤ m ∧ m ≤ 48 ∧ Ent (RenA K C x (ren0 m) :: F) (Q .non)
def aRead (K : PySem.W.Frag) (C : Addr) (g : Ren → V) : Sp := fun vs H Q _ => ∃ (r : Addr) (s : Ren) (F : List HA), vs = [.ref r] ∧ Holds (RenA K C r s :: F) H ∧ Ent (RenA K C r s :: F) (Q (g s))
def aReady (K : PySem.W.Frag) (C : Addr) : Sp := fun vs H Q _ => ∃ (r : Addr) (s : Ren) (c : Int) (F : List HA), vs = [.ref r, .int c] ∧ Holds (RenA K C r s :: F) H ∧ Cell s c ∧ Ent (RenA K C r s :: F) (Q (.bl (!decide (s.ws[c.toNat]? = some none))))
def aIsCell (K : PySem.W.Frag) (C : Addr) : Sp := fun vs H Q _ => ∃ (r : Addr) (s : Ren) (c : Int) (F : List HA), vs = [.ref r, .int c] ∧ Holds (RenA K C r s :: F) H ∧ Cell s c ∧ Ent (RenA K C r s :: F) (Q (.bl true))
def aWantCell (K : PySem.W.Frag) (C : Addr) : Sp := fun vs H Q _ => ∃ (r : Addr) (s : Ren) (c : Int) (F : List HA), vs = [.ref r, .int c] ∧ Holds (RenA K C r s :: F) H ∧ Cell s c ∧ Ent (RenA K C r s :: F) (Q .non)
def aWantLend (K : PySem.W.Frag) (C : Addr) : Sp := fun vs H Q _ => ∃ (r : Addr) (s : Ren) (k c d : Int) (F : List HA), vs = [.ref r, .int k, .int c, .int d] ∧ Holds (RenA K C r s :: F) H ∧ 0 ≤ k ∧ k < 8 ∧ Cell s c ∧ Cell s d ∧ Ent (RenA K C r s :: F) (Q .non)
section
variable {K : PySem.W.Frag} {L R F : List HA} {C r : Addr} {s : Ren} {Q : VK} {E : XK} {c d k : Int}
theorem e_isCell (t : Take (RenA K C r s) L R) (hc : Cell s c) (q : Ent (RenA K C r s :: R) (Q (.bl true))) : Ent L fun H => aIsCell K C [.ref r, .int c] H Q E := fun H h => ⟨r, s, c, R, rfl, t.to h, hc, q⟩
theorem e_wantCell (t : Take (RenA K C r s) L R) (hc : Cell s c) (q : Ent (RenA K C r s :: R) (Q .non)) : Ent L fun H => aWantCell K C [.ref r, .int c] H Q E := fun H h => ⟨r, s, c, R, rfl, t.to h, hc, q⟩
theorem e_wantLend (t : Take (RenA K C r s) L R) (h0 : 0 ≤ k) (h1 : k < 8) (hc : Cell s c) (hd : Cell s d) (q : Ent (RenA K C r s :: R) (Q .non)) : Ent L fun H => aWantLend K C [.ref r, .int k, .int c, .int d] H Q E := fun H h => ⟨r, s, k, c, d, R, rfl, t.to h, h0, h1, hc, hd, q⟩
theorem e_read {g : Ren → V} (t : Take (RenA K C r s) L R) (q : Ent (RenA K C r s :: R) (Q (g s))) : Ent L fun H => aRead K C g [.ref r] H Q E := fun H h => ⟨r, s, R, rfl, t.to h, q⟩
theorem e_ready (t : Take (RenA K C r s) L R) (hc : Cell s c) (q : Ent (RenA K C r s :: R) (Q (.bl (!decide (s.ws[c.toNat]? = some none))))) : Ent L fun H => aReady K C [.ref r, .int c] H Q E := fun H h => ⟨r, s, c, R, rfl, t.to h, hc, q⟩
end
/-! ### promises -/
def renD (s : Ren) : PyData := .tuple [.tuple (s.nw.map .int), .tuple (s.od.map .int), .tuple (s.fr.map .int), .tuple (s.op.map fun t => .tuple [.int t.1, .int t.2.1, .int t.2.2]), .tuple (s.ws.map (optD .int))]
/-- all that is told of a renamer: a tuple of five tuples -/
def kRen (K : PySem.W.Frag) : El K Ren := ⟨fun H v s => ∃ t a b c d e, v = .ref t ∧ H t = some (.tup [.ref a, .ref b, .ref c, .ref d, .ref e]) ∧ H a = some (.tup (s.nw.map V.int)) ∧ H b = some (.tup (s.od.map V.int)) ∧ H c = some (.tup (s.fr.map V.int)) ∧ (kT (kL3 K)).P H (.ref d) s.op ∧ H e = some (.tup (s.ws.map wV)),
  fun ⟨t, a, b, c, d, e, h0, h1, h2, h3, h4, h5, h6⟩ k => ⟨t, a, b, c, d, e, h0, k _ _ h1 (.inr rfl), k _ _ h2 (.inr rfl), k _ _ h3 (.inr rfl), k _ _ h4 (.inr rfl), (kT (kL3 K)).st h5 k, k _ _ h6 (.inr rfl)⟩, renD, fun {H v s} ⟨t, a, b, c, d, e, h0, h1, h2, h3, h4, h5, h6⟩ => by
  subst h0
  refine .tup (SqT.of h1) (.cons (.tup (SqT.of h2) (ints_dp _)) (.cons (.tup (SqT.of h3) (ints_dp _)) (.cons (.tup (SqT.of h4) (ints_dp _)) (.cons ((kT (kL3 K)).dp h5) (.cons (.tup (SqT.of h6) ?_) .nil)))))
  exact dp_mapE s.ws fun x _ => by
    cases x with
    | none => exact .non
    | some n => exact .int n⟩
theorem l3Ok : DtOk (fun t : L3 => PyData.tuple [.int t.1, .int t.2.1, .int t.2.2]) 1 := DtOk.of (f := fun t : L3 => [t.1, t.2.1, t.2.2]) DtOk.int.tuple (fun x y h => by
  obtain ⟨a, b, c⟩ := x
  obtain ⟨a', b', c'⟩ := y
  simp at h
  obtain ⟨rfl, rfl, rfl⟩ := h
  rfl)
theorem optLay : ∀ ws : List (Option Int), PyData.canLayAll0 (ws.map (optD .int)) = true ∧ PyData.depthAll (ws.map (optD .int)) ≤ 0
  | [] => ⟨rfl, by simp [PyData.depthAll]⟩
  | x :: ws => by
    obtain ⟨h1, h2⟩ := optLay ws
    have h3 := (DtOk.int.opt x x)
    rw [List.map_cons]
    simp only [PyData.canLayAll0, PyData.depthAll, h1, h3.1, Bool.and_self, true_and]
    have := h3.2.1
    omega
theorem ren_lay (s : Ren) : (renD s).canLay0 = true ∧ (renD s).depth ≤ 60 := by
  have a := (DtOk.int.tuple).lay
  have b := (DtOk.int.tuple).dep
  have c := l3Ok.tuple.lay s.op
  have d := l3Ok.tuple.dep s.op
  obtain ⟨e, f⟩ := optLay s.ws
  have a1 := a s.nw
  have a2 := a s.od
  have a3 := a s.fr
  have b1 := b s.nw
  have b2 := b s.od
  have b3 := b s.fr
  simp only [PyData.canLay0, PyData.depth] at a1 a2 a3 b1 b2 b3 c d
  unfold renD
  simp only [PyData.canLay0, PyData.canLayAll0, PyData.depth, PyData.depthAll, a1, a2, a3, c, e, Bool.and_self, true_and]
  omega
def aTold (K : PySem.W.Frag) (C : Addr) : Sp := fun vs H Q _ => ∃ (r : Addr) (s : Ren) (F : List HA), vs = [.ref r] ∧ Holds (RenA K C r s :: F) H ∧ ∀ v, Ent (vl (kRen K) v s :: RenA K C r s :: F) (Q v)
def aPut (K : PySem.W.Frag) (C : Addr) : Sp := fun vs H Q _ => ∃ (r : Addr) (s : Ren) (c x : Int) (F : List HA), vs = [.ref r, .int c, .int x] ∧ Holds (RenA K C r s :: F) H ∧ Cell s c ∧ W16 x ∧ s.ws[c.toNat]? = some none ∧ c ∉ s.fr ∧ Ent (RenA K C r (putR s c x) :: F) (Q .non)
def aLent (K : PySem.W.Frag) (C : Addr) : Sp := fun vs H Q _ => ∃ (r : Addr) (s : Ren) (k c o : Int) (rest : List Int) (F : List HA), vs = [.ref r, .int k] ∧ Holds (RenA K C r s :: F) H ∧ (0 ≤ k ∧ k < 8) ∧ s.fr = c :: rest ∧ s.nw[k.toNat]? = some o ∧ s.op.length ≤ 1000 ∧ ∀ t, Ent (tu t [.int c, .int o] :: RenA K C r (lentR s k c o rest) :: F) (Q (.ref t))
def aUndone (K : PySem.W.Frag) (C : Addr) : Sp := fun vs H Q _ => ∃ (r : Addr) (s : Ren) (k c o : Int) (op : List L3) (F : List HA), vs = [.ref r, .int k, .int c, .int o] ∧ Holds (RenA K C r s :: F) H ∧ (0 ≤ k ∧ k < 8) ∧ Cell s c ∧ Cell s o ∧ s.op = op ++ [(k, c, o)] ∧ s.nw.length = 8 ∧ s.fr.length ≤ 1000 ∧ Ent (RenA K C r (undoneR s k c o) :: F) (Q .non)
def aKept (K : PySem.W.Frag) (C : Addr) : Sp := fun vs H Q _ => ∃ (r : Addr) (s : Ren) (k c o w : Int) (op : List L3) (F : List HA), vs = [.ref r, .int k, .int c, .int o] ∧ Holds (RenA K C r s :: F) H ∧ (0 ≤ k ∧ k < 8) ∧ Cell s c ∧ Cell s o ∧ s.op = (k, c, o) :: op ∧ s.od.length = 8 ∧ s.ws[c.toNat]? = some (some w) ∧ s.fr.length ≤ 1000 ∧ Ent (RenA K C r (keptR s k c o) :: F) (Q .non)
def aKeptWords (K : PySem.W.Frag) (C : Addr) : Sp := fun vs H Q _ => ∃ (r : Addr) (s : Ren) (ws : List Int) (F : List HA), vs = [.ref r] ∧ Holds (RenA K C r s :: F) H ∧ s.od.length ≤ 1000 ∧ (∀ c ∈ s.od, 0 ≤ c) ∧ All2 (fun c w => s.ws[Int.toNat c]? = some (some w)) s.od ws ∧ ∀ p, Ent (pt p (.lst (ws.map V.int)) :: RenA K C r s :: F) (Q (.ref p))
def aWrites0 (K : PySem.W.Frag) (C : Addr) : Sp := fun vs H Q _ => ∃ (r : Addr) (s : Ren) (F : List HA), vs = [.ref r] ∧ Holds (RenA K C r s :: F) H ∧ s.op = [] ∧ ∀ p, Ent (pt p (.lst []) :: RenA K C r s :: F) (Q (.ref p))
def aFree (K : PySem.W.Frag) (C : Addr) : Sp := fun vs H Q _ => ∃ (r : Addr) (s : Ren) (F : List HA), vs = [.ref r] ∧ Holds (RenA K C r s :: F) H ∧ ∀ p, Ent (pt p (.lst (s.fr.map V.int)) :: RenA K C r s :: F) (Q (.ref p))
def aEq (K : PySem.W.Frag) (C : Addr) : Sp := fun vs H Q _ => ∃ (r r2 : Addr) (s : Ren) (F : List HA), vs = [.ref r, .ref r2] ∧ Holds (RenA K C r s :: RenA K C r2 s :: F) H ∧ Ent (RenA K C r s :: RenA K C r2 s :: F) (Q (.bl true))
section
variable {K : PySem.W.Frag} {L R F : List HA} {C r : Addr} {s : Ren} {Q : VK} {E : XK} {c d k o x : Int} {op : List L3}
theorem e_told (t : Take (RenA K C r s) L R) (q : ∀ v, Ent (vl (kRen K) v s :: RenA K C r s :: R) (Q v)) : Ent L fun H => aTold K C [.ref r] H Q E := fun H h => ⟨r, s, R, rfl, t.to h, q⟩
theorem e_free (t : Take (RenA K C r s) L R) (q : ∀ p, Ent (pt p (.lst (s.fr.map V.int)) :: RenA K C r s :: R) (Q (.ref p))) : Ent L fun H => aFree K C [.ref r] H Q E := fun H h => ⟨r, s, R, rfl, t.to h, q⟩
theorem e_put (t : Take (RenA K C r s) L R) (hc : Cell s c) (hx : W16 x) (h1 : s.ws[c.toNat]? = some none) (h2 : c ∉ s.fr) (q : Ent (RenA K C r (putR s c x) :: R) (Q .non)) : Ent L fun H => aPut K C [.ref r, .int c, .int x] H Q E := fun H h => ⟨r, s, c, x, R, rfl, t.to h, hc, hx, h1, h2, q⟩
end
theorem ren_at {K : PySem.W.Frag} {L R : List HA} {C r : Addr} {s : Ren} (t : Take (RenA K C r s) L R) : ∀ H, Holds L H → ∃ dx fs, H r = some (.ins C dx fs) := fun H h => by
  obtain ⟨S, S1, S2, ⟨dx, n, o, f, p, w, S3, S4, h1, _⟩, _⟩ := t.to h
  exact ⟨dx, _, h1.1⟩
theorem ren_ty {K : PySem.W.Frag} {L R : List HA} {C r : Addr} {s : Ren} (i : InsTy K C) (c : Cls K C) (t : Take (RenA K C r s) L R) : ∀ H, Holds L H → TyX K H (.ref r) (.ref C) := fun H h => by
  obtain ⟨dx, fs, e⟩ := ren_at t H h
  exact i.ty c e
theorem hasI_ren {K : PySem.W.Frag} {L R : List HA} {C r : Addr} {s : Ren} {m : Str} (t : Take (RenA K C r s) L R) (hl : ∀ n o f p w, (fR n o f p w).lookup m = none) : HasI C L r m := fun H h => by
  obtain ⟨S, S1, S2, ⟨dx, n, o, f, p, w, S3, S4, h1, _⟩, _⟩ := t.to h
  exact ⟨dx, _, h1.1, hl n o f p w⟩
open PySem L2 Toy in
local macro_rules | `(tactic| walk_at "hi") => `(tactic| (refine' hasI_ren ?h ?g; (case h => walk_at "fr"); (case g => exact fun _ _ _ _ _ => rfl)))
abbrev WR := Int × Option Int
abbrev wrV (t : WR) : List V := [.int t.1, wV t.2]
theorem wV_dp {K : PySem.W.Frag} {H : Hp} (o : Option Int) : Dp K H (wV o) (optD .int o) := by
  cases o with
  | none => exact .non
  | some n => exact .int n
abbrev kW (K : PySem.W.Frag) : El K WR := kF (K := K) wrV (fun t => [.int t.1, optD .int t.2]) fun t => .cons (.int _) (.cons (wV_dp _) .nil)
def wrD (t : WR) : PyData := .tuple [.int t.1, optD .int t.2]
theorem wrOk : DtOk wrD 1 := ⟨fun x => by
  have := (DtOk.int.opt x.2 x.2).1
  simp only [wrD, PyData.canLay0, PyData.canLayAll0, this, Bool.and_self], fun x => by
  have := (DtOk.int.opt x.2 x.2).2.1
  simp only [wrD, PyData.depth, PyData.depthAll]
  omega, fun x y => by
  have h1 := DtOk.int.eqv x.1 y.1
  have h2 := (DtOk.int.opt x.2 y.2).2.2
  simp only [wrD, PyData.eqv, PyData.eqvAll, h2]
  have h1' : (x.1 == y.1) = decide (x.1 = y.1) := by simp [BEq.beq]
  obtain ⟨a, b⟩ := x
  obtain ⟨c, d⟩ := y
  simp only at h1 h1' ⊢
  by_cases e : a = c <;> by_cases e2 : b = d <;> simp [e, e2], fun x => by simp [wrD, PyData.eqv]⟩
def writesR (s : Ren) : List WR := s.op.map fun x => (x.1, s.ws.getD x.2.1.toNat none)
structure InvR (m : Nat) (s : Ren) (vals : List Int) : Prop where
  wf : WF m s
  ch : Chain s.od s.op s.nw
  nd : (s.od ++ (news s.op ++ s.fr)).Nodup
  rp : ∀ x ∈ s.op, 0 ≤ x.1 ∧ x.1 < 8 ∧ Rng m x.2.1 ∧ Rng m x.2.2
  vl : vals.length = 8
  vs : ∀ w : Nat, w < 8 → ∃ c v, s.od[w]? = some c ∧ vals[w]? = some v ∧ s.ws[c.toNat]? = some (some v)
section
variable {m : Nat} {s : Ren} {vals : List Int} {k c o w : Int} {rest : List Int} {op : List L3}
theorem InvR.dj (I : InvR m s vals) : (∀ a ∈ s.od, ∀ b ∈ news s.op, a ≠ b) ∧ (∀ a ∈ s.od, ∀ b ∈ s.fr, a ≠ b) ∧ (∀ a ∈ news s.op, ∀ b ∈ s.fr, a ≠ b) ∧ s.od.Nodup ∧ (news s.op).Nodup := by
  have d1 := List.nodup_append.mp I.nd
  have d2 := List.nodup_append.mp d1.2.1
  exact ⟨fun a ha b hb => d1.2.2 a ha b (List.mem_append.mpr (.inl hb)), fun a ha b hb => d1.2.2 a ha b (List.mem_append.mpr (.inr hb)), fun a ha b hb => d2.2.2 a ha b hb, d1.1, d2.1⟩
theorem InvR.lent (I : InvR m s vals) (k0 : 0 ≤ k) (k1 : k < 8) (h : s.fr = c :: rest) (ho : s.nw[k.toNat]? = some o) : InvR m (lentR s k c o rest) vals := by
  have rc : Rng m c := I.wf.rf c (by rw [h]; exact List.mem_cons_self ..)
  refine ⟨I.wf.lent h ho, I.ch.snoc ho, ?_, fun x hx => ?_, I.vl, I.vs⟩
  · have nd := I.nd
    rw [h] at nd
    show (s.od ++ (news (s.op ++ [(k, c, o)]) ++ rest)).Nodup
    simpa [news] using nd
  · rcases List.mem_append.mp hx with hx | hx
    · exact I.rp x hx
    · obtain rfl : x = (k, c, o) := by simpa using hx
      exact ⟨k0, k1, rc, I.wf.rn o (mem_of ho)⟩
theorem InvR.wr_lent (I : InvR m s vals) (h : s.fr = c :: rest) : writesR (lentR s k c o rest) = writesR s ++ [(k, none)] := by
  have e := I.wf.fn c (by rw [h]; exact List.mem_cons_self ..)
  simp [writesR, lentR, e]
theorem news_mem {op : List L3} {x : L3} (h : x ∈ op) : x.2.1 ∈ news op := List.mem_map.mpr ⟨x, h, rfl⟩
theorem InvR.put (I : InvR m s vals) {x : L3} (hx : x ∈ s.op) : InvR m (putR s x.2.1 w) vals := by
  obtain ⟨j1, j2, j3, _, _⟩ := I.dj
  have rc := (I.rp x hx).2.2.1
  refine ⟨I.wf.put rc (fun z => j3 _ (news_mem hx) _ z rfl), I.ch, I.nd, I.rp, I.vl, fun v hv => ?_⟩
  obtain ⟨c, u, h1, h2, h3⟩ := I.vs v hv
  refine ⟨c, u, h1, h2, ?_⟩
  have hc : c ∈ s.od := List.mem_of_getElem? h1
  show (s.ws.set _ _)[_]? = _
  rw [List.getElem?_set_ne (nn rc (I.wf.ro c hc) fun z => j1 c hc _ (news_mem hx) z.symm)]
  exact h3
theorem InvR.wr_put (I : InvR m s vals) {i : Nat} {x : L3} (hx : s.op[i]? = some x) : writesR (putR s x.2.1 w) = (writesR s).set i (x.1, some w) := by
  obtain ⟨_, _, _, _, jn⟩ := I.dj
  have lw := I.wf.lw
  apply List.ext_getElem?
  intro j
  rw [List.getElem?_set]
  unfold writesR
  rw [List.getElem?_map, List.getElem?_map, List.length_map]
  show (s.op[j]?.map fun y : L3 => (y.1, (s.ws.set x.2.1.toNat (some w)).getD y.2.1.toNat none)) = _
  by_cases e : i = j
  · subst e
    have hi := (List.getElem?_eq_some_iff.mp hx).1
    obtain ⟨q1, q2⟩ := (I.rp x (List.mem_of_getElem? hx)).2.2.1
    rw [if_pos rfl, if_pos hi, hx]
    simp only [Option.map_some, List.getD_eq_getElem?_getD]
    rw [List.getElem?_set_self (by omega)]
    rfl
  · rw [if_neg e]
    cases hj : s.op[j]? with
    | none => rfl
    | some y =>
      simp only [Option.map_some, List.getD_eq_getElem?_getD]
      have hn := nodup_ne jn (i := i) (j := j) (a := x.2.1) (b := y.2.1) (by unfold news; rw [List.getElem?_map, hx]; rfl) (by unfold news; rw [List.getElem?_map, hj]; rfl) e
      rw [List.getElem?_set_ne (nn (I.rp x (List.mem_of_getElem? hx)).2.2.1 (I.rp y (List.mem_of_getElem? hj)).2.2.1 hn)]
theorem Chain.unsnoc {n n' : List Int} {op : List L3} (h : Chain n (op ++ [(k, c, o)]) n') : ∃ n1, Chain n op n1 ∧ n1[k.toNat]? = some o ∧ n' = n1.set k.toNat c := by
  induction op generalizing n with
  | nil =>
    cases h with
    | cons e h => cases h with
      | nil => exact ⟨n, .nil _, e, rfl⟩
  | cons x op ih =>
    obtain ⟨k', c', o'⟩ := x
    cases h with
    | cons e h =>
      obtain ⟨n1, h1, h2, h3⟩ := ih h
      exact ⟨n1, .cons e h1, h2, h3⟩
theorem InvR.undone (I : InvR m s vals) (h : s.op = op ++ [(k, c, o)]) : InvR m (undoneR s k c o) vals ∧ writesR (undoneR s k c o) = (writesR s).dropLast := by
  obtain ⟨j1, j2, j3, jo, jn⟩ := I.dj
  have hm : (k, c, o) ∈ s.op := by rw [h]; simp
  obtain ⟨k0, k1, rc, ro⟩ := I.rp _ hm
  have rc : Rng m c := rc
  have ro : Rng m o := ro
  have hc : c ∈ news s.op := news_mem hm
  have ch := I.ch
  rw [h] at ch
  obtain ⟨n1, h1, h2, h3⟩ := ch.unsnoc
  have W := I.wf
  have fo := W.fo
  rw [h] at fo
  have en : s.nw.set k.toNat o = n1 := by rw [h3]; exact set_back h2
  have eo : s.op.dropLast = op := by rw [h]; exact List.dropLast_concat
  have nd := I.nd
  rw [h] at nd
  refine ⟨⟨⟨by simp [undoneR, W.ln], W.lo, by simp [undoneR, W.lw], fun x hx => ?_, W.ro, fun x hx => ?_, ?_, fun x hx => ?_, ?_⟩, ?_, ?_, fun x hx => ?_, I.vl, fun v hv => ?_⟩, ?_⟩
  · rcases mem_set hx with hx | rfl
    · exact W.rn x hx
    · exact ro
  · rcases List.mem_cons.mp hx with rfl | hx
    · exact rc
    · exact W.rf x hx
  · exact List.nodup_cons.mpr ⟨fun z => j3 c hc c z rfl, W.nd⟩
  · show (s.ws.set _ _)[_]? = _
    rcases List.mem_cons.mp hx with rfl | hx
    · rw [List.getElem?_set_self (by obtain ⟨q1, q2⟩ := rc; have := W.lw; omega)]
    · rw [List.getElem?_set_ne (nn rc (W.rf x hx) (j3 c hc x hx))]
      exact W.fn x hx
  · simp [undoneR, eo] at fo ⊢
    omega
  · show Chain s.od s.op.dropLast (s.nw.set k.toNat o)
    rw [eo, en]
    exact h1
  · show (s.od ++ (news s.op.dropLast ++ (c :: s.fr))).Nodup
    rw [eo]
    simpa [news] using nd
  · rw [show (undoneR s k c o).op = op from eo] at hx
    exact I.rp x (by rw [h]; exact List.mem_append.mpr (.inl hx))
  · obtain ⟨c', u, z1, z2, z3⟩ := I.vs v hv
    refine ⟨c', u, z1, z2, ?_⟩
    have hc' : c' ∈ s.od := List.mem_of_getElem? z1
    show (s.ws.set _ _)[_]? = _
    rw [List.getElem?_set_ne (nn rc (W.ro c' hc') fun z => j1 c' hc' c hc z.symm)]
    exact z3
  · unfold writesR
    show (s.op.dropLast.map fun y : L3 => (y.1, (s.ws.set c.toNat none).getD y.2.1.toNat none)) = _
    rw [← List.map_dropLast]
    rw [eo]
    apply List.map_congr_left
    intro y hy
    have hy' : y ∈ s.op := by rw [h]; exact List.mem_append.mpr (.inl hy)
    have hne : c ≠ y.2.1 := by
      rw [h] at jn
      unfold news at jn
      rw [List.map_append, List.nodup_append] at jn
      exact fun z => jn.2.2 y.2.1 (List.mem_map.mpr ⟨y, hy, rfl⟩) c (by simp) z.symm
    simp only [List.getD_eq_getElem?_getD]
    rw [List.getElem?_set_ne (nn rc (I.rp y hy').2.2.1 hne)]
end
section
variable {m : Nat} {s : Ren} {vals : List Int} {k c o w : Int} {rest : List Int} {op : List L3}
theorem InvR.kept (I : InvR m s vals) (h : s.op = (k, c, o) :: op) (hw : s.ws[c.toNat]? = some (some w)) : InvR m (keptR s k c o) (vals.set k.toNat w) ∧ writesR (keptR s k c o) = (writesR s).drop 1 := by
  obtain ⟨j1, j2, j3, jo, jn⟩ := I.dj
  have hm : (k, c, o) ∈ s.op := by rw [h]; simp
  obtain ⟨k0, k1, rc, ro⟩ := I.rp _ hm
  have rc : Rng m c := rc
  have ro : Rng m o := ro
  have hc : c ∈ news s.op := news_mem hm
  have ch := I.ch
  rw [h] at ch
  cases ch with
  | cons e0 ch =>
  have ho : o ∈ s.od := List.mem_of_getElem? e0
  have W := I.wf
  have fo := W.fo
  rw [h] at fo
  have pm := keep_perm (X := news op) (fr := s.fr) (c := c) e0
  have nd := I.nd
  rw [h] at nd
  have co : c ≠ o := fun z => j1 o ho c hc z.symm
  refine ⟨⟨⟨W.ln, by simp [keptR, W.lo], by simp [keptR, W.lw], W.rn, fun x hx => ?_, fun x hx => ?_, ?_, fun x hx => ?_, ?_⟩, by simpa [keptR, h] using ch, ?_, fun x hx => ?_, by simp [I.vl], fun v hv => ?_⟩, ?_⟩
  · rcases mem_set hx with hx | rfl
    · exact W.ro x hx
    · exact rc
  · rcases List.mem_append.mp hx with hx | hx
    · exact W.rf x hx
    · obtain rfl : x = o := by simpa using hx
      exact ro
  · show (s.fr ++ [o]).Nodup
    rw [List.nodup_append]
    exact ⟨W.nd, by simp, fun a ha b hb => by
      obtain rfl : b = o := by simpa using hb
      exact fun z => j2 b ho a ha z.symm⟩
  · show (s.ws.set _ _)[_]? = _
    rcases List.mem_append.mp hx with hx | hx
    · rw [List.getElem?_set_ne (nn ro (W.rf x hx) (j2 o ho x hx))]
      exact W.fn x hx
    · obtain rfl : x = o := by simpa using hx
      rw [List.getElem?_set_self (by obtain ⟨q1, q2⟩ := ro; have := W.lw; omega)]
  · simp [keptR, h] at fo ⊢
    omega
  · have e : (keptR s k c o).od ++ (news (keptR s k c o).op ++ (keptR s k c o).fr) = s.od.set k.toNat c ++ (news op ++ (s.fr ++ [o])) := by simp [keptR, h]
    rw [e, pm.nodup_iff]
    simpa [news] using nd
  · refine I.rp x ?_
    rw [h]
    exact List.mem_cons_of_mem _ (by simpa [keptR, h] using hx)
  · have hl : k.toNat < s.od.length := (List.getElem?_eq_some_iff.mp e0).1
    by_cases e : k.toNat = v
    · subst e
      refine ⟨c, w, ?_, ?_, ?_⟩
      · show (s.od.set _ _)[_]? = _
        rw [List.getElem?_set_self hl]
      · rw [List.getElem?_set_self (by rw [I.vl]; exact hv)]
      · show (s.ws.set _ _)[_]? = _
        rw [List.getElem?_set_ne (nn ro rc co.symm)]
        exact hw
    · obtain ⟨c', u, h1, h2, h3⟩ := I.vs v hv
      refine ⟨c', u, ?_, ?_, ?_⟩
      · show (s.od.set _ _)[_]? = _
        rw [List.getElem?_set_ne e]
        exact h1
      · rw [List.getElem?_set_ne e]
        exact h2
      · show (s.ws.set _ _)[_]? = _
        rw [List.getElem?_set_ne (nn ro (W.ro c' (List.mem_of_getElem? h1)) fun z => absurd z.symm (nodup_ne jo h1 e0 (Ne.symm e)))]
        exact h3
  · unfold writesR
    show ((s.op.drop 1).map fun y : L3 => (y.1, (s.ws.set o.toNat none).getD y.2.1.toNat none)) = (s.op.map _).drop 1
    rw [← List.map_drop]
    apply List.map_congr_left
    intro y hy
    have hy' : y ∈ s.op := List.mem_of_mem_drop hy
    simp only [List.getD_eq_getElem?_getD]
    rw [List.getElem?_set_ne (nn ro (I.rp y hy').2.2.1 (j1 o ho _ (news_mem hy')))]
theorem InvR.write (I : InvR m s vals) (h : s.op = []) (k0 : 0 ≤ k) (k1 : k < 8) (ho : s.od[k.toNat]? = some c) : InvR m (putR s c w) (vals.set k.toNat w) ∧ writesR (putR s c w) = [] := by
  obtain ⟨j1, j2, j3, jo, jn⟩ := I.dj
  have hc : c ∈ s.od := List.mem_of_getElem? ho
  have rc := I.wf.ro c hc
  refine ⟨⟨I.wf.put rc (fun z => j2 c hc c z rfl), I.ch, I.nd, I.rp, by simp [I.vl], fun v hv => ?_⟩, by simp [writesR, putR, h]⟩
  by_cases e : k.toNat = v
  · subst e
    refine ⟨c, w, ho, by rw [List.getElem?_set_self (by rw [I.vl]; exact hv)], ?_⟩
    show (s.ws.set _ _)[_]? = _
    rw [List.getElem?_set_self (by obtain ⟨q1, q2⟩ := rc; have := I.wf.lw; omega)]
  · obtain ⟨c', u, h1, h2, h3⟩ := I.vs v hv
    refine ⟨c', u, h1, by rw [List.getElem?_set_ne e]; exact h2, ?_⟩
    show (s.ws.set _ _)[_]? = _
    rw [List.getElem?_set_ne (nn rc (I.wf.ro c' (List.mem_of_getElem? h1)) fun z => absurd z (nodup_ne jo ho h1 e))]
    exact h3
end
def newW (f : Option Int) (ws : List WR) (which : Int) : Option Int := ws.foldl (fun g y => if y.1 = which then y.2 else g) f
theorem chain_new (g : Int → Option Int) {n n' : List Int} {op : List L3} (h : Chain n op n') (hk : ∀ x ∈ op, 0 ≤ x.1) : ∀ (k : Nat) (a b : Int), n[k]? = some a → n'[k]? = some b → g b = newW (g a) (op.map fun x => (x.1, g x.2.1)) k := by
  induction h with
  | nil n =>
    intro k a b h1 h2
    rw [h1] at h2
    cases h2
    rfl
  | @cons n n' k' c o op e h ih =>
    intro k a b h1 h2
    have k0 : 0 ≤ k' := hk _ (List.mem_cons_self ..)
    show g b = newW (if k' = (k : Int) then g c else g a) (op.map fun x => (x.1, g x.2.1)) k
    by_cases z : k' = (k : Int)
    · rw [if_pos z]
      refine ih (fun x hx => hk x (List.mem_cons_of_mem _ hx)) k c b ?_ h2
      have : k'.toNat = k := by omega
      rw [this, List.getElem?_set_self (List.getElem?_eq_some_iff.mp h1).1]
    · rw [if_neg z]
      refine ih (fun x hx => hk x (List.mem_cons_of_mem _ hx)) k a b ?_ h2
      rw [List.getElem?_set_ne (by omega)]
      exact h1
theorem InvR.newest {m : Nat} {s : Ren} {vals : List Int} (I : InvR m s vals) (k : Nat) (hk : k < 8) : ∃ c v, s.nw[k]? = some c ∧ vals[k]? = some v ∧ s.ws[c.toNat]? = some (newW (some v) (writesR s) k) ∧ Cell s c := by
  obtain ⟨a, v, h1, h2, h3⟩ := I.vs k hk
  have hl : k < s.nw.length := by rw [I.wf.ln]; exact hk
  have hb : s.nw[k]? = some s.nw[k] := List.getElem?_eq_getElem hl
  obtain ⟨q1, q2⟩ := I.wf.rn s.nw[k] (List.getElem_mem hl)
  have hw : s.nw[k].toNat < s.ws.length := by have := I.wf.lw; omega
  refine ⟨s.nw[k], v, hb, h2, ?_, ⟨q1, by have := I.wf.lw; omega⟩⟩
  have e := chain_new (fun c => s.ws.getD c.toNat none) I.ch (fun x hx => (I.rp x hx).1) k a _ h1 hb
  simp only [List.getD_eq_getElem?_getD, h3, Option.getD_some] at e
  rw [List.getElem?_eq_getElem hw] at e ⊢
  simp only [Option.getD_some] at e
  rw [e]
  congr 2
theorem kept_allR {m : Nat} {s : Ren} {vals : List Int} (I : InvR m s vals) : All2 (fun c w => s.ws[Int.toNat c]? = some (some w)) s.od vals := by
  have key : ∀ (od vals : List Int), od.length = vals.length → (∀ w : Nat, w < od.length → ∃ c v, od[w]? = some c ∧ vals[w]? = some v ∧ s.ws[c.toNat]? = some (some v)) → All2 (fun c w => s.ws[Int.toNat c]? = some (some w)) od vals := by
    intro od
    induction od with
    | nil => intro vals h _; cases vals with
      | nil => exact .nil
      | cons => cases h
    | cons c od ih =>
      intro vals h k
      cases vals with
      | nil => cases h
      | cons v vals =>
        obtain ⟨c', v', h1, h2, h3⟩ := k 0 (by simp)
        simp at h1 h2
        subst h1 h2
        refine .cons h3 (ih vals (by simpa using h) fun w hw => ?_)
        obtain ⟨c'', v'', h1, h2, h3⟩ := k (w + 1) (by simp; omega)
        exact ⟨c'', v'', by simpa using h1, by simpa using h2, h3⟩
  exact key _ _ (by rw [I.wf.lo, I.vl]) fun w hw => I.vs w (by rw [I.wf.lo] at hw; exact hw)
def waitAt (ws : List WR) : List Int := (List.range ws.length).filterMap fun i : Nat => ws[i]?.bind fun x : WR => if x.2 = none then some (i : Int) else none
theorem waitAt_len (ws : List WR) : (waitAt ws).length ≤ ws.length := by
  have := List.length_filterMap_le (fun i : Nat => ws[i]?.bind fun x : WR => if x.2 = none then some (i : Int) else none) (List.range ws.length)
  rw [List.length_range] at this
  exact this
theorem waitAt_ok (ws : List WR) : ∀ x ∈ waitAt ws, 0 ≤ x ∧ ∃ k, ws[x.toNat]? = some (k, none) := by
  intro x hx
  obtain ⟨i, hi, e⟩ := List.mem_filterMap.mp hx
  cases h : ws[i]? with
  | none => rw [h] at e; cases e
  | some y =>
    obtain ⟨k, o⟩ := y
    rw [h] at e
    cases o with
    | none =>
      have e : some (i : Int) = some x := e
      cases e
      exact ⟨by omega, k, by simpa using h⟩
    | some w => simp at e
def aPlace (K : PySem.W.Frag) (C : Addr) : Sp := fun vs H Q _ => ∃ (r : Addr) (s : Ren) (k c : Int) (F : List HA), vs = [.ref r, .int k] ∧ Holds (RenA K C r s :: F) H ∧ (0 ≤ k ∧ k < 8) ∧ s.nw[k.toNat]? = some c ∧ Ent (RenA K C r s :: F) (Q (.int c))
def aValue (K : PySem.W.Frag) (C : Addr) : Sp := fun vs H Q _ => ∃ (r : Addr) (s : Ren) (c v : Int) (F : List HA), vs = [.ref r, .int c] ∧ Holds (RenA K C r s :: F) H ∧ Cell s c ∧ s.ws[c.toNat]? = some (some v) ∧ Ent (RenA K C r s :: F) (Q (.int v))
def aWritten (K : PySem.W.Frag) (C : Addr) : Sp := fun vs H Q _ => ∃ (r : Addr) (s : Ren) (k c x : Int) (F : List HA), vs = [.ref r, .int k, .int x] ∧ Holds (RenA K C r s :: F) H ∧ (0 ≤ k ∧ k < 8) ∧ s.od[k.toNat]? = some c ∧ Cell s c ∧ W16 x ∧ s.op = [] ∧ Ent (RenA K C r (putR s c x) :: F) (Q .non)
def aWritesR (K : PySem.W.Frag) (C : Addr) : Sp := fun vs H Q _ => ∃ (r : Addr) (s : Ren) (F : List HA), vs = [.ref r] ∧ Holds (RenA K C r s :: F) H ∧ (∀ x ∈ s.op, Cell s x.2.1) ∧ s.op.length ≤ 1000 ∧ ∀ p, Ent (ls (kW K) p (writesR s) :: RenA K C r s :: F) (Q (.ref p))
def aLendings (K : PySem.W.Frag) (C : Addr) : Sp := fun vs H Q _ => ∃ (r : Addr) (s : Ren) (F : List HA), vs = [.ref r] ∧ Holds (RenA K C r s :: F) H ∧ ∀ p, Ent (ls (kL3 K) p s.op :: RenA K C r s :: F) (Q (.ref p))
def aCopy (K : PySem.W.Frag) (C : Addr) : Sp := fun vs H Q _ => ∃ (r : Addr) (s : Ren) (F : List HA), vs = [.ref r] ∧ Holds (RenA K C r s :: F) H ∧ 9 ≤ s.ws.length ∧ s.ws.length ≤ 48 ∧ ∀ r2, Ent (RenA K C r2 s :: RenA K C r s :: F) (Q (.ref r2))
inductive Deed
  | lend (k : Int) | put (i w : Int) | undo | keep | write (k w : Int) | look (k : Int)
def deedV : Deed → List V
  | .lend k => [.str "lend", .int k]
  | .put i w => [.str "put", .int i, .int w]
  | .undo => [.str "undo"]
  | .keep => [.str "keep"]
  | .write k w => [.str "write", .int k, .int w]
  | .look k => [.str "look", .int k]
def Can (m : Int) (ws : List WR) : Deed → Prop
  | .lend k => 0 ≤ k ∧ k < 8 ∧ (ws.length : Int) < m - 8
  | .put i w => 0 ≤ i ∧ (∃ k, ws[i.toNat]? = some (k, none)) ∧ W16 w
  | .undo => ws ≠ []
  | .keep => ∃ k w, ws[0]? = some (k, some w)
  | .write k w => ws = [] ∧ 0 ≤ k ∧ k < 8 ∧ W16 w
  | .look k => 0 ≤ k ∧ k < 8
def aDeed (K : PySem.W.Frag) : Sp := fun vs H Q _ => ∃ (p l : Addr) (m : Int) (ws : List WR) (F : List HA), vs = [.ref p, .int m, .ref l] ∧ Holds (PotA p :: ls (kW K) l ws :: F) H ∧ ws.length ≤ 100 ∧ ∀ D d, Can m ws d → Ent (pt D (.lst (deedV d)) :: PotA p :: ls (kW K) l ws :: F) (Q (.ref D))
def aNewest (K : PySem.W.Frag) : Sp := fun vs H Q _ => ∃ (a l : Addr) (k v : Int) (vals : List Int) (ws : List WR) (F : List HA), vs = [.ref a, .ref l, .int k] ∧ Holds (pt a (.lst (vals.map V.int)) :: ls (kW K) l ws :: F) H ∧ 0 ≤ k ∧ vals[k.toNat]? = some v ∧ Ent (pt a (.lst (vals.map V.int)) :: ls (kW K) l ws :: F) (Q (wV (newW (some v) ws k)))
def aShows (K : PySem.W.Frag) (C : Addr) : Sp := fun vs H Q _ => ∃ (r a l : Addr) (m : Nat) (s : Ren) (vals : List Int) (F : List HA), vs = [.ref r, .int m, .ref a, .ref l] ∧ Holds (RenA K C r s :: pt a (.lst (vals.map V.int)) :: ls (kW K) l (writesR s) :: F) H ∧ InvR m s vals ∧ m ≤ 48 ∧ Ent (RenA K C r s :: pt a (.lst (vals.map V.int)) :: ls (kW K) l (writesR s) :: F) (Q (.bl true))
def aDone (K : PySem.W.Frag) (C : Addr) : Sp := fun vs H Q _ => ∃ (r D a l : Addr) (m : Nat) (s : Ren) (vals : List Int) (d : Deed) (F : List HA), vs = [.ref r, .ref D, .ref a, .ref l] ∧ Holds (RenA K C r s :: pt D (.lst (deedV d)) :: pt a (.lst (vals.map V.int)) :: ls (kW K) l (writesR s) :: F) H ∧ InvR m s vals ∧ m ≤ 48 ∧ Can m (writesR s) d ∧
  ∀ t a' l' s' vals', InvR m s' vals' → Ent (tu t [.ref a', .ref l'] :: RenA K C r s' :: pt a' (.lst (vals'.map V.int)) :: ls (kW K) l' (writesR s') :: F) (Q (.ref t))
def aLaw (K : PySem.W.Frag) : Sp := fun vs H Q _ => ∃ (p : Addr) (F : List HA), vs = [.ref p] ∧ Holds (PotA p :: F) H ∧ ∀ H, Q (.bl true) H
theorem writes_len (s : Ren) : (writesR s).length = s.op.length := by simp [writesR]
theorem InvR.start {m : Nat} (hc : 9 ≤ m) (h2 : m ≤ 48) : InvR m (ren0 m) (List.replicate 8 0) := by
  refine ⟨⟨by simp [ren0], by simp [ren0], by simp [ren0]; omega, ?_, ?_, ?_, ?_, ?_, by simp [ren0]; omega⟩, .nil _, ?_, fun x hx => (by cases hx), by simp, fun w hw => ?_⟩
  · intro c hc
    obtain ⟨i, hi, rfl⟩ := List.mem_map.mp hc
    rw [List.mem_range] at hi
    exact ⟨by omega, by omega⟩
  · intro c hc
    obtain ⟨i, hi, rfl⟩ := List.mem_map.mp hc
    rw [List.mem_range] at hi
    exact ⟨by omega, by omega⟩
  · intro c hc
    obtain ⟨i, hi, rfl⟩ := List.mem_map.mp hc
    rw [List.mem_range] at hi
    exact ⟨by omega, by omega⟩
  · show (List.map _ (List.range _)).Nodup
    exact List.pairwise_map.mpr (List.nodup_range.imp fun h e => h (by have e : (8 : Int) + _ = 8 + _ := e; omega))
  · intro c hc
    obtain ⟨i, hi, rfl⟩ := List.mem_map.mp hc
    rw [List.mem_range] at hi
    show (List.replicate 8 (some 0) ++ List.replicate ((m : Int) - 8).toNat none)[_]? = _
    rw [List.getElem?_append_right (by rw [List.length_replicate]; omega), List.getElem?_replicate, if_pos (by rw [List.length_replicate]; omega)]
  · show (List.map _ (List.range 8) ++ ([] ++ List.map _ (List.range _))).Nodup
    rw [List.nil_append, List.nodup_append]
    refine ⟨List.pairwise_map.mpr (List.nodup_range.imp fun h e => h (by first | exact Int.ofNat.inj e | (have e := Int.add_left_cancel e; omega))), List.pairwise_map.mpr (List.nodup_range.imp fun h e => h (by have e : (8 : Int) + _ = 8 + _ := e; omega)), fun a ha b hb => ?_⟩
    obtain ⟨i, hi, rfl⟩ := List.mem_map.mp ha
    obtain ⟨j, hj, rfl⟩ := List.mem_map.mp hb
    rw [List.mem_range] at hi
    intro z
    have z : (0 : Int) + (i : Int) = 8 + (j : Int) := by simpa using z
    omega
  · refine ⟨w, 0, ?_, ?_, ?_⟩
    · simp [ren0, hw]
    · exact (by decide : ∀ w < 8, (List.replicate 8 (0 : Int))[w]? = some 0) w hw
    · show (List.replicate 8 (some 0) ++ List.replicate ((m : Int) - 8).toNat none)[_]? = _
      rw [List.getElem?_append_left (by rw [List.length_replicate]; omega), List.getElem?_replicate, if_pos (by omega)]
abbrev HeldT := Addr × Addr × Addr × Addr × Ren × List Int
abbrev TurnT := (Ren × List Int × Addr × Addr) × (Option V × Option V) × Option HeldT
def heldL (K : PySem.W.Frag) (C : Addr) (h : Option HeldT) (F : List HA) : List HA := match h with
  | none => F
  | some h => RenA K C h.1 h.2.2.2.2.1 :: tu h.2.1 [.ref h.2.2.1, .ref h.2.2.2.1] :: pt h.2.2.1 (.lst (h.2.2.2.2.2.map V.int)) :: ls (kW K) h.2.2.2.1 (writesR h.2.2.2.2.1) :: F
def heldOk (m i : Nat) : Option HeldT → Prop
  | none => i ≤ 20
  | some h => InvR m h.2.2.2.2.1 h.2.2.2.2.2
def heldV : Option HeldT → V
  | none => .non
  | some h => .ref h.1
def shownV : Option HeldT → V
  | none => .non
  | some h => .ref h.2.1

section
variable {P : Program} {w : World} {K : PySem.W.Frag} {mg : Str → Option Value} {base : Heap} {a : Ad}
theorem ok_is_integer (T : Txt K mg a) : FnOk P w K mg base (L2.CX P w) 1 a.f_is_integer a.d_is_integer ["value"] (spInt K) := by
  refine T.F_is_integer.okX sc_is_integer (fun vs H Q E h => ?_) (fun cdv A outer s H vs Q E hr h => ?_)
  · obtain ⟨_, _, rfl, _⟩ := h
    rfl
  · obtain ⟨v, b, rfl, ⟨t, b1, b2, ty, e1, e2, rfl⟩, k⟩ := h
    refine ⟨_, (pss_one (ps_ret (pe_and (pe_callB call_isi (by rfl) T.z_isinstance (by decide +kernel) (pa_cons (pv 0) (pa_cons (pe_bltn (v := .ty "int") (u := .type "int") (by rfl) T.z_int (by decide +kernel) rfl) pa_nil))) (pe_one (pe_not (pe_callB call_isi (by rfl) T.z_isinstance (by decide +kernel) (pa_cons (pv 0) (pa_cons (pe_bltn (v := .ty "bool") (u := .type "bool") (by rfl) T.z_bool (by decide +kernel) rfl) pa_nil)))))))), ?_⟩
    refine ⟨_, rfl, v, _, t, _, b1, rfl, .ty "int", ty, e1, b1, rfl, ?_⟩
    cases b1 with
    | false => exact k
    | true => exact ⟨_, rfl, v, _, t, _, b2, rfl, .ty "bool", ty, e2 rfl, b2, rfl, k⟩
theorem ok_is_count (T : Txt K mg a) : FnOk P w K mg base (L2.CX P w) 2 a.f_is_count a.d_is_count ["value"] (spCount K) := by
  refine T.F_is_count.okX sc_is_count (fun vs H Q E h => ?_) (fun cdv A outer s H vs Q E hr h => ?_)
  · obtain ⟨_, rfl, _⟩ := h
    rfl
  · obtain ⟨v, rfl, hk, k⟩ := h
    refine ⟨_, (pss_one (ps_ret (pe_and (pe_call (ok_is_integer (K := K) T) (hr.mono (by decide)) (by rfl) T.m_is_integer T.F_is_integer.kp T.b_is_integer .nil passL (pa_cons (pv 0) pa_nil)) (pe_one (pe_cmpR op_ge (pv 0) pe_int (nomark _)))))), ?_⟩
    refine ⟨_, rfl, v, _, rfl, hk, _, rfl, ?_⟩
    cases v with
    | int n => exact ⟨_, rfl, _, _, rfl, rfl, k⟩
    | _ => exact k
theorem ok_is_cell (T : Txt K mg a) : FnOk P w K mg base (L2.CX P w) 3 a.f_is_cell a.d_is_cell ["renamer", "value"] (aIsCell K a.c_Renamer) := by
  refine T.F_is_cell.okX sc_is_cell (fun vs H Q E h => ?_) (fun cdv A outer s H vs Q E hr h => ?_)
  · obtain ⟨_, _, _, _, rfl, _⟩ := h
    rfl
  · obtain ⟨r, s, c, F, rfl, hH, ⟨h0, h1⟩, q⟩ := h
    refine ⟨_, (pss_one (ps_ret (pe_and (pe_call (ok_is_count (K := K) T) (hr.mono (by decide)) (by rfl) T.m_is_count T.F_is_count.kp T.b_is_count .nil passL (pa_cons (pv 1) pa_nil)) (pe_one (pe_cmpR op_lt (pv 1) (pe_callB (call_lenK (K := K)) (by rfl) T.z_len (by decide +kernel) (pa_cons (pe_fld (pv 0) rfl) pa_nil)) (nomark _)))))), ?_⟩
    try simp only [cxOf_K]
    refine w_in (σ := [some _, some _]) rfl ?_
    refine Holds.go hH ?_
    repeat (walk_at "st")
    refine e_count ?_
    repeat (walk_at "st")
    refine Ent.ren fun dx n o f p w => ?_
    repeat (walk_at "st")
    rw [show decide (c < ((List.map wV s.ws).length : Int)) = true from decide_eq_true (by rw [List.length_map]; exact h1)]
    exact Ent.sub (Sub.ren dx n o f p w (by walk_at "sub")) q
theorem ok_want_cell (T : Txt K mg a) : FnOk P w K mg base (L2.CX P w) 4 a.f_want_cell a.d_want_cell ["renamer", "value"] (aWantCell K a.c_Renamer) := by
  refine T.F_want_cell.okX sc_want_cell (fun vs H Q E h => ?_) (fun cdv A outer s H vs Q E hr h => ?_)
  · obtain ⟨_, _, _, _, rfl, _⟩ := h
    rfl
  · obtain ⟨r, s, c, F, rfl, hH, hc, q⟩ := h
    refine ⟨_, (pss_one (ps_if (pt_not (pt_val (pe_call (ok_is_cell (K := K) T) (hr.mono (by decide)) (by rfl) T.m_is_cell T.F_is_cell.kp T.b_is_cell .nil passL (pa_cons (pv 0) (pa_cons (pv 1) pa_nil))))) (pss_one ps_never) pss_nil)), ?_⟩
    try simp only [cxOf_K]
    refine w_in (σ := [some _, some _]) rfl ?_
    refine Holds.go hH ?_
    repeat (walk_at "st")
    refine e_isCell (by walk_at "fr") hc ?_
    repeat (walk_at "st")
    exact q
theorem ok_Renamer_value (T : Txt K mg a) : FnOk P w K mg base (L2.CX P w) 5 a.f_Renamer_value a.d_Renamer_value ["self", "at"] (aValue K a.c_Renamer) := by
  refine T.F_Renamer_value.okX sc_Renamer_value (fun vs H Q E h => ?_) (fun cdv A outer s H vs Q E hr h => ?_)
  · obtain ⟨_, _, _, _, _, rfl, _⟩ := h
    rfl
  · obtain ⟨r, s, c, v, F, rfl, hH, hc, hv, q⟩ := h
    obtain ⟨hc0, hc1⟩ := id hc
    have hat := atI_ofM (f := wV) hc0 hv
    refine ⟨_, (pss_cons (ps_expr (pe_call (ok_want_cell (K := K) T) (hr.mono (by decide)) (by rfl) T.m_want_cell T.F_want_cell.kp T.b_want_cell .nil passL (pa_cons (pv 0) (pa_cons (pv 1) pa_nil))))
      (pss_cons (ps_if (pt_cmpR op_isN (pe_ix ix_list (pe_fld (pv 0) rfl) (pv 1) (fun _ _ => rfl)) pe_non (nomark _)) (pss_one ps_never) pss_nil)
      (pss_one (ps_ret (pe_ix ix_list (pe_fld (pv 0) rfl) (pv 1) (fun _ _ => rfl)))))), ?_⟩
    try simp only [cxOf_K]
    refine w_in (σ := [some _, some _]) rfl ?_
    refine Holds.go hH ?_
    repeat (walk_at "st")
    refine e_wantCell (by walk_at "fr") hc ?_
    repeat (walk_at "st")
    refine Ent.ren fun dx n o f p w => ?_
    repeat (walk_at "st")
    exact Ent.sub (Sub.ren dx n o f p w (by walk_at "sub")) q
theorem ok_CoreError___init__ (T : Txt K mg a) : FnOk P w K mg base (L2.CX P w) 6 a.f_CoreError___init__ a.d_CoreError___init__ ["self", "value"] (spCore K) := by
  refine T.F_CoreError___init__.okX sc_CoreError___init__ (fun vs H Q E h => ?_) (fun cdv A outer s H vs Q E hr h => ?_)
  · obtain ⟨_, _, _, rfl, _⟩ := h
    rfl
  · obtain ⟨x, C, v, rfl, hC, hn, hx, k⟩ := h
    refine ⟨_, (pss_one (ps_ost (pv 0) (pv 1))), ?_⟩
    exact ⟨_, rfl, _, rfl, x, C, rfl, hC, hn, .inl ⟨hx, fun dx n ne => k dx n ne⟩⟩
theorem ok_want_many (T : Txt K mg a) : FnOk P w K mg base (L2.CX P w) 8 a.f_want_many a.d_want_many ["value", "least", "most"] (spWantMany K a.c_InvalidMany) := by
  refine T.F_want_many.okX sc_want_many (fun vs H Q E h => ?_) (fun cdv A outer s H vs Q E hr h => ?_)
  · obtain ⟨_, _, _, rfl, _⟩ := h
    rfl
  · obtain ⟨v, lo, hi, rfl, hk, k1, k2⟩ := h
    refine ⟨_, (pss_one (ps_if (PW.pt (pw_or (pt_not (pt_val (pe_call (ok_is_count (K := K) T) (hr.mono (by decide)) (by rfl) T.m_is_count T.F_is_count.kp T.b_is_count .nil passL (pa_cons (pv 0) pa_nil)))) (pw_or1 (pt_not (pt_chain op_le op_le (pv 1) (pv 0) (pv 2)))))) (pss_one (ps_raise rfl (takes_of rfl rfl rfl rfl) (pmk_oex T.x_InvalidMany T.xi_InvalidMany T.xt_CoreError___init__ (ok_CoreError___init__ (K := K) T) (hr.mono (by decide)) T.b_CoreError___init__ .nil passL (by rfl) T.g_InvalidMany (pa_cons (pv 0) pa_nil)))) pss_nil)), ?_⟩
    refine w_in (σ := [some _, some _, some _]) rfl ?_
    repeat (walk_at "wst")
    refine w_or ?_
    repeat (walk_at "wst")
    refine ⟨v, rfl, hk, ?_⟩
    have bad : isMany lo hi v = false → _ := fun e => w_core T.x_InvalidMany T.xn_InvalidMany_value (k2 e)
    cases v with
    | int n =>
      show ∃ c, V.bl (decide (0 ≤ n)) = .bl c ∧ _
      repeat (walk_at "wst")
      refine ifS' (fun h0 => ?_) (fun h0 => ?_)
      · repeat (walk_at "wst")
        refine ifS (fun h1 => ?_) (fun h1 => ?_)
        · repeat (walk_at "wst")
          refine ifS' (fun h2 => ?_) (fun h2 => ?_)
          · repeat (walk_at "wst")
            exact k1 (isMany_of h0 h1 h2)
          · repeat (walk_at "wst")
            exact bad (by simp [isMany, h2])
        · repeat (walk_at "wst")
          exact bad (by simp [isMany, h1])
      · repeat (walk_at "wst")
        exact bad (by simp [isMany, h0])
    | _ =>
      refine ⟨_, rfl, ?_⟩
      show if (!false) = true then _ else _
      repeat (walk_at "wst")
      exact bad rfl
theorem ok_is_word (T : Txt K mg a) : FnOk P w K mg base (L2.CX P w) 3 a.f_is_word a.d_is_word ["value"] (spIsWord K) := by
  refine T.F_is_word.okX sc_is_word (fun vs H Q E h => ?_) (fun cdv A outer s H vs Q E hr h => ?_)
  · obtain ⟨_, rfl, _⟩ := h
    rfl
  · obtain ⟨v, rfl, hk, k⟩ := h
    refine ⟨_, (pss_one (ps_ret (pe_and (pe_call (ok_is_count (K := K) T) (hr.mono (by decide)) (by rfl) T.m_is_count T.F_is_count.kp T.b_is_count .nil passL (pa_cons (pv 0) pa_nil)) (pe_one (pe_cmpR op_lt (pv 0) (pe_glob (v := .int 65536) (by rfl) T.v_MOST_WORD ⟨_, rfl⟩) (nomark _)))))), ?_⟩
    refine w_in (σ := [some _]) rfl ?_
    repeat (walk_at "wst")
    refine ⟨v, rfl, hk, ?_⟩
    cases v with
    | int n =>
      show ∃ c, V.bl (decide (0 ≤ n)) = .bl c ∧ _
      refine ⟨_, rfl, ifS (fun h => ?_) (fun h => ?_)⟩
      · repeat (walk_at "wst")
        have e : isWord (.int n) = decide (n < 65536) := by simp [isWord, h]
        rw [← e]
        exact k
      · have e : isWord (.int n) = false := by simp [isWord, h]
        rw [e] at k
        exact k
    | _ => exact ⟨_, rfl, iteF k⟩
theorem ok_is_register (T : Txt K mg a) : FnOk P w K mg base (L2.CX P w) 3 a.f_is_register a.d_is_register ["value"] (aB1 fun n => decide (0 ≤ n) && decide (n < 8)) := by
  refine T.F_is_register.okX sc_is_register (fun vs H Q E h => ?_) (fun cdv A outer s H vs Q E hr h => ?_)
  · obtain ⟨_, rfl, _⟩ := h
    rfl
  · obtain ⟨n, rfl, q⟩ := h
    refine ⟨_, (pss_one (ps_ret (pe_and (pe_call (ok_is_count (K := K) T) (hr.mono (by decide)) (by rfl) T.m_is_count T.F_is_count.kp T.b_is_count .nil passL (pa_cons (pv 0) pa_nil)) (pe_one (pe_cmpR op_lt (pv 0) (pe_glob (v := .int 8) (by rfl) T.v_REGISTERS_words ⟨_, rfl⟩) (nomark _)))))), ?_⟩
    refine w_in (σ := [some _]) rfl ?_
    repeat (walk_at "wst")
    refine ⟨_, rfl, kint_int n, ?_⟩
    show ∃ c, V.bl (decide (0 ≤ n)) = .bl c ∧ _
    repeat (walk_at "wst")
    refine ifS (fun h => ?_) fun h => ?_
    · repeat (walk_at "wst")
      simpa [h] using q
    · repeat (walk_at "wst")
      simpa [h] using q
theorem ok_want_word (T : Txt K mg a) : FnOk P w K mg base (L2.CX P w) 8 a.f_want_word a.d_want_word ["value"] (spWantWord K a.c_InvalidWord) := by
  refine T.F_want_word.okX sc_want_word (fun vs H Q E h => ?_) (fun cdv A outer s H vs Q E hr h => ?_)
  · obtain ⟨_, rfl, _⟩ := h
    rfl
  · obtain ⟨v, rfl, hk, k1, k2⟩ := h
    refine ⟨_, (pss_one (ps_if (pt_not (pt_val (pe_call (ok_is_word (K := K) T) (hr.mono (by decide)) (by rfl) T.m_is_word T.F_is_word.kp T.b_is_word .nil passL (pa_cons (pv 0) pa_nil)))) (pss_one (ps_raise rfl (takes_of rfl rfl rfl rfl) (pmk_oex T.x_InvalidWord T.xi_InvalidWord T.xt_CoreError___init__ (ok_CoreError___init__ (K := K) T) (hr.mono (by decide)) T.b_CoreError___init__ .nil passL (by rfl) T.g_InvalidWord (pa_cons (pv 0) pa_nil)))) pss_nil)), ?_⟩
    refine w_in (σ := [some _]) rfl ?_
    repeat (walk_at "wst")
    refine ⟨v, rfl, hk, ?_⟩
    repeat (walk_at "wst")
    cases e : isWord v with
    | true =>
      repeat (walk_at "wst")
      exact k1 e
    | false =>
      repeat (walk_at "wst")
      exact w_core T.x_InvalidWord T.xn_InvalidWord_value (k2 e)
theorem ok_want_register (T : Txt K mg a) : FnOk P w K mg base (L2.CX P w) 8 a.f_want_register a.d_want_register ["value"] (aW1 fun n => 0 ≤ n ∧ n < 8) := by
  refine T.F_want_register.okX sc_want_register (fun vs H Q E h => ?_) (fun cdv A outer s H vs Q E hr h => ?_)
  · obtain ⟨_, rfl, _⟩ := h
    rfl
  · obtain ⟨n, rfl, ⟨h0, h1⟩, q⟩ := h
    refine ⟨_, (pss_one (ps_if (pt_not (pt_val (pe_call (ok_is_register (K := K) T) (hr.mono (by decide)) (by rfl) T.m_is_register T.F_is_register.kp T.b_is_register .nil passL (pa_cons (pv 0) pa_nil)))) (pss_one ps_never) pss_nil)), ?_⟩
    refine w_in (σ := [some _]) rfl ?_
    repeat (walk_at "wst")
    refine ⟨n, rfl, ?_⟩
    dsimp only
    simp only [h0, h1, decide_true, Bool.and_self]
    repeat (walk_at "wst")
    exact q
theorem ok_want_lending (T : Txt K mg a) : FnOk P w K mg base (L2.CX P w) 9 a.f_want_lending a.d_want_lending ["renamer", "which", "new", "old"] (aWantLend K a.c_Renamer) := by
  refine T.F_want_lending.okX sc_want_lending (fun vs H Q E h => ?_) (fun cdv A outer s H vs Q E hr h => ?_)
  · obtain ⟨_, _, _, _, _, _, rfl, _⟩ := h
    rfl
  · obtain ⟨r, s, k, c, d, F, rfl, hH, h0, h1, hc, hd, q⟩ := h
    refine ⟨_, (pss_cons (ps_expr (pe_call (ok_want_register (K := K) T) (hr.mono (by decide)) (by rfl) T.m_want_register T.F_want_register.kp T.b_want_register .nil passL (pa_cons (pv 1) pa_nil)))
      (pss_cons (ps_expr (pe_call (ok_want_cell (K := K) T) (hr.mono (by decide)) (by rfl) T.m_want_cell T.F_want_cell.kp T.b_want_cell .nil passL (pa_cons (pv 0) (pa_cons (pv 2) pa_nil))))
      (pss_one (ps_expr (pe_call (ok_want_cell (K := K) T) (hr.mono (by decide)) (by rfl) T.m_want_cell T.F_want_cell.kp T.b_want_cell .nil passL (pa_cons (pv 0) (pa_cons (pv 3) pa_nil))))))), ?_⟩
    try simp only [cxOf_K]
    refine w_in (σ := [some _, some _, some _, some _]) rfl ?_
    refine Holds.go hH ?_
    repeat (walk_at "st")
    refine e_W1 ⟨h0, h1⟩ ?_
    repeat (walk_at "st")
    refine e_wantCell (by walk_at "fr") hc ?_
    repeat (walk_at "st")
    refine e_wantCell (by walk_at "fr") hd ?_
    repeat (walk_at "st")
    exact q
theorem ok_Renamer___init__ (T : Txt K mg a) : FnOk P w K mg base (L2.CX P w) 9 a.f_Renamer___init__ a.d_Renamer___init__ ["self", "many"] (aRInit K a.c_Renamer) := by
  refine T.F_Renamer___init__.okX sc_Renamer___init__ (fun vs H Q E h => ?_) (fun cdv A outer s H vs Q E hr h => ?_)
  · obtain ⟨_, _, _, _, rfl, _⟩ := h
    rfl
  · obtain ⟨x, dx, m, F, rfl, hH, h1, h2, q⟩ := h
    refine ⟨_, (pss_cons (ps_expr (pe_call (ok_want_many (K := K) T) (hr.mono (by decide)) (by rfl) T.m_want_many T.F_want_many.kp T.b_want_many .nil passL (pa_cons (pv 1) (pa_cons (pe_glob (v := .int 9) (by rfl) T.v_LEAST_CELLS ⟨_, rfl⟩) (pa_cons (pe_glob (v := .int 48) (by rfl) T.v_MOST_CELLS ⟨_, rfl⟩) pa_nil)))))
      (pss_cons (ps_fld (pv 0) (pe_listRg rfl (by rfl) T.z_list (prg_1 (by rfl) T.z_range (pe_glob (v := .int 8) (by rfl) T.v_REGISTERS_renames ⟨_, rfl⟩))) rfl)
      (pss_cons (ps_fld (pv 0) (pe_listRg rfl (by rfl) T.z_list (prg_1 (by rfl) T.z_range (pe_glob (v := .int 8) (by rfl) T.v_REGISTERS_renames ⟨_, rfl⟩))) rfl)
      (pss_cons (ps_fld (pv 0) (pe_listRg rfl (by rfl) T.z_list (prg_2 (by rfl) T.z_range (pe_glob (v := .int 8) (by rfl) T.v_REGISTERS_renames ⟨_, rfl⟩) (pv 1))) rfl)
      (pss_cons (ps_fld (pv 0) (pe_lst pa_nil) rfl)
      (pss_one (ps_fld (pv 0) (pe_op op_cat (pe_op op_rep (pe_lst (pa_cons pe_int pa_nil)) (pe_glob (v := .int 8) (by rfl) T.v_REGISTERS_renames ⟨_, rfl⟩)) (pe_op op_rep (pe_lst (pa_cons pe_non pa_nil)) (pe_op op_sub (pv 1) (pe_glob (v := .int 8) (by rfl) T.v_REGISTERS_renames ⟨_, rfl⟩)))) rfl))))))), ?_⟩
    try simp only [cxOf_K]
    refine w_in (σ := [some _, some _]) rfl ?_
    refine Holds.go hH ?_
    repeat (walk_at "st")
    refine e_wantMany (by omega) h1 h2 ?_
    repeat (walk_at "st")
    rename_i n o f p z0 z1 z2 z3 w
    refine Ent.sub (Sub.ren dx n o f p w ?_) q
    rw [rgV_map, rgV_map]
    have e1 : (List.replicate (Int.toNat 8) [V.int 0]).flatten ++ (List.replicate (m - 8).toNat [V.non]).flatten = (ren0 m).ws.map wV := by
      show _ = List.map wV (List.replicate 8 (some 0) ++ List.replicate (m - 8).toNat none)
      rw [List.map_append, List.map_replicate, List.map_replicate]
      congr 1
      generalize (m - 8).toNat = j
      induction j with
      | zero => rfl
      | succ j ih => rw [List.replicate_succ, List.flatten_cons, ih]; rfl
    rw [e1]
    dsimp only [ren0]
    walk_at "sub"
theorem ok_Renamer_can_lend (T : Txt K mg a) : FnOk P w K mg base (L2.CX P w) 1 a.f_Renamer_can_lend a.d_Renamer_can_lend ["self"] (aRead K a.c_Renamer fun s => .bl (!decide (s.fr = []))) := by
  refine T.F_Renamer_can_lend.okX sc_Renamer_can_lend (fun vs H Q E h => ?_) (fun cdv A outer s H vs Q E hr h => ?_)
  · obtain ⟨_, _, _, rfl, _⟩ := h
    rfl
  · obtain ⟨r, s, F, rfl, hH, q⟩ := h
    refine ⟨_, (pss_one (ps_ret (pe_cmpR (op_neD hr.units) (pe_fld (pv 0) rfl) (pe_lst pa_nil) (nomark _)))), ?_⟩
    try simp only [cxOf_K]
    refine w_in (σ := [some _]) rfl ?_
    refine Holds.go hH ?_
    refine Ent.ren fun dx n o f p w => ?_
    repeat (walk_at "st")
    refine e_neI0 (by walk_at "hl") (by walk_at "hl") ?_
    exact Ent.sub (Sub.drop (Sub.ren dx n o f p w (by walk_at "sub"))) q
theorem ok_Renamer_place_of (T : Txt K mg a) : FnOk P w K mg base (L2.CX P w) 9 a.f_Renamer_place_of a.d_Renamer_place_of ["self", "which"] (aPlace K a.c_Renamer) := by
  refine T.F_Renamer_place_of.okX sc_Renamer_place_of (fun vs H Q E h => ?_) (fun cdv A outer s H vs Q E hr h => ?_)
  · obtain ⟨_, _, _, _, _, rfl, _⟩ := h
    rfl
  · obtain ⟨r, s, k, c, F, rfl, hH, hk, hc, q⟩ := h
    have hk0 := hk.1
    refine ⟨_, (pss_cons (ps_expr (pe_call (ok_want_register (K := K) T) (hr.mono (by decide)) (by rfl) T.m_want_register T.F_want_register.kp T.b_want_register .nil passL (pa_cons (pv 1) pa_nil)))
      (pss_one (ps_ret (pe_ix ix_list (pe_fld (pv 0) rfl) (pv 1) (fun _ _ => rfl))))), ?_⟩
    try simp only [cxOf_K]
    refine w_in (σ := [some _, some _]) rfl ?_
    refine Holds.go hH ?_
    repeat (walk_at "st")
    refine e_W1 hk ?_
    repeat (walk_at "st")
    refine Ent.ren fun dx n o f p w => ?_
    repeat (walk_at "st")
    exact Ent.sub (Sub.ren dx n o f p w (by walk_at "sub")) q
theorem ok_Renamer_is_ready (T : Txt K mg a) : FnOk P w K mg base (L2.CX P w) 5 a.f_Renamer_is_ready a.d_Renamer_is_ready ["self", "at"] (aReady K a.c_Renamer) := by
  refine T.F_Renamer_is_ready.okX sc_Renamer_is_ready (fun vs H Q E h => ?_) (fun cdv A outer s H vs Q E hr h => ?_)
  · obtain ⟨_, _, _, _, rfl, _⟩ := h
    rfl
  · obtain ⟨r, s, c, F, rfl, hH, hc, q⟩ := h
    refine ⟨_, (pss_cons (ps_expr (pe_call (ok_want_cell (K := K) T) (hr.mono (by decide)) (by rfl) T.m_want_cell T.F_want_cell.kp T.b_want_cell .nil passL (pa_cons (pv 0) (pa_cons (pv 1) pa_nil))))
      (pss_one (ps_ret (pe_cmpR op_notN (pe_ix ix_list (pe_fld (pv 0) rfl) (pv 1) (fun _ _ => rfl)) pe_non (nomark _))))), ?_⟩
    try simp only [cxOf_K]
    refine w_in (σ := [some _, some _]) rfl ?_
    refine Holds.go hH ?_
    repeat (walk_at "st")
    refine e_wantCell (by walk_at "fr") hc ?_
    obtain ⟨h0, h1⟩ := hc
    obtain ⟨v, hv, hat, hv2⟩ := atI_mem (xs := s.ws.map wV) h0 (by rw [List.length_map]; exact h1)
    refine Ent.ren fun dx n o f p w => ?_
    repeat (walk_at "st")
    refine Ent.sub (Sub.ren dx n o f p w (by walk_at "sub")) ?_
    rw [List.getElem?_map] at hv2
    cases e : s.ws[c.toNat]? with
    | none => rw [e] at hv2; cases hv2
    | some z =>
      rw [e] at hv2 q
      cases hv2
      cases z with
      | none => exact q
      | some n => exact q
theorem ok_Renamer_put (T : Txt K mg a) : FnOk P w K mg base (L2.CX P w) 9 a.f_Renamer_put a.d_Renamer_put ["self", "at", "value"] (aPut K a.c_Renamer) := by
  refine T.F_Renamer_put.okX sc_Renamer_put (fun vs H Q E h => ?_) (fun cdv A outer s H vs Q E hr h => ?_)
  · obtain ⟨_, _, _, _, _, rfl, _⟩ := h
    rfl
  · obtain ⟨r, s, c, x, F, rfl, hH, hc, hx, h1, h2, q⟩ := h
    obtain ⟨hc0, hc1⟩ := id hc
    refine ⟨_, (pss_cons (ps_expr (pe_call (ok_want_cell (K := K) T) (hr.mono (by decide)) (by rfl) T.m_want_cell T.F_want_cell.kp T.b_want_cell .nil passL (pa_cons (pv 0) (pa_cons (pv 1) pa_nil))))
      (pss_cons (ps_expr (pe_call (ok_want_word (K := K) T) (hr.mono (by decide)) (by rfl) T.m_want_word T.F_want_word.kp T.b_want_word .nil passL (pa_cons (pv 2) pa_nil)))
      (pss_cons (ps_if (PW.pt (pw_or (pt_cmpR op_notN (pe_ix ix_list (pe_fld (pv 0) rfl) (pv 1) (fun _ _ => rfl)) pe_non (nomark _)) (pw_or1 (pt_cmpR op_in_seq (pv 1) (pe_fld (pv 0) rfl) (by rfl))))) (pss_one ps_never) pss_nil)
      (pss_one (ps_asg (pv 2) (pg_sub (pe_fld (pv 0) rfl) (pv 1) set_list)))))), ?_⟩
    try simp only [cxOf_K]
    refine w_in (σ := [some _, some _, some _]) rfl ?_
    refine Holds.go hH ?_
    repeat (walk_at "st")
    refine e_wantCell (by walk_at "fr") hc ?_
    repeat (walk_at "st")
    refine e_wantWord hx ?_
    repeat (walk_at "st")
    refine Ent.ren fun dx n o f p w => ?_
    have hat := atI_ofM (f := wV) hc.1 h1
    repeat (walk_at "st")
    refine e_inI (by walk_at "hl") ?_
    repeat (walk_at "st")
    exact Ent.sub (Sub.ren dx n o f p w (by walk_at "sub")) q
theorem ok_Renamer_lent (T : Txt K mg a) : FnOk P w K mg base (L2.CX P w) 9 a.f_Renamer_lent a.d_Renamer_lent ["self", "which"] (aLent K a.c_Renamer) := by
  refine T.F_Renamer_lent.okX sc_Renamer_lent (fun vs H Q E h => ?_) (fun cdv A outer s H vs Q E hr h => ?_)
  · obtain ⟨_, _, _, _, _, _, _, rfl, _⟩ := h
    rfl
  · obtain ⟨r, s, k, c, o, rest, F, rfl, hH, hk, hf, ho, hz, q⟩ := h
    have hk0 := hk.1
    have hk2 : k < s.nw.length := by have := (List.getElem?_eq_some_iff.mp ho).1; omega
    refine ⟨_, (pss_cons (ps_expr (pe_call (ok_want_register (K := K) T) (hr.mono (by decide)) (by rfl) T.m_want_register T.F_want_register.kp T.b_want_register .nil passL (pa_cons (pv 1) pa_nil)))
      (pss_cons (ps_if (pt_cmpR (op_eqD hr.units) (pe_fld (pv 0) rfl) (pe_lst pa_nil) (nomark _)) (pss_one ps_never) pss_nil)
      (pss_cons (ps_par (i := 2) (j := 3) rfl sc_Renamer_lent.nd rfl rfl (by decide) rfl rfl (pa_cons (pe_ix ix_list (pe_fld (pv 0) rfl) pe_int (fun _ _ => rfl)) (pa_cons (pe_ix ix_list (pe_fld (pv 0) rfl) (pv 1) (fun _ _ => rfl)) pa_nil)) (by rfl))
      (pss_cons (ps_fld (pv 0) (pe_slice sl_list (pe_fld (pv 0) rfl) (po_some pe_int) po_none) rfl)
      (pss_cons (ps_asg (pv 2) (pg_sub (pe_fld (pv 0) rfl) (pv 1) set_list))
      (pss_cons (ps_expr (pe_bm PySem.F.plainAttrs_list PySem.F.slot_list_append PySem.F.type_list_append mt_append (pe_fld (pv 0) rfl) (pa_cons (pe_tup (pa_cons (pv 1) (pa_cons (pv 2) (pa_cons (pv 3) pa_nil)))) pa_nil)))
      (pss_one (ps_ret (pe_tup (pa_cons (pv 2) (pa_cons (pv 3) pa_nil))))))))))), ?_⟩
    try simp only [cxOf_K]
    refine w_in (σ := [some _, some _, none, none]) rfl ?_
    refine Holds.go hH ?_
    repeat (walk_at "st")
    refine e_W1 hk ?_
    repeat (walk_at "st")
    refine Ent.ren fun dx n o' f p w => ?_
    repeat (walk_at "st")
    refine e_eqI0 (by walk_at "hl") (by walk_at "hl") ?_
    rw [hf]
    repeat (walk_at "st")
    refine e_appLs (E := kL3 K) (y := (k, c, o)) (by walk_at "fr") (vl_T (by walk_at "fr") fun _ h => ⟨_, rfl, h⟩) (by omega) ?_
    repeat (walk_at "st")
    rename_i f2 t t2
    rw [cutA_t1]
    exact Ent.sub (Sub.take (by walk_at "fr") (Sub.ren dx n o' f2 p w (by walk_at "sub"))) (q _)
theorem ok_Renamer_undone (T : Txt K mg a) : FnOk P w K mg base (L2.CX P w) 10 a.f_Renamer_undone a.d_Renamer_undone ["self", "which", "new", "old"] (aUndone K a.c_Renamer) := by
  refine T.F_Renamer_undone.okX sc_Renamer_undone (fun vs H Q E h => ?_) (fun cdv A outer s H vs Q E hr h => ?_)
  · obtain ⟨_, _, _, _, _, _, _, rfl, _⟩ := h
    rfl
  · obtain ⟨r, s, k, c, o, op, F, rfl, hH, hk, hc, hd, hop, hl, hz, q⟩ := h
    have hk0 := hk.1
    have hk2 : k < s.nw.length := by omega
    have hc0 := hc.1
    have hc1 := hc.2
    refine ⟨_, (pss_cons (ps_expr (pe_call (ok_want_lending (K := K) T) (hr.mono (by decide)) (by rfl) T.m_want_lending T.F_want_lending.kp T.b_want_lending .nil passL (pa_cons (pv 0) (pa_cons (pv 1) (pa_cons (pv 2) (pa_cons (pv 3) pa_nil))))))
      (pss_cons (ps_if (pt_cmpR (op_neD hr.units) (pe_slice sl_list (pe_fld (pv 0) rfl) (po_some (pe_un un_neg pe_int)) po_none) (pe_lst (pa_cons (pe_tup (pa_cons (pv 1) (pa_cons (pv 2) (pa_cons (pv 3) pa_nil)))) pa_nil)) (nomark _)) (pss_one ps_never) pss_nil)
      (pss_cons (ps_expr (pe_bm0 PySem.F.plainAttrs_list PySem.F.slot_list_pop PySem.F.type_list_pop mt_pop (pe_fld (pv 0) rfl)))
      (pss_cons (ps_asg (pv 3) (pg_sub (pe_fld (pv 0) rfl) (pv 1) set_list))
      (pss_cons (ps_asg pe_non (pg_sub (pe_fld (pv 0) rfl) (pv 2) set_list))
      (pss_one (ps_fld (pv 0) (pe_op op_cat (pe_lst (pa_cons (pv 2) pa_nil)) (pe_fld (pv 0) rfl)) rfl))))))), ?_⟩
    try simp only [cxOf_K]
    refine w_in (σ := [some _, some _, some _, some _]) rfl ?_
    refine Holds.go hH ?_
    repeat (walk_at "st")
    refine e_wantLend (by walk_at "fr") hk.1 hk.2 hc hd ?_
    repeat (walk_at "st")
    refine Ent.ren fun dx n o' f p w => ?_
    rw [hop]
    repeat (walk_at "st")
    rw [cutA_last]
    refine e_neLs l3Ok (E := kL3 K) (xs := [(k, c, o)]) (ys := [(k, c, o)]) (by walk_at "fr") (take_ls1 (by walk_at "fr") (vl_T (by walk_at "fr") fun _ h => ⟨_, rfl, h⟩)) ?_
    repeat (walk_at "st")
    refine e_popLs (y := (k, c, o)) (by walk_at "fr") (by simp) fun v => ?_
    repeat (walk_at "st")
    rename_i f2
    have e1 : (op ++ [(k, c, o)]).dropLast = s.op.dropLast := by rw [hop]
    rw [e1]
    refine Ent.sub (Sub.ren dx n o' f2 p w (by walk_at "sub")) q
theorem ok_Renamer_kept (T : Txt K mg a) : FnOk P w K mg base (L2.CX P w) 10 a.f_Renamer_kept a.d_Renamer_kept ["self", "which", "new", "old"] (aKept K a.c_Renamer) := by
  refine T.F_Renamer_kept.okX sc_Renamer_kept (fun vs H Q E h => ?_) (fun cdv A outer s H vs Q E hr h => ?_)
  · obtain ⟨_, _, _, _, _, _, _, _, rfl, _⟩ := h
    rfl
  · obtain ⟨r, s, k, c, o, w', op, F, rfl, hH, hk, hc, hd, hop, hl, hws, hz, q⟩ := h
    have hk0 := hk.1
    have hk2 : k < s.od.length := by omega
    have hc0 := hc.1
    have hc1 := hc.2
    have hd0 := hd.1
    have hd1 := hd.2
    refine ⟨_, (pss_cons (ps_expr (pe_call (ok_want_lending (K := K) T) (hr.mono (by decide)) (by rfl) T.m_want_lending T.F_want_lending.kp T.b_want_lending .nil passL (pa_cons (pv 0) (pa_cons (pv 1) (pa_cons (pv 2) (pa_cons (pv 3) pa_nil))))))
      (pss_cons (ps_if (pt_cmpR (op_neD hr.units) (pe_slice sl_list (pe_fld (pv 0) rfl) po_none (po_some pe_int)) (pe_lst (pa_cons (pe_tup (pa_cons (pv 1) (pa_cons (pv 2) (pa_cons (pv 3) pa_nil)))) pa_nil)) (nomark _)) (pss_one ps_never) pss_nil)
      (pss_cons (ps_if (pt_cmpR op_isN (pe_ix ix_list (pe_fld (pv 0) rfl) (pv 2) (fun _ _ => rfl)) pe_non (nomark _)) (pss_one ps_never) pss_nil)
      (pss_cons (ps_fld (pv 0) (pe_slice sl_list (pe_fld (pv 0) rfl) (po_some pe_int) po_none) rfl)
      (pss_cons (ps_asg (pv 2) (pg_sub (pe_fld (pv 0) rfl) (pv 1) set_list))
      (pss_cons (ps_asg pe_non (pg_sub (pe_fld (pv 0) rfl) (pv 3) set_list))
      (pss_one (ps_fld (pv 0) (pe_op op_cat (pe_fld (pv 0) rfl) (pe_lst (pa_cons (pv 3) pa_nil))) rfl)))))))), ?_⟩
    try simp only [cxOf_K]
    refine w_in (σ := [some _, some _, some _, some _]) rfl ?_
    refine Holds.go hH ?_
    repeat (walk_at "st")
    refine e_wantLend (by walk_at "fr") hk.1 hk.2 hc hd ?_
    repeat (walk_at "st")
    refine Ent.ren fun dx n o' f p w => ?_
    rw [hop]
    repeat (walk_at "st")
    rw [cutA_h1]
    refine e_neLs l3Ok (E := kL3 K) (xs := [(k, c, o)]) (ys := [(k, c, o)]) (by walk_at "fr") (take_ls1 (by walk_at "fr") (vl_T (by walk_at "fr") fun _ h => ⟨_, rfl, h⟩)) ?_
    have hat := atI_ofM (f := wV) hc0 hws
    repeat (walk_at "st")
    rename_i p2 l1 f2
    rw [cutA_t1]
    have e1 : op = s.op.drop 1 := by rw [hop]; rfl
    have e2 : List.map V.int s.fr ++ [V.int o] = List.map V.int (s.fr ++ [o]) := by simp
    rw [e1, e2]
    refine Ent.sub (Sub.ren dx n o' f2 p2 w (by walk_at "sub")) q
theorem ok_Renamer_written (T : Txt K mg a) : FnOk P w K mg base (L2.CX P w) 9 a.f_Renamer_written a.d_Renamer_written ["self", "which", "value"] (aWritten K a.c_Renamer) := by
  refine T.F_Renamer_written.okX sc_Renamer_written (fun vs H Q E h => ?_) (fun cdv A outer s H vs Q E hr h => ?_)
  · obtain ⟨_, _, _, _, _, _, rfl, _⟩ := h
    rfl
  · obtain ⟨r, s, k, c, x, F, rfl, hH, hk, ho, hc, hx, h0, q⟩ := h
    have hk0 := hk.1
    obtain ⟨hc0, hc1⟩ := id hc
    refine ⟨_, (pss_cons (ps_expr (pe_call (ok_want_register (K := K) T) (hr.mono (by decide)) (by rfl) T.m_want_register T.F_want_register.kp T.b_want_register .nil passL (pa_cons (pv 1) pa_nil)))
      (pss_cons (ps_expr (pe_call (ok_want_word (K := K) T) (hr.mono (by decide)) (by rfl) T.m_want_word T.F_want_word.kp T.b_want_word .nil passL (pa_cons (pv 2) pa_nil)))
      (pss_cons (ps_if (pt_cmpR (op_neD hr.units) (pe_fld (pv 0) rfl) (pe_lst pa_nil) (nomark _)) (pss_one ps_never) pss_nil)
      (pss_one (ps_asg (pv 2) (pg_sub (pe_fld (pv 0) rfl) (pe_ix ix_list (pe_fld (pv 0) rfl) (pv 1) (fun _ _ => rfl)) set_list)))))), ?_⟩
    try simp only [cxOf_K]
    refine w_in (σ := [some _, some _, some _]) rfl ?_
    refine Holds.go hH ?_
    repeat (walk_at "st")
    refine e_W1 hk ?_
    repeat (walk_at "st")
    refine e_wantWord hx ?_
    repeat (walk_at "st")
    refine Ent.ren fun dx n o f p w => ?_
    rw [h0]
    repeat (walk_at "st")
    refine e_neLs l3Ok (E := kL3 K) (xs := []) (ys := []) (by walk_at "fr") (take_ls0 (by walk_at "fr")) ?_
    simp only [decide_true, Bool.not_true]
    repeat (walk_at "st")
    refine Ent.sub (Sub.ren dx n o f p w ?_) q
    rw [show (putR s c x).op = [] from h0]
    walk_at "sub"
theorem ok_Renamer_kept_words (T : Txt K mg a) : FnOk P w K mg base (L2.CX P w) 1 a.f_Renamer_kept_words a.d_Renamer_kept_words ["self"] (aKeptWords K a.c_Renamer) := by
  refine T.F_Renamer_kept_words.okX sc_Renamer_kept_words (fun vs H Q E h => ?_) (fun cdv A outer s H vs Q E hr h => ?_)
  · obtain ⟨_, _, _, _, rfl, _⟩ := h
    rfl
  · obtain ⟨r, s, ws, F, rfl, hH, hz, h0, hw, q⟩ := h
    refine ⟨_, (pss_one (ps_ret (pe_lc (own := [("cell", 1)]) (g := gName 1) (tt := tYes) rfl sc_Renamer_kept_words.nd (pi_list (pe_fld (pv 0) rfl)) (blkOk_by (N := ["self", "cell"]) (sc := defScope s_Renamer_kept_words) (by decide +kernel)) (fun _ _ _ _ _ => (pg_name (i := 1) sc_Renamer_kept_words.nd rfl (Or.inl rfl))) (fun _ _ _ _ _ => pts_nil) (fun _ _ _ _ _ => (pe_ix (ixLK (K := K)) (fldK (K := K) (pv 0) rfl) (pv 1) (fun _ _ => rfl)))))), ?_⟩
    try simp only [cxOf_K]
    refine w_in (σ := [some _, none]) rfl ?_
    refine Holds.go hH ?_
    refine Ent.ren fun dx n o f p w => ?_
    repeat (walk_at "st")
    refine e_lc s.od V.int (fun c => some (wV (s.ws.getD c.toNat none))) (by walk_at "hl") (by omega) (fun c hc D acc r' s' h1 _ => ?_) fun D => ?_
    · obtain ⟨i, hi⟩ := List.mem_iff_getElem?.mp hc
      obtain ⟨u, hu, hu2⟩ := hw.get hi
      have e : wV (s.ws.getD c.toNat none) = .int u := by rw [List.getD_eq_getElem?_getD, hu2]; rfl
      have hat := atI_ofM (f := wV) (h0 c hc) hu2
      repeat (walk_at "st")
      exact h1 (.int u) (by rw [e])
    · have e : (s.od.filterMap fun c => some (wV (s.ws.getD c.toNat none))) = ws.map V.int := by
        rw [show (fun c : Int => some (wV (s.ws.getD c.toNat none))) = some ∘ fun c => wV (s.ws.getD c.toNat none) from rfl, List.filterMap_eq_map]
        exact all2_maps (fun x y h => by rw [List.getD_eq_getElem?_getD, h]; rfl) hw
      rw [e]
      exact Ent.sub (Sub.take (by walk_at "fr") (Sub.ren dx n o f p w (by walk_at "sub"))) (q D)
theorem ok_Renamer_writes (T : Txt K mg a) : FnOk P w K mg base (L2.CX P w) 1 a.f_Renamer_writes a.d_Renamer_writes ["self"] (aWritesR K a.c_Renamer) := by
  refine T.F_Renamer_writes.okX sc_Renamer_writes (fun vs H Q E h => ?_) (fun cdv A outer s H vs Q E hr h => ?_)
  · obtain ⟨_, _, _, rfl, _⟩ := h
    rfl
  · obtain ⟨r, s, F, rfl, hH, hc, hz, q⟩ := h
    refine ⟨_, (pss_one (ps_ret (pe_lc (own := [("which", 1), ("new", 2), ("old", 3)]) (g := (gTup K 3 (gCons (gName 1) (gCons (gName 2) (gCons (gName 3) gNil))))) (tt := tYes) rfl sc_Renamer_writes.nd (pi_list (pe_fld (pv 0) rfl)) (blkOk_by (N := ["self", "which", "new", "old"]) (sc := defScope s_Renamer_writes) (by decide +kernel)) (fun _ _ _ _ _ => by exact (pg_tup rfl (pgs_cons (pg_name (i := 1) sc_Renamer_writes.nd rfl (Or.inl rfl)) (pgs_cons (pg_name (i := 2) sc_Renamer_writes.nd rfl (Or.inl rfl)) (pgs_cons (pg_name (i := 3) sc_Renamer_writes.nd rfl (Or.inl rfl)) pgs_nil))))) (fun _ _ _ _ _ => pts_nil) (fun _ _ _ _ _ => (pe_tup (pa_cons (pv 1) (pa_cons (pe_ix (ixLK (K := K)) (fldK (K := K) (pv 0) rfl) (pv 2) (fun _ _ => rfl)) pa_nil))))))), ?_⟩
    try simp only [cxOf_K]
    refine w_in (σ := [some _, none, none, none]) rfl ?_
    refine Holds.go hH ?_
    refine Ent.ren fun dx n o f p w => ?_
    repeat (walk_at "st")
    refine e_lcLs (E := kL3 K) (E' := kW K) (xs := s.op) (kp := fun x => some (x.1, s.ws.getD x.2.1.toNat none)) (by walk_at "fr") (by omega) (fun x hx v D ys r' s' h1 _ => ?_) fun D => ?_
    · obtain ⟨k, c, o'⟩ := x
      obtain ⟨c0, c1⟩ := hc _ hx
      have hw : s.ws[c.toNat]? = some (s.ws.getD c.toNat none) := by
        have : c.toNat < s.ws.length := by simp only at c0 c1; omega
        simp [this]
      have hat := atI_ofM (f := wV) c0 hw
      refine Ent.vT (us := [.int k, .int c, .int o']) (fun _ h => h) fun t e => ?_
      subst e
      repeat (walk_at "st")
      rename_i t2
      refine Ent.sub ?_ (h1 (.ref t2) (k, s.ws.getD c.toNat none) rfl)
      exact Sub.vl_i (fun H k => ⟨t2, rfl, Take.im (by walk_at "fr") k⟩) (by walk_at "sub")
    · rw [show s.op.filterMap (fun x => some (x.1, s.ws.getD x.2.1.toNat none)) = writesR s by rw [show (fun x : L3 => some (x.1, s.ws.getD x.2.1.toNat none)) = some ∘ fun x => (x.1, s.ws.getD x.2.1.toNat none) from rfl, List.filterMap_eq_map]; rfl]
      exact Ent.sub (Sub.take (by walk_at "fr") (Sub.ren dx n o f p w (by walk_at "sub"))) (q D)
theorem ok_Renamer_lendings (T : Txt K mg a) : FnOk P w K mg base (L2.CX P w) 1 a.f_Renamer_lendings a.d_Renamer_lendings ["self"] (aLendings K a.c_Renamer) := by
  refine T.F_Renamer_lendings.okX sc_Renamer_lendings (fun vs H Q E h => ?_) (fun cdv A outer s H vs Q E hr h => ?_)
  · obtain ⟨_, _, _, rfl, _⟩ := h
    rfl
  · obtain ⟨r, s, F, rfl, hH, q⟩ := h
    refine ⟨_, (pss_one (ps_ret (pe_callTy (call_listK (K := K)) (by rfl) T.z_list (by decide +kernel) (pa_cons (pe_fld (pv 0) rfl) pa_nil)))), ?_⟩
    try simp only [cxOf_K]
    refine w_in (σ := [some _]) rfl ?_
    refine Holds.go hH ?_
    refine Ent.ren fun dx n o f p w => ?_
    repeat (walk_at "st")
    rename_i z
    exact Ent.sub (Sub.take (by walk_at "fr") (Sub.ren dx n o f p w (by walk_at "sub"))) (q z)
theorem ok_Renamer_free (T : Txt K mg a) : FnOk P w K mg base (L2.CX P w) 1 a.f_Renamer_free a.d_Renamer_free ["self"] (aFree K a.c_Renamer) := by
  refine T.F_Renamer_free.okX sc_Renamer_free (fun vs H Q E h => ?_) (fun cdv A outer s H vs Q E hr h => ?_)
  · obtain ⟨_, _, _, rfl, _⟩ := h
    rfl
  · obtain ⟨r, s, F, rfl, hH, q⟩ := h
    refine ⟨_, (pss_one (ps_ret (pe_callTy (call_listK (K := K)) (by rfl) T.z_list (by decide +kernel) (pa_cons (pe_fld (pv 0) rfl) pa_nil)))), ?_⟩
    try simp only [cxOf_K]
    refine w_in (σ := [some _]) rfl ?_
    refine Holds.go hH ?_
    refine Ent.ren fun dx n o f p w => ?_
    repeat (walk_at "st")
    rename_i z
    exact Ent.sub (Sub.take (by walk_at "fr") (Sub.ren dx n o f p w (by walk_at "sub"))) (q z)
theorem ok_Renamer_copy (T : Txt K mg a) : FnOk P w K mg base (L2.CX P w) 11 a.f_Renamer_copy a.d_Renamer_copy ["self"] (aCopy K a.c_Renamer) := by
  refine T.F_Renamer_copy.okX sc_Renamer_copy (fun vs H Q E h => ?_) (fun cdv A outer s H vs Q E hr h => ?_)
  · obtain ⟨_, _, _, rfl, _⟩ := h
    rfl
  · obtain ⟨r, s, F, rfl, hH, h9, h48, q⟩ := h
    refine ⟨_, (pss_cons (ps_set (i := 1) sc_Renamer_copy.nd rfl (Or.inl rfl) (pe_make T.k_Renamer (ok_Renamer___init__ (K := K) T) (hr.mono (by decide)) (by rfl) T.g_Renamer T.b_Renamer___init__ .nil passL (pa_cons (pe_callB (call_lenK (K := K)) (by rfl) T.z_len (by decide +kernel) (pa_cons (pe_fld (pv 0) rfl) pa_nil)) pa_nil)))
      (pss_cons (ps_fld (pv 1) (pe_callTy (call_listK (K := K)) (by rfl) T.z_list (by decide +kernel) (pa_cons (pe_fld (pv 0) rfl) pa_nil)) rfl)
      (pss_cons (ps_fld (pv 1) (pe_callTy (call_listK (K := K)) (by rfl) T.z_list (by decide +kernel) (pa_cons (pe_fld (pv 0) rfl) pa_nil)) rfl)
      (pss_cons (ps_fld (pv 1) (pe_callTy (call_listK (K := K)) (by rfl) T.z_list (by decide +kernel) (pa_cons (pe_fld (pv 0) rfl) pa_nil)) rfl)
      (pss_cons (ps_fld (pv 1) (pe_callTy (call_listK (K := K)) (by rfl) T.z_list (by decide +kernel) (pa_cons (pe_fld (pv 0) rfl) pa_nil)) rfl)
      (pss_cons (ps_fld (pv 1) (pe_callTy (call_listK (K := K)) (by rfl) T.z_list (by decide +kernel) (pa_cons (pe_fld (pv 0) rfl) pa_nil)) rfl)
      (pss_one (ps_ret (pv 1))))))))), ?_⟩
    try simp only [cxOf_K]
    refine w_in (σ := [some _, none]) rfl ?_
    refine Holds.go hH ?_
    refine Ent.ren fun dx n o f p w => ?_
    repeat (walk_at "st")
    refine fun H h => ⟨_, _, _, _, rfl, h, by rw [List.length_map]; omega, by rw [List.length_map]; omega, ?_⟩
    repeat (walk_at "st")
    refine Ent.take (A := RenA K a.c_Renamer _ (ren0 _)) (by walk_at "fr") ?_
    refine Ent.ren fun dx2 n2 o2 f2 p2 w2 => ?_
    repeat (walk_at "st")
    rename_i n3 o3 f3 p3 w3
    refine Ent.sub ?_ (q _)
    refine Sub.ren dx2 n3 o3 f3 p3 w3 ?_
    iterate 6 (walk_at "sub1")
    exact Sub.ren dx n o f p w (by walk_at "sub")
theorem ok_renamer_told (T : Txt K mg a) : FnOk P w K mg base (L2.CX P w) 1 a.f_renamer_told a.d_renamer_told ["renamer"] (aTold K a.c_Renamer) := by
  refine T.F_renamer_told.okX sc_renamer_told (fun vs H Q E h => ?_) (fun cdv A outer s H vs Q E hr h => ?_)
  · obtain ⟨_, _, _, rfl, _⟩ := h
    rfl
  · obtain ⟨r, s, F, rfl, hH, q⟩ := h
    refine ⟨_, (pss_cons (ps_set (i := 1) sc_renamer_told.nd rfl (Or.inl rfl) (pe_tup (pa_cons (pe_callTy (call_tupK (K := K)) (by rfl) T.z_tuple (by decide +kernel) (pa_cons (pe_fld (pv 0) rfl) pa_nil)) (pa_cons (pe_callTy (call_tupK (K := K)) (by rfl) T.z_tuple (by decide +kernel) (pa_cons (pe_fld (pv 0) rfl) pa_nil)) pa_nil))))
      (pss_one (ps_ret (pe_op op_catT (pv 1) (pe_tup (pa_cons (pe_callTy (call_tupK (K := K)) (by rfl) T.z_tuple (by decide +kernel) (pa_cons (pe_fld (pv 0) rfl) pa_nil)) (pa_cons (pe_callTy (call_tupK (K := K)) (by rfl) T.z_tuple (by decide +kernel) (pa_cons (pe_fld (pv 0) rfl) pa_nil)) (pa_cons (pe_callTy (call_tupK (K := K)) (by rfl) T.z_tuple (by decide +kernel) (pa_cons (pe_fld (pv 0) rfl) pa_nil)) pa_nil)))))))), ?_⟩
    try simp only [cxOf_K]
    refine w_in (σ := [some _, none]) rfl ?_
    refine Holds.go hH ?_
    refine Ent.ren fun dx n o f p w => ?_
    repeat (walk_at "st")
    refine e_catT (by walk_at "ht") (by walk_at "ht") (by simp) (by simp) (Nat.le_of_ble_eq_true rfl) fun t => ?_
    rename_i x1 x2 x3 x4 x5 x6 x7
    refine Ent.sub (M := vl (kRen K) (.ref t) s :: RenA K a.c_Renamer r s :: F) ?_ (q _)
    refine Sub.vl_i (fun H k => ?_) (Sub.ren dx n o f p w (by walk_at "sub"))
    exact ⟨t, x1, x2, x4, x5, x6, rfl, Take.im (o := .tup ([.ref x1, .ref x2] ++ [.ref x4, .ref x5, .ref x6])) (by walk_at "fr") k, Take.im (by walk_at "fr") k, Take.im (by walk_at "fr") k, Take.im (by walk_at "fr") k, Take.vl (by walk_at "fr") k, Take.im (by walk_at "fr") k⟩
theorem ok_Renamer___eq__ (T : Txt K mg a) : FnOk P w K mg base (L2.CX P w) 11 a.f_Renamer___eq__ a.d_Renamer___eq__ ["self", "other"] (aEq K a.c_Renamer) := by
  refine T.F_Renamer___eq__.okX sc_Renamer___eq__ (fun vs H Q E h => ?_) (fun cdv A outer s H vs Q E hr h => ?_)
  · obtain ⟨_, _, _, _, rfl, _⟩ := h
    rfl
  · obtain ⟨r, r2, s, F, rfl, hH, q⟩ := h
    refine ⟨_, (pss_cons (ps_if (pt_not (pt_val (pe_callB call_isi (by rfl) T.z_isinstance (by decide +kernel) (pa_cons (pv 1) (pa_cons (pe_glob (v := .ref a.c_Renamer) (by rfl) T.g_Renamer rfl) pa_nil))))) (pss_one (ps_ret pe_bl)) pss_nil)
      (pss_one (ps_ret (pe_cmpR (op_eqD hr.units) (pe_call (ok_renamer_told (K := K) T) (hr.mono (by decide)) (by rfl) T.m_renamer_told T.F_renamer_told.kp T.b_renamer_told .nil passL (pa_cons (pv 0) pa_nil)) (pe_call (ok_renamer_told (K := K) T) (hr.mono (by decide)) (by rfl) T.m_renamer_told T.F_renamer_told.kp T.b_renamer_told .nil passL (pa_cons (pv 1) pa_nil)) (nomark _))))), ?_⟩
    try simp only [cxOf_K]
    refine w_in (σ := [some _, some _]) rfl ?_
    refine Holds.go hH ?_
    repeat (walk_at "st")
    refine e_isi (ren_ty T.i_Renamer T.c_Renamer (by walk_at "fr")) (.own _) T.io_Renamer ?_
    repeat (walk_at "st")
    refine e_told (by walk_at "fr") fun v => ?_
    repeat (walk_at "st")
    refine e_told (by walk_at "fr") fun v2 => ?_
    repeat (walk_at "st")
    refine fun H k => w_eqD (renD s) ((kRen K).dp (Take.vl (by walk_at "fr") k)) ((kRen K).dp (Take.vl (by walk_at "fr") k)) (shaped_of (ren_lay s).1 (ren_lay s).2 (by decide)) (SeqAt.eqv_refl _ (ren_lay s).1) ?_
    refine Holds.go k ?_
    exact Ent.sub (by walk_at "sub") q
theorem ok__law_pot (T : Txt K mg a) : FnOk P w K mg base (L2.CX P w) 1 a.f__law_pot a.d__law_pot ["_law_script", "_law_k"] (aPot K) := by
  refine T.F__law_pot.okX sc__law_pot (fun vs H Q E h => ?_) (fun cdv A outer s H vs Q E hr h => ?_)
  · obtain ⟨_, _, _, _, rfl, _⟩ := h
    rfl
  · obtain ⟨sa, ns, k, F, rfl, hH, hk0, hk1, q⟩ := h
    refine ⟨_, (pss_cons (ps_set (i := 2) sc__law_pot.nd rfl (Or.inl rfl) (pe_op op_add (pe_op op_mul pe_int (pv 1)) pe_int))
      (pss_cons (ps_if (pt_cmpR op_lt (pv 1) (pe_callB (call_lenK (K := K)) (by rfl) T.z_len (by decide +kernel) (pa_cons (pv 0) pa_nil)) (nomark _)) (pss_one (ps_set (i := 2) sc__law_pot.nd rfl (Or.inl rfl) (pe_callB call_abs (by rfl) T.z_abs (by decide +kernel) (pa_cons (pe_ix ix_list (pv 0) (pv 1) (fun _ _ => rfl)) pa_nil)))) pss_nil)
      (pss_cons (ps_set (i := 3) sc__law_pot.nd rfl (Or.inl rfl) (pe_op op_add (pe_op op_add (pe_op op_mul (pe_op op_mod (pe_callTy call_int1 (by rfl) T.z_int (by decide +kernel) (pa_cons (pv 2) pa_nil)) pe_int) pe_int) (pe_op op_mul pe_int (pv 1))) pe_int))
      (pss_one (ps_ret (pe_lst (pa_cons (pe_callB (call_max2 rfl) (by rfl) T.z_max (by decide +kernel) (pa_cons pe_int (pa_cons (pe_op op_sub (pv 2) (pe_op op_pow pe_int pe_int)) pa_nil))) (pa_cons (pe_op op_add (pe_op op_mod (pe_callTy call_int1 (by rfl) T.z_int (by decide +kernel) (pa_cons (pv 3) pa_nil)) pe_int) pe_int) pa_nil)))))))), ?_⟩
    try simp only [cxOf_K]
    refine w_in (σ := [some _, some _, none, none]) rfl ?_
    refine Holds.go hH ?_
    repeat (walk_at "st")
    refine eS (fun h => ?_) (fun h => ?_)
    · obtain ⟨n, _, e, _⟩ := atI_ints hk0 h
      repeat (walk_at "st")
      exact Ent.sub (Sub.pot ⟨by split <;> omega, by omega, by omega⟩) (q _)
    · repeat (walk_at "st")
      exact Ent.sub (Sub.pot ⟨by split <;> omega, by omega, by omega⟩) (q _)
theorem ok__law_draw (T : Txt K mg a) : FnOk P w K mg base (L2.CX P w) 1 a.f__law_draw a.d__law_draw ["_law_pot_here", "_law_size"] aDraw := by
  refine T.F__law_draw.okX sc__law_draw (fun vs H Q E h => ?_) (fun cdv A outer s H vs Q E hr h => ?_)
  · obtain ⟨_, _, _, rfl, _⟩ := h
    rfl
  · obtain ⟨p, n, F, rfl, hH, hn, hn2, q⟩ := h
    refine ⟨_, (pss_cons (ps_if (pt_cmpR op_gt (pe_ix ix_list (pv 0) pe_int (fun _ _ => rfl)) pe_int (nomark _)) (pss_cons (ps_asg (pe_callB call_divK (by rfl) T.z_divmod (by decide +kernel) (pa_cons (pe_ix ix_list (pv 0) pe_int (fun _ _ => rfl)) (pa_cons (pv 1) pa_nil))) (pg_tup rfl (pgs_cons (pg_sub (pv 0) pe_int set_list) (pgs_cons (pg_name (i := 2) sc__law_draw.nd rfl (Or.inl rfl)) pgs_nil))))
      (pss_one (ps_ret (pv 2)))) pss_nil)
      (pss_cons (ps_asg (pe_op op_mod (pe_callTy call_int1 (by rfl) T.z_int (by decide +kernel) (pa_cons (pe_op op_add (pe_op op_mul (pe_ix ix_list (pv 0) pe_int (fun _ _ => rfl)) pe_int) pe_int) pa_nil)) pe_int) (pg_sub (pv 0) pe_int set_list))
      (pss_one (ps_ret (pe_op op_mod (pe_callTy call_int1 (by rfl) T.z_int (by decide +kernel) (pa_cons (pe_op op_fdiv (pe_op op_mod (pe_callTy call_int1 (by rfl) T.z_int (by decide +kernel) (pa_cons (pe_op op_mul (pe_ix ix_list (pv 0) pe_int (fun _ _ => rfl)) (pe_ix ix_list (pv 0) pe_int (fun _ _ => rfl))) pa_nil)) pe_int) pe_int) pa_nil)) (pv 1)))))), ?_⟩
    try simp only [cxOf_K]
    refine w_in (σ := [some _, some _, none]) rfl ?_
    refine Holds.go hH ?_
    refine Ent.pot fun x y hx hy hy2 => ?_
    repeat (walk_at "st")
    refine eS (fun h => ?_) (fun h => ?_)
    · repeat (walk_at "st")
      refine Ent.sub ?_ (q _ (Int.emod_nonneg _ (by omega)) (Int.emod_lt_of_pos _ hn))
      exact Sub.trans (Sub.pot ⟨Int.ediv_nonneg hx (by omega), hy, hy2⟩) (Sub.cons (Sub.drop Sub.refl))
    · repeat (walk_at "st")
      refine Ent.sub ?_ (q _ (Int.emod_nonneg _ (by omega)) (Int.emod_lt_of_pos _ hn))
      exact Sub.pot ⟨hx, by omega, by omega⟩
theorem ok__law_pick (T : Txt K mg a) : FnOk P w K mg base (L2.CX P w) 2 a.f__law_pick a.d__law_pick ["_law_pot_here", "_law_some"] (aPick K) := by
  refine T.F__law_pick.okX sc__law_pick (fun vs H Q E h => ?_) (fun cdv A outer s H vs Q E hr h => ?_)
  · obtain ⟨_, _, _, _, _, rfl, _⟩ := h
    rfl
  · obtain ⟨p, s, n, F, G, rfl, hH, h0, h1, hk, q⟩ := h
    refine ⟨_, (pss_one (ps_ret (pe_ix ix_list (pv 1) (pe_call (ok__law_draw (K := K) T) (hr.mono (by decide)) (by rfl) T.m__law_draw T.F__law_draw.kp T.b__law_draw .nil passL (pa_cons (pv 0) (pa_cons (pe_callB (call_lenK (K := K)) (by rfl) T.z_len (by decide +kernel) (pa_cons (pv 1) pa_nil)) pa_nil))) (fun _ _ => rfl)))), ?_⟩
    try simp only [cxOf_K]
    refine w_in (σ := [some _, some _]) rfl ?_
    refine Holds.go hH ?_
    repeat (walk_at "st")
    refine fun H k => ?_
    obtain ⟨us, hl, hs, _⟩ := hk H k
    refine ⟨s, us, rfl, .inl hs, ?_⟩
    dsimp only
    refine (fun (e : Ent (PotA p :: F) fun H => tNil [some (.ref p), some (.ref s)] H fun xs H2 => aDraw (.ref p :: V.int us.length :: xs) H2 (fun y H2 => rIxL K (.ref s) y H2 Q) E0) => e H k) ?_
    repeat (walk_at "st")
    refine e_draw take_here (by omega) (by omega) fun d d0 d1 => ?_
    refine fun H k => ?_
    obtain ⟨us, hl, hs, hg⟩ := hk H k
    obtain ⟨v, hv, e, e2⟩ := atI_mem (xs := us) d0 (by omega)
    exact ⟨s, us, d, v, rfl, rfl, hs, e, q d.toNat v (by omega) H (hg _ _ e2)⟩
theorem ok__law_deed (T : Txt K mg a) : FnOk P w K mg base (L2.CX P w) 3 a.f__law_deed a.d__law_deed ["_law_pot_here", "_law_many", "_law_writes"] (aDeed K) := by
  refine T.F__law_deed.okX sc__law_deed (fun vs H Q E h => ?_) (fun cdv A outer s H vs Q E hr h => ?_)
  · obtain ⟨_, _, _, _, _, rfl, _⟩ := h
    rfl
  · obtain ⟨p, l, m, ws, F, rfl, hH, hl, q⟩ := h
    refine ⟨_, (pss_cons (ps_par (i := 3) (j := 4) rfl sc__law_deed.nd rfl rfl (by decide) rfl rfl (pa_cons (pe_call (ok__law_draw (K := K) T) (hr.mono (by decide)) (by rfl) T.m__law_draw T.F__law_draw.kp T.b__law_draw .nil passL (pa_cons (pv 0) (pa_cons pe_int pa_nil))) (pa_cons (pe_lc (own := [("_law_at", 5), ("_law_one", 7)]) (g := (gTup K 2 (gCons (gName 5) (gCons (gName 7) gNil)))) rfl sc__law_deed.nd (pi_enum (by rfl) T.z_enumerate (pa_cons (pv 2) pa_nil)) (blkOk_by (N := ["_law_pot_here", "_law_many", "_law_writes", "_law_way", "_law_waiting", "_law_at", "_law_which", "_law_one"]) (sc := defScope s__law_deed) (by decide +kernel)) (fun _ _ _ _ _ => by exact (pg_tup rfl (pgs_cons (pg_name (i := 5) sc__law_deed.nd rfl (Or.inl rfl)) (pgs_cons (pg_name (i := 7) sc__law_deed.nd rfl (Or.inl rfl)) pgs_nil)))) (fun _ _ _ _ _ => (pts_one (pt_cmpR op_isN (pe_ix (ixTK (K := K)) (pv 7) pe_int (fun _ _ => rfl)) pe_non (nomark _)))) (fun _ _ _ _ _ => (pv 5))) pa_nil)) (by rfl))
      (Evl.pss_cut (ps_if (PW.pt (pw_and (pt_cmpR op_lt (pv 3) pe_int (nomark _)) (pw_and1 (pt_cmpR op_lt (pe_callB (call_lenK (K := K)) (by rfl) T.z_len (by decide +kernel) (pa_cons (pv 2) pa_nil)) (pe_op op_sub (pv 1) pe_int) (nomark _))))) (pss_one (ps_ret (pe_lst (pa_cons pe_str (pa_cons (pe_call (ok__law_draw (K := K) T) (hr.mono (by decide)) (by rfl) T.m__law_draw T.F__law_draw.kp T.b__law_draw .nil passL (pa_cons (pv 0) (pa_cons pe_int pa_nil))) pa_nil))))) pss_nil)
      (Evl.pss_cut (ps_if (PW.pt (pw_and (pt_cmpR op_lt (pv 3) pe_int (nomark _)) (pw_and1 (pt_cmpR (op_neD hr.units) (pv 4) (pe_lst pa_nil) (nomark _))))) (pss_cons (ps_set (i := 5) sc__law_deed.nd rfl (Or.inl rfl) (pe_call (ok__law_pick (K := K) T) (hr.mono (by decide)) (by rfl) T.m__law_pick T.F__law_pick.kp T.b__law_pick .nil passL (pa_cons (pv 0) (pa_cons (pv 4) pa_nil))))
      (pss_one (ps_ret (pe_lst (pa_cons pe_str (pa_cons (pv 5) (pa_cons (pe_call (ok__law_pick (K := K) T) (hr.mono (by decide)) (by rfl) T.m__law_pick T.F__law_pick.kp T.b__law_pick .nil passL (pa_cons (pv 0) (pa_cons (pe_lst (pa_cons pe_int (pa_cons pe_int (pa_cons (pe_call (ok__law_draw (K := K) T) (hr.mono (by decide)) (by rfl) T.m__law_draw T.F__law_draw.kp T.b__law_draw .nil passL (pa_cons (pv 0) (pa_cons pe_int pa_nil))) pa_nil)))) pa_nil))) pa_nil))))))) pss_nil)
      (Evl.pss_cut (ps_if (PW.pt (pw_and (pt_cmpR op_eq (pv 3) pe_int (nomark _)) (pw_and1 (pt_cmpR (op_neD hr.units) (pv 2) (pe_lst pa_nil) (nomark _))))) (pss_one (ps_ret (pe_lst (pa_cons pe_str pa_nil)))) pss_nil)
      (Evl.pss_cut (ps_if (PW.pt (pw_and (pt_cmpR (op_neD hr.units) (pv 2) (pe_lst pa_nil) (nomark _)) (pw_and1 (pt_cmpR op_notN (pe_ix ix_tup (pe_ix ix_list (pv 2) pe_int (fun _ _ => rfl)) pe_int (fun _ _ => rfl)) pe_non (nomark _))))) (pss_one (ps_ret (pe_lst (pa_cons pe_str pa_nil)))) pss_nil)
      (Evl.pss_cut (ps_if (pt_cmpR (op_eqD hr.units) (pv 2) (pe_lst pa_nil) (nomark _)) (pss_cons (ps_set (i := 6) sc__law_deed.nd rfl (Or.inl rfl) (pe_call (ok__law_draw (K := K) T) (hr.mono (by decide)) (by rfl) T.m__law_draw T.F__law_draw.kp T.b__law_draw .nil passL (pa_cons (pv 0) (pa_cons pe_int pa_nil))))
      (pss_one (ps_ret (pe_lst (pa_cons pe_str (pa_cons (pv 6) (pa_cons (pe_call (ok__law_draw (K := K) T) (hr.mono (by decide)) (by rfl) T.m__law_draw T.F__law_draw.kp T.b__law_draw .nil passL (pa_cons (pv 0) (pa_cons pe_int pa_nil))) pa_nil))))))) pss_nil)
      (pss_one (ps_ret (pe_ifExp (pt_cmpR op_eq (pv 3) pe_int (nomark _)) (pe_lst (pa_cons pe_str pa_nil)) (pe_lst (pa_cons pe_str (pa_cons (pe_call (ok__law_draw (K := K) T) (hr.mono (by decide)) (by rfl) T.m__law_draw T.F__law_draw.kp T.b__law_draw .nil passL (pa_cons (pv 0) (pa_cons pe_int pa_nil))) pa_nil)))))))))))), ?_⟩
    try simp only [cxOf_K]
    refine w_in (σ := [some _, some _, some _, none, none, none, none, none]) rfl ?_
    refine Holds.go hH ?_
    repeat (walk_at "st")
    refine e_draw (by walk_at "fr") (by decide) (by decide) fun way w0 w1 => ?_
    repeat (walk_at "st")
    refine e_lcEn (E := kW K) (xs := ws) (kI (K := K)) (fun i x => if x.2 = none then some (i : Int) else none) (by walk_at "fr") (by omega) (fun i x hx p1 v D ys r' s' h1 h2 => ?_) fun D => ?_
    · refine Ent.sub Sub.swap ?_
      obtain ⟨k, o⟩ := x
      refine Ent.vT (us := [.int k, wV o]) (fun _ h => h) fun t e => ?_
      subst e
      repeat (walk_at "st")
      cases o with
      | none =>
        refine eDT rfl ?_
        repeat (walk_at "st")
        exact Ent.sub (Sub.vl_i (fun _ _ => rfl) (by walk_at "sub")) (h1 (.int i) i (by simp))
      | some w =>
        refine eDF (by intro z; cases z) ?_
        exact Ent.sub (by walk_at "sub") (h2 (by simp))
    · have hwt := waitAt_ok ws
      have hwl := waitAt_len ws
      refine Ent.sub (M := ls (kI (K := K)) D (waitAt ws) :: PotA p :: ls (kW K) l ws :: F) Sub.refl ?_
      generalize waitAt ws = wt at hwt hwl
      repeat (walk_at "st")
      refine e_cutS (ls (kI (K := K)) D wt :: PotA p :: ls (kW K) l ws :: F) ?_ ?_
      · repeat (walk_at "st")
        refine eS (fun z => ?_) fun z => ?_
        · repeat (walk_at "st")
          refine eS (fun z2 => ?_) fun z2 => ?_
          · repeat (walk_at "st")
            refine e_draw (by walk_at "fr") (by decide) (by decide) fun k k0 k1 => ?_
            repeat (walk_at "st")
            rename_i R
            exact Ent.sub (by walk_at "sub") (q R (.lend k) ⟨k0, k1, z2⟩)
          · repeat (walk_at "st")
            exact e_end1 rfl (by walk_at "sub")
        · repeat (walk_at "st")
          exact e_end1 rfl (by walk_at "sub")
      repeat (walk_at "st")
      refine e_cutS (ls (kI (K := K)) D wt :: PotA p :: ls (kW K) l ws :: F) ?_ ?_
      · repeat (walk_at "st")
        refine eS (fun z => ?_) fun z => ?_
        · repeat (walk_at "st")
          refine e_neLs DtOk.int (E := kI (K := K)) (xs := wt) (ys := []) (by walk_at "fr") (take_ls0 (by walk_at "fr")) ?_
          repeat (walk_at "st")
          refine eNS (fun z2 => ?_) fun z2 => ?_
          · repeat (walk_at "st")
            exact e_end1 rfl (by walk_at "sub")
          · repeat (walk_at "st")
            have hpos : 0 < wt.length := by
              cases wt with
              | nil => exact (z2 rfl).elim
              | cons => simp
            refine e_pickLs (El := kI) (xs := wt) (by walk_at "fr") (by walk_at "fr") hpos (by omega) fun i x v hx => ?_
            refine Ent.vIe fun e => ?_
            subst e
            obtain ⟨x0, x1⟩ := hwt x (List.mem_of_getElem? hx)
            repeat (walk_at "st")
            refine e_draw (by walk_at "fr") (by decide) (by decide) fun w w0 w1 => ?_
            repeat (walk_at "st")
            refine e_pick (by walk_at "fr") (by walk_at "hl") (by simp) (by simp) fun j v hv => ?_
            have hv3 : ∃ n, v = .int n ∧ W16 n := by
              match j, hv with
              | 0, e => cases e; exact ⟨_, rfl, by decide, by decide⟩
              | 1, e => cases e; exact ⟨_, rfl, by decide, by decide⟩
              | 2, e => cases e; exact ⟨_, rfl, w0, w1⟩
              | j + 3, e => simp at e
            obtain ⟨n, rfl, wn⟩ := hv3
            repeat (walk_at "st")
            rename_i R
            exact Ent.sub (by walk_at "sub") (q R (.put x n) ⟨x0, x1, wn⟩)
        · repeat (walk_at "st")
          exact e_end1 rfl (by walk_at "sub")
      repeat (walk_at "st")
      refine e_cutS (ls (kI (K := K)) D wt :: PotA p :: ls (kW K) l ws :: F) ?_ ?_
      · repeat (walk_at "st")
        refine eS (fun z => ?_) fun z => ?_
        · repeat (walk_at "st")
          refine e_neLs wrOk (E := kW K) (xs := ws) (ys := []) (by walk_at "fr") (take_ls0 (by walk_at "fr")) ?_
          repeat (walk_at "st")
          refine eNS (fun z2 => ?_) fun z2 => ?_
          · repeat (walk_at "st")
            exact e_end1 rfl (by walk_at "sub")
          · repeat (walk_at "st")
            rename_i R
            exact Ent.sub (by walk_at "sub") (q R .undo z2)
        · repeat (walk_at "st")
          exact e_end1 rfl (by walk_at "sub")
      repeat (walk_at "st")
      refine e_cutS (ls (kI (K := K)) D wt :: PotA p :: ls (kW K) l ws :: F) ?_ ?_
      · repeat (walk_at "st")
        refine e_neLs wrOk (E := kW K) (xs := ws) (ys := []) (by walk_at "fr") (take_ls0 (by walk_at "fr")) ?_
        repeat (walk_at "st")
        refine eNS (fun z2 => ?_) fun z2 => ?_
        · repeat (walk_at "st")
          exact e_end1 rfl (by walk_at "sub")
        · repeat (walk_at "st")
          cases ws with
          | nil => exact (z2 rfl).elim
          | cons x r =>
          obtain ⟨k, o⟩ := x
          refine e_ixLs (E := kW K) (x := (k, o)) (by walk_at "fr") atI_0 fun v => ?_
          refine Ent.vT (us := [.int k, wV o]) (fun _ h => h) fun t e => ?_
          subst e
          repeat (walk_at "st")
          cases o with
          | none =>
            repeat (walk_at "st")
            exact e_end1 rfl (by walk_at "sub")
          | some w =>
            repeat (walk_at "st")
            rename_i R
            exact Ent.sub (by walk_at "sub") (q R .keep ⟨k, w, rfl⟩)
      repeat (walk_at "st")
      refine e_cutS (pu (ws ≠ []) :: ls (kI (K := K)) D wt :: PotA p :: ls (kW K) l ws :: F) ?_ (Ent.pu fun hne => ?_)
      · repeat (walk_at "st")
        refine e_eqLs wrOk (E := kW K) (xs := ws) (ys := []) (by walk_at "fr") (take_ls0 (by walk_at "fr")) ?_
        repeat (walk_at "st")
        refine eS (fun z2 => ?_) fun z2 => ?_
        · repeat (walk_at "st")
          refine e_draw (by walk_at "fr") (by decide) (by decide) fun k k0 k1 => ?_
          repeat (walk_at "st")
          refine e_draw (by walk_at "fr") (by decide) (by decide) fun w w0 w1 => ?_
          repeat (walk_at "st")
          rename_i R
          exact Ent.sub (by walk_at "sub") (q R (.write k w) ⟨z2, k0, k1, w0, w1⟩)
        · repeat (walk_at "st")
          exact e_end1 rfl (Sub.pu z2 (by walk_at "sub"))
      repeat (walk_at "st")
      refine eS (fun z => ?_) fun z => ?_
      · repeat (walk_at "st")
        rename_i R
        exact Ent.sub (by walk_at "sub") (q R .undo hne)
      · repeat (walk_at "st")
        refine e_draw (by walk_at "fr") (by decide) (by decide) fun k k0 k1 => ?_
        repeat (walk_at "st")
        rename_i R
        exact Ent.sub (by walk_at "sub") (q R (.look k) ⟨k0, k1⟩)
theorem ok__law_newest (T : Txt K mg a) : FnOk P w K mg base (L2.CX P w) 1 a.f__law_newest a.d__law_newest ["_law_words", "_law_writes", "_law_which"] (aNewest K) := by
  refine T.F__law_newest.okX sc__law_newest (fun vs H Q E h => ?_) (fun cdv A outer s H vs Q E hr h => ?_)
  · obtain ⟨_, _, _, _, _, _, _, rfl, _⟩ := h
    rfl
  · obtain ⟨a0, l, k, v, vals, ws, F, rfl, hH, k0, hv, q⟩ := h
    refine ⟨_, (pss_cons (ps_set (i := 3) sc__law_newest.nd rfl (Or.inl rfl) (pe_ix ix_list (pv 0) (pv 2) (fun _ _ => rfl)))
      (pss_cons (ps_for (passes_of rfl) rfl (pi_list (pv 1)) (pg_tup rfl (pgs_cons (pg_name (i := 4) sc__law_newest.nd rfl (Or.inl rfl)) (pgs_cons (pg_name (i := 5) sc__law_newest.nd rfl (Or.inl rfl)) pgs_nil)))
      (pss_one (ps_set (i := 3) sc__law_newest.nd rfl (Or.inl rfl) (pe_ifExp (pt_cmpR op_eq (pv 4) (pv 2) (nomark _)) (pv 5) (pv 3)))))
      (pss_one (ps_ret (pv 3))))), ?_⟩
    try simp only [cxOf_K]
    refine w_in (σ := [some _, some _, some _, none, none, none]) rfl ?_
    refine Holds.go hH ?_
    repeat (walk_at "st")
    refine e_listLs' (E := kW K) (xs := ws) (β := Option V × Option V) (fun i b => [some (.ref a0), some (.ref l), some (.int k), some (wV (newW (some v) (ws.take i) k)), b.1, b.2])
      (fun i b => ls (kW K) l ws :: pt a0 (.lst (vals.map V.int)) :: F) (none, none) rfl (by walk_at "sub") (fun i b => ⟨_, (by walk_at "fr")⟩) (fun i x u b hx => ?_) (fun b => ?_)
    · obtain ⟨o1, o2⟩ := b
      obtain ⟨k', w⟩ := x
      refine Ent.vT (us := [.int k', wV w]) (fun _ h => h) fun t e => ?_
      subst e
      have es : newW (some v) (ws.take (i + 1)) k = if k' = k then w else newW (some v) (ws.take i) k := by
        unfold newW
        rw [List.take_succ, hx, Option.toList_some, List.foldl_append]
        rfl
      repeat (walk_at "st")
      refine eS (fun z => ?_) fun z => ?_
      · repeat (walk_at "st")
        refine e_end (some (.int k'), some (wV w)) (by rw [es, if_pos z]; rfl) (by walk_at "sub")
      · repeat (walk_at "st")
        refine e_end (some (.int k'), some (wV w)) (by rw [es, if_neg z]; rfl) (by walk_at "sub")
    · rw [List.take_length]
      repeat (walk_at "st")
      exact Ent.sub (by walk_at "sub") q
theorem ok__law_shows (T : Txt K mg a) : FnOk P w K mg base (L2.CX P w) 10 a.f__law_shows a.d__law_shows ["_law_renamer", "_law_many", "_law_words", "_law_writes"] (aShows K a.c_Renamer) := by
  refine T.F__law_shows.okX sc__law_shows (fun vs H Q E h => ?_) (fun cdv A outer s H vs Q E hr h => ?_)
  · obtain ⟨_, _, _, _, _, _, _, rfl, _⟩ := h
    rfl
  · obtain ⟨r, a0, l, m, s, vals, F, rfl, hH, I, hm, q⟩ := h
    refine ⟨_, (pss_cons (ps_if (PW.pt (pw_or (pt_cmpR (op_neD hr.units) (pe_meth0 (pv 0) T.c_Renamer T.M_Renamer_kept_words (ok_Renamer_kept_words (K := K) T) (hr.mono (by decide)) T.b_Renamer_kept_words .nil passL) (pv 2) (nomark _)) (pw_or1 (pt_cmpR (op_neD hr.units) (pe_meth0 (pv 0) T.c_Renamer T.M_Renamer_writes (ok_Renamer_writes (K := K) T) (hr.mono (by decide)) T.b_Renamer_writes .nil passL) (pv 3) (nomark _))))) (pss_one (ps_ret pe_bl)) pss_nil)
      (pss_cons (ps_if (pt_cmpR op_ne (pe_callB call_reprS (by rfl) T.z_repr (by decide +kernel) (pa_cons (pe_prop (pv 0) T.c_Renamer T.p_Renamer_can_lend (ok_Renamer_can_lend (K := K) T) (hr.mono (by decide)) T.b_Renamer_can_lend .nil passL rfl) pa_nil)) (pe_callB call_reprS (by rfl) T.z_repr (by decide +kernel) (pa_cons (pe_cmpR op_lt (pe_callB (call_lenK (K := K)) (by rfl) T.z_len (by decide +kernel) (pa_cons (pv 3) pa_nil)) (pe_op op_sub (pv 1) pe_int) (nomark _)) pa_nil)) (nomark _)) (pss_one (ps_ret pe_bl)) pss_nil)
      (pss_cons (ps_for (passes_of rfl) rfl (pi_range1 (by rfl) T.z_range (pa_cons pe_int pa_nil)) (pg_name (i := 4) sc__law_shows.nd rfl (Or.inl rfl))
      (pss_cons (ps_par (i := 5) (j := 6) rfl sc__law_shows.nd rfl rfl (by decide) rfl rfl (pa_cons (pe_meth (pv 0) T.c_Renamer T.M_Renamer_place_of (ok_Renamer_place_of (K := K) T) (hr.mono (by decide)) T.b_Renamer_place_of .nil passL (pa_cons (pv 4) pa_nil)) (pa_cons (pe_call (ok__law_newest (K := K) T) (hr.mono (by decide)) (by rfl) T.m__law_newest T.F__law_newest.kp T.b__law_newest .nil passL (pa_cons (pv 2) (pa_cons (pv 3) (pa_cons (pv 4) pa_nil)))) pa_nil)) (by rfl))
      (pss_cons (ps_if (pt_cmpR op_ne (pe_callB call_reprS (by rfl) T.z_repr (by decide +kernel) (pa_cons (pe_meth (pv 0) T.c_Renamer T.M_Renamer_is_ready (ok_Renamer_is_ready (K := K) T) (hr.mono (by decide)) T.b_Renamer_is_ready .nil passL (pa_cons (pv 5) pa_nil)) pa_nil)) (pe_callB call_reprS (by rfl) T.z_repr (by decide +kernel) (pa_cons (pe_cmpR op_notN (pv 6) pe_non (nomark _)) pa_nil)) (nomark _)) (pss_one (ps_ret pe_bl)) pss_nil)
      (pss_one (ps_if (PW.pt (pw_and (pt_cmpR op_notN (pv 6) pe_non (nomark _)) (pw_and1 (pt_cmpR op_ne (pe_meth (pv 0) T.c_Renamer T.M_Renamer_value (ok_Renamer_value (K := K) T) (hr.mono (by decide)) T.b_Renamer_value .nil passL (pa_cons (pv 5) pa_nil)) (pv 6) (nomark _))))) (pss_one (ps_ret pe_bl)) pss_nil)))))
      (pss_one (ps_ret pe_bl))))), ?_⟩
    try simp only [cxOf_K]
    refine w_in (σ := [some _, some _, some _, some _, none, none, none]) rfl ?_
    refine Holds.go hH ?_
    have hro : ∀ c ∈ s.od, 0 ≤ c := fun c hc => (I.wf.ro c hc).1
    have hcl : ∀ x ∈ s.op, Cell s x.2.1 := fun x hx => ⟨(I.rp x hx).2.2.1.1, by rw [I.wf.lw]; exact (I.rp x hx).2.2.1.2⟩
    have hlo := I.wf.lo
    have hfo := I.wf.fo
    repeat (walk_at "st")
    refine fun H h => ⟨r, s, vals, _, rfl, Sub.to (Sub.take (by walk_at "fr") Sub.refl) h, by omega, hro, kept_allR I, fun kw => ?_⟩
    repeat (walk_at "st")
    refine e_neI (by walk_at "hl") (by walk_at "hl") ?_
    simp only [decide_true, Bool.not_true]
    repeat (walk_at "st")
    refine fun H h => ⟨r, s, _, rfl, Sub.to (Sub.take (by walk_at "fr") Sub.refl) h, hcl, by omega, fun wr => ?_⟩
    repeat (walk_at "st")
    refine e_neLs wrOk (E := kW K) (xs := writesR s) (ys := writesR s) (by walk_at "fr") (by walk_at "fr") ?_
    simp only [decide_true, Bool.not_true]
    repeat (walk_at "st")
    refine e_read (s := s) (by walk_at "fr") ?_
    repeat (walk_at "st")
    refine e_reprB ?_
    repeat (walk_at "st")
    refine e_reprB ?_
    repeat (walk_at "st")
    have e1 : (!decide (s.fr = [])) = decide (((writesR s).length : Int) < (m : Int) - 8) := by
      have := writes_len s
      cases hf : s.fr with
      | nil => simp [hf] at hfo ⊢; omega
      | cons => simp [hf] at hfo ⊢; omega
    rw [e1, bne_self_eq_false]
    repeat (walk_at "st")
    refine e_range1 (β := Option V × Option V × Option V) (fun i b => [some (.ref r), some (.int m), some (.ref a0), some (.ref l), b.1, b.2.1, b.2.2])
      (fun i b => RenA K a.c_Renamer r s :: pt a0 (.lst (vals.map V.int)) :: ls (kW K) l (writesR s) :: F) (none, none, none) (by omega) rfl (by walk_at "sub") (fun i b hi => ?_) (fun b => ?_)
    · obtain ⟨o1, o2, o3⟩ := b
      obtain ⟨c, v, h1, h2, h3, h4⟩ := I.newest i (by omega)
      repeat (walk_at "st")
      refine fun H h => ⟨r, s, i, c, _, rfl, Sub.to (Sub.take (by walk_at "fr") Sub.refl) h, ⟨by omega, by omega⟩, by simpa using h1, ?_⟩
      repeat (walk_at "st")
      refine fun H h => ⟨a0, l, i, v, vals, writesR s, _, rfl, Sub.to (Sub.take (by walk_at "fr") (Sub.take (by walk_at "fr") Sub.refl)) h, by omega, by simpa using h2, ?_⟩
      generalize newW (some v) (writesR s) i = nw at h3
      repeat (walk_at "st")
      refine e_ready (s := s) (by walk_at "fr") h4 ?_
      repeat (walk_at "st")
      refine e_reprB ?_
      repeat (walk_at "st")
      refine e_reprB ?_
      repeat (walk_at "st")
      rw [h3]
      have e2 : ((!decide (some nw = some none)) != !decide (wV nw = V.non)) = false := by cases nw <;> simp [wV]
      rw [e2]
      repeat (walk_at "st")
      cases nw with
      | none =>
        refine eNDT rfl ?_
        repeat (walk_at "st")
        exact e_end (some (.int i), some (.int c), some (wV none)) rfl (by walk_at "sub")
      | some w =>
        refine eNDF (by intro z; cases z) ?_
        repeat (walk_at "st")
        refine fun H h => ⟨r, s, c, w, _, rfl, Sub.to (Sub.take (by walk_at "fr") Sub.refl) h, h4, h3, ?_⟩
        repeat (walk_at "st")
        exact e_end (some (.int i), some (.int c), some (wV (some w))) rfl (by walk_at "sub")
    · repeat (walk_at "st")
      exact Ent.sub (by walk_at "sub") q
theorem ok__law_done (T : Txt K mg a) : FnOk P w K mg base (L2.CX P w) 11 a.f__law_done a.d__law_done ["_law_renamer", "_law_deed_here", "_law_words", "_law_writes"] (aDone K a.c_Renamer) := by
  refine T.F__law_done.okX sc__law_done (fun vs H Q E h => ?_) (fun cdv A outer s H vs Q E hr h => ?_)
  · obtain ⟨_, _, _, _, _, _, _, _, _, rfl, _⟩ := h
    rfl
  · obtain ⟨r, D, a0, l, m, s, vals, d, F, rfl, hH, I, hm, hcan, q⟩ := h
    refine ⟨_, (pss_cons (ps_set (i := 4) sc__law_done.nd rfl (Or.inl rfl) (pe_meth0 (pv 0) T.c_Renamer T.M_Renamer_lendings (ok_Renamer_lendings (K := K) T) (hr.mono (by decide)) T.b_Renamer_lendings .nil passL))
      (pss_cons (ps_if (pt_cmpR op_eq (pe_ix ix_list (pv 1) pe_int (fun _ _ => rfl)) pe_str (nomark _)) (pss_cons (ps_expr (pe_meth (pv 0) T.c_Renamer T.M_Renamer_lent (ok_Renamer_lent (K := K) T) (hr.mono (by decide)) T.b_Renamer_lent .nil passL (pa_cons (pe_ix ix_list (pv 1) pe_int (fun _ _ => rfl)) pa_nil)))
      (pss_one (ps_ret (pe_tup (pa_cons (pv 2) (pa_cons (pe_op op_cat (pv 3) (pe_lst (pa_cons (pe_tup (pa_cons (pe_ix ix_list (pv 1) pe_int (fun _ _ => rfl)) (pa_cons pe_non pa_nil))) pa_nil))) pa_nil)))))) pss_nil)
      (pss_cons (ps_if (pt_cmpR op_eq (pe_ix ix_list (pv 1) pe_int (fun _ _ => rfl)) pe_str (nomark _)) (pss_cons (ps_expr (pe_methN0 (pv 0) T.c_Renamer T.M_Renamer_put (ok_Renamer_put (K := K) T) (hr.mono (by decide)) T.kb_Renamer_put_1_at_value passL  (pk_cons (pe_ix ix_tup (pe_ix ix_list (pv 4) (pe_ix ix_list (pv 1) pe_int (fun _ _ => rfl)) (fun _ _ => rfl)) pe_int (fun _ _ => rfl)) (pk_cons (pe_ix ix_list (pv 1) pe_int (fun _ _ => rfl)) pk_nil))))
      (pss_cons (ps_set (i := 5) sc__law_done.nd rfl (Or.inl rfl) (pe_tup (pa_cons (pe_ix ix_tup (pe_ix ix_list (pv 3) (pe_ix ix_list (pv 1) pe_int (fun _ _ => rfl)) (fun _ _ => rfl)) pe_int (fun _ _ => rfl)) (pa_cons (pe_ix ix_list (pv 1) pe_int (fun _ _ => rfl)) pa_nil))))
      (pss_one (ps_ret (pe_tup (pa_cons (pv 2) (pa_cons (pe_op op_cat (pe_op op_cat (pe_slice sl_list (pv 3) po_none (po_some (pe_ix ix_list (pv 1) pe_int (fun _ _ => rfl)))) (pe_lst (pa_cons (pv 5) pa_nil))) (pe_slice sl_list (pv 3) (po_some (pe_op op_add (pe_ix ix_list (pv 1) pe_int (fun _ _ => rfl)) pe_int)) po_none)) pa_nil))))))) pss_nil)
      (pss_cons (ps_if (pt_cmpR op_eq (pe_ix ix_list (pv 1) pe_int (fun _ _ => rfl)) pe_str (nomark _)) (pss_cons (ps_asg (pe_ix ix_list (pv 4) (pe_un un_neg pe_int) (fun _ _ => rfl)) (pg_tup rfl (pgs_cons (pg_name (i := 6) sc__law_done.nd rfl (Or.inl rfl)) (pgs_cons (pg_name (i := 7) sc__law_done.nd rfl (Or.inl rfl)) (pgs_cons (pg_name (i := 8) sc__law_done.nd rfl (Or.inl rfl)) pgs_nil)))))
      (pss_cons (ps_expr (pe_meth (pv 0) T.c_Renamer T.M_Renamer_undone (ok_Renamer_undone (K := K) T) (hr.mono (by decide)) T.b_Renamer_undone .nil passL (pa_cons (pv 6) (pa_cons (pv 7) (pa_cons (pv 8) pa_nil)))))
      (pss_one (ps_ret (pe_tup (pa_cons (pv 2) (pa_cons (pe_slice sl_list (pv 3) po_none (po_some (pe_un un_neg pe_int))) pa_nil))))))) pss_nil)
      (pss_cons (ps_if (pt_cmpR op_eq (pe_ix ix_list (pv 1) pe_int (fun _ _ => rfl)) pe_str (nomark _)) (pss_cons (ps_asg (pe_ix ix_list (pv 4) pe_int (fun _ _ => rfl)) (pg_tup rfl (pgs_cons (pg_name (i := 6) sc__law_done.nd rfl (Or.inl rfl)) (pgs_cons (pg_name (i := 7) sc__law_done.nd rfl (Or.inl rfl)) (pgs_cons (pg_name (i := 8) sc__law_done.nd rfl (Or.inl rfl)) pgs_nil)))))
      (pss_cons (ps_expr (pe_methN0 (pv 0) T.c_Renamer T.M_Renamer_kept (ok_Renamer_kept (K := K) T) (hr.mono (by decide)) T.kb_Renamer_kept_1_old_new_which passL  (pk_cons (pv 8) (pk_cons (pv 7) (pk_cons (pv 6) pk_nil)))))
      (pss_cons (ps_set (i := 9) sc__law_done.nd rfl (Or.inl rfl) (pe_callTy (call_listK (K := K)) (by rfl) T.z_list (by decide +kernel) (pa_cons (pv 2) pa_nil)))
      (pss_cons (ps_asg (pe_ix ix_tup (pe_ix ix_list (pv 3) pe_int (fun _ _ => rfl)) pe_int (fun _ _ => rfl)) (pg_sub (pv 9) (pe_ix ix_tup (pe_ix ix_list (pv 3) pe_int (fun _ _ => rfl)) pe_int (fun _ _ => rfl)) set_list))
      (pss_one (ps_ret (pe_tup (pa_cons (pv 9) (pa_cons (pe_slice sl_list (pv 3) (po_some pe_int) po_none) pa_nil))))))))) pss_nil)
      (pss_cons (ps_if (pt_cmpR op_eq (pe_ix ix_list (pv 1) pe_int (fun _ _ => rfl)) pe_str (nomark _)) (pss_cons (ps_expr (pe_meth (pv 0) T.c_Renamer T.M_Renamer_written (ok_Renamer_written (K := K) T) (hr.mono (by decide)) T.b_Renamer_written .nil passL (pa_cons (pe_ix ix_list (pv 1) pe_int (fun _ _ => rfl)) (pa_cons (pe_ix ix_list (pv 1) pe_int (fun _ _ => rfl)) pa_nil))))
      (pss_cons (ps_set (i := 9) sc__law_done.nd rfl (Or.inl rfl) (pe_callTy (call_listK (K := K)) (by rfl) T.z_list (by decide +kernel) (pa_cons (pv 2) pa_nil)))
      (pss_cons (ps_asg (pe_ix ix_list (pv 1) pe_int (fun _ _ => rfl)) (pg_sub (pv 9) (pe_ix ix_list (pv 1) pe_int (fun _ _ => rfl)) set_list))
      (pss_one (ps_ret (pe_tup (pa_cons (pv 9) (pa_cons (pv 3) pa_nil)))))))) pss_nil)
      (pss_one (ps_ret (pe_tup (pa_cons (pv 2) (pa_cons (pv 3) pa_nil))))))))))), ?_⟩
    try simp only [cxOf_K]
    refine w_in (σ := [some _, some _, some _, some _, none, none, none, none, none, none]) rfl ?_
    refine Holds.go hH ?_
    have hlo := I.wf.lo
    have hfo := I.wf.fo
    have hlw := I.wf.lw
    have hwl := writes_len s
    repeat (walk_at "st")
    refine fun H h => ⟨r, s, _, rfl, Sub.to (Sub.take (by walk_at "fr") Sub.refl) h, fun lo => ?_⟩
    cases d with
    | lend k =>
      obtain ⟨k0, k1, hl⟩ := hcan
      rw [deedV]
      repeat (walk_at "st")
      have hk : k.toNat < s.nw.length := by have := I.wf.ln; omega
      cases hf : s.fr with
      | nil => simp [hf] at hfo; omega
      | cons c rest =>
      have ho : s.nw[k.toNat]? = some (s.nw.getD k.toNat 0) := by simp [hk]
      refine fun H h => ⟨r, s, k, c, _, rest, _, rfl, Sub.to (Sub.take (by walk_at "fr") Sub.refl) h, ⟨k0, k1⟩, hf, ho, by omega, fun t => ?_⟩
      repeat (walk_at "st")
      rename_i w1 w2
      refine e_catLs (E := kW K) (xs := writesR s) (ys := [(k, none)]) (by walk_at "fr") (take_ls1 (v := .ref w1) (by walk_at "fr") (vl_T (us := [.int k, .non]) (by walk_at "fr") fun _ h => ⟨w1, rfl, h⟩)) (by simp; omega) fun l2 => ?_
      repeat (walk_at "st")
      rename_i t3
      refine Ent.sub ?_ (q t3 a0 l2 _ vals (I.lent k0 k1 hf ho))
      rw [I.wr_lent hf]
      walk_at "sub"
    | put i w =>
      obtain ⟨i0, ⟨k, hk⟩, hw⟩ := hcan
      rw [deedV]
      have hop : ∃ x, s.op[i.toNat]? = some x ∧ x.1 = k ∧ s.ws.getD x.2.1.toNat none = none := by
        unfold writesR at hk
        rw [List.getElem?_map] at hk
        cases z : s.op[i.toNat]? with
        | none => rw [z] at hk; cases hk
        | some x =>
          rw [z] at hk
          have hk : some (x.1, s.ws.getD x.2.1.toNat none) = some (k, none) := hk
          injection hk with hk
          injection hk with h1 h2
          exact ⟨x, rfl, h1, h2⟩
      obtain ⟨⟨k', c, o⟩, hx, rfl, hn⟩ := hop
      have hm := List.mem_of_getElem? hx
      obtain ⟨_, _, rc, _⟩ := I.rp _ hm
      have rc : Rng m c := rc
      have hil : i < s.op.length := by have := (List.getElem?_eq_some_iff.mp hx).1; omega
      have hcn : s.ws[c.toNat]? = some none := by
        have : c.toNat < s.ws.length := by obtain ⟨q1, q2⟩ := rc; omega
        rw [List.getElem?_eq_getElem this]
        rw [List.getD_eq_getElem?_getD, List.getElem?_eq_getElem this] at hn
        exact congrArg some hn
      obtain ⟨_, _, j3, _, _⟩ := I.dj
      repeat (walk_at "st")
      rename_i v
      refine Ent.vT (us := [.int k', .int c, .int o]) (fun _ h => h) fun t e => ?_
      subst e
      repeat (walk_at "st")
      refine fun H h => ⟨r, s, c, w, _, rfl, Sub.to (Sub.take (by walk_at "fr") Sub.refl) h, ⟨rc.1, by rw [hlw]; exact rc.2⟩, hw, hcn, fun z => j3 c (news_mem hm) c z rfl, ?_⟩
      repeat (walk_at "st")
      dsimp only
      rename_i v
      refine Ent.vT (us := [.int k', .non]) (fun _ h => h) fun t e => ?_
      subst e
      repeat (walk_at "st")
      rename_i w2 l1 w1
      rw [cutA_to i0]
      refine e_catLs (E := kW K) (xs := (writesR s).take i.toNat) (ys := [(k', some w)]) (by walk_at "fr") (take_ls1 (v := .ref w2) (by walk_at "fr") (vl_T (us := [.int k', .int w]) (by walk_at "fr") fun _ h => ⟨w2, rfl, h⟩)) (by simp; omega) fun l2 => ?_
      repeat (walk_at "st")
      rename_i l3
      rw [cutA_from (by omega)]
      have hil2 : i.toNat < (writesR s).length := by omega
      refine e_catLs (E := kW K) (xs := (writesR s).take i.toNat ++ [(k', some w)]) (ys := (writesR s).drop (i + 1).toNat) (by walk_at "fr") (by walk_at "fr") (by simp; omega) fun l4 => ?_
      repeat (walk_at "st")
      rename_i t3
      have e : (writesR s).take i.toNat ++ [(k', some w)] ++ (writesR s).drop (i + 1).toNat = writesR (putR s c w) := by
        rw [I.wr_put hx, List.set_eq_take_append_cons_drop, if_pos hil2, show (i + 1).toNat = i.toNat + 1 by omega, List.append_assoc]
        rfl
      rw [e]
      exact Ent.sub (by walk_at "sub") (q t3 a0 l4 _ vals (I.put hm))
    | undo =>
      rw [deedV]
      have hne : s.op ≠ [] := fun z => hcan (by unfold writesR; rw [z]; rfl)
      obtain ⟨op, ⟨k, c, o⟩, hop⟩ : ∃ op x, s.op = op ++ [x] := ⟨s.op.dropLast, s.op.getLast hne, (List.dropLast_concat_getLast hne).symm⟩
      have hm : (k, c, o) ∈ s.op := by rw [hop]; simp
      obtain ⟨k0, k1, rc, ro⟩ := I.rp _ hm
      have rc : Rng m c := rc
      have ro : Rng m o := ro
      have hat : atI s.op (-1) = some (k, c, o) := by rw [hop]; exact atI_m1
      repeat (walk_at "st")
      rename_i v
      refine Ent.vT (us := [.int k, .int c, .int o]) (fun _ h => h) fun t e => ?_
      subst e
      repeat (walk_at "st")
      refine fun H h => ⟨r, s, k, c, o, op, _, rfl, Sub.to (Sub.take (by walk_at "fr") Sub.refl) h, ⟨k0, k1⟩, ⟨rc.1, by rw [hlw]; exact rc.2⟩, ⟨ro.1, by rw [hlw]; exact ro.2⟩, hop, I.wf.ln, by omega, ?_⟩
      repeat (walk_at "st")
      rename_i l2 t3
      have I2 := I.undone hop
      have e : cutA (writesR s) none (some (-1)) = (writesR s).dropLast := by
        unfold writesR
        rw [hop, List.map_append, List.map_singleton, cutA_init, List.dropLast_concat]
      refine Ent.sub ?_ (q t3 a0 l2 _ vals I2.1)
      rw [e, I2.2]
      walk_at "sub"
    | keep =>
      rw [deedV]
      obtain ⟨k, w, hk⟩ := hcan
      have hvl := I.vl
      obtain ⟨x, op, hop⟩ : ∃ x op, s.op = x :: op := by
        cases z : s.op with
        | nil => unfold writesR at hk; rw [z] at hk; cases hk
        | cons x op => exact ⟨x, op, rfl⟩
      obtain ⟨k', c, o⟩ := x
      have hm : (k', c, o) ∈ s.op := by rw [hop]; simp
      obtain ⟨k0, k1, rc, ro⟩ := I.rp _ hm
      have rc : Rng m c := rc
      have ro : Rng m o := ro
      have hwn : k' = k ∧ s.ws.getD c.toNat none = some w := by
        unfold writesR at hk
        rw [hop] at hk
        have hk : some (k', s.ws.getD c.toNat none) = some (k, some w) := hk
        injection hk with hk
        injection hk with h1 h2
        exact ⟨h1, h2⟩
      obtain ⟨rfl, hcw⟩ := hwn
      have hcw : s.ws[c.toNat]? = some (some w) := by
        have : c.toNat < s.ws.length := by obtain ⟨q1, q2⟩ := rc; omega
        rw [List.getElem?_eq_getElem this]
        rw [List.getD_eq_getElem?_getD, List.getElem?_eq_getElem this] at hcw
        exact congrArg some hcw
      have hat : atI s.op 0 = some (k', c, o) := by rw [hop]; exact atI_0
      have hat2 : atI (writesR s) 0 = some (k', some w) := atI_of (by decide) hk
      have k0 : 0 ≤ k' := k0
      have k1 : k' < 8 := k1
      have I2 := I.kept hop hcw
      repeat (walk_at "st")
      rename_i v
      refine Ent.vT (us := [.int k', .int c, .int o]) (fun _ h => h) fun t e => ?_
      subst e
      repeat (walk_at "st")
      refine fun H h => ⟨r, s, k', c, o, w, op, _, rfl, Sub.to (Sub.take (by walk_at "fr") Sub.refl) h, ⟨k0, k1⟩, ⟨rc.1, by rw [hlw]; exact rc.2⟩, ⟨ro.1, by rw [hlw]; exact ro.2⟩, hop, hlo, hcw, by omega, ?_⟩
      repeat (walk_at "st")
      rename_i v
      refine Ent.vT (us := [.int k', .int w]) (fun _ h => h) fun t4 e => ?_
      subst e
      repeat (walk_at "st")
      rename_i v
      refine Ent.vT (us := [.int k', .int w]) (fun _ h => h) fun t5 e => ?_
      subst e
      repeat (walk_at "st")
      rename_i kl l2 t3
      refine Ent.sub ?_ (q t3 kl l2 _ _ I2.1)
      rw [I2.2, cutA_from (by omega), show (1 : Int).toNat = 1 from rfl]
      walk_at "sub"
    | write k w =>
      obtain ⟨h0, k0, k1, hw⟩ := hcan
      rw [deedV]
      have hop : s.op = [] := by
        unfold writesR at h0
        simpa using h0
      have ho : s.od[k.toNat]? = some (s.od.getD k.toNat 0) := by
        have : k.toNat < s.od.length := by omega
        simp [this]
      obtain ⟨q1, q2⟩ := I.wf.ro _ (List.mem_of_getElem? ho)
      have I2 := I.write (w := w) hop k0 k1 ho
      have hvl := I.vl
      repeat (walk_at "st")
      refine fun H h => ⟨r, s, k, _, w, _, rfl, Sub.to (Sub.take (by walk_at "fr") Sub.refl) h, ⟨k0, k1⟩, ho, ⟨q1, by rw [hlw]; exact q2⟩, hw, hop, ?_⟩
      repeat (walk_at "st")
      rename_i kl t3
      refine Ent.sub ?_ (q t3 kl l _ _ I2.1)
      rw [h0, I2.2]
      walk_at "sub"
    | look k =>
      rw [deedV]
      repeat (walk_at "st")
      rename_i t3
      exact Ent.sub (by walk_at "sub") (q t3 a0 l s vals I)
theorem ok__law_right (T : Txt K mg a) : FnOk P w K mg base (L2.CX P w) 14 a.f__law_right a.d__law_right ["_law_pot_here"] (aLaw K) := by
  refine T.F__law_right.okX sc__law_right (fun vs H Q E h => ?_) (fun cdv A outer s H vs Q E hr h => ?_)
  · obtain ⟨_, _, rfl, _⟩ := h
    rfl
  · obtain ⟨p, F, rfl, hH, q⟩ := h
    refine ⟨_, (pss_cons (ps_set (i := 1) sc__law_right.nd rfl (Or.inl rfl) (pe_op op_add pe_int (pe_call (ok__law_draw (K := K) T) (hr.mono (by decide)) (by rfl) T.m__law_draw T.F__law_draw.kp T.b__law_draw .nil passL (pa_cons (pv 0) (pa_cons pe_int pa_nil)))))
      (pss_cons (ps_par3 (i := 2) (j := 3) (l := 4) rfl sc__law_right.nd rfl rfl rfl (by decide) (by decide) (by decide) rfl rfl rfl (pa_cons (pe_make T.k_Renamer (ok_Renamer___init__ (K := K) T) (hr.mono (by decide)) (by rfl) T.g_Renamer T.b_Renamer___init__ .nil passL (pa_cons (pv 1) pa_nil)) (pa_cons (pe_op op_rep (pe_lst (pa_cons pe_int pa_nil)) pe_int) (pa_cons (pe_lst pa_nil) pa_nil))) (by rfl))
      (pss_cons (ps_asg (pe_tup (pa_cons pe_non (pa_cons pe_non pa_nil))) (pg_tup rfl (pgs_cons (pg_name (i := 5) sc__law_right.nd rfl (Or.inl rfl)) (pgs_cons (pg_name (i := 6) sc__law_right.nd rfl (Or.inl rfl)) pgs_nil))))
      (pss_cons (ps_for (passes_of rfl) rfl (pi_range1 (by rfl) T.z_range (pa_cons pe_int pa_nil)) (pg_name (i := 7) sc__law_right.nd rfl (Or.inl rfl))
      (pss_cons (ps_set (i := 8) sc__law_right.nd rfl (Or.inl rfl) (pe_call (ok__law_deed (K := K) T) (hr.mono (by decide)) (by rfl) T.m__law_deed T.F__law_deed.kp T.b__law_deed .nil passL (pa_cons (pv 0) (pa_cons (pv 1) (pa_cons (pv 4) pa_nil)))))
      (pss_cons (ps_asg (pe_call (ok__law_done (K := K) T) (hr.mono (by decide)) (by rfl) T.m__law_done T.F__law_done.kp T.b__law_done .nil passL (pa_cons (pv 2) (pa_cons (pv 8) (pa_cons (pv 3) (pa_cons (pv 4) pa_nil))))) (pg_tup rfl (pgs_cons (pg_name (i := 3) sc__law_right.nd rfl (Or.inl rfl)) (pgs_cons (pg_name (i := 4) sc__law_right.nd rfl (Or.inl rfl)) pgs_nil))))
      (pss_cons (ps_if (pt_cmpR (op_neD hr.units) (pe_lc (own := [("_law_one", 9)]) (g := gName 9) (tt := tYes) rfl sc__law_right.nd (pi_list (pe_meth0 (pv 2) T.c_Renamer T.M_Renamer_lendings (ok_Renamer_lendings (K := K) T) (hr.mono (by decide)) T.b_Renamer_lendings .nil passL)) (blkOk_by (N := ["_law_pot_here", "_law_many", "_law_renamer", "_law_words", "_law_writes", "_law_held", "_law_shown", "_law_turn", "_law_deed_here", "_law_one", "_law_which", "_law_word"]) (sc := defScope s__law_right) (by decide +kernel)) (fun _ _ _ _ _ => (pg_name (i := 9) sc__law_right.nd rfl (Or.inl rfl))) (fun _ _ _ _ _ => pts_nil) (fun _ _ _ _ _ => (pe_ix (ixTK (K := K)) (pv 9) pe_int (fun _ _ => rfl)))) (pe_lc (own := [("_law_which", 10), ("_law_word", 11)]) (g := (gTup K 2 (gCons (gName 10) (gCons (gName 11) gNil)))) (tt := tYes) rfl sc__law_right.nd (pi_list (pv 4)) (blkOk_by (N := ["_law_pot_here", "_law_many", "_law_renamer", "_law_words", "_law_writes", "_law_held", "_law_shown", "_law_turn", "_law_deed_here", "_law_one", "_law_which", "_law_word"]) (sc := defScope s__law_right) (by decide +kernel)) (fun _ _ _ _ _ => by exact (pg_tup rfl (pgs_cons (pg_name (i := 10) sc__law_right.nd rfl (Or.inl rfl)) (pgs_cons (pg_name (i := 11) sc__law_right.nd rfl (Or.inl rfl)) pgs_nil)))) (fun _ _ _ _ _ => pts_nil) (fun _ _ _ _ _ => (pv 10))) (nomark _)) (pss_one (ps_ret pe_bl)) pss_nil)
      (pss_cons (ps_if (pt_not (pt_val (pe_call (ok__law_shows (K := K) T) (hr.mono (by decide)) (by rfl) T.m__law_shows T.F__law_shows.kp T.b__law_shows .nil passL (pa_cons (pv 2) (pa_cons (pv 1) (pa_cons (pv 3) (pa_cons (pv 4) pa_nil))))))) (pss_one (ps_ret pe_bl)) pss_nil)
      (pss_one (ps_if (pt_cmpR op_eq (pv 7) pe_int (nomark _)) (pss_one (ps_par (i := 5) (j := 6) rfl sc__law_right.nd rfl rfl (by decide) rfl rfl (pa_cons (pe_meth0 (pv 2) T.c_Renamer T.M_Renamer_copy (ok_Renamer_copy (K := K) T) (hr.mono (by decide)) T.b_Renamer_copy .nil passL) (pa_cons (pe_tup (pa_cons (pe_callTy (call_listK (K := K)) (by rfl) T.z_list (by decide +kernel) (pa_cons (pv 3) pa_nil)) (pa_cons (pe_callTy (call_listK (K := K)) (by rfl) T.z_list (by decide +kernel) (pa_cons (pv 4) pa_nil)) pa_nil))) pa_nil)) (by rfl))) pss_nil)))))))
      (pss_one (ps_ret (pe_and (pe_cmpR (op_own (ok_Renamer___eq__ (K := K) T) ⟨T.M_Renamer___eq__.at_, T.M_Renamer___eq__.fn⟩ (hr.mono (by decide)) T.b_Renamer___eq__ passL) (pv 5) (pe_meth0 (pv 5) T.c_Renamer T.M_Renamer_copy (ok_Renamer_copy (K := K) T) (hr.mono (by decide)) T.b_Renamer_copy .nil passL) (nomark _)) (pe_one (pe_call (ok__law_shows (K := K) T) (hr.mono (by decide)) (by rfl) T.m__law_shows T.F__law_shows.kp T.b__law_shows .nil passL (pa_cons (pv 5) (pa_cons (pv 1) (pa_cons (pe_ix ix_tup (pv 6) pe_int (fun _ _ => rfl)) (pa_cons (pe_ix ix_tup (pv 6) pe_int (fun _ _ => rfl)) pa_nil))))))))))))), ?_⟩
    try simp only [cxOf_K]
    refine w_in (σ := [some _, none, none, none, none, none, none, none, none, none, none, none]) rfl ?_
    refine Holds.go hH ?_
    repeat (walk_at "st")
    refine e_draw (by walk_at "fr") (by decide) (by decide) fun d d0 d1 => ?_
    repeat (walk_at "st")
    obtain ⟨m, hm⟩ : ∃ m : Nat, 9 + d = (m : Int) := ⟨(9 + d).toNat, by omega⟩
    rw [hm]
    refine fun H h => ⟨_, _, (m : Int), _, rfl, h, by omega, by omega, ?_⟩
    repeat (walk_at "st")
    rename_i r dx l8 a0 l0 t0
    have hm48 : m ≤ 48 := by omega
    have I0 := InvR.start (m := m) (by omega) hm48
    refine e_range1 (β := TurnT) (fun i b => [some (.ref p), some (.int m), some (.ref r), some (.ref b.1.2.2.1), some (.ref b.1.2.2.2), some (heldV b.2.2), some (shownV b.2.2), b.2.1.1, b.2.1.2, none, none, none])
      (fun i b => pu (InvR m b.1.1 b.1.2.1 ∧ heldOk m i b.2.2) :: RenA K a.c_Renamer r b.1.1 :: pt b.1.2.2.1 (.lst (b.1.2.1.map V.int)) :: ls (kW K) b.1.2.2.2 (writesR b.1.1) :: PotA p :: heldL K a.c_Renamer b.2.2 F) ((ren0 m, List.replicate 8 0, a0, l0), (none, none), none) (by omega) (by rfl) ?_ (fun i b hi => ?_) (fun b => ?_)
    · refine Sub.pu ⟨I0, by simp [heldOk]⟩ ?_
      dsimp only [heldL]
      have e1 : (List.replicate (Int.toNat 8) [V.int 0]).flatten = (List.replicate 8 (0 : Int)).map V.int := by rfl
      have e2 : writesR (ren0 m) = [] := rfl
      rw [e1, e2]
      refine Sub.take (by walk_at "fr") (Sub.take (by walk_at "fr") (Sub.take (take_ls0 (by walk_at "fr")) ?_))
      walk_at "sub"
    · obtain ⟨⟨s, vals, a1, l1⟩, ⟨o1, o2⟩, hd⟩ := b
      dsimp only
      refine Ent.pu fun ⟨I, hk⟩ => ?_
      have hfo := I.wf.fo
      have hwl := writes_len s
      generalize hF : heldL K a.c_Renamer hd F = F2
      generalize hv1 : heldV hd = v1
      generalize hv2 : shownV hd = v2
      repeat (walk_at "st")
      refine fun H h => ⟨p, l1, m, writesR s, _, rfl, Sub.to (Sub.take (by walk_at "fr") (Sub.take (by walk_at "fr") Sub.refl)) h, by omega, fun D dd hdd => ?_⟩
      repeat (walk_at "st")
      refine fun H h => ⟨r, D, a1, l1, m, s, vals, dd, _, rfl, Sub.to (Sub.take (by walk_at "fr") (Sub.take (by walk_at "fr") (Sub.take (by walk_at "fr") (Sub.take (by walk_at "fr") Sub.refl)))) h, I, hm48, hdd, fun t a2 l2 s2 vals2 I2 => ?_⟩
      have hfo2 := I2.wf.fo
      have hlw2 := I2.wf.lw
      have hwl2 := writes_len s2
      repeat (walk_at "st")
      refine fun H h => ⟨r, s2, _, rfl, Sub.to (Sub.take (by walk_at "fr") Sub.refl) h, fun lo => ?_⟩
      refine e_lcLs (E := kL3 K) (E' := kI) (xs := s2.op) (kp := fun x => some x.1) (by walk_at "fr") (by omega) (fun x hx v D ys r' s' h1 _ => ?_) fun D1 => ?_
      · obtain ⟨k, c, o'⟩ := x
        refine Ent.vT (us := [.int k, .int c, .int o']) (fun _ h => h) fun t e => ?_
        subst e
        repeat (walk_at "st")
        exact Ent.sub (Sub.vl_i (fun _ _ => rfl) (by walk_at "sub")) (h1 (.int k) k rfl)
      repeat (walk_at "st")
      refine e_lcLs (E := kW K) (E' := kI) (xs := writesR s2) (kp := fun x => some x.1) (by walk_at "fr") (by omega) (fun x hx v D ys r' s' h1 _ => ?_) fun D2 => ?_
      · obtain ⟨k, o'⟩ := x
        refine Ent.vT (us := [.int k, wV o']) (fun _ h => h) fun t e => ?_
        subst e
        repeat (walk_at "st")
        exact Ent.sub (Sub.vl_i (fun _ _ => rfl) (by walk_at "sub")) (h1 (.int k) k rfl)
      have e3 : s2.op.filterMap (fun x : L3 => some x.1) = (writesR s2).filterMap (fun x => some x.1) := by
        unfold writesR
        rw [List.filterMap_map]
        rfl
      rw [e3]
      generalize (writesR s2).filterMap (fun x => some x.1) = ks
      repeat (walk_at "st")
      refine e_neLs DtOk.int (E := kI) (xs := ks) (ys := ks) (by walk_at "fr") (by walk_at "fr") ?_
      simp only [decide_true, Bool.not_true]
      repeat (walk_at "st")
      refine fun H h => ⟨r, a2, l2, m, s2, vals2, _, rfl, Sub.to (Sub.take (by walk_at "fr") (Sub.take (by walk_at "fr") (Sub.take (by walk_at "fr") Sub.refl))) h, I2, hm48, ?_⟩
      repeat (walk_at "st")
      refine eS (fun z => ?_) fun z => ?_
      · repeat (walk_at "st")
        refine fun H h => ⟨r, s2, _, rfl, Sub.to (Sub.take (by walk_at "fr") Sub.refl) h, by omega, by omega, fun r2 => ?_⟩
        repeat (walk_at "st")
        rename_i a3 l3 t3
        subst hF
        refine e_end (((s2, vals2, a2, l2), (some (.int i), some (.ref D)), some (r2, t3, a3, l3, s2, vals2)) : TurnT) (by rfl) (Sub.pu ⟨I2, I2⟩ ?_)
        cases hd with
        | none =>
          dsimp only [heldL]
          walk_at "sub"
        | some hh =>
          dsimp only [heldL]
          walk_at "sub"
      · repeat (walk_at "st")
        subst hv1
        subst hv2
        subst hF
        refine e_end (((s2, vals2, a2, l2), (some (.int i), some (.ref D)), hd) : TurnT) (by rfl) (Sub.pu ⟨I2, ?_⟩ (by walk_at "sub"))
        cases hd with
        | none => exact Nat.lt_of_le_of_ne hk (by omega)
        | some => exact hk
    · obtain ⟨⟨s, vals, a1, l1⟩, ⟨o1, o2⟩, hd⟩ := b
      dsimp only
      refine Ent.pu fun ⟨I, hk⟩ => ?_
      cases hd with
      | none => exact absurd (show 40 ≤ 20 from hk) (by decide)
      | some hh =>
        obtain ⟨r2, t2, a2, l2, s2, vals2⟩ := hh
        have hk : InvR m s2 vals2 := hk
        have hfo2 := hk.wf.fo
        have hlw2 := hk.wf.lw
        simp only [heldL, heldV, shownV]
        repeat (walk_at "st")
        refine fun H h => ⟨r2, s2, _, rfl, Sub.to (Sub.take (by walk_at "fr") Sub.refl) h, by omega, by omega, fun r3 => ?_⟩
        refine e_own (ren_at (r := r2) (s := s2) (by walk_at "fr")) (ren_ty (r := r3) (s := s2) T.i_Renamer T.c_Renamer (by walk_at "fr")) T.is_Renamer ?_
        refine fun H h => ⟨r2, r3, s2, _, rfl, Sub.to (Sub.take (by walk_at "fr") (Sub.take (by walk_at "fr") Sub.refl)) h, ?_⟩
        repeat (walk_at "st")
        refine fun H h => ⟨r2, a2, l2, m, s2, vals2, _, rfl, Sub.to (Sub.take (by walk_at "fr") (Sub.take (by walk_at "fr") (Sub.take (by walk_at "fr") Sub.refl))) h, hk, hm48, ?_⟩
        repeat (walk_at "st")
        exact fun H _ => q H
theorem ok_law (T : Txt K mg a) : FnOk P w K mg base (L2.CX P w) 15 a.f_law a.d_law ["_law_script"] (sp_law K) := by
  refine T.F_law.okX sc_law (fun vs H Q E h => ?_) (fun cdv A outer s H vs Q E hr h => ?_)
  · obtain ⟨_, _, rfl, _⟩ := h
    rfl
  · obtain ⟨sa, ns, rfl, hS, hl, q⟩ := h
    have hH := holds_sq hS
    refine ⟨_, (pss_one (ps_ret (pe_call (ok__law_right (K := K) T) (hr.mono (by decide)) (by rfl) T.m__law_right T.F__law_right.kp T.b__law_right .nil passL (pa_cons (pe_call (ok__law_pot (K := K) T) (hr.mono (by decide)) (by rfl) T.m__law_pot T.F__law_pot.kp T.b__law_pot .nil passL (pa_cons (pv 0) (pa_cons pe_int pa_nil))) pa_nil)))), ?_⟩
    try simp only [cxOf_K]
    refine w_in (σ := [some _]) rfl ?_
    refine Holds.go hH ?_
    repeat (walk_at "st")
    refine e_pot (by walk_at "fr") (by decide) (by decide) fun p => ?_
    repeat (walk_at "st")
    exact fun H h => ⟨p, _, rfl, h, q⟩
end
theorem all_mk {l : PySem.W.OpenLaw} {w : World} {K : PySem.W.Frag} {h : Heap} {mg : Str → Option Value} {fa : Addr} (X : K.In h) (G : h.Ns mainGlobals mg) (hfa : mg "law" = some (.ref fa))
    {f_CoreError___init__ : Addr} {d_CoreError___init__ : FuncData} {f_is_integer : Addr} {d_is_integer : FuncData} {f_is_count : Addr} {d_is_count : FuncData} {f_want_many : Addr} {d_want_many : FuncData} {f_is_word : Addr} {d_is_word : FuncData} {f_is_register : Addr} {d_is_register : FuncData} {f_want_word : Addr} {d_want_word : FuncData} {f_want_register : Addr} {d_want_register : FuncData} {f_is_cell : Addr} {d_is_cell : FuncData} {f_want_cell : Addr} {d_want_cell : FuncData} {f_want_lending : Addr} {d_want_lending : FuncData} {f_Renamer___init__ : Addr} {d_Renamer___init__ : FuncData} {f_Renamer_can_lend : Addr} {d_Renamer_can_lend : FuncData} {p_Renamer_can_lend : Addr} {f_Renamer_place_of : Addr} {d_Renamer_place_of : FuncData} {f_Renamer_is_ready : Addr} {d_Renamer_is_ready : FuncData} {f_Renamer_value : Addr} {d_Renamer_value : FuncData} {f_Renamer_put : Addr} {d_Renamer_put : FuncData} {f_Renamer_lent : Addr} {d_Renamer_lent : FuncData} {f_Renamer_undone : Addr} {d_Renamer_undone : FuncData} {f_Renamer_kept : Addr} {d_Renamer_kept : FuncData} {f_Renamer_written : Addr} {d_Renamer_written : FuncData} {f_Renamer_kept_words : Addr} {d_Renamer_kept_words : FuncData} {f_Renamer_writes : Addr} {d_Renamer_writes : FuncData} {f_Renamer_lendings : Addr} {d_Renamer_lendings : FuncData} {f_Renamer_free : Addr} {d_Renamer_free : FuncData} {f_Renamer_copy : Addr} {d_Renamer_copy : FuncData} {f_Renamer___eq__ : Addr} {d_Renamer___eq__ : FuncData} {f_renamer_told : Addr} {d_renamer_told : FuncData} {f__law_pot : Addr} {d__law_pot : FuncData} {f__law_draw : Addr} {d__law_draw : FuncData} {f__law_pick : Addr} {d__law_pick : FuncData} {f__law_deed : Addr} {d__law_deed : FuncData} {f__law_newest : Addr} {d__law_newest : FuncData} {f__law_shows : Addr} {d__law_shows : FuncData} {f__law_done : Addr} {d__law_done : FuncData} {f__law_right : Addr} {d__law_right : FuncData} {f_law : Addr} {d_law : FuncData} {c_CoreError : Addr} {c_StateError : Addr} {c_InvalidWord : Addr} {c_InvalidRegister : Addr} {c_InvalidMany : Addr} {c_InvalidCell : Addr} {c_NotNewest : Addr} {c_NotOldest : Addr} {c_NotReady : Addr} {c_NotWaiting : Addr} {c_NothingFree : Addr} {c_StillLent : Addr} {c_Renamer : Addr} {t_MOST_WORD : Tok} {t_REGISTERS_words : Tok} {t_REGISTERS_renames : Tok} {t_LEAST_CELLS : Tok} {t_MOST_CELLS : Tok}
    (a_CoreError : PySem.W.nsIn K mainGlobals "CoreError" = some (some (.ref c_CoreError)))
    (xc_CoreError : ∃ nm q N bs sn sub ab col dd k0 k1 k2 k3 k5, K.lookup c_CoreError = some (excClassObj nm q c_CoreError N bs [.type "ValueError", .type "Exception", .type "BaseException", .type "object"] true sn sub ab col dd k0 k1 k2 k3 k5 "ValueError.__new__"))
    (xs_CoreError : PySem.W.findIn K (.ref c_CoreError) "__setattr__" = some (some (.builtin "object.__setattr__")))
    (xb_CoreError : PySem.W.subIn K (.ref c_CoreError) (.type "BaseException") = some true)
    (xy_CoreError : PySem.W.typeIn K (.ref c_CoreError) = some (.type "type"))
    (xk_CoreError : PySem.W.keepIn K (.ref c_CoreError) = true)
    (xi_CoreError : PySem.W.findIn K (.ref c_CoreError) "__init__" = some (some (.ref f_CoreError___init__)))
    (xn_CoreError_value : PySem.W.findIn K (.ref c_CoreError) "value" = some none)
    (a_StateError : PySem.W.nsIn K mainGlobals "StateError" = some (some (.ref c_StateError)))
    (a_InvalidWord : PySem.W.nsIn K mainGlobals "InvalidWord" = some (some (.ref c_InvalidWord)))
    (xc_InvalidWord : ∃ nm q N bs sn sub ab col dd k0 k1 k2 k3 k5, K.lookup c_InvalidWord = some (excClassObj nm q c_InvalidWord N bs [.ref c_CoreError, .type "ValueError", .type "Exception", .type "BaseException", .type "object"] true sn sub ab col dd k0 k1 k2 k3 k5 "ValueError.__new__"))
    (xs_InvalidWord : PySem.W.findIn K (.ref c_InvalidWord) "__setattr__" = some (some (.builtin "object.__setattr__")))
    (xb_InvalidWord : PySem.W.subIn K (.ref c_InvalidWord) (.type "BaseException") = some true)
    (xy_InvalidWord : PySem.W.typeIn K (.ref c_InvalidWord) = some (.type "type"))
    (xk_InvalidWord : PySem.W.keepIn K (.ref c_InvalidWord) = true)
    (xi_InvalidWord : PySem.W.findIn K (.ref c_InvalidWord) "__init__" = some (some (.ref f_CoreError___init__)))
    (xn_InvalidWord_value : PySem.W.findIn K (.ref c_InvalidWord) "value" = some none)
    (a_InvalidRegister : PySem.W.nsIn K mainGlobals "InvalidRegister" = some (some (.ref c_InvalidRegister)))
    (xc_InvalidRegister : ∃ nm q N bs sn sub ab col dd k0 k1 k2 k3 k5, K.lookup c_InvalidRegister = some (excClassObj nm q c_InvalidRegister N bs [.ref c_CoreError, .type "ValueError", .type "Exception", .type "BaseException", .type "object"] true sn sub ab col dd k0 k1 k2 k3 k5 "ValueError.__new__"))
    (xs_InvalidRegister : PySem.W.findIn K (.ref c_InvalidRegister) "__setattr__" = some (some (.builtin "object.__setattr__")))
    (xb_InvalidRegister : PySem.W.subIn K (.ref c_InvalidRegister) (.type "BaseException") = some true)
    (xy_InvalidRegister : PySem.W.typeIn K (.ref c_InvalidRegister) = some (.type "type"))
    (xk_InvalidRegister : PySem.W.keepIn K (.ref c_InvalidRegister) = true)
    (xi_InvalidRegister : PySem.W.findIn K (.ref c_InvalidRegister) "__init__" = some (some (.ref f_CoreError___init__)))
    (xn_InvalidRegister_value : PySem.W.findIn K (.ref c_InvalidRegister) "value" = some none)
    (a_InvalidMany : PySem.W.nsIn K mainGlobals "InvalidMany" = some (some (.ref c_InvalidMany)))
    (xc_InvalidMany : ∃ nm q N bs sn sub ab col dd k0 k1 k2 k3 k5, K.lookup c_InvalidMany = some (excClassObj nm q c_InvalidMany N bs [.ref c_CoreError, .type "ValueError", .type "Exception", .type "BaseException", .type "object"] true sn sub ab col dd k0 k1 k2 k3 k5 "ValueError.__new__"))
    (xs_InvalidMany : PySem.W.findIn K (.ref c_InvalidMany) "__setattr__" = some (some (.builtin "object.__setattr__")))
    (xb_InvalidMany : PySem.W.subIn K (.ref c_InvalidMany) (.type "BaseException") = some true)
    (xy_InvalidMany : PySem.W.typeIn K (.ref c_InvalidMany) = some (.type "type"))
    (xk_InvalidMany : PySem.W.keepIn K (.ref c_InvalidMany) = true)
    (xi_InvalidMany : PySem.W.findIn K (.ref c_InvalidMany) "__init__" = some (some (.ref f_CoreError___init__)))
    (xn_InvalidMany_value : PySem.W.findIn K (.ref c_InvalidMany) "value" = some none)
    (a_InvalidCell : PySem.W.nsIn K mainGlobals "InvalidCell" = some (some (.ref c_InvalidCell)))
    (xc_InvalidCell : ∃ nm q N bs sn sub ab col dd k0 k1 k2 k3 k5, K.lookup c_InvalidCell = some (excClassObj nm q c_InvalidCell N bs [.ref c_CoreError, .type "ValueError", .type "Exception", .type "BaseException", .type "object"] true sn sub ab col dd k0 k1 k2 k3 k5 "ValueError.__new__"))
    (xs_InvalidCell : PySem.W.findIn K (.ref c_InvalidCell) "__setattr__" = some (some (.builtin "object.__setattr__")))
    (xb_InvalidCell : PySem.W.subIn K (.ref c_InvalidCell) (.type "BaseException") = some true)
    (xy_InvalidCell : PySem.W.typeIn K (.ref c_InvalidCell) = some (.type "type"))
    (xk_InvalidCell : PySem.W.keepIn K (.ref c_InvalidCell) = true)
    (xi_InvalidCell : PySem.W.findIn K (.ref c_InvalidCell) "__init__" = some (some (.ref f_CoreError___init__)))
    (xn_InvalidCell_value : PySem.W.findIn K (.ref c_InvalidCell) "value" = some none)
    (a_NotNewest : PySem.W.nsIn K mainGlobals "NotNewest" = some (some (.ref c_NotNewest)))
    (a_NotOldest : PySem.W.nsIn K mainGlobals "NotOldest" = some (some (.ref c_NotOldest)))
    (a_NotReady : PySem.W.nsIn K mainGlobals "NotReady" = some (some (.ref c_NotReady)))
    (a_NotWaiting : PySem.W.nsIn K mainGlobals "NotWaiting" = some (some (.ref c_NotWaiting)))
    (a_NothingFree : PySem.W.nsIn K mainGlobals "NothingFree" = some (some (.ref c_NothingFree)))
    (a_StillLent : PySem.W.nsIn K mainGlobals "StillLent" = some (some (.ref c_StillLent)))
    (a_Renamer : PySem.W.nsIn K mainGlobals "Renamer" = some (some (.ref c_Renamer)))
    (pg_Renamer : PySem.W.plainGet K c_Renamer Str.empty = true)
    (hd_Renamer : PySem.W.hasDictIn K c_Renamer = true)
    (po_Renamer : PySem.W.plainOver K c_Renamer = true)
    (sa_Renamer : PySem.W.findIn K (.ref c_Renamer) "__setattr__" = some (some (.builtin "object.__setattr__")))
    (n_Renamer_own_new : PySem.W.findIn K (.ref c_Renamer) "own_new" = some none)
    (n_Renamer_own_old : PySem.W.findIn K (.ref c_Renamer) "own_old" = some none)
    (n_Renamer_own_free : PySem.W.findIn K (.ref c_Renamer) "own_free" = some none)
    (n_Renamer_own_open : PySem.W.findIn K (.ref c_Renamer) "own_open" = some none)
    (n_Renamer_own_words : PySem.W.findIn K (.ref c_Renamer) "own_words" = some none)
    (ia_Renamer : PySem.W.findIn K (.ref c_Renamer) "__class__" = some (some (.builtin "object.__class__")))
    (ib_Renamer : PySem.W.specialIn K (.builtin "object.__class__") "__get__" = some (some (.builtin "getset_descriptor.__get__")))
    (ic_Renamer : PySem.W.takesIn K (.builtin "object.__class__") = some true)
    (id_Renamer : PySem.W.mroIn K c_Renamer (.type "object") = some true)
    (mk_Renamer : PySem.W.makesIn K c_Renamer = true)
    (mi_Renamer : PySem.W.findIn K (.ref c_Renamer) "__init__" = some (some (.ref f_Renamer___init__)))
    (mf_Renamer : PySem.W.isFn K (.ref f_Renamer___init__) = true)
    (kc_Renamer : PySem.W.keepIn K (.ref c_Renamer) = true)
    (l_CoreError___init__ : ∃ oc od kV dc pm an cd ct sl, d_CoreError___init__ = PySem.W.fnOf "__init__" "CoreError.__init__" (defArgs s_CoreError___init__) (defBody s_CoreError___init__) (defScope s_CoreError___init__) .none kV dc pm an cd ct ∧ K.lookup f_CoreError___init__ = some ⟨oc, od, .func d_CoreError___init__, sl⟩ ∧ PySem.W.codeIn K cd "CoreError.__init__" = true)
    (kp_CoreError___init__ : PySem.W.keepIn K (.ref f_CoreError___init__) = true)
    (xt_CoreError___init__ : PySem.W.typeIn K (.ref f_CoreError___init__) = some (.type "function"))
    (a_is_integer : PySem.W.nsIn K mainGlobals "is_integer" = some (some (.ref f_is_integer)))
    (l_is_integer : ∃ oc od kV dc pm an cd ct sl, d_is_integer = PySem.W.fnOf "is_integer" "is_integer" (defArgs s_is_integer) (defBody s_is_integer) (defScope s_is_integer) .none kV dc pm an cd ct ∧ K.lookup f_is_integer = some ⟨oc, od, .func d_is_integer, sl⟩ ∧ PySem.W.codeIn K cd "is_integer" = true)
    (kp_is_integer : PySem.W.keepIn K (.ref f_is_integer) = true)
    (a_is_count : PySem.W.nsIn K mainGlobals "is_count" = some (some (.ref f_is_count)))
    (l_is_count : ∃ oc od kV dc pm an cd ct sl, d_is_count = PySem.W.fnOf "is_count" "is_count" (defArgs s_is_count) (defBody s_is_count) (defScope s_is_count) .none kV dc pm an cd ct ∧ K.lookup f_is_count = some ⟨oc, od, .func d_is_count, sl⟩ ∧ PySem.W.codeIn K cd "is_count" = true)
    (kp_is_count : PySem.W.keepIn K (.ref f_is_count) = true)
    (a_want_many : PySem.W.nsIn K mainGlobals "want_many" = some (some (.ref f_want_many)))
    (l_want_many : ∃ oc od kV dc pm an cd ct sl, d_want_many = PySem.W.fnOf "want_many" "want_many" (defArgs s_want_many) (defBody s_want_many) (defScope s_want_many) .none kV dc pm an cd ct ∧ K.lookup f_want_many = some ⟨oc, od, .func d_want_many, sl⟩ ∧ PySem.W.codeIn K cd "want_many" = true)
    (kp_want_many : PySem.W.keepIn K (.ref f_want_many) = true)
    (a_is_word : PySem.W.nsIn K mainGlobals "is_word" = some (some (.ref f_is_word)))
    (l_is_word : ∃ oc od kV dc pm an cd ct sl, d_is_word = PySem.W.fnOf "is_word" "is_word" (defArgs s_is_word) (defBody s_is_word) (defScope s_is_word) .none kV dc pm an cd ct ∧ K.lookup f_is_word = some ⟨oc, od, .func d_is_word, sl⟩ ∧ PySem.W.codeIn K cd "is_word" = true)
    (kp_is_word : PySem.W.keepIn K (.ref f_is_word) = true)
    (a_is_register : PySem.W.nsIn K mainGlobals "is_register" = some (some (.ref f_is_register)))
    (l_is_register : ∃ oc od kV dc pm an cd ct sl, d_is_register = PySem.W.fnOf "is_register" "is_register" (defArgs s_is_register) (defBody s_is_register) (defScope s_is_register) .none kV dc pm an cd ct ∧ K.lookup f_is_register = some ⟨oc, od, .func d_is_register, sl⟩ ∧ PySem.W.codeIn K cd "is_register" = true)
    (kp_is_register : PySem.W.keepIn K (.ref f_is_register) = true)
    (a_want_word : PySem.W.nsIn K mainGlobals "want_word" = some (some (.ref f_want_word)))
    (l_want_word : ∃ oc od kV dc pm an cd ct sl, d_want_word = PySem.W.fnOf "want_word" "want_word" (defArgs s_want_word) (defBody s_want_word) (defScope s_want_word) .none kV dc pm an cd ct ∧ K.lookup f_want_word = some ⟨oc, od, .func d_want_word, sl⟩ ∧ PySem.W.codeIn K cd "want_word" = true)
    (kp_want_word : PySem.W.keepIn K (.ref f_want_word) = true)
    (a_want_register : PySem.W.nsIn K mainGlobals "want_register" = some (some (.ref f_want_register)))
    (l_want_register : ∃ oc od kV dc pm an cd ct sl, d_want_register = PySem.W.fnOf "want_register" "want_register" (defArgs s_want_register) (defBody s_want_register) (defScope s_want_register) .none kV dc pm an cd ct ∧ K.lookup f_want_register = some ⟨oc, od, .func d_want_register, sl⟩ ∧ PySem.W.codeIn K cd "want_register" = true)
    (kp_want_register : PySem.W.keepIn K (.ref f_want_register) = true)
    (a_is_cell : PySem.W.nsIn K mainGlobals "is_cell" = some (some (.ref f_is_cell)))
    (l_is_cell : ∃ oc od kV dc pm an cd ct sl, d_is_cell = PySem.W.fnOf "is_cell" "is_cell" (defArgs s_is_cell) (defBody s_is_cell) (defScope s_is_cell) .none kV dc pm an cd ct ∧ K.lookup f_is_cell = some ⟨oc, od, .func d_is_cell, sl⟩ ∧ PySem.W.codeIn K cd "is_cell" = true)
    (kp_is_cell : PySem.W.keepIn K (.ref f_is_cell) = true)
    (a_want_cell : PySem.W.nsIn K mainGlobals "want_cell" = some (some (.ref f_want_cell)))
    (l_want_cell : ∃ oc od kV dc pm an cd ct sl, d_want_cell = PySem.W.fnOf "want_cell" "want_cell" (defArgs s_want_cell) (defBody s_want_cell) (defScope s_want_cell) .none kV dc pm an cd ct ∧ K.lookup f_want_cell = some ⟨oc, od, .func d_want_cell, sl⟩ ∧ PySem.W.codeIn K cd "want_cell" = true)
    (kp_want_cell : PySem.W.keepIn K (.ref f_want_cell) = true)
    (a_want_lending : PySem.W.nsIn K mainGlobals "want_lending" = some (some (.ref f_want_lending)))
    (l_want_lending : ∃ oc od kV dc pm an cd ct sl, d_want_lending = PySem.W.fnOf "want_lending" "want_lending" (defArgs s_want_lending) (defBody s_want_lending) (defScope s_want_lending) .none kV dc pm an cd ct ∧ K.lookup f_want_lending = some ⟨oc, od, .func d_want_lending, sl⟩ ∧ PySem.W.codeIn K cd "want_lending" = true)
    (kp_want_lending : PySem.W.keepIn K (.ref f_want_lending) = true)
    (l_Renamer___init__ : ∃ oc od kV dc pm an cd ct sl, d_Renamer___init__ = PySem.W.fnOf "__init__" "Renamer.__init__" (defArgs s_Renamer___init__) (defBody s_Renamer___init__) (defScope s_Renamer___init__) .none kV dc pm an cd ct ∧ K.lookup f_Renamer___init__ = some ⟨oc, od, .func d_Renamer___init__, sl⟩ ∧ PySem.W.codeIn K cd "Renamer.__init__" = true)
    (kp_Renamer___init__ : PySem.W.keepIn K (.ref f_Renamer___init__) = true)
    (l_Renamer_can_lend : ∃ oc od kV dc pm an cd ct sl, d_Renamer_can_lend = PySem.W.fnOf "can_lend" "Renamer.can_lend" (defArgs s_Renamer_can_lend) (defBody s_Renamer_can_lend) (defScope s_Renamer_can_lend) .none kV dc pm an cd ct ∧ K.lookup f_Renamer_can_lend = some ⟨oc, od, .func d_Renamer_can_lend, sl⟩ ∧ PySem.W.codeIn K cd "Renamer.can_lend" = true)
    (kp_Renamer_can_lend : PySem.W.keepIn K (.ref f_Renamer_can_lend) = true)
    (pa_Renamer_can_lend : PySem.W.findIn K (.ref c_Renamer) "can_lend" = some (some (.ref p_Renamer_can_lend)))
    (pb_Renamer_can_lend : PySem.W.specialIn K (.ref p_Renamer_can_lend) "__get__" = some (some (.builtin "property.__get__")))
    (pt_Renamer_can_lend : PySem.W.takesIn K (.ref p_Renamer_can_lend) = some true)
    (pr_Renamer_can_lend : ∃ rest, PySem.W.recIn K p_Renamer_can_lend "property" = some (.ref f_Renamer_can_lend :: rest))
    (l_Renamer_place_of : ∃ oc od kV dc pm an cd ct sl, d_Renamer_place_of = PySem.W.fnOf "place_of" "Renamer.place_of" (defArgs s_Renamer_place_of) (defBody s_Renamer_place_of) (defScope s_Renamer_place_of) .none kV dc pm an cd ct ∧ K.lookup f_Renamer_place_of = some ⟨oc, od, .func d_Renamer_place_of, sl⟩ ∧ PySem.W.codeIn K cd "Renamer.place_of" = true)
    (kp_Renamer_place_of : PySem.W.keepIn K (.ref f_Renamer_place_of) = true)
    (ma_Renamer_place_of : PySem.W.findIn K (.ref c_Renamer) "place_of" = some (some (.ref f_Renamer_place_of)))
    (mb_Renamer_place_of : PySem.W.isFn K (.ref f_Renamer_place_of) = true)
    (l_Renamer_is_ready : ∃ oc od kV dc pm an cd ct sl, d_Renamer_is_ready = PySem.W.fnOf "is_ready" "Renamer.is_ready" (defArgs s_Renamer_is_ready) (defBody s_Renamer_is_ready) (defScope s_Renamer_is_ready) .none kV dc pm an cd ct ∧ K.lookup f_Renamer_is_ready = some ⟨oc, od, .func d_Renamer_is_ready, sl⟩ ∧ PySem.W.codeIn K cd "Renamer.is_ready" = true)
    (kp_Renamer_is_ready : PySem.W.keepIn K (.ref f_Renamer_is_ready) = true)
    (ma_Renamer_is_ready : PySem.W.findIn K (.ref c_Renamer) "is_ready" = some (some (.ref f_Renamer_is_ready)))
    (mb_Renamer_is_ready : PySem.W.isFn K (.ref f_Renamer_is_ready) = true)
    (l_Renamer_value : ∃ oc od kV dc pm an cd ct sl, d_Renamer_value = PySem.W.fnOf "value" "Renamer.value" (defArgs s_Renamer_value) (defBody s_Renamer_value) (defScope s_Renamer_value) .none kV dc pm an cd ct ∧ K.lookup f_Renamer_value = some ⟨oc, od, .func d_Renamer_value, sl⟩ ∧ PySem.W.codeIn K cd "Renamer.value" = true)
    (kp_Renamer_value : PySem.W.keepIn K (.ref f_Renamer_value) = true)
    (ma_Renamer_value : PySem.W.findIn K (.ref c_Renamer) "value" = some (some (.ref f_Renamer_value)))
    (mb_Renamer_value : PySem.W.isFn K (.ref f_Renamer_value) = true)
    (l_Renamer_put : ∃ oc od kV dc pm an cd ct sl, d_Renamer_put = PySem.W.fnOf "put" "Renamer.put" (defArgs s_Renamer_put) (defBody s_Renamer_put) (defScope s_Renamer_put) .none kV dc pm an cd ct ∧ K.lookup f_Renamer_put = some ⟨oc, od, .func d_Renamer_put, sl⟩ ∧ PySem.W.codeIn K cd "Renamer.put" = true)
    (kp_Renamer_put : PySem.W.keepIn K (.ref f_Renamer_put) = true)
    (ma_Renamer_put : PySem.W.findIn K (.ref c_Renamer) "put" = some (some (.ref f_Renamer_put)))
    (mb_Renamer_put : PySem.W.isFn K (.ref f_Renamer_put) = true)
    (l_Renamer_lent : ∃ oc od kV dc pm an cd ct sl, d_Renamer_lent = PySem.W.fnOf "lent" "Renamer.lent" (defArgs s_Renamer_lent) (defBody s_Renamer_lent) (defScope s_Renamer_lent) .none kV dc pm an cd ct ∧ K.lookup f_Renamer_lent = some ⟨oc, od, .func d_Renamer_lent, sl⟩ ∧ PySem.W.codeIn K cd "Renamer.lent" = true)
    (kp_Renamer_lent : PySem.W.keepIn K (.ref f_Renamer_lent) = true)
    (ma_Renamer_lent : PySem.W.findIn K (.ref c_Renamer) "lent" = some (some (.ref f_Renamer_lent)))
    (mb_Renamer_lent : PySem.W.isFn K (.ref f_Renamer_lent) = true)
    (l_Renamer_undone : ∃ oc od kV dc pm an cd ct sl, d_Renamer_undone = PySem.W.fnOf "undone" "Renamer.undone" (defArgs s_Renamer_undone) (defBody s_Renamer_undone) (defScope s_Renamer_undone) .none kV dc pm an cd ct ∧ K.lookup f_Renamer_undone = some ⟨oc, od, .func d_Renamer_undone, sl⟩ ∧ PySem.W.codeIn K cd "Renamer.undone" = true)
    (kp_Renamer_undone : PySem.W.keepIn K (.ref f_Renamer_undone) = true)
    (ma_Renamer_undone : PySem.W.findIn K (.ref c_Renamer) "undone" = some (some (.ref f_Renamer_undone)))
    (mb_Renamer_undone : PySem.W.isFn K (.ref f_Renamer_undone) = true)
    (l_Renamer_kept : ∃ oc od kV dc pm an cd ct sl, d_Renamer_kept = PySem.W.fnOf "kept" "Renamer.kept" (defArgs s_Renamer_kept) (defBody s_Renamer_kept) (defScope s_Renamer_kept) .none kV dc pm an cd ct ∧ K.lookup f_Renamer_kept = some ⟨oc, od, .func d_Renamer_kept, sl⟩ ∧ PySem.W.codeIn K cd "Renamer.kept" = true)
    (kp_Renamer_kept : PySem.W.keepIn K (.ref f_Renamer_kept) = true)
    (ma_Renamer_kept : PySem.W.findIn K (.ref c_Renamer) "kept" = some (some (.ref f_Renamer_kept)))
    (mb_Renamer_kept : PySem.W.isFn K (.ref f_Renamer_kept) = true)
    (l_Renamer_written : ∃ oc od kV dc pm an cd ct sl, d_Renamer_written = PySem.W.fnOf "written" "Renamer.written" (defArgs s_Renamer_written) (defBody s_Renamer_written) (defScope s_Renamer_written) .none kV dc pm an cd ct ∧ K.lookup f_Renamer_written = some ⟨oc, od, .func d_Renamer_written, sl⟩ ∧ PySem.W.codeIn K cd "Renamer.written" = true)
    (kp_Renamer_written : PySem.W.keepIn K (.ref f_Renamer_written) = true)
    (ma_Renamer_written : PySem.W.findIn K (.ref c_Renamer) "written" = some (some (.ref f_Renamer_written)))
    (mb_Renamer_written : PySem.W.isFn K (.ref f_Renamer_written) = true)
    (l_Renamer_kept_words : ∃ oc od kV dc pm an cd ct sl, d_Renamer_kept_words = PySem.W.fnOf "kept_words" "Renamer.kept_words" (defArgs s_Renamer_kept_words) (defBody s_Renamer_kept_words) (defScope s_Renamer_kept_words) .none kV dc pm an cd ct ∧ K.lookup f_Renamer_kept_words = some ⟨oc, od, .func d_Renamer_kept_words, sl⟩ ∧ PySem.W.codeIn K cd "Renamer.kept_words" = true)
    (kp_Renamer_kept_words : PySem.W.keepIn K (.ref f_Renamer_kept_words) = true)
    (ma_Renamer_kept_words : PySem.W.findIn K (.ref c_Renamer) "kept_words" = some (some (.ref f_Renamer_kept_words)))
    (mb_Renamer_kept_words : PySem.W.isFn K (.ref f_Renamer_kept_words) = true)
    (l_Renamer_writes : ∃ oc od kV dc pm an cd ct sl, d_Renamer_writes = PySem.W.fnOf "writes" "Renamer.writes" (defArgs s_Renamer_writes) (defBody s_Renamer_writes) (defScope s_Renamer_writes) .none kV dc pm an cd ct ∧ K.lookup f_Renamer_writes = some ⟨oc, od, .func d_Renamer_writes, sl⟩ ∧ PySem.W.codeIn K cd "Renamer.writes" = true)
    (kp_Renamer_writes : PySem.W.keepIn K (.ref f_Renamer_writes) = true)
    (ma_Renamer_writes : PySem.W.findIn K (.ref c_Renamer) "writes" = some (some (.ref f_Renamer_writes)))
    (mb_Renamer_writes : PySem.W.isFn K (.ref f_Renamer_writes) = true)
    (l_Renamer_lendings : ∃ oc od kV dc pm an cd ct sl, d_Renamer_lendings = PySem.W.fnOf "lendings" "Renamer.lendings" (defArgs s_Renamer_lendings) (defBody s_Renamer_lendings) (defScope s_Renamer_lendings) .none kV dc pm an cd ct ∧ K.lookup f_Renamer_lendings = some ⟨oc, od, .func d_Renamer_lendings, sl⟩ ∧ PySem.W.codeIn K cd "Renamer.lendings" = true)
    (kp_Renamer_lendings : PySem.W.keepIn K (.ref f_Renamer_lendings) = true)
    (ma_Renamer_lendings : PySem.W.findIn K (.ref c_Renamer) "lendings" = some (some (.ref f_Renamer_lendings)))
    (mb_Renamer_lendings : PySem.W.isFn K (.ref f_Renamer_lendings) = true)
    (l_Renamer_free : ∃ oc od kV dc pm an cd ct sl, d_Renamer_free = PySem.W.fnOf "free" "Renamer.free" (defArgs s_Renamer_free) (defBody s_Renamer_free) (defScope s_Renamer_free) .none kV dc pm an cd ct ∧ K.lookup f_Renamer_free = some ⟨oc, od, .func d_Renamer_free, sl⟩ ∧ PySem.W.codeIn K cd "Renamer.free" = true)
    (kp_Renamer_free : PySem.W.keepIn K (.ref f_Renamer_free) = true)
    (ma_Renamer_free : PySem.W.findIn K (.ref c_Renamer) "free" = some (some (.ref f_Renamer_free)))
    (mb_Renamer_free : PySem.W.isFn K (.ref f_Renamer_free) = true)
    (l_Renamer_copy : ∃ oc od kV dc pm an cd ct sl, d_Renamer_copy = PySem.W.fnOf "copy" "Renamer.copy" (defArgs s_Renamer_copy) (defBody s_Renamer_copy) (defScope s_Renamer_copy) .none kV dc pm an cd ct ∧ K.lookup f_Renamer_copy = some ⟨oc, od, .func d_Renamer_copy, sl⟩ ∧ PySem.W.codeIn K cd "Renamer.copy" = true)
    (kp_Renamer_copy : PySem.W.keepIn K (.ref f_Renamer_copy) = true)
    (ma_Renamer_copy : PySem.W.findIn K (.ref c_Renamer) "copy" = some (some (.ref f_Renamer_copy)))
    (mb_Renamer_copy : PySem.W.isFn K (.ref f_Renamer_copy) = true)
    (l_Renamer___eq__ : ∃ oc od kV dc pm an cd ct sl, d_Renamer___eq__ = PySem.W.fnOf "__eq__" "Renamer.__eq__" (defArgs s_Renamer___eq__) (defBody s_Renamer___eq__) (defScope s_Renamer___eq__) .none kV dc pm an cd ct ∧ K.lookup f_Renamer___eq__ = some ⟨oc, od, .func d_Renamer___eq__, sl⟩ ∧ PySem.W.codeIn K cd "Renamer.__eq__" = true)
    (kp_Renamer___eq__ : PySem.W.keepIn K (.ref f_Renamer___eq__) = true)
    (ma_Renamer___eq__ : PySem.W.findIn K (.ref c_Renamer) "__eq__" = some (some (.ref f_Renamer___eq__)))
    (mb_Renamer___eq__ : PySem.W.isFn K (.ref f_Renamer___eq__) = true)
    (a_renamer_told : PySem.W.nsIn K mainGlobals "renamer_told" = some (some (.ref f_renamer_told)))
    (l_renamer_told : ∃ oc od kV dc pm an cd ct sl, d_renamer_told = PySem.W.fnOf "renamer_told" "renamer_told" (defArgs s_renamer_told) (defBody s_renamer_told) (defScope s_renamer_told) .none kV dc pm an cd ct ∧ K.lookup f_renamer_told = some ⟨oc, od, .func d_renamer_told, sl⟩ ∧ PySem.W.codeIn K cd "renamer_told" = true)
    (kp_renamer_told : PySem.W.keepIn K (.ref f_renamer_told) = true)
    (a__law_pot : PySem.W.nsIn K mainGlobals "_law_pot" = some (some (.ref f__law_pot)))
    (l__law_pot : ∃ oc od kV dc pm an cd ct sl, d__law_pot = PySem.W.fnOf "_law_pot" "_law_pot" (defArgs s__law_pot) (defBody s__law_pot) (defScope s__law_pot) .none kV dc pm an cd ct ∧ K.lookup f__law_pot = some ⟨oc, od, .func d__law_pot, sl⟩ ∧ PySem.W.codeIn K cd "_law_pot" = true)
    (kp__law_pot : PySem.W.keepIn K (.ref f__law_pot) = true)
    (a__law_draw : PySem.W.nsIn K mainGlobals "_law_draw" = some (some (.ref f__law_draw)))
    (l__law_draw : ∃ oc od kV dc pm an cd ct sl, d__law_draw = PySem.W.fnOf "_law_draw" "_law_draw" (defArgs s__law_draw) (defBody s__law_draw) (defScope s__law_draw) .none kV dc pm an cd ct ∧ K.lookup f__law_draw = some ⟨oc, od, .func d__law_draw, sl⟩ ∧ PySem.W.codeIn K cd "_law_draw" = true)
    (kp__law_draw : PySem.W.keepIn K (.ref f__law_draw) = true)
    (a__law_pick : PySem.W.nsIn K mainGlobals "_law_pick" = some (some (.ref f__law_pick)))
    (l__law_pick : ∃ oc od kV dc pm an cd ct sl, d__law_pick = PySem.W.fnOf "_law_pick" "_law_pick" (defArgs s__law_pick) (defBody s__law_pick) (defScope s__law_pick) .none kV dc pm an cd ct ∧ K.lookup f__law_pick = some ⟨oc, od, .func d__law_pick, sl⟩ ∧ PySem.W.codeIn K cd "_law_pick" = true)
    (kp__law_pick : PySem.W.keepIn K (.ref f__law_pick) = true)
    (a__law_deed : PySem.W.nsIn K mainGlobals "_law_deed" = some (some (.ref f__law_deed)))
    (l__law_deed : ∃ oc od kV dc pm an cd ct sl, d__law_deed = PySem.W.fnOf "_law_deed" "_law_deed" (defArgs s__law_deed) (defBody s__law_deed) (defScope s__law_deed) .none kV dc pm an cd ct ∧ K.lookup f__law_deed = some ⟨oc, od, .func d__law_deed, sl⟩ ∧ PySem.W.codeIn K cd "_law_deed" = true)
    (kp__law_deed : PySem.W.keepIn K (.ref f__law_deed) = true)
    (a__law_newest : PySem.W.nsIn K mainGlobals "_law_newest" = some (some (.ref f__law_newest)))
    (l__law_newest : ∃ oc od kV dc pm an cd ct sl, d__law_newest = PySem.W.fnOf "_law_newest" "_law_newest" (defArgs s__law_newest) (defBody s__law_newest) (defScope s__law_newest) .none kV dc pm an cd ct ∧ K.lookup f__law_newest = some ⟨oc, od, .func d__law_newest, sl⟩ ∧ PySem.W.codeIn K cd "_law_newest" = true)
    (kp__law_newest : PySem.W.keepIn K (.ref f__law_newest) = true)
    (a__law_shows : PySem.W.nsIn K mainGlobals "_law_shows" = some (some (.ref f__law_shows)))
    (l__law_shows : ∃ oc od kV dc pm an cd ct sl, d__law_shows = PySem.W.fnOf "_law_shows" "_law_shows" (defArgs s__law_shows) (defBody s__law_shows) (defScope s__law_shows) .none kV dc pm an cd ct ∧ K.lookup f__law_shows = some ⟨oc, od, .func d__law_shows, sl⟩ ∧ PySem.W.codeIn K cd "_law_shows" = true)
    (kp__law_shows : PySem.W.keepIn K (.ref f__law_shows) = true)
    (a__law_done : PySem.W.nsIn K mainGlobals "_law_done" = some (some (.ref f__law_done)))
    (l__law_done : ∃ oc od kV dc pm an cd ct sl, d__law_done = PySem.W.fnOf "_law_done" "_law_done" (defArgs s__law_done) (defBody s__law_done) (defScope s__law_done) .none kV dc pm an cd ct ∧ K.lookup f__law_done = some ⟨oc, od, .func d__law_done, sl⟩ ∧ PySem.W.codeIn K cd "_law_done" = true)
    (kp__law_done : PySem.W.keepIn K (.ref f__law_done) = true)
    (a__law_right : PySem.W.nsIn K mainGlobals "_law_right" = some (some (.ref f__law_right)))
    (l__law_right : ∃ oc od kV dc pm an cd ct sl, d__law_right = PySem.W.fnOf "_law_right" "_law_right" (defArgs s__law_right) (defBody s__law_right) (defScope s__law_right) .none kV dc pm an cd ct ∧ K.lookup f__law_right = some ⟨oc, od, .func d__law_right, sl⟩ ∧ PySem.W.codeIn K cd "_law_right" = true)
    (kp__law_right : PySem.W.keepIn K (.ref f__law_right) = true)
    (a_law : PySem.W.nsIn K mainGlobals "law" = some (some (.ref f_law)))
    (l_law : ∃ oc od kV dc pm an cd ct sl, d_law = PySem.W.fnOf "law" "law" (defArgs s_law) (defBody s_law) (defScope s_law) .none kV dc pm an cd ct ∧ K.lookup f_law = some ⟨oc, od, .func d_law, sl⟩ ∧ PySem.W.codeIn K cd "law" = true)
    (kp_law : PySem.W.keepIn K (.ref f_law) = true)
    (z_abs : PySem.W.nsIn K mainGlobals "abs" = some none)
    (z_bool : PySem.W.nsIn K mainGlobals "bool" = some none)
    (z_divmod : PySem.W.nsIn K mainGlobals "divmod" = some none)
    (z_enumerate : PySem.W.nsIn K mainGlobals "enumerate" = some none)
    (z_int : PySem.W.nsIn K mainGlobals "int" = some none)
    (z_isinstance : PySem.W.nsIn K mainGlobals "isinstance" = some none)
    (z_len : PySem.W.nsIn K mainGlobals "len" = some none)
    (z_list : PySem.W.nsIn K mainGlobals "list" = some none)
    (z_max : PySem.W.nsIn K mainGlobals "max" = some none)
    (z_range : PySem.W.nsIn K mainGlobals "range" = some none)
    (z_repr : PySem.W.nsIn K mainGlobals "repr" = some none)
    (z_tuple : PySem.W.nsIn K mainGlobals "tuple" = some none)
    (v_MOST_WORD : PySem.W.nsIn K mainGlobals "MOST_WORD" = some (some (.int 65536 t_MOST_WORD)))
    (v_REGISTERS_words : PySem.W.nsIn K mainGlobals "REGISTERS_words" = some (some (.int 8 t_REGISTERS_words)))
    (v_REGISTERS_renames : PySem.W.nsIn K mainGlobals "REGISTERS_renames" = some (some (.int 8 t_REGISTERS_renames)))
    (v_LEAST_CELLS : PySem.W.nsIn K mainGlobals "LEAST_CELLS" = some (some (.int 9 t_LEAST_CELLS)))
    (v_MOST_CELLS : PySem.W.nsIn K mainGlobals "MOST_CELLS" = some (some (.int 48 t_MOST_CELLS)))
    : ∃ fd : FuncData, (∀ (s : Shared) (v : Value), BindsTo s fd ⟨[v], []⟩ [("_law_script", v)]) ∧ ∀ base : Heap, K.In base → base.Ns mainGlobals mg → FnOk l.prog w K mg base (L2.CX l.prog w) 15 fa fd ["_law_script"] (sp_law K) := by
  have T : Txt K mg ⟨f_CoreError___init__, d_CoreError___init__, f_is_integer, d_is_integer, f_is_count, d_is_count, f_want_many, d_want_many, f_is_word, d_is_word, f_is_register, d_is_register, f_want_word, d_want_word, f_want_register, d_want_register, f_is_cell, d_is_cell, f_want_cell, d_want_cell, f_want_lending, d_want_lending, f_Renamer___init__, d_Renamer___init__, f_Renamer_can_lend, d_Renamer_can_lend, p_Renamer_can_lend, f_Renamer_place_of, d_Renamer_place_of, f_Renamer_is_ready, d_Renamer_is_ready, f_Renamer_value, d_Renamer_value, f_Renamer_put, d_Renamer_put, f_Renamer_lent, d_Renamer_lent, f_Renamer_undone, d_Renamer_undone, f_Renamer_kept, d_Renamer_kept, f_Renamer_written, d_Renamer_written, f_Renamer_kept_words, d_Renamer_kept_words, f_Renamer_writes, d_Renamer_writes, f_Renamer_lendings, d_Renamer_lendings, f_Renamer_free, d_Renamer_free, f_Renamer_copy, d_Renamer_copy, f_Renamer___eq__, d_Renamer___eq__, f_renamer_told, d_renamer_told, f__law_pot, d__law_pot, f__law_draw, d__law_draw, f__law_pick, d__law_pick, f__law_deed, d__law_deed, f__law_newest, d__law_newest, f__law_shows, d__law_shows, f__law_done, d__law_done, f__law_right, d__law_right, f_law, d_law, c_CoreError, c_StateError, c_InvalidWord, c_InvalidRegister, c_InvalidMany, c_InvalidCell, c_NotNewest, c_NotOldest, c_NotReady, c_NotWaiting, c_NothingFree, c_StillLent, c_Renamer, t_MOST_WORD, t_REGISTERS_words, t_REGISTERS_renames, t_LEAST_CELLS, t_MOST_CELLS⟩ := {
    g_CoreError := PySem.W.mg_of X G a_CoreError,
    x_CoreError := (by obtain ⟨nm, q, N, bs, sn, sub, ab, col, dd, k0, k1, k2, k3, k5, e⟩ := xc_CoreError; exact ⟨⟨nm, q, N, bs, _, sn, sub, ab, col, dd, k0, k1, k2, k3, k5, e, by simp [PySem.HandSPX.refsVE]⟩, xs_CoreError, xb_CoreError, xy_CoreError, xk_CoreError⟩),
    xi_CoreError := xi_CoreError,
    xn_CoreError_value := xn_CoreError_value,
    g_StateError := PySem.W.mg_of X G a_StateError,
    g_InvalidWord := PySem.W.mg_of X G a_InvalidWord,
    x_InvalidWord := (by obtain ⟨nm, q, N, bs, sn, sub, ab, col, dd, k0, k1, k2, k3, k5, e⟩ := xc_InvalidWord; exact ⟨⟨nm, q, N, bs, _, sn, sub, ab, col, dd, k0, k1, k2, k3, k5, e, by simp [PySem.HandSPX.refsVE]⟩, xs_InvalidWord, xb_InvalidWord, xy_InvalidWord, xk_InvalidWord⟩),
    xi_InvalidWord := xi_InvalidWord,
    xn_InvalidWord_value := xn_InvalidWord_value,
    g_InvalidRegister := PySem.W.mg_of X G a_InvalidRegister,
    x_InvalidRegister := (by obtain ⟨nm, q, N, bs, sn, sub, ab, col, dd, k0, k1, k2, k3, k5, e⟩ := xc_InvalidRegister; exact ⟨⟨nm, q, N, bs, _, sn, sub, ab, col, dd, k0, k1, k2, k3, k5, e, by simp [PySem.HandSPX.refsVE]⟩, xs_InvalidRegister, xb_InvalidRegister, xy_InvalidRegister, xk_InvalidRegister⟩),
    xi_InvalidRegister := xi_InvalidRegister,
    xn_InvalidRegister_value := xn_InvalidRegister_value,
    g_InvalidMany := PySem.W.mg_of X G a_InvalidMany,
    x_InvalidMany := (by obtain ⟨nm, q, N, bs, sn, sub, ab, col, dd, k0, k1, k2, k3, k5, e⟩ := xc_InvalidMany; exact ⟨⟨nm, q, N, bs, _, sn, sub, ab, col, dd, k0, k1, k2, k3, k5, e, by simp [PySem.HandSPX.refsVE]⟩, xs_InvalidMany, xb_InvalidMany, xy_InvalidMany, xk_InvalidMany⟩),
    xi_InvalidMany := xi_InvalidMany,
    xn_InvalidMany_value := xn_InvalidMany_value,
    g_InvalidCell := PySem.W.mg_of X G a_InvalidCell,
    x_InvalidCell := (by obtain ⟨nm, q, N, bs, sn, sub, ab, col, dd, k0, k1, k2, k3, k5, e⟩ := xc_InvalidCell; exact ⟨⟨nm, q, N, bs, _, sn, sub, ab, col, dd, k0, k1, k2, k3, k5, e, by simp [PySem.HandSPX.refsVE]⟩, xs_InvalidCell, xb_InvalidCell, xy_InvalidCell, xk_InvalidCell⟩),
    xi_InvalidCell := xi_InvalidCell,
    xn_InvalidCell_value := xn_InvalidCell_value,
    g_NotNewest := PySem.W.mg_of X G a_NotNewest,
    g_NotOldest := PySem.W.mg_of X G a_NotOldest,
    g_NotReady := PySem.W.mg_of X G a_NotReady,
    g_NotWaiting := PySem.W.mg_of X G a_NotWaiting,
    g_NothingFree := PySem.W.mg_of X G a_NothingFree,
    g_StillLent := PySem.W.mg_of X G a_StillLent,
    g_Renamer := PySem.W.mg_of X G a_Renamer,
    c_Renamer := ⟨pg_Renamer, hd_Renamer, po_Renamer, sa_Renamer⟩,
    n_Renamer_own_new := n_Renamer_own_new,
    n_Renamer_own_old := n_Renamer_own_old,
    n_Renamer_own_free := n_Renamer_own_free,
    n_Renamer_own_open := n_Renamer_own_open,
    n_Renamer_own_words := n_Renamer_own_words,
    i_Renamer := ⟨ia_Renamer, ib_Renamer, ic_Renamer, id_Renamer⟩,
    is_Renamer := (by simp [PySem.W.notFirst]),
    io_Renamer := (by simp [PySem.W.kitOne]),
    k_Renamer := ⟨mk_Renamer, mi_Renamer, mf_Renamer, kc_Renamer⟩,
    F_CoreError___init__ := ⟨l_CoreError___init__, kp_CoreError___init__⟩,
    b_CoreError___init__ := (Fun.binds (st := s_CoreError___init__) ⟨l_CoreError___init__, kp_CoreError___init__⟩ fun _ _ _ _ _ _ us hl => match us, hl with | [_, _], _ => rfl),
    xt_CoreError___init__ := xt_CoreError___init__,
    m_is_integer := PySem.W.mg_of X G a_is_integer,
    F_is_integer := ⟨l_is_integer, kp_is_integer⟩,
    b_is_integer := (Fun.binds (st := s_is_integer) ⟨l_is_integer, kp_is_integer⟩ fun _ _ _ _ _ _ us hl => match us, hl with | [_], _ => rfl),
    m_is_count := PySem.W.mg_of X G a_is_count,
    F_is_count := ⟨l_is_count, kp_is_count⟩,
    b_is_count := (Fun.binds (st := s_is_count) ⟨l_is_count, kp_is_count⟩ fun _ _ _ _ _ _ us hl => match us, hl with | [_], _ => rfl),
    m_want_many := PySem.W.mg_of X G a_want_many,
    F_want_many := ⟨l_want_many, kp_want_many⟩,
    b_want_many := (Fun.binds (st := s_want_many) ⟨l_want_many, kp_want_many⟩ fun _ _ _ _ _ _ us hl => match us, hl with | [_, _, _], _ => rfl),
    m_is_word := PySem.W.mg_of X G a_is_word,
    F_is_word := ⟨l_is_word, kp_is_word⟩,
    b_is_word := (Fun.binds (st := s_is_word) ⟨l_is_word, kp_is_word⟩ fun _ _ _ _ _ _ us hl => match us, hl with | [_], _ => rfl),
    m_is_register := PySem.W.mg_of X G a_is_register,
    F_is_register := ⟨l_is_register, kp_is_register⟩,
    b_is_register := (Fun.binds (st := s_is_register) ⟨l_is_register, kp_is_register⟩ fun _ _ _ _ _ _ us hl => match us, hl with | [_], _ => rfl),
    m_want_word := PySem.W.mg_of X G a_want_word,
    F_want_word := ⟨l_want_word, kp_want_word⟩,
    b_want_word := (Fun.binds (st := s_want_word) ⟨l_want_word, kp_want_word⟩ fun _ _ _ _ _ _ us hl => match us, hl with | [_], _ => rfl),
    m_want_register := PySem.W.mg_of X G a_want_register,
    F_want_register := ⟨l_want_register, kp_want_register⟩,
    b_want_register := (Fun.binds (st := s_want_register) ⟨l_want_register, kp_want_register⟩ fun _ _ _ _ _ _ us hl => match us, hl with | [_], _ => rfl),
    m_is_cell := PySem.W.mg_of X G a_is_cell,
    F_is_cell := ⟨l_is_cell, kp_is_cell⟩,
    b_is_cell := (Fun.binds (st := s_is_cell) ⟨l_is_cell, kp_is_cell⟩ fun _ _ _ _ _ _ us hl => match us, hl with | [_, _], _ => rfl),
    m_want_cell := PySem.W.mg_of X G a_want_cell,
    F_want_cell := ⟨l_want_cell, kp_want_cell⟩,
    b_want_cell := (Fun.binds (st := s_want_cell) ⟨l_want_cell, kp_want_cell⟩ fun _ _ _ _ _ _ us hl => match us, hl with | [_, _], _ => rfl),
    m_want_lending := PySem.W.mg_of X G a_want_lending,
    F_want_lending := ⟨l_want_lending, kp_want_lending⟩,
    b_want_lending := (Fun.binds (st := s_want_lending) ⟨l_want_lending, kp_want_lending⟩ fun _ _ _ _ _ _ us hl => match us, hl with | [_, _, _, _], _ => rfl),
    F_Renamer___init__ := ⟨l_Renamer___init__, kp_Renamer___init__⟩,
    b_Renamer___init__ := (Fun.binds (st := s_Renamer___init__) ⟨l_Renamer___init__, kp_Renamer___init__⟩ fun _ _ _ _ _ _ us hl => match us, hl with | [_, _], _ => rfl),
    F_Renamer_can_lend := ⟨l_Renamer_can_lend, kp_Renamer_can_lend⟩,
    b_Renamer_can_lend := (Fun.binds (st := s_Renamer_can_lend) ⟨l_Renamer_can_lend, kp_Renamer_can_lend⟩ fun _ _ _ _ _ _ us hl => match us, hl with | [_], _ => rfl),
    p_Renamer_can_lend := ⟨pa_Renamer_can_lend, pb_Renamer_can_lend, pt_Renamer_can_lend, pr_Renamer_can_lend⟩,
    F_Renamer_place_of := ⟨l_Renamer_place_of, kp_Renamer_place_of⟩,
    b_Renamer_place_of := (Fun.binds (st := s_Renamer_place_of) ⟨l_Renamer_place_of, kp_Renamer_place_of⟩ fun _ _ _ _ _ _ us hl => match us, hl with | [_, _], _ => rfl),
    M_Renamer_place_of := ⟨ma_Renamer_place_of, mb_Renamer_place_of, kp_Renamer_place_of⟩,
    F_Renamer_is_ready := ⟨l_Renamer_is_ready, kp_Renamer_is_ready⟩,
    b_Renamer_is_ready := (Fun.binds (st := s_Renamer_is_ready) ⟨l_Renamer_is_ready, kp_Renamer_is_ready⟩ fun _ _ _ _ _ _ us hl => match us, hl with | [_, _], _ => rfl),
    M_Renamer_is_ready := ⟨ma_Renamer_is_ready, mb_Renamer_is_ready, kp_Renamer_is_ready⟩,
    F_Renamer_value := ⟨l_Renamer_value, kp_Renamer_value⟩,
    b_Renamer_value := (Fun.binds (st := s_Renamer_value) ⟨l_Renamer_value, kp_Renamer_value⟩ fun _ _ _ _ _ _ us hl => match us, hl with | [_, _], _ => rfl),
    M_Renamer_value := ⟨ma_Renamer_value, mb_Renamer_value, kp_Renamer_value⟩,
    F_Renamer_put := ⟨l_Renamer_put, kp_Renamer_put⟩,
    b_Renamer_put := (Fun.binds (st := s_Renamer_put) ⟨l_Renamer_put, kp_Renamer_put⟩ fun _ _ _ _ _ _ us hl => match us, hl with | [_, _, _], _ => rfl),
    M_Renamer_put := ⟨ma_Renamer_put, mb_Renamer_put, kp_Renamer_put⟩,
    F_Renamer_lent := ⟨l_Renamer_lent, kp_Renamer_lent⟩,
    b_Renamer_lent := (Fun.binds (st := s_Renamer_lent) ⟨l_Renamer_lent, kp_Renamer_lent⟩ fun _ _ _ _ _ _ us hl => match us, hl with | [_, _], _ => rfl),
    M_Renamer_lent := ⟨ma_Renamer_lent, mb_Renamer_lent, kp_Renamer_lent⟩,
    F_Renamer_undone := ⟨l_Renamer_undone, kp_Renamer_undone⟩,
    b_Renamer_undone := (Fun.binds (st := s_Renamer_undone) ⟨l_Renamer_undone, kp_Renamer_undone⟩ fun _ _ _ _ _ _ us hl => match us, hl with | [_, _, _, _], _ => rfl),
    M_Renamer_undone := ⟨ma_Renamer_undone, mb_Renamer_undone, kp_Renamer_undone⟩,
    F_Renamer_kept := ⟨l_Renamer_kept, kp_Renamer_kept⟩,
    b_Renamer_kept := (Fun.binds (st := s_Renamer_kept) ⟨l_Renamer_kept, kp_Renamer_kept⟩ fun _ _ _ _ _ _ us hl => match us, hl with | [_, _, _, _], _ => rfl),
    M_Renamer_kept := ⟨ma_Renamer_kept, mb_Renamer_kept, kp_Renamer_kept⟩,
    F_Renamer_written := ⟨l_Renamer_written, kp_Renamer_written⟩,
    b_Renamer_written := (Fun.binds (st := s_Renamer_written) ⟨l_Renamer_written, kp_Renamer_written⟩ fun _ _ _ _ _ _ us hl => match us, hl with | [_, _, _], _ => rfl),
    M_Renamer_written := ⟨ma_Renamer_written, mb_Renamer_written, kp_Renamer_written⟩,
    F_Renamer_kept_words := ⟨l_Renamer_kept_words, kp_Renamer_kept_words⟩,
    b_Renamer_kept_words := (Fun.binds (st := s_Renamer_kept_words) ⟨l_Renamer_kept_words, kp_Renamer_kept_words⟩ fun _ _ _ _ _ _ us hl => match us, hl with | [_], _ => rfl),
    M_Renamer_kept_words := ⟨ma_Renamer_kept_words, mb_Renamer_kept_words, kp_Renamer_kept_words⟩,
    F_Renamer_writes := ⟨l_Renamer_writes, kp_Renamer_writes⟩,
    b_Renamer_writes := (Fun.binds (st := s_Renamer_writes) ⟨l_Renamer_writes, kp_Renamer_writes⟩ fun _ _ _ _ _ _ us hl => match us, hl with | [_], _ => rfl),
    M_Renamer_writes := ⟨ma_Renamer_writes, mb_Renamer_writes, kp_Renamer_writes⟩,
    F_Renamer_lendings := ⟨l_Renamer_lendings, kp_Renamer_lendings⟩,
    b_Renamer_lendings := (Fun.binds (st := s_Renamer_lendings) ⟨l_Renamer_lendings, kp_Renamer_lendings⟩ fun _ _ _ _ _ _ us hl => match us, hl with | [_], _ => rfl),
    M_Renamer_lendings := ⟨ma_Renamer_lendings, mb_Renamer_lendings, kp_Renamer_lendings⟩,
    F_Renamer_free := ⟨l_Renamer_free, kp_Renamer_free⟩,
    b_Renamer_free := (Fun.binds (st := s_Renamer_free) ⟨l_Renamer_free, kp_Renamer_free⟩ fun _ _ _ _ _ _ us hl => match us, hl with | [_], _ => rfl),
    M_Renamer_free := ⟨ma_Renamer_free, mb_Renamer_free, kp_Renamer_free⟩,
    F_Renamer_copy := ⟨l_Renamer_copy, kp_Renamer_copy⟩,
    b_Renamer_copy := (Fun.binds (st := s_Renamer_copy) ⟨l_Renamer_copy, kp_Renamer_copy⟩ fun _ _ _ _ _ _ us hl => match us, hl with | [_], _ => rfl),
    M_Renamer_copy := ⟨ma_Renamer_copy, mb_Renamer_copy, kp_Renamer_copy⟩,
    F_Renamer___eq__ := ⟨l_Renamer___eq__, kp_Renamer___eq__⟩,
    b_Renamer___eq__ := (Fun.binds (st := s_Renamer___eq__) ⟨l_Renamer___eq__, kp_Renamer___eq__⟩ fun _ _ _ _ _ _ us hl => match us, hl with | [_, _], _ => rfl),
    M_Renamer___eq__ := ⟨ma_Renamer___eq__, mb_Renamer___eq__, kp_Renamer___eq__⟩,
    m_renamer_told := PySem.W.mg_of X G a_renamer_told,
    F_renamer_told := ⟨l_renamer_told, kp_renamer_told⟩,
    b_renamer_told := (Fun.binds (st := s_renamer_told) ⟨l_renamer_told, kp_renamer_told⟩ fun _ _ _ _ _ _ us hl => match us, hl with | [_], _ => rfl),
    m__law_pot := PySem.W.mg_of X G a__law_pot,
    F__law_pot := ⟨l__law_pot, kp__law_pot⟩,
    b__law_pot := (Fun.binds (st := s__law_pot) ⟨l__law_pot, kp__law_pot⟩ fun _ _ _ _ _ _ us hl => match us, hl with | [_, _], _ => rfl),
    m__law_draw := PySem.W.mg_of X G a__law_draw,
    F__law_draw := ⟨l__law_draw, kp__law_draw⟩,
    b__law_draw := (Fun.binds (st := s__law_draw) ⟨l__law_draw, kp__law_draw⟩ fun _ _ _ _ _ _ us hl => match us, hl with | [_, _], _ => rfl),
    m__law_pick := PySem.W.mg_of X G a__law_pick,
    F__law_pick := ⟨l__law_pick, kp__law_pick⟩,
    b__law_pick := (Fun.binds (st := s__law_pick) ⟨l__law_pick, kp__law_pick⟩ fun _ _ _ _ _ _ us hl => match us, hl with | [_, _], _ => rfl),
    m__law_deed := PySem.W.mg_of X G a__law_deed,
    F__law_deed := ⟨l__law_deed, kp__law_deed⟩,
    b__law_deed := (Fun.binds (st := s__law_deed) ⟨l__law_deed, kp__law_deed⟩ fun _ _ _ _ _ _ us hl => match us, hl with | [_, _, _], _ => rfl),
    m__law_newest := PySem.W.mg_of X G a__law_newest,
    F__law_newest := ⟨l__law_newest, kp__law_newest⟩,
    b__law_newest := (Fun.binds (st := s__law_newest) ⟨l__law_newest, kp__law_newest⟩ fun _ _ _ _ _ _ us hl => match us, hl with | [_, _, _], _ => rfl),
    m__law_shows := PySem.W.mg_of X G a__law_shows,
    F__law_shows := ⟨l__law_shows, kp__law_shows⟩,
    b__law_shows := (Fun.binds (st := s__law_shows) ⟨l__law_shows, kp__law_shows⟩ fun _ _ _ _ _ _ us hl => match us, hl with | [_, _, _, _], _ => rfl),
    m__law_done := PySem.W.mg_of X G a__law_done,
    F__law_done := ⟨l__law_done, kp__law_done⟩,
    b__law_done := (Fun.binds (st := s__law_done) ⟨l__law_done, kp__law_done⟩ fun _ _ _ _ _ _ us hl => match us, hl with | [_, _, _, _], _ => rfl),
    m__law_right := PySem.W.mg_of X G a__law_right,
    F__law_right := ⟨l__law_right, kp__law_right⟩,
    b__law_right := (Fun.binds (st := s__law_right) ⟨l__law_right, kp__law_right⟩ fun _ _ _ _ _ _ us hl => match us, hl with | [_], _ => rfl),
    m_law := PySem.W.mg_of X G a_law,
    F_law := ⟨l_law, kp_law⟩,
    b_law := (Fun.binds (st := s_law) ⟨l_law, kp_law⟩ fun _ _ _ _ _ _ us hl => match us, hl with | [_], _ => rfl),
    kb_Renamer_kept_1_old_new_which := (kbn_of (st := s_Renamer_kept) ⟨l_Renamer_kept, kp_Renamer_kept⟩ (fun _ _ _ _ _ _ us ws h1 h2 => match us, h1, ws, h2 with | [_], _, [_, _, _], _ => rfl) (fun r1 r2 => .cons (vals_getD r1 0) (.cons (vals_getD r2 2) (.cons (vals_getD r2 1) (.cons (vals_getD r2 0) (.nil)))))),
    kb_Renamer_put_1_at_value := (kbn_of (st := s_Renamer_put) ⟨l_Renamer_put, kp_Renamer_put⟩ (fun _ _ _ _ _ _ us ws h1 h2 => match us, h1, ws, h2 with | [_], _, [_, _], _ => rfl) (fun r1 r2 => .cons (vals_getD r1 0) (.cons (vals_getD r2 0) (.cons (vals_getD r2 1) (.nil))))),
    z_abs := PySem.W.mg_none_of X G z_abs,
    z_bool := PySem.W.mg_none_of X G z_bool,
    z_divmod := PySem.W.mg_none_of X G z_divmod,
    z_enumerate := PySem.W.mg_none_of X G z_enumerate,
    z_int := PySem.W.mg_none_of X G z_int,
    z_isinstance := PySem.W.mg_none_of X G z_isinstance,
    z_len := PySem.W.mg_none_of X G z_len,
    z_list := PySem.W.mg_none_of X G z_list,
    z_max := PySem.W.mg_none_of X G z_max,
    z_range := PySem.W.mg_none_of X G z_range,
    z_repr := PySem.W.mg_none_of X G z_repr,
    z_tuple := PySem.W.mg_none_of X G z_tuple,
    v_MOST_WORD := PySem.W.mg_of X G v_MOST_WORD,
    v_REGISTERS_words := PySem.W.mg_of X G v_REGISTERS_words,
    v_REGISTERS_renames := PySem.W.mg_of X G v_REGISTERS_renames,
    v_LEAST_CELLS := PySem.W.mg_of X G v_LEAST_CELLS,
    v_MOST_CELLS := PySem.W.mg_of X G v_MOST_CELLS }
  have e := hfa.symm.trans T.m_law
  cases e
  refine ⟨d_law, fun s v => ?_, fun base _ _ => ok_law T⟩
  obtain ⟨oc, od, kV, dc, pm, an, cd, ct, sl, e, _, _⟩ := l_law
  rw [e]
  exact .of_eq rfl
theorem walk {l : PySem.W.OpenLaw} {q : Program} {loose : List Str} {XP : (Str → Option Value) → Heap → Prop} {YP : World → Heap → Prop} {d : DefRec} {K : Params → PySem.W.Frag} (hn : l.most = some 63) (hdf : d.params.defaults = [])
    (hY : ∀ (w : World) (h : Heap), YP w h → (K w.params).In h)
    (F : ∀ (w : World) (mg : Str → Option Value) (fa : Addr) (h : Heap), (K w.params).In h → h.Ns mainGlobals mg → mg d.name = some (.ref fa) →
      ∃ fd : FuncData, (∀ (s : Shared) (u : Value), BindsTo s fd ⟨[u], []⟩ [("_law_script", u)]) ∧ ∀ base : Heap, (K w.params).In base → base.Ns mainGlobals mg → FnOk l.prog w (K w.params) mg base (L2.CX l.prog w) 15 fa fd ["_law_script"] (sp_law (K w.params))) :
    PySem.W.WalkO q loose XP YP l.row.toRowW d [] (fun f vs => PySem.call f vs) :=
  L2.walk_of (n := 63) (k := 15) (x := "_law_script") (CX := fun w => L2.CX l.prog w) (sp := fun w => sp_law (K w.params)) hn (by decide) hdf ⟨rfl, by decide, by decide⟩ hY F (fun _ _ a ns hl _ hS => ⟨a, ns, rfl, hS, hl, fun _ => rfl⟩) fun w H s e s' z => (by
    obtain ⟨_, _, _, _, _, _, _, _, _, _, _, _, z⟩ := z
    exact z)
end Toy
open PySem PySem.W PyProof.Rows
set_option maxRecDepth 100000 in
set_option maxHeartbeats 0 in
theorem PySem.Challenge.cw_orderlycore_k66_whole_renaming_is_regist_holds : PySem.Challenge.rw_orderlycore_k66_whole_renaming_is_regist.Holds := by
  w_on; o_law; k_head; (case hw => w_witness2)
  k_fill
  refine Toy.walk (l := PySem.Challenge.rw_orderlycore_k66_whole_renaming_is_regist) rfl rfl (fun w h Y => PySem.W.kIn_of Y) ?F
  case F =>
    intro w mg fa h KX G hmg
    refine' Toy.all_mk KX G hmg ?a_CoreError ?xc_CoreError ?xs_CoreError ?xb_CoreError ?xy_CoreError ?xk_CoreError ?xi_CoreError ?xn_CoreError_value ?a_StateError ?a_InvalidWord ?xc_InvalidWord ?xs_InvalidWord ?xb_InvalidWord ?xy_InvalidWord ?xk_InvalidWord ?xi_InvalidWord ?xn_InvalidWord_value ?a_InvalidRegister ?xc_InvalidRegister ?xs_InvalidRegister ?xb_InvalidRegister ?xy_InvalidRegister ?xk_InvalidRegister ?xi_InvalidRegister ?xn_InvalidRegister_value ?a_InvalidMany ?xc_InvalidMany ?xs_InvalidMany ?xb_InvalidMany ?xy_InvalidMany ?xk_InvalidMany ?xi_InvalidMany ?xn_InvalidMany_value ?a_InvalidCell ?xc_InvalidCell ?xs_InvalidCell ?xb_InvalidCell ?xy_InvalidCell ?xk_InvalidCell ?xi_InvalidCell ?xn_InvalidCell_value ?a_NotNewest ?a_NotOldest ?a_NotReady ?a_NotWaiting ?a_NothingFree ?a_StillLent ?a_Renamer ?pg_Renamer ?hd_Renamer ?po_Renamer ?sa_Renamer ?n_Renamer_own_new ?n_Renamer_own_old ?n_Renamer_own_free ?n_Renamer_own_open ?n_Renamer_own_words ?ia_Renamer ?ib_Renamer ?ic_Renamer ?id_Renamer ?mk_Renamer ?mi_Renamer ?mf_Renamer ?kc_Renamer ?l_CoreError___init__ ?kp_CoreError___init__ ?xt_CoreError___init__ ?a_is_integer ?l_is_integer ?kp_is_integer ?a_is_count ?l_is_count ?kp_is_count ?a_want_many ?l_want_many ?kp_want_many ?a_is_word ?l_is_word ?kp_is_word ?a_is_register ?l_is_register ?kp_is_register ?a_want_word ?l_want_word ?kp_want_word ?a_want_register ?l_want_register ?kp_want_register ?a_is_cell ?l_is_cell ?kp_is_cell ?a_want_cell ?l_want_cell ?kp_want_cell ?a_want_lending ?l_want_lending ?kp_want_lending ?l_Renamer___init__ ?kp_Renamer___init__ ?l_Renamer_can_lend ?kp_Renamer_can_lend ?pa_Renamer_can_lend ?pb_Renamer_can_lend ?pt_Renamer_can_lend ?pr_Renamer_can_lend ?l_Renamer_place_of ?kp_Renamer_place_of ?ma_Renamer_place_of ?mb_Renamer_place_of ?l_Renamer_is_ready ?kp_Renamer_is_ready ?ma_Renamer_is_ready ?mb_Renamer_is_ready ?l_Renamer_value ?kp_Renamer_value ?ma_Renamer_value ?mb_Renamer_value ?l_Renamer_put ?kp_Renamer_put ?ma_Renamer_put ?mb_Renamer_put ?l_Renamer_lent ?kp_Renamer_lent ?ma_Renamer_lent ?mb_Renamer_lent ?l_Renamer_undone ?kp_Renamer_undone ?ma_Renamer_undone ?mb_Renamer_undone ?l_Renamer_kept ?kp_Renamer_kept ?ma_Renamer_kept ?mb_Renamer_kept ?l_Renamer_written ?kp_Renamer_written ?ma_Renamer_written ?mb_Renamer_written ?l_Renamer_kept_words ?kp_Renamer_kept_words ?ma_Renamer_kept_words ?mb_Renamer_kept_words ?l_Renamer_writes ?kp_Renamer_writes ?ma_Renamer_writes ?mb_Renamer_writes ?l_Renamer_lendings ?kp_Renamer_lendings ?ma_Renamer_lendings ?mb_Renamer_lendings ?l_Renamer_free ?kp_Renamer_free ?ma_Renamer_free ?mb_Renamer_free ?l_Renamer_copy ?kp_Renamer_copy ?ma_Renamer_copy ?mb_Renamer_copy ?l_Renamer___eq__ ?kp_Renamer___eq__ ?ma_Renamer___eq__ ?mb_Renamer___eq__ ?a_renamer_told ?l_renamer_told ?kp_renamer_told ?a__law_pot ?l__law_pot ?kp__law_pot ?a__law_draw ?l__law_draw ?kp__law_draw ?a__law_pick ?l__law_pick ?kp__law_pick ?a__law_deed ?l__law_deed ?kp__law_deed ?a__law_newest ?l__law_newest ?kp__law_newest ?a__law_shows ?l__law_shows ?kp__law_shows ?a__law_done ?l__law_done ?kp__law_done ?a__law_right ?l__law_right ?kp__law_right ?a_law ?l_law ?kp_law ?z_abs ?z_bool ?z_divmod ?z_enumerate ?z_int ?z_isinstance ?z_len ?z_list ?z_max ?z_range ?z_repr ?z_tuple ?v_MOST_WORD ?v_REGISTERS_words ?v_REGISTERS_renames ?v_LEAST_CELLS ?v_MOST_CELLS
    (case a_CoreError => k_is)
    (case xs_CoreError => k_is)
    (case xb_CoreError => k_is)
    (case xy_CoreError => k_is)
    (case xk_CoreError => k_is)
    (case xi_CoreError => k_is)
    (case xn_CoreError_value => k_is)
    (case a_StateError => k_is)
    (case a_InvalidWord => k_is)
    (case xs_InvalidWord => k_is)
    (case xb_InvalidWord => k_is)
    (case xy_InvalidWord => k_is)
    (case xk_InvalidWord => k_is)
    (case xi_InvalidWord => k_is)
    (case xn_InvalidWord_value => k_is)
    (case a_InvalidRegister => k_is)
    (case xs_InvalidRegister => k_is)
    (case xb_InvalidRegister => k_is)
    (case xy_InvalidRegister => k_is)
    (case xk_InvalidRegister => k_is)
    (case xi_InvalidRegister => k_is)
    (case xn_InvalidRegister_value => k_is)
    (case a_InvalidMany => k_is)
    (case xs_InvalidMany => k_is)
    (case xb_InvalidMany => k_is)
    (case xy_InvalidMany => k_is)
    (case xk_InvalidMany => k_is)
    (case xi_InvalidMany => k_is)
    (case xn_InvalidMany_value => k_is)
    (case a_InvalidCell => k_is)
    (case xs_InvalidCell => k_is)
    (case xb_InvalidCell => k_is)
    (case xy_InvalidCell => k_is)
    (case xk_InvalidCell => k_is)
    (case xi_InvalidCell => k_is)
    (case xn_InvalidCell_value => k_is)
    (case a_NotNewest => k_is)
    (case a_NotOldest => k_is)
    (case a_NotReady => k_is)
    (case a_NotWaiting => k_is)
    (case a_NothingFree => k_is)
    (case a_StillLent => k_is)
    (case a_Renamer => k_is)
    (case pg_Renamer => k_is)
    (case hd_Renamer => k_is)
    (case po_Renamer => k_is)
    (case sa_Renamer => k_is)
    (case n_Renamer_own_new => k_is)
    (case n_Renamer_own_old => k_is)
    (case n_Renamer_own_free => k_is)
    (case n_Renamer_own_open => k_is)
    (case n_Renamer_own_words => k_is)
    (case ia_Renamer => k_is)
    (case ib_Renamer => k_is)
    (case ic_Renamer => k_is)
    (case id_Renamer => k_is)
    (case mk_Renamer => k_is)
    (case mi_Renamer => k_is)
    (case kc_Renamer => k_is)
    (case a_is_integer => k_is)
    (case a_is_count => k_is)
    (case a_want_many => k_is)
    (case a_is_word => k_is)
    (case a_is_register => k_is)
    (case a_want_word => k_is)
    (case a_want_register => k_is)
    (case a_is_cell => k_is)
    (case a_want_cell => k_is)
    (case a_want_lending => k_is)
    (case pa_Renamer_can_lend => k_is)
    (case ma_Renamer_place_of => k_is)
    (case ma_Renamer_is_ready => k_is)
    (case ma_Renamer_value => k_is)
    (case ma_Renamer_put => k_is)
    (case ma_Renamer_lent => k_is)
    (case ma_Renamer_undone => k_is)
    (case ma_Renamer_kept => k_is)
    (case ma_Renamer_written => k_is)
    (case ma_Renamer_kept_words => k_is)
    (case ma_Renamer_writes => k_is)
    (case ma_Renamer_lendings => k_is)
    (case ma_Renamer_free => k_is)
    (case ma_Renamer_copy => k_is)
    (case ma_Renamer___eq__ => k_is)
    (case a_renamer_told => k_is)
    (case a__law_pot => k_is)
    (case a__law_draw => k_is)
    (case a__law_pick => k_is)
    (case a__law_deed => k_is)
    (case a__law_newest => k_is)
    (case a__law_shows => k_is)
    (case a__law_done => k_is)
    (case a__law_right => k_is)
    (case a_law => k_is)
    (case z_abs => k_is)
    (case z_bool => k_is)
    (case z_divmod => k_is)
    (case z_enumerate => k_is)
    (case z_int => k_is)
    (case z_isinstance => k_is)
    (case z_len => k_is)
    (case z_list => k_is)
    (case z_max => k_is)
    (case z_range => k_is)
    (case z_repr => k_is)
    (case z_tuple => k_is)
    (case v_MOST_WORD => k_is)
    (case v_REGISTERS_words => k_is)
    (case v_REGISTERS_renames => k_is)
    (case v_LEAST_CELLS => k_is)
    (case v_MOST_CELLS => k_is)
    (case xc_CoreError => exact ⟨_, _, _, _, _, _, _, _, _, _, _, _, _, _, by k_is⟩)
    (case xc_InvalidWord => exact ⟨_, _, _, _, _, _, _, _, _, _, _, _, _, _, by k_is⟩)
    (case xc_InvalidRegister => exact ⟨_, _, _, _, _, _, _, _, _, _, _, _, _, _, by k_is⟩)
    (case xc_InvalidMany => exact ⟨_, _, _, _, _, _, _, _, _, _, _, _, _, _, by k_is⟩)
    (case xc_InvalidCell => exact ⟨_, _, _, _, _, _, _, _, _, _, _, _, _, _, by k_is⟩)
    (case pb_Renamer_can_lend => k_is)
    (case pt_Renamer_can_lend => k_is)
    (case pr_Renamer_can_lend => exact ⟨_, by k_is⟩)
    (case mf_Renamer => k_is)
    (case l_CoreError___init__ => exact ⟨_, _, _, _, _, _, _, _, _, rfl, by k_is, by k_is⟩)
    (case kp_CoreError___init__ => k_is)
    (case xt_CoreError___init__ => k_is)
    (case l_is_integer => exact ⟨_, _, _, _, _, _, _, _, _, rfl, by k_is, by k_is⟩)
    (case kp_is_integer => k_is)
    (case l_is_count => exact ⟨_, _, _, _, _, _, _, _, _, rfl, by k_is, by k_is⟩)
    (case kp_is_count => k_is)
    (case l_want_many => exact ⟨_, _, _, _, _, _, _, _, _, rfl, by k_is, by k_is⟩)
    (case kp_want_many => k_is)
    (case l_is_word => exact ⟨_, _, _, _, _, _, _, _, _, rfl, by k_is, by k_is⟩)
    (case kp_is_word => k_is)
    (case l_is_register => exact ⟨_, _, _, _, _, _, _, _, _, rfl, by k_is, by k_is⟩)
    (case kp_is_register => k_is)
    (case l_want_word => exact ⟨_, _, _, _, _, _, _, _, _, rfl, by k_is, by k_is⟩)
    (case kp_want_word => k_is)
    (case l_want_register => exact ⟨_, _, _, _, _, _, _, _, _, rfl, by k_is, by k_is⟩)
    (case kp_want_register => k_is)
    (case l_is_cell => exact ⟨_, _, _, _, _, _, _, _, _, rfl, by k_is, by k_is⟩)
    (case kp_is_cell => k_is)
    (case l_want_cell => exact ⟨_, _, _, _, _, _, _, _, _, rfl, by k_is, by k_is⟩)
    (case kp_want_cell => k_is)
    (case l_want_lending => exact ⟨_, _, _, _, _, _, _, _, _, rfl, by k_is, by k_is⟩)
    (case kp_want_lending => k_is)
    (case l_Renamer___init__ => exact ⟨_, _, _, _, _, _, _, _, _, rfl, by k_is, by k_is⟩)
    (case kp_Renamer___init__ => k_is)
    (case l_Renamer_can_lend => exact ⟨_, _, _, _, _, _, _, _, _, rfl, by k_is, by k_is⟩)
    (case kp_Renamer_can_lend => k_is)
    (case l_Renamer_place_of => exact ⟨_, _, _, _, _, _, _, _, _, rfl, by k_is, by k_is⟩)
    (case kp_Renamer_place_of => k_is)
    (case mb_Renamer_place_of => k_is)
    (case l_Renamer_is_ready => exact ⟨_, _, _, _, _, _, _, _, _, rfl, by k_is, by k_is⟩)
    (case kp_Renamer_is_ready => k_is)
    (case mb_Renamer_is_ready => k_is)
    (case l_Renamer_value => exact ⟨_, _, _, _, _, _, _, _, _, rfl, by k_is, by k_is⟩)
    (case kp_Renamer_value => k_is)
    (case mb_Renamer_value => k_is)
    (case l_Renamer_put => exact ⟨_, _, _, _, _, _, _, _, _, rfl, by k_is, by k_is⟩)
    (case kp_Renamer_put => k_is)
    (case mb_Renamer_put => k_is)
    (case l_Renamer_lent => exact ⟨_, _, _, _, _, _, _, _, _, rfl, by k_is, by k_is⟩)
    (case kp_Renamer_lent => k_is)
    (case mb_Renamer_lent => k_is)
    (case l_Renamer_undone => exact ⟨_, _, _, _, _, _, _, _, _, rfl, by k_is, by k_is⟩)
    (case kp_Renamer_undone => k_is)
    (case mb_Renamer_undone => k_is)
    (case l_Renamer_kept => exact ⟨_, _, _, _, _, _, _, _, _, rfl, by k_is, by k_is⟩)
    (case kp_Renamer_kept => k_is)
    (case mb_Renamer_kept => k_is)
    (case l_Renamer_written => exact ⟨_, _, _, _, _, _, _, _, _, rfl, by k_is, by k_is⟩)
    (case kp_Renamer_written => k_is)
    (case mb_Renamer_written => k_is)
    (case l_Renamer_kept_words => exact ⟨_, _, _, _, _, _, _, _, _, rfl, by k_is, by k_is⟩)
    (case kp_Renamer_kept_words => k_is)
    (case mb_Renamer_kept_words => k_is)
    (case l_Renamer_writes => exact ⟨_, _, _, _, _, _, _, _, _, rfl, by k_is, by k_is⟩)
    (case kp_Renamer_writes => k_is)
    (case mb_Renamer_writes => k_is)
    (case l_Renamer_lendings => exact ⟨_, _, _, _, _, _, _, _, _, rfl, by k_is, by k_is⟩)
    (case kp_Renamer_lendings => k_is)
    (case mb_Renamer_lendings => k_is)
    (case l_Renamer_free => exact ⟨_, _, _, _, _, _, _, _, _, rfl, by k_is, by k_is⟩)
    (case kp_Renamer_free => k_is)
    (case mb_Renamer_free => k_is)
    (case l_Renamer_copy => exact ⟨_, _, _, _, _, _, _, _, _, rfl, by k_is, by k_is⟩)
    (case kp_Renamer_copy => k_is)
    (case mb_Renamer_copy => k_is)
    (case l_Renamer___eq__ => exact ⟨_, _, _, _, _, _, _, _, _, rfl, by k_is, by k_is⟩)
    (case kp_Renamer___eq__ => k_is)
    (case mb_Renamer___eq__ => k_is)
    (case l_renamer_told => exact ⟨_, _, _, _, _, _, _, _, _, rfl, by k_is, by k_is⟩)
    (case kp_renamer_told => k_is)
    (case l__law_pot => exact ⟨_, _, _, _, _, _, _, _, _, rfl, by k_is, by k_is⟩)
    (case kp__law_pot => k_is)
    (case l__law_draw => exact ⟨_, _, _, _, _, _, _, _, _, rfl, by k_is, by k_is⟩)
    (case kp__law_draw => k_is)
    (case l__law_pick => exact ⟨_, _, _, _, _, _, _, _, _, rfl, by k_is, by k_is⟩)
    (case kp__law_pick => k_is)
    (case l__law_deed => exact ⟨_, _, _, _, _, _, _, _, _, rfl, by k_is, by k_is⟩)
    (case kp__law_deed => k_is)
    (case l__law_newest => exact ⟨_, _, _, _, _, _, _, _, _, rfl, by k_is, by k_is⟩)
    (case kp__law_newest => k_is)
    (case l__law_shows => exact ⟨_, _, _, _, _, _, _, _, _, rfl, by k_is, by k_is⟩)
    (case kp__law_shows => k_is)
    (case l__law_done => exact ⟨_, _, _, _, _, _, _, _, _, rfl, by k_is, by k_is⟩)
    (case kp__law_done => k_is)
    (case l__law_right => exact ⟨_, _, _, _, _, _, _, _, _, rfl, by k_is, by k_is⟩)
    (case kp__law_right => k_is)
    (case l_law => exact ⟨_, _, _, _, _, _, _, _, _, rfl, by k_is, by k_is⟩)
    (case kp_law => k_is)
#print axioms PySem.Challenge.cw_orderlycore_k66_whole_renaming_is_regist_holds
