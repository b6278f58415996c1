import PyProof.Rows.All
import Wide.All
import OpenK.AllK
import Wide.FinOn
import HandS.ForMost
import HandS.ForExc
import HandS.Property
import HandS.IsInst
import HandS.ExcInit
import HandS.Defaults
import HandS.MakeKwOnly
import HandS.Flow
import HandS.CallSlots
import HandS.Evl
import HandS.Wide
import HandS.Walk
import HandS.Style
import PySem.Challenge.RW_orderlycore_k56_whole_the_buffer_by_an_o
set_option Elab.async false
set_option linter.all false
set_option maxRecDepth 100000
set_option maxHeartbeats 4000000

namespace Toy
open PySem L2
theorem exm_self {K : PySem.W.Frag} {S : Addr} (h1 : PySem.W.subIn K (.ref S) (.type "BaseException") = some true) (h2 : PySem.W.isClsIn K S = true) (h3 : PySem.W.typeIn K (.ref S) = some (.type "type")) (h4 : PySem.W.subIn K (.ref S) (.ref S) = some true) :
    PySem.W.exmOne K (.ref S) (.ref S) = some true := by
  have e1 : (PySem.W.subIn K (.ref S) (.type "BaseException") == some true) = true := by rw [h1] <;> rfl
  have e2 : ((PySem.W.clsIn K S).isSome && PySem.W.typeIn K (.ref S) == some (.type "type")) = true := by
    have h2' : (PySem.W.clsIn K S).isSome = true := h2
    rw [h2', h3] <;> rfl
  show (if (PySem.W.subIn K (.ref S) (.type "BaseException") == some true) = true then (if ((PySem.W.clsIn K S).isSome && PySem.W.typeIn K (.ref S) == some (.type "type")) = true then PySem.W.subIn K (.ref S) (.ref S) else none) else none) = some true
  rw [if_pos e1, if_pos e2]
  exact h4
theorem vals_getD {vs : List V} {us : List Value} (r : Vals vs us) (i : Nat) : RelV (vs.getD i V.non) (us.getD i PySem.Value.none) := by
  induction r generalizing i with
  | nil => rfl
  | cons h t ih =>
    cases i with
    | zero => exact h
    | succ i => exact ih i
theorem kbn_of {K : PySem.W.Frag} {x qual : Str} {st : Stmt} {f : Addr} {fd : FuncData} {ps ks : List Str} {n : Nat} {g : List Value → List Value → List Value} {gV : List V → List V → List V} (F : Fun K x qual st f fd)
    (h : ∀ (kV doc pm : Value) (an : Option Addr) (cdv ct : Value) (us ws : List Value), us.length = n → ws.length = ks.length → bindArgs (PySem.W.fnOf x qual (defArgs st) (defBody st) (defScope st) .none kV doc pm an cdv ct) ⟨us, ks.zip ws⟩ = pure (ps.zip (g us ws)))
    (hr : ∀ {vs : List V} {us : List Value} {zs : List V} {ws : List Value}, Vals vs us → Vals zs ws → Vals (gV vs zs) (g us ws)) : KBn K fd ps n ks g gV := by
  obtain ⟨oc, od, kV, doc, pm, an, cdv, ct, osl, rfl, lk, hcd⟩ := F.ex
  exact ⟨fun s us ws _ h1 h2 => .of_eq (h kV doc pm an cdv ct us ws h1 h2), hr⟩
theorem same_new {H : Hp} {p : Addr} {o : HO} (h : H p = none) : Same H (upd H p o) := fun b u e => by
  rw [upd_ne (ne_of_none e h)]
  exact e
theorem same_ty {K : PySem.W.Frag} {H H' : Hp} {v : V} {t : Value} (e : Same H H') (h : TyX K H v t) : TyX K H' v t := by
  cases h with
  | base h =>
    refine .base ?_
    cases h with
    | non => exact .non
    | bl x => exact .bl x
    | int i => exact .int i
    | str x => exact .str x
    | flt x => exact .flt x
    | lst q => exact .lst (e _ _ q)
    | frz q => exact .frz (e _ _ q)
    | tup q => exact .tup (e _ _ q)
    | dK q => exact .dK (e _ _ q)
    | dT q => exact .dT (e _ _ q)
    | ins q cl ha hn htk hm => exact .ins (e _ _ q) cl ha hn htk hm
  | byt b => exact .byt b
  | set q => exact .set (e _ _ q)
  | kList q c => exact .kList q c
  | kTuple q c => exact .kTuple q c
  | kDict q c => exact .kDict q c
  | fTuple q => exact .fTuple (e _ _ q)
  | fDict q => exact .fDict (e _ _ q)
/-! ### stepping through a reading -/
section
variable {K : PySem.W.Frag} {σ τ : St} {H H' : Hp} {Q : VK} {D : Ends} {nx bk ct : St → Hp → Prop} {rt : VK} {v x y : V} {te ta tb : TE} {t u : TS} {c d : TT} {p : Addr}
theorem w_in {N : List Str} {vs : List V} (h : start N vs = σ) (q : t D σ H) : t D (start N vs) H := by rw [h]; exact q
theorem w_var {i : Nat} (h : σ[i]? = some (some v)) (q : Q v H) : tVar i σ H Q := ⟨v, h, q⟩
theorem w_c (q : Q v H) : tC v σ H Q := q
theorem w_op {r : R2} (q : ta σ H fun x H1 => tb σ H1 fun y H2 => r x y H2 Q) : tOp r ta tb σ H Q := q
theorem w_un {r : V → Hp → VK → Prop} (q : ta σ H fun x H1 => r x H1 Q) : tUn r ta σ H Q := q
theorem w_I0 {g : Int → Int → V} {i j : Int} (q : Q (g i j) H) : rI0 g (.int i) (.int j) H Q := ⟨i, j, rfl, rfl, q⟩
theorem w_I {C : Int → Int → Prop} {g : Int → Int → V} {i j : Int} (hc : C i j) (q : Q (g i j) H) : rI C g (.int i) (.int j) H Q := ⟨i, j, rfl, rfl, hc, q⟩
theorem w_U {g : Int → V} {i : Int} (q : Q (g i) H) : rU g (.int i) H Q := ⟨i, rfl, q⟩
theorem w_eq (h : scal x y = true) (q : Q (.bl (decide (x = y))) H) : rEq x y H Q := ⟨h, q⟩
theorem w_ne (h : scal x y = true) (q : Q (.bl (!decide (x = y))) H) : rNe x y H Q := ⟨h, q⟩
theorem w_cb {r : List V → Hp → VK → Prop} {t : TA} (q : t σ H fun vs H1 => r vs H1 Q) : tCB r t σ H Q := q
theorem w_nil {Q : List V → Hp → Prop} (q : Q [] H) : tNil σ H Q := q
theorem w_cons {Q : List V → Hp → Prop} {tr : TA} (q : ta σ H fun x H1 => tr σ H1 fun xs H2 => Q (x :: xs) H2) : tCons ta tr σ H Q := q
theorem w_call {sp : Sp} {dvs : List V} {E : XK} {t : TA} (q : t σ H fun vs H1 => sp (vs ++ dvs) H1 Q E) : tCall sp dvs E t σ H Q := q
theorem w_tup {t : TA} (q : t σ H fun xs H1 => xs.length ≤ sizeLine ∧ ∀ p, H1 p = none → Q (.ref p) (upd H1 p (.tup xs))) : tTup t σ H Q := q
theorem w_lst {t : TA} (q : t σ H fun xs H1 => xs.length ≤ sizeLine ∧ ∀ p, H1 p = none → Q (.ref p) (upd H1 p (.lst xs))) : tLst t σ H Q := q
theorem w_laid {n : Nat} {R : Addr → Prop} (h : n ≤ 100000) (q : ∀ p, H p = none → R p) : n ≤ sizeLine ∧ ∀ p, H p = none → R p := ⟨Nat.le_trans h (by decide), q⟩
def kFld (K : PySem.W.Frag) (f : Str) (Q : VK) (x : V) (H : Hp) : Prop := ∃ a C dx fs v, x = .ref a ∧ H a = some (.ins C dx fs) ∧ Cls K C ∧ NoAttr K C f ∧ fs.lookup f = some v ∧ Q v H
theorem w_fld0 {f : Str} (q : ta σ H fun x H1 => kFld K f Q x H1) : tFld K ta f σ H Q := q
theorem w_fld {f : Str} {a C dx : Addr} {fs : List (Str × V)} (h : H a = some (.ins C dx fs)) (hc : Cls K C) (hn : NoAttr K C f) (hl : fs.lookup f = some v) (q : Q v H) : kFld K f Q (.ref a) H :=
  ⟨a, C, dx, fs, v, rfl, h, hc, hn, hl, q⟩
def kSF (K : PySem.W.Frag) (f : Str) (nx : St → Hp → Prop) (σ : St) (y x : V) (H : Hp) : Prop := ∃ a C dx fs, x = .ref a ∧ H a = some (.ins C dx fs) ∧ Cls K C ∧ NoAttr K C f ∧ fs.length < 1000 ∧ nx σ (upd H a (.ins C dx (putF f y fs)))
theorem w_sfld0 {f : Str} {tv : TE} (q : tv σ H fun y H1 => ta σ H1 fun x H2 => kSF K f nx σ y x H2) : sFld K ta tv f ⟨nx, rt, bk, ct⟩ σ H := q
theorem w_sfld {f : Str} {a C dx : Addr} {fs fs' : List (Str × V)} (h : H a = some (.ins C dx fs)) (hc : Cls K C) (hn : NoAttr K C f) (hl : fs.length < 1000) (he : putF f y fs = fs') (q : nx σ (upd H a (.ins C dx fs'))) : kSF K f nx σ y (.ref a) H :=
  ⟨a, C, dx, fs, rfl, h, hc, hn, hl, by rw [he]; exact q⟩
theorem w_meth0 {C : Addr} {m : Str} {sp : Sp} {dvs : List V} {E : XK} {t : TA} (q : ta σ H fun x H1 => ∃ a dx fs, x = .ref a ∧ H1 a = some (.ins C dx fs) ∧ fs.lookup m = none ∧ t σ H1 fun vs H2 => sp (x :: (vs ++ dvs)) H2 Q E) : tMeth C m sp dvs E ta t σ H Q := q
theorem w_meth {R : Prop} {m : Str} {a C dx : Addr} {fs : List (Str × V)} (h : H a = some (.ins C dx fs)) (hl : fs.lookup m = none) (q : R) : ∃ a' dx fs, V.ref a = .ref a' ∧ H a' = some (.ins C dx fs) ∧ fs.lookup m = none ∧ R := ⟨a, dx, fs, rfl, h, hl, q⟩
theorem w_prop0 {C : Addr} {sp : Sp} {dvs : List V} {E : XK} (q : ta σ H fun x H1 => ∃ a dx fs, x = .ref a ∧ H1 a = some (.ins C dx fs) ∧ sp (.ref a :: dvs) H1 Q E) : tProp C sp dvs E ta σ H Q := q
theorem w_prop {C a dx : Addr} {fs : List (Str × V)} {sp : Sp} {dvs : List V} {E : XK} (h : H a = some (.ins C dx fs)) (q : sp (.ref a :: dvs) H Q E) : ∃ a' dx fs, V.ref a = .ref a' ∧ H a' = some (.ins C dx fs) ∧ sp (.ref a' :: dvs) H Q E := ⟨a, dx, fs, rfl, h, q⟩
theorem w_make {C : Addr} {sp : Sp} {dvs : List V} {E : XK} {t : TA} (q : t σ H fun vs H1 => ∀ x dx, H1 x = none → H1 dx = none → dx ≠ x → sp (.ref x :: (vs ++ dvs)) (upd (upd H1 dx (.own x)) x (.ins C dx [])) (fun v H2 => v = .non ∧ Q (.ref x) H2) E) : tMake C sp dvs E t σ H Q := q
theorem w_makeK {C : Addr} {j l : Nat} {sp : Sp} {gV : List V → List V → List V} {E : XK} {t tk : TA} (q : t σ H fun vs H1 => tk σ H1 fun zs H2 => vs.length = j ∧ zs.length = l ∧ ∀ x dx, H2 x = none → H2 dx = none → dx ≠ x → sp (gV (.ref x :: vs) zs) (upd (upd H2 dx (.own x)) x (.ins C dx [])) (fun v H2 => v = .non ∧ Q (.ref x) H2) E) : tMakeK C j l sp gV E t tk σ H Q := q
theorem w_ixL {a : Addr} {xs : List V} {i : Int} (h : SqL K H a xs) (hi : atI xs i = some v) (q : Q v H) : rIxL K (.ref a) (.int i) H Q := ⟨a, xs, i, v, rfl, rfl, h, hi, q⟩
theorem w_ixT {a : Addr} {xs : List V} {i : Int} (h : SqT K H a xs) (hi : atI xs i = some v) (q : Q v H) : rIxT K (.ref a) (.int i) H Q := ⟨a, xs, i, v, rfl, rfl, h, hi, q⟩
theorem w_setL {a : Addr} {xs : List V} {i : Int} {j : Nat} {Q : Hp → Prop} (h : H a = some (.lst xs)) (hi : ixN xs.length i = some j) (q : Q (upd H a (.lst (xs.set j v)))) : rSetL (.ref a) (.int i) v H Q := ⟨a, xs, i, j, rfl, rfl, h, hi, q⟩
theorem w_gsub {to ti : TE} {ts : TSet} {Q : St → Hp → Prop} (q : to σ H fun o H1 => ti σ H1 fun i H2 => ts o i v H2 fun H3 => Q σ H3) : gSub to ti ts v σ H Q := q
theorem w_gname {i : Nat} {Q : St → Hp → Prop} (q : Q (σ.set i (some v)) H) : gName i v σ H Q := q
theorem w_gtup {n : Nat} {ts : TGs} {a : Addr} {xs : List V} {Q : St → Hp → Prop} (h : SqT K H a xs) (hn : xs.length = n) (q : ts xs σ H Q) : gTup K n ts (.ref a) σ H Q := ⟨a, xs, rfl, h, hn, q⟩
theorem w_gcons {tg : TG} {ts : TGs} {r : List V} {Q : St → Hp → Prop} (q : tg v σ H fun σ' H' => ts r σ' H' Q) : gCons tg ts (v :: r) σ H Q := ⟨v, r, rfl, q⟩
theorem w_gnil {Q : St → Hp → Prop} (q : Q σ H) : gNil [] σ H Q := ⟨rfl, q⟩
theorem w_seq (q : t ⟨u ⟨nx, rt, bk, ct⟩, rt, bk, ct⟩ σ H) : tSeq t u ⟨nx, rt, bk, ct⟩ σ H := q
theorem w_dec {c : Prop} [Decidable c] (h : c) (q : Q (.bl true) H) : Q (.bl (decide c)) H := by rw [decide_eq_true h]; exact q
theorem w_cut (M : St → Hp → Prop) (q : t ⟨M, rt, bk, ct⟩ σ H) (k : ∀ σ' H', M σ' H' → u ⟨nx, rt, bk, ct⟩ σ' H') : Evl.tCut t u ⟨nx, rt, bk, ct⟩ σ H := ⟨M, q, k⟩
theorem w_next (q : nx σ H) : tNext ⟨nx, rt, bk, ct⟩ σ H := q
theorem w_brk (q : bk σ H) : tBreak ⟨nx, rt, bk, ct⟩ σ H := q
theorem w_cont (q : ct σ H) : tCont ⟨nx, rt, bk, ct⟩ σ H := q
theorem w_drop (q : te σ H fun _ H1 => nx σ H1) : tDrop te ⟨nx, rt, bk, ct⟩ σ H := q
theorem w_ret (q : te σ H rt) : tRet te ⟨nx, rt, bk, ct⟩ σ H := q
theorem w_retN (q : rt .non H) : tRetN ⟨nx, rt, bk, ct⟩ σ H := q
theorem w_asg {g : TG} (q : te σ H fun x H1 => g x σ H1 nx) : tAsg te g ⟨nx, rt, bk, ct⟩ σ H := q
theorem w_ifs (q : c σ H fun b H1 => if b = true then t ⟨nx, rt, bk, ct⟩ σ H1 else u ⟨nx, rt, bk, ct⟩ σ H1) : tIfS c t u ⟨nx, rt, bk, ct⟩ σ H := q
theorem w_par {i j : Nat} {t : TA} (q : t σ H fun vs H1 => ∃ v w, vs = [v, w] ∧ nx ((σ.set i (some v)).set j (some w)) H1) : tPar i j t ⟨nx, rt, bk, ct⟩ σ H := q
theorem w_vw {v w : V} {R : V → V → Prop} (q : R v w) : ∃ v' w', [v, w] = [v', w'] ∧ R v' w' := ⟨v, w, rfl, q⟩
theorem w_if0 (q : c σ H fun b H1 => if b = true then ta σ H1 Q else tb σ H1 Q) : tIf c ta tb σ H Q := q
theorem w_test {Q : Bool → Hp → Prop} (q : te σ H fun x H' => ∃ k, x = .bl k ∧ Q k H') : tTest te σ H Q := q
theorem w_B {Q : Bool → Hp → Prop} (q : te σ H fun x H' => ∃ k, x = .bl k ∧ Q k H') : tB te σ H Q := q
theorem w_and {Q : Bool → Hp → Prop} (q : c σ H fun b H1 => if b = true then d σ H1 Q else Q false H1) : tAnd c d σ H Q := q
theorem w_or {Q : Bool → Hp → Prop} (q : c σ H fun b H1 => if b = true then Q true H1 else d σ H1 Q) : tOr c d σ H Q := q
theorem w_not {Q : Bool → Hp → Prop} (q : c σ H fun b H1 => Q (!b) H1) : tNot c σ H Q := q
theorem w_andV (q : ta σ H fun x H1 => ∃ k, x = .bl k ∧ if k = true then tb σ H1 Q else Q (.bl false) H1) : tAndV ta tb σ H Q := q
theorem w_orV (q : ta σ H fun x H1 => ∃ k, x = .bl k ∧ if k = true then Q (.bl true) H1 else tb σ H1 Q) : tOrV ta tb σ H Q := q
theorem w_notV (q : ta σ H fun x H1 => ∃ k, x = .bl k ∧ Q (.bl (!k)) H1) : tNotV ta σ H Q := q
theorem w_bl {b : Bool} {R : Bool → Prop} (q : R b) : ∃ k, V.bl b = .bl k ∧ R k := ⟨b, rfl, q⟩
theorem w_iI {i : Int} {R : Int → Prop} (q : R i) : ∃ k, [V.int i] = [.int k] ∧ R k := ⟨i, rfl, q⟩
theorem w_iIJ {i j : Int} {R : Int → Int → Prop} (q : R i j) : ∃ k l, [V.int i, V.int j] = [.int k, .int l] ∧ R k l := ⟨i, j, rfl, q⟩
theorem w_int1 {i : Int} {R : Int → Prop} {S : Bool → Prop} (q : R i) : (∃ k, [V.int i] = [.int k] ∧ R k) ∨ ∃ b, [V.int i] = [.bl b] ∧ S b := .inl ⟨i, rfl, q⟩
theorem w_lenL {a : Addr} {xs : List V} {R : List V → Prop} (h : SqL K H a xs) (q : R xs) : ∃ p ys, [V.ref a] = [.ref p] ∧ (SqL K H p ys ∨ SqT K H p ys) ∧ R ys := ⟨a, xs, rfl, .inl h, q⟩
theorem w_lenT {a : Addr} {xs : List V} {R : List V → Prop} (h : SqT K H a xs) (q : R xs) : ∃ p ys, [V.ref a] = [.ref p] ∧ (SqL K H p ys ∨ SqT K H p ys) ∧ R ys := ⟨a, xs, rfl, .inr h, q⟩
theorem ifT {c A B : Prop} [Decidable c] (h : c) (q : A) : if decide c = true then A else B := by rw [decide_eq_true h]; exact iteT q
theorem ifF {c A B : Prop} [Decidable c] (h : ¬ c) (q : B) : if decide c = true then A else B := by rw [decide_eq_false h]; exact iteF q
theorem ifT' {c A B : Prop} [Decidable c] (h : c) (q : B) : if (!decide c) = true then A else B := by rw [decide_eq_true h]; exact iteF q
theorem ifF' {c A B : Prop} [Decidable c] (h : ¬ c) (q : A) : if (!decide c) = true then A else B := by rw [decide_eq_false h]; exact iteT q
theorem ifS {c A B : Prop} [Decidable c] (h1 : c → A) (h2 : ¬ c → B) : if decide c = true then A else B := by
  by_cases h : c
  · exact ifT h (h1 h)
  · exact ifF h (h2 h)
theorem ifS' {c A B : Prop} [Decidable c] (h1 : c → B) (h2 : ¬ c → A) : if (!decide c) = true then A else B := by
  by_cases h : c
  · exact ifT' h (h1 h)
  · exact ifF' h (h2 h)
theorem ifB {b : Bool} {A B : Prop} (h1 : b = true → A) (h2 : b = false → B) : if b = true then A else B := by
  cases b with
  | true => exact iteT (h1 rfl)
  | false => exact iteF (h2 rfl)
theorem w_andP {b1 b2 : Bool} {Q : Bool → Hp → Prop} (hc : ∀ R : Bool → Hp → Prop, R b1 H → c σ H R) (hd : ∀ R : Bool → Hp → Prop, R b2 H → d σ H R) (q : Q (b1 && b2) H) : tAnd c d σ H Q := by
  refine hc _ ?_
  cases b1 with
  | true => exact iteT (hd _ q)
  | false => exact iteF q
theorem w_orP {b1 b2 : Bool} {Q : Bool → Hp → Prop} (hc : ∀ R : Bool → Hp → Prop, R b1 H → c σ H R) (hd : ∀ R : Bool → Hp → Prop, R b2 H → d σ H R) (q : Q (b1 || b2) H) : tOr c d σ H Q := by
  refine hc _ ?_
  cases b1 with
  | true => exact iteT q
  | false => exact iteF (hd _ q)
theorem dec_vint {i j : Int} : decide (V.int i = V.int j) = decide (i = j) := by
  by_cases h : i = j
  · subst h; simp
  · rw [decide_eq_false h, decide_eq_false (fun e => h (V.int.inj e))]
end
/-- only what stands at p may have changed -/
def Chg (p : Addr) (H H' : Hp) : Prop := ∀ b o, H b = some o → b ≠ p → H' b = some o
theorem Chg.refl {p : Addr} {H : Hp} : Chg p H H := fun _ _ h _ => h
theorem Chg.same {p : Addr} {H H' H1 : Hp} (a : Chg p H H') (b : Same H' H1) : Chg p H H1 := fun c o h n => b c o (a c o h n)
theorem Same.chg {p : Addr} {H H' : Hp} (a : Same H H') : Chg p H H' := fun b o h _ => a b o h
theorem Chg.trans {p : Addr} {H H' H1 : Hp} (a : Chg p H H') (b : Chg p H' H1) : Chg p H H1 := fun c o h n => b c o (a c o h n) n
theorem Chg.upd {p : Addr} {H H' : Hp} {o : HO} (a : Chg p H H') : Chg p H (upd H' p o) := fun c u h n => by rw [upd_ne n]; exact a c u h n
theorem same_upd {H H' : Hp} {p : Addr} {o : HO} (a : Same H H') (h : H' p = none) : Same H (upd H' p o) := a.trans (same_new h)
theorem same_updF {H H' : Hp} {p : Addr} {o : HO} (a : Same H H') (h : H p = none) : Same H (upd H' p o) := fun b u e => by
  rw [upd_ne (ne_of_none e h)]
  exact a b u e
theorem atI_ints {ns : List Int} {k : Int} (h0 : 0 ≤ k) (h : k < (ns.map V.int).length) : ∃ n, n ∈ ns ∧ atI (ns.map V.int) k = some (.int n) ∧ ns[k.toNat]? = some n := by
  rw [List.length_map] at h
  have hj : k.toNat < ns.length := by omega
  refine ⟨ns[k.toNat], List.getElem_mem hj, ?_, List.getElem?_eq_getElem hj⟩
  have e : ((k.toNat : Nat) : Int) = k := by omega
  have q : atI (ns.map V.int) ((k.toNat : Nat) : Int) = some (V.int ns[k.toNat]) := atI_nat (by rw [List.getElem?_map]; simp [hj])
  rw [e] at q
  exact q
theorem atI_mem {xs : List V} {k : Int} (h0 : 0 ≤ k) (h : k < xs.length) : ∃ v, v ∈ xs ∧ atI xs k = some v ∧ xs[k.toNat]? = some v := by
  have hj : k.toNat < xs.length := by omega
  refine ⟨xs[k.toNat], List.getElem_mem hj, ?_, List.getElem?_eq_getElem hj⟩
  have e : ((k.toNat : Nat) : Int) = k := by omega
  have q : atI xs ((k.toNat : Nat) : Int) = some xs[k.toNat] := atI_nat (by simp [hj])
  rw [e] at q
  exact q
/-! ### rules with the written part by its name (within a comprehension) -/
section
variable {X : Cx} {K : PySem.W.Frag}
theorem ixLK (h : X.K = K := by rfl) : IxR X (rIxL K) := h ▸ ix_list
theorem ixTK (h : X.K = K := by rfl) : IxR X (rIxT K) := h ▸ ix_tup
theorem inK (h : X.K = K := by rfl) : OpR X (compareOp .In) (rIn K false) := h ▸ op_in_seq
theorem notInK (h : X.K = K := by rfl) : OpR X (compareOp .NotIn) (rIn K true) := h ▸ op_notIn_seq
theorem slLK (h : X.K = K := by rfl) : SlR X (rSlL K) := h ▸ sl_list
theorem slTK (h : X.K = K := by rfl) : SlR X (rSlT K) := h ▸ sl_tup
theorem eqDK (hu : X.A.units + 64 < cLine) (h : X.K = K := by rfl) : OpR X (compareOp .Eq) (rEqD K) := h ▸ op_eqD hu
theorem neDK (hu : X.A.units + 64 < cLine) (h : X.K = K := by rfl) : OpR X (compareOp .NotEq) (rNeD K) := h ▸ op_neD hu
theorem fldK {e : Expr} {f : Str} {ta : TE} {pos : Pos} (he : PE X e ta) (hb : attributeBase e f X.env (eval e X.env) = eval e X.env) (h : X.K = K := by rfl) : PE X (.Attribute e f pos) (tFld K ta f) := h ▸ pe_fld he hb
theorem lenK (h : X.K = K := by rfl) : CallR X (.builtin "len") (fun xs H Q => ∃ p ys, xs = [.ref p] ∧ (SqL K H p ys ∨ SqT K H p ys) ∧ Q (.int ys.length) H) := h ▸ call_len_seq
theorem isiK (h : X.K = K := by rfl) : CallR X (.builtin "isinstance") (rIsi K) := h ▸ call_isi
end
/-! ### methods called in a try, by keywords -/
section
open PySem.Spec PyProof.Rows
variable {X : Cx} {CX : CXT} {k : Nat} {f C : Addr} {fd : FuncData} {ps ks : List Str} {sp : Sp} {m x : Str} {p pos apos : Pos} {e o : Expr} {es : List Expr} {kws : List Keyword} {ta : TE} {t tk : TA} {g : List Value → List Value → List Value} {gV : List V → List V → List V} {n : Nat}
def tMethSx (C : Addr) (m : Str) (sp : Sp) (E : L2.St → XK) (ta : TE) (t : TA) : TE := fun σ H Q => ta σ H fun x H1 => ∃ a dx fs, x = .ref a ∧ H1 a = some (.ins C dx fs) ∧ fs.lookup m = none ∧
  t σ H1 fun vs H2 => sp (x :: vs) H2 Q (E σ)
theorem pe_methSx {E : L2.St → XK} {pl : Sem Bool} (he : PE X o ta) (c : Cls X.K C) (hm : Meth X.K C m f) (F : FnOk X.prog X.w X.K X.mg X.base CX k f fd ps sp) (hr : Room k X.A) (hb : Binds X.K fd ps []) (hx : ∀ σ, PassesAt CX X σ (E σ)) (ha : PA X (e :: es) t)
    (hst : starEach (e :: es) X.env = (false, eval e X.env) :: starEach es X.env := by rfl) (hpl : (backTo pos (starEach es X.env)).any (·.1) = false := by rfl)
    (ht : eval (.Call (.Attribute o m apos) (e :: es) [] pos) X.env = (do
      let ov ← eval o X.env
      standAt apos.atName
      let (f, first) ← holding [ov] (getMethod ov m pl)
      callWith pos f first (backTo pos (starEach (e :: es) X.env)) (backToKw pos (keywordEach [] X.env))) := by rfl) :
    PE X (.Call (.Attribute o m apos) (e :: es) [] pos) (tMethSx C m sp E ta t) := by
  refine ⟨fun pins s σ H Q I h => ?_⟩
  refine PySem.W.methodCall_KW (pl := pl) (thn (he.run pins s σ H _ I h) fun u s1 ⟨x, H1, I1, rx, a, dx, fs, ex, ea, l, q⟩ => ?_) ht
  subst ex
  obtain rfl : u = Value.ref a := rx
  refine getmeth_ok I1 ea c hm l ?_
  refine PySem.W.callWith_K (first := [.ref a]) (h₀ := X.base) I.ok.mod.kin hm.kp (thn (ha.run pos pins s1 σ H1 _ I1 q) fun us s2 ⟨vs, H2, I2, r, q2⟩ => ⟨I2.kIn, ?_⟩) hst hpl
  exact run_fnS (us := .ref a :: us) (vs := .ref a :: vs) F hr hb (hx σ) I2 (.cons rfl r) q2
def tMethN (C : Addr) (m : Str) (j l : Nat) (sp : Sp) (gV : List V → List V → List V) (E : XK) (ta : TE) (t tk : TA) : TE := fun σ H Q => ta σ H fun x H1 => ∃ a dx fs, x = .ref a ∧ H1 a = some (.ins C dx fs) ∧ fs.lookup m = none ∧
  t σ H1 fun vs H2 => tk σ H2 fun zs H3 => vs.length = j ∧ zs.length = l ∧ sp (gV (x :: vs) zs) H3 Q E
theorem pe_methN0 {E : XK} {pl : Sem Bool} (he : PE X o ta) (c : Cls X.K C) (hm : Meth X.K C m f) (F : FnOk X.prog X.w X.K X.mg X.base CX k f fd ps sp) (hr : Room k X.A) (hb : KBn X.K fd ps 1 ks g gV) (hx : Passes CX X E) (hkw : PK X kws tk)
    (hall : (backToKw pos (keywordEach kws X.env)).all (·.1.isSome) = true := by rfl) (hks : (backToKw pos (keywordEach kws X.env)).filterMap (·.1) = ks := by rfl)
    (hpl : ((backTo pos (starEach [] X.env)).any (·.1) || (backToKw pos (keywordEach kws X.env)).any (·.1.isNone)) = false := by rfl)
    (ht : eval (.Call (.Attribute o m apos) [] kws pos) X.env = (do
      let ov ← eval o X.env
      standAt apos.atName
      let (f, first) ← holding [ov] (getMethod ov m pl)
      callWith pos f first (backTo pos (starEach [] X.env)) (backToKw pos (keywordEach kws X.env))) := by rfl) :
    PE X (.Call (.Attribute o m apos) [] kws pos) (tMethN C m 0 ks.length sp gV E ta tNil tk) := by
  refine ⟨fun pins s σ H Q I h => ?_⟩
  refine PySem.W.methodCall_KW (pl := pl) (thn (he.run pins s σ H _ I h) fun u s1 ⟨x, H1, I1, rx, a, dx, fs, ex, ea, l, q⟩ => ?_) ht
  subst ex
  obtain rfl : u = Value.ref a := rx
  refine getmeth_ok I1 ea c hm l ?_
  refine PySem.W.callWith_KW0 (first := [.ref a]) (h₀ := X.base) I.ok.mod.kin hm.kp hall ?_ hpl
  refine thn (hkw.run pos pins s1 σ H1 _ I1 q) fun ws s2 ⟨zs, H2, I2, rz, l1, l2, q2⟩ => ⟨I2.kIn, ?_⟩
  rw [hks]
  exact run_fnN (us := [.ref a]) (vs := [.ref a]) F hr hb hx I2 (.cons rfl .nil) rz rfl l2 q2
theorem pe_methN {E : XK} {pl : Sem Bool} (he : PE X o ta) (c : Cls X.K C) (hm : Meth X.K C m f) (F : FnOk X.prog X.w X.K X.mg X.base CX k f fd ps sp) (hr : Room k X.A) (hb : KBn X.K fd ps (n + 1) ks g gV) (hx : Passes CX X E) (ha : PA X (e :: es) t) (hkw : PK X kws tk)
    (hall : (backToKw pos (keywordEach kws X.env)).all (·.1.isSome) = true := by rfl) (hks : (backToKw pos (keywordEach kws X.env)).filterMap (·.1) = ks := by rfl)
    (hst : starEach (e :: es) X.env = (false, eval e X.env) :: starEach es X.env := by rfl)
    (hpl : ((backTo pos (starEach (e :: es) X.env)).any (·.1) || (backToKw pos (keywordEach kws X.env)).any (·.1.isNone)) = false := by rfl)
    (ht : eval (.Call (.Attribute o m apos) (e :: es) kws pos) X.env = (do
      let ov ← eval o X.env
      standAt apos.atName
      let (f, first) ← holding [ov] (getMethod ov m pl)
      callWith pos f first (backTo pos (starEach (e :: es) X.env)) (backToKw pos (keywordEach kws X.env))) := by rfl) :
    PE X (.Call (.Attribute o m apos) (e :: es) kws pos) (tMethN C m n ks.length sp gV E ta t tk) := by
  refine ⟨fun pins s σ H Q I h => ?_⟩
  refine PySem.W.methodCall_KW (pl := pl) (thn (he.run pins s σ H _ I h) fun u s1 ⟨x, H1, I1, rx, a, dx, fs, ex, ea, l, q⟩ => ?_) ht
  subst ex
  obtain rfl : u = Value.ref a := rx
  refine getmeth_ok I1 ea c hm l ?_
  refine PySem.W.callWith_KW (first := [.ref a]) (h₀ := X.base) I.ok.mod.kin hm.kp hall (thn (ha.run pos pins s1 σ H1 _ I1 q) fun us s2 ⟨vs, H2, I2, r, q2⟩ => ?_) hpl hst
  refine thn (hkw.run pos pins s2 σ H2 _ I2 q2) fun ws s3 ⟨zs, H3, I3, rz, l1, l2, q3⟩ => ⟨I3.kIn, ?_⟩
  rw [hks]
  exact run_fnN (us := .ref a :: us) (vs := .ref a :: vs) F hr hb hx I3 (.cons rfl r) rz (by rw [List.length_cons, l1]) l2 q3
/-- f(k = v, ..) -/
theorem pe_callN0 {E : XK} (F : FnOk X.prog X.w X.K X.mg X.base CX k f fd ps sp) (hr : Room k X.A) (hg : Gl X x) (hm : X.mg x = some (.ref f)) (hk : PySem.W.keepIn X.K (.ref f) = true) (hb : KBn X.K fd ps 0 ks g gV) (hx : Passes CX X E) (hkw : PK X kws tk)
    (hall : (backToKw pos (keywordEach kws X.env)).all (·.1.isSome) = true := by rfl) (hks : (backToKw pos (keywordEach kws X.env)).filterMap (·.1) = ks := by rfl)
    (hdb : (x == ("__debug__" : Str)) = false := by decide)
    (hpl : ((backTo pos (starEach [] X.env)).any (·.1) || (backToKw pos (keywordEach kws X.env)).any (·.1.isNone)) = false := by rfl) :
    PE X (.Call (.Name x p) [] kws pos) (tCallN 0 ks.length sp gV E tNil tk) := by
  refine ⟨fun pins s σ H Q I h => ?_⟩
  refine wpAny_Call_Name_kw (ld_glob I hg hm ?_ hdb)
  refine PySem.W.callWith_KW0 (h₀ := X.base) I.ok.mod.kin hk hall ?_ hpl
  refine thn (hkw.run pos pins s σ H _ I h) fun ws s2 ⟨zs, H2, I2, rz, l1, l2, q2⟩ => ⟨I2.kIn, ?_⟩
  rw [hks]
  exact run_fnN (us := []) (vs := []) F hr hb hx I2 .nil rz rfl l2 q2
end
section
variable {K : PySem.W.Frag} {σ : St} {H : Hp} {Q : VK} {ta : TE} {t tk : TA} {v : V}
theorem w_methSx0 {C : Addr} {m : Str} {sp : Sp} {E : St → XK} (q : ta σ H fun x H1 => ∃ a dx fs, x = .ref a ∧ H1 a = some (.ins C dx fs) ∧ fs.lookup m = none ∧ t σ H1 fun vs H2 => sp (x :: vs) H2 Q (E σ)) : tMethSx C m sp E ta t σ H Q := q
theorem w_methN0 {C : Addr} {m : Str} {j l : Nat} {sp : Sp} {gV : List V → List V → List V} {E : XK} (q : ta σ H fun x H1 => ∃ a dx fs, x = .ref a ∧ H1 a = some (.ins C dx fs) ∧ fs.lookup m = none ∧ t σ H1 fun vs H2 => tk σ H2 fun zs H3 => vs.length = j ∧ zs.length = l ∧ sp (gV (x :: vs) zs) H3 Q E) : tMethN C m j l sp gV E ta t tk σ H Q := q
theorem w_callN {j l : Nat} {sp : Sp} {gV : List V → List V → List V} {E : XK} (q : t σ H fun vs H1 => tk σ H1 fun zs H2 => vs.length = j ∧ zs.length = l ∧ sp (gV vs zs) H2 Q E) : tCallN j l sp gV E t tk σ H Q := q
theorem w_callS {sp : Sp} {E : St → XK} (q : t σ H fun vs H1 => sp vs H1 Q (E σ)) : tCallS sp E t σ H Q := q
theorem w_rfl {α : Type} {x : α} {R : Prop} (q : R) : x = x ∧ R := ⟨rfl, q⟩
theorem w_ea {σ2 : L2.St} {vs : List Nat} {R : Prop} (h : wipe σ2 vs = wipe σ vs) (q : R) : wipe σ2 vs = wipe σ vs ∧ R := ⟨h, q⟩
theorem w_ln {α : Type} {xs : List α} {n : Nat} {R : Prop} (h : xs.length = n) (q : R) : xs.length = n ∧ R := ⟨h, q⟩
theorem w_yes {Q : Bool → Hp → Prop} (q : Q true H) : tYes σ H Q := q
end
theorem iteNT {A B : Prop} (h : B) : if (!true) = true then A else B := h
theorem iteNF {A B : Prop} (h : A) : if (!false) = true then A else B := h
/-! ### comprehensions without tests: each item gives a known value -/
section
variable {K : PySem.W.Frag} {σ : L2.St} {H : Hp} {Q : VK} {g : TG} {te tl : TE} {l : Addr} {xs ys : List V} {vs : List Nat}
theorem w_lc0L (q : tl σ H fun x H1 => ∃ a, x = .ref a ∧ (∃ xs, SqL K H1 a xs) ∧ ∀ D, H1 D = none → ∃ W : Nat → Nat → Hp → Prop, (∃ m, W 0 m (upd H1 D (.lst []))) ∧ ∀ i m H, W i m H →
      ((Itl K a).stop i H ∧ Q (.ref D) H) ∨ ((Itl K a).go i H ∧ ∃ Nx : Hp → Prop, (∀ H', Nx H' → ∃ m', m' < m ∧ W (i + 1) m' H') ∧ ∀ x H', (Itl K a).yld i H x H' → g x (wipe σ vs) H' fun σ2 H2 => wipe σ2 vs = wipe σ vs ∧ tYes σ2 H2 fun b H3 =>
        if b = true then te σ2 H3 fun y H4 => ∃ acc, H4 D = some (.lst acc) ∧ acc.length < sizeLine ∧ Nx (upd H4 D (.lst (acc ++ [y]))) else Nx H3)) : tLc (iList K tl) g tYes te vs σ H Q := q
theorem w_lc0T (q : tl σ H fun x H1 => ∃ a, x = .ref a ∧ (∃ xs, SqT K H1 a xs) ∧ ∀ D, H1 D = none → ∃ W : Nat → Nat → Hp → Prop, (∃ m, W 0 m (upd H1 D (.lst []))) ∧ ∀ i m H, W i m H →
      ((Itt K a).stop i H ∧ Q (.ref D) H) ∨ ((Itt K a).go i H ∧ ∃ Nx : Hp → Prop, (∀ H', Nx H' → ∃ m', m' < m ∧ W (i + 1) m' H') ∧ ∀ x H', (Itt K a).yld i H x H' → g x (wipe σ vs) H' fun σ2 H2 => wipe σ2 vs = wipe σ vs ∧ tYes σ2 H2 fun b H3 =>
        if b = true then te σ2 H3 fun y H4 => ∃ acc, H4 D = some (.lst acc) ∧ acc.length < sizeLine ∧ Nx (upd H4 D (.lst (acc ++ [y]))) else Nx H3)) : tLc (iTup K tl) g tYes te vs σ H Q := q
theorem lc_inv {f : Nat → V} {D : Addr} {H' : Hp} {i : Nat} (nD : H D = none) (s : Same H H') (hD : H' D = some (.lst ((List.range i).map f))) (v : V) (hv : v = f i) :
    Same H (upd H' D (.lst (((List.range i).map f) ++ [v]))) ∧ (upd H' D (.lst (((List.range i).map f) ++ [v]))) D = some (.lst ((List.range (i + 1)).map f)) := by
  refine ⟨same_updF s nD, ?_⟩
  rw [upd_same, List.range_succ, List.map_append, hv]
  rfl
/-- the i-th item gives f i; nothing that stood is changed -/
theorem w_lcL (f : Nat → V) (h : SqL K H l xs) (hz : xs.length ≤ 100000)
    (step : ∀ (i : Nat) (x : V) (H' : Hp) (R : VK) (S : Hp → Prop), xs[i]? = some x → Same H H' → (∀ H4, Same H' H4 → R (f i) H4) → g x (wipe σ vs) H' fun σ2 H2 => wipe σ2 vs = wipe σ vs ∧ tYes σ2 H2 fun b H3 => if b = true then te σ2 H3 R else S H3)
    (q : ∀ D H', Same H H' → H D = none → H' D = some (.lst ((List.range xs.length).map f)) → Q (.ref D) H') : ∃ a, V.ref l = .ref a ∧ (∃ xs, SqL K H a xs) ∧ ∀ D, H D = none → ∃ W : Nat → Nat → Hp → Prop, (∃ m, W 0 m (upd H D (.lst []))) ∧ ∀ i m H, W i m H →
      ((Itl K a).stop i H ∧ Q (.ref D) H) ∨ ((Itl K a).go i H ∧ ∃ Nx : Hp → Prop, (∀ H', Nx H' → ∃ m', m' < m ∧ W (i + 1) m' H') ∧ ∀ x H', (Itl K a).yld i H x H' → g x (wipe σ vs) H' fun σ2 H2 => wipe σ2 vs = wipe σ vs ∧ tYes σ2 H2 fun b H3 =>
        if b = true then te σ2 H3 fun y H4 => ∃ acc, H4 D = some (.lst acc) ∧ acc.length < sizeLine ∧ Nx (upd H4 D (.lst (acc ++ [y]))) else Nx H3) := by
  refine ⟨l, rfl, ⟨xs, h⟩, fun D nD => ?_⟩
  refine lc_list (K := K) (a := l) (xs := xs) (fun i H' => i ≤ xs.length ∧ Same H H' ∧ H' D = some (.lst ((List.range i).map f))) ⟨Nat.zero_le _, same_new nD, upd_same⟩ (fun i H' _ p => p.2.1.seq h) (fun i x H' hx p => ?_) (fun H' p => q D H' p.2.1 nD p.2.2)
  have hi : i < xs.length := (List.getElem?_eq_some_iff.mp hx).1
  refine step i x H' _ _ hx p.2.1 fun H4 s4 => ?_
  have hD4 := s4 _ _ p.2.2
  refine ⟨_, hD4, ?_, hi, lc_inv nD (p.2.1.trans s4) hD4 _ rfl⟩
  rw [List.length_map, List.length_range]
  exact Nat.lt_of_lt_of_le (Nat.lt_of_lt_of_le hi hz) (by decide)
theorem w_lcT (f : Nat → V) (h : SqT K H l xs) (hz : xs.length ≤ 100000) (hs : ∀ H', Same H H' → SqT K H' l xs)
    (step : ∀ (i : Nat) (x : V) (H' : Hp) (R : VK) (S : Hp → Prop), xs[i]? = some x → Same H H' → (∀ H4, Same H' H4 → R (f i) H4) → g x (wipe σ vs) H' fun σ2 H2 => wipe σ2 vs = wipe σ vs ∧ tYes σ2 H2 fun b H3 => if b = true then te σ2 H3 R else S H3)
    (q : ∀ D H', Same H H' → H D = none → H' D = some (.lst ((List.range xs.length).map f)) → Q (.ref D) H') : ∃ a, V.ref l = .ref a ∧ (∃ xs, SqT K H a xs) ∧ ∀ D, H D = none → ∃ W : Nat → Nat → Hp → Prop, (∃ m, W 0 m (upd H D (.lst []))) ∧ ∀ i m H, W i m H →
      ((Itt K a).stop i H ∧ Q (.ref D) H) ∨ ((Itt K a).go i H ∧ ∃ Nx : Hp → Prop, (∀ H', Nx H' → ∃ m', m' < m ∧ W (i + 1) m' H') ∧ ∀ x H', (Itt K a).yld i H x H' → g x (wipe σ vs) H' fun σ2 H2 => wipe σ2 vs = wipe σ vs ∧ tYes σ2 H2 fun b H3 =>
        if b = true then te σ2 H3 fun y H4 => ∃ acc, H4 D = some (.lst acc) ∧ acc.length < sizeLine ∧ Nx (upd H4 D (.lst (acc ++ [y]))) else Nx H3) := by
  refine ⟨l, rfl, ⟨xs, h⟩, fun D nD => ?_⟩
  refine lc_tup (K := K) (a := l) (xs := xs) (fun i H' => i ≤ xs.length ∧ Same H H' ∧ H' D = some (.lst ((List.range i).map f))) ⟨Nat.zero_le _, same_new nD, upd_same⟩ (fun i H' _ p => hs _ p.2.1) (fun i x H' hx p => ?_) (fun H' p => q D H' p.2.1 nD p.2.2)
  have hi : i < xs.length := (List.getElem?_eq_some_iff.mp hx).1
  refine step i x H' _ _ hx p.2.1 fun H4 s4 => ?_
  have hD4 := s4 _ _ p.2.2
  refine ⟨_, hD4, ?_, hi, lc_inv nD (p.2.1.trans s4) hD4 _ rfl⟩
  rw [List.length_map, List.length_range]
  exact Nat.lt_of_lt_of_le (Nat.lt_of_lt_of_le hi hz) (by decide)
theorem lc_L (f : Nat → V) (htl : ∀ R : VK, R (.ref l) H → tl σ H R) (h : SqL K H l xs) (hz : xs.length ≤ 100000)
    (step : ∀ (i : Nat) (x : V) (H' : Hp) (R : VK) (S : Hp → Prop), xs[i]? = some x → Same H H' → (∀ H4, Same H' H4 → R (f i) H4) → g x (wipe σ vs) H' fun σ2 H2 => wipe σ2 vs = wipe σ vs ∧ tYes σ2 H2 fun b H3 => if b = true then te σ2 H3 R else S H3)
    (q : ∀ D H', Same H H' → H D = none → H' D = some (.lst ((List.range xs.length).map f)) → Q (.ref D) H') : tLc (iList K tl) g tYes te vs σ H Q := w_lc0L (htl _ (w_lcL f h hz step q))
theorem lc_T (f : Nat → V) (htl : ∀ R : VK, R (.ref l) H → tl σ H R) (h : SqT K H l xs) (hz : xs.length ≤ 100000) (hs : ∀ H', Same H H' → SqT K H' l xs)
    (step : ∀ (i : Nat) (x : V) (H' : Hp) (R : VK) (S : Hp → Prop), xs[i]? = some x → Same H H' → (∀ H4, Same H' H4 → R (f i) H4) → g x (wipe σ vs) H' fun σ2 H2 => wipe σ2 vs = wipe σ vs ∧ tYes σ2 H2 fun b H3 => if b = true then te σ2 H3 R else S H3)
    (q : ∀ D H', Same H H' → H D = none → H' D = some (.lst ((List.range xs.length).map f)) → Q (.ref D) H') : tLc (iTup K tl) g tYes te vs σ H Q := w_lc0T (htl _ (w_lcT f h hz hs step q))
theorem same_seqT {H H' : Hp} {a : Addr} {xs : List V} (e : Same H H') (h : SqT K H a xs) : SqT K H' a xs := by
  rcases h with (h | ⟨o, h⟩) | h
  · exact .inl (.inl (e _ _ h))
  · exact .inl (.inr ⟨o, e _ _ h⟩)
  · exact .inr h
end
theorem w_allTrue {K : PySem.W.Frag} {H : Hp} {Q : VK} {D : Addr} {n : Nat} (h : H D = some (.lst ((List.range n).map fun _ => V.bl true))) (q : Q (.bl true) H) : rAll K [.ref D] H Q := by
  refine ⟨D, (List.range n).map fun _ => true, rfl, SqL.of (by rw [List.map_map]; exact h), ?_⟩
  have e : ((List.range n).map fun _ => true).all id = true := by simp
  rw [e]
  exact q
/-! ### refusals -/
def spCore (K : PySem.W.Frag) : Sp := fun vs H Q _ => ∃ (x C : Addr) (v : V), vs = [.ref x, v] ∧ OexC K C ∧ PySem.W.findIn K (.ref C) "value" = some none ∧ H x = some (exo x C none) ∧
  ∀ dx, H dx = none → dx ≠ x → Q .non (upd (upd H dx (exd dx [("value", v)])) x (exo x C (some dx)))
theorem w_mko0 {C : Addr} {sp : Sp} {dvs : List V} {ta : TA} {σ : St} {H : Hp} {Q : XK} (q : ta σ H fun vs H1 => vs.length ≤ 1000 ∧ ∀ a, H1 a = none → sp (.ref a :: (vs ++ dvs)) (upd H1 a (exo a C none))
  (fun v H2 => v = .non ∧ ∃ (d : Addr) (fs : List (Str × V)), H2 a = some (exo a C (some d)) ∧ H2 d = some (exd d fs) ∧ H1 d = none ∧ Q (.ref C) (some d) (upd (del H2 a) d (.xd fs))) (fun _ _ _ => False)) : tMkO C sp dvs ta σ H Q := q
theorem w_core {K : PySem.W.Frag} {C : Addr} {v : V} {H : Hp} {Q : XK} (hC : OexC K C) (hn : PySem.W.findIn K (.ref C) "value" = some none)
    (q : ∀ d H', Same H H' → H d = none → H' d = some (.xd [("value", v)]) → Q (.ref C) (some d) H') :
    [v].length ≤ 1000 ∧ ∀ a, H a = none → spCore K (.ref a :: ([v] ++ [])) (upd H a (exo a C none))
      (fun v H2 => v = .non ∧ ∃ (d : Addr) (fs : List (Str × V)), H2 a = some (exo a C (some d)) ∧ H2 d = some (exd d fs) ∧ H d = none ∧ Q (.ref C) (some d) (upd (del H2 a) d (.xd fs))) (fun _ _ _ => False) := by
  refine ⟨by show 1 ≤ 1000; decide, fun x nx => ⟨x, C, v, rfl, hC, hn, upd_same, fun dx ndx hne => ⟨rfl, dx, _, upd_same, (upd_ne hne).trans upd_same, ?_, q dx _ ?_ ?_ upd_same⟩⟩⟩
  · rw [upd_ne hne] at ndx
    exact ndx
  · intro b o e
    have hb : b ≠ x := ne_of_none e nx
    have hd : b ≠ dx := by
      intro z
      rw [z] at e
      rw [upd_ne hne, e] at ndx
      cases ndx
    rw [upd_ne hd, del_ne hb, upd_ne hb, upd_ne hd, upd_ne hb]
    exact e
  · rw [upd_ne hne] at ndx
    exact ndx
theorem map_get {ns : List Int} {i : Nat} {x : V} (h : (ns.map V.int)[i]? = some x) : ∃ n, n ∈ ns ∧ x = .int n := by
  rw [List.getElem?_map] at h
  cases e : ns[i]? with
  | none => rw [e] at h; cases h
  | some n =>
    rw [e] at h
    exact ⟨n, List.mem_of_getElem? e, (Option.some.inj h).symm⟩
/-! ### loops -/
section
variable {K : PySem.W.Frag} {σ : L2.St} {H : Hp} {g : TG} {tb : TS} {nx bk ct : L2.St → Hp → Prop} {rt : VK} {ta : TA} {tl : TE}
def kR1 (g : TG) (tb : TS) (D : Ends) (σ : L2.St) (vs : List V) (H : Hp) : Prop := ∃ j : Int, vs = [.int j] ∧ -(2 ^ 62) ≤ j ∧ j < 2 ^ 62 ∧ ∃ W : Nat → Nat → L2.St → Hp → Prop, (∃ m, W 0 m σ H) ∧ ∀ i m σ H, W i m σ H →
  ((Itr 0 j.toNat).stop i H ∧ D.nx σ H) ∨ ((Itr 0 j.toNat).go i H ∧ ∃ N : L2.St → Hp → Prop, (∀ σ' H', N σ' H' → ∃ m', m' < m ∧ W (i + 1) m' σ' H') ∧ ∀ x H', (Itr 0 j.toNat).yld i H x H' → g x σ H' fun σ2 H2 => tb { D with nx := N, ct := N, bk := D.nx } σ2 H2)
theorem w_forR1 (q : ta σ H fun vs H1 => kR1 g tb ⟨nx, rt, bk, ct⟩ σ vs H1) : tFor (iRng1 ta) g tb ⟨nx, rt, bk, ct⟩ σ H := q
theorem w_range1 {j : Int} (Pv : Nat → L2.St → Hp → Prop) (hj : -100000000 ≤ j ∧ j < 100000000) (h0 : Pv 0 σ H)
    (hs : ∀ (i : Nat) σ' H', (i : Int) < j → Pv i σ' H' → g (.int i) σ' H' fun σ2 H2 => tb ⟨Pv (i + 1), rt, nx, Pv (i + 1)⟩ σ2 H2) (hd : ∀ σ' H', Pv j.toNat σ' H' → nx σ' H') : kR1 g tb ⟨nx, rt, bk, ct⟩ σ [.int j] H := by
  refine ⟨j, rfl, by omega, by omega, for_range (lo := 0) (n := j.toNat) (D := ⟨nx, rt, bk, ct⟩) Pv h0 (fun i σ' H' hi p => ?_) hd⟩
  have e : (0 : Int) + (i : Int) = i := by omega
  rw [e]
  exact hs i σ' H' (by omega) p
def kFL (K : PySem.W.Frag) (g : TG) (tb : TS) (D : Ends) (σ : L2.St) (x : V) (H : Hp) : Prop := ∃ a, x = .ref a ∧ (∃ xs, SqL K H a xs) ∧ ∃ W : Nat → Nat → L2.St → Hp → Prop, (∃ m, W 0 m σ H) ∧ ∀ i m σ H, W i m σ H →
  ((Itl K a).stop i H ∧ D.nx σ H) ∨ ((Itl K a).go i H ∧ ∃ N : L2.St → Hp → Prop, (∀ σ' H', N σ' H' → ∃ m', m' < m ∧ W (i + 1) m' σ' H') ∧ ∀ x H', (Itl K a).yld i H x H' → g x σ H' fun σ2 H2 => tb { D with nx := N, ct := N, bk := D.nx } σ2 H2)
theorem w_forL (q : tl σ H fun x H1 => kFL K g tb ⟨nx, rt, bk, ct⟩ σ x H1) : tFor (iList K tl) g tb ⟨nx, rt, bk, ct⟩ σ H := q
theorem w_list {a : Addr} {xs : List V} (Pv : Nat → L2.St → Hp → Prop) (h : SqL K H a xs) (h0 : Pv 0 σ H) (hl : ∀ i σ' H', i ≤ xs.length → Pv i σ' H' → SqL K H' a xs)
    (hs : ∀ (i : Nat) x σ' H', xs[i]? = some x → Pv i σ' H' → g x σ' H' fun σ2 H2 => tb ⟨Pv (i + 1), rt, nx, Pv (i + 1)⟩ σ2 H2) (hd : ∀ σ' H', Pv xs.length σ' H' → nx σ' H') : kFL K g tb ⟨nx, rt, bk, ct⟩ σ (.ref a) H :=
  ⟨a, rfl, ⟨xs, h⟩, for_list (D := ⟨nx, rt, bk, ct⟩) Pv h0 hl hs hd⟩
def kFT (K : PySem.W.Frag) (g : TG) (tb : TS) (D : Ends) (σ : L2.St) (x : V) (H : Hp) : Prop := ∃ a, x = .ref a ∧ (∃ xs, SqT K H a xs) ∧ ∃ W : Nat → Nat → L2.St → Hp → Prop, (∃ m, W 0 m σ H) ∧ ∀ i m σ H, W i m σ H →
  ((Itt K a).stop i H ∧ D.nx σ H) ∨ ((Itt K a).go i H ∧ ∃ N : L2.St → Hp → Prop, (∀ σ' H', N σ' H' → ∃ m', m' < m ∧ W (i + 1) m' σ' H') ∧ ∀ x H', (Itt K a).yld i H x H' → g x σ H' fun σ2 H2 => tb { D with nx := N, ct := N, bk := D.nx } σ2 H2)
theorem w_forT (q : tl σ H fun x H1 => kFT K g tb ⟨nx, rt, bk, ct⟩ σ x H1) : tFor (iTup K tl) g tb ⟨nx, rt, bk, ct⟩ σ H := q
theorem w_tupl {a : Addr} {xs : List V} (Pv : Nat → L2.St → Hp → Prop) (h : SqT K H a xs) (h0 : Pv 0 σ H) (hl : ∀ i σ' H', i ≤ xs.length → Pv i σ' H' → SqT K H' a xs)
    (hs : ∀ (i : Nat) x σ' H', xs[i]? = some x → Pv i σ' H' → g x σ' H' fun σ2 H2 => tb ⟨Pv (i + 1), rt, nx, Pv (i + 1)⟩ σ2 H2) (hd : ∀ σ' H', Pv xs.length σ' H' → nx σ' H') : kFT K g tb ⟨nx, rt, bk, ct⟩ σ (.ref a) H :=
  ⟨a, rfl, ⟨xs, h⟩, for_tup (D := ⟨nx, rt, bk, ct⟩) Pv h0 hl hs hd⟩
/-- a comprehension by an invariant over its turns -/
theorem lcI_L {Q : VK} {te : TE} {l : Addr} {xs : List V} {vs : List Nat} (Pv : Addr → Nat → Hp → Prop) (htl : ∀ R : VK, R (.ref l) H → tl σ H R) (h : SqL K H l xs) (h0 : ∀ D, H D = none → Pv D 0 (upd H D (.lst []))) (hl : ∀ D i H', i ≤ xs.length → Pv D i H' → SqL K H' l xs)
    (step : ∀ D (i : Nat) (x : V) (H' : Hp) (R : VK) (S : Hp → Prop), H D = none → xs[i]? = some x → Pv D i H' → (∀ y H4 acc, H4 D = some (.lst acc) → acc.length ≤ 100000 → Pv D (i + 1) (upd H4 D (.lst (acc ++ [y]))) → R y H4) → g x (wipe σ vs) H' fun σ2 H2 => wipe σ2 vs = wipe σ vs ∧ tYes σ2 H2 fun b H3 => if b = true then te σ2 H3 R else S H3)
    (q : ∀ D H', H D = none → Pv D xs.length H' → Q (.ref D) H') : tLc (iList K tl) g tYes te vs σ H Q := by
  refine w_lc0L (htl _ ⟨l, rfl, ⟨xs, h⟩, fun D nD => ?_⟩)
  refine lc_list (K := K) (a := l) (xs := xs) (fun i H' => Pv D i H') (h0 D nD) (fun i H' hi p => hl D i H' hi p) (fun i x H' hx p => ?_) (fun H' p => q D H' nD p)
  exact step D i x H' _ _ nD hx p fun y H4 acc e z p4 => ⟨acc, e, Nat.lt_of_le_of_lt z (by decide), p4⟩
end
section
variable {K : PySem.W.Frag} {σ : L2.St} {H H' G : Hp} {Q : VK} {to : TE} {t : TA} {p q x : Addr}
theorem w_bm {T : String} {r : V → List V → Hp → VK → Prop} (h : to σ H fun x H1 => tyV K T x H1 ∧ t σ H1 fun xs H2 => r x xs H2 Q) : tBM K T r to t σ H Q := h
theorem w_bm0 {T : String} {r : V → List V → Hp → VK → Prop} (h : to σ H fun x H1 => tyV K T x H1 ∧ r x [] H1 Q) : tBM0 K T r to σ H Q := h
theorem w_tyL {a : Addr} {xs : List V} {R : Prop} (h : SqL K H a xs) (q : R) : tyV K "list" (.ref a) H ∧ R := ⟨.inl ⟨rfl, xs, h⟩, q⟩
theorem w_app {l : Addr} {xs : List V} {y : V} (h : H l = some (.lst xs)) (hz : xs.length ≤ 100000) (q : Q .non (upd H l (.lst (xs ++ [y])))) : rAppend (.ref l) [y] H Q := ⟨l, xs, y, rfl, rfl, h, Nat.lt_of_le_of_lt hz (by decide), q⟩
theorem w_cat {l b : Addr} {xs zs : List V} (h1 : H l = some (.lst xs)) (h2 : H b = some (.lst zs)) (hz : xs.length + zs.length ≤ 100000) (q : ∀ p, H p = none → Q (.ref p) (upd H p (.lst (xs ++ zs)))) : rCat (.ref l) (.ref b) H Q := ⟨l, b, xs, zs, rfl, rfl, h1, h2, Nat.le_trans hz (by decide), q⟩
theorem ixN_of {n : Nat} {d : Int} (h0 : 0 ≤ d) (h1 : d < n) : ixN n d = some d.toNat := by
  unfold ixN
  rw [if_pos h0, if_pos h1]
theorem nodup_ne {α : Type} {l : List α} (nd : l.Nodup) {i j : Nat} {a b : α} (hi : l[i]? = some a) (hj : l[j]? = some b) (h : i ≠ j) : a ≠ b := by
  obtain ⟨h1, rfl⟩ := List.getElem?_eq_some_iff.mp hi
  obtain ⟨h2, rfl⟩ := List.getElem?_eq_some_iff.mp hj
  have z := List.pairwise_iff_getElem.mp nd
  rcases Nat.lt_or_gt_of_ne h with q | q
  · exact z i j h1 h2 q
  · exact (z j i h2 h1 q).symm
/-- G: what is never changed; it stays through a change at p, if p is none of it -/
theorem sub_chg (s : Same G H) (n : G p = none) (c : Chg p H H') : Same G H' := fun b o e => c b o (s b o e) (ne_of_none e n)
theorem sub_upd {o : HO} (s : Same G H) (n : G p = none) : Same G (upd H p o) := fun b u e => by
  rw [upd_ne (ne_of_none e n)]
  exact s b u e
/-- G grows by what stands in H -/
theorem sub_grow {o : HO} (s : Same G H) (h : H p = some o) : Same (upd G p o) H := fun b u e => by
  by_cases z : b = p
  · subst z
    rw [upd_same] at e
    rw [← e]
    exact h
  · rw [upd_ne z] at e
    exact s b u e
theorem same_grow {o : HO} (n : G p = none) : Same G (upd G p o) := same_new n
theorem none_upd {o : HO} (h : G q = none) (n : q ≠ p) : upd G p o q = none := by rw [upd_ne n]; exact h
/-- G: H without the places of bs -/
def cutH (H : Hp) (bs : List Addr) : Hp := fun b => if b ∈ bs then none else H b
theorem cut_none {bs : List Addr} (h : p ∈ bs) : cutH H bs p = none := if_pos h
theorem cut_some {bs : List Addr} (h : p ∉ bs) : cutH H bs p = H p := if_neg h
theorem cut_same {bs : List Addr} : Same (cutH H bs) H := fun b o e => by
  by_cases h : b ∈ bs
  · rw [cut_none h] at e; cases e
  · rw [cut_some h] at e; exact e
end
section
variable {K : PySem.W.Frag} {σ : L2.St} {H : Hp} {Q : VK} {ta tb tc te : TE} {tl th : TO} {xs : List V}
theorem w_slT {a : Addr} {lo hi : Option Int} (h : SqT K H a xs) (hw : ¬ (HT.sIx xs.length 0 lo = 0 ∧ HT.sIx xs.length xs.length hi = xs.length)) (q : ∀ p, H p = none → Q (.ref p) (upd H p (.tup (cutV xs lo hi)))) : rSlT K (.ref a) lo hi H Q := ⟨a, xs, rfl, h, hw, q⟩
theorem w_inL {neg : Bool} {a : Addr} {x : V} (h : SqL K H a xs) (h1 : flatV x = true) (h2 : xs.all flatV = true) (q : Q (.bl (if neg then !inV x xs else inV x xs)) H) : rIn K neg x (.ref a) H Q := ⟨a, xs, rfl, .inl h, h1, h2, q⟩
theorem w_inT {neg : Bool} {a : Addr} {x : V} (h : SqT K H a xs) (h1 : flatV x = true) (h2 : xs.all flatV = true) (q : Q (.bl (if neg then !inV x xs else inV x xs)) H) : rIn K neg x (.ref a) H Q := ⟨a, xs, rfl, .inr h, h1, h2, q⟩
theorem w_chain {r r' : R2} (q : ta σ H fun x H1 => tb σ H1 fun y H2 => r x y H2 fun z H3 => ∃ k, z = .bl k ∧ (if k = true then tc σ H3 fun w' H4 => r' y w' H4 Q else Q (.bl false) H3)) : tChain r r' ta tb tc σ H Q := q
theorem w_sl {r : V → Option Int → Option Int → Hp → VK → Prop} (q : te σ H fun x H1 => tl σ H1 fun l H2 => th σ H2 fun u H3 => r x l u H3 Q) : tSl r te tl th σ H Q := q
theorem w_nopart {Q : Option Int → Hp → Prop} (q : Q none H) : tNoPart σ H Q := q
theorem w_part {Q : Option Int → Hp → Prop} (q : te σ H fun x H1 => ∃ i, x = .int i ∧ Q (some i) H1) : tPart te σ H Q := q
theorem w_ei {i : Int} {R : Int → Prop} (q : R i) : ∃ k, V.int i = .int k ∧ R k := ⟨i, rfl, q⟩
theorem w_slL {a : Addr} {lo hi : Option Int} (h : SqL K H a xs) (q : ∀ p, H p = none → Q (.ref p) (upd H p (.lst (cutV xs lo hi)))) : rSlL K (.ref a) lo hi H Q := ⟨a, xs, rfl, h, q⟩
def kRev (K : PySem.W.Frag) (Q : VK) (x : V) (H : Hp) : Prop := ∃ a xs, x = .ref a ∧ SqL K H a xs ∧ ∀ p, H p = none → Q (.ref p) (upd H p (.lst xs.reverse))
theorem w_rev0 (q : te σ H fun x H1 => kRev K Q x H1) : tRevL K te σ H Q := q
theorem w_rev {a : Addr} (h : SqL K H a xs) (q : ∀ p, H p = none → Q (.ref p) (upd H p (.lst xs.reverse))) : kRev K Q (.ref a) H := ⟨a, xs, rfl, h, q⟩
theorem w_rep {a : Addr} {k : Int} (h : H a = some (.lst xs)) (h1 : -100000 ≤ k) (h2 : k ≤ 100000) (hz : xs.length ≤ 100) (q : ∀ p, H p = none → Q (.ref p) (upd H p (.lst (List.replicate k.toNat xs).flatten))) : rRep (.ref a) (.int k) H Q :=
  ⟨a, k, xs, rfl, rfl, h, by omega, by omega, by
    have e : xs.length * k.toNat ≤ 100 * 100000 := Nat.mul_le_mul hz (by omega)
    exact Nat.le_trans e (by decide), q⟩
theorem sIx_int (n d : Nat) (i : Int) (h : 0 ≤ i) : HT.sIx n d (some i) = min i.toNat n := by
  obtain ⟨k, rfl⟩ : ∃ k : Nat, i = (k : Int) := ⟨i.toNat, by omega⟩
  rw [HT.sIx_nat]
  simp
theorem cut_to {j : Int} (h : 0 ≤ j) : cutV xs none (some j) = xs.take j.toNat := by
  unfold cutV
  rw [HT.sIx_none, sIx_int _ _ _ h]
  by_cases q : j.toNat ≤ xs.length
  · rw [Nat.min_eq_left q]; simp
  · rw [Nat.min_eq_right (by omega), List.take_of_length_le (by omega : xs.length ≤ j.toNat)]; simp
theorem cut_from {i : Int} (h : 0 ≤ i) : cutV xs (some i) none = xs.drop i.toNat := by
  unfold cutV
  rw [HT.sIx_none, sIx_int _ _ _ h]
  by_cases q : i.toNat ≤ xs.length
  · rw [Nat.min_eq_left q, List.take_of_length_le (by rw [List.length_drop]; omega)]
  · rw [Nat.min_eq_right (by omega)]
    simp [List.drop_eq_nil_of_le (by omega : xs.length ≤ i.toNat)]
theorem cut_mid {i j : Int} (h : 0 ≤ i) (hj : i ≤ j) : cutV xs (some i) (some j) = (xs.drop i.toNat).take (j.toNat - i.toNat) := by
  unfold cutV
  rw [sIx_int _ _ _ h, sIx_int _ _ _ (by omega)]
  by_cases q : i.toNat ≤ xs.length
  · rw [Nat.min_eq_left q]
    by_cases q2 : j.toNat ≤ xs.length
    · rw [Nat.min_eq_left q2]
    · rw [Nat.min_eq_right (by omega), List.take_of_length_le (by rw [List.length_drop]; omega), List.take_of_length_le (by rw [List.length_drop]; omega)]
  · rw [Nat.min_eq_right (by omega)]
    simp [List.drop_eq_nil_of_le (by omega : xs.length ≤ i.toNat)]
    exact .inr (by omega)
end
/-! ### comprehensions over a list of things, with tests: what is kept of each is known -/
theorem map_at {α : Type} {es : List α} {it : α → V} {i : Nat} {x : V} (h : (es.map it)[i]? = some x) : ∃ e, es[i]? = some e ∧ e ∈ es ∧ x = it e := by
  rw [List.getElem?_map] at h
  cases q : es[i]? with
  | none => rw [q] at h; cases h
  | some e =>
    rw [q] at h
    exact ⟨e, rfl, List.mem_of_getElem? q, (Option.some.inj h).symm⟩
section
variable {K : PySem.W.Frag} {σ : L2.St} {H : Hp} {Q : VK} {g : TG} {tt : TT} {te tl : TE} {l : Addr} {vs : List Nat}
theorem lcF_inv {α : Type} (es : List α) (it : α → V) (kp : α → Option V) (htl : ∀ R : VK, R (.ref l) H → tl σ H R) (h : SqL K H l (es.map it)) (hz : es.length ≤ 100000)
    (step : ∀ e, e ∈ es → ∀ (H' : Hp) (R : VK) (S : Hp → Prop), Same H H' → (∀ y, kp e = some y → ∀ H4, Same H' H4 → R y H4) → (kp e = none → ∀ H4, Same H' H4 → S H4) → g (it e) (wipe σ vs) H' fun σ2 H2 => wipe σ2 vs = wipe σ vs ∧ tt σ2 H2 fun b H3 => if b = true then te σ2 H3 R else S H3)
    (q : ∀ D H', Same H H' → H D = none → H' D = some (.lst (es.filterMap kp)) → Q (.ref D) H') : tLc (iList K tl) g tt te vs σ H Q := by
  refine htl _ ⟨l, rfl, ⟨_, h⟩, fun D nD => ?_⟩
  refine lc_list (K := K) (a := l) (xs := es.map it) (fun i H' => i ≤ es.length ∧ Same H H' ∧ H' D = some (.lst ((es.take i).filterMap kp))) ⟨Nat.zero_le _, same_new nD, upd_same⟩ (fun i H' _ p => p.2.1.seq h) (fun i x H' hx p => ?_) (fun H' p => q D H' p.2.1 nD (by
    have e := p.2.2
    rw [List.length_map, List.take_length] at e
    exact e))
  obtain ⟨e, he, hin, rfl⟩ := map_at hx
  have hi : i < es.length := (List.getElem?_eq_some_iff.mp he).1
  have et : es.take (i + 1) = es.take i ++ [e] := by rw [List.take_succ, he]; rfl
  have lz : ((es.take i).filterMap kp).length < sizeLine := by
    refine Nat.lt_of_le_of_lt (List.length_filterMap_le _ _) (Nat.lt_of_le_of_lt ?_ (by decide : 100000 < sizeLine))
    rw [List.length_take]
    omega
  refine step e hin H' _ _ p.2.1 (fun y hy H4 s4 => ⟨_, s4 _ _ p.2.2, lz, hi, same_updF (p.2.1.trans s4) nD, ?_⟩) fun hn H4 s4 => ⟨hi, p.2.1.trans s4, ?_⟩
  · rw [upd_same, et, List.filterMap_append]
    simp [hy]
  · rw [et, List.filterMap_append, s4 _ _ p.2.2]
    simp [hn]
theorem lcF_tup {α : Type} (es : List α) (it : α → V) (kp : α → Option V) (htl : ∀ R : VK, R (.ref l) H → tl σ H R) (h : SqT K H l (es.map it)) (hz : es.length ≤ 100000)
    (step : ∀ e, e ∈ es → ∀ (H' : Hp) (R : VK) (S : Hp → Prop), Same H H' → (∀ y, kp e = some y → ∀ H4, Same H' H4 → R y H4) → (kp e = none → ∀ H4, Same H' H4 → S H4) → g (it e) (wipe σ vs) H' fun σ2 H2 => wipe σ2 vs = wipe σ vs ∧ tt σ2 H2 fun b H3 => if b = true then te σ2 H3 R else S H3)
    (q : ∀ D H', Same H H' → H D = none → H' D = some (.lst (es.filterMap kp)) → Q (.ref D) H') : tLc (iTup K tl) g tt te vs σ H Q := by
  refine htl _ ⟨l, rfl, ⟨_, h⟩, fun D nD => ?_⟩
  refine lc_tup (K := K) (a := l) (xs := es.map it) (fun i H' => i ≤ es.length ∧ Same H H' ∧ H' D = some (.lst ((es.take i).filterMap kp))) ⟨Nat.zero_le _, same_new nD, upd_same⟩ (fun i H' _ p => same_seqT p.2.1 h) (fun i x H' hx p => ?_) (fun H' p => q D H' p.2.1 nD (by
    have e := p.2.2
    rw [List.length_map, List.take_length] at e
    exact e))
  obtain ⟨e, he, hin, rfl⟩ := map_at hx
  have hi : i < es.length := (List.getElem?_eq_some_iff.mp he).1
  have et : es.take (i + 1) = es.take i ++ [e] := by rw [List.take_succ, he]; rfl
  have lz : ((es.take i).filterMap kp).length < sizeLine := by
    refine Nat.lt_of_le_of_lt (List.length_filterMap_le _ _) (Nat.lt_of_le_of_lt ?_ (by decide : 100000 < sizeLine))
    rw [List.length_take]
    omega
  refine step e hin H' _ _ p.2.1 (fun y hy H4 s4 => ⟨_, s4 _ _ p.2.2, lz, hi, same_updF (p.2.1.trans s4) nD, ?_⟩) fun hn H4 s4 => ⟨hi, p.2.1.trans s4, ?_⟩
  · rw [upd_same, et, List.filterMap_append]
    simp [hy]
  · rw [et, List.filterMap_append, s4 _ _ p.2.2]
    simp [hn]
end
/-! ### refusals told -/
theorem w_only {K : PySem.W.Frag} {c : Value} {ts : Addr → Value → Option Addr → TS} {Wout : WX} {D : Ends} {σ : L2.St} {H : Hp} {cls : Value} {d : Option Addr} (h : PySem.W.exmOne K cls c = some true) (q : ∀ a, H a = none → ts a cls d D σ H) : wOnly K c ts Wout D cls d σ H :=
  ⟨true, h, fun _ => q, fun z => by cases z⟩
/-! ### lists of pairs of ints, compared -/
def pairD (q : Int × Int) : PyData := .tuple [.int q.1, .int q.2]
theorem pairs_lay : ∀ ps : List (Int × Int), PyData.canLayAll0 (ps.map pairD) = true
  | [] => rfl
  | q :: ps => by
    rw [List.map_cons]
    simp only [PyData.canLayAll0, pairs_lay ps, pairD, PyData.canLay0, Bool.and_self]
theorem pairs_depth : ∀ ps : List (Int × Int), PyData.depthAll (ps.map pairD) ≤ 3
  | [] => by simp [PyData.depthAll]
  | q :: ps => by
    have h := pairs_depth ps
    rw [List.map_cons]
    simp only [PyData.depthAll, pairD, PyData.depth] at h ⊢
    omega
theorem pairs_shaped (ps : List (Int × Int)) : SeqAt.shaped (.list (ps.map pairD)) = true := by
  unfold SeqAt.shaped
  have h := pairs_depth ps
  rw [Bool.and_eq_true]
  refine ⟨by rw [PyData.canLay0]; exact pairs_lay ps, decide_eq_true ?_⟩
  simp only [PyData.depth]
  omega
theorem pairs_eqv (ps : List (Int × Int)) : PyData.eqv (.list (ps.map pairD)) (.list (ps.map pairD)) = true := SeqAt.eqv_refl _ (by rw [PyData.canLay0]; exact pairs_lay ps)
theorem pairs_dp {K : PySem.W.Frag} {H : Hp} : ∀ {rs : List Addr} {ps : List (Int × Int)}, rs.length = ps.length → (∀ (i : Nat) (r : Addr) (m f : Int), rs[i]? = some r → ps[i]? = some (m, f) → H r = some (.tup [.int m, .int f])) → DpAll K H (rs.map V.ref) (ps.map pairD)
  | [], [], _, _ => .nil
  | [], _ :: _, h, _ => by cases h
  | _ :: _, [], h, _ => by cases h
  | r :: rs, (m, f) :: ps, h, k => by
    rw [List.map_cons, List.map_cons]
    exact .cons (.tup (SqT.of (k 0 r m f rfl rfl)) (.cons (.int m) (.cons (.int f) .nil))) (pairs_dp (Nat.succ.inj h) fun i r m f a b => k (i + 1) r m f a b)
theorem w_neD {K : PySem.W.Frag} {H : Hp} {Q : VK} {x y : V} (d : PyData) (h1 : Dp K H x d) (h2 : Dp K H y d) (hs : SeqAt.shaped d = true) (he : PyData.eqv d d = true) (q : Q (.bl false) H) : rNeD K x y H Q := ⟨d, d, h1, h2, hs, hs, by rw [he]; exact q⟩
theorem w_eqD {K : PySem.W.Frag} {H : Hp} {Q : VK} {x y : V} (d : PyData) (h1 : Dp K H x d) (h2 : Dp K H y d) (hs : SeqAt.shaped d = true) (he : PyData.eqv d d = true) (q : Q (.bl true) H) : rEqD K x y H Q := ⟨d, d, h1, h2, hs, hs, by rw [he]; exact q⟩
/-! ### values as data: laid, not deep, told apart by == -/
structure DtOk {α : Type} [DecidableEq α] (d : α → PyData) (n : Nat) : Prop where
  lay : ∀ x, (d x).canLay0 = true
  dep : ∀ x, (d x).depth ≤ n
  eqv : ∀ x y, PyData.eqv (d x) (d y) = decide (x = y)
  non : ∀ x, PyData.eqv .none (d x) = false ∧ PyData.eqv (d x) .none = false
section
variable {α β : Type} [DecidableEq α] [DecidableEq β] {d : α → PyData} {n : Nat} {K : PySem.W.Frag} {H : Hp} {Q : VK}
theorem DtOk.int : DtOk PyData.int 0 := ⟨fun x => by rw [PyData.canLay0], fun x => by simp [PyData.depth], fun x y => by
  simp only [PyData.eqv]
  by_cases h : x = y
  · subst h; simp
  · rw [decide_eq_false h]; simpa using h, fun x => by simp [PyData.eqv]⟩
theorem DtOk.layAll (h : DtOk d n) : ∀ xs : List α, PyData.canLayAll0 (xs.map d) = true
  | [] => rfl
  | x :: xs => by
    rw [List.map_cons]
    simp only [PyData.canLayAll0, h.lay x, h.layAll xs, Bool.and_self]
theorem DtOk.depAll (h : DtOk d n) : ∀ xs : List α, PyData.depthAll (xs.map d) ≤ n
  | [] => by simp [PyData.depthAll]
  | x :: xs => by
    have h1 := h.depAll xs
    have h2 := h.dep x
    rw [List.map_cons]
    simp only [PyData.depthAll] at h1 ⊢
    omega
theorem DtOk.eqvAll (h : DtOk d n) : ∀ xs ys : List α, PyData.eqvAll (xs.map d) (ys.map d) = decide (xs = ys)
  | [], [] => by simp [PyData.eqvAll]
  | [], y :: ys => by simp [PyData.eqvAll]
  | x :: xs, [] => by simp [PyData.eqvAll]
  | x :: xs, y :: ys => by
    rw [List.map_cons, List.map_cons]
    simp only [PyData.eqvAll, h.eqv x y, h.eqvAll xs ys]
    by_cases e : x = y <;> by_cases e2 : xs = ys <;> simp [e, e2]
theorem DtOk.list (h : DtOk d n) : DtOk (fun xs : List α => .list (xs.map d)) (n + 1) := ⟨fun xs => by rw [PyData.canLay0]; exact h.layAll xs, fun xs => by
  have := h.depAll xs
  simp only [PyData.depth]
  omega, fun xs ys => by rw [PyData.eqv]; exact h.eqvAll xs ys, fun x => by simp [PyData.eqv]⟩
theorem DtOk.tuple (h : DtOk d n) : DtOk (fun xs : List α => .tuple (xs.map d)) (n + 1) := ⟨fun xs => by rw [PyData.canLay0]; exact h.layAll xs, fun xs => by
  have := h.depAll xs
  simp only [PyData.depth]
  omega, fun xs ys => by rw [PyData.eqv]; exact h.eqvAll xs ys, fun x => by simp [PyData.eqv]⟩
/-- told apart by what they are made of -/
theorem DtOk.of {f : β → α} (h : DtOk d n) (hf : ∀ x y, f x = f y → x = y) : DtOk (fun x => d (f x)) n := ⟨fun x => h.lay _, fun x => h.dep _, fun x y => by
  rw [h.eqv]
  by_cases e : x = y
  · subst e; simp
  · rw [decide_eq_false e, decide_eq_false (fun z => e (hf _ _ z))], fun x => h.non _⟩
def optD (d : α → PyData) : Option α → PyData
  | none => .none
  | some x => d x
theorem DtOk.opt (h : DtOk d n) : ∀ x y : Option α, (optD d x).canLay0 = true ∧ (optD d x).depth ≤ n ∧ PyData.eqv (optD d x) (optD d y) = decide (x = y)
  | none, none => ⟨by simp only [optD]; rw [PyData.canLay0], by simp [optD, PyData.depth], by simp [optD, PyData.eqv]⟩
  | none, some y => ⟨by simp only [optD]; rw [PyData.canLay0], by simp [optD, PyData.depth], by simp [optD, (h.non y).1]⟩
  | some x, none => ⟨h.lay x, h.dep x, by simp [optD, (h.non x).2]⟩
  | some x, some y => ⟨h.lay x, h.dep x, by simp [optD, h.eqv]⟩
theorem shaped_of {e : PyData} (h : e.canLay0 = true) (h2 : e.depth ≤ n) (hn : n ≤ 64) : SeqAt.shaped e = true := by
  unfold SeqAt.shaped
  rw [Bool.and_eq_true]
  exact ⟨h, decide_eq_true (Nat.le_trans h2 hn)⟩
theorem w_eqDt (h : DtOk d n) {x y : V} {a b : α} (h1 : Dp K H x (d a)) (h2 : Dp K H y (d b)) (q : Q (.bl (decide (a = b))) H) (hn : n ≤ 64 := by decide) : rEqD K x y H Q :=
  ⟨d a, d b, h1, h2, shaped_of (h.lay a) (h.dep a) hn, shaped_of (h.lay b) (h.dep b) hn, by rw [h.eqv]; exact q⟩
theorem w_neDt (h : DtOk d n) {x y : V} {a b : α} (h1 : Dp K H x (d a)) (h2 : Dp K H y (d b)) (q : Q (.bl (!decide (a = b))) H) (hn : n ≤ 64 := by decide) : rNeD K x y H Q :=
  ⟨d a, d b, h1, h2, shaped_of (h.lay a) (h.dep a) hn, shaped_of (h.lay b) (h.dep b) hn, by rw [h.eqv]; exact q⟩
theorem w_eqDo (h : DtOk d n) {x y : V} {a b : Option α} (h1 : Dp K H x (optD d a)) (h2 : Dp K H y (optD d b)) (q : Q (.bl (decide (a = b))) H) (hn : n ≤ 64 := by decide) : rEqD K x y H Q :=
  ⟨_, _, h1, h2, shaped_of (h.opt a a).1 (h.opt a a).2.1 hn, shaped_of (h.opt b b).1 (h.opt b b).2.1 hn, by rw [(h.opt a b).2.2]; exact q⟩
theorem w_neDo (h : DtOk d n) {x y : V} {a b : Option α} (h1 : Dp K H x (optD d a)) (h2 : Dp K H y (optD d b)) (q : Q (.bl (!decide (a = b))) H) (hn : n ≤ 64 := by decide) : rNeD K x y H Q :=
  ⟨_, _, h1, h2, shaped_of (h.opt a a).1 (h.opt a a).2.1 hn, shaped_of (h.opt b b).1 (h.opt b b).2.1 hn, by rw [(h.opt a b).2.2]; exact q⟩
theorem dp_map {d : α → PyData} {it : α → V} : ∀ es : List α, (∀ e ∈ es, Dp K H (it e) (d e)) → DpAll K H (es.map it) (es.map d)
  | [], _ => .nil
  | e :: es, h => by
    rw [List.map_cons, List.map_cons]
    exact .cons (h e (List.mem_cons_self ..)) (dp_map es fun e' h' => h e' (List.mem_cons_of_mem _ h'))
theorem dp_mapE {α : Type} {d : α → PyData} {it : α → V} : ∀ es : List α, (∀ e ∈ es, Dp K H (it e) (d e)) → DpAll K H (es.map it) (es.map d)
  | [], _ => .nil
  | e :: es, h => by
    rw [List.map_cons, List.map_cons]
    exact .cons (h e (List.mem_cons_self ..)) (dp_mapE es fun e' h' => h e' (List.mem_cons_of_mem _ h'))
end
/-! ### 1. What values are -/
def isI : V → Bool
  | .int _ => true
  | _ => false
def cnt : V → Bool
  | .int n => decide (0 ≤ n)
  | _ => false
/-- its type is known, and says whether it is an int that is no bool -/
def KInt (K : PySem.W.Frag) (H : Hp) (v : V) (b : Bool) : Prop := ∃ (t : Value) (b1 b2 : Bool), TyX K H v t ∧ PySem.W.kitOne K t (.type "int") = some b1 ∧ (b1 = true → PySem.W.kitOne K t (.type "bool") = some b2) ∧ b = (b1 && !b2)
theorem kint_int {K : PySem.W.Frag} {H : Hp} (n : Int) : KInt K H (.int n) true :=
  ⟨.type "int", true, false, .base (.int n), kit_ty (by decide +kernel), fun _ => kit_ty (by decide +kernel), rfl⟩
def spInt (K : PySem.W.Frag) : Sp := fun vs H Q _ => ∃ (v : V) (b : Bool), vs = [v] ∧ KInt K H v b ∧ Q (.bl b) H
def spCount (K : PySem.W.Frag) : Sp := fun vs H Q _ => ∃ (v : V), vs = [v] ∧ KInt K H v (isI v) ∧ Q (.bl (cnt v)) H
def spList (K : PySem.W.Frag) : Sp := fun vs H Q _ => ∃ (v : V) (t : Value) (b : Bool), vs = [v] ∧ TyX K H v t ∧ PySem.W.kitAny K t [.type "list", .type "tuple"] = some b ∧ ∀ H', Same H H' → Q (.bl b) H'
/-- a pot: two numbers that are not negative, the second one small -/
def Pot (H : Hp) (p : Addr) : Prop := ∃ x y : Int, H p = some (.lst [.int x, .int y]) ∧ 0 ≤ x ∧ 0 ≤ y ∧ y < 4294967296
def spPot (K : PySem.W.Frag) : Sp := fun vs H Q _ => ∃ (s : Addr) (ns : List Int) (k : Int), vs = [.ref s, .int k] ∧ SqL K H s (ns.map V.int) ∧ 0 ≤ k ∧ k ≤ 1000 ∧
  ∀ p H', Same H H' → H p = none → Pot H' p → Q (.ref p) H'
def spDraw : Sp := fun vs H Q _ => ∃ (p : Addr) (n : Int), vs = [.ref p, .int n] ∧ Pot H p ∧ 0 < n ∧ n < 1000000000 ∧
  ∀ d H', Chg p H H' → Pot H' p → 0 ≤ d → d < n → Q (.int d) H'
def spPick (K : PySem.W.Frag) : Sp := fun vs H Q _ => ∃ (p s : Addr) (xs : List V), vs = [.ref p, .ref s] ∧ Pot H p ∧ SqL K H s xs ∧ s ≠ p ∧ (∀ H', Chg p H H' → SqL K H' s xs) ∧ 0 < xs.length ∧ xs.length < 1000000000 ∧
  ∀ v H', Chg p H H' → Pot H' p → v ∈ xs → Q v H'
theorem Pot.same {H H' : Hp} {p : Addr} (s : Same H H') : Pot H p → Pot H' p := fun ⟨x, y, h, r⟩ => ⟨x, y, s _ _ h, r⟩
theorem Pot.chg {H H' : Hp} {p q : Addr} (s : Chg q H H') (n : p ≠ q) : Pot H p → Pot H' p := fun ⟨x, y, h, r⟩ => ⟨x, y, s _ _ h n, r⟩
theorem Pot.upd {H : Hp} {p q : Addr} {o : HO} (n : p ≠ q) : Pot H p → Pot (L2.upd H q o) p := fun ⟨x, y, h, r⟩ => ⟨x, y, (upd_ne n).trans h, r⟩
theorem Pot.new {H : Hp} {p q : Addr} {o : HO} (n : H q = none) : Pot H p → Pot (L2.upd H q o) p := Pot.same (same_new n)
theorem Pot.ne {H : Hp} {p q : Addr} (n : H q = none) : Pot H p → p ≠ q := fun ⟨x, y, h, r⟩ => ne_of_none h n
theorem Pot.ntup {H : Hp} {p : Addr} : Pot H p → ∀ xs, H p ≠ some (.tup xs) := fun ⟨x, y, h, _⟩ xs z => by rw [h] at z; cases z
def due (ns : List Int) (i : Nat) (m : Int) : Int := if i < ns.length then ns.getD i 0 % m else 0
def spDue (K : PySem.W.Frag) : Sp := fun vs H Q _ => ∃ (s : Addr) (ns : List Int) (i : Nat) (m : Int), vs = [.ref s, .int i, .int m] ∧ SqL K H s (ns.map V.int) ∧ 0 < m ∧ Q (.int (due ns i m)) H
/-! ### 2. Whims -/
def fW (t : Addr) (n : Int) : List (Str × V) := [("own_numbers", V.ref t), ("own_taken", V.int n)]
/-- a Whims of the numbers ns stands at w, n were taken -/
def WhAt (C : Addr) (H : Hp) (w : Addr) (ns : List Int) (n : Nat) : Prop := ∃ dx t, H w = some (.ins C dx (fW t n)) ∧ H t = some (.tup (ns.map V.int))
def NumsOk (ns : List Int) : Prop := ns.length ≤ 200 ∧ ∀ n ∈ ns, 0 ≤ n ∧ n ≤ 1000000
def spWInit (C : Addr) : Sp := fun vs H Q _ => ∃ (x dx l : Addr) (ns : List Int), vs = [.ref x, .ref l] ∧ H x = some (.ins C dx []) ∧ (H l = some (.lst (ns.map V.int)) ∨ H l = some (.tup (ns.map V.int))) ∧ NumsOk ns ∧
  ∀ H', Chg x H H' → WhAt C H' x ns 0 → Q .non H'
def spWTaken (C : Addr) : Sp := fun vs H Q _ => ∃ (x : Addr) (ns : List Int) (n : Nat), vs = [.ref x] ∧ WhAt C H x ns n ∧ Q (.int n) H
def spWTake (K : PySem.W.Frag) (C D : Addr) : Sp := fun vs H Q E => ∃ (x : Addr) (ns : List Int) (n : Nat) (m : Int), vs = [.ref x, .int m] ∧ WhAt C H x ns n ∧ (0 < m → ∀ H', Chg x H H' → WhAt C H' x ns (n + 1) → Q (.int (due ns n m)) H') ∧
  (¬ 0 < m → ∀ d H', Same H H' → H d = none → H' d = some (.xd [("value", .int m)]) → E (.ref D) (some d) H')
def spWCopy (C : Addr) : Sp := fun vs H Q _ => ∃ (x : Addr) (ns : List Int) (n : Nat), vs = [.ref x] ∧ WhAt C H x ns n ∧ NumsOk ns ∧ ∀ y H', Same H H' → H y = none → WhAt C H' y ns n → Q (.ref y) H'
theorem WhAt.same {C : Addr} {H H' : Hp} {w : Addr} {ns : List Int} {n : Nat} (s : Same H H') : WhAt C H w ns n → WhAt C H' w ns n := fun ⟨dx, t, h1, h2⟩ => ⟨dx, t, s _ _ h1, s _ _ h2⟩
theorem WhAt.chg {C x : Addr} {H H' : Hp} {w : Addr} {ns : List Int} {n : Nat} (c : Chg x H H') (h : w ≠ x) (hx : ∀ xs, H x ≠ some (.tup xs)) : WhAt C H w ns n → WhAt C H' w ns n := fun ⟨dx, t, h1, h2⟩ =>
  ⟨dx, t, c _ _ h1 h, c _ _ h2 (fun z => hx _ (by rw [← z]; exact h2))⟩
theorem WhAt.ne_pot {C : Addr} {H : Hp} {w p : Addr} {ns : List Int} {n : Nat} : WhAt C H w ns n → Pot H p → w ≠ p := fun ⟨dx, t, h1, _⟩ ⟨x, y, h2, _⟩ => ne_of h1 h2 (by intro z; cases z)
theorem WhAt.updL {C : Addr} {H : Hp} {w x : Addr} {ns : List Int} {n : Nat} {xs : List V} {o : HO} (z : WhAt C H w ns n) (h : H x = some (.lst xs)) : WhAt C (L2.upd H x o) w ns n := by
  obtain ⟨dx, t, h1, h2⟩ := z
  exact ⟨dx, t, (upd_ne (ne_of h1 h (by intro z; cases z))).trans h1, (upd_ne (ne_of h2 h (by intro z; cases z))).trans h2⟩
/-! ### bits, the lowest first -/
def bitsL : Nat → Int → List Int
  | 0, _ => []
  | n + 1, x => x % 2 :: bitsL n (x / 2)
def ofL : List Int → Int
  | [] => 0
  | b :: r => b + 2 * ofL r
def addL : List Int → List Int → Int → List Int
  | p :: a, q :: b, c => (p + q + c) % 2 :: addL a b ((p + q + c) / 2)
  | _, _, _ => []
theorem bitsL_len (n : Nat) : ∀ x, (bitsL n x).length = n := by
  induction n with
  | zero => intro x; rfl
  | succ n ih => intro x; simp [bitsL, ih]
theorem mod_two_mul (t u M : Int) (hM : 0 < M) : (t + 2 * u) % (2 * M) = t % 2 + 2 * ((t / 2 + u) % M) := by
  have h1 := Int.emod_add_mul_ediv (t / 2 + u) M
  have h2 := Int.emod_nonneg (t / 2 + u) (show M ≠ 0 by omega)
  have h3 := Int.emod_lt_of_pos (t / 2 + u) hM
  have e : t + 2 * u = (t % 2 + 2 * ((t / 2 + u) % M)) + (2 * M) * ((t / 2 + u) / M) := by
    have h4 : 2 * (t / 2 + u) = 2 * ((t / 2 + u) % M) + (2 * M) * ((t / 2 + u) / M) := by
      rw [Int.mul_assoc, ← Int.mul_add, h1]
    omega
  rw [e, Int.add_mul_emod_self_left]
  exact Int.emod_eq_of_lt (by omega) (by omega)
theorem pow_pos2 (n : Nat) : (0 : Int) < 2 ^ n := Int.pow_pos (by decide)
theorem of_bits (n : Nat) : ∀ x, ofL (bitsL n x) = x % 2 ^ n := by
  induction n with
  | zero => intro x; simp [bitsL, ofL, Int.emod_one]
  | succ n ih =>
    intro x
    show x % 2 + 2 * ofL (bitsL n (x / 2)) = _
    rw [ih, Int.pow_succ', show x = x + 2 * 0 by omega, mod_two_mul _ _ _ (pow_pos2 n)]
    simp
theorem of_add : ∀ (a b : List Int) (c : Int), a.length = b.length → ofL (addL a b c) = (ofL a + ofL b + c) % 2 ^ a.length
  | [], [], c, _ => by simp [addL, ofL, Int.emod_one]
  | p :: a, q :: b, c, h => by
    have ih := of_add a b ((p + q + c) / 2) (by simpa using h)
    show (p + q + c) % 2 + 2 * ofL (addL a b ((p + q + c) / 2)) = (p + 2 * ofL a + (q + 2 * ofL b) + c) % 2 ^ (a.length + 1)
    rw [ih, Int.pow_succ', show p + 2 * ofL a + (q + 2 * ofL b) + c = (p + q + c) + 2 * (ofL a + ofL b) by omega, mod_two_mul _ _ _ (pow_pos2 _)]
    congr 3
    omega
theorem add_len : ∀ (a b : List Int) (c : Int), a.length = b.length → (addL a b c).length = a.length
  | [], [], _, _ => rfl
  | p :: a, q :: b, c, h => by
    show (addL a b _).length + 1 = a.length + 1
    rw [add_len a b _ (by simpa using h)]
theorem of_app : ∀ (a b : List Int), ofL (a ++ b) = ofL a + 2 ^ a.length * ofL b
  | [], b => by simp [ofL]
  | p :: a, b => by
    show p + 2 * ofL (a ++ b) = p + 2 * ofL a + 2 ^ (a.length + 1) * ofL b
    rw [of_app a b, Int.pow_succ', Int.mul_assoc]
    omega
theorem bits_take : ∀ (n k : Nat) (x : Int), (bitsL n x).take k = bitsL (min k n) x
  | 0, k, x => by simp [bitsL]
  | n + 1, 0, x => by simp [bitsL]
  | n + 1, k + 1, x => by
    rw [show min (k + 1) (n + 1) = min k n + 1 by omega]
    simp [bitsL, bits_take n k]
theorem bits_drop : ∀ (n k : Nat) (x : Int), (bitsL n x).drop k = bitsL (n - k) (x / 2 ^ k)
  | 0, k, x => by simp [bitsL]
  | n + 1, 0, x => by simp
  | n + 1, k + 1, x => by
    rw [show n + 1 - (k + 1) = n - k by omega, Int.pow_succ', ← Int.ediv_ediv_of_nonneg (by decide)]
    simp [bitsL, bits_drop n k]
theorem bits_mem : ∀ (n : Nat) (x b : Int), b ∈ bitsL n x → b = 0 ∨ b = 1
  | 0, x, b, h => by cases h
  | n + 1, x, b, h => by
    rcases List.mem_cons.mp h with h | h
    · omega
    · exact bits_mem n _ b h
theorem of_rep (k : Nat) : ofL (List.replicate k 0) = 0 := by
  induction k with
  | zero => rfl
  | succ k ih => simp [List.replicate_succ, ofL, ih]
/-- both, either, unlike -/
theorem of_and (n : Nat) : ∀ (x y : Nat), x < 2 ^ n → y < 2 ^ n → ofL (List.zipWith (fun p q => p * q) (bitsL n x) (bitsL n y)) = ((x &&& y : Nat) : Int) := by
  induction n with
  | zero =>
    intro x y hx hy
    have e : x = 0 := by simpa using hx
    have e' : y = 0 := by simpa using hy
    subst e e'
    simp [bitsL, ofL]
  | succ n ih =>
    intro x y hx hy
    have h := ih (x / 2) (y / 2) (by rw [Nat.pow_succ] at hx; omega) (by rw [Nat.pow_succ] at hy; omega)
    show (fun p q : Int => p * q) ((x : Int) % 2) ((y : Int) % 2) + 2 * ofL (List.zipWith _ (bitsL n ((x : Int) / 2)) (bitsL n ((y : Int) / 2))) = _
    rw [show (x : Int) / 2 = ((x / 2 : Nat) : Int) by omega, show (y : Int) / 2 = ((y / 2 : Nat) : Int) by omega, h]
    have e1 : (x &&& y) / 2 = x / 2 &&& y / 2 := Nat.and_div_two
    have e2 : (x &&& y) % 2 = (x % 2) &&& (y % 2) := Nat.and_mod_two_pow (n := 1)
    rw [← e1]
    have q1 : x % 2 = 0 ∨ x % 2 = 1 := by omega
    have q2 : y % 2 = 0 ∨ y % 2 = 1 := by omega
    have q3 : (x : Int) % 2 = ((x % 2 : Nat) : Int) := by omega
    have q4 : (y : Int) % 2 = ((y % 2 : Nat) : Int) := by omega
    show (fun p q : Int => p * q) ((x : Int) % 2) ((y : Int) % 2) + _ = _
    rw [q3, q4]
    rcases q1 with q1 | q1 <;> rcases q2 with q2 | q2 <;> (rw [q1, q2] at e2 ⊢; generalize x &&& y = z at e2 ⊢; simp at e2 ⊢; omega)
theorem of_or (n : Nat) : ∀ (x y : Nat), x < 2 ^ n → y < 2 ^ n → ofL (List.zipWith (fun p q => if q > p then q else p) (bitsL n x) (bitsL n y)) = ((x ||| y : Nat) : Int) := by
  induction n with
  | zero =>
    intro x y hx hy
    have e : x = 0 := by simpa using hx
    have e' : y = 0 := by simpa using hy
    subst e e'
    simp [bitsL, ofL]
  | succ n ih =>
    intro x y hx hy
    have h := ih (x / 2) (y / 2) (by rw [Nat.pow_succ] at hx; omega) (by rw [Nat.pow_succ] at hy; omega)
    show (fun p q : Int => if q > p then q else p) ((x : Int) % 2) ((y : Int) % 2) + 2 * ofL (List.zipWith _ (bitsL n ((x : Int) / 2)) (bitsL n ((y : Int) / 2))) = _
    rw [show (x : Int) / 2 = ((x / 2 : Nat) : Int) by omega, show (y : Int) / 2 = ((y / 2 : Nat) : Int) by omega, h]
    have e1 : (x ||| y) / 2 = x / 2 ||| y / 2 := Nat.or_div_two
    have e2 : (x ||| y) % 2 = (x % 2) ||| (y % 2) := Nat.or_mod_two_pow (n := 1)
    rw [← e1]
    have q1 : x % 2 = 0 ∨ x % 2 = 1 := by omega
    have q2 : y % 2 = 0 ∨ y % 2 = 1 := by omega
    have q3 : (x : Int) % 2 = ((x % 2 : Nat) : Int) := by omega
    have q4 : (y : Int) % 2 = ((y % 2 : Nat) : Int) := by omega
    show (fun p q : Int => if q > p then q else p) ((x : Int) % 2) ((y : Int) % 2) + _ = _
    rw [q3, q4]
    rcases q1 with q1 | q1 <;> rcases q2 with q2 | q2 <;> (rw [q1, q2] at e2 ⊢; generalize x ||| y = z at e2 ⊢; simp at e2 ⊢; omega)
theorem of_xor (n : Nat) : ∀ (x y : Nat), x < 2 ^ n → y < 2 ^ n → ofL (List.zipWith (fun p q => if p - q < 0 then -(p - q) else p - q) (bitsL n x) (bitsL n y)) = ((x ^^^ y : Nat) : Int) := by
  induction n with
  | zero =>
    intro x y hx hy
    have e : x = 0 := by simpa using hx
    have e' : y = 0 := by simpa using hy
    subst e e'
    simp [bitsL, ofL]
  | succ n ih =>
    intro x y hx hy
    have h := ih (x / 2) (y / 2) (by rw [Nat.pow_succ] at hx; omega) (by rw [Nat.pow_succ] at hy; omega)
    show (fun p q : Int => if p - q < 0 then -(p - q) else p - q) ((x : Int) % 2) ((y : Int) % 2) + 2 * ofL (List.zipWith _ (bitsL n ((x : Int) / 2)) (bitsL n ((y : Int) / 2))) = _
    rw [show (x : Int) / 2 = ((x / 2 : Nat) : Int) by omega, show (y : Int) / 2 = ((y / 2 : Nat) : Int) by omega, h]
    have e1 : (x ^^^ y) / 2 = x / 2 ^^^ y / 2 := Nat.xor_div_two
    have e2 : (x ^^^ y) % 2 = (x % 2) ^^^ (y % 2) := Nat.xor_mod_two_pow (n := 1)
    rw [← e1]
    have q1 : x % 2 = 0 ∨ x % 2 = 1 := by omega
    have q2 : y % 2 = 0 ∨ y % 2 = 1 := by omega
    have q3 : (x : Int) % 2 = ((x % 2 : Nat) : Int) := by omega
    have q4 : (y : Int) % 2 = ((y % 2 : Nat) : Int) := by omega
    show (fun p q : Int => if p - q < 0 then -(p - q) else p - q) ((x : Int) % 2) ((y : Int) % 2) + _ = _
    rw [q3, q4]
    rcases q1 with q1 | q1 <;> rcases q2 with q2 | q2 <;> (rw [q1, q2] at e2 ⊢; generalize x ^^^ y = z at e2 ⊢; simp at e2 ⊢; omega)
/-! ### times: the rows of the one word, added where the other has a bit -/
theorem pow_split (y : Int) (i : Nat) : y % 2 ^ (i + 1) = y % 2 ^ i + 2 ^ i * (y / 2 ^ i % 2) := by
  have h1 := Int.emod_add_mul_ediv y (2 ^ i)
  have h2 := Int.emod_add_mul_ediv (y / 2 ^ i) 2
  have h3 := Int.emod_nonneg y (show (2 : Int) ^ i ≠ 0 from (by have := pow_pos2 i; omega))
  have h4 := Int.emod_lt_of_pos y (pow_pos2 i)
  have h5 : y / 2 ^ i % 2 = 0 ∨ y / 2 ^ i % 2 = 1 := by omega
  have hp := pow_pos2 i
  have e : y = (y % 2 ^ i + 2 ^ i * (y / 2 ^ i % 2)) + 2 ^ (i + 1) * (y / 2 ^ i / 2) := by
    rw [Int.pow_succ, Int.mul_assoc, Int.add_assoc, ← Int.mul_add, h2, h1]
  conv => lhs; rw [e]
  rw [Int.add_mul_emod_self_left]
  refine Int.emod_eq_of_lt ?_ ?_
  · rcases h5 with h | h <;> rw [h] <;> omega
  · rw [Int.pow_succ]
    rcases h5 with h | h <;> rw [h] <;> omega
theorem nat_and_put (x lo m : Nat) : x &&& ((2 ^ m - 1) * 2 ^ lo) = 2 ^ lo * ((x / 2 ^ lo) % 2 ^ m) := by
  refine Nat.eq_of_testBit_eq fun i => ?_
  rw [Nat.testBit_and, Nat.testBit_mul_two_pow, Nat.testBit_two_pow_mul, Nat.testBit_mod_two_pow, Nat.testBit_div_two_pow, Nat.testBit_two_pow_sub_one]
  by_cases h : lo ≤ i
  · simp [h, Nat.sub_add_cancel h, Nat.add_sub_cancel' h]
    cases x.testBit i <;> simp
  · simp [h]
theorem nat_put (x lo m v : Nat) (hv : v < 2 ^ m) : (x - (x &&& ((2 ^ m - 1) * 2 ^ lo))) ||| (v * 2 ^ lo) = x % 2 ^ lo + 2 ^ lo * v + 2 ^ (lo + m) * (x / 2 ^ (lo + m)) := by
  have h1 := Nat.div_add_mod x (2 ^ lo)
  have h2 := Nat.div_add_mod (x / 2 ^ lo) (2 ^ m)
  have hl : x % 2 ^ lo < 2 ^ lo := Nat.mod_lt _ (Nat.two_pow_pos _)
  have e1 : x - (x &&& ((2 ^ m - 1) * 2 ^ lo)) = 2 ^ lo * (2 ^ m * (x / 2 ^ lo / 2 ^ m)) + x % 2 ^ lo := by
    rw [nat_and_put]
    have e : 2 ^ lo * (x / 2 ^ lo) = 2 ^ lo * (2 ^ m * (x / 2 ^ lo / 2 ^ m)) + 2 ^ lo * (x / 2 ^ lo % 2 ^ m) := by
      rw [← Nat.mul_add, h2]
    omega
  have e2 : (2 ^ lo * (2 ^ m * (x / 2 ^ lo / 2 ^ m)) + x % 2 ^ lo) ||| (v * 2 ^ lo) = 2 ^ lo * ((2 ^ m * (x / 2 ^ lo / 2 ^ m)) ||| v) + x % 2 ^ lo := by
    refine Nat.eq_of_testBit_eq fun i => ?_
    rw [Nat.testBit_or, Nat.testBit_two_pow_mul_add _ hl, Nat.testBit_two_pow_mul_add _ hl, Nat.testBit_mul_two_pow]
    by_cases h : i < lo
    · simp [h, Nat.not_le.mpr h]
    · simp [h, Nat.not_lt.mp h]
  rw [e1, e2, ← Nat.two_pow_add_eq_or_of_lt hv, Nat.mul_add, Nat.pow_add, Nat.div_div_eq_div_mul, Nat.mul_assoc]
  omega
theorem int_put {x lo m v : Int} (hx : 0 ≤ x) (h0 : 0 ≤ lo) (h1 : 0 ≤ m) (hv : 0 ≤ v) (hv2 : v < 2 ^ m.toNat) :
    Builtin.bitOr (Builtin.bitAnd x (Builtin.bitNot ((1 * 2 ^ m.toNat - 1) * 2 ^ lo.toNat))) (v * 2 ^ lo.toNat) = x % 2 ^ lo.toNat + 2 ^ lo.toNat * v + 2 ^ (lo.toNat + m.toNat) * (x / 2 ^ (lo.toNat + m.toNat)) := by
  obtain ⟨x, rfl⟩ := Int.eq_ofNat_of_zero_le hx
  obtain ⟨v, rfl⟩ := Int.eq_ofNat_of_zero_le hv
  generalize lo.toNat = lo
  generalize m.toNat = m at hv2 ⊢
  have hv3 : v < 2 ^ m := by exact_mod_cast hv2
  have hp : 1 ≤ 2 ^ m := Nat.two_pow_pos m
  have eM : ((1 : Int) * 2 ^ m - 1) * 2 ^ lo = (((2 ^ m - 1) * 2 ^ lo : Nat) : Int) := by
    rw [Int.one_mul, Int.natCast_mul, Int.natCast_sub hp]
    simp
  have eA : Builtin.bitAnd (x : Int) (Builtin.bitNot ((1 * 2 ^ m - 1) * 2 ^ lo)) = ((x - (x &&& ((2 ^ m - 1) * 2 ^ lo)) : Nat) : Int) := by
    rw [eM]
    generalize (2 ^ m - 1) * 2 ^ lo = M
    have hle : x &&& M ≤ x := Nat.and_le_left
    rw [PyProof.Rows.bitAnd_not, PyProof.Rows.bitAnd_pp (by omega) (by omega), Int.toNat_natCast, Int.toNat_natCast]
    omega
  rw [eA]
  have eV : (v : Int) * 2 ^ lo = ((v * 2 ^ lo : Nat) : Int) := by simp
  rw [eV, Bits.bitOr_pp (by omega) (by omega), Int.toNat_natCast, Int.toNat_natCast, nat_put x lo m v hv3]
  simp
theorem pow_le2 {k n : Nat} (h : k ≤ n) : (2 : Int) ^ k ≤ 2 ^ n := by exact_mod_cast Nat.pow_le_pow_right (by decide) h
/-! ### words, numbers within bounds: asked for, refused -/
def isWord : V → Bool
  | .int n => decide (0 ≤ n) && decide (n < 65536)
  | _ => false
def isMany (lo hi : Int) : V → Bool
  | .int n => decide (0 ≤ n) && (decide (lo ≤ n) && decide (n ≤ hi))
  | _ => false
def W16 (x : Int) : Prop := 0 ≤ x ∧ x < 65536
theorem isWord_of {x : Int} (h : W16 x) : isWord (.int x) = true := by
  obtain ⟨h1, h2⟩ := h
  simp [isWord, h1, h2]
theorem isMany_of {x lo hi : Int} (h0 : 0 ≤ x) (h1 : lo ≤ x) (h2 : x ≤ hi) : isMany lo hi (.int x) = true := by simp [isMany, h0, h1, h2]
/-- what is wanted of a refusal of v by an error of the class at C -/
def Refuse (C : Addr) (E : XK) (H : Hp) (v : V) : Prop := ∀ d H', Same H H' → H d = none → H' d = some (.xd [("value", v)]) → E (.ref C) (some d) H'
def spIsWord (K : PySem.W.Frag) : Sp := fun vs H Q _ => ∃ (v : V), vs = [v] ∧ KInt K H v (isI v) ∧ Q (.bl (isWord v)) H
def spWantWord (K : PySem.W.Frag) (C : Addr) : Sp := fun vs H Q E => ∃ (v : V), vs = [v] ∧ KInt K H v (isI v) ∧ (isWord v = true → Q .non H) ∧ (isWord v = false → Refuse C E H v)
def spWantMany (K : PySem.W.Frag) (C : Addr) : Sp := fun vs H Q E => ∃ (v : V) (lo hi : Int), vs = [v, .int lo, .int hi] ∧ KInt K H v (isI v) ∧ (isMany lo hi v = true → Q .non H) ∧ (isMany lo hi v = false → Refuse C E H v)
theorem w_wantWord {K : PySem.W.Frag} {C : Addr} {H : Hp} {Q : VK} {E : XK} {x : Int} (h : W16 x) (q : Q .non H) : spWantWord K C [.int x] H Q E := ⟨_, rfl, kint_int x, fun _ => q, fun z => by rw [isWord_of h] at z; cases z⟩
theorem w_wantMany {K : PySem.W.Frag} {C : Addr} {H : Hp} {Q : VK} {E : XK} {x lo hi : Int} (h0 : 0 ≤ x) (h1 : lo ≤ x) (h2 : x ≤ hi) (q : Q .non H) : spWantMany K C [.int x, .int lo, .int hi] H Q E := ⟨_, _, _, rfl, kint_int x, fun _ => q, fun z => by rw [isMany_of h0 h1 h2] at z; cases z⟩
/-- two words to one number -/
def spW2 (f : Int → Int → Int) (ok : Int → Int → Prop) : Sp := fun vs H Q _ => ∃ x y : Int, vs = [.int x, .int y] ∧ ok x y ∧ Q (.int (f x y)) H
def spI1 (f : Int → Int) (ok : Int → Prop) : Sp := fun vs H Q _ => ∃ x : Int, vs = [.int x] ∧ ok x ∧ Q (.int (f x)) H
def spI3 (f : Int → Int → Int → Int) (ok : Int → Int → Int → Prop) : Sp := fun vs H Q _ => ∃ x y z : Int, vs = [.int x, .int y, .int z] ∧ ok x y z ∧ Q (.int (f x y z)) H
def spI4 (f : Int → Int → Int → Int → Int) (ok : Int → Int → Int → Int → Prop) : Sp := fun vs H Q _ => ∃ x y z u : Int, vs = [.int x, .int y, .int z, .int u] ∧ ok x y z u ∧ Q (.int (f x y z u)) H
def spTwoW (K : PySem.W.Frag) : Sp := fun vs H Q _ => ∃ x y : Int, vs = [.int x, .int y] ∧ (W16 x ∧ W16 y) ∧ Q .non H
/-- a new list of ints -/
def NewL (H : Hp) (Q : VK) (xs : List Int) : Prop := ∀ p H', Same H H' → H p = none → H' p = some (.lst (xs.map V.int)) → Q (.ref p) H'
/-! ### loops and comprehensions over anything that is walked -/
def kLoop (g : TG) (tb : TS) (D : Ends) (σ : L2.St) (J : It) (H : Hp) : Prop := ∃ W : Nat → Nat → L2.St → Hp → Prop, (∃ m, W 0 m σ H) ∧ ∀ i m σ H, W i m σ H →
  (J.stop i H ∧ D.nx σ H) ∨ (J.go i H ∧ ∃ N : L2.St → Hp → Prop, (∀ σ' H', N σ' H' → ∃ m', m' < m ∧ W (i + 1) m' σ' H') ∧ ∀ x H', J.yld i H x H' → g x σ H' fun σ2 H2 => tb { D with nx := N, ct := N, bk := D.nx } σ2 H2)
def kComp (g : TG) (te : TE) (vs : List Nat) (σ : L2.St) (Q : VK) (J : It) (H : Hp) : Prop := ∀ D, H D = none → ∃ W : Nat → Nat → Hp → Prop, (∃ m, W 0 m (upd H D (.lst []))) ∧ ∀ i m H, W i m H →
  (J.stop i H ∧ Q (.ref D) H) ∨ (J.go i H ∧ ∃ Nx : Hp → Prop, (∀ H', Nx H' → ∃ m', m' < m ∧ W (i + 1) m' H') ∧ ∀ x H', J.yld i H x H' → g x (wipe σ vs) H' fun σ2 H2 => wipe σ2 vs = wipe σ vs ∧ tYes σ2 H2 fun b H3 =>
    if b = true then te σ2 H3 fun y H4 => ∃ acc, H4 D = some (.lst acc) ∧ acc.length < sizeLine ∧ Nx (upd H4 D (.lst (acc ++ [y]))) else Nx H3)
section
variable {K : PySem.W.Frag} {σ : L2.St} {H : Hp} {g : TG} {tb : TS} {te tl : TE} {ta : TA} {nx bk ct : L2.St → Hp → Prop} {rt Q : VK} {vs : List Nat} {J : It} {n : Nat} {G : Hp → Prop} {Y : Nat → Hp → V → Hp → Prop} {R : It → Hp → Prop}
def kZip (K : PySem.W.Frag) (R : It → Hp → Prop) (us : List V) (H : Hp) : Prop := ∃ a b xs ys, us = [.ref a, .ref b] ∧ SqL K H a xs ∧ SqL K H b ys ∧ R (Itz K a b) H
def kEnum (K : PySem.W.Frag) (R : It → Hp → Prop) (us : List V) (H : Hp) : Prop := ∃ a xs, us = [.ref a] ∧ SqL K H a xs ∧ R (Ite K a) H
theorem w_forZ (q : ta σ H fun us H1 => kZip K (kLoop g tb ⟨nx, rt, bk, ct⟩ σ) us H1) : tFor (iZip K ta) g tb ⟨nx, rt, bk, ct⟩ σ H := q
theorem w_forE (q : ta σ H fun us H1 => kEnum K (kLoop g tb ⟨nx, rt, bk, ct⟩ σ) us H1) : tFor (iEnum K ta) g tb ⟨nx, rt, bk, ct⟩ σ H := q
theorem w_lcZ (q : ta σ H fun us H1 => kZip K (kComp g te vs σ Q) us H1) : tLc (iZip K ta) g tYes te vs σ H Q := q
theorem w_lcE (q : ta σ H fun us H1 => kEnum K (kComp g te vs σ Q) us H1) : tLc (iEnum K ta) g tYes te vs σ H Q := q
theorem w_zip {a b : Addr} {xs ys : List V} (h1 : SqL K H a xs) (h2 : SqL K H b ys) (q : R (Itz K a b) H) : kZip K R [.ref a, .ref b] H := ⟨a, b, xs, ys, rfl, h1, h2, q⟩
theorem w_enum {a : Addr} {xs : List V} (h1 : SqL K H a xs) (q : R (Ite K a) H) : kEnum K R [.ref a] H := ⟨a, xs, rfl, h1, q⟩
theorem w_loop (w : Walk J n G Y) (Pv : Nat → L2.St → Hp → Prop) (h0 : Pv 0 σ H) (hG : ∀ i σ H, i ≤ n → Pv i σ H → G H)
    (hs : ∀ i x σ' H' H'', i < n → Pv i σ' H' → Y i H' x H'' → g x σ' H'' fun σ2 H2 => tb ⟨Pv (i + 1), rt, nx, Pv (i + 1)⟩ σ2 H2) (hd : ∀ σ' H', Pv n σ' H' → nx σ' H') : kLoop g tb ⟨nx, rt, bk, ct⟩ σ J H :=
  for_it w (D := ⟨nx, rt, bk, ct⟩) Pv h0 hG hs hd
/-- each turn of a comprehension gives f i, and nothing that stood is changed -/
theorem w_comp (f : Nat → V) (w : Walk J n G Y) (hn : n ≤ 100000) (hG : ∀ H', Same H H' → G H')
    (step : ∀ (i : Nat) (x : V) (H' H'' : Hp) (R : VK) (S : Hp → Prop), i < n → Same H H' → Y i H' x H'' → (Same H' H'' → ∀ H4, Same H'' H4 → R (f i) H4) → g x (wipe σ vs) H'' fun σ2 H2 => wipe σ2 vs = wipe σ vs ∧ tYes σ2 H2 fun b H3 => if b = true then te σ2 H3 R else S H3)
    (q : ∀ D H', Same H H' → H D = none → H' D = some (.lst ((List.range n).map f)) → Q (.ref D) H') : kComp g te vs σ Q J H := fun D nD => by
  refine lc_it w (fun i H' => i ≤ n ∧ Same H H' ∧ H' D = some (.lst ((List.range i).map f))) ⟨Nat.zero_le _, same_new nD, upd_same⟩ (fun i H' _ p => hG _ p.2.1) (fun i x H' H'' hi p y => ?_) (fun H' p => q D H' p.2.1 nD p.2.2)
  refine step i x H' H'' _ _ hi p.2.1 y fun s4 H4 s5 => ?_
  have hD4 := s5 _ _ (s4 _ _ p.2.2)
  refine ⟨_, hD4, ?_, hi, lc_inv nD ((p.2.1.trans s4).trans s5) hD4 _ rfl⟩
  rw [List.length_map, List.length_range]
  exact Nat.lt_of_lt_of_le (Nat.lt_of_lt_of_le hi hn) (by decide)
end
/-! ### lists of ints, compared -/
theorem ints_lay : ∀ ps : List Int, PyData.canLayAll0 (ps.map PyData.int) = true
  | [] => rfl
  | q :: ps => by
    rw [List.map_cons]
    simp only [PyData.canLayAll0, ints_lay ps, PyData.canLay0, Bool.and_self]
theorem ints_depth : ∀ ps : List Int, PyData.depthAll (ps.map PyData.int) ≤ 1
  | [] => by simp [PyData.depthAll]
  | q :: ps => by
    have h := ints_depth ps
    rw [List.map_cons]
    simp only [PyData.depthAll, PyData.depth] at h ⊢
    omega
theorem ints_shaped (ps : List Int) : SeqAt.shaped (.list (ps.map PyData.int)) = true := by
  unfold SeqAt.shaped
  have h := ints_depth ps
  rw [Bool.and_eq_true]
  refine ⟨by rw [PyData.canLay0]; exact ints_lay ps, decide_eq_true ?_⟩
  simp only [PyData.depth]
  omega
theorem ints_eqv (ps : List Int) : PyData.eqv (.list (ps.map PyData.int)) (.list (ps.map PyData.int)) = true := SeqAt.eqv_refl _ (by rw [PyData.canLay0]; exact ints_lay ps)
theorem ints_dp {K : PySem.W.Frag} {H : Hp} : ∀ ps : List Int, DpAll K H (ps.map V.int) (ps.map PyData.int)
  | [] => .nil
  | n :: ps => by
    rw [List.map_cons, List.map_cons]
    exact .cons (.int n) (ints_dp ps)
theorem w_neIs {K : PySem.W.Frag} {H : Hp} {Q : VK} {p r : Addr} {ps qs : List Int} (h1 : SqL K H p (ps.map V.int)) (h2 : SqL K H r (qs.map V.int)) (e : ps = qs) (q : Q (.bl false) H) : rNeD K (.ref p) (.ref r) H Q := by
  subst e
  exact w_neD (.list (ps.map PyData.int)) (.lst h1 (ints_dp ps)) (.lst h2 (ints_dp ps)) (ints_shaped _) (ints_eqv _) q
theorem w_eqIs {K : PySem.W.Frag} {H : Hp} {Q : VK} {p r : Addr} {ps qs : List Int} (h1 : SqL K H p (ps.map V.int)) (h2 : SqL K H r (qs.map V.int)) (e : ps = qs) (q : Q (.bl true) H) : rEqD K (.ref p) (.ref r) H Q := by
  subst e
  exact w_eqD (.list (ps.map PyData.int)) (.lst h1 (ints_dp ps)) (.lst h2 (ints_dp ps)) (ints_shaped _) (ints_eqv _) q
/-- what isinstance asks of the instances of the class at C -/
structure InsTy (K : PySem.W.Frag) (C : Addr) : Prop where
  ha : PySem.W.findIn K (.ref C) "__class__" = some (some (.builtin "object.__class__"))
  hn : PySem.W.specialIn K (.builtin "object.__class__") "__get__" = some (some (.builtin "getset_descriptor.__get__"))
  ht : PySem.W.takesIn K (.builtin "object.__class__") = some true
  hm : PySem.W.mroIn K C (.type "object") = some true
theorem InsTy.ty {K : PySem.W.Frag} {C a dx : Addr} {fs : List (Str × V)} {H : Hp} (i : InsTy K C) (c : Cls K C) (h : H a = some (.ins C dx fs)) : TyX K H (.ref a) (.ref C) := .base (.ins h c i.ha i.hn i.ht i.hm)
theorem kit_own {K : PySem.W.Frag} {t : String} {C : Addr} (h1 : PySem.W.isClsIn K C = true) (h2 : PySem.W.typeIn K (.ref C) = some (.type "type")) (h3 : PySem.W.subIn K (.type t) (.ref C) = some false) : PySem.W.kitOne K (.type t) (.ref C) = some false := by
  unfold PySem.W.kitOne
  rw [if_neg (by simp)]
  show (if ((PySem.W.clsIn K C).isSome && PySem.W.typeIn K (.ref C) == some (.type "type")) = true then PySem.W.subIn K (.type t) (.ref C) else none) = some false
  rw [if_pos (by rw [show (PySem.W.clsIn K C).isSome = true from h1, h2] <;> rfl)]
  exact h3
/-! ### x == y by x's own __eq__, whatever y is -/
structure EqC (K : PySem.W.Frag) (C f : Addr) : Prop where
  at_ : PySem.W.findIn K (.ref C) "__eq__" = some (some (.ref f))
  fn : PySem.W.isFn K (.ref f) = true
def rOwn (K : PySem.W.Frag) (C : Addr) (sp : Sp) (E : XK) : R2 := fun x y H Q => ∃ (a dx : Addr) (fs : List (Str × V)) (t : Value), x = .ref a ∧ H a = some (.ins C dx fs) ∧ TyX K H y t ∧ PySem.W.notFirst K C t = true ∧ sp [x, y] H (fun v H' => ∃ b, v = .bl b ∧ Q v H') E
section
open PySem.Spec PyProof.Rows
theorem op_own {X : Cx} {CX : CXT} {n : Nat} {C f : Addr} {fd : FuncData} {ps : List Str} {sp : Sp} {E : XK} (F : FnOk X.prog X.w X.K X.mg X.base CX n f fd ps sp) (q : EqC X.K C f) (hr : Room n X.A) (hb : Binds X.K fd ps []) (hx : Passes CX X E) : OpR X (compareOp .Eq) (rOwn X.K C sp E) := by
  intro pins s σ H x y v u Q I rx ry h
  obtain ⟨a, dx, fs, t, rfl, ha, ty, hn, hsp⟩ := h
  show wpAny (model X.prog X.w) X.A (richCompare .Eq v u) (EP X pins σ Q) X.xe s
  obtain rfl : v = Value.ref a := rx
  obtain ⟨mA, J, _⟩ := ins_get I.hok ha
  obtain ⟨od, J, _⟩ := J.look
  obtain ⟨m, hF⟩ := I.fr
  obtain ⟨P, Z, p, _⟩ := kit_of I ry ty
  refine PySem.W.cmp_K (op := .Eq) (tb := t) hr.units0 hF I.ok.mod.kin J (Z.ty _ _ I.kIn p) hn q.at_ q.fn ?_
  have hl := F.len _ _ _ _ hsp
  have r2 : Vals [V.ref a, y] [Value.ref a, u] := .cons rfl (.cons ry .nil)
  refine wpAny_call (codeAny_mono (F.run X.A X.stack s H ⟨[.ref a, u], []⟩ [.ref a, u] [.ref a, y] _ E hr I.env0 (by
    have h2 := hb s [.ref a, u] I.kIn (by simpa using hl)
    simpa using h2) r2 hsp) fun r s' hq => ?_)
  cases r with
  | error e => exact hx pins σ H s e s' I hq
  | ok fl =>
    cases fl with
    | ret w =>
      obtain ⟨z, H', I', rz, ⟨b, ez, q⟩⟩ := I.after hq
      subst ez
      cases rz
      exact ⟨.bl b, H', I', rfl, q⟩
    | next => exact False.elim hq
    | brk => exact False.elim hq
    | cont => exact False.elim hq
end
end Toy

open PySem L2 Toy in
local macro_rules | `(tactic| walk_at "hl") => `(tactic| first | assumption | exact upd_same | (refine' (upd_ne ?h1).trans ?h2; (case h1 => walk_at "ne"); (case h2 => walk_at "hl")) | (refine' (show Same _ _ by assumption) _ _ ?h1; (case h1 => walk_at "hl")) | (refine' (show Chg _ _ _ by assumption) _ _ ?h1 ?h2; (case h1 => walk_at "hl"); (case h2 => walk_at "ne")))
open PySem L2 Toy in
local macro_rules | `(tactic| walk_at "ne") => `(tactic| first | assumption | (apply Ne.symm; assumption) | (refine' ne_of_none ?h1 ?h2; (case h2 => assumption); (case h1 => walk_at "hl")) | (apply Ne.symm; refine' ne_of_none ?h1 ?h2; (case h2 => assumption); (case h1 => walk_at "hl")) | (refine' ne_of ?h1 ?h2 ?h3; (case h1 => walk_at "hl"); (case h2 => walk_at "hl"); (case h3 => intro z; cases z)))
open PySem L2 Toy in
local macro_rules | `(tactic| walk_at "sq") => `(tactic| first | assumption | (refine' SqL.of ?h1; (case h1 => walk_at "hl")) | (refine' SqT.of ?h1; (case h1 => walk_at "hl")) | exact Same.seq (by assumption) (by assumption) | exact same_seqT (by assumption) (by assumption))
open PySem L2 Toy in
local macro_rules | `(tactic| walk_at "si") => `(tactic| first | omega | assumption | decide | (refine ⟨?_, ?_⟩ <;> omega) | exact Or.inl ⟨by omega, by omega⟩ | exact Or.inr ⟨by omega, by omega⟩ | exact ⟨by omega, by omega, by omega⟩ | exact ⟨by decide, by decide, by decide⟩)
open PySem L2 Toy in
local macro_rules | `(tactic| walk_at "st") => `(tactic| first
  | with_reducible first
    | refine w_seq ?_ | refine w_c ?_ | refine w_op ?_ | refine w_un ?_ | refine w_I0 ?_ | refine w_U ?_ | refine w_cb ?_ | refine w_cons ?_ | refine w_nil ?_ | refine w_call ?_ | refine w_tup ?_ | refine w_lst ?_
    | refine w_asg ?_ | refine w_gname ?_ | refine w_ret ?_ | refine w_drop ?_ | refine w_ifs ?_ | refine w_if0 ?_ | refine w_test ?_ | refine w_B ?_ | refine w_not ?_ | refine w_andV ?_ | refine w_orV ?_ | refine w_notV ?_ | refine w_bl ?_
    | refine w_next ?_ | refine w_brk ?_ | refine w_cont ?_ | refine w_retN ?_ | refine w_fld0 ?_ | refine w_sfld0 ?_ | refine w_meth0 ?_ | refine w_prop0 ?_ | refine w_make ?_ | refine w_par ?_ | refine w_vw ?_ | refine w_gsub ?_ | refine w_gcons ?_ | refine w_gnil ?_
    | refine w_iI ?_ | refine w_iIJ ?_ | refine w_int1 ?_ | refine iteT ?_ | refine iteF ?_ | refine w_methSx0 ?_ | refine w_methN0 ?_ | refine w_callN ?_ | refine w_callS ?_ | refine w_yes ?_ | refine w_mko0 ?_ | refine w_makeK ?_ | refine w_chain ?_ | refine w_sl ?_ | refine w_nopart ?_ | refine w_part ?_ | refine w_ei ?_ | refine w_rev0 ?_ | refine w_forZ ?_ | refine w_forE ?_ | refine w_lcZ ?_ | refine w_lcE ?_ | refine w_bm ?_ | refine w_bm0 ?_ | refine w_forR1 ?_ | refine w_forL ?_ | refine w_forT ?_ | refine iteNT ?_ | refine iteNF ?_
  | ((with_reducible refine' w_var ?h ?_); (case h => rfl))
  | ((with_reducible refine' w_I ?h ?_); (case h => walk_at "si"))
  | ((with_reducible refine' w_ixL ?h ?g ?_); (case h => walk_at "sq"); (case g => first | rfl | assumption))
  | ((with_reducible refine' w_ixT ?h ?g ?_); (case h => walk_at "sq"); (case g => first | rfl | assumption))
  | ((with_reducible refine' w_setL ?h ?g ?_); (case h => walk_at "hl"); (case g => first | rfl | assumption))
  | ((with_reducible refine' w_gtup ?h ?g ?_); (case h => walk_at "sq"); (case g => rfl))
  | ((with_reducible refine' w_lenL ?h ?_); (case h => walk_at "sq"))
  | ((with_reducible refine' w_lenT ?h ?_); (case h => walk_at "sq"))
  | ((with_reducible refine' w_eq ?h ?_); (case h => rfl))
  | ((with_reducible refine' w_ne ?h ?_); (case h => rfl))
  | ((with_reducible refine' w_ea ?h ?_); (case h => rfl))
  | ((with_reducible refine' w_ln ?h ?_); (case h => rfl))
  | ((with_reducible refine' w_fld ?h ?c ?n ?l ?_); (case h => walk_at "hl"); (case c => walk_at "cls"); (case n => walk_at "nat"); (case l => rfl))
  | ((with_reducible refine' w_sfld ?h ?c ?n ?l ?e ?_); (case h => walk_at "hl"); (case c => walk_at "cls"); (case n => walk_at "nat"); (case l => exact Nat.le_of_ble_eq_true rfl); (case e => rfl))
  | ((with_reducible refine' w_meth ?h ?l ?_); (case h => walk_at "hl"); (case l => rfl))
  | ((with_reducible refine' w_prop ?h ?_); (case h => walk_at "hl"))
  | ((with_reducible refine' w_tyL ?h ?_); (case h => walk_at "sq"))
  | ((with_reducible refine' w_app ?h ?z ?_); (case h => walk_at "hl"); (case z => first | omega | (simp; omega) | simp))
  | ((with_reducible refine' w_cat ?h ?g ?z ?_); (case h => walk_at "hl"); (case g => walk_at "hl"); (case z => first | omega | (simp; omega) | simp))
  | ((with_reducible refine' w_zip ?h ?g ?_); (case h => walk_at "sq"); (case g => walk_at "sq"))
  | ((with_reducible refine' w_enum ?h ?_); (case h => walk_at "sq"))
  | ((with_reducible refine' w_slL ?h ?_); (case h => walk_at "sq"))
  | ((with_reducible refine' w_rev ?h ?_); (case h => walk_at "sq"))
  | ((with_reducible refine' w_rep ?h ?a ?b ?z ?_); (case h => walk_at "hl"); (case a => omega); (case b => omega); (case z => first | omega | exact Nat.le_of_ble_eq_true rfl | (simp; omega)))
  | ((with_reducible refine' w_laid ?h ?_); (case h => simp)))
namespace Toy
open PySem L2
def top (i : Nat) : Stmt := PySem.Challenge.pw_orderlycore_k56_whole_the_buffer_by_an_o.main.body.getD i (.Pass ⟨0, 0, 0, 0⟩)
abbrev s_CoreError___init__ : Stmt := inClass (top 1) 0
theorem sc_CoreError___init__ : FnScope ["self", "value"] ["self", "value"] (defScope s_CoreError___init__) := ⟨rfl, rfl, rfl, by decide +kernel, rfl, by decide +kernel, by decide +kernel⟩
abbrev s_is_integer : Stmt := top 7
theorem sc_is_integer : FnScope ["value"] ["value"] (defScope s_is_integer) := ⟨rfl, rfl, rfl, by decide +kernel, rfl, by decide +kernel, by decide +kernel⟩
abbrev s_is_count : Stmt := top 8
theorem sc_is_count : FnScope ["value"] ["value"] (defScope s_is_count) := ⟨rfl, rfl, rfl, by decide +kernel, rfl, by decide +kernel, by decide +kernel⟩
abbrev s_want_many : Stmt := top 9
theorem sc_want_many : FnScope ["value", "least", "most"] ["value", "least", "most"] (defScope s_want_many) := ⟨rfl, rfl, rfl, by decide +kernel, rfl, by decide +kernel, by decide +kernel⟩
abbrev s_is_word : Stmt := top 14
theorem sc_is_word : FnScope ["value"] ["value"] (defScope s_is_word) := ⟨rfl, rfl, rfl, by decide +kernel, rfl, by decide +kernel, by decide +kernel⟩
abbrev s_is_place : Stmt := top 15
theorem sc_is_place : FnScope ["value"] ["value"] (defScope s_is_place) := ⟨rfl, rfl, rfl, by decide +kernel, rfl, by decide +kernel, by decide +kernel⟩
abbrev s_want_word : Stmt := top 16
theorem sc_want_word : FnScope ["value"] ["value"] (defScope s_want_word) := ⟨rfl, rfl, rfl, by decide +kernel, rfl, by decide +kernel, by decide +kernel⟩
abbrev s_want_place : Stmt := top 17
theorem sc_want_place : FnScope ["value"] ["value"] (defScope s_want_place) := ⟨rfl, rfl, rfl, by decide +kernel, rfl, by decide +kernel, by decide +kernel⟩
abbrev s_want_kept_page : Stmt := top 21
theorem sc_want_kept_page : FnScope ["value"] ["value"] (defScope s_want_kept_page) := ⟨rfl, rfl, rfl, by decide +kernel, rfl, by decide +kernel, by decide +kernel⟩
abbrev s_want_entry_place : Stmt := top 22
theorem sc_want_entry_place : FnScope ["value"] ["value"] (defScope s_want_entry_place) := ⟨rfl, rfl, rfl, by decide +kernel, rfl, by decide +kernel, by decide +kernel⟩
abbrev s_Buffer___init__ : Stmt := inClass (top 23) 0
theorem sc_Buffer___init__ : FnScope ["self", "many"] ["self", "many"] (defScope s_Buffer___init__) := ⟨rfl, rfl, rfl, by decide +kernel, rfl, by decide +kernel, by decide +kernel⟩
abbrev s_Buffer_most : Stmt := inClass (top 23) 1
theorem sc_Buffer_most : FnScope ["self"] ["self"] (defScope s_Buffer_most) := ⟨rfl, rfl, rfl, by decide +kernel, rfl, by decide +kernel, by decide +kernel⟩
abbrev s_Buffer_rows : Stmt := inClass (top 23) 2
theorem sc_Buffer_rows : FnScope ["self"] ["self"] (defScope s_Buffer_rows) := ⟨rfl, rfl, rfl, by decide +kernel, rfl, by decide +kernel, by decide +kernel⟩
abbrev s_Buffer_found : Stmt := inClass (top 23) 3
theorem sc_Buffer_found : FnScope ["self", "page"] ["self", "page"] (defScope s_Buffer_found) := ⟨rfl, rfl, rfl, by decide +kernel, rfl, by decide +kernel, by decide +kernel⟩
abbrev s_Buffer_entered : Stmt := inClass (top 23) 4
theorem sc_Buffer_entered : FnScope ["self", "page", "first", "second", "word", "left", "row"] ["self", "page", "first", "second", "word"] (defScope s_Buffer_entered) := ⟨rfl, rfl, rfl, by decide +kernel, rfl, by decide +kernel, by decide +kernel⟩
abbrev s_Buffer_stored : Stmt := inClass (top 23) 5
theorem sc_Buffer_stored : FnScope ["self", "place", "row"] ["self", "place"] (defScope s_Buffer_stored) := ⟨rfl, rfl, rfl, by decide +kernel, rfl, by decide +kernel, by decide +kernel⟩
abbrev s_Buffer_out : Stmt := inClass (top 23) 6
theorem sc_Buffer_out : FnScope ["self", "position"] ["self", "position"] (defScope s_Buffer_out) := ⟨rfl, rfl, rfl, by decide +kernel, rfl, by decide +kernel, by decide +kernel⟩
abbrev s_Buffer_cleared : Stmt := inClass (top 23) 7
theorem sc_Buffer_cleared : FnScope ["self"] ["self"] (defScope s_Buffer_cleared) := ⟨rfl, rfl, rfl, by decide +kernel, rfl, by decide +kernel, by decide +kernel⟩
abbrev s_Buffer_copy : Stmt := inClass (top 23) 8
theorem sc_Buffer_copy : FnScope ["self", "found"] ["self"] (defScope s_Buffer_copy) := ⟨rfl, rfl, rfl, by decide +kernel, rfl, by decide +kernel, by decide +kernel⟩
abbrev s_Buffer___eq__ : Stmt := inClass (top 23) 9
theorem sc_Buffer___eq__ : FnScope ["self", "other"] ["self", "other"] (defScope s_Buffer___eq__) := ⟨rfl, rfl, rfl, by decide +kernel, rfl, by decide +kernel, by decide +kernel⟩
abbrev s_entry_kept : Stmt := top 24
theorem sc_entry_kept : FnScope ["rows", "page", "row"] ["rows", "page"] (defScope s_entry_kept) := ⟨rfl, rfl, rfl, by decide +kernel, rfl, by decide +kernel, by decide +kernel⟩
abbrev s__law_pot : Stmt := top 26
theorem sc__law_pot : FnScope ["_law_script", "_law_k", "_law_cell", "_law_mixed"] ["_law_script", "_law_k"] (defScope s__law_pot) := ⟨rfl, rfl, rfl, by decide +kernel, rfl, by decide +kernel, by decide +kernel⟩
abbrev s__law_draw : Stmt := top 27
theorem sc__law_draw : FnScope ["_law_pot_here", "_law_many", "_law_drawn"] ["_law_pot_here", "_law_many"] (defScope s__law_draw) := ⟨rfl, rfl, rfl, by decide +kernel, rfl, by decide +kernel, by decide +kernel⟩
abbrev s__law_deed_right : Stmt := top 28
theorem sc__law_deed_right : FnScope ["_law_pot_here", "_law_kept", "_law_rows", "_law_many", "_law_way", "_law_page", "_law_place", "_law_row", "_law_told", "_law_at", "_law_due", "_law_found", "_law_one"] ["_law_pot_here", "_law_kept", "_law_rows", "_law_many"] (defScope s__law_deed_right) := ⟨rfl, rfl, rfl, by decide +kernel, rfl, by decide +kernel, by decide +kernel⟩
abbrev s__law_right : Stmt := top 29
theorem sc__law_right : FnScope ["_law_pot_here", "_law_many", "_law_rows", "_law_kept", "_law_other", "_law_turn", "_law_late", "_law_is_right", "_law_told", "_law_fresh", "_law_row"] ["_law_pot_here"] (defScope s__law_right) := ⟨rfl, rfl, rfl, by decide +kernel, rfl, by decide +kernel, by decide +kernel⟩
abbrev s_law : Stmt := top 30
theorem sc_law : FnScope ["_law_script"] ["_law_script"] (defScope s_law) := ⟨rfl, rfl, rfl, by decide +kernel, rfl, by decide +kernel, by decide +kernel⟩
structure Ad where
  f_CoreError___init__ : Addr
  d_CoreError___init__ : FuncData
  f_is_integer : Addr
  d_is_integer : FuncData
  f_is_count : Addr
  d_is_count : FuncData
  f_want_many : Addr
  d_want_many : FuncData
  f_is_word : Addr
  d_is_word : FuncData
  f_is_place : Addr
  d_is_place : FuncData
  f_want_word : Addr
  d_want_word : FuncData
  f_want_place : Addr
  d_want_place : FuncData
  f_want_kept_page : Addr
  d_want_kept_page : FuncData
  f_want_entry_place : Addr
  d_want_entry_place : FuncData
  f_Buffer___init__ : Addr
  d_Buffer___init__ : FuncData
  f_Buffer_most : Addr
  d_Buffer_most : FuncData
  p_Buffer_most : Addr
  f_Buffer_rows : Addr
  d_Buffer_rows : FuncData
  f_Buffer_found : Addr
  d_Buffer_found : FuncData
  f_Buffer_entered : Addr
  d_Buffer_entered : FuncData
  f_Buffer_stored : Addr
  d_Buffer_stored : FuncData
  f_Buffer_out : Addr
  d_Buffer_out : FuncData
  f_Buffer_cleared : Addr
  d_Buffer_cleared : FuncData
  f_Buffer_copy : Addr
  d_Buffer_copy : FuncData
  f_Buffer___eq__ : Addr
  d_Buffer___eq__ : FuncData
  f_entry_kept : Addr
  d_entry_kept : FuncData
  f__law_pot : Addr
  d__law_pot : FuncData
  f__law_draw : Addr
  d__law_draw : FuncData
  f__law_deed_right : Addr
  d__law_deed_right : FuncData
  f__law_right : Addr
  d__law_right : FuncData
  f_law : Addr
  d_law : FuncData
  c_CoreError : Addr
  c_InvalidWord : Addr
  c_InvalidPlace : Addr
  c_InvalidMany : Addr
  c_InvalidPage : Addr
  c_Buffer : Addr
  t_MOST_WORD : Tok
  t_MOST_PLACE : Tok
  t_MEMORY_END : Tok
  t_MOST_ENTRIES : Tok
  t_MOST_KEPT_PAGE : Tok
structure Txt (K : PySem.W.Frag) (mg : Str → Option Value) (a : Ad) : Prop where
  g_CoreError : mg "CoreError" = some (.ref a.c_CoreError)
  x_CoreError : OexC K a.c_CoreError
  xi_CoreError : PySem.W.findIn K (.ref a.c_CoreError) "__init__" = some (some (.ref a.f_CoreError___init__))
  xn_CoreError_value : PySem.W.findIn K (.ref a.c_CoreError) "value" = some none
  g_InvalidWord : mg "InvalidWord" = some (.ref a.c_InvalidWord)
  x_InvalidWord : OexC K a.c_InvalidWord
  xi_InvalidWord : PySem.W.findIn K (.ref a.c_InvalidWord) "__init__" = some (some (.ref a.f_CoreError___init__))
  xn_InvalidWord_value : PySem.W.findIn K (.ref a.c_InvalidWord) "value" = some none
  g_InvalidPlace : mg "InvalidPlace" = some (.ref a.c_InvalidPlace)
  x_InvalidPlace : OexC K a.c_InvalidPlace
  xi_InvalidPlace : PySem.W.findIn K (.ref a.c_InvalidPlace) "__init__" = some (some (.ref a.f_CoreError___init__))
  xn_InvalidPlace_value : PySem.W.findIn K (.ref a.c_InvalidPlace) "value" = some none
  g_InvalidMany : mg "InvalidMany" = some (.ref a.c_InvalidMany)
  x_InvalidMany : OexC K a.c_InvalidMany
  xi_InvalidMany : PySem.W.findIn K (.ref a.c_InvalidMany) "__init__" = some (some (.ref a.f_CoreError___init__))
  xn_InvalidMany_value : PySem.W.findIn K (.ref a.c_InvalidMany) "value" = some none
  g_InvalidPage : mg "InvalidPage" = some (.ref a.c_InvalidPage)
  x_InvalidPage : OexC K a.c_InvalidPage
  xi_InvalidPage : PySem.W.findIn K (.ref a.c_InvalidPage) "__init__" = some (some (.ref a.f_CoreError___init__))
  xn_InvalidPage_value : PySem.W.findIn K (.ref a.c_InvalidPage) "value" = some none
  g_Buffer : mg "Buffer" = some (.ref a.c_Buffer)
  c_Buffer : Cls K a.c_Buffer
  n_Buffer_own_many : NoAttr K a.c_Buffer "own_many"
  n_Buffer_own_rows : NoAttr K a.c_Buffer "own_rows"
  i_Buffer : InsTy K a.c_Buffer
  is_Buffer : PySem.W.notFirst K a.c_Buffer (.ref a.c_Buffer) = true
  io_Buffer : PySem.W.kitOne K (.ref a.c_Buffer) (.ref a.c_Buffer) = some true
  nf_Buffer_list : PySem.W.notFirst K a.c_Buffer (.type "list") = true
  ko_Buffer_list : PySem.W.kitOne K (.type "list") (.ref a.c_Buffer) = some false
  k_Buffer : Mk K a.c_Buffer a.f_Buffer___init__
  F_CoreError___init__ : Fun K "__init__" "CoreError.__init__" s_CoreError___init__ a.f_CoreError___init__ a.d_CoreError___init__
  b_CoreError___init__ : Binds K a.d_CoreError___init__ ["self", "value"] []
  xt_CoreError___init__ : PySem.W.typeIn K (.ref a.f_CoreError___init__) = some (.type "function")
  m_is_integer : mg "is_integer" = some (.ref a.f_is_integer)
  F_is_integer : Fun K "is_integer" "is_integer" s_is_integer a.f_is_integer a.d_is_integer
  b_is_integer : Binds K a.d_is_integer ["value"] []
  m_is_count : mg "is_count" = some (.ref a.f_is_count)
  F_is_count : Fun K "is_count" "is_count" s_is_count a.f_is_count a.d_is_count
  b_is_count : Binds K a.d_is_count ["value"] []
  m_want_many : mg "want_many" = some (.ref a.f_want_many)
  F_want_many : Fun K "want_many" "want_many" s_want_many a.f_want_many a.d_want_many
  b_want_many : Binds K a.d_want_many ["value", "least", "most"] []
  m_is_word : mg "is_word" = some (.ref a.f_is_word)
  F_is_word : Fun K "is_word" "is_word" s_is_word a.f_is_word a.d_is_word
  b_is_word : Binds K a.d_is_word ["value"] []
  m_is_place : mg "is_place" = some (.ref a.f_is_place)
  F_is_place : Fun K "is_place" "is_place" s_is_place a.f_is_place a.d_is_place
  b_is_place : Binds K a.d_is_place ["value"] []
  m_want_word : mg "want_word" = some (.ref a.f_want_word)
  F_want_word : Fun K "want_word" "want_word" s_want_word a.f_want_word a.d_want_word
  b_want_word : Binds K a.d_want_word ["value"] []
  m_want_place : mg "want_place" = some (.ref a.f_want_place)
  F_want_place : Fun K "want_place" "want_place" s_want_place a.f_want_place a.d_want_place
  b_want_place : Binds K a.d_want_place ["value"] []
  m_want_kept_page : mg "want_kept_page" = some (.ref a.f_want_kept_page)
  F_want_kept_page : Fun K "want_kept_page" "want_kept_page" s_want_kept_page a.f_want_kept_page a.d_want_kept_page
  b_want_kept_page : Binds K a.d_want_kept_page ["value"] []
  m_want_entry_place : mg "want_entry_place" = some (.ref a.f_want_entry_place)
  F_want_entry_place : Fun K "want_entry_place" "want_entry_place" s_want_entry_place a.f_want_entry_place a.d_want_entry_place
  b_want_entry_place : Binds K a.d_want_entry_place ["value"] []
  F_Buffer___init__ : Fun K "__init__" "Buffer.__init__" s_Buffer___init__ a.f_Buffer___init__ a.d_Buffer___init__
  b_Buffer___init__ : Binds K a.d_Buffer___init__ ["self", "many"] []
  F_Buffer_most : Fun K "most" "Buffer.most" s_Buffer_most a.f_Buffer_most a.d_Buffer_most
  b_Buffer_most : Binds K a.d_Buffer_most ["self"] []
  p_Buffer_most : PropOf K a.c_Buffer "most" a.p_Buffer_most a.f_Buffer_most
  F_Buffer_rows : Fun K "rows" "Buffer.rows" s_Buffer_rows a.f_Buffer_rows a.d_Buffer_rows
  b_Buffer_rows : Binds K a.d_Buffer_rows ["self"] []
  M_Buffer_rows : Meth K a.c_Buffer "rows" a.f_Buffer_rows
  F_Buffer_found : Fun K "found" "Buffer.found" s_Buffer_found a.f_Buffer_found a.d_Buffer_found
  b_Buffer_found : Binds K a.d_Buffer_found ["self", "page"] []
  M_Buffer_found : Meth K a.c_Buffer "found" a.f_Buffer_found
  F_Buffer_entered : Fun K "entered" "Buffer.entered" s_Buffer_entered a.f_Buffer_entered a.d_Buffer_entered
  b_Buffer_entered : Binds K a.d_Buffer_entered ["self", "page", "first", "second", "word"] []
  M_Buffer_entered : Meth K a.c_Buffer "entered" a.f_Buffer_entered
  F_Buffer_stored : Fun K "stored" "Buffer.stored" s_Buffer_stored a.f_Buffer_stored a.d_Buffer_stored
  b_Buffer_stored : Binds K a.d_Buffer_stored ["self", "place"] []
  M_Buffer_stored : Meth K a.c_Buffer "stored" a.f_Buffer_stored
  F_Buffer_out : Fun K "out" "Buffer.out" s_Buffer_out a.f_Buffer_out a.d_Buffer_out
  b_Buffer_out : Binds K a.d_Buffer_out ["self", "position"] []
  M_Buffer_out : Meth K a.c_Buffer "out" a.f_Buffer_out
  F_Buffer_cleared : Fun K "cleared" "Buffer.cleared" s_Buffer_cleared a.f_Buffer_cleared a.d_Buffer_cleared
  b_Buffer_cleared : Binds K a.d_Buffer_cleared ["self"] []
  M_Buffer_cleared : Meth K a.c_Buffer "cleared" a.f_Buffer_cleared
  F_Buffer_copy : Fun K "copy" "Buffer.copy" s_Buffer_copy a.f_Buffer_copy a.d_Buffer_copy
  b_Buffer_copy : Binds K a.d_Buffer_copy ["self"] []
  M_Buffer_copy : Meth K a.c_Buffer "copy" a.f_Buffer_copy
  F_Buffer___eq__ : Fun K "__eq__" "Buffer.__eq__" s_Buffer___eq__ a.f_Buffer___eq__ a.d_Buffer___eq__
  b_Buffer___eq__ : Binds K a.d_Buffer___eq__ ["self", "other"] []
  M_Buffer___eq__ : Meth K a.c_Buffer "__eq__" a.f_Buffer___eq__
  m_entry_kept : mg "entry_kept" = some (.ref a.f_entry_kept)
  F_entry_kept : Fun K "entry_kept" "entry_kept" s_entry_kept a.f_entry_kept a.d_entry_kept
  b_entry_kept : Binds K a.d_entry_kept ["rows", "page"] []
  m__law_pot : mg "_law_pot" = some (.ref a.f__law_pot)
  F__law_pot : Fun K "_law_pot" "_law_pot" s__law_pot a.f__law_pot a.d__law_pot
  b__law_pot : Binds K a.d__law_pot ["_law_script", "_law_k"] []
  m__law_draw : mg "_law_draw" = some (.ref a.f__law_draw)
  F__law_draw : Fun K "_law_draw" "_law_draw" s__law_draw a.f__law_draw a.d__law_draw
  b__law_draw : Binds K a.d__law_draw ["_law_pot_here", "_law_many"] []
  m__law_deed_right : mg "_law_deed_right" = some (.ref a.f__law_deed_right)
  F__law_deed_right : Fun K "_law_deed_right" "_law_deed_right" s__law_deed_right a.f__law_deed_right a.d__law_deed_right
  b__law_deed_right : Binds K a.d__law_deed_right ["_law_pot_here", "_law_kept", "_law_rows", "_law_many"] []
  m__law_right : mg "_law_right" = some (.ref a.f__law_right)
  F__law_right : Fun K "_law_right" "_law_right" s__law_right a.f__law_right a.d__law_right
  b__law_right : Binds K a.d__law_right ["_law_pot_here"] []
  m_law : mg "law" = some (.ref a.f_law)
  F_law : Fun K "law" "law" s_law a.f_law a.d_law
  b_law : Binds K a.d_law ["_law_script"] []
  kb_Buffer___init___1_many : KBn K a.d_Buffer___init__ ["self", "many"] 1 ["many"] (fun us ws => [us.getD 0 PySem.Value.none, ws.getD 0 PySem.Value.none]) (fun us ws => [us.getD 0 V.non, ws.getD 0 V.non])
  kb_Buffer_entered_1_word_second_first_page : KBn K a.d_Buffer_entered ["self", "page", "first", "second", "word"] 1 ["word", "second", "first", "page"] (fun us ws => [us.getD 0 PySem.Value.none, ws.getD 3 PySem.Value.none, ws.getD 2 PySem.Value.none, ws.getD 1 PySem.Value.none, ws.getD 0 PySem.Value.none]) (fun us ws => [us.getD 0 V.non, ws.getD 3 V.non, ws.getD 2 V.non, ws.getD 1 V.non, ws.getD 0 V.non])
  kb_Buffer_found_1_page : KBn K a.d_Buffer_found ["self", "page"] 1 ["page"] (fun us ws => [us.getD 0 PySem.Value.none, ws.getD 0 PySem.Value.none]) (fun us ws => [us.getD 0 V.non, ws.getD 0 V.non])
  z_abs : mg "abs" = none
  z_bool : mg "bool" = none
  z_divmod : mg "divmod" = none
  z_int : mg "int" = none
  z_isinstance : mg "isinstance" = none
  z_len : mg "len" = none
  z_list : mg "list" = none
  z_max : mg "max" = none
  z_range : mg "range" = none
  v_MOST_WORD : mg "MOST_WORD" = some (.int 65536 a.t_MOST_WORD)
  v_MOST_PLACE : mg "MOST_PLACE" = some (.int 1024 a.t_MOST_PLACE)
  v_MEMORY_END : mg "MEMORY_END" = some (.int 960 a.t_MEMORY_END)
  v_MOST_ENTRIES : mg "MOST_ENTRIES" = some (.int 16 a.t_MOST_ENTRIES)
  v_MOST_KEPT_PAGE : mg "MOST_KEPT_PAGE" = some (.int 256 a.t_MOST_KEPT_PAGE)
local macro_rules | `(tactic| walk_at "cls") => `(tactic| first | assumption | exact Txt.c_Buffer (by assumption))
local macro_rules | `(tactic| walk_at "nat") => `(tactic| first | assumption | exact Txt.n_Buffer_own_many (by assumption) | exact Txt.n_Buffer_own_rows (by assumption))
def sp_law (K : PySem.W.Frag) : Sp := fun vs H Q _ => ∃ (a : Addr) (ns : List Int), vs = [.ref a] ∧ SqL K H a (ns.map V.int) ∧ ns.length ≤ 63 ∧ ∀ H', Q (.bl true) H'
abbrev R4 := Int × Int × Int × Int
def rowV (r : R4) : List V := [.int r.1, .int r.2.1, .int r.2.2.1, .int r.2.2.2]
/-- a list of rows, each a tuple of four ints, stands at l -/
def RowsAt (H : Hp) (l : Addr) (rows : List R4) : Prop := ∃ es : List (Addr × R4), H l = some (.lst (es.map fun e => V.ref e.1)) ∧ (∀ e ∈ es, H e.1 = some (.tup (rowV e.2))) ∧ es.map (·.2) = rows
def fB (m : Int) (l : Addr) : List (Str × V) := [("own_many", V.int m), ("own_rows", V.ref l)]
def BufAt (C : Addr) (H : Hp) (b : Addr) (m : Int) (rows : List R4) : Prop := ∃ dx l, H b = some (.ins C dx (fB m l)) ∧ RowsAt H l rows
theorem RowsAt.same {H H' : Hp} {l : Addr} {rows : List R4} (s : Same H H') : RowsAt H l rows → RowsAt H' l rows := fun ⟨es, h1, h2, h3⟩ => ⟨es, s _ _ h1, fun e he => s _ _ (h2 e he), h3⟩
theorem RowsAt.chg {H H' : Hp} {l x : Addr} {rows : List R4} (c : Chg x H H') (n1 : l ≠ x) (n2 : ∀ xs, H x ≠ some (.tup xs)) : RowsAt H l rows → RowsAt H' l rows := fun ⟨es, h1, h2, h3⟩ =>
  ⟨es, c _ _ h1 n1, fun e he => c _ _ (h2 e he) (fun z => n2 _ (by rw [← z]; exact h2 e he)), h3⟩
theorem RowsAt.upd {H : Hp} {l x C dx : Addr} {fs : List (Str × V)} {o : HO} {rows : List R4} (h : H x = some (.ins C dx fs)) (r : RowsAt H l rows) : RowsAt (L2.upd H x o) l rows := by
  obtain ⟨es, h1, _⟩ := id r
  exact r.chg Chg.refl.upd (ne_of h1 h (by intro z; cases z)) (fun xs z => by rw [h] at z; cases z)
theorem filterMap_if {α β : Type} (p : α → Bool) (g : α → β) : ∀ es : List α, es.filterMap (fun e => if p e then some (g e) else none) = (es.filter p).map g
  | [] => rfl
  | e :: es => by
    rw [List.filterMap_cons, List.filter_cons]
    cases p e <;> simp [filterMap_if p g es]
/-- what stands kept -/
theorem RowsAt.filter {H : Hp} {es : List (Addr × R4)} {D : Addr} (p : R4 → Bool) (h : H D = some (.lst ((es.filter fun e => p e.2).map fun e => V.ref e.1))) (k : ∀ e ∈ es, H e.1 = some (.tup (rowV e.2))) : RowsAt H D ((es.map (·.2)).filter p) :=
  ⟨es.filter fun e => p e.2, h, fun e he => k e ((List.mem_filter.mp he).1), by rw [List.filter_map]; rfl⟩
def spBInit (C : Addr) : Sp := fun vs H Q _ => ∃ (x dx : Addr) (m : Int), vs = [.ref x, .int m] ∧ H x = some (.ins C dx []) ∧ 1 ≤ m ∧ m ≤ 16 ∧ ∀ H', Chg x H H' → BufAt C H' x m [] → Q .non H'
def spBMost (C : Addr) : Sp := fun vs H Q _ => ∃ (x : Addr) (m : Int) (rows : List R4), vs = [.ref x] ∧ BufAt C H x m rows ∧ Q (.int m) H
def spBRows (C : Addr) : Sp := fun vs H Q _ => ∃ (x : Addr) (m : Int) (rows : List R4), vs = [.ref x] ∧ BufAt C H x m rows ∧ ∀ p H', Same H H' → H p = none → RowsAt H' p rows → Q (.ref p) H'
def KeptAs (H : Hp) (page : Int) (rows : List R4) (v : V) : Prop := (rows.find? (fun r => r.1 == page) = none ∧ v = .non) ∨ ∃ r a, rows.find? (fun r => r.1 == page) = some r ∧ v = .ref a ∧ H a = some (.tup (rowV r))
def spKept (K : PySem.W.Frag) : Sp := fun vs H Q _ => ∃ (l : Addr) (page : Int) (rows : List R4), vs = [.ref l, .int page] ∧ RowsAt H l rows ∧ ∀ v, KeptAs H page rows v → Q v H
def spBFound (C : Addr) : Sp := fun vs H Q _ => ∃ (x : Addr) (m page : Int) (rows : List R4), vs = [.ref x, .int page] ∧ BufAt C H x m rows ∧ 0 ≤ page ∧ page < 256 ∧ ∀ v, KeptAs H page rows v → Q v H
def enter (m : Int) (rows : List R4) (r : R4) : List R4 := (if ((rows.filter fun q => q.1 != r.1).length : Int) = m then (rows.filter fun q => q.1 != r.1).drop 1 else rows.filter fun q => q.1 != r.1) ++ [r]
def spBEntered (C : Addr) : Sp := fun vs H Q _ => ∃ (x : Addr) (m a b c d : Int) (rows : List R4), vs = [.ref x, .int a, .int b, .int c, .int d] ∧ BufAt C H x m rows ∧ rows.length ≤ 100 ∧ 0 ≤ a ∧ a < 256 ∧ 0 ≤ b ∧ b < 960 ∧ 0 ≤ c ∧ c < 960 ∧ W16 d ∧ ∀ H', Chg x H H' → BufAt C H' x m (enter m rows (a, b, c, d)) → Q .non H'
def leans (p : Int) (r : R4) : Bool := r.2.1 == p || r.2.2.1 == p
def spBStored (C : Addr) : Sp := fun vs H Q _ => ∃ (x : Addr) (m p : Int) (rows : List R4), vs = [.ref x, .int p] ∧ BufAt C H x m rows ∧ rows.length ≤ 100 ∧ 0 ≤ p ∧ p < 1024 ∧ ∀ H', Chg x H H' → BufAt C H' x m (rows.filter fun r => !leans p r) → Q .non H'
def spBOut (C : Addr) : Sp := fun vs H Q _ => ∃ (x : Addr) (m p : Int) (rows : List R4), vs = [.ref x, .int p] ∧ BufAt C H x m rows ∧ rows.length ≤ 100 ∧ 0 ≤ p ∧ ∀ H', Chg x H H' → BufAt C H' x m (rows.take p.toNat ++ rows.drop (p + 1).toNat) → Q .non H'
def spBClear (C : Addr) : Sp := fun vs H Q _ => ∃ (x : Addr) (m : Int) (rows : List R4), vs = [.ref x] ∧ BufAt C H x m rows ∧ ∀ H', Chg x H H' → BufAt C H' x m [] → Q .non H'
def spBCopy (C : Addr) : Sp := fun vs H Q _ => ∃ (x : Addr) (m : Int) (rows : List R4), vs = [.ref x] ∧ BufAt C H x m rows ∧ 1 ≤ m ∧ m ≤ 16 ∧ ∀ y H', Same H H' → H y = none → BufAt C H' y m rows → Q (.ref y) H'
def spBEq (C : Addr) : Sp := fun vs H Q _ => ∃ (x : Addr) (m : Int) (rows : List R4) (y : V), vs = [.ref x, y] ∧ BufAt C H x m rows ∧
  ((∃ o m2 rows2, y = .ref o ∧ BufAt C H o m2 rows2 ∧ Q (.bl (decide (m = m2) && decide (rows = rows2))) H) ∨ (∃ o xs, y = .ref o ∧ H o = some (.lst xs) ∧ Q (.bl false) H))
/-- rows as data -/
def rowD (r : R4) : PyData := .tuple (([r.1, r.2.1, r.2.2.1, r.2.2.2] : List Int).map PyData.int)
theorem rowOk : DtOk rowD 1 := DtOk.of (f := fun r : R4 => ([r.1, r.2.1, r.2.2.1, r.2.2.2] : List Int)) DtOk.int.tuple (fun x y h => by
  obtain ⟨a, b, c, d⟩ := x
  obtain ⟨a', b', c', d'⟩ := y
  simp at h
  obtain ⟨rfl, rfl, rfl, rfl⟩ := h
  rfl)
theorem row_dp {K : PySem.W.Frag} {H : Hp} {a : Addr} {r : R4} (h : H a = some (.tup (rowV r))) : Dp K H (.ref a) (rowD r) := .tup (SqT.of h) (.cons (.int _) (.cons (.int _) (.cons (.int _) (.cons (.int _) .nil))))
theorem rows_dp {K : PySem.W.Frag} {H : Hp} {l : Addr} {rows : List R4} : RowsAt H l rows → Dp K H (.ref l) (.list (rows.map rowD)) := fun ⟨es, h1, h2, h3⟩ => by
  subst h3
  rw [List.map_map]
  exact .lst (SqL.of h1) (dp_mapE (d := rowD ∘ Prod.snd) (it := fun e : Addr × R4 => V.ref e.1) es fun e he => row_dp (h2 e he))
/-! ### the law's own deeds -/
def Chg2 (p b : Addr) (H H' : Hp) : Prop := ∀ x o, H x = some o → x ≠ p → x ≠ b → H' x = some o
theorem Chg2.refl {p b : Addr} {H : Hp} : Chg2 p b H H := fun _ _ h _ _ => h
theorem Chg2.trans {p b : Addr} {H H' H1 : Hp} (a : Chg2 p b H H') (c : Chg2 p b H' H1) : Chg2 p b H H1 := fun x o h n k => c x o (a x o h n k) n k
theorem Chg2.fst {p b : Addr} {H H' H1 : Hp} (a : Chg2 p b H H') (c : Chg p H' H1) : Chg2 p b H H1 := fun x o h n k => c x o (a x o h n k) n
theorem Chg2.snd {p b : Addr} {H H' H1 : Hp} (a : Chg2 p b H H') (c : Chg b H' H1) : Chg2 p b H H1 := fun x o h n k => c x o (a x o h n k) k
theorem Chg2.same {p b : Addr} {H H' H1 : Hp} (a : Chg2 p b H H') (c : Same H' H1) : Chg2 p b H H1 := fun x o h n k => c x o (a x o h n k)
theorem RowsAt.ne_pot {H : Hp} {l p : Addr} {rows : List R4} : RowsAt H l rows → Pot H p → l ≠ p := fun ⟨es, h1, _⟩ ⟨x, y, h2, _⟩ => ne_of h1 h2 (by
  intro z
  cases es with
  | nil => cases z
  | cons e es => simp at z)
theorem BufAt.ne_pot {C : Addr} {H : Hp} {b p : Addr} {m : Int} {rows : List R4} : BufAt C H b m rows → Pot H p → b ≠ p := fun ⟨dx, l, h1, _⟩ ⟨x, y, h2, _⟩ => ne_of h1 h2 (by intro z; cases z)
theorem RowsAt.ne_buf {C : Addr} {H : Hp} {b l : Addr} {m : Int} {rows rows2 : List R4} : RowsAt H l rows → BufAt C H b m rows2 → l ≠ b := fun ⟨es, h1, _⟩ ⟨dx, l, h2, _⟩ => ne_of h1 h2 (by intro z; cases z)
theorem BufAt.ntup {C : Addr} {H : Hp} {b : Addr} {m : Int} {rows : List R4} : BufAt C H b m rows → ∀ xs, H b ≠ some (.tup xs) := fun ⟨dx, l, h1, _⟩ xs z => by rw [h1] at z; cases z
theorem BufAt.same {C : Addr} {H H' : Hp} {b : Addr} {m : Int} {rows : List R4} (s : Same H H') : BufAt C H b m rows → BufAt C H' b m rows := fun ⟨dx, l, h1, h2⟩ => ⟨dx, l, s _ _ h1, h2.same s⟩
structure DS (C p b l : Addr) (m : Int) (rows : List R4) (H : Hp) : Prop where
  pot : Pot H p
  buf : BufAt C H b m rows
  row : RowsAt H l rows
section
variable {C p b l : Addr} {m : Int} {rows : List R4} {H H' : Hp}
theorem DS.same (s : Same H H') (d : DS C p b l m rows H) : DS C p b l m rows H' := ⟨d.pot.same s, d.buf.same s, d.row.same s⟩
theorem DS.draw (c : Chg p H H') (hp : Pot H' p) (d : DS C p b l m rows H) : DS C p b l m rows H' := by
  refine ⟨hp, ?_, d.row.chg c (d.row.ne_pot d.pot) d.pot.ntup⟩
  have hn := d.buf.ne_pot d.pot
  obtain ⟨dx, k, h1, h2⟩ := d.buf
  exact ⟨dx, k, c _ _ h1 hn, h2.chg c (h2.ne_pot d.pot) d.pot.ntup⟩
/-- the buffer changed; the other list stays -/
theorem DS.deed {rows2 : List R4} (c : Chg b H H') (hb : BufAt C H' b m rows2) (d : DS C p b l m rows H) : Pot H' p ∧ RowsAt H' l rows := ⟨d.pot.chg c (d.buf.ne_pot d.pot).symm, d.row.chg c (d.row.ne_buf d.buf) d.buf.ntup⟩
end
def rowOK (r : R4) : Prop := 0 ≤ r.1 ∧ r.1 < 256 ∧ 0 ≤ r.2.1 ∧ r.2.1 < 960 ∧ 0 ≤ r.2.2.1 ∧ r.2.2.1 < 960 ∧ W16 r.2.2.2
def RowsOk (m : Int) (rows : List R4) : Prop := (rows.length : Int) ≤ m ∧ (∀ r ∈ rows, rowOK r) ∧ (rows.map (·.1)).Nodup
theorem RowsOk.sub {m : Int} {as bs : List R4} (h : List.Sublist as bs) (k : RowsOk m bs) : RowsOk m as := by
  have := h.length_le
  have := k.1
  exact ⟨by omega, fun r hr => k.2.1 r (h.subset hr), (h.map _).nodup k.2.2⟩
theorem out_sub (rows : List R4) {x : Int} (h : 0 ≤ x) : List.Sublist (rows.take x.toNat ++ rows.drop (x + 1).toNat) rows := by
  have e : (x + 1).toNat = x.toNat + 1 := by omega
  rw [e]
  have h1 : List.Sublist (rows.drop (x.toNat + 1)) (rows.drop x.toNat) := by
    rw [← List.drop_drop]
    exact List.drop_sublist _ _
  have h2 := List.Sublist.append_left h1 (rows.take x.toNat)
  rw [List.take_append_drop] at h2
  exact h2
theorem enter_lt {m a b c d : Int} {rows : List R4} (h : ((rows.filter fun q : R4 => q.1 != a).length : Int) < m) : enter m rows (a, b, c, d) = (rows.filter fun q : R4 => q.1 != a) ++ [(a, b, c, d)] := by
  show (if ((rows.filter fun q : R4 => q.1 != a).length : Int) = m then (rows.filter fun q : R4 => q.1 != a).drop 1 else rows.filter fun q : R4 => q.1 != a) ++ [(a, b, c, d)] = _
  rw [if_neg (by omega)]
theorem enter_ge {m a b c d : Int} {rows : List R4} (h : ¬ ((rows.filter fun q : R4 => q.1 != a).length : Int) < m) (hk : (rows.length : Int) ≤ m) : enter m rows (a, b, c, d) = (rows.filter fun q : R4 => q.1 != a).drop 1 ++ [(a, b, c, d)] := by
  show (if ((rows.filter fun q : R4 => q.1 != a).length : Int) = m then (rows.filter fun q : R4 => q.1 != a).drop 1 else rows.filter fun q : R4 => q.1 != a) ++ [(a, b, c, d)] = _
  have := List.length_filter_le (fun q : R4 => q.1 != a) rows
  rw [if_pos (by omega)]
theorem RowsOk.app {m : Int} {as : List R4} {r : R4} (k : (as.length : Int) + 1 ≤ m) (h : ∀ q ∈ as, rowOK q) (hn : (as.map (·.1)).Nodup) (hr : rowOK r) (hf : ∀ q ∈ as, q.1 ≠ r.1) : RowsOk m (as ++ [r]) := by
  refine ⟨by rw [List.length_append]; simp only [List.length_cons, List.length_nil]; omega, fun q hm => ?_, ?_⟩
  · rcases List.mem_append.mp hm with hm | hm
    · exact h q hm
    · obtain rfl : q = r := by simpa using hm
      exact hr
  · rw [List.map_append, List.nodup_append]
    refine ⟨hn, by simp, fun a ha b hb => ?_⟩
    obtain ⟨q, hq, rfl⟩ := List.mem_map.mp ha
    obtain rfl : b = r.1 := by simpa using hb
    exact hf q hq
theorem enter_ok {m a b c d : Int} {rows : List R4} (h : RowsOk m rows) (h1 : 1 ≤ m) (hr : rowOK (a, b, c, d)) : RowsOk m (enter m rows (a, b, c, d)) := by
  have hs : List.Sublist (rows.filter fun q : R4 => q.1 != a) rows := List.filter_sublist
  have k := h.sub hs
  have hf : ∀ q ∈ (rows.filter fun q : R4 => q.1 != a), q.1 ≠ a := fun q hq => by simpa using (List.mem_filter.mp hq).2
  by_cases z : ((rows.filter fun q : R4 => q.1 != a).length : Int) < m
  · rw [enter_lt z]
    exact RowsOk.app (by omega) k.2.1 k.2.2 hr hf
  · rw [enter_ge z h.1]
    have k2 := k.sub (List.drop_sublist 1 _)
    have k1 := k.1
    exact RowsOk.app (by rw [List.length_drop]; omega) k2.2.1 k2.2.2 hr fun q hq => hf q (List.mem_of_mem_drop hq)
def spDeed (C : Addr) : Sp := fun vs H Q _ => ∃ (p b l : Addr) (m : Int) (rows : List R4), vs = [.ref p, .ref b, .ref l, .int m] ∧ DS C p b l m rows H ∧ 1 ≤ m ∧ m ≤ 16 ∧ RowsOk m rows ∧
  ∀ t l' rows' H', Chg2 p b H H' → DS C p b l' m rows' H' → RowsOk m rows' → H' t = some (.tup [.ref l', .bl true]) → Q (.ref t) H'
theorem RowsAt.cut {H : Hp} {l : Addr} {rows : List R4} {bs : List Addr} (n1 : l ∉ bs) (n2 : ∀ x ∈ bs, ∀ xs, H x ≠ some (.tup xs)) : RowsAt H l rows → RowsAt (cutH H bs) l rows := fun ⟨es, h1, h2, h3⟩ =>
  ⟨es, (cut_some n1).trans h1, fun e he => (cut_some (fun z => n2 _ z _ (h2 e he))).trans (h2 e he), h3⟩
theorem sub_chg2 {G H H' : Hp} {p b : Addr} (s : Same G H) (n : G p = none) (n2 : G b = none) (c : Chg2 p b H H') : Same G H' := fun x o e => c x o (s x o e) (ne_of_none e n) (ne_of_none e n2)
/-- what was laid aside at turn 20 -/
def Aside (C p b : Addr) (m : Int) (v4 v6 : Option V) (H : Hp) : Prop := ∃ (o t : Addr) (orows : List R4) (G : Hp), v4 = some (.ref o) ∧ v6 = some (.ref t) ∧ Same G H ∧ G p = none ∧ G b = none ∧ BufAt C G o m orows ∧ RowsAt G t orows
theorem Aside.chg {C p b : Addr} {m : Int} {v4 v6 : Option V} {H H' : Hp} (c : Chg2 p b H H') : Aside C p b m v4 v6 H → Aside C p b m v4 v6 H' := fun ⟨o, t, r, G, h1, h2, h3, h4, h5, h6⟩ => ⟨o, t, r, G, h1, h2, sub_chg2 h3 h4 h5 c, h4, h5, h6⟩
theorem Aside.of {C p b l o t : Addr} {m : Int} {rows orows : List R4} {H : Hp} (d : DS C p b l m rows H) (ho : BufAt C H o m orows) (hob : o ≠ b) (ht : RowsAt H t orows) : Aside C p b m (some (.ref o)) (some (.ref t)) H := by
  have hop := ho.ne_pot d.pot
  have htp := ht.ne_pot d.pot
  have htb := ht.ne_buf d.buf
  have n2 : ∀ x ∈ [p, b], ∀ xs, H x ≠ some (.tup xs) := fun x hx => by
    rcases List.mem_cons.mp hx with rfl | hx
    · exact d.pot.ntup
    · obtain rfl : x = b := by simpa using hx
      exact d.buf.ntup
  have nm : ∀ {x : Addr}, x ≠ p → x ≠ b → x ∉ [p, b] := fun h1 h2 z => by
    rcases List.mem_cons.mp z with z | z
    · exact h1 z
    · exact h2 (by simpa using z)
  refine ⟨o, t, orows, cutH H [p, b], rfl, rfl, cut_same, cut_none (by simp), cut_none (by simp), ?_, ht.cut (nm htp htb) n2⟩
  obtain ⟨dx, k, h1, h2⟩ := ho
  exact ⟨dx, k, (cut_some (nm hop hob)).trans h1, h2.cut (nm (h2.ne_pot d.pot) (h2.ne_buf d.buf)) n2⟩
theorem enter_take {m a b c d : Int} {rows : List R4} {i : Nat} (hk : RowsOk m rows) (h : rows[i]? = some (a, b, c, d)) : enter m (rows.take i) (a, b, c, d) = rows.take (i + 1) := by
  have hi : i < rows.length := (List.getElem?_eq_some_iff.mp h).1
  have hf : ((rows.take i).filter fun q : R4 => q.1 != a) = rows.take i := by
    rw [List.filter_eq_self]
    intro q hq
    obtain ⟨j, hj⟩ := List.mem_iff_getElem?.mp hq
    rw [List.getElem?_take] at hj
    by_cases z : j < i
    · rw [if_pos z] at hj
      have := nodup_ne hk.2.2 (i := j) (j := i) (a := q.1) (b := a) (by rw [List.getElem?_map, hj]; rfl) (by rw [List.getElem?_map, h]; rfl) (by omega)
      simpa using this
    · rw [if_neg z] at hj
      cases hj
  have h1 := hk.1
  rw [enter_lt (by rw [hf, List.length_take]; omega), hf, List.take_succ, h]
  rfl
def spRight (K : PySem.W.Frag) : Sp := fun vs H Q _ => ∃ (p : Addr), vs = [.ref p] ∧ Pot H p ∧ ∀ H', Q (.bl true) H'
def spWantPage (K : PySem.W.Frag) : Sp := fun vs H Q _ => ∃ n : Int, vs = [.int n] ∧ 0 ≤ n ∧ n < 256 ∧ Q .non H
def spWantEntry (K : PySem.W.Frag) : Sp := fun vs H Q _ => ∃ n : Int, vs = [.int n] ∧ 0 ≤ n ∧ n < 960 ∧ Q .non H
def spWantPlace0 (K : PySem.W.Frag) : Sp := fun vs H Q _ => ∃ n : Int, vs = [.int n] ∧ 0 ≤ n ∧ n < 1024 ∧ Q .non H
def spIsPlace (K : PySem.W.Frag) : Sp := fun vs H Q _ => ∃ n : Int, vs = [.int n] ∧ 0 ≤ n ∧ Q (.bl (decide (n < 1024))) H

section
variable {P : Program} {w : World} {K : PySem.W.Frag} {mg : Str → Option Value} {base : Heap} {a : Ad}
theorem ok_CoreError___init__ (T : Txt K mg a) : FnOk P w K mg base (L2.CX P w) 1 a.f_CoreError___init__ a.d_CoreError___init__ ["self", "value"] (spCore K) := by
  refine T.F_CoreError___init__.okX sc_CoreError___init__ (fun vs H Q E h => ?_) (fun cdv A outer s H vs Q E hr h => ?_)
  · obtain ⟨_, _, _, rfl, _⟩ := h
    rfl
  · obtain ⟨x, C, v, rfl, hC, hn, hx, k⟩ := h
    refine ⟨_, (pss_one (ps_ost (pv 0) (pv 1))), ?_⟩
    exact ⟨_, rfl, _, rfl, x, C, rfl, hC, hn, .inl ⟨hx, fun dx n ne => k dx n ne⟩⟩
theorem ok_is_integer (T : Txt K mg a) : FnOk P w K mg base (L2.CX P w) 1 a.f_is_integer a.d_is_integer ["value"] (spInt K) := by
  refine T.F_is_integer.okX sc_is_integer (fun vs H Q E h => ?_) (fun cdv A outer s H vs Q E hr h => ?_)
  · obtain ⟨_, _, rfl, _⟩ := h
    rfl
  · obtain ⟨v, b, rfl, ⟨t, b1, b2, ty, e1, e2, rfl⟩, k⟩ := h
    refine ⟨_, (pss_one (ps_ret (pe_and (pe_callB call_isi (by rfl) T.z_isinstance (by decide +kernel) (pa_cons (pv 0) (pa_cons (pe_bltn (v := .ty "int") (u := .type "int") (by rfl) T.z_int (by decide +kernel) rfl) pa_nil))) (pe_one (pe_not (pe_callB call_isi (by rfl) T.z_isinstance (by decide +kernel) (pa_cons (pv 0) (pa_cons (pe_bltn (v := .ty "bool") (u := .type "bool") (by rfl) T.z_bool (by decide +kernel) rfl) pa_nil)))))))), ?_⟩
    refine ⟨_, rfl, v, _, t, _, b1, rfl, .ty "int", ty, e1, b1, rfl, ?_⟩
    cases b1 with
    | false => exact k
    | true => exact ⟨_, rfl, v, _, t, _, b2, rfl, .ty "bool", ty, e2 rfl, b2, rfl, k⟩
theorem ok_is_count (T : Txt K mg a) : FnOk P w K mg base (L2.CX P w) 2 a.f_is_count a.d_is_count ["value"] (spCount K) := by
  refine T.F_is_count.okX sc_is_count (fun vs H Q E h => ?_) (fun cdv A outer s H vs Q E hr h => ?_)
  · obtain ⟨_, rfl, _⟩ := h
    rfl
  · obtain ⟨v, rfl, hk, k⟩ := h
    refine ⟨_, (pss_one (ps_ret (pe_and (pe_call (ok_is_integer T) (hr.mono (by decide)) (by rfl) T.m_is_integer T.F_is_integer.kp T.b_is_integer .nil passL (pa_cons (pv 0) pa_nil)) (pe_one (pe_cmpR op_ge (pv 0) pe_int (nomark _)))))), ?_⟩
    refine ⟨_, rfl, v, _, rfl, hk, _, rfl, ?_⟩
    cases v with
    | int n => exact ⟨_, rfl, _, _, rfl, rfl, k⟩
    | _ => exact k
theorem ok_want_many (T : Txt K mg a) : FnOk P w K mg base (L2.CX P w) 3 a.f_want_many a.d_want_many ["value", "least", "most"] (spWantMany K a.c_InvalidMany) := by
  refine T.F_want_many.okX sc_want_many (fun vs H Q E h => ?_) (fun cdv A outer s H vs Q E hr h => ?_)
  · obtain ⟨_, _, _, rfl, _⟩ := h
    rfl
  · obtain ⟨v, lo, hi, rfl, hk, k1, k2⟩ := h
    refine ⟨_, (pss_one (ps_if (PW.pt (pw_or (pt_not (pt_val (pe_call (ok_is_count T) (hr.mono (by decide)) (by rfl) T.m_is_count T.F_is_count.kp T.b_is_count .nil passL (pa_cons (pv 0) pa_nil)))) (pw_or1 (pt_not (pt_chain op_le op_le (pv 1) (pv 0) (pv 2)))))) (pss_one (ps_raise rfl (takes_of rfl rfl rfl rfl) (pmk_oex T.x_InvalidMany T.xi_InvalidMany T.xt_CoreError___init__ (ok_CoreError___init__ T) (hr.mono (by decide)) T.b_CoreError___init__ .nil passL (by rfl) T.g_InvalidMany (pa_cons (pv 0) pa_nil)))) pss_nil)), ?_⟩
    refine w_in (σ := [some _, some _, some _]) rfl ?_
    repeat (walk_at "st")
    refine w_or ?_
    repeat (walk_at "st")
    refine ⟨v, rfl, hk, ?_⟩
    have bad : isMany lo hi v = false → _ := fun e => w_core T.x_InvalidMany T.xn_InvalidMany_value (k2 e)
    cases v with
    | int n =>
      show ∃ c, V.bl (decide (0 ≤ n)) = .bl c ∧ _
      repeat (walk_at "st")
      refine ifS' (fun h0 => ?_) (fun h0 => ?_)
      · repeat (walk_at "st")
        refine ifS (fun h1 => ?_) (fun h1 => ?_)
        · repeat (walk_at "st")
          refine ifS' (fun h2 => ?_) (fun h2 => ?_)
          · repeat (walk_at "st")
            exact k1 (isMany_of h0 h1 h2)
          · repeat (walk_at "st")
            exact bad (by simp [isMany, h2])
        · repeat (walk_at "st")
          exact bad (by simp [isMany, h1])
      · repeat (walk_at "st")
        exact bad (by simp [isMany, h0])
    | _ =>
      refine ⟨_, rfl, ?_⟩
      show if (!false) = true then _ else _
      repeat (walk_at "st")
      exact bad rfl
theorem ok_is_word (T : Txt K mg a) : FnOk P w K mg base (L2.CX P w) 3 a.f_is_word a.d_is_word ["value"] (spIsWord K) := by
  refine T.F_is_word.okX sc_is_word (fun vs H Q E h => ?_) (fun cdv A outer s H vs Q E hr h => ?_)
  · obtain ⟨_, rfl, _⟩ := h
    rfl
  · obtain ⟨v, rfl, hk, k⟩ := h
    refine ⟨_, (pss_one (ps_ret (pe_and (pe_call (ok_is_count T) (hr.mono (by decide)) (by rfl) T.m_is_count T.F_is_count.kp T.b_is_count .nil passL (pa_cons (pv 0) pa_nil)) (pe_one (pe_cmpR op_lt (pv 0) (pe_glob (v := .int 65536) (by rfl) T.v_MOST_WORD ⟨_, rfl⟩) (nomark _)))))), ?_⟩
    refine w_in (σ := [some _]) rfl ?_
    repeat (walk_at "st")
    refine ⟨v, rfl, hk, ?_⟩
    cases v with
    | int n =>
      show ∃ c, V.bl (decide (0 ≤ n)) = .bl c ∧ _
      refine ⟨_, rfl, ifS (fun h => ?_) (fun h => ?_)⟩
      · repeat (walk_at "st")
        have e : isWord (.int n) = decide (n < 65536) := by simp [isWord, h]
        rw [← e]
        exact k
      · have e : isWord (.int n) = false := by simp [isWord, h]
        rw [e] at k
        exact k
    | _ => exact ⟨_, rfl, iteF k⟩
theorem ok_is_place (T : Txt K mg a) : FnOk P w K mg base (L2.CX P w) 3 a.f_is_place a.d_is_place ["value"] (spIsPlace K) := by
  refine T.F_is_place.okX sc_is_place (fun vs H Q E h => ?_) (fun cdv A outer s H vs Q E hr h => ?_)
  · obtain ⟨_, rfl, _⟩ := h
    rfl
  · obtain ⟨n, rfl, h0, q⟩ := h
    refine ⟨_, (pss_one (ps_ret (pe_and (pe_call (ok_is_count T) (hr.mono (by decide)) (by rfl) T.m_is_count T.F_is_count.kp T.b_is_count .nil passL (pa_cons (pv 0) pa_nil)) (pe_one (pe_cmpR op_lt (pv 0) (pe_glob (v := .int 1024) (by rfl) T.v_MOST_PLACE ⟨_, rfl⟩) (nomark _)))))), ?_⟩
    refine w_in (σ := [some _]) rfl ?_
    repeat (walk_at "st")
    refine ⟨_, rfl, kint_int n, ?_⟩
    show ∃ c, V.bl (decide (0 ≤ n)) = .bl c ∧ _
    repeat (walk_at "st")
    refine ifT h0 ?_
    repeat (walk_at "st")
    exact q
theorem ok_want_word (T : Txt K mg a) : FnOk P w K mg base (L2.CX P w) 4 a.f_want_word a.d_want_word ["value"] (spWantWord K a.c_InvalidWord) := by
  refine T.F_want_word.okX sc_want_word (fun vs H Q E h => ?_) (fun cdv A outer s H vs Q E hr h => ?_)
  · obtain ⟨_, rfl, _⟩ := h
    rfl
  · obtain ⟨v, rfl, hk, k1, k2⟩ := h
    refine ⟨_, (pss_one (ps_if (pt_not (pt_val (pe_call (ok_is_word T) (hr.mono (by decide)) (by rfl) T.m_is_word T.F_is_word.kp T.b_is_word .nil passL (pa_cons (pv 0) pa_nil)))) (pss_one (ps_raise rfl (takes_of rfl rfl rfl rfl) (pmk_oex T.x_InvalidWord T.xi_InvalidWord T.xt_CoreError___init__ (ok_CoreError___init__ T) (hr.mono (by decide)) T.b_CoreError___init__ .nil passL (by rfl) T.g_InvalidWord (pa_cons (pv 0) pa_nil)))) pss_nil)), ?_⟩
    refine w_in (σ := [some _]) rfl ?_
    repeat (walk_at "st")
    refine ⟨v, rfl, hk, ?_⟩
    repeat (walk_at "st")
    cases e : isWord v with
    | true =>
      repeat (walk_at "st")
      exact k1 e
    | false =>
      repeat (walk_at "st")
      exact w_core T.x_InvalidWord T.xn_InvalidWord_value (k2 e)
theorem ok_want_place (T : Txt K mg a) : FnOk P w K mg base (L2.CX P w) 4 a.f_want_place a.d_want_place ["value"] (spWantPlace0 K) := by
  refine T.F_want_place.okX sc_want_place (fun vs H Q E h => ?_) (fun cdv A outer s H vs Q E hr h => ?_)
  · obtain ⟨_, rfl, _⟩ := h
    rfl
  · obtain ⟨n, rfl, h0, h1, q⟩ := h
    refine ⟨_, (pss_one (ps_if (pt_not (pt_val (pe_call (ok_is_place T) (hr.mono (by decide)) (by rfl) T.m_is_place T.F_is_place.kp T.b_is_place .nil passL (pa_cons (pv 0) pa_nil)))) (pss_one ps_never) pss_nil)), ?_⟩
    refine w_in (σ := [some _]) rfl ?_
    repeat (walk_at "st")
    refine ⟨n, rfl, h0, ?_⟩
    repeat (walk_at "st")
    refine ifT' h1 ?_
    repeat (walk_at "st")
    exact q
theorem ok_want_kept_page (T : Txt K mg a) : FnOk P w K mg base (L2.CX P w) 3 a.f_want_kept_page a.d_want_kept_page ["value"] (spWantPage K) := by
  refine T.F_want_kept_page.okX sc_want_kept_page (fun vs H Q E h => ?_) (fun cdv A outer s H vs Q E hr h => ?_)
  · obtain ⟨_, rfl, _⟩ := h
    rfl
  · obtain ⟨n, rfl, h0, h1, q⟩ := h
    refine ⟨_, (pss_one (ps_if (PW.pt (pw_or (pt_not (pt_val (pe_call (ok_is_count T) (hr.mono (by decide)) (by rfl) T.m_is_count T.F_is_count.kp T.b_is_count .nil passL (pa_cons (pv 0) pa_nil)))) (pw_or1 (pt_cmpR op_ge (pv 0) (pe_glob (v := .int 256) (by rfl) T.v_MOST_KEPT_PAGE ⟨_, rfl⟩) (nomark _))))) (pss_one ps_never) pss_nil)), ?_⟩
    refine w_in (σ := [some _]) rfl ?_
    repeat (walk_at "st")
    refine w_or ?_
    repeat (walk_at "st")
    refine ⟨_, rfl, kint_int n, ?_⟩
    show ∃ c, V.bl (decide (0 ≤ n)) = .bl c ∧ _
    repeat (walk_at "st")
    refine ifT' h0 ?_
    repeat (walk_at "st")
    refine ifF (by omega) ?_
    repeat (walk_at "st")
    exact q
theorem ok_want_entry_place (T : Txt K mg a) : FnOk P w K mg base (L2.CX P w) 4 a.f_want_entry_place a.d_want_entry_place ["value"] (spWantEntry K) := by
  refine T.F_want_entry_place.okX sc_want_entry_place (fun vs H Q E h => ?_) (fun cdv A outer s H vs Q E hr h => ?_)
  · obtain ⟨_, rfl, _⟩ := h
    rfl
  · obtain ⟨n, rfl, h0, h1, q⟩ := h
    refine ⟨_, (pss_one (ps_if (PW.pt (pw_or (pt_not (pt_val (pe_call (ok_is_place T) (hr.mono (by decide)) (by rfl) T.m_is_place T.F_is_place.kp T.b_is_place .nil passL (pa_cons (pv 0) pa_nil)))) (pw_or1 (pt_cmpR op_ge (pv 0) (pe_glob (v := .int 960) (by rfl) T.v_MEMORY_END ⟨_, rfl⟩) (nomark _))))) (pss_one ps_never) pss_nil)), ?_⟩
    refine w_in (σ := [some _]) rfl ?_
    repeat (walk_at "st")
    refine w_or ?_
    repeat (walk_at "st")
    refine ⟨n, rfl, h0, ?_⟩
    repeat (walk_at "st")
    refine ifT' (by omega) ?_
    repeat (walk_at "st")
    refine ifF (by omega) ?_
    repeat (walk_at "st")
    exact q
theorem ok_Buffer___init__ (T : Txt K mg a) : FnOk P w K mg base (L2.CX P w) 4 a.f_Buffer___init__ a.d_Buffer___init__ ["self", "many"] (spBInit a.c_Buffer) := by
  refine T.F_Buffer___init__.okX sc_Buffer___init__ (fun vs H Q E h => ?_) (fun cdv A outer s H vs Q E hr h => ?_)
  · obtain ⟨_, _, _, rfl, _⟩ := h
    rfl
  · obtain ⟨x, dx, m, rfl, hx, h1, h2, q⟩ := h
    refine ⟨_, (pss_cons (ps_expr (pe_call (ok_want_many T) (hr.mono (by decide)) (by rfl) T.m_want_many T.F_want_many.kp T.b_want_many .nil passL (pa_cons (pv 1) (pa_cons pe_int (pa_cons (pe_glob (v := .int 16) (by rfl) T.v_MOST_ENTRIES ⟨_, rfl⟩) pa_nil)))))
      (pss_cons (ps_fld (pv 0) (pv 1) rfl)
      (pss_one (ps_fld (pv 0) (pe_lst pa_nil) rfl)))), ?_⟩
    refine w_in (σ := [some _, some _]) rfl ?_
    repeat (walk_at "st")
    refine w_wantMany (by omega) h1 h2 ?_
    repeat (walk_at "st")
    intro l nl
    repeat (walk_at "st")
    have hlx : l ≠ x := (ne_of_none upd_same nl).symm
    exact q _ (Chg.upd (Chg.same (Chg.refl.upd) (same_new nl))) ⟨dx, l, upd_same, [], (upd_ne hlx).trans upd_same, fun e z => (by cases z), rfl⟩
theorem ok_Buffer_most (T : Txt K mg a) : FnOk P w K mg base (L2.CX P w) 1 a.f_Buffer_most a.d_Buffer_most ["self"] (spBMost a.c_Buffer) := by
  refine T.F_Buffer_most.okX sc_Buffer_most (fun vs H Q E h => ?_) (fun cdv A outer s H vs Q E hr h => ?_)
  · obtain ⟨_, _, _, rfl, _⟩ := h
    rfl
  · obtain ⟨x, m, rows, rfl, ⟨dx, l, hx, hl⟩, q⟩ := h
    refine ⟨_, (pss_one (ps_ret (pe_fld (pv 0) rfl))), ?_⟩
    refine w_in (σ := [some _]) rfl ?_
    repeat (walk_at "st")
    exact q
theorem ok_Buffer_rows (T : Txt K mg a) : FnOk P w K mg base (L2.CX P w) 1 a.f_Buffer_rows a.d_Buffer_rows ["self"] (spBRows a.c_Buffer) := by
  refine T.F_Buffer_rows.okX sc_Buffer_rows (fun vs H Q E h => ?_) (fun cdv A outer s H vs Q E hr h => ?_)
  · obtain ⟨_, _, _, rfl, _⟩ := h
    rfl
  · obtain ⟨x, m, rows, rfl, ⟨dx, l, hx, ⟨es, hl, hes, rfl⟩⟩, q⟩ := h
    refine ⟨_, (pss_one (ps_ret (pe_callTy call_list_of (by rfl) T.z_list (by decide +kernel) (pa_cons (pe_fld (pv 0) rfl) pa_nil)))), ?_⟩
    refine w_in (σ := [some _]) rfl ?_
    repeat (walk_at "st")
    intro p np
    exact q p _ (same_new np) np ⟨es, upd_same, fun e he => same_new np _ _ (hes e he), rfl⟩
theorem ok_entry_kept (T : Txt K mg a) : FnOk P w K mg base (L2.CX P w) 1 a.f_entry_kept a.d_entry_kept ["rows", "page"] (spKept K) := by
  refine T.F_entry_kept.okX sc_entry_kept (fun vs H Q E h => ?_) (fun cdv A outer s H vs Q E hr h => ?_)
  · obtain ⟨_, _, _, rfl, _⟩ := h
    rfl
  · obtain ⟨l, page, rows, rfl, ⟨es, hl, hes, rfl⟩, q⟩ := h
    refine ⟨_, (pss_cons (ps_for (passes_of rfl) rfl (pi_list (pv 0)) (pg_name (i := 2) sc_entry_kept.nd rfl (Or.inl rfl))
      (pss_one (ps_if (pt_cmpR op_eq (pe_ix ix_tup (pv 2) pe_int (fun _ _ => rfl)) (pv 1) (nomark _)) (pss_one (ps_ret (pv 2))) pss_nil)))
      (pss_one (ps_ret pe_non))), ?_⟩
    refine w_in (σ := [some _, some _, none]) rfl ?_
    repeat (walk_at "st")
    refine w_list (K := K) (fun i σ H' => H' = H ∧ (∃ v2, σ = [some (.ref l), some (.int page), v2]) ∧ ∀ e ∈ es.take i, (e.2.1 == page) = false) (SqL.of hl) ⟨rfl, ⟨none, rfl⟩, fun e h => by cases h⟩ (fun i σ H' _ ⟨e, _⟩ => e ▸ SqL.of hl) (fun i v σ H' hv ⟨e, ⟨v2, e2⟩, hn⟩ => ?_) (fun σ H' ⟨e, ⟨v2, e2⟩, hn⟩ => ?_)
    · subst e e2
      obtain ⟨e, he, hin, rfl⟩ := map_at hv
      have hr := hes e hin
      have hix : atI (rowV e.2) 0 = some (.int e.2.1) := rfl
      repeat (walk_at "st")
      rw [dec_vint]
      refine ifS (fun h => ?_) (fun h => ?_)
      · repeat (walk_at "st")
        refine q _ (.inr ⟨e.2, e.1, ?_, rfl, hr⟩)
        have hi := (List.getElem?_eq_some_iff.mp he).1
        rw [show es = es.take i ++ e :: es.drop (i + 1) by
          rw [← (List.getElem?_eq_some_iff.mp he).2, ← List.drop_eq_getElem_cons hi, List.take_append_drop]]
        rw [List.map_append, List.find?_append, show List.find? (fun r : R4 => r.1 == page) ((es.take i).map (·.2)) = none by
          rw [List.find?_eq_none]
          intro r hr'
          obtain ⟨e', he', rfl⟩ := List.mem_map.mp hr'
          simp [hn e' he']]
        simp [h]
      · repeat (walk_at "st")
        refine ⟨rfl, ⟨_, rfl⟩, fun e' he' => ?_⟩
        rw [List.take_succ, he] at he'
        rcases List.mem_append.mp he' with h' | h'
        · exact hn e' h'
        · have : e' = e := by simpa using h'
          rw [this]
          simpa using h
    · subst e e2
      repeat (walk_at "st")
      refine q _ (.inl ⟨?_, rfl⟩)
      rw [List.find?_eq_none]
      intro r hr'
      obtain ⟨e', he', rfl⟩ := List.mem_map.mp hr'
      rw [List.length_map, List.take_length] at hn
      simp [hn e' he']
theorem ok_Buffer_found (T : Txt K mg a) : FnOk P w K mg base (L2.CX P w) 4 a.f_Buffer_found a.d_Buffer_found ["self", "page"] (spBFound a.c_Buffer) := by
  refine T.F_Buffer_found.okX sc_Buffer_found (fun vs H Q E h => ?_) (fun cdv A outer s H vs Q E hr h => ?_)
  · obtain ⟨_, _, _, _, rfl, _⟩ := h
    rfl
  · obtain ⟨x, m, page, rows, rfl, ⟨dx, l, hx, hl⟩, h0, h1, q⟩ := h
    refine ⟨_, (pss_cons (ps_expr (pe_call (ok_want_kept_page T) (hr.mono (by decide)) (by rfl) T.m_want_kept_page T.F_want_kept_page.kp T.b_want_kept_page .nil passL (pa_cons (pv 1) pa_nil)))
      (pss_one (ps_ret (pe_call (ok_entry_kept T) (hr.mono (by decide)) (by rfl) T.m_entry_kept T.F_entry_kept.kp T.b_entry_kept .nil passL (pa_cons (pe_fld (pv 0) rfl) (pa_cons (pv 1) pa_nil)))))), ?_⟩
    refine w_in (σ := [some _, some _]) rfl ?_
    repeat (walk_at "st")
    refine ⟨page, rfl, h0, h1, ?_⟩
    repeat (walk_at "st")
    exact ⟨l, page, rows, rfl, hl, q⟩
theorem ok_Buffer_entered (T : Txt K mg a) : FnOk P w K mg base (L2.CX P w) 5 a.f_Buffer_entered a.d_Buffer_entered ["self", "page", "first", "second", "word"] (spBEntered a.c_Buffer) := by
  refine T.F_Buffer_entered.okX sc_Buffer_entered (fun vs H Q E h => ?_) (fun cdv A outer s H vs Q E hr h => ?_)
  · obtain ⟨_, _, _, _, _, _, _, rfl, _⟩ := h
    rfl
  · obtain ⟨x, m, r1, r2, r3, r4, rows, rfl, ⟨dx, l, hx, ⟨es, hl, hes, rfl⟩⟩, hlen, a0, a1, b0, b1, c0, c1, hd, q⟩ := h
    refine ⟨_, (pss_cons (ps_expr (pe_call (ok_want_kept_page T) (hr.mono (by decide)) (by rfl) T.m_want_kept_page T.F_want_kept_page.kp T.b_want_kept_page .nil passL (pa_cons (pv 1) pa_nil)))
      (pss_cons (ps_expr (pe_call (ok_want_entry_place T) (hr.mono (by decide)) (by rfl) T.m_want_entry_place T.F_want_entry_place.kp T.b_want_entry_place .nil passL (pa_cons (pv 2) pa_nil)))
      (pss_cons (ps_expr (pe_call (ok_want_entry_place T) (hr.mono (by decide)) (by rfl) T.m_want_entry_place T.F_want_entry_place.kp T.b_want_entry_place .nil passL (pa_cons (pv 3) pa_nil)))
      (pss_cons (ps_expr (pe_call (ok_want_word T) (hr.mono (by decide)) (by rfl) T.m_want_word T.F_want_word.kp T.b_want_word .nil passL (pa_cons (pv 4) pa_nil)))
      (pss_cons (ps_setLc (i := 5) (own := [("row", 6)]) (g := gName 6) rfl sc_Buffer_entered.nd rfl rfl (sw_true rfl rfl rfl (by decide +kernel)) (pi_list (pe_fld (pv 0) rfl)) (blkOk_by (N := ["self", "page", "first", "second", "word", "left", "row"]) (sc := defScope s_Buffer_entered) (by decide +kernel)) (fun _ _ _ _ _ => (pg_name (i := 6) sc_Buffer_entered.nd rfl (Or.inl rfl))) (fun _ _ _ _ _ => (pts_one (pt_cmpR op_ne (pe_ix (ixTK (K := K)) (pv 6) pe_int (fun _ _ => rfl)) (pv 1) (nomark _)))) (fun _ _ _ _ _ => (pv 6)))
      (Evl.pss_cut (ps_if (pt_cmpR op_eq (pe_callB call_len_seq (by rfl) T.z_len (by decide +kernel) (pa_cons (pv 5) pa_nil)) (pe_fld (pv 0) rfl) (nomark _)) (pss_one (ps_set (i := 5) sc_Buffer_entered.nd rfl (Or.inl rfl) (pe_slice sl_list (pv 5) (po_some pe_int) po_none))) pss_nil)
      (pss_one (ps_fld (pv 0) (pe_op op_cat (pv 5) (pe_lst (pa_cons (pe_tup (pa_cons (pv 1) (pa_cons (pv 2) (pa_cons (pv 3) (pa_cons (pv 4) pa_nil))))) pa_nil))) rfl)))))))), ?_⟩
    refine w_in (σ := [some _, some _, some _, some _, some _, none, none]) rfl ?_
    repeat (walk_at "st")
    refine ⟨r1, rfl, a0, a1, ?_⟩
    repeat (walk_at "st")
    refine ⟨r2, rfl, b0, b1, ?_⟩
    repeat (walk_at "st")
    refine ⟨r3, rfl, c0, c1, ?_⟩
    repeat (walk_at "st")
    refine w_wantWord hd ?_
    repeat (walk_at "st")
    have hlen' : es.length ≤ 100 := by simpa using hlen
    refine' lcF_inv (K := K) es (fun e => V.ref e.1) (fun e => if e.2.1 != r1 then some (V.ref e.1) else none) ?v ?h ?z ?t ?q
    case v =>
      intro R r
      repeat (walk_at "st")
      exact r
    case h => walk_at "sq"
    case z => omega
    case t =>
      intro e he H' R S s1 k1 k2
      have hr := s1 _ _ (hes e he)
      have hix : atI (rowV e.2) 0 = some (.int e.2.1) := rfl
      repeat (walk_at "st")
      rw [dec_vint]
      refine ifS' (fun h => ?_) (fun h => ?_)
      · exact k2 (by simp [h]) _ (Same.refl _)
      · repeat (walk_at "st")
        exact k1 _ (by simp [h]) _ (Same.refl _)
    case q =>
      intro D H2 s2 nD hD
      rw [filterMap_if] at hD
      have hR := RowsAt.filter (fun r : R4 => r.1 != r1) hD fun e he => s2 _ _ (hes e he)
      have hx2 := s2 _ _ hx
      repeat (walk_at "st")
      refine w_cut (fun σ' H' => ∃ D2, σ' = [some (.ref x), some (.int r1), some (.int r2), some (.int r3), some (.int r4), some (.ref D2), none] ∧ Same H H' ∧ RowsAt H' D2 (if (((es.map (·.2)).filter fun r : R4 => r.1 != r1).length : Int) = m then ((es.map (·.2)).filter fun r : R4 => r.1 != r1).drop 1 else (es.map (·.2)).filter fun r : R4 => r.1 != r1)) ?_ ?_
      · obtain ⟨zs, hl1, hes1, e1⟩ := id hR
        repeat (walk_at "st")
        rw [dec_vint]
        have ez : ((zs.map fun e => V.ref e.1).length : Int) = (((es.map (·.2)).filter fun r : R4 => r.1 != r1).length : Int) := by rw [← e1]; simp
        rw [ez]
        refine ifS (fun h => ?_) (fun h => ?_)
        · repeat (walk_at "st")
          intro t nt
          rw [cut_from (by omega)]
          repeat (walk_at "st")
          refine ⟨t, rfl, s2.trans (same_new nt), zs.drop 1, ?_, fun e he => same_new nt _ _ (hes1 e (List.mem_of_mem_drop he)), ?_⟩
          · rw [upd_same, List.map_drop]
            rfl
          · rw [if_pos h, ← e1, List.map_drop]
        · repeat (walk_at "st")
          refine ⟨D, rfl, s2, ?_⟩
          rw [if_neg h]
          exact hR
      · intro σ' H' ⟨D2, e, s3, hR2⟩
        subst e
        obtain ⟨es2, hl2, hes2, e2⟩ := hR2
        have hx3 := s3 _ _ hx
        have hz2 : es2.length ≤ 100 := by
          have e3 := congrArg List.length e2
          rw [List.length_map] at e3
          have hf := List.length_filter_le (fun r : R4 => r.1 != r1) (es.map (·.2))
          rw [List.length_map] at hf
          split at e3
          · rw [List.length_drop] at e3
            omega
          · omega
        repeat (walk_at "st")
        intro t nt
        repeat (walk_at "st")
        intro u nu
        repeat (walk_at "st")
        intro v nv
        repeat (walk_at "st")
        have htu : t ≠ u := ne_of_none upd_same nu
        have s4 := fun o : HO => same_upd (o := o) (same_upd (same_new nt) nu) nv
        have hvx : v ≠ x := (ne_of_none (same_upd (same_new nt) nu _ _ hx3) nv).symm
        have hux : u ≠ x := (ne_of_none (same_new nt _ _ hx3) nu).symm
        have htx : t ≠ x := (ne_of_none hx3 nt).symm
        refine q _ ((Same.chg (s3.trans (s4 _))).upd) ⟨dx, v, upd_same, es2 ++ [(t, (r1, r2, r3, r4))], (upd_ne hvx).trans ?_, fun e he => ?_, ?_⟩
        · rw [upd_same, List.map_append]
          rfl
        · rcases List.mem_append.mp he with he | he
          · have h5 := hes2 e he
            exact (upd_ne (ne_of h5 hx3 (by intro z; cases z))).trans (s4 _ _ _ h5)
          · obtain rfl : e = (t, (r1, r2, r3, r4)) := by simpa using he
            refine (upd_ne htx).trans ((upd_ne ?_).trans ((upd_ne htu).trans upd_same))
            exact ne_of_none ((upd_ne htu).trans upd_same) nv
        · rw [List.map_append, e2]
          rfl
theorem ok_Buffer_stored (T : Txt K mg a) : FnOk P w K mg base (L2.CX P w) 5 a.f_Buffer_stored a.d_Buffer_stored ["self", "place"] (spBStored a.c_Buffer) := by
  refine T.F_Buffer_stored.okX sc_Buffer_stored (fun vs H Q E h => ?_) (fun cdv A outer s H vs Q E hr h => ?_)
  · obtain ⟨_, _, _, _, rfl, _⟩ := h
    rfl
  · obtain ⟨x, m, p, rows, rfl, ⟨dx, l, hx, ⟨es, hl, hes, rfl⟩⟩, hlen, a0, a1, q⟩ := h
    refine ⟨_, (pss_cons (ps_expr (pe_call (ok_want_place T) (hr.mono (by decide)) (by rfl) T.m_want_place T.F_want_place.kp T.b_want_place .nil passL (pa_cons (pv 1) pa_nil)))
      (pss_one (ps_fld (pv 0) (pe_lc (own := [("row", 2)]) (g := gName 2) rfl sc_Buffer_stored.nd (pi_list (pe_fld (pv 0) rfl)) (blkOk_by (N := ["self", "place", "row"]) (sc := defScope s_Buffer_stored) (by decide +kernel)) (fun _ _ _ _ _ => (pg_name (i := 2) sc_Buffer_stored.nd rfl (Or.inl rfl))) (fun _ _ _ _ _ => (pts_one (pt_cmpR (notInK (K := K)) (pv 1) (pe_tup (pa_cons (pe_ix (ixTK (K := K)) (pv 2) pe_int (fun _ _ => rfl)) (pa_cons (pe_ix (ixTK (K := K)) (pv 2) pe_int (fun _ _ => rfl)) pa_nil))) (by rfl)))) (fun _ _ _ _ _ => (pv 2))) rfl))), ?_⟩
    refine w_in (σ := [some _, some _, none]) rfl ?_
    repeat (walk_at "st")
    refine ⟨p, rfl, a0, a1, ?_⟩
    repeat (walk_at "st")
    have hlen' : es.length ≤ 100 := by simpa using hlen
    refine' lcF_inv (K := K) es (fun e => V.ref e.1) (fun e => if !leans p e.2 then some (V.ref e.1) else none) ?v ?h ?z ?t ?q
    case v =>
      intro R r
      repeat (walk_at "st")
      exact r
    case h => walk_at "sq"
    case z => omega
    case t =>
      intro e he H' R S s1 k1 k2
      have hr := s1 _ _ (hes e he)
      have hi1 : atI (rowV e.2) 1 = some (.int e.2.2.1) := rfl
      have hi2 : atI (rowV e.2) 2 = some (.int e.2.2.2.1) := rfl
      repeat (walk_at "st")
      intro t nt
      refine w_inT (SqT.of upd_same) rfl rfl ?_
      have he : (if true = true then !inV (V.int p) [.int e.2.2.1, .int e.2.2.2.1] else inV (V.int p) [.int e.2.2.1, .int e.2.2.2.1]) = !leans p e.2 := by
        show (!inV (V.int p) [.int e.2.2.1, .int e.2.2.2.1]) = !leans p e.2
        unfold leans
        congr 1
        simp [inV]
        rfl
      rw [he]
      repeat (walk_at "st")
      refine ifB (fun h => ?_) (fun h => ?_)
      · repeat (walk_at "st")
        exact k1 _ (by rw [h]; rfl) _ (same_new nt)
      · exact k2 (by rw [h]; rfl) _ (same_new nt)
    case q =>
      intro D H2 s2 nD hD
      rw [filterMap_if] at hD
      have hR := RowsAt.filter (fun r : R4 => !leans p r) hD fun e he => s2 _ _ (hes e he)
      have hx2 := s2 _ _ hx
      repeat (walk_at "st")
      refine q _ ((Same.chg s2).upd) ⟨dx, D, upd_same, ?_⟩
      exact hR.upd hx2
theorem ok_Buffer_out (T : Txt K mg a) : FnOk P w K mg base (L2.CX P w) 3 a.f_Buffer_out a.d_Buffer_out ["self", "position"] (spBOut a.c_Buffer) := by
  refine T.F_Buffer_out.okX sc_Buffer_out (fun vs H Q E h => ?_) (fun cdv A outer s H vs Q E hr h => ?_)
  · obtain ⟨_, _, _, _, rfl, _⟩ := h
    rfl
  · obtain ⟨x, m, p, rows, rfl, ⟨dx, l, hx, ⟨es, hl, hes, rfl⟩⟩, hlen, a0, q⟩ := h
    refine ⟨_, (pss_cons (ps_if (pt_not (pt_val (pe_call (ok_is_count T) (hr.mono (by decide)) (by rfl) T.m_is_count T.F_is_count.kp T.b_is_count .nil passL (pa_cons (pv 1) pa_nil)))) (pss_one ps_never) pss_nil)
      (pss_one (ps_fld (pv 0) (pe_op op_cat (pe_slice sl_list (pe_fld (pv 0) rfl) po_none (po_some (pv 1))) (pe_slice sl_list (pe_fld (pv 0) rfl) (po_some (pe_op op_add (pv 1) pe_int)) po_none)) rfl))), ?_⟩
    refine w_in (σ := [some _, some _]) rfl ?_
    repeat (walk_at "st")
    refine ⟨_, rfl, kint_int p, ?_⟩
    show ∃ c, V.bl (decide (0 ≤ p)) = .bl c ∧ _
    repeat (walk_at "st")
    refine ifT' a0 ?_
    repeat (walk_at "st")
    intro t nt
    rw [cut_to a0]
    repeat (walk_at "st")
    intro u nu
    rw [cut_from (by omega)]
    have hlen' : es.length ≤ 100 := by simpa using hlen
    repeat (walk_at "st")
    intro v nv
    repeat (walk_at "st")
    have s4 := fun o : HO => same_upd (o := o) (same_upd (same_new nt) nu) nv
    have hvx : v ≠ x := (ne_of_none (same_upd (same_new nt) nu _ _ hx) nv).symm
    refine q _ ((Same.chg (s4 _)).upd) ⟨dx, v, upd_same, es.take p.toNat ++ es.drop (p + 1).toNat, (upd_ne hvx).trans ?_, fun e he => ?_, ?_⟩
    · rw [upd_same, List.map_append, List.map_take, List.map_drop]
    · have h5 : H e.1 = some (.tup (rowV e.2)) := by
        rcases List.mem_append.mp he with he | he
        · exact hes e (List.mem_of_mem_take he)
        · exact hes e (List.mem_of_mem_drop he)
      exact (upd_ne (ne_of h5 hx (by intro z; cases z))).trans (s4 _ _ _ h5)
    · rw [List.map_append, List.map_take, List.map_drop]
theorem ok_Buffer_cleared (T : Txt K mg a) : FnOk P w K mg base (L2.CX P w) 1 a.f_Buffer_cleared a.d_Buffer_cleared ["self"] (spBClear a.c_Buffer) := by
  refine T.F_Buffer_cleared.okX sc_Buffer_cleared (fun vs H Q E h => ?_) (fun cdv A outer s H vs Q E hr h => ?_)
  · obtain ⟨_, _, _, rfl, _⟩ := h
    rfl
  · obtain ⟨x, m, rows, rfl, ⟨dx, l, hx, hl⟩, q⟩ := h
    refine ⟨_, (pss_one (ps_fld (pv 0) (pe_lst pa_nil) rfl)), ?_⟩
    refine w_in (σ := [some _]) rfl ?_
    repeat (walk_at "st")
    intro t nt
    repeat (walk_at "st")
    have htx : t ≠ x := (ne_of_none hx nt).symm
    exact q _ ((Same.chg (same_new nt)).upd) ⟨dx, t, upd_same, [], (upd_ne htx).trans upd_same, fun e z => (by cases z), rfl⟩
theorem ok_Buffer_copy (T : Txt K mg a) : FnOk P w K mg base (L2.CX P w) 6 a.f_Buffer_copy a.d_Buffer_copy ["self"] (spBCopy a.c_Buffer) := by
  refine T.F_Buffer_copy.okX sc_Buffer_copy (fun vs H Q E h => ?_) (fun cdv A outer s H vs Q E hr h => ?_)
  · obtain ⟨_, _, _, rfl, _⟩ := h
    rfl
  · obtain ⟨x, m, rows, rfl, ⟨dx, l, hx, ⟨es, hl, hes, rfl⟩⟩, h1, h2, q⟩ := h
    refine ⟨_, (pss_cons (ps_set (i := 1) sc_Buffer_copy.nd rfl (Or.inl rfl) (pe_make T.k_Buffer (ok_Buffer___init__ T) (hr.mono (by decide)) (by rfl) T.g_Buffer T.b_Buffer___init__ .nil passL (pa_cons (pe_fld (pv 0) rfl) pa_nil)))
      (pss_cons (ps_fld (pv 1) (pe_callTy call_list_of (by rfl) T.z_list (by decide +kernel) (pa_cons (pe_fld (pv 0) rfl) pa_nil)) rfl)
      (pss_one (ps_ret (pv 1))))), ?_⟩
    refine w_in (σ := [some _, none]) rfl ?_
    repeat (walk_at "st")
    intro y dy ny nd ne
    refine ⟨y, dy, m, rfl, upd_same, h1, h2, fun H1 c1 ⟨dy', t', w1, w2⟩ => ⟨rfl, ?_⟩⟩
    have s1 : Same H H1 := Same.made ny nd c1
    have hx1 := s1 _ _ hx
    have hl1 := s1 _ _ hl
    have hyx : x ≠ y := ne_of_none hx ny
    repeat (walk_at "st")
    intro t nt
    repeat (walk_at "st")
    have hty : t ≠ y := (ne_of_none w1 nt).symm
    refine q y _ (same_updF (same_upd s1 nt) ny) ny ⟨dy', t, upd_same, es, (upd_ne hty).trans upd_same, fun e he => ?_, rfl⟩
    have h5 := hes e he
    exact (upd_ne (ne_of_none h5 ny)).trans (same_new nt _ _ (s1 _ _ h5))
theorem ok_Buffer___eq__ (T : Txt K mg a) : FnOk P w K mg base (L2.CX P w) 6 a.f_Buffer___eq__ a.d_Buffer___eq__ ["self", "other"] (spBEq a.c_Buffer) := by
  refine T.F_Buffer___eq__.okX sc_Buffer___eq__ (fun vs H Q E h => ?_) (fun cdv A outer s H vs Q E hr h => ?_)
  · obtain ⟨_, _, _, _, rfl, _⟩ := h
    rfl
  · obtain ⟨x, m, rows, y, rfl, ⟨dx, l, hx, hl⟩, hy⟩ := h
    rcases hy with ⟨o, m2, rows2, rfl, ⟨dx2, l2, hx2, hl2⟩, q⟩ | ⟨o, xs, rfl, ho, q⟩
    · refine ⟨_, (pss_cons (ps_if (pt_not (pt_val (pe_callB call_isi (by rfl) T.z_isinstance (by decide +kernel) (pa_cons (pv 1) (pa_cons (pe_glob (v := .ref a.c_Buffer) (by rfl) T.g_Buffer rfl) pa_nil))))) (pss_one (ps_ret pe_bl)) pss_nil)
      (pss_one (ps_ret (pe_and (pe_cmpR op_eq (pe_fld (pv 0) rfl) (pe_fld (pv 1) rfl) (nomark _)) (pe_one (pe_cmpR (op_eqD hr.units) (pe_fld (pv 0) rfl) (pe_fld (pv 1) rfl) (nomark _))))))), ?_⟩
      refine w_in (σ := [some _, some _]) rfl ?_
      repeat (walk_at "st")
      refine ⟨_, _, .ref a.c_Buffer, _, true, rfl, .own _, T.i_Buffer.ty T.c_Buffer hx2, T.io_Buffer, ?_⟩
      repeat (walk_at "st")
      rw [dec_vint]
      refine ifS (fun h => ?_) (fun h => ?_)
      · repeat (walk_at "st")
        refine w_eqDt rowOk.list (rows_dp hl) (rows_dp hl2) ?_
        rw [decide_eq_true h] at q
        exact q
      · rw [decide_eq_false h] at q
        exact q
    · refine ⟨_, (pss_cons (ps_if (pt_not (pt_val (pe_callB call_isi (by rfl) T.z_isinstance (by decide +kernel) (pa_cons (pv 1) (pa_cons (pe_glob (v := .ref a.c_Buffer) (by rfl) T.g_Buffer rfl) pa_nil))))) (pss_one (ps_ret pe_bl)) pss_nil)
      (pss_one (ps_ret (pe_and (pe_cmpR op_eq (pe_fld (pv 0) rfl) (pe_fld (pv 1) rfl) (nomark _)) (pe_one (pe_cmpR (op_eqD hr.units) (pe_fld (pv 0) rfl) (pe_fld (pv 1) rfl) (nomark _))))))), ?_⟩
      refine w_in (σ := [some _, some _]) rfl ?_
      repeat (walk_at "st")
      refine ⟨_, _, .type "list", _, false, rfl, .own _, .base (.lst ho), T.ko_Buffer_list, ?_⟩
      repeat (walk_at "st")
      exact q
theorem ok__law_pot (T : Txt K mg a) : FnOk P w K mg base (L2.CX P w) 1 a.f__law_pot a.d__law_pot ["_law_script", "_law_k"] (spPot K) := by
  refine T.F__law_pot.okX sc__law_pot (fun vs H Q E h => ?_) (fun cdv A outer s H vs Q E hr h => ?_)
  · obtain ⟨_, _, _, rfl, _⟩ := h
    rfl
  · obtain ⟨sa, ns, k, rfl, hS, hk0, hk1, q⟩ := h
    refine ⟨_, (pss_cons (ps_set (i := 2) sc__law_pot.nd rfl (Or.inl rfl) (pe_ifExp (pt_cmpR op_lt (pv 1) (pe_callB call_len_seq (by rfl) T.z_len (by decide +kernel) (pa_cons (pv 0) pa_nil)) (nomark _)) (pe_callB call_abs (by rfl) T.z_abs (by decide +kernel) (pa_cons (pe_ix ix_list (pv 0) (pv 1) (fun _ _ => rfl)) pa_nil)) (pe_op op_add (pe_op op_mul pe_int (pv 1)) pe_int)))
      (pss_cons (ps_set (i := 3) sc__law_pot.nd rfl (Or.inl rfl) (pe_op op_add (pe_op op_mod (pe_callTy call_int1 (by rfl) T.z_int (by decide +kernel) (pa_cons (pe_op op_add (pe_op op_add (pe_op op_mul (pe_op op_mod (pe_callTy call_int1 (by rfl) T.z_int (by decide +kernel) (pa_cons (pv 2) pa_nil)) pe_int) pe_int) (pe_op op_mul pe_int (pv 1))) pe_int) pa_nil)) pe_int) pe_int))
      (pss_one (ps_ret (pe_lst (pa_cons (pe_callB (call_max2 rfl) (by rfl) T.z_max (by decide +kernel) (pa_cons pe_int (pa_cons (pe_op op_sub (pv 2) (pe_op op_pow pe_int pe_int)) pa_nil))) (pa_cons (pv 3) pa_nil))))))), ?_⟩
    refine w_in (σ := [some _, some _, none, none]) rfl ?_
    repeat (walk_at "st")
    refine ifS (fun h => ?_) (fun h => ?_)
    · obtain ⟨n, _, e, _⟩ := atI_ints hk0 h
      repeat (walk_at "st")
      intro p np
      exact q p _ (same_new np) np ⟨_, _, upd_same, by split <;> omega, by omega, by omega⟩
    · repeat (walk_at "st")
      intro p np
      exact q p _ (same_new np) np ⟨_, _, upd_same, by split <;> omega, by omega, by omega⟩
theorem ok__law_draw (T : Txt K mg a) : FnOk P w K mg base (L2.CX P w) 1 a.f__law_draw a.d__law_draw ["_law_pot_here", "_law_many"] spDraw := by
  refine T.F__law_draw.okX sc__law_draw (fun vs H Q E h => ?_) (fun cdv A outer s H vs Q E hr h => ?_)
  · obtain ⟨_, _, rfl, _⟩ := h
    rfl
  · obtain ⟨p, n, rfl, ⟨x, y, hp, hx, hy, hy2⟩, hn, hn2, q⟩ := h
    refine ⟨_, (pss_cons (ps_if (pt_cmpR op_gt (pe_ix ix_list (pv 0) pe_int (fun _ _ => rfl)) pe_int (nomark _)) (pss_cons (ps_asg (pe_callB call_divmod (by rfl) T.z_divmod (by decide +kernel) (pa_cons (pe_ix ix_list (pv 0) pe_int (fun _ _ => rfl)) (pa_cons (pv 1) pa_nil))) (pg_tup rfl (pgs_cons (pg_sub (pv 0) pe_int set_list) (pgs_cons (pg_name (i := 2) sc__law_draw.nd rfl (Or.inl rfl)) pgs_nil))))
      (pss_one (ps_ret (pv 2)))) pss_nil)
      (pss_cons (ps_asg (pe_op op_mod (pe_callTy call_int1 (by rfl) T.z_int (by decide +kernel) (pa_cons (pe_op op_mul (pe_ix ix_list (pv 0) pe_int (fun _ _ => rfl)) pe_int) pa_nil)) pe_int) (pg_sub (pv 0) pe_int set_list))
      (pss_one (ps_ret (pe_op op_mod (pe_callTy call_int1 (by rfl) T.z_int (by decide +kernel) (pa_cons (pe_op op_fdiv (pe_ix ix_list (pv 0) pe_int (fun _ _ => rfl)) pe_int) pa_nil)) (pv 1)))))), ?_⟩
    refine w_in (σ := [some _, some _, none]) rfl ?_
    repeat (walk_at "st")
    refine ifS (fun h => ?_) (fun h => ?_)
    · repeat (walk_at "st")
      refine ⟨⟨hn, by omega⟩, fun t nt => ?_⟩
      repeat (walk_at "st")
      exact q _ _ ((Same.chg (same_new nt)).upd) ⟨_, _, upd_same, Int.ediv_nonneg hx (by omega), hy, hy2⟩ (Int.emod_nonneg _ (by omega)) (Int.emod_lt_of_pos _ hn)
    · repeat (walk_at "st")
      exact q _ _ Chg.refl.upd ⟨_, _, upd_same, hx, by omega, by omega⟩ (Int.emod_nonneg _ (by omega)) (Int.emod_lt_of_pos _ hn)
theorem ok__law_deed_right (T : Txt K mg a) : FnOk P w K mg base (L2.CX P w) 6 a.f__law_deed_right a.d__law_deed_right ["_law_pot_here", "_law_kept", "_law_rows", "_law_many"] (spDeed a.c_Buffer) := by
  refine T.F__law_deed_right.okX sc__law_deed_right (fun vs H Q E h => ?_) (fun cdv A outer s H vs Q E hr h => ?_)
  · obtain ⟨_, _, _, _, _, rfl, _⟩ := h
    rfl
  · obtain ⟨p, b, l, m, rows, rfl, D0, h1, h2, hk, q⟩ := h
    refine ⟨_, (pss_cons (ps_set (i := 4) sc__law_deed_right.nd rfl (Or.inl rfl) (pe_call (ok__law_draw T) (hr.mono (by decide)) (by rfl) T.m__law_draw T.F__law_draw.kp T.b__law_draw .nil passL (pa_cons (pv 0) (pa_cons pe_int pa_nil))))
      (pss_cons (ps_asg (pe_tup (pa_cons (pe_call (ok__law_draw T) (hr.mono (by decide)) (by rfl) T.m__law_draw T.F__law_draw.kp T.b__law_draw .nil passL (pa_cons (pv 0) (pa_cons pe_int pa_nil))) (pa_cons (pe_op op_add pe_int (pe_call (ok__law_draw T) (hr.mono (by decide)) (by rfl) T.m__law_draw T.F__law_draw.kp T.b__law_draw .nil passL (pa_cons (pv 0) (pa_cons pe_int pa_nil)))) pa_nil))) (pg_tup rfl (pgs_cons (pg_name (i := 5) sc__law_deed_right.nd rfl (Or.inr rfl)) (pgs_cons (pg_name (i := 6) sc__law_deed_right.nd rfl (Or.inr rfl)) pgs_nil))))
      (pss_cons (ps_if (pt_cmpR op_lt (pv 4) pe_int (nomark _)) (pss_cons (ps_set (i := 7) sc__law_deed_right.nd rfl (Or.inl rfl) (pe_tup (pa_cons (pv 5) (pa_cons (pe_op op_add pe_int (pe_op op_mod (pv 5) pe_int)) (pa_cons (pe_op op_add pe_int (pe_call (ok__law_draw T) (hr.mono (by decide)) (by rfl) T.m__law_draw T.F__law_draw.kp T.b__law_draw .nil passL (pa_cons (pv 0) (pa_cons pe_int pa_nil)))) (pa_cons (pe_call (ok__law_draw T) (hr.mono (by decide)) (by rfl) T.m__law_draw T.F__law_draw.kp T.b__law_draw .nil passL (pa_cons (pv 0) (pa_cons pe_int pa_nil))) pa_nil))))))
      (pss_cons (ps_set (i := 8) sc__law_deed_right.nd rfl (Or.inl rfl) (pe_methN0 (pv 1) T.c_Buffer T.M_Buffer_entered (ok_Buffer_entered T) (hr.mono (by decide)) T.kb_Buffer_entered_1_word_second_first_page passL  (pk_cons (pe_ix ix_tup (pv 7) pe_int (fun _ _ => rfl)) (pk_cons (pe_ix ix_tup (pv 7) pe_int (fun _ _ => rfl)) (pk_cons (pe_ix ix_tup (pv 7) pe_int (fun _ _ => rfl)) (pk_cons (pe_ix ix_tup (pv 7) pe_int (fun _ _ => rfl)) pk_nil))))))
      (pss_cons (ps_setLc (i := 2) (own := [("_law_one", 12)]) (g := gName 12) rfl sc__law_deed_right.nd rfl rfl (sw_true rfl rfl rfl (by decide +kernel)) (pi_list (pv 2)) (blkOk_by (N := ["_law_pot_here", "_law_kept", "_law_rows", "_law_many", "_law_way", "_law_page", "_law_place", "_law_row", "_law_told", "_law_at", "_law_due", "_law_found", "_law_one"]) (sc := defScope s__law_deed_right) (by decide +kernel)) (fun _ _ _ _ _ => (pg_name (i := 12) sc__law_deed_right.nd rfl (Or.inl rfl))) (fun _ _ _ _ _ => (pts_one (pt_cmpR op_ne (pe_ix (ixTK (K := K)) (pv 12) pe_int (fun _ _ => rfl)) (pv 5) (nomark _)))) (fun _ _ _ _ _ => (pv 12)))
      (pss_one (ps_set (i := 2) sc__law_deed_right.nd rfl (Or.inl rfl) (pe_op op_cat (pe_ifExp (pt_cmpR op_lt (pe_callB call_len_seq (by rfl) T.z_len (by decide +kernel) (pa_cons (pv 2) pa_nil)) (pv 3) (nomark _)) (pv 2) (pe_slice sl_list (pv 2) (po_some pe_int) po_none)) (pe_lst (pa_cons (pv 7) pa_nil)))))))) (pss_one (ps_if (pt_cmpR op_eq (pv 4) pe_int (nomark _)) (pss_cons (ps_set (i := 8) sc__law_deed_right.nd rfl (Or.inl rfl) (pe_meth (pv 1) T.c_Buffer T.M_Buffer_stored (ok_Buffer_stored T) (hr.mono (by decide)) T.b_Buffer_stored .nil passL (pa_cons (pv 6) pa_nil)))
      (pss_one (ps_setLc (i := 2) (own := [("_law_one", 12)]) (g := gName 12) rfl sc__law_deed_right.nd rfl rfl (sw_true rfl rfl rfl (by decide +kernel)) (pi_list (pv 2)) (blkOk_by (N := ["_law_pot_here", "_law_kept", "_law_rows", "_law_many", "_law_way", "_law_page", "_law_place", "_law_row", "_law_told", "_law_at", "_law_due", "_law_found", "_law_one"]) (sc := defScope s__law_deed_right) (by decide +kernel)) (fun _ _ _ _ _ => (pg_name (i := 12) sc__law_deed_right.nd rfl (Or.inl rfl))) (fun _ _ _ _ _ => (pts_one (pt_cmpR (notInK (K := K)) (pv 6) (pe_slice (slTK (K := K)) (pv 12) (po_some pe_int) (po_some pe_int)) (by rfl)))) (fun _ _ _ _ _ => (pv 12))))) (pss_one (ps_if (pt_cmpR op_eq (pv 4) pe_int (nomark _)) (pss_cons (ps_set (i := 9) sc__law_deed_right.nd rfl (Or.inl rfl) (pe_call (ok__law_draw T) (hr.mono (by decide)) (by rfl) T.m__law_draw T.F__law_draw.kp T.b__law_draw .nil passL (pa_cons (pv 0) (pa_cons pe_int pa_nil))))
      (pss_one (ps_par (i := 8) (j := 2) rfl sc__law_deed_right.nd rfl rfl (by decide) rfl rfl (pa_cons (pe_meth (pv 1) T.c_Buffer T.M_Buffer_out (ok_Buffer_out T) (hr.mono (by decide)) T.b_Buffer_out .nil passL (pa_cons (pv 9) pa_nil)) (pa_cons (pe_op op_cat (pe_slice sl_list (pv 2) po_none (po_some (pv 9))) (pe_slice sl_list (pv 2) (po_some (pe_op op_add (pv 9) pe_int)) po_none)) pa_nil)) (by rfl)))) (pss_one (ps_if (PW.pt (pw_and (pt_cmpR op_eq (pv 4) pe_int (nomark _)) (pw_and1 (pt_cmpR op_eq (pe_call (ok__law_draw T) (hr.mono (by decide)) (by rfl) T.m__law_draw T.F__law_draw.kp T.b__law_draw .nil passL (pa_cons (pv 0) (pa_cons pe_int pa_nil))) pe_int (nomark _))))) (pss_one (ps_par (i := 8) (j := 2) rfl sc__law_deed_right.nd rfl rfl (by decide) rfl rfl (pa_cons (pe_meth0 (pv 1) T.c_Buffer T.M_Buffer_cleared (ok_Buffer_cleared T) (hr.mono (by decide)) T.b_Buffer_cleared .nil passL) (pa_cons (pe_lst pa_nil) pa_nil)) (by rfl))) (pss_cons (ps_setLc (i := 10) (own := [("_law_one", 12)]) (g := gName 12) rfl sc__law_deed_right.nd rfl rfl (sw_true rfl rfl rfl (by decide +kernel)) (pi_list (pv 2)) (blkOk_by (N := ["_law_pot_here", "_law_kept", "_law_rows", "_law_many", "_law_way", "_law_page", "_law_place", "_law_row", "_law_told", "_law_at", "_law_due", "_law_found", "_law_one"]) (sc := defScope s__law_deed_right) (by decide +kernel)) (fun _ _ _ _ _ => (pg_name (i := 12) sc__law_deed_right.nd rfl (Or.inl rfl))) (fun _ _ _ _ _ => (pts_one (pt_cmpR op_eq (pe_ix (ixTK (K := K)) (pv 12) pe_int (fun _ _ => rfl)) (pv 5) (nomark _)))) (fun _ _ _ _ _ => (pv 12)))
      (pss_cons (ps_set (i := 11) sc__law_deed_right.nd rfl (Or.inl rfl) (pe_methN0 (pv 1) T.c_Buffer T.M_Buffer_found (ok_Buffer_found T) (hr.mono (by decide)) T.kb_Buffer_found_1_page passL  (pk_cons (pv 5) pk_nil)))
      (pss_one (ps_ret (pe_tup (pa_cons (pv 2) (pa_cons (pe_cmpR (op_eqD hr.units) (pv 11) (pe_ifExp (pt_cmpR (op_neD hr.units) (pv 10) (pe_lst pa_nil) (nomark _)) (pe_ix ix_list (pv 10) pe_int (fun _ _ => rfl)) pe_non) (nomark _)) pa_nil))))))))))))))
      (pss_one (ps_ret (pe_tup (pa_cons (pv 2) (pa_cons (pe_cmpR op_isN (pv 8) pe_non (nomark _)) pa_nil)))))))), ?_⟩
    refine w_in (σ := [some _, some _, some _, some _, none, none, none, none, none, none, none, none, none]) rfl ?_
    repeat (walk_at "st")
    refine ⟨p, _, rfl, D0.pot, by omega, by omega, fun way H1 c1 hp1 w0 w1 => ?_⟩
    have D1 := D0.draw c1 hp1
    repeat (walk_at "st")
    refine ⟨p, _, rfl, D1.pot, by omega, by omega, fun page H2 c2 hp2 p0 p1 => ?_⟩
    have D2 := D1.draw c2 hp2
    repeat (walk_at "st")
    refine ⟨p, _, rfl, D2.pot, by omega, by omega, fun place H3 c3 hp3 q0 q1 => ?_⟩
    have D3' := D2.draw c3 hp3
    have C3' : Chg2 p b H H3 := ((Chg2.refl.fst c1).fst c2).fst c3
    repeat (walk_at "st")
    intro t0 nt0
    have D3 := D3'.same (same_new (o := .tup [.int page, .int (32 + place)]) nt0)
    have C3 := C3'.same (same_new (o := .tup [.int page, .int (32 + place)]) nt0)
    repeat (walk_at "st")
    refine ifS (fun hw => ?_) (fun hw => ?_)
    · repeat (walk_at "st")
      refine ⟨p, _, rfl, D3.pot, by omega, by omega, fun x H4 c4 hp4 x0 x1 => ?_⟩
      have D4 := D3.draw c4 hp4
      repeat (walk_at "st")
      refine ⟨p, _, rfl, D4.pot, by omega, by omega, fun y H5 c5 hp5 y0 y1 => ?_⟩
      have D5 := D4.draw c5 hp5
      have C5 : Chg2 p b H H5 := (C3.fst c4).fst c5
      repeat (walk_at "st")
      intro t1 nt1
      have D6 := D5.same (same_new (o := .tup (rowV (page, 32 + page % 3, 32 + x, y))) nt1)
      have C6 := C5.same (same_new (o := .tup (rowV (page, 32 + page % 3, 32 + x, y))) nt1)
      have hr6 : (upd H5 t1 (.tup (rowV (page, 32 + page % 3, 32 + x, y)))) t1 = some (.tup (rowV (page, 32 + page % 3, 32 + x, y))) := upd_same
      change gName _ _ _ (upd H5 t1 (.tup (rowV (page, 32 + page % 3, 32 + x, y)))) _
      generalize upd H5 t1 (.tup (rowV (page, 32 + page % 3, 32 + x, y))) = H6 at D6 C6 hr6 ⊢
      obtain ⟨dx, k, hbx, hbr⟩ := id D6.buf
      have hok : rowOK (page, 32 + page % 3, 32 + x, y) := ⟨p0, by show page < 256; omega, by show 0 ≤ 32 + page % 3; omega, by show 32 + page % 3 < 960; omega, by show 0 ≤ 32 + x; omega, by show 32 + x < 960; omega, y0, y1⟩
      have i0 : atI (rowV (page, 32 + page % 3, 32 + x, y)) 0 = some (.int page) := rfl
      have i1 : atI (rowV (page, 32 + page % 3, 32 + x, y)) 1 = some (.int (32 + page % 3)) := rfl
      have i2 : atI (rowV (page, 32 + page % 3, 32 + x, y)) 2 = some (.int (32 + x)) := rfl
      have i3 : atI (rowV (page, 32 + page % 3, 32 + x, y)) 3 = some (.int y) := rfl
      repeat (walk_at "st")
      have hlen : rows.length ≤ 100 := by
        have := hk.1
        omega
      refine ⟨b, m, page, 32 + page % 3, 32 + x, y, rows, rfl, D6.buf, hlen, p0, by omega, by omega, by omega, by omega, by omega, ⟨y0, y1⟩, fun H7 c7 hb7 => ?_⟩
      obtain ⟨hp7, es, hl7, hes7, e7⟩ := D6.deed c7 hb7
      have hr7 := c7 _ _ hr6 (ne_of hr6 hbx (by intro z; cases z))
      have C7 := C6.snd c7
      have hlen' : es.length ≤ 100 := by rw [← e7, List.length_map] at hlen; exact hlen
      repeat (walk_at "st")
      refine' lcF_inv (K := K) es (fun e => V.ref e.1) (fun e => if e.2.1 != page then some (V.ref e.1) else none) ?v ?h ?z ?t ?q
      case v =>
        intro R r
        repeat (walk_at "st")
        exact r
      case h => walk_at "sq"
      case z => omega
      case t =>
        intro e he H' R S s1 k1 k2
        have hr := s1 _ _ (hes7 e he)
        have hix : atI (rowV e.2) 0 = some (.int e.2.1) := rfl
        repeat (walk_at "st")
        rw [dec_vint]
        refine ifS' (fun h => ?_) (fun h => ?_)
        · exact k2 (by simp [h]) _ (Same.refl _)
        · repeat (walk_at "st")
          exact k1 _ (by simp [h]) _ (Same.refl _)
      case q =>
        intro D H8 s8 nD hD
        rw [filterMap_if] at hD
        have hR := RowsAt.filter (fun r : R4 => r.1 != page) hD fun e he => s8 _ _ (hes7 e he)
        rw [e7] at hR
        have hr8 := s8 _ _ hr7
        have hp8 := hp7.same s8
        have hb8 := hb7.same s8
        have C8 := C7.same s8
        have hfl : (rows.filter fun r : R4 => r.1 != page).length ≤ rows.length := List.length_filter_le _ _
        obtain ⟨zs, hz, hzs, ez⟩ := hR
        have hzl : zs.length = (rows.filter fun r : R4 => r.1 != page).length := by rw [← ez, List.length_map]
        have hk1 := hk.1
        repeat (walk_at "st")
        refine ifS (fun h => ?_) (fun h => ?_)
        · repeat (walk_at "st")
          intro u nu
          repeat (walk_at "st")
          intro v nv
          repeat (walk_at "st")
          refine ⟨rfl, ?_⟩
          repeat (walk_at "st")
          intro w nw
          have s9 := fun o : HO => same_upd (o := o) (same_upd (same_new nu) nv) nw
          refine q w v (enter m rows (page, 32 + page % 3, 32 + x, y)) _ (C8.same (s9 _)) ⟨hp8.same (s9 _), hb8.same (s9 _), zs ++ [(t1, (page, 32 + page % 3, 32 + x, y))], same_new nw _ _ ?_, fun e he => ?_, ?_⟩ ?_ ?_
          · rw [upd_same, List.map_append]
            rfl
          · refine s9 _ _ _ ?_
            rcases List.mem_append.mp he with he | he
            · exact hzs e he
            · obtain rfl : e = (t1, (page, 32 + page % 3, 32 + x, y)) := by simpa using he
              exact hr8
          · rw [List.map_append, ez]
            rw [enter_lt (by simp at h; omega)]
            rfl
          · exact enter_ok hk h1 hok
          · exact upd_same
        · repeat (walk_at "st")
          intro t nt
          rw [cut_from (by omega)]
          repeat (walk_at "st")
          intro u nu
          repeat (walk_at "st")
          intro v nv
          repeat (walk_at "st")
          refine ⟨rfl, ?_⟩
          repeat (walk_at "st")
          intro w nw
          have s9 := fun o : HO => same_upd (o := o) (same_upd (same_upd (same_new nt) nu) nv) nw
          refine q w v (enter m rows (page, 32 + page % 3, 32 + x, y)) _ (C8.same (s9 _)) ⟨hp8.same (s9 _), hb8.same (s9 _), zs.drop 1 ++ [(t1, (page, 32 + page % 3, 32 + x, y))], same_new nw _ _ ?_, fun e he => ?_, ?_⟩ ?_ ?_
          · rw [upd_same, List.map_append, List.map_drop]
            rfl
          · refine s9 _ _ _ ?_
            rcases List.mem_append.mp he with he | he
            · exact hzs e (List.mem_of_mem_drop he)
            · obtain rfl : e = (t1, (page, 32 + page % 3, 32 + x, y)) := by simpa using he
              exact hr8
          · rw [List.map_append, List.map_drop, ez]
            rw [enter_ge (by simp at h; omega) hk1]
            rfl
          · exact enter_ok hk h1 hok
          · exact upd_same
    · generalize upd H3 t0 (.tup [.int page, .int (32 + place)]) = H4 at D3 C3 ⊢
      obtain ⟨dx, k, hbx, hbr⟩ := id D3.buf
      have hlen : rows.length ≤ 100 := by
        have := hk.1
        omega
      repeat (walk_at "st")
      refine ifS (fun hw4 => ?_) (fun hw4 => ?_)
      · repeat (walk_at "st")
        refine ⟨b, m, 32 + place, rows, rfl, D3.buf, hlen, by omega, by omega, fun H5 c5 hb5 => ?_⟩
        obtain ⟨hp5, es, hl5, hes5, e5⟩ := D3.deed c5 hb5
        have C5 := C3.snd c5
        have hlen' : es.length ≤ 100 := by rw [← e5, List.length_map] at hlen; exact hlen
        repeat (walk_at "st")
        refine' lcF_inv (K := K) es (fun e => V.ref e.1) (fun e => if !leans (32 + place) e.2 then some (V.ref e.1) else none) ?v ?h ?z ?t ?q
        case v =>
          intro R r
          repeat (walk_at "st")
          exact r
        case h => walk_at "sq"
        case z => omega
        case t =>
          intro e he H' R S s1 k1 k2
          have hr := s1 _ _ (hes5 e he)
          repeat (walk_at "st")
          refine w_slT (SqT.of hr) (show ¬ (HT.sIx 4 0 (some (1:Int)) = 0 ∧ HT.sIx 4 4 (some (3:Int)) = 4) by decide) fun t nt => ?_
          change (rIn _ _ _ _ (upd H' t (.tup [.int e.2.2.1, .int e.2.2.2.1])) _)
          refine w_inT (SqT.of upd_same) rfl rfl ?_
          have he : (if true = true then !inV (V.int (32 + place)) [.int e.2.2.1, .int e.2.2.2.1] else inV (V.int (32 + place)) [.int e.2.2.1, .int e.2.2.2.1]) = !leans (32 + place) e.2 := by
            show (!inV (V.int (32 + place)) [.int e.2.2.1, .int e.2.2.2.1]) = !leans (32 + place) e.2
            unfold leans
            congr 1
            simp [inV]
            rfl
          rw [he]
          repeat (walk_at "st")
          refine ifB (fun h => ?_) (fun h => ?_)
          · repeat (walk_at "st")
            exact k1 _ (by rw [h]; rfl) _ (same_new nt)
          · exact k2 (by rw [h]; rfl) _ (same_new nt)
        case q =>
          intro D H6 s6 nD hD
          rw [filterMap_if] at hD
          have hR := RowsAt.filter (fun r : R4 => !leans (32 + place) r) hD fun e he => s6 _ _ (hes5 e he)
          rw [e5] at hR
          repeat (walk_at "st")
          refine ⟨rfl, ?_⟩
          repeat (walk_at "st")
          intro w nw
          refine q w D _ _ ((C5.same s6).same (same_new nw)) ⟨(hp5.same s6).same (same_new nw), (hb5.same s6).same (same_new nw), hR.same (same_new nw)⟩ (hk.sub List.filter_sublist) upd_same
      repeat (walk_at "st")
      refine ifS (fun hw5 => ?_) (fun hw5 => ?_)
      · repeat (walk_at "st")
        refine ⟨p, _, rfl, D3.pot, by omega, by omega, fun x H5 c5 hp5 x0 x1 => ?_⟩
        have D5 := D3.draw c5 hp5
        have C5 := C3.fst c5
        obtain ⟨dx5, k5, hbx5, hbr5⟩ := id D5.buf
        repeat (walk_at "st")
        refine ⟨b, m, x, rows, rfl, D5.buf, hlen, x0, fun H6 c6 hb6 => ?_⟩
        obtain ⟨hp6, es, hl6, hes6, e6⟩ := D5.deed c6 hb6
        have C6 := C5.snd c6
        have hlen' : es.length ≤ 100 := by rw [← e6, List.length_map] at hlen; exact hlen
        repeat (walk_at "st")
        intro t nt
        rw [cut_to x0]
        repeat (walk_at "st")
        intro u nu
        rw [cut_from (by omega)]
        repeat (walk_at "st")
        intro v nv
        repeat (walk_at "st")
        refine ⟨rfl, ?_⟩
        repeat (walk_at "st")
        intro w nw
        have s9 := fun o : HO => same_upd (o := o) (same_upd (same_upd (same_new nt) nu) nv) nw
        refine q w v _ _ (C6.same (s9 _)) ⟨hp6.same (s9 _), hb6.same (s9 _), es.take x.toNat ++ es.drop (x + 1).toNat, same_new nw _ _ ?_, fun e he => ?_, ?_⟩ (hk.sub (out_sub rows x0)) upd_same
        · rw [upd_same, List.map_append, List.map_take, List.map_drop]
        · refine s9 _ _ _ (hes6 e ?_)
          rcases List.mem_append.mp he with he | he
          · exact List.mem_of_mem_take he
          · exact List.mem_of_mem_drop he
        · rw [List.map_append, List.map_take, List.map_drop, e6]
      repeat (walk_at "st")
      refine w_and ?_
      repeat (walk_at "st")
      refine ifS (fun hw6 => ?_) (fun hw6 => ?_)
      · repeat (walk_at "st")
        refine ⟨p, _, rfl, D3.pot, by omega, by omega, fun x H5 c5 hp5 x0 x1 => ?_⟩
        have D9 := D3.draw c5 hp5
        have C9 := C3.fst c5
        obtain ⟨dx5, k5, hbx5, hbr5⟩ := id D9.buf
        repeat (walk_at "st")
        refine ifS (fun hx0 => ?_) (fun hx0 => ?_)
        · repeat (walk_at "st")
          refine ⟨b, m, rows, rfl, D9.buf, fun H6 c6 hb6 => ?_⟩
          obtain ⟨hp6, hR6⟩ := D9.deed c6 hb6
          have C6 := C9.snd c6
          repeat (walk_at "st")
          intro u nu
          repeat (walk_at "st")
          refine ⟨rfl, ?_⟩
          repeat (walk_at "st")
          intro w nw
          have s9 := fun o : HO => same_upd (o := o) (same_new (o := .lst []) nu) nw
          exact q w u [] _ (C6.same (s9 _)) ⟨hp6.same (s9 _), hb6.same (s9 _), [], same_new nw _ _ upd_same, fun e z => (by cases z), rfl⟩ ⟨by simp; omega, fun r hr => (by cases hr), List.nodup_nil⟩ upd_same
        · clear hbx5 hbr5
          obtain ⟨es, hl9, hes9, e9⟩ := D9.row
          obtain ⟨dx9, k9, hbx9, hbr9⟩ := id D9.buf
          have hlen' : es.length ≤ 100 := by rw [← e9, List.length_map] at hlen; exact hlen
          repeat (walk_at "st")
          refine' lcF_inv (K := K) es (fun e => V.ref e.1) (fun e => if e.2.1 == page then some (V.ref e.1) else none) ?v ?h ?z ?t ?q
          case v =>
            intro R r
            repeat (walk_at "st")
            exact r
          case h => walk_at "sq"
          case z => omega
          case t =>
            intro e he H' R S s1 k1 k2
            have hr := s1 _ _ (hes9 e he)
            have hix : atI (rowV e.2) 0 = some (.int e.2.1) := rfl
            repeat (walk_at "st")
            rw [dec_vint]
            refine ifS (fun h => ?_) (fun h => ?_)
            · repeat (walk_at "st")
              exact k1 _ (by simp [h]) _ (Same.refl _)
            · exact k2 (by simp [h]) _ (Same.refl _)
          case q =>
            intro D Ha sa nD hD
            rw [filterMap_if] at hD
            have hR := RowsAt.filter (fun r : R4 => r.1 == page) hD fun e he => sa _ _ (hes9 e he)
            rw [e9] at hR
            have Da := D9.same sa
            have Ca := C9.same sa
            have hbxa := sa _ _ hbx9
            repeat (walk_at "st")
            refine ⟨b, m, page, rows, rfl, Da.buf, p0, by omega, fun v hv => ?_⟩
            repeat (walk_at "st")
            intro em nem
            have hem : RowsAt (upd Ha em (.lst [])) em [] := ⟨[], upd_same, fun e z => (by cases z), rfl⟩
            have hRe := hR.same (same_new (o := .lst []) nem)
            refine w_neDt rowOk.list (rows_dp hRe) (rows_dp hem) ?_
            have hvo : Dp K (upd Ha em (.lst [])) v (optD rowD (rows.find? fun r : R4 => r.1 == page)) := by
              rcases hv with ⟨e1, rfl⟩ | ⟨r, a1, e1, rfl, hra⟩
              · rw [e1]
                exact .non
              · rw [e1]
                exact row_dp (same_new nem _ _ hra)
            have hhd : (rows.filter fun r : R4 => r.1 == page).head? = rows.find? fun r : R4 => r.1 == page := List.head?_filter
            by_cases hd : (rows.filter fun r : R4 => r.1 == page) = []
            · rw [hd] at hhd
              rw [decide_eq_true hd]
              repeat (walk_at "st")
              refine w_eqDo rowOk (b := none) hvo .non ?_
              have hn : (rows.find? fun r : R4 => r.1 == page) = none := hhd.symm
              rw [decide_eq_true hn]
              repeat (walk_at "st")
              intro w nw
              have s9 := fun o : HO => same_upd (o := o) (same_new (o := .lst []) nem) nw
              exact q w l rows _ (Ca.same (s9 _)) (Da.same (s9 _)) hk upd_same
            · rw [decide_eq_false hd]
              obtain ⟨zs, hz, hzs, ez⟩ := hRe
              cases zs with
              | nil => exact absurd ez.symm hd
              | cons z zs =>
                have hz0 : atI ((z :: zs).map fun e => V.ref e.1) 0 = some (.ref z.1) := (show atI ((z :: zs).map fun e => V.ref e.1) ((0 : Nat) : Int) = some (.ref z.1) from atI_nat rfl)
                have hzz := hzs z (List.mem_cons_self ..)
                repeat (walk_at "st")
                refine w_eqDo rowOk (b := some z.2) hvo (row_dp hzz) ?_
                rw [← ez] at hhd
                have hn : (rows.find? fun r : R4 => r.1 == page) = some z.2 := hhd.symm
                rw [decide_eq_true hn]
                repeat (walk_at "st")
                intro w nw
                have s9 := fun o : HO => same_upd (o := o) (same_new (o := .lst []) nem) nw
                exact q w l rows _ (Ca.same (s9 _)) (Da.same (s9 _)) hk upd_same
      · have D9 := D3
        have C9 := C3
        clear hbx hbr
        obtain ⟨es, hl9, hes9, e9⟩ := D9.row
        obtain ⟨dx9, k9, hbx9, hbr9⟩ := id D9.buf
        have hlen' : es.length ≤ 100 := by rw [← e9, List.length_map] at hlen; exact hlen
        repeat (walk_at "st")
        refine' lcF_inv (K := K) es (fun e => V.ref e.1) (fun e => if e.2.1 == page then some (V.ref e.1) else none) ?v ?h ?z ?t ?q
        case v =>
          intro R r
          repeat (walk_at "st")
          exact r
        case h => walk_at "sq"
        case z => omega
        case t =>
          intro e he H' R S s1 k1 k2
          have hr := s1 _ _ (hes9 e he)
          have hix : atI (rowV e.2) 0 = some (.int e.2.1) := rfl
          repeat (walk_at "st")
          rw [dec_vint]
          refine ifS (fun h => ?_) (fun h => ?_)
          · repeat (walk_at "st")
            exact k1 _ (by simp [h]) _ (Same.refl _)
          · exact k2 (by simp [h]) _ (Same.refl _)
        case q =>
          intro D Ha sa nD hD
          rw [filterMap_if] at hD
          have hR := RowsAt.filter (fun r : R4 => r.1 == page) hD fun e he => sa _ _ (hes9 e he)
          rw [e9] at hR
          have Da := D9.same sa
          have Ca := C9.same sa
          have hbxa := sa _ _ hbx9
          repeat (walk_at "st")
          refine ⟨b, m, page, rows, rfl, Da.buf, p0, by omega, fun v hv => ?_⟩
          repeat (walk_at "st")
          intro em nem
          have hem : RowsAt (upd Ha em (.lst [])) em [] := ⟨[], upd_same, fun e z => (by cases z), rfl⟩
          have hRe := hR.same (same_new (o := .lst []) nem)
          refine w_neDt rowOk.list (rows_dp hRe) (rows_dp hem) ?_
          have hvo : Dp K (upd Ha em (.lst [])) v (optD rowD (rows.find? fun r : R4 => r.1 == page)) := by
            rcases hv with ⟨e1, rfl⟩ | ⟨r, a1, e1, rfl, hra⟩
            · rw [e1]
              exact .non
            · rw [e1]
              exact row_dp (same_new nem _ _ hra)
          have hhd : (rows.filter fun r : R4 => r.1 == page).head? = rows.find? fun r : R4 => r.1 == page := List.head?_filter
          by_cases hd : (rows.filter fun r : R4 => r.1 == page) = []
          · rw [hd] at hhd
            rw [decide_eq_true hd]
            repeat (walk_at "st")
            refine w_eqDo rowOk (b := none) hvo .non ?_
            have hn : (rows.find? fun r : R4 => r.1 == page) = none := hhd.symm
            rw [decide_eq_true hn]
            repeat (walk_at "st")
            intro w nw
            have s9 := fun o : HO => same_upd (o := o) (same_new (o := .lst []) nem) nw
            exact q w l rows _ (Ca.same (s9 _)) (Da.same (s9 _)) hk upd_same
          · rw [decide_eq_false hd]
            obtain ⟨zs, hz, hzs, ez⟩ := hRe
            cases zs with
            | nil => exact absurd ez.symm hd
            | cons z zs =>
              have hz0 : atI ((z :: zs).map fun e => V.ref e.1) 0 = some (.ref z.1) := (show atI ((z :: zs).map fun e => V.ref e.1) ((0 : Nat) : Int) = some (.ref z.1) from atI_nat rfl)
              have hzz := hzs z (List.mem_cons_self ..)
              repeat (walk_at "st")
              refine w_eqDo rowOk (b := some z.2) hvo (row_dp hzz) ?_
              rw [← ez] at hhd
              have hn : (rows.find? fun r : R4 => r.1 == page) = some z.2 := hhd.symm
              rw [decide_eq_true hn]
              repeat (walk_at "st")
              intro w nw
              have s9 := fun o : HO => same_upd (o := o) (same_new (o := .lst []) nem) nw
              exact q w l rows _ (Ca.same (s9 _)) (Da.same (s9 _)) hk upd_same
theorem ok__law_right (T : Txt K mg a) : FnOk P w K mg base (L2.CX P w) 9 a.f__law_right a.d__law_right ["_law_pot_here"] (spRight K) := by
  refine T.F__law_right.okX sc__law_right (fun vs H Q E h => ?_) (fun cdv A outer s H vs Q E hr h => ?_)
  · obtain ⟨_, rfl, _⟩ := h
    rfl
  · obtain ⟨p, rfl, hp, q⟩ := h
    refine ⟨_, (pss_cons (ps_par (i := 1) (j := 2) rfl sc__law_right.nd rfl rfl (by decide) rfl rfl (pa_cons (pe_op op_add pe_int (pe_call (ok__law_draw T) (hr.mono (by decide)) (by rfl) T.m__law_draw T.F__law_draw.kp T.b__law_draw .nil passL (pa_cons (pv 0) (pa_cons pe_int pa_nil)))) (pa_cons (pe_lst pa_nil) pa_nil)) (by rfl))
      (pss_cons (ps_par (i := 3) (j := 4) rfl sc__law_right.nd rfl rfl (by decide) rfl rfl (pa_cons (pe_make T.k_Buffer (ok_Buffer___init__ T) (hr.mono (by decide)) (by rfl) T.g_Buffer T.b_Buffer___init__ .nil passL (pa_cons (pv 1) pa_nil)) (pa_cons pe_non pa_nil)) (by rfl))
      (pss_cons (ps_for (passes_of rfl) rfl (pi_range1 (by rfl) T.z_range (pa_cons pe_int pa_nil)) (pg_name (i := 5) sc__law_right.nd rfl (Or.inl rfl))
      (Evl.pss_cut (ps_if (pt_cmpR op_eq (pv 5) pe_int (nomark _)) (pss_one (ps_par (i := 4) (j := 6) rfl sc__law_right.nd rfl rfl (by decide) rfl rfl (pa_cons (pe_meth0 (pv 3) T.c_Buffer T.M_Buffer_copy (ok_Buffer_copy T) (hr.mono (by decide)) T.b_Buffer_copy .nil passL) (pa_cons (pe_callTy call_list_of (by rfl) T.z_list (by decide +kernel) (pa_cons (pv 2) pa_nil)) pa_nil)) (by rfl))) pss_nil)
      (pss_cons (ps_asg (pe_call (ok__law_deed_right T) (hr.mono (by decide)) (by rfl) T.m__law_deed_right T.F__law_deed_right.kp T.b__law_deed_right .nil passL (pa_cons (pv 0) (pa_cons (pv 3) (pa_cons (pv 2) (pa_cons (pv 1) pa_nil))))) (pg_tup rfl (pgs_cons (pg_name (i := 2) sc__law_right.nd rfl (Or.inl rfl)) (pgs_cons (pg_name (i := 7) sc__law_right.nd rfl (Or.inl rfl)) pgs_nil))))
      (pss_one (ps_if (PW.pt (pw_or (pt_not (pt_val (pv 7))) (pw_or (pt_cmpR (op_neD hr.units) (pe_meth0 (pv 3) T.c_Buffer T.M_Buffer_rows (ok_Buffer_rows T) (hr.mono (by decide)) T.b_Buffer_rows .nil passL) (pv 2) (nomark _)) (pw_or1 (pt_cmpR op_ne (pe_prop (pv 3) T.c_Buffer T.p_Buffer_most (ok_Buffer_most T) (hr.mono (by decide)) T.b_Buffer_most .nil passL rfl) (pv 1) (nomark _)))))) (pss_one (ps_ret pe_bl)) pss_nil)))))
      (pss_cons (ps_set (i := 8) sc__law_right.nd rfl (Or.inl rfl) (pe_meth0 (pv 3) T.c_Buffer T.M_Buffer_rows (ok_Buffer_rows T) (hr.mono (by decide)) T.b_Buffer_rows .nil passL))
      (pss_cons (ps_expr (pe_bm PySem.F.plainAttrs_list PySem.F.slot_list_append PySem.F.type_list_append mt_append (pv 8) (pa_cons pe_non pa_nil)))
      (pss_cons (ps_if (PW.pt (pw_or (pt_cmpR (op_neD hr.units) (pe_meth0 (pv 3) T.c_Buffer T.M_Buffer_rows (ok_Buffer_rows T) (hr.mono (by decide)) T.b_Buffer_rows .nil passL) (pv 2) (nomark _)) (pw_or (pt_cmpR (op_neD hr.units) (pe_meth0 (pv 4) T.c_Buffer T.M_Buffer_rows (ok_Buffer_rows T) (hr.mono (by decide)) T.b_Buffer_rows .nil passL) (pv 6) (nomark _)) (pw_or1 (pt_cmpR op_ne (pe_prop (pv 4) T.c_Buffer T.p_Buffer_most (ok_Buffer_most T) (hr.mono (by decide)) T.b_Buffer_most .nil passL rfl) (pv 1) (nomark _)))))) (pss_one (ps_ret pe_bl)) pss_nil)
      (pss_cons (ps_if (PW.pt (pw_or (pt_cmpR op_ne (pe_cmpR (op_own (ok_Buffer___eq__ T) ⟨T.M_Buffer___eq__.at_, T.M_Buffer___eq__.fn⟩ (hr.mono (by decide)) T.b_Buffer___eq__ passL) (pv 3) (pv 4) (nomark _)) (pe_cmpR (op_eqD hr.units) (pv 2) (pv 6) (nomark _)) (nomark _)) (pw_or (pt_cmpR (op_own (ok_Buffer___eq__ T) ⟨T.M_Buffer___eq__.at_, T.M_Buffer___eq__.fn⟩ (hr.mono (by decide)) T.b_Buffer___eq__ passL) (pv 3) (pv 2) (nomark _)) (pw_or1 (pt_cmpR (op_own (ok_Buffer___eq__ T) ⟨T.M_Buffer___eq__.at_, T.M_Buffer___eq__.fn⟩ (hr.mono (by decide)) T.b_Buffer___eq__ passL) (pv 3) (pe_make T.k_Buffer (ok_Buffer___init__ T) (hr.mono (by decide)) (by rfl) T.g_Buffer T.b_Buffer___init__ .nil passL (pa_cons (pe_op op_add (pv 1) pe_int) pa_nil)) (nomark _)))))) (pss_one (ps_ret pe_bl)) pss_nil)
      (pss_cons (ps_set (i := 9) sc__law_right.nd rfl (Or.inl rfl) (pe_make T.k_Buffer (ok_Buffer___init__ T) (hr.mono (by decide)) (by rfl) T.g_Buffer T.b_Buffer___init__ .nil passL (pa_cons (pv 1) pa_nil)))
      (pss_cons (ps_for (passes_of rfl) rfl (pi_list (pv 2)) (pg_name (i := 10) sc__law_right.nd rfl (Or.inl rfl))
      (pss_one (ps_expr (pe_meth (pv 9) T.c_Buffer T.M_Buffer_entered (ok_Buffer_entered T) (hr.mono (by decide)) T.b_Buffer_entered .nil passL (pa_cons (pe_ix ix_tup (pv 10) pe_int (fun _ _ => rfl)) (pa_cons (pe_ix ix_tup (pv 10) pe_int (fun _ _ => rfl)) (pa_cons (pe_ix ix_tup (pv 10) pe_int (fun _ _ => rfl)) (pa_cons (pe_ix ix_tup (pv 10) pe_int (fun _ _ => rfl)) pa_nil))))))))
      (pss_one (ps_ret (pe_and (pe_cmpR (op_own (ok_Buffer___eq__ T) ⟨T.M_Buffer___eq__.at_, T.M_Buffer___eq__.fn⟩ (hr.mono (by decide)) T.b_Buffer___eq__ passL) (pv 9) (pv 3) (nomark _)) (pe_one (pe_cmpR (op_own (ok_Buffer___eq__ T) ⟨T.M_Buffer___eq__.at_, T.M_Buffer___eq__.fn⟩ (hr.mono (by decide)) T.b_Buffer___eq__ passL) (pe_makeK0 T.k_Buffer (ok_Buffer___init__ T) (hr.mono (by decide)) (by rfl) T.g_Buffer T.kb_Buffer___init___1_many passL (pk_cons pe_int pk_nil)) (pe_make T.k_Buffer (ok_Buffer___init__ T) (hr.mono (by decide)) (by rfl) T.g_Buffer T.b_Buffer___init__ .nil passL (pa_cons pe_int pa_nil)) (nomark _))))))))))))))), ?_⟩
    refine w_in (σ := [some _, none, none, none, none, none, none, none, none, none, none]) rfl ?_
    repeat (walk_at "st")
    refine ⟨p, _, rfl, hp, by omega, by omega, fun d H1 c1 hp1 d0 d1 => ?_⟩
    repeat (walk_at "st")
    intro l nl
    have hpl : Pot (upd H1 l (.lst [])) p := hp1.new nl
    have hl : RowsAt (upd H1 l (.lst [])) l [] := ⟨[], upd_same, fun e z => (by cases z), rfl⟩
    generalize upd H1 l (.lst []) = H2 at hpl hl ⊢
    repeat (walk_at "st")
    intro b db nb nd ne
    refine ⟨b, db, 1 + d, rfl, upd_same, by omega, by omega, fun H3 c3 hb3 => ⟨rfl, ?_⟩⟩
    have s3 : Same H2 H3 := Same.made nb nd c3
    have D3 : DS a.c_Buffer p b l (1 + d) [] H3 := ⟨hpl.same s3, hb3, hl.same s3⟩
    have hm0 : 1 ≤ 1 + d := by omega
    have hm1 : 1 + d ≤ 5 := by omega
    generalize 1 + d = m at D3 hm0 hm1 ⊢
    repeat (walk_at "st")
    refine w_range1 (fun i σ' H' => ∃ (l : Addr) (rows : List R4) (v4 v5 v6 v7 : Option V),
        σ' = [some (.ref p), some (.int m), some (.ref l), some (.ref b), v4, v5, v6, v7, none, none, none] ∧ DS a.c_Buffer p b l m rows H' ∧ RowsOk m rows ∧ (20 < i → Aside a.c_Buffer p b m v4 v6 H')) (by omega) ⟨l, [], _, _, _, _, rfl, D3, ⟨by simp; omega, fun r hr => (by cases hr), List.nodup_nil⟩, fun z => absurd z (by decide)⟩ (fun i σ' H4 hi hP => ?_) (fun σ' H4 hP => ?_)
    · obtain ⟨l, rows, v4, v5, v6, v7, e, D4, hk, A4⟩ := hP
      subst e
      clear D3 hl hpl
      repeat (walk_at "st")
      refine w_cut (fun σ2 H2 => ∃ (v4 v6 : Option V), σ2 = [some (.ref p), some (.int m), some (.ref l), some (.ref b), v4, some (.int i), v6, v7, none, none, none] ∧ DS a.c_Buffer p b l m rows H2 ∧ (20 < i + 1 → Aside a.c_Buffer p b m v4 v6 H2)) ?_ ?_
      · repeat (walk_at "st")
        rw [dec_vint]
        obtain ⟨db4, k4, hb4, hr4⟩ := id D4.buf
        refine ifS (fun h => ?_) (fun h => ?_)
        · repeat (walk_at "st")
          refine ⟨b, m, rows, rfl, D4.buf, hm0, by omega, fun o H5 s5 no ho => ?_⟩
          have D5 := D4.same s5
          obtain ⟨es, hl5, hes5, e5⟩ := D5.row
          repeat (walk_at "st")
          intro t nt
          repeat (walk_at "st")
          refine ⟨_, _, rfl, D5.same (same_new nt), fun _ => Aside.of (D5.same (same_new nt)) (ho.same (same_new nt)) (ne_of_none hb4 no).symm ⟨es, upd_same, fun e he => same_new nt _ _ (hes5 e he), e5⟩⟩
        · repeat (walk_at "st")
          exact ⟨_, _, rfl, D4, fun z => A4 (by omega)⟩
      · intro σ2 H2 ⟨v4, v6, e, D2, A2⟩
        subst e
        clear D4 A4
        repeat (walk_at "st")
        refine ⟨p, b, l, m, rows, rfl, D2, hm0, by omega, hk, fun t l' rows' H5 C5 D5 hk5 ht => ?_⟩
        have A5 : 20 < i + 1 → Aside a.c_Buffer p b m v4 v6 H5 := fun z => (A2 z).chg C5
        clear D2 A2 C5 hk
        obtain ⟨db5, k5, hb5, hr5⟩ := id D5.buf
        repeat (walk_at "st")
        refine w_or ?_
        repeat (walk_at "st")
        refine w_or ?_
        repeat (walk_at "st")
        refine ⟨b, m, rows', rfl, D5.buf, fun q H6 s6 nq hq => ?_⟩
        have D6 := D5.same s6
        obtain ⟨db6, k6, hb6, hr6⟩ := id D6.buf
        repeat (walk_at "st")
        refine w_neDt rowOk.list (rows_dp hq) (rows_dp D6.row) ?_
        rw [decide_eq_true rfl]
        repeat (walk_at "st")
        refine ⟨b, m, rows', rfl, D6.buf, ?_⟩
        repeat (walk_at "st")
        rw [decide_eq_true rfl]
        repeat (walk_at "st")
        exact ⟨l', rows', _, _, _, _, rfl, D6, hk5, fun z => (A5 z).chg (Chg2.refl.same s6)⟩
    · obtain ⟨l, rows, v4, v5, v6, v7, e, D4, hk, A4⟩ := hP
      obtain ⟨o, t, orows, G, rfl, rfl, sG, Gp, Gb, Go, Gt⟩ := A4 (by decide)
      subst e
      clear D3 hl hpl
      have Bo := Go.same sG
      have Rt := Gt.same sG
      obtain ⟨db4, k4, hb4, hr4⟩ := id D4.buf
      repeat (walk_at "st")
      refine ⟨b, m, rows, rfl, D4.buf, fun x H5 s5 nx hx => ?_⟩
      obtain ⟨xs, hx1, hx2, hx3⟩ := hx
      have D5 := D4.same s5
      have hxl : xs.length ≤ 100 := by
        have := hk.1
        rw [← hx3, List.length_map] at this
        omega
      repeat (walk_at "st")
      have s6 := same_updF (o := .lst (xs.map (fun e => V.ref e.1) ++ [V.non])) s5 nx
      have D6 := D4.same s6
      have Bo6 := Bo.same s6
      have Rt6 := Rt.same s6
      have hob : o ≠ b := fun z => by
        obtain ⟨_, _, z1, _⟩ := Go
        rw [z, Gb] at z1
        cases z1
      generalize upd H5 x (.lst (xs.map (fun e => V.ref e.1) ++ [V.non])) = H6 at s6 D6 Bo6 Rt6 ⊢
      clear Gt Go sG hb4 hr4 D5 s5 Bo Rt D4 s6
      obtain ⟨db6, k6, hb6, hr6⟩ := id D6.buf
      obtain ⟨do6, ko6, ho6, hro6⟩ := id Bo6
      refine w_or ?_
      repeat (walk_at "st")
      refine ⟨b, m, rows, rfl, D6.buf, fun q1 H7 s7 nq hq => ?_⟩
      have D7 := D6.same s7
      have Bo7 := Bo6.same s7
      have Rt7 := Rt6.same s7
      repeat (walk_at "st")
      refine w_neDt rowOk.list (rows_dp hq) (rows_dp D7.row) ?_
      rw [decide_eq_true rfl]
      repeat (walk_at "st")
      refine w_or ?_
      repeat (walk_at "st")
      refine ⟨o, m, orows, rfl, Bo7, fun q2 H8 s8 nq2 hq2 => ?_⟩
      have D8 := D7.same s8
      have Bo8 := Bo7.same s8
      have Rt8 := Rt7.same s8
      have hb8 := s8 _ _ (s7 _ _ hb6)
      have ho8 := s8 _ _ (s7 _ _ ho6)
      repeat (walk_at "st")
      refine w_neDt rowOk.list (rows_dp hq2) (rows_dp Rt8) ?_
      rw [decide_eq_true rfl]
      repeat (walk_at "st")
      refine ⟨o, m, orows, rfl, Bo8, ?_⟩
      repeat (walk_at "st")
      rw [decide_eq_true rfl]
      repeat (walk_at "st")
      refine w_or ?_
      repeat (walk_at "st")
      refine ⟨b, _, _, _, rfl, hb8, T.i_Buffer.ty T.c_Buffer ho8, T.is_Buffer, b, m, rows, _, rfl, D8.buf, .inl ⟨o, m, orows, rfl, Bo8, _, rfl, ?_⟩⟩
      repeat (walk_at "st")
      refine w_eqDt rowOk.list (rows_dp D8.row) (rows_dp Rt8) ?_
      repeat (walk_at "st")
      have eb : (decide (m = m) && decide (rows = orows)) = decide (rows = orows) := by simp
      rw [eb, decide_eq_true rfl]
      repeat (walk_at "st")
      refine w_or ?_
      repeat (walk_at "st")
      obtain ⟨es, hl8, hes8, e8⟩ := id D8.row
      refine ⟨b, _, _, _, rfl, hb8, .base (.lst hl8), T.nf_Buffer_list, b, m, rows, _, rfl, D8.buf, .inr ⟨l, _, rfl, hl8, _, rfl, ?_⟩⟩
      repeat (walk_at "st")
      intro y dy ny nd ney
      refine ⟨y, dy, m + 1, rfl, upd_same, by omega, by omega, fun H9 c9 hb9 => ⟨rfl, ?_⟩⟩
      have s9 : Same H8 H9 := Same.made ny nd c9
      have D9 := D8.same s9
      clear Bo8 Rt8 D8 Bo7 Rt7 D7 Bo6 Rt6 D6
      obtain ⟨dy9, ky9, hy9, hry9⟩ := id hb9
      repeat (walk_at "st")
      refine ⟨b, _, _, _, rfl, s9 _ _ hb8, T.i_Buffer.ty T.c_Buffer hy9, T.is_Buffer, b, m, rows, _, rfl, D9.buf, .inl ⟨y, m + 1, [], rfl, hb9, _, rfl, ?_⟩⟩
      have eb : (decide (m = m + 1) && decide (rows = [])) = false := by
        rw [decide_eq_false (by omega)]
        rfl
      rw [eb]
      repeat (walk_at "st")
      intro z dz nz ndz nez
      refine ⟨z, dz, m, rfl, upd_same, by omega, by omega, fun Ha ca hba => ⟨rfl, ?_⟩⟩
      have sa : Same H9 Ha := Same.made nz ndz ca
      have Da := D9.same sa
      clear D9
      obtain ⟨ea, hla, hea, e10⟩ := id Da.row
      obtain ⟨dba, kba, hbba, hrba⟩ := id Da.buf
      have hbz : b ≠ z := ne_of_none (s9 _ _ hb8) nz
      obtain ⟨dza, kza, hza, hrza⟩ := id hba
      have hlz : l ≠ z := ne_of hla hza (by intro z; cases z)
      repeat (walk_at "st")
      refine w_list (K := K) (fun i σ' H' => ∃ (v5 v7 v10 : Option V), σ' = [some (.ref p), some (.int m), some (.ref l), some (.ref b), some (.ref o), v5, some (.ref t), v7, some (.ref x), some (.ref z), v10] ∧ BufAt a.c_Buffer H' z m (rows.take i) ∧ Chg z Ha H') (SqL.of hla) ⟨_, _, _, rfl, hba, Chg.refl⟩ (fun i σ' H' hi hP => ?_) (fun i v σ' H' hv hP => ?_) (fun σ' H' hP => ?_)
      · obtain ⟨_, _, _, _, _, c⟩ := hP
        exact SqL.of (c _ _ hla hlz)
      · obtain ⟨v5, v7, v10, e, hB, c⟩ := hP
        subst e
        obtain ⟨e, he, hin, rfl⟩ := map_at hv
        have hr := hea e hin
        have hr' := c _ _ hr (ne_of hr hza (by intro z; cases z))
        obtain ⟨dzb, kzb, hzb, hrzb⟩ := id hB
        obtain ⟨ad, r1, r2, r3, r4⟩ := e
        have hix : rows[i]? = some (r1, r2, r3, r4) := by rw [← e10, List.getElem?_map, he]; rfl
        obtain ⟨k1, k2, k3, k4, k5, k6, k7⟩ := hk.2.1 _ (List.mem_of_getElem? hix)
        have i0 : atI (rowV (r1, r2, r3, r4)) 0 = some (.int r1) := rfl
        have i1 : atI (rowV (r1, r2, r3, r4)) 1 = some (.int r2) := rfl
        have i2 : atI (rowV (r1, r2, r3, r4)) 2 = some (.int r3) := rfl
        have i3 : atI (rowV (r1, r2, r3, r4)) 3 = some (.int r4) := rfl
        repeat (walk_at "st")
        refine ⟨z, m, r1, r2, r3, r4, rows.take i, rfl, hB, ?_, k1, k2, k3, k4, k5, k6, k7, fun H' c' hB' => ?_⟩
        · have := hk.1
          rw [List.length_take]
          omega
        rw [enter_take hk hix] at hB'
        repeat (walk_at "st")
        exact ⟨_, _, _, rfl, hB', c.trans c'⟩
      · obtain ⟨v5, v7, v10, e, hB, c⟩ := hP
        subst e
        rw [List.length_map] at hB
        have hlen : ea.length = rows.length := by rw [← e10, List.length_map]
        rw [hlen, List.take_length] at hB
        have hbb : BufAt a.c_Buffer H' b m rows := by
          obtain ⟨dx, k, q1, q2⟩ := Da.buf
          exact ⟨dx, k, c _ _ q1 hbz, q2.chg c (q2.ne_buf hba) hba.ntup⟩
        obtain ⟨d1, f1, hz1, hz2⟩ := id hB
        obtain ⟨d2, f2, hb1, hb2⟩ := id hbb
        repeat (walk_at "st")
        refine ⟨z, _, _, _, rfl, hz1, T.i_Buffer.ty T.c_Buffer hb1, T.is_Buffer, z, m, rows, _, rfl, hB, .inl ⟨b, m, rows, rfl, hbb, _, rfl, ?_⟩⟩
        have eb : (decide (m = m) && decide (rows = rows)) = true := by simp
        rw [eb]
        repeat (walk_at "st")
        intro y1 dy1 n1 nd1 ne1
        refine ⟨y1, dy1, 1, rfl, upd_same, by omega, by omega, fun I1 ci1 hbi1 => ⟨rfl, ?_⟩⟩
        repeat (walk_at "st")
        intro y2 dy2 n2 nd2 ne2
        refine ⟨y2, dy2, 1, rfl, upd_same, by omega, by omega, fun I2 ci2 hbi2 => ⟨rfl, ?_⟩⟩
        have B1 := hbi1.same (Same.made n2 nd2 ci2)
        obtain ⟨d3, f3, q1, q2⟩ := id B1
        obtain ⟨d4, f4, q3, q4⟩ := id hbi2
        repeat (walk_at "st")
        refine ⟨y1, _, _, _, rfl, q1, T.i_Buffer.ty T.c_Buffer q3, T.is_Buffer, y1, 1, [], _, rfl, B1, .inl ⟨y2, 1, [], rfl, hbi2, _, rfl, ?_⟩⟩
        exact q _
theorem ok_law (T : Txt K mg a) : FnOk P w K mg base (L2.CX P w) 10 a.f_law a.d_law ["_law_script"] (sp_law K) := by
  refine T.F_law.okX sc_law (fun vs H Q E h => ?_) (fun cdv A outer s H vs Q E hr h => ?_)
  · obtain ⟨_, _, rfl, _⟩ := h
    rfl
  · obtain ⟨sa, ss, rfl, hS, hss, q⟩ := h
    refine ⟨_, (pss_one (ps_ret (pe_call (ok__law_right T) (hr.mono (by decide)) (by rfl) T.m__law_right T.F__law_right.kp T.b__law_right .nil passL (pa_cons (pe_call (ok__law_pot T) (hr.mono (by decide)) (by rfl) T.m__law_pot T.F__law_pot.kp T.b__law_pot .nil passL (pa_cons (pv 0) (pa_cons pe_int pa_nil))) pa_nil)))), ?_⟩
    refine w_in (σ := [some _]) rfl ?_
    repeat (walk_at "st")
    refine ⟨sa, ss, 0, rfl, hS, by decide, by decide, fun p H1 s1 np hp => ?_⟩
    repeat (walk_at "st")
    exact ⟨p, rfl, hp, q⟩
end
theorem all_mk {l : PySem.W.OpenLaw} {w : World} {K : PySem.W.Frag} {h : Heap} {mg : Str → Option Value} {fa : Addr} (X : K.In h) (G : h.Ns mainGlobals mg) (hfa : mg "law" = some (.ref fa))
    {f_CoreError___init__ : Addr} {d_CoreError___init__ : FuncData} {f_is_integer : Addr} {d_is_integer : FuncData} {f_is_count : Addr} {d_is_count : FuncData} {f_want_many : Addr} {d_want_many : FuncData} {f_is_word : Addr} {d_is_word : FuncData} {f_is_place : Addr} {d_is_place : FuncData} {f_want_word : Addr} {d_want_word : FuncData} {f_want_place : Addr} {d_want_place : FuncData} {f_want_kept_page : Addr} {d_want_kept_page : FuncData} {f_want_entry_place : Addr} {d_want_entry_place : FuncData} {f_Buffer___init__ : Addr} {d_Buffer___init__ : FuncData} {f_Buffer_most : Addr} {d_Buffer_most : FuncData} {p_Buffer_most : Addr} {f_Buffer_rows : Addr} {d_Buffer_rows : FuncData} {f_Buffer_found : Addr} {d_Buffer_found : FuncData} {f_Buffer_entered : Addr} {d_Buffer_entered : FuncData} {f_Buffer_stored : Addr} {d_Buffer_stored : FuncData} {f_Buffer_out : Addr} {d_Buffer_out : FuncData} {f_Buffer_cleared : Addr} {d_Buffer_cleared : FuncData} {f_Buffer_copy : Addr} {d_Buffer_copy : FuncData} {f_Buffer___eq__ : Addr} {d_Buffer___eq__ : FuncData} {f_entry_kept : Addr} {d_entry_kept : FuncData} {f__law_pot : Addr} {d__law_pot : FuncData} {f__law_draw : Addr} {d__law_draw : FuncData} {f__law_deed_right : Addr} {d__law_deed_right : FuncData} {f__law_right : Addr} {d__law_right : FuncData} {f_law : Addr} {d_law : FuncData} {c_CoreError : Addr} {c_InvalidWord : Addr} {c_InvalidPlace : Addr} {c_InvalidMany : Addr} {c_InvalidPage : Addr} {c_Buffer : Addr} {t_MOST_WORD : Tok} {t_MOST_PLACE : Tok} {t_MEMORY_END : Tok} {t_MOST_ENTRIES : Tok} {t_MOST_KEPT_PAGE : Tok}
    (a_CoreError : PySem.W.nsIn K mainGlobals "CoreError" = some (some (.ref c_CoreError)))
    (xc_CoreError : ∃ nm q N bs sn sub ab col dd k0 k1 k2 k3 k5, K.lookup c_CoreError = some (excClassObj nm q c_CoreError N bs [.type "ValueError", .type "Exception", .type "BaseException", .type "object"] true sn sub ab col dd k0 k1 k2 k3 k5 "ValueError.__new__"))
    (xs_CoreError : PySem.W.findIn K (.ref c_CoreError) "__setattr__" = some (some (.builtin "object.__setattr__")))
    (xb_CoreError : PySem.W.subIn K (.ref c_CoreError) (.type "BaseException") = some true)
    (xy_CoreError : PySem.W.typeIn K (.ref c_CoreError) = some (.type "type"))
    (xk_CoreError : PySem.W.keepIn K (.ref c_CoreError) = true)
    (xi_CoreError : PySem.W.findIn K (.ref c_CoreError) "__init__" = some (some (.ref f_CoreError___init__)))
    (xn_CoreError_value : PySem.W.findIn K (.ref c_CoreError) "value" = some none)
    (a_InvalidWord : PySem.W.nsIn K mainGlobals "InvalidWord" = some (some (.ref c_InvalidWord)))
    (xc_InvalidWord : ∃ nm q N bs sn sub ab col dd k0 k1 k2 k3 k5, K.lookup c_InvalidWord = some (excClassObj nm q c_InvalidWord N bs [.ref c_CoreError, .type "ValueError", .type "Exception", .type "BaseException", .type "object"] true sn sub ab col dd k0 k1 k2 k3 k5 "ValueError.__new__"))
    (xs_InvalidWord : PySem.W.findIn K (.ref c_InvalidWord) "__setattr__" = some (some (.builtin "object.__setattr__")))
    (xb_InvalidWord : PySem.W.subIn K (.ref c_InvalidWord) (.type "BaseException") = some true)
    (xy_InvalidWord : PySem.W.typeIn K (.ref c_InvalidWord) = some (.type "type"))
    (xk_InvalidWord : PySem.W.keepIn K (.ref c_InvalidWord) = true)
    (xi_InvalidWord : PySem.W.findIn K (.ref c_InvalidWord) "__init__" = some (some (.ref f_CoreError___init__)))
    (xn_InvalidWord_value : PySem.W.findIn K (.ref c_InvalidWord) "value" = some none)
    (a_InvalidPlace : PySem.W.nsIn K mainGlobals "InvalidPlace" = some (some (.ref c_InvalidPlace)))
    (xc_InvalidPlace : ∃ nm q N bs sn sub ab col dd k0 k1 k2 k3 k5, K.lookup c_InvalidPlace = some (excClassObj nm q c_InvalidPlace N bs [.ref c_CoreError, .type "ValueError", .type "Exception", .type "BaseException", .type "object"] true sn sub ab col dd k0 k1 k2 k3 k5 "ValueError.__new__"))
    (xs_InvalidPlace : PySem.W.findIn K (.ref c_InvalidPlace) "__setattr__" = some (some (.builtin "object.__setattr__")))
    (xb_InvalidPlace : PySem.W.subIn K (.ref c_InvalidPlace) (.type "BaseException") = some true)
    (xy_InvalidPlace : PySem.W.typeIn K (.ref c_InvalidPlace) = some (.type "type"))
    (xk_InvalidPlace : PySem.W.keepIn K (.ref c_InvalidPlace) = true)
    (xi_InvalidPlace : PySem.W.findIn K (.ref c_InvalidPlace) "__init__" = some (some (.ref f_CoreError___init__)))
    (xn_InvalidPlace_value : PySem.W.findIn K (.ref c_InvalidPlace) "value" = some none)
    (a_InvalidMany : PySem.W.nsIn K mainGlobals "InvalidMany" = some (some (.ref c_InvalidMany)))
    (xc_InvalidMany : ∃ nm q N bs sn sub ab col dd k0 k1 k2 k3 k5, K.lookup c_InvalidMany = some (excClassObj nm q c_InvalidMany N bs [.ref c_CoreError, .type "ValueError", .type "Exception", .type "BaseException", .type "object"] true sn sub ab col dd k0 k1 k2 k3 k5 "ValueError.__new__"))
    (xs_InvalidMany : PySem.W.findIn K (.ref c_InvalidMany) "__setattr__" = some (some (.builtin "object.__setattr__")))
    (xb_InvalidMany : PySem.W.subIn K (.ref c_InvalidMany) (.type "BaseException") = some true)
    (xy_InvalidMany : PySem.W.typeIn K (.ref c_InvalidMany) = some (.type "type"))
    (xk_InvalidMany : PySem.W.keepIn K (.ref c_InvalidMany) = true)
    (xi_InvalidMany : PySem.W.findIn K (.ref c_InvalidMany) "__init__" = some (some (.ref f_CoreError___init__)))
    (xn_InvalidMany_value : PySem.W.findIn K (.ref c_InvalidMany) "value" = some none)
    (a_InvalidPage : PySem.W.nsIn K mainGlobals "InvalidPage" = some (some (.ref c_InvalidPage)))
    (xc_InvalidPage : ∃ nm q N bs sn sub ab col dd k0 k1 k2 k3 k5, K.lookup c_InvalidPage = some (excClassObj nm q c_InvalidPage N bs [.ref c_CoreError, .type "ValueError", .type "Exception", .type "BaseException", .type "object"] true sn sub ab col dd k0 k1 k2 k3 k5 "ValueError.__new__"))
    (xs_InvalidPage : PySem.W.findIn K (.ref c_InvalidPage) "__setattr__" = some (some (.builtin "object.__setattr__")))
    (xb_InvalidPage : PySem.W.subIn K (.ref c_InvalidPage) (.type "BaseException") = some true)
    (xy_InvalidPage : PySem.W.typeIn K (.ref c_InvalidPage) = some (.type "type"))
    (xk_InvalidPage : PySem.W.keepIn K (.ref c_InvalidPage) = true)
    (xi_InvalidPage : PySem.W.findIn K (.ref c_InvalidPage) "__init__" = some (some (.ref f_CoreError___init__)))
    (xn_InvalidPage_value : PySem.W.findIn K (.ref c_InvalidPage) "value" = some none)
    (a_Buffer : PySem.W.nsIn K mainGlobals "Buffer" = some (some (.ref c_Buffer)))
    (pg_Buffer : PySem.W.plainGet K c_Buffer Str.empty = true)
    (hd_Buffer : PySem.W.hasDictIn K c_Buffer = true)
    (po_Buffer : PySem.W.plainOver K c_Buffer = true)
    (sa_Buffer : PySem.W.findIn K (.ref c_Buffer) "__setattr__" = some (some (.builtin "object.__setattr__")))
    (n_Buffer_own_many : PySem.W.findIn K (.ref c_Buffer) "own_many" = some none)
    (n_Buffer_own_rows : PySem.W.findIn K (.ref c_Buffer) "own_rows" = some none)
    (ia_Buffer : PySem.W.findIn K (.ref c_Buffer) "__class__" = some (some (.builtin "object.__class__")))
    (ib_Buffer : PySem.W.specialIn K (.builtin "object.__class__") "__get__" = some (some (.builtin "getset_descriptor.__get__")))
    (ic_Buffer : PySem.W.takesIn K (.builtin "object.__class__") = some true)
    (id_Buffer : PySem.W.mroIn K c_Buffer (.type "object") = some true)
    (nf_Buffer_list : PySem.W.notFirst K c_Buffer (.type "list") = true)
    (kl_Buffer_list : PySem.W.isClsIn K c_Buffer = true)
    (ky_Buffer_list : PySem.W.typeIn K (.ref c_Buffer) = some (.type "type"))
    (kz_Buffer_list : PySem.W.subIn K (.type "list") (.ref c_Buffer) = some false)
    (mk_Buffer : PySem.W.makesIn K c_Buffer = true)
    (mi_Buffer : PySem.W.findIn K (.ref c_Buffer) "__init__" = some (some (.ref f_Buffer___init__)))
    (mf_Buffer : PySem.W.isFn K (.ref f_Buffer___init__) = true)
    (kc_Buffer : PySem.W.keepIn K (.ref c_Buffer) = true)
    (l_CoreError___init__ : ∃ oc od kV dc pm an cd ct sl, d_CoreError___init__ = PySem.W.fnOf "__init__" "CoreError.__init__" (defArgs s_CoreError___init__) (defBody s_CoreError___init__) (defScope s_CoreError___init__) .none kV dc pm an cd ct ∧ K.lookup f_CoreError___init__ = some ⟨oc, od, .func d_CoreError___init__, sl⟩ ∧ PySem.W.codeIn K cd "CoreError.__init__" = true)
    (kp_CoreError___init__ : PySem.W.keepIn K (.ref f_CoreError___init__) = true)
    (xt_CoreError___init__ : PySem.W.typeIn K (.ref f_CoreError___init__) = some (.type "function"))
    (a_is_integer : PySem.W.nsIn K mainGlobals "is_integer" = some (some (.ref f_is_integer)))
    (l_is_integer : ∃ oc od kV dc pm an cd ct sl, d_is_integer = PySem.W.fnOf "is_integer" "is_integer" (defArgs s_is_integer) (defBody s_is_integer) (defScope s_is_integer) .none kV dc pm an cd ct ∧ K.lookup f_is_integer = some ⟨oc, od, .func d_is_integer, sl⟩ ∧ PySem.W.codeIn K cd "is_integer" = true)
    (kp_is_integer : PySem.W.keepIn K (.ref f_is_integer) = true)
    (a_is_count : PySem.W.nsIn K mainGlobals "is_count" = some (some (.ref f_is_count)))
    (l_is_count : ∃ oc od kV dc pm an cd ct sl, d_is_count = PySem.W.fnOf "is_count" "is_count" (defArgs s_is_count) (defBody s_is_count) (defScope s_is_count) .none kV dc pm an cd ct ∧ K.lookup f_is_count = some ⟨oc, od, .func d_is_count, sl⟩ ∧ PySem.W.codeIn K cd "is_count" = true)
    (kp_is_count : PySem.W.keepIn K (.ref f_is_count) = true)
    (a_want_many : PySem.W.nsIn K mainGlobals "want_many" = some (some (.ref f_want_many)))
    (l_want_many : ∃ oc od kV dc pm an cd ct sl, d_want_many = PySem.W.fnOf "want_many" "want_many" (defArgs s_want_many) (defBody s_want_many) (defScope s_want_many) .none kV dc pm an cd ct ∧ K.lookup f_want_many = some ⟨oc, od, .func d_want_many, sl⟩ ∧ PySem.W.codeIn K cd "want_many" = true)
    (kp_want_many : PySem.W.keepIn K (.ref f_want_many) = true)
    (a_is_word : PySem.W.nsIn K mainGlobals "is_word" = some (some (.ref f_is_word)))
    (l_is_word : ∃ oc od kV dc pm an cd ct sl, d_is_word = PySem.W.fnOf "is_word" "is_word" (defArgs s_is_word) (defBody s_is_word) (defScope s_is_word) .none kV dc pm an cd ct ∧ K.lookup f_is_word = some ⟨oc, od, .func d_is_word, sl⟩ ∧ PySem.W.codeIn K cd "is_word" = true)
    (kp_is_word : PySem.W.keepIn K (.ref f_is_word) = true)
    (a_is_place : PySem.W.nsIn K mainGlobals "is_place" = some (some (.ref f_is_place)))
    (l_is_place : ∃ oc od kV dc pm an cd ct sl, d_is_place = PySem.W.fnOf "is_place" "is_place" (defArgs s_is_place) (defBody s_is_place) (defScope s_is_place) .none kV dc pm an cd ct ∧ K.lookup f_is_place = some ⟨oc, od, .func d_is_place, sl⟩ ∧ PySem.W.codeIn K cd "is_place" = true)
    (kp_is_place : PySem.W.keepIn K (.ref f_is_place) = true)
    (a_want_word : PySem.W.nsIn K mainGlobals "want_word" = some (some (.ref f_want_word)))
    (l_want_word : ∃ oc od kV dc pm an cd ct sl, d_want_word = PySem.W.fnOf "want_word" "want_word" (defArgs s_want_word) (defBody s_want_word) (defScope s_want_word) .none kV dc pm an cd ct ∧ K.lookup f_want_word = some ⟨oc, od, .func d_want_word, sl⟩ ∧ PySem.W.codeIn K cd "want_word" = true)
    (kp_want_word : PySem.W.keepIn K (.ref f_want_word) = true)
    (a_want_place : PySem.W.nsIn K mainGlobals "want_place" = some (some (.ref f_want_place)))
    (l_want_place : ∃ oc od kV dc pm an cd ct sl, d_want_place = PySem.W.fnOf "want_place" "want_place" (defArgs s_want_place) (defBody s_want_place) (defScope s_want_place) .none kV dc pm an cd ct ∧ K.lookup f_want_place = some ⟨oc, od, .func d_want_place, sl⟩ ∧ PySem.W.codeIn K cd "want_place" = true)
    (kp_want_place : PySem.W.keepIn K (.ref f_want_place) = true)
    (a_want_kept_page : PySem.W.nsIn K mainGlobals "want_kept_page" = some (some (.ref f_want_kept_page)))
    (l_want_kept_page : ∃ oc od kV dc pm an cd ct sl, d_want_kept_page = PySem.W.fnOf "want_kept_page" "want_kept_page" (defArgs s_want_kept_page) (defBody s_want_kept_page) (defScope s_want_kept_page) .none kV dc pm an cd ct ∧ K.lookup f_want_kept_page = some ⟨oc, od, .func d_want_kept_page, sl⟩ ∧ PySem.W.codeIn K cd "want_kept_page" = true)
    (kp_want_kept_page : PySem.W.keepIn K (.ref f_want_kept_page) = true)
    (a_want_entry_place : PySem.W.nsIn K mainGlobals "want_entry_place" = some (some (.ref f_want_entry_place)))
    (l_want_entry_place : ∃ oc od kV dc pm an cd ct sl, d_want_entry_place = PySem.W.fnOf "want_entry_place" "want_entry_place" (defArgs s_want_entry_place) (defBody s_want_entry_place) (defScope s_want_entry_place) .none kV dc pm an cd ct ∧ K.lookup f_want_entry_place = some ⟨oc, od, .func d_want_entry_place, sl⟩ ∧ PySem.W.codeIn K cd "want_entry_place" = true)
    (kp_want_entry_place : PySem.W.keepIn K (.ref f_want_entry_place) = true)
    (l_Buffer___init__ : ∃ oc od kV dc pm an cd ct sl, d_Buffer___init__ = PySem.W.fnOf "__init__" "Buffer.__init__" (defArgs s_Buffer___init__) (defBody s_Buffer___init__) (defScope s_Buffer___init__) .none kV dc pm an cd ct ∧ K.lookup f_Buffer___init__ = some ⟨oc, od, .func d_Buffer___init__, sl⟩ ∧ PySem.W.codeIn K cd "Buffer.__init__" = true)
    (kp_Buffer___init__ : PySem.W.keepIn K (.ref f_Buffer___init__) = true)
    (l_Buffer_most : ∃ oc od kV dc pm an cd ct sl, d_Buffer_most = PySem.W.fnOf "most" "Buffer.most" (defArgs s_Buffer_most) (defBody s_Buffer_most) (defScope s_Buffer_most) .none kV dc pm an cd ct ∧ K.lookup f_Buffer_most = some ⟨oc, od, .func d_Buffer_most, sl⟩ ∧ PySem.W.codeIn K cd "Buffer.most" = true)
    (kp_Buffer_most : PySem.W.keepIn K (.ref f_Buffer_most) = true)
    (pa_Buffer_most : PySem.W.findIn K (.ref c_Buffer) "most" = some (some (.ref p_Buffer_most)))
    (pb_Buffer_most : PySem.W.specialIn K (.ref p_Buffer_most) "__get__" = some (some (.builtin "property.__get__")))
    (pt_Buffer_most : PySem.W.takesIn K (.ref p_Buffer_most) = some true)
    (pr_Buffer_most : ∃ rest, PySem.W.recIn K p_Buffer_most "property" = some (.ref f_Buffer_most :: rest))
    (l_Buffer_rows : ∃ oc od kV dc pm an cd ct sl, d_Buffer_rows = PySem.W.fnOf "rows" "Buffer.rows" (defArgs s_Buffer_rows) (defBody s_Buffer_rows) (defScope s_Buffer_rows) .none kV dc pm an cd ct ∧ K.lookup f_Buffer_rows = some ⟨oc, od, .func d_Buffer_rows, sl⟩ ∧ PySem.W.codeIn K cd "Buffer.rows" = true)
    (kp_Buffer_rows : PySem.W.keepIn K (.ref f_Buffer_rows) = true)
    (ma_Buffer_rows : PySem.W.findIn K (.ref c_Buffer) "rows" = some (some (.ref f_Buffer_rows)))
    (mb_Buffer_rows : PySem.W.isFn K (.ref f_Buffer_rows) = true)
    (l_Buffer_found : ∃ oc od kV dc pm an cd ct sl, d_Buffer_found = PySem.W.fnOf "found" "Buffer.found" (defArgs s_Buffer_found) (defBody s_Buffer_found) (defScope s_Buffer_found) .none kV dc pm an cd ct ∧ K.lookup f_Buffer_found = some ⟨oc, od, .func d_Buffer_found, sl⟩ ∧ PySem.W.codeIn K cd "Buffer.found" = true)
    (kp_Buffer_found : PySem.W.keepIn K (.ref f_Buffer_found) = true)
    (ma_Buffer_found : PySem.W.findIn K (.ref c_Buffer) "found" = some (some (.ref f_Buffer_found)))
    (mb_Buffer_found : PySem.W.isFn K (.ref f_Buffer_found) = true)
    (l_Buffer_entered : ∃ oc od kV dc pm an cd ct sl, d_Buffer_entered = PySem.W.fnOf "entered" "Buffer.entered" (defArgs s_Buffer_entered) (defBody s_Buffer_entered) (defScope s_Buffer_entered) .none kV dc pm an cd ct ∧ K.lookup f_Buffer_entered = some ⟨oc, od, .func d_Buffer_entered, sl⟩ ∧ PySem.W.codeIn K cd "Buffer.entered" = true)
    (kp_Buffer_entered : PySem.W.keepIn K (.ref f_Buffer_entered) = true)
    (ma_Buffer_entered : PySem.W.findIn K (.ref c_Buffer) "entered" = some (some (.ref f_Buffer_entered)))
    (mb_Buffer_entered : PySem.W.isFn K (.ref f_Buffer_entered) = true)
    (l_Buffer_stored : ∃ oc od kV dc pm an cd ct sl, d_Buffer_stored = PySem.W.fnOf "stored" "Buffer.stored" (defArgs s_Buffer_stored) (defBody s_Buffer_stored) (defScope s_Buffer_stored) .none kV dc pm an cd ct ∧ K.lookup f_Buffer_stored = some ⟨oc, od, .func d_Buffer_stored, sl⟩ ∧ PySem.W.codeIn K cd "Buffer.stored" = true)
    (kp_Buffer_stored : PySem.W.keepIn K (.ref f_Buffer_stored) = true)
    (ma_Buffer_stored : PySem.W.findIn K (.ref c_Buffer) "stored" = some (some (.ref f_Buffer_stored)))
    (mb_Buffer_stored : PySem.W.isFn K (.ref f_Buffer_stored) = true)
    (l_Buffer_out : ∃ oc od kV dc pm an cd ct sl, d_Buffer_out = PySem.W.fnOf "out" "Buffer.out" (defArgs s_Buffer_out) (defBody s_Buffer_out) (defScope s_Buffer_out) .none kV dc pm an cd ct ∧ K.lookup f_Buffer_out = some ⟨oc, od, .func d_Buffer_out, sl⟩ ∧ PySem.W.codeIn K cd "Buffer.out" = true)
    (kp_Buffer_out : PySem.W.keepIn K (.ref f_Buffer_out) = true)
    (ma_Buffer_out : PySem.W.findIn K (.ref c_Buffer) "out" = some (some (.ref f_Buffer_out)))
    (mb_Buffer_out : PySem.W.isFn K (.ref f_Buffer_out) = true)
    (l_Buffer_cleared : ∃ oc od kV dc pm an cd ct sl, d_Buffer_cleared = PySem.W.fnOf "cleared" "Buffer.cleared" (defArgs s_Buffer_cleared) (defBody s_Buffer_cleared) (defScope s_Buffer_cleared) .none kV dc pm an cd ct ∧ K.lookup f_Buffer_cleared = some ⟨oc, od, .func d_Buffer_cleared, sl⟩ ∧ PySem.W.codeIn K cd "Buffer.cleared" = true)
    (kp_Buffer_cleared : PySem.W.keepIn K (.ref f_Buffer_cleared) = true)
    (ma_Buffer_cleared : PySem.W.findIn K (.ref c_Buffer) "cleared" = some (some (.ref f_Buffer_cleared)))
    (mb_Buffer_cleared : PySem.W.isFn K (.ref f_Buffer_cleared) = true)
    (l_Buffer_copy : ∃ oc od kV dc pm an cd ct sl, d_Buffer_copy = PySem.W.fnOf "copy" "Buffer.copy" (defArgs s_Buffer_copy) (defBody s_Buffer_copy) (defScope s_Buffer_copy) .none kV dc pm an cd ct ∧ K.lookup f_Buffer_copy = some ⟨oc, od, .func d_Buffer_copy, sl⟩ ∧ PySem.W.codeIn K cd "Buffer.copy" = true)
    (kp_Buffer_copy : PySem.W.keepIn K (.ref f_Buffer_copy) = true)
    (ma_Buffer_copy : PySem.W.findIn K (.ref c_Buffer) "copy" = some (some (.ref f_Buffer_copy)))
    (mb_Buffer_copy : PySem.W.isFn K (.ref f_Buffer_copy) = true)
    (l_Buffer___eq__ : ∃ oc od kV dc pm an cd ct sl, d_Buffer___eq__ = PySem.W.fnOf "__eq__" "Buffer.__eq__" (defArgs s_Buffer___eq__) (defBody s_Buffer___eq__) (defScope s_Buffer___eq__) .none kV dc pm an cd ct ∧ K.lookup f_Buffer___eq__ = some ⟨oc, od, .func d_Buffer___eq__, sl⟩ ∧ PySem.W.codeIn K cd "Buffer.__eq__" = true)
    (kp_Buffer___eq__ : PySem.W.keepIn K (.ref f_Buffer___eq__) = true)
    (ma_Buffer___eq__ : PySem.W.findIn K (.ref c_Buffer) "__eq__" = some (some (.ref f_Buffer___eq__)))
    (mb_Buffer___eq__ : PySem.W.isFn K (.ref f_Buffer___eq__) = true)
    (a_entry_kept : PySem.W.nsIn K mainGlobals "entry_kept" = some (some (.ref f_entry_kept)))
    (l_entry_kept : ∃ oc od kV dc pm an cd ct sl, d_entry_kept = PySem.W.fnOf "entry_kept" "entry_kept" (defArgs s_entry_kept) (defBody s_entry_kept) (defScope s_entry_kept) .none kV dc pm an cd ct ∧ K.lookup f_entry_kept = some ⟨oc, od, .func d_entry_kept, sl⟩ ∧ PySem.W.codeIn K cd "entry_kept" = true)
    (kp_entry_kept : PySem.W.keepIn K (.ref f_entry_kept) = true)
    (a__law_pot : PySem.W.nsIn K mainGlobals "_law_pot" = some (some (.ref f__law_pot)))
    (l__law_pot : ∃ oc od kV dc pm an cd ct sl, d__law_pot = PySem.W.fnOf "_law_pot" "_law_pot" (defArgs s__law_pot) (defBody s__law_pot) (defScope s__law_pot) .none kV dc pm an cd ct ∧ K.lookup f__law_pot = some ⟨oc, od, .func d__law_pot, sl⟩ ∧ PySem.W.codeIn K cd "_law_pot" = true)
    (kp__law_pot : PySem.W.keepIn K (.ref f__law_pot) = true)
    (a__law_draw : PySem.W.nsIn K mainGlobals "_law_draw" = some (some (.ref f__law_draw)))
    (l__law_draw : ∃ oc od kV dc pm an cd ct sl, d__law_draw = PySem.W.fnOf "_law_draw" "_law_draw" (defArgs s__law_draw) (defBody s__law_draw) (defScope s__law_draw) .none kV dc pm an cd ct ∧ K.lookup f__law_draw = some ⟨oc, od, .func d__law_draw, sl⟩ ∧ PySem.W.codeIn K cd "_law_draw" = true)
    (kp__law_draw : PySem.W.keepIn K (.ref f__law_draw) = true)
    (a__law_deed_right : PySem.W.nsIn K mainGlobals "_law_deed_right" = some (some (.ref f__law_deed_right)))
    (l__law_deed_right : ∃ oc od kV dc pm an cd ct sl, d__law_deed_right = PySem.W.fnOf "_law_deed_right" "_law_deed_right" (defArgs s__law_deed_right) (defBody s__law_deed_right) (defScope s__law_deed_right) .none kV dc pm an cd ct ∧ K.lookup f__law_deed_right = some ⟨oc, od, .func d__law_deed_right, sl⟩ ∧ PySem.W.codeIn K cd "_law_deed_right" = true)
    (kp__law_deed_right : PySem.W.keepIn K (.ref f__law_deed_right) = true)
    (a__law_right : PySem.W.nsIn K mainGlobals "_law_right" = some (some (.ref f__law_right)))
    (l__law_right : ∃ oc od kV dc pm an cd ct sl, d__law_right = PySem.W.fnOf "_law_right" "_law_right" (defArgs s__law_right) (defBody s__law_right) (defScope s__law_right) .none kV dc pm an cd ct ∧ K.lookup f__law_right = some ⟨oc, od, .func d__law_right, sl⟩ ∧ PySem.W.codeIn K cd "_law_right" = true)
    (kp__law_right : PySem.W.keepIn K (.ref f__law_right) = true)
    (a_law : PySem.W.nsIn K mainGlobals "law" = some (some (.ref f_law)))
    (l_law : ∃ oc od kV dc pm an cd ct sl, d_law = PySem.W.fnOf "law" "law" (defArgs s_law) (defBody s_law) (defScope s_law) .none kV dc pm an cd ct ∧ K.lookup f_law = some ⟨oc, od, .func d_law, sl⟩ ∧ PySem.W.codeIn K cd "law" = true)
    (kp_law : PySem.W.keepIn K (.ref f_law) = true)
    (z_abs : PySem.W.nsIn K mainGlobals "abs" = some none)
    (z_bool : PySem.W.nsIn K mainGlobals "bool" = some none)
    (z_divmod : PySem.W.nsIn K mainGlobals "divmod" = some none)
    (z_int : PySem.W.nsIn K mainGlobals "int" = some none)
    (z_isinstance : PySem.W.nsIn K mainGlobals "isinstance" = some none)
    (z_len : PySem.W.nsIn K mainGlobals "len" = some none)
    (z_list : PySem.W.nsIn K mainGlobals "list" = some none)
    (z_max : PySem.W.nsIn K mainGlobals "max" = some none)
    (z_range : PySem.W.nsIn K mainGlobals "range" = some none)
    (v_MOST_WORD : PySem.W.nsIn K mainGlobals "MOST_WORD" = some (some (.int 65536 t_MOST_WORD)))
    (v_MOST_PLACE : PySem.W.nsIn K mainGlobals "MOST_PLACE" = some (some (.int 1024 t_MOST_PLACE)))
    (v_MEMORY_END : PySem.W.nsIn K mainGlobals "MEMORY_END" = some (some (.int 960 t_MEMORY_END)))
    (v_MOST_ENTRIES : PySem.W.nsIn K mainGlobals "MOST_ENTRIES" = some (some (.int 16 t_MOST_ENTRIES)))
    (v_MOST_KEPT_PAGE : PySem.W.nsIn K mainGlobals "MOST_KEPT_PAGE" = some (some (.int 256 t_MOST_KEPT_PAGE)))
    : ∃ fd : FuncData, (∀ (s : Shared) (v : Value), BindsTo s fd ⟨[v], []⟩ [("_law_script", v)]) ∧ ∀ base : Heap, K.In base → base.Ns mainGlobals mg → FnOk l.prog w K mg base (L2.CX l.prog w) 10 fa fd ["_law_script"] (sp_law K) := by
  have T : Txt K mg ⟨f_CoreError___init__, d_CoreError___init__, f_is_integer, d_is_integer, f_is_count, d_is_count, f_want_many, d_want_many, f_is_word, d_is_word, f_is_place, d_is_place, f_want_word, d_want_word, f_want_place, d_want_place, f_want_kept_page, d_want_kept_page, f_want_entry_place, d_want_entry_place, f_Buffer___init__, d_Buffer___init__, f_Buffer_most, d_Buffer_most, p_Buffer_most, f_Buffer_rows, d_Buffer_rows, f_Buffer_found, d_Buffer_found, f_Buffer_entered, d_Buffer_entered, f_Buffer_stored, d_Buffer_stored, f_Buffer_out, d_Buffer_out, f_Buffer_cleared, d_Buffer_cleared, f_Buffer_copy, d_Buffer_copy, f_Buffer___eq__, d_Buffer___eq__, f_entry_kept, d_entry_kept, f__law_pot, d__law_pot, f__law_draw, d__law_draw, f__law_deed_right, d__law_deed_right, f__law_right, d__law_right, f_law, d_law, c_CoreError, c_InvalidWord, c_InvalidPlace, c_InvalidMany, c_InvalidPage, c_Buffer, t_MOST_WORD, t_MOST_PLACE, t_MEMORY_END, t_MOST_ENTRIES, t_MOST_KEPT_PAGE⟩ := {
    g_CoreError := PySem.W.mg_of X G a_CoreError,
    x_CoreError := (by obtain ⟨nm, q, N, bs, sn, sub, ab, col, dd, k0, k1, k2, k3, k5, e⟩ := xc_CoreError; exact ⟨⟨nm, q, N, bs, _, sn, sub, ab, col, dd, k0, k1, k2, k3, k5, e, by simp [PySem.HandSPX.refsVE]⟩, xs_CoreError, xb_CoreError, xy_CoreError, xk_CoreError⟩),
    xi_CoreError := xi_CoreError,
    xn_CoreError_value := xn_CoreError_value,
    g_InvalidWord := PySem.W.mg_of X G a_InvalidWord,
    x_InvalidWord := (by obtain ⟨nm, q, N, bs, sn, sub, ab, col, dd, k0, k1, k2, k3, k5, e⟩ := xc_InvalidWord; exact ⟨⟨nm, q, N, bs, _, sn, sub, ab, col, dd, k0, k1, k2, k3, k5, e, by simp [PySem.HandSPX.refsVE]⟩, xs_InvalidWord, xb_InvalidWord, xy_InvalidWord, xk_InvalidWord⟩),
    xi_InvalidWord := xi_InvalidWord,
    xn_InvalidWord_value := xn_InvalidWord_value,
    g_InvalidPlace := PySem.W.mg_of X G a_InvalidPlace,
    x_InvalidPlace := (by obtain ⟨nm, q, N, bs, sn, sub, ab, col, dd, k0, k1, k2, k3, k5, e⟩ := xc_InvalidPlace; exact ⟨⟨nm, q, N, bs, _, sn, sub, ab, col, dd, k0, k1, k2, k3, k5, e, by simp [PySem.HandSPX.refsVE]⟩, xs_InvalidPlace, xb_InvalidPlace, xy_InvalidPlace, xk_InvalidPlace⟩),
    xi_InvalidPlace := xi_InvalidPlace,
    xn_InvalidPlace_value := xn_InvalidPlace_value,
    g_InvalidMany := PySem.W.mg_of X G a_InvalidMany,
    x_InvalidMany := (by obtain ⟨nm, q, N, bs, sn, sub, ab, col, dd, k0, k1, k2, k3, k5, e⟩ := xc_InvalidMany; exact ⟨⟨nm, q, N, bs, _, sn, sub, ab, col, dd, k0, k1, k2, k3, k5, e, by simp [PySem.HandSPX.refsVE]⟩, xs_InvalidMany, xb_InvalidMany, xy_InvalidMany, xk_InvalidMany⟩),
    xi_InvalidMany := xi_InvalidMany,
    xn_InvalidMany_value := xn_InvalidMany_value,
    g_InvalidPage := PySem.W.mg_of X G a_InvalidPage,
    x_InvalidPage := (by obtain ⟨nm, q, N, bs, sn, sub, ab, col, dd, k0, k1, k2, k3, k5, e⟩ := xc_InvalidPage; exact ⟨⟨nm, q, N, bs, _, sn, sub, ab, col, dd, k0, k1, k2, k3, k5, e, by simp [PySem.HandSPX.refsVE]⟩, xs_InvalidPage, xb_InvalidPage, xy_InvalidPage, xk_InvalidPage⟩),
    xi_InvalidPage := xi_InvalidPage,
    xn_InvalidPage_value := xn_InvalidPage_value,
    g_Buffer := PySem.W.mg_of X G a_Buffer,
    c_Buffer := ⟨pg_Buffer, hd_Buffer, po_Buffer, sa_Buffer⟩,
    n_Buffer_own_many := n_Buffer_own_many,
    n_Buffer_own_rows := n_Buffer_own_rows,
    i_Buffer := ⟨ia_Buffer, ib_Buffer, ic_Buffer, id_Buffer⟩,
    is_Buffer := (by simp [PySem.W.notFirst]),
    io_Buffer := (by simp [PySem.W.kitOne]),
    nf_Buffer_list := nf_Buffer_list,
    ko_Buffer_list := (kit_own kl_Buffer_list ky_Buffer_list kz_Buffer_list),
    k_Buffer := ⟨mk_Buffer, mi_Buffer, mf_Buffer, kc_Buffer⟩,
    F_CoreError___init__ := ⟨l_CoreError___init__, kp_CoreError___init__⟩,
    b_CoreError___init__ := (Fun.binds (st := s_CoreError___init__) ⟨l_CoreError___init__, kp_CoreError___init__⟩ fun _ _ _ _ _ _ us hl => match us, hl with | [_, _], _ => rfl),
    xt_CoreError___init__ := xt_CoreError___init__,
    m_is_integer := PySem.W.mg_of X G a_is_integer,
    F_is_integer := ⟨l_is_integer, kp_is_integer⟩,
    b_is_integer := (Fun.binds (st := s_is_integer) ⟨l_is_integer, kp_is_integer⟩ fun _ _ _ _ _ _ us hl => match us, hl with | [_], _ => rfl),
    m_is_count := PySem.W.mg_of X G a_is_count,
    F_is_count := ⟨l_is_count, kp_is_count⟩,
    b_is_count := (Fun.binds (st := s_is_count) ⟨l_is_count, kp_is_count⟩ fun _ _ _ _ _ _ us hl => match us, hl with | [_], _ => rfl),
    m_want_many := PySem.W.mg_of X G a_want_many,
    F_want_many := ⟨l_want_many, kp_want_many⟩,
    b_want_many := (Fun.binds (st := s_want_many) ⟨l_want_many, kp_want_many⟩ fun _ _ _ _ _ _ us hl => match us, hl with | [_, _, _], _ => rfl),
    m_is_word := PySem.W.mg_of X G a_is_word,
    F_is_word := ⟨l_is_word, kp_is_word⟩,
    b_is_word := (Fun.binds (st := s_is_word) ⟨l_is_word, kp_is_word⟩ fun _ _ _ _ _ _ us hl => match us, hl with | [_], _ => rfl),
    m_is_place := PySem.W.mg_of X G a_is_place,
    F_is_place := ⟨l_is_place, kp_is_place⟩,
    b_is_place := (Fun.binds (st := s_is_place) ⟨l_is_place, kp_is_place⟩ fun _ _ _ _ _ _ us hl => match us, hl with | [_], _ => rfl),
    m_want_word := PySem.W.mg_of X G a_want_word,
    F_want_word := ⟨l_want_word, kp_want_word⟩,
    b_want_word := (Fun.binds (st := s_want_word) ⟨l_want_word, kp_want_word⟩ fun _ _ _ _ _ _ us hl => match us, hl with | [_], _ => rfl),
    m_want_place := PySem.W.mg_of X G a_want_place,
    F_want_place := ⟨l_want_place, kp_want_place⟩,
    b_want_place := (Fun.binds (st := s_want_place) ⟨l_want_place, kp_want_place⟩ fun _ _ _ _ _ _ us hl => match us, hl with | [_], _ => rfl),
    m_want_kept_page := PySem.W.mg_of X G a_want_kept_page,
    F_want_kept_page := ⟨l_want_kept_page, kp_want_kept_page⟩,
    b_want_kept_page := (Fun.binds (st := s_want_kept_page) ⟨l_want_kept_page, kp_want_kept_page⟩ fun _ _ _ _ _ _ us hl => match us, hl with | [_], _ => rfl),
    m_want_entry_place := PySem.W.mg_of X G a_want_entry_place,
    F_want_entry_place := ⟨l_want_entry_place, kp_want_entry_place⟩,
    b_want_entry_place := (Fun.binds (st := s_want_entry_place) ⟨l_want_entry_place, kp_want_entry_place⟩ fun _ _ _ _ _ _ us hl => match us, hl with | [_], _ => rfl),
    F_Buffer___init__ := ⟨l_Buffer___init__, kp_Buffer___init__⟩,
    b_Buffer___init__ := (Fun.binds (st := s_Buffer___init__) ⟨l_Buffer___init__, kp_Buffer___init__⟩ fun _ _ _ _ _ _ us hl => match us, hl with | [_, _], _ => rfl),
    F_Buffer_most := ⟨l_Buffer_most, kp_Buffer_most⟩,
    b_Buffer_most := (Fun.binds (st := s_Buffer_most) ⟨l_Buffer_most, kp_Buffer_most⟩ fun _ _ _ _ _ _ us hl => match us, hl with | [_], _ => rfl),
    p_Buffer_most := ⟨pa_Buffer_most, pb_Buffer_most, pt_Buffer_most, pr_Buffer_most⟩,
    F_Buffer_rows := ⟨l_Buffer_rows, kp_Buffer_rows⟩,
    b_Buffer_rows := (Fun.binds (st := s_Buffer_rows) ⟨l_Buffer_rows, kp_Buffer_rows⟩ fun _ _ _ _ _ _ us hl => match us, hl with | [_], _ => rfl),
    M_Buffer_rows := ⟨ma_Buffer_rows, mb_Buffer_rows, kp_Buffer_rows⟩,
    F_Buffer_found := ⟨l_Buffer_found, kp_Buffer_found⟩,
    b_Buffer_found := (Fun.binds (st := s_Buffer_found) ⟨l_Buffer_found, kp_Buffer_found⟩ fun _ _ _ _ _ _ us hl => match us, hl with | [_, _], _ => rfl),
    M_Buffer_found := ⟨ma_Buffer_found, mb_Buffer_found, kp_Buffer_found⟩,
    F_Buffer_entered := ⟨l_Buffer_entered, kp_Buffer_entered⟩,
    b_Buffer_entered := (Fun.binds (st := s_Buffer_entered) ⟨l_Buffer_entered, kp_Buffer_entered⟩ fun _ _ _ _ _ _ us hl => match us, hl with | [_, _, _, _, _], _ => rfl),
    M_Buffer_entered := ⟨ma_Buffer_entered, mb_Buffer_entered, kp_Buffer_entered⟩,
    F_Buffer_stored := ⟨l_Buffer_stored, kp_Buffer_stored⟩,
    b_Buffer_stored := (Fun.binds (st := s_Buffer_stored) ⟨l_Buffer_stored, kp_Buffer_stored⟩ fun _ _ _ _ _ _ us hl => match us, hl with | [_, _], _ => rfl),
    M_Buffer_stored := ⟨ma_Buffer_stored, mb_Buffer_stored, kp_Buffer_stored⟩,
    F_Buffer_out := ⟨l_Buffer_out, kp_Buffer_out⟩,
    b_Buffer_out := (Fun.binds (st := s_Buffer_out) ⟨l_Buffer_out, kp_Buffer_out⟩ fun _ _ _ _ _ _ us hl => match us, hl with | [_, _], _ => rfl),
    M_Buffer_out := ⟨ma_Buffer_out, mb_Buffer_out, kp_Buffer_out⟩,
    F_Buffer_cleared := ⟨l_Buffer_cleared, kp_Buffer_cleared⟩,
    b_Buffer_cleared := (Fun.binds (st := s_Buffer_cleared) ⟨l_Buffer_cleared, kp_Buffer_cleared⟩ fun _ _ _ _ _ _ us hl => match us, hl with | [_], _ => rfl),
    M_Buffer_cleared := ⟨ma_Buffer_cleared, mb_Buffer_cleared, kp_Buffer_cleared⟩,
    F_Buffer_copy := ⟨l_Buffer_copy, kp_Buffer_copy⟩,
    b_Buffer_copy := (Fun.binds (st := s_Buffer_copy) ⟨l_Buffer_copy, kp_Buffer_copy⟩ fun _ _ _ _ _ _ us hl => match us, hl with | [_], _ => rfl),
    M_Buffer_copy := ⟨ma_Buffer_copy, mb_Buffer_copy, kp_Buffer_copy⟩,
    F_Buffer___eq__ := ⟨l_Buffer___eq__, kp_Buffer___eq__⟩,
    b_Buffer___eq__ := (Fun.binds (st := s_Buffer___eq__) ⟨l_Buffer___eq__, kp_Buffer___eq__⟩ fun _ _ _ _ _ _ us hl => match us, hl with | [_, _], _ => rfl),
    M_Buffer___eq__ := ⟨ma_Buffer___eq__, mb_Buffer___eq__, kp_Buffer___eq__⟩,
    m_entry_kept := PySem.W.mg_of X G a_entry_kept,
    F_entry_kept := ⟨l_entry_kept, kp_entry_kept⟩,
    b_entry_kept := (Fun.binds (st := s_entry_kept) ⟨l_entry_kept, kp_entry_kept⟩ fun _ _ _ _ _ _ us hl => match us, hl with | [_, _], _ => rfl),
    m__law_pot := PySem.W.mg_of X G a__law_pot,
    F__law_pot := ⟨l__law_pot, kp__law_pot⟩,
    b__law_pot := (Fun.binds (st := s__law_pot) ⟨l__law_pot, kp__law_pot⟩ fun _ _ _ _ _ _ us hl => match us, hl with | [_, _], _ => rfl),
    m__law_draw := PySem.W.mg_of X G a__law_draw,
    F__law_draw := ⟨l__law_draw, kp__law_draw⟩,
    b__law_draw := (Fun.binds (st := s__law_draw) ⟨l__law_draw, kp__law_draw⟩ fun _ _ _ _ _ _ us hl => match us, hl with | [_, _], _ => rfl),
    m__law_deed_right := PySem.W.mg_of X G a__law_deed_right,
    F__law_deed_right := ⟨l__law_deed_right, kp__law_deed_right⟩,
    b__law_deed_right := (Fun.binds (st := s__law_deed_right) ⟨l__law_deed_right, kp__law_deed_right⟩ fun _ _ _ _ _ _ us hl => match us, hl with | [_, _, _, _], _ => rfl),
    m__law_right := PySem.W.mg_of X G a__law_right,
    F__law_right := ⟨l__law_right, kp__law_right⟩,
    b__law_right := (Fun.binds (st := s__law_right) ⟨l__law_right, kp__law_right⟩ fun _ _ _ _ _ _ us hl => match us, hl with | [_], _ => rfl),
    m_law := PySem.W.mg_of X G a_law,
    F_law := ⟨l_law, kp_law⟩,
    b_law := (Fun.binds (st := s_law) ⟨l_law, kp_law⟩ fun _ _ _ _ _ _ us hl => match us, hl with | [_], _ => rfl),
    kb_Buffer___init___1_many := (kbn_of (st := s_Buffer___init__) ⟨l_Buffer___init__, kp_Buffer___init__⟩ (fun _ _ _ _ _ _ us ws h1 h2 => match us, h1, ws, h2 with | [_], _, [_], _ => rfl) (fun r1 r2 => .cons (vals_getD r1 0) (.cons (vals_getD r2 0) (.nil)))),
    kb_Buffer_entered_1_word_second_first_page := (kbn_of (st := s_Buffer_entered) ⟨l_Buffer_entered, kp_Buffer_entered⟩ (fun _ _ _ _ _ _ us ws h1 h2 => match us, h1, ws, h2 with | [_], _, [_, _, _, _], _ => rfl) (fun r1 r2 => .cons (vals_getD r1 0) (.cons (vals_getD r2 3) (.cons (vals_getD r2 2) (.cons (vals_getD r2 1) (.cons (vals_getD r2 0) (.nil))))))),
    kb_Buffer_found_1_page := (kbn_of (st := s_Buffer_found) ⟨l_Buffer_found, kp_Buffer_found⟩ (fun _ _ _ _ _ _ us ws h1 h2 => match us, h1, ws, h2 with | [_], _, [_], _ => rfl) (fun r1 r2 => .cons (vals_getD r1 0) (.cons (vals_getD r2 0) (.nil)))),
    z_abs := PySem.W.mg_none_of X G z_abs,
    z_bool := PySem.W.mg_none_of X G z_bool,
    z_divmod := PySem.W.mg_none_of X G z_divmod,
    z_int := PySem.W.mg_none_of X G z_int,
    z_isinstance := PySem.W.mg_none_of X G z_isinstance,
    z_len := PySem.W.mg_none_of X G z_len,
    z_list := PySem.W.mg_none_of X G z_list,
    z_max := PySem.W.mg_none_of X G z_max,
    z_range := PySem.W.mg_none_of X G z_range,
    v_MOST_WORD := PySem.W.mg_of X G v_MOST_WORD,
    v_MOST_PLACE := PySem.W.mg_of X G v_MOST_PLACE,
    v_MEMORY_END := PySem.W.mg_of X G v_MEMORY_END,
    v_MOST_ENTRIES := PySem.W.mg_of X G v_MOST_ENTRIES,
    v_MOST_KEPT_PAGE := PySem.W.mg_of X G v_MOST_KEPT_PAGE }
  have e := hfa.symm.trans T.m_law
  cases e
  refine ⟨d_law, fun s v => ?_, fun base _ _ => ok_law T⟩
  obtain ⟨oc, od, kV, dc, pm, an, cd, ct, sl, e, _, _⟩ := l_law
  rw [e]
  exact .of_eq rfl
theorem walk {l : PySem.W.OpenLaw} {q : Program} {loose : List Str} {XP : (Str → Option Value) → Heap → Prop} {YP : World → Heap → Prop} {d : DefRec} {K : Params → PySem.W.Frag} (hn : l.most = some 63) (hdf : d.params.defaults = [])
    (hY : ∀ (w : World) (h : Heap), YP w h → (K w.params).In h)
    (F : ∀ (w : World) (mg : Str → Option Value) (fa : Addr) (h : Heap), (K w.params).In h → h.Ns mainGlobals mg → mg d.name = some (.ref fa) →
      ∃ fd : FuncData, (∀ (s : Shared) (u : Value), BindsTo s fd ⟨[u], []⟩ [("_law_script", u)]) ∧ ∀ base : Heap, (K w.params).In base → base.Ns mainGlobals mg → FnOk l.prog w (K w.params) mg base (L2.CX l.prog w) 10 fa fd ["_law_script"] (sp_law (K w.params))) :
    PySem.W.WalkO q loose XP YP l.row.toRowW d [] (fun f vs => PySem.call f vs) :=
  L2.walk_of (n := 63) (k := 10) (x := "_law_script") (CX := fun w => L2.CX l.prog w) (sp := fun w => sp_law (K w.params)) hn (by decide) hdf ⟨rfl, by decide, by decide⟩ hY F (fun _ _ a ns hl _ hS => ⟨a, ns, rfl, hS, hl, fun _ => rfl⟩) fun w H s e s' z => (by
    obtain ⟨_, _, _, _, _, _, _, _, _, _, _, _, z⟩ := z
    exact z)
end Toy
open PySem PySem.W PyProof.Rows
set_option maxRecDepth 100000 in
set_option maxHeartbeats 0 in
theorem PySem.Challenge.cw_orderlycore_k56_whole_the_buffer_by_an_o_holds : PySem.Challenge.rw_orderlycore_k56_whole_the_buffer_by_an_o.Holds := by
  w_on; o_law; k_head; (case hw => w_witness2)
  k_fill
  refine Toy.walk (l := PySem.Challenge.rw_orderlycore_k56_whole_the_buffer_by_an_o) rfl rfl (fun w h Y => PySem.W.kIn_of Y) ?F
  case F =>
    intro w mg fa h KX G hmg
    refine' Toy.all_mk KX G hmg ?a_CoreError ?xc_CoreError ?xs_CoreError ?xb_CoreError ?xy_CoreError ?xk_CoreError ?xi_CoreError ?xn_CoreError_value ?a_InvalidWord ?xc_InvalidWord ?xs_InvalidWord ?xb_InvalidWord ?xy_InvalidWord ?xk_InvalidWord ?xi_InvalidWord ?xn_InvalidWord_value ?a_InvalidPlace ?xc_InvalidPlace ?xs_InvalidPlace ?xb_InvalidPlace ?xy_InvalidPlace ?xk_InvalidPlace ?xi_InvalidPlace ?xn_InvalidPlace_value ?a_InvalidMany ?xc_InvalidMany ?xs_InvalidMany ?xb_InvalidMany ?xy_InvalidMany ?xk_InvalidMany ?xi_InvalidMany ?xn_InvalidMany_value ?a_InvalidPage ?xc_InvalidPage ?xs_InvalidPage ?xb_InvalidPage ?xy_InvalidPage ?xk_InvalidPage ?xi_InvalidPage ?xn_InvalidPage_value ?a_Buffer ?pg_Buffer ?hd_Buffer ?po_Buffer ?sa_Buffer ?n_Buffer_own_many ?n_Buffer_own_rows ?ia_Buffer ?ib_Buffer ?ic_Buffer ?id_Buffer ?nf_Buffer_list ?kl_Buffer_list ?ky_Buffer_list ?kz_Buffer_list ?mk_Buffer ?mi_Buffer ?mf_Buffer ?kc_Buffer ?l_CoreError___init__ ?kp_CoreError___init__ ?xt_CoreError___init__ ?a_is_integer ?l_is_integer ?kp_is_integer ?a_is_count ?l_is_count ?kp_is_count ?a_want_many ?l_want_many ?kp_want_many ?a_is_word ?l_is_word ?kp_is_word ?a_is_place ?l_is_place ?kp_is_place ?a_want_word ?l_want_word ?kp_want_word ?a_want_place ?l_want_place ?kp_want_place ?a_want_kept_page ?l_want_kept_page ?kp_want_kept_page ?a_want_entry_place ?l_want_entry_place ?kp_want_entry_place ?l_Buffer___init__ ?kp_Buffer___init__ ?l_Buffer_most ?kp_Buffer_most ?pa_Buffer_most ?pb_Buffer_most ?pt_Buffer_most ?pr_Buffer_most ?l_Buffer_rows ?kp_Buffer_rows ?ma_Buffer_rows ?mb_Buffer_rows ?l_Buffer_found ?kp_Buffer_found ?ma_Buffer_found ?mb_Buffer_found ?l_Buffer_entered ?kp_Buffer_entered ?ma_Buffer_entered ?mb_Buffer_entered ?l_Buffer_stored ?kp_Buffer_stored ?ma_Buffer_stored ?mb_Buffer_stored ?l_Buffer_out ?kp_Buffer_out ?ma_Buffer_out ?mb_Buffer_out ?l_Buffer_cleared ?kp_Buffer_cleared ?ma_Buffer_cleared ?mb_Buffer_cleared ?l_Buffer_copy ?kp_Buffer_copy ?ma_Buffer_copy ?mb_Buffer_copy ?l_Buffer___eq__ ?kp_Buffer___eq__ ?ma_Buffer___eq__ ?mb_Buffer___eq__ ?a_entry_kept ?l_entry_kept ?kp_entry_kept ?a__law_pot ?l__law_pot ?kp__law_pot ?a__law_draw ?l__law_draw ?kp__law_draw ?a__law_deed_right ?l__law_deed_right ?kp__law_deed_right ?a__law_right ?l__law_right ?kp__law_right ?a_law ?l_law ?kp_law ?z_abs ?z_bool ?z_divmod ?z_int ?z_isinstance ?z_len ?z_list ?z_max ?z_range ?v_MOST_WORD ?v_MOST_PLACE ?v_MEMORY_END ?v_MOST_ENTRIES ?v_MOST_KEPT_PAGE
    (case a_CoreError => k_is)
    (case xs_CoreError => k_is)
    (case xb_CoreError => k_is)
    (case xy_CoreError => k_is)
    (case xk_CoreError => k_is)
    (case xi_CoreError => k_is)
    (case xn_CoreError_value => k_is)
    (case a_InvalidWord => k_is)
    (case xs_InvalidWord => k_is)
    (case xb_InvalidWord => k_is)
    (case xy_InvalidWord => k_is)
    (case xk_InvalidWord => k_is)
    (case xi_InvalidWord => k_is)
    (case xn_InvalidWord_value => k_is)
    (case a_InvalidPlace => k_is)
    (case xs_InvalidPlace => k_is)
    (case xb_InvalidPlace => k_is)
    (case xy_InvalidPlace => k_is)
    (case xk_InvalidPlace => k_is)
    (case xi_InvalidPlace => k_is)
    (case xn_InvalidPlace_value => k_is)
    (case a_InvalidMany => k_is)
    (case xs_InvalidMany => k_is)
    (case xb_InvalidMany => k_is)
    (case xy_InvalidMany => k_is)
    (case xk_InvalidMany => k_is)
    (case xi_InvalidMany => k_is)
    (case xn_InvalidMany_value => k_is)
    (case a_InvalidPage => k_is)
    (case xs_InvalidPage => k_is)
    (case xb_InvalidPage => k_is)
    (case xy_InvalidPage => k_is)
    (case xk_InvalidPage => k_is)
    (case xi_InvalidPage => k_is)
    (case xn_InvalidPage_value => k_is)
    (case a_Buffer => k_is)
    (case pg_Buffer => k_is)
    (case hd_Buffer => k_is)
    (case po_Buffer => k_is)
    (case sa_Buffer => k_is)
    (case n_Buffer_own_many => k_is)
    (case n_Buffer_own_rows => k_is)
    (case ia_Buffer => k_is)
    (case ib_Buffer => k_is)
    (case ic_Buffer => k_is)
    (case id_Buffer => k_is)
    (case nf_Buffer_list => k_is)
    (case kl_Buffer_list => k_is)
    (case ky_Buffer_list => k_is)
    (case kz_Buffer_list => k_is)
    (case mk_Buffer => k_is)
    (case mi_Buffer => k_is)
    (case kc_Buffer => k_is)
    (case a_is_integer => k_is)
    (case a_is_count => k_is)
    (case a_want_many => k_is)
    (case a_is_word => k_is)
    (case a_is_place => k_is)
    (case a_want_word => k_is)
    (case a_want_place => k_is)
    (case a_want_kept_page => k_is)
    (case a_want_entry_place => k_is)
    (case pa_Buffer_most => k_is)
    (case ma_Buffer_rows => k_is)
    (case ma_Buffer_found => k_is)
    (case ma_Buffer_entered => k_is)
    (case ma_Buffer_stored => k_is)
    (case ma_Buffer_out => k_is)
    (case ma_Buffer_cleared => k_is)
    (case ma_Buffer_copy => k_is)
    (case ma_Buffer___eq__ => k_is)
    (case a_entry_kept => k_is)
    (case a__law_pot => k_is)
    (case a__law_draw => k_is)
    (case a__law_deed_right => k_is)
    (case a__law_right => k_is)
    (case a_law => k_is)
    (case z_abs => k_is)
    (case z_bool => k_is)
    (case z_divmod => k_is)
    (case z_int => k_is)
    (case z_isinstance => k_is)
    (case z_len => k_is)
    (case z_list => k_is)
    (case z_max => k_is)
    (case z_range => k_is)
    (case v_MOST_WORD => k_is)
    (case v_MOST_PLACE => k_is)
    (case v_MEMORY_END => k_is)
    (case v_MOST_ENTRIES => k_is)
    (case v_MOST_KEPT_PAGE => k_is)
    (case xc_CoreError => exact ⟨_, _, _, _, _, _, _, _, _, _, _, _, _, _, by k_is⟩)
    (case xc_InvalidWord => exact ⟨_, _, _, _, _, _, _, _, _, _, _, _, _, _, by k_is⟩)
    (case xc_InvalidPlace => exact ⟨_, _, _, _, _, _, _, _, _, _, _, _, _, _, by k_is⟩)
    (case xc_InvalidMany => exact ⟨_, _, _, _, _, _, _, _, _, _, _, _, _, _, by k_is⟩)
    (case xc_InvalidPage => exact ⟨_, _, _, _, _, _, _, _, _, _, _, _, _, _, by k_is⟩)
    (case pb_Buffer_most => k_is)
    (case pt_Buffer_most => k_is)
    (case pr_Buffer_most => exact ⟨_, by k_is⟩)
    (case mf_Buffer => k_is)
    (case l_CoreError___init__ => exact ⟨_, _, _, _, _, _, _, _, _, rfl, by k_is, by k_is⟩)
    (case kp_CoreError___init__ => k_is)
    (case xt_CoreError___init__ => k_is)
    (case l_is_integer => exact ⟨_, _, _, _, _, _, _, _, _, rfl, by k_is, by k_is⟩)
    (case kp_is_integer => k_is)
    (case l_is_count => exact ⟨_, _, _, _, _, _, _, _, _, rfl, by k_is, by k_is⟩)
    (case kp_is_count => k_is)
    (case l_want_many => exact ⟨_, _, _, _, _, _, _, _, _, rfl, by k_is, by k_is⟩)
    (case kp_want_many => k_is)
    (case l_is_word => exact ⟨_, _, _, _, _, _, _, _, _, rfl, by k_is, by k_is⟩)
    (case kp_is_word => k_is)
    (case l_is_place => exact ⟨_, _, _, _, _, _, _, _, _, rfl, by k_is, by k_is⟩)
    (case kp_is_place => k_is)
    (case l_want_word => exact ⟨_, _, _, _, _, _, _, _, _, rfl, by k_is, by k_is⟩)
    (case kp_want_word => k_is)
    (case l_want_place => exact ⟨_, _, _, _, _, _, _, _, _, rfl, by k_is, by k_is⟩)
    (case kp_want_place => k_is)
    (case l_want_kept_page => exact ⟨_, _, _, _, _, _, _, _, _, rfl, by k_is, by k_is⟩)
    (case kp_want_kept_page => k_is)
    (case l_want_entry_place => exact ⟨_, _, _, _, _, _, _, _, _, rfl, by k_is, by k_is⟩)
    (case kp_want_entry_place => k_is)
    (case l_Buffer___init__ => exact ⟨_, _, _, _, _, _, _, _, _, rfl, by k_is, by k_is⟩)
    (case kp_Buffer___init__ => k_is)
    (case l_Buffer_most => exact ⟨_, _, _, _, _, _, _, _, _, rfl, by k_is, by k_is⟩)
    (case kp_Buffer_most => k_is)
    (case l_Buffer_rows => exact ⟨_, _, _, _, _, _, _, _, _, rfl, by k_is, by k_is⟩)
    (case kp_Buffer_rows => k_is)
    (case mb_Buffer_rows => k_is)
    (case l_Buffer_found => exact ⟨_, _, _, _, _, _, _, _, _, rfl, by k_is, by k_is⟩)
    (case kp_Buffer_found => k_is)
    (case mb_Buffer_found => k_is)
    (case l_Buffer_entered => exact ⟨_, _, _, _, _, _, _, _, _, rfl, by k_is, by k_is⟩)
    (case kp_Buffer_entered => k_is)
    (case mb_Buffer_entered => k_is)
    (case l_Buffer_stored => exact ⟨_, _, _, _, _, _, _, _, _, rfl, by k_is, by k_is⟩)
    (case kp_Buffer_stored => k_is)
    (case mb_Buffer_stored => k_is)
    (case l_Buffer_out => exact ⟨_, _, _, _, _, _, _, _, _, rfl, by k_is, by k_is⟩)
    (case kp_Buffer_out => k_is)
    (case mb_Buffer_out => k_is)
    (case l_Buffer_cleared => exact ⟨_, _, _, _, _, _, _, _, _, rfl, by k_is, by k_is⟩)
    (case kp_Buffer_cleared => k_is)
    (case mb_Buffer_cleared => k_is)
    (case l_Buffer_copy => exact ⟨_, _, _, _, _, _, _, _, _, rfl, by k_is, by k_is⟩)
    (case kp_Buffer_copy => k_is)
    (case mb_Buffer_copy => k_is)
    (case l_Buffer___eq__ => exact ⟨_, _, _, _, _, _, _, _, _, rfl, by k_is, by k_is⟩)
    (case kp_Buffer___eq__ => k_is)
    (case mb_Buffer___eq__ => k_is)
    (case l_entry_kept => exact ⟨_, _, _, _, _, _, _, _, _, rfl, by k_is, by k_is⟩)
    (case kp_entry_kept => k_is)
    (case l__law_pot => exact ⟨_, _, _, _, _, _, _, _, _, rfl, by k_is, by k_is⟩)
    (case kp__law_pot => k_is)
    (case l__law_draw => exact ⟨_, _, _, _, _, _, _, _, _, rfl, by k_is, by k_is⟩)
    (case kp__law_draw => k_is)
    (case l__law_deed_right => exact ⟨_, _, _, _, _, _, _, _, _, rfl, by k_is, by k_is⟩)
    (case kp__law_deed_right => k_is)
    (case l__law_right => exact ⟨_, _, _, _, _, _, _, _, _, rfl, by k_is, by k_is⟩)
    (case kp__law_right => k_is)
    (case l_law => exact ⟨_, _, _, _, _, _, _, _, _, rfl, by k_is, by k_is⟩)
    (case kp_law => k_is)
#print axioms PySem.Challenge.cw_orderlycore_k56_whole_the_buffer_by_an_o_holds
